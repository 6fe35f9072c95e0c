import PyProof.Rows.All
import Wide.All
import OpenK.AllK
import Wide.FinOn
import HandS.ForMost
import HandS.Wide
import HandS.IsInst
import HandS.Flow
import HandS.Flt
import HandS.Defaults
import HandS.Evl
import HandS.ClsMeth
import HandS.More
import PyProof.NsCount
import HandS.Deep
import HandS.DictComp
import HandS.ListItems
import HandS.SortOrd
import HandS.WordsDict
import KE.BitLaws
import HandS.ExcOwn
import HandS.ExcInit
import HandS.ExcField
import HandS.ExcIs
import HandS.WordsExc
import HandS.ExcCtx
import HandS.HotCalls
import KE.KExcIs
import HandS.Head0
import HandS.Head1
import HandS.Head2
import HandS.HeadEnd
import HandS.HeadHook4
import HandS.Style
import HandS.WideBits
import HandS.SetBool
import HandS.SetKeys
import KE.SortData
import PySem.Challenge.RW_nestweigh_k53_parts_and_closed_trails
set_option Elab.async false
set_option linter.all false
set_option maxRecDepth 100000
set_option maxHeartbeats 4000000
/-! NwA: a program logic over plain data, on top of the hand layer: what a slot stands for (Sl), what a value stands for (Rp), what an expression, a statement does to that (EvC, EvN, EvS, EvT, DSt). -/
namespace NW
open PySem PySem.Spec PyProof.Rows L2

/-! ### data -/
inductive Dat where
  | non | bl (b : Bool) | int (i : Int) | str (x : Str)
  | lst (xs : List Dat) | tup (xs : List Dat) | dic (kvs : List (Key × Dat)) | ins (C : Addr) (fs : List (Str × Dat))

def hide (O : List Addr) (H : Hp) : Hp := fun b => if b ∈ O then none else H b
theorem hide_in {O : List Addr} {H : Hp} {b : Addr} (h : b ∈ O) : hide O H b = none := if_pos h
theorem hide_out {O : List Addr} {H : Hp} {b : Addr} (h : b ∉ O) : hide O H b = H b := if_neg h
theorem hide_some {O : List Addr} {H : Hp} {b : Addr} {o : HO} (h : hide O H b = some o) : b ∉ O ∧ H b = some o := by
  by_cases q : b ∈ O
  · rw [hide_in q] at h; cases h
  · rw [hide_out q] at h; exact ⟨q, h⟩
theorem hide_same {O : List Addr} {H : Hp} : Same (hide O H) H := fun b o h => (hide_some h).2
theorem hide_sub {O O' : List Addr} {H H' : Hp} (h : ∀ b ∈ O', b ∈ O) (e : ∀ b o, H b = some o → b ∉ O → H' b = some o) : Same (hide O H) (hide O' H') := fun b o q => by
  obtain ⟨q1, q2⟩ := hide_some q
  rw [hide_out (fun z => q1 (h b z))]
  exact e b o q2 q1
theorem hide_mono {O O' : List Addr} {H : Hp} (h : ∀ b ∈ O', b ∈ O) : Same (hide O H) (hide O' H) := hide_sub h fun _ _ q _ => q
theorem Same.sqT {K : PySem.W.Frag} {H H' : Hp} {a : Addr} {xs : List V} (e : Same H H') (h : SqT K H a xs) : SqT K H' a xs := by
  rcases h with (h | ⟨o, h⟩) | h
  · exact .inl (.inl (e _ _ h))
  · exact .inl (.inr ⟨o, e _ _ h⟩)
  · exact .inr h
theorem Same.rd {H H' : Hp} {a : Addr} {u : HO} (e : Same H H') (h : Rd H a u) : Rd H' a u := by
  rcases h with h | ⟨o, h⟩
  · exact .inl (e _ _ h)
  · exact .inr ⟨o, e _ _ h⟩

mutual
inductive Rp (K : PySem.W.Frag) (G : Hp) : V → Dat → Prop
  | non : Rp K G .non .non
  | bl (b : Bool) : Rp K G (.bl b) (.bl b)
  | int (i : Int) : Rp K G (.int i) (.int i)
  | str (x : Str) : Rp K G (.str x) (.str x)
  | lst {a : Addr} {xs : List V} {ds : List Dat} : G a = some (.lst xs) → RpA K G xs ds → Rp K G (.ref a) (.lst ds)
  | tup {a : Addr} {xs : List V} {ds : List Dat} : SqT K G a xs → RpA K G xs ds → Rp K G (.ref a) (.tup ds)
  | dic {a : Addr} {xs : List (Key × V)} {ds : List (Key × Dat)} : G a = some (.dK xs) → RpK K G xs ds → Rp K G (.ref a) (.dic ds)
  | ins {a C dx : Addr} {xs : List (Str × V)} {ds : List (Str × Dat)} : G a = some (.ins C dx xs) → RpF K G xs ds → Rp K G (.ref a) (.ins C ds)
inductive RpA (K : PySem.W.Frag) (G : Hp) : List V → List Dat → Prop
  | nil : RpA K G [] []
  | cons {v : V} {vs : List V} {d : Dat} {ds : List Dat} : Rp K G v d → RpA K G vs ds → RpA K G (v :: vs) (d :: ds)
inductive RpK (K : PySem.W.Frag) (G : Hp) : List (Key × V) → List (Key × Dat) → Prop
  | nil : RpK K G [] []
  | cons {k : Key} {v : V} {vs : List (Key × V)} {d : Dat} {ds : List (Key × Dat)} : Rp K G v d → RpK K G vs ds → RpK K G ((k, v) :: vs) ((k, d) :: ds)
inductive RpF (K : PySem.W.Frag) (G : Hp) : List (Str × V) → List (Str × Dat) → Prop
  | nil : RpF K G [] []
  | cons {k : Str} {v : V} {vs : List (Str × V)} {d : Dat} {ds : List (Str × Dat)} : Rp K G v d → RpF K G vs ds → RpF K G ((k, v) :: vs) ((k, d) :: ds)
end
section
variable {K : PySem.W.Frag} {G G' : Hp}
mutual
theorem Rp.mono (e : Same G G') : ∀ (d : Dat) (v : V), Rp K G v d → Rp K G' v d
  | .non, _, h => by cases h; exact .non
  | .bl b, _, h => by cases h; exact .bl b
  | .int b, _, h => by cases h; exact .int b
  | .str b, _, h => by cases h; exact .str b
  | .lst ds, _, h => by cases h with | lst h r => exact .lst (e _ _ h) (RpA.mono e ds _ r)
  | .tup ds, _, h => by cases h with | tup h r => exact .tup (Same.sqT e h) (RpA.mono e ds _ r)
  | .dic ds, _, h => by cases h with | dic h r => exact .dic (e _ _ h) (RpK.mono e ds _ r)
  | .ins C ds, _, h => by cases h with | ins h r => exact .ins (e _ _ h) (RpF.mono e ds _ r)
theorem RpA.mono (e : Same G G') : ∀ (ds : List Dat) (vs : List V), RpA K G vs ds → RpA K G' vs ds
  | [], _, h => by cases h; exact .nil
  | d :: ds, _, h => by cases h with | cons r t => exact .cons (Rp.mono e d _ r) (RpA.mono e ds _ t)
theorem RpK.mono (e : Same G G') : ∀ (ds : List (Key × Dat)) (vs : List (Key × V)), RpK K G vs ds → RpK K G' vs ds
  | [], _, h => by cases h; exact .nil
  | (k, d) :: ds, _, h => by cases h with | cons r t => exact .cons (Rp.mono e d _ r) (RpK.mono e ds _ t)
theorem RpF.mono (e : Same G G') : ∀ (ds : List (Str × Dat)) (vs : List (Str × V)), RpF K G vs ds → RpF K G' vs ds
  | [], _, h => by cases h; exact .nil
  | (k, d) :: ds, _, h => by cases h with | cons r t => exact .cons (Rp.mono e d _ r) (RpF.mono e ds _ t)
end
theorem Rp.mn {v : V} {d : Dat} (r : Rp K G v d) (e : Same G G') : Rp K G' v d := Rp.mono e d v r
theorem RpA.mn {v : List V} {d : List Dat} (r : RpA K G v d) (e : Same G G') : RpA K G' v d := RpA.mono e d v r
theorem RpK.mn {v : List (Key × V)} {d : List (Key × Dat)} (r : RpK K G v d) (e : Same G G') : RpK K G' v d := RpK.mono e d v r
theorem RpA.length {vs : List V} {ds : List Dat} : RpA K G vs ds → vs.length = ds.length := by
  intro r
  induction ds generalizing vs with
  | nil => cases r; rfl
  | cons d ds ih => cases r with | cons r t => rw [List.length_cons, List.length_cons, ih t]
theorem RpA.get {i : Nat} {d : Dat} : ∀ {vs : List V} {ds : List Dat}, RpA K G vs ds → ds[i]? = some d → ∃ v, vs[i]? = some v ∧ Rp K G v d := by
  induction i with
  | zero =>
    intro vs ds r h
    cases r with
    | nil => cases h
    | cons r t =>
      cases h
      exact ⟨_, rfl, r⟩
  | succ i ih =>
    intro vs ds r h
    cases r with
    | nil => cases h
    | cons r t => exact ih t h
theorem RpA.get' {i : Nat} {v : V} : ∀ {vs : List V} {ds : List Dat}, RpA K G vs ds → vs[i]? = some v → ∃ d, ds[i]? = some d ∧ Rp K G v d := by
  induction i with
  | zero =>
    intro vs ds r h
    cases r with
    | nil => cases h
    | cons r t =>
      cases h
      exact ⟨_, rfl, r⟩
  | succ i ih =>
    intro vs ds r h
    cases r with
    | nil => cases h
    | cons r t => exact ih t h
theorem RpA.append {vs ws : List V} : ∀ {ds es : List Dat}, RpA K G vs ds → RpA K G ws es → RpA K G (vs ++ ws) (ds ++ es) := by
  induction vs with
  | nil => intro ds es r s; cases r; exact s
  | cons v vs ih => intro ds es r s; cases r with | cons r t => exact .cons r (ih t s)
theorem RpA.take {vs : List V} (n : Nat) : ∀ {ds : List Dat}, RpA K G vs ds → RpA K G (vs.take n) (ds.take n) := by
  induction vs generalizing n with
  | nil => intro ds r; cases r; simp; exact .nil
  | cons v vs ih =>
    intro ds r
    cases r with
    | cons r t =>
      cases n with
      | zero => exact .nil
      | succ n => exact .cons r (ih n t)
theorem RpA.drop {vs : List V} (n : Nat) : ∀ {ds : List Dat}, RpA K G vs ds → RpA K G (vs.drop n) (ds.drop n) := by
  induction vs generalizing n with
  | nil => intro ds r; cases r; simp; exact .nil
  | cons v vs ih =>
    intro ds r
    cases r with
    | cons r t =>
      cases n with
      | zero => exact .cons r t
      | succ n => exact ih n t
theorem RpA.set {v : V} {d : Dat} (q : Rp K G v d) {vs : List V} (n : Nat) : ∀ {ds : List Dat}, RpA K G vs ds → RpA K G (vs.set n v) (ds.set n d) := by
  induction vs generalizing n with
  | nil => intro ds r; cases r; exact .nil
  | cons v vs ih =>
    intro ds r
    cases r with
    | cons r t =>
      cases n with
      | zero => exact .cons q t
      | succ n => exact .cons r (ih n t)
theorem RpA.erase {vs : List V} (n : Nat) : ∀ {ds : List Dat}, RpA K G vs ds → RpA K G (vs.eraseIdx n) (ds.eraseIdx n) := by
  induction vs generalizing n with
  | nil => intro ds r; cases r; exact .nil
  | cons v vs ih =>
    intro ds r
    cases r with
    | cons r t =>
      cases n with
      | zero => exact t
      | succ n => exact .cons r (ih n t)
theorem RpA.ints {ns : List Int} : RpA K G (ns.map V.int) (ns.map Dat.int) := by
  induction ns with
  | nil => exact .nil
  | cons n ns ih => exact .cons (.int n) ih
theorem RpA.ints_inv {vs : List V} : ∀ {ns : List Int}, RpA K G vs (ns.map Dat.int) → vs = ns.map V.int := by
  induction vs with
  | nil => intro ns r; cases ns with | nil => rfl | cons n ns => cases r
  | cons v vs ih =>
    intro ns r
    cases ns with
    | nil => cases r
    | cons n ns =>
      cases r with
      | cons r t => cases r; rw [ih t]; rfl
theorem RpA.strs_inv {vs : List V} : ∀ {ns : List Str}, RpA K G vs (ns.map Dat.str) → vs = ns.map V.str := by
  induction vs with
  | nil => intro ns r; cases ns with | nil => rfl | cons n ns => cases r
  | cons v vs ih =>
    intro ns r
    cases ns with
    | nil => cases r
    | cons n ns =>
      cases r with
      | cons r t => cases r; rw [ih t]; rfl
theorem RpA.strs {ns : List Str} : RpA K G (ns.map V.str) (ns.map Dat.str) := by
  induction ns with
  | nil => exact .nil
  | cons n ns ih => exact .cons (.str n) ih

/-- what a value stands for at this moment: the object itself may be one that a slot owns -/
inductive RpW (K : PySem.W.Frag) (G G1 : Hp) : V → Dat → Prop
  | of {v : V} {d : Dat} : Rp K G v d → RpW K G G1 v d
  | lst {a : Addr} {xs : List V} {ds : List Dat} : G1 a = some (.lst xs) → RpA K G xs ds → RpW K G G1 (.ref a) (.lst ds)
  | dic {a : Addr} {xs : List (Key × V)} {ds : List (Key × Dat)} : G1 a = some (.dK xs) → RpK K G xs ds → RpW K G G1 (.ref a) (.dic ds)
theorem RpW.mn {G1 G1' : Hp} {v : V} {d : Dat} (r : RpW K G G1 v d) (e : Same G G') (e1 : Same G1 G1') : RpW K G' G1' v d := by
  cases r with
  | of r => exact .of (r.mn e)
  | lst h r => exact .lst (e1 _ _ h) (r.mn e)
  | dic h r => exact .dic (e1 _ _ h) (r.mn e)
theorem RpW.lst_inv {G1 : Hp} (e : Same G G1) {v : V} {ds : List Dat} (r : RpW K G G1 v (.lst ds)) : ∃ a xs, v = .ref a ∧ G1 a = some (.lst xs) ∧ RpA K G xs ds := by
  cases r with
  | of r => cases r with | lst h r => exact ⟨_, _, rfl, e _ _ h, r⟩
  | lst h r => exact ⟨_, _, rfl, h, r⟩
theorem RpW.tup_inv {G1 : Hp} (e : Same G G1) {v : V} {ds : List Dat} (r : RpW K G G1 v (.tup ds)) : ∃ a xs, v = .ref a ∧ SqT K G1 a xs ∧ RpA K G xs ds := by
  cases r with
  | of r => cases r with | tup h r => exact ⟨_, _, rfl, Same.sqT e h, r⟩
theorem RpW.dic_inv {G1 : Hp} (e : Same G G1) {v : V} {ds : List (Key × Dat)} (r : RpW K G G1 v (.dic ds)) : ∃ a xs, v = .ref a ∧ G1 a = some (.dK xs) ∧ RpK K G xs ds := by
  cases r with
  | of r => cases r with | dic h r => exact ⟨_, _, rfl, e _ _ h, r⟩
  | dic h r => exact ⟨_, _, rfl, h, r⟩
theorem RpW.int_inv {G1 : Hp} {v : V} {i : Int} (r : RpW K G G1 v (.int i)) : v = .int i := by
  cases r with
  | of r => cases r; rfl
theorem RpW.str_inv {G1 : Hp} {v : V} {i : Str} (r : RpW K G G1 v (.str i)) : v = .str i := by
  cases r with
  | of r => cases r; rfl
theorem RpW.bl_inv {G1 : Hp} {v : V} {i : Bool} (r : RpW K G G1 v (.bl i)) : v = .bl i := by
  cases r with
  | of r => cases r; rfl
theorem RpW.non_inv {G1 : Hp} {v : V} (r : RpW K G G1 v .non) : v = .non := by
  cases r with
  | of r => cases r; rfl
end

/-! ### the store of draws -/
/-- the store of draws at a, its cells at l: its numbers are in their ranges -/
def Store (H : Hp) (a l : Addr) : Prop := ∃ (cs : List Int) (i lf sm seed turn : Int),
  H a = some (.lst [.ref l, .int i, .int lf, .int sm, .int seed, .int turn]) ∧ H l = some (.lst (cs.map V.int)) ∧ 0 ≤ i ∧ 0 ≤ lf ∧ 0 ≤ sm ∧ 0 ≤ seed ∧ seed < 100000007 ∧ 0 ≤ turn

/-! ### slots -/
/-- a list or a dict inside a list or a dict that a slot owns -/
inductive Inn where
  | l (ds : List Dat) | k (kvs : List (Key × Dat))
def Inn.d : Inn → Dat
  | .l ds => .lst ds
  | .k kvs => .dic kvs
inductive Sl where
  | no | dat (d : Dat) | own (a : Option Addr) (ds : List Dat) | ownK (kvs : List (Key × Dat)) | obj (a C : Addr) (fs : List (Str × Dat)) | sto | exc (a d : Addr) (fs : List (Str × Dat))
  | trL (p : Addr) (es : List (Addr × Inn)) | trK (p : Addr) (es : List (Key × Addr × Inn)) | at_ (p : Addr)
def ownA : Option V → Sl → List Addr
  | some (.ref p), .own _ _ => [p]
  | some (.ref p), .ownK _ => [p]
  | some (.ref p), .obj _ _ _ => [p]
  | some (.ref p), .trL _ es => p :: es.map (·.1)
  | some (.ref p), .trK _ es => p :: es.map (·.2.1)
  | _, _ => []
theorem ownA_no (x : Option V) : ownA x .no = [] := by
  cases x with
  | none => rfl
  | some v => cases v <;> rfl
theorem ownA_dat (x : Option V) (d : Dat) : ownA x (.dat d) = [] := by
  cases x with
  | none => rfl
  | some v => cases v <;> rfl
theorem ownA_sto (x : Option V) : ownA x .sto = [] := by
  cases x with
  | none => rfl
  | some v => cases v <;> rfl
def owned : L2.St → List Sl → List Addr
  | x :: σ, s :: ρ => ownA x s ++ owned σ ρ
  | _, _ => []
/-- the standing part: the written part, the stores that it may draw from -/
structure Gm where
  K : PySem.W.Frag
  st : List (Addr × Addr)
def Gm.pr (g : Gm) : List Addr := g.st.flatMap fun p => [p.1, p.2]
theorem pr_mem {g : Gm} {b : Addr} : b ∈ g.pr ↔ ∃ p ∈ g.st, b = p.1 ∨ b = p.2 := by
  unfold Gm.pr
  simp only [List.mem_flatMap, List.mem_cons, List.not_mem_nil, or_false]
def InnOk (K : PySem.W.Frag) (G H : Hp) (a : Addr) : Inn → Prop
  | .l ds => ∃ xs, H a = some (.lst xs) ∧ RpA K G xs ds
  | .k kvs => ∃ xs, H a = some (.dK xs) ∧ RpK K G xs kvs
theorem InnOk.mono {K : PySem.W.Frag} {G G' H H' : Hp} {a : Addr} {n : Inn} (h : InnOk K G H a n) (e : Same G G') (e2 : ∀ o, H a = some o → H' a = some o) : InnOk K G' H' a n := by
  cases n with
  | l ds => obtain ⟨xs, h1, h2⟩ := h; exact ⟨xs, e2 _ h1, h2.mn e⟩
  | k ds => obtain ⟨xs, h1, h2⟩ := h; exact ⟨xs, e2 _ h1, h2.mn e⟩
theorem InnOk.some {K : PySem.W.Frag} {G H : Hp} {a : Addr} {n : Inn} (h : InnOk K G H a n) : H a ≠ none := by
  cases n with
  | l ds => obtain ⟨xs, h1, h2⟩ := h; rw [h1]; intro z; cases z
  | k ds => obtain ⟨xs, h1, h2⟩ := h; rw [h1]; intro z; cases z
inductive SlOk (g : Gm) (G H : Hp) : Option V → Sl → Prop
  | no (x : Option V) : SlOk g G H x .no
  | dat {v : V} {d : Dat} : Rp g.K G v d → SlOk g G H (some v) (.dat d)
  | own {p : Addr} {a : Option Addr} {xs : List V} {ds : List Dat} : (∀ b, a = some b → p = b) → H p = some (.lst xs) → RpA g.K G xs ds → SlOk g G H (some (.ref p)) (.own a ds)
  | ownK {p : Addr} {xs : List (Key × V)} {ds : List (Key × Dat)} : H p = some (.dK xs) → RpK g.K G xs ds → SlOk g G H (some (.ref p)) (.ownK ds)
  | obj {p C dx : Addr} {xs : List (Str × V)} {ds : List (Str × Dat)} : H p = some (.ins C dx xs) → RpF g.K G xs ds → SlOk g G H (some (.ref p)) (.obj p C ds)
  | sto {p : Addr × Addr} : p ∈ g.st → SlOk g G H (some (.ref p.1)) .sto
  | exc {a d : Addr} {xs : List (Str × V)} {fs : List (Str × Dat)} : G d = some (.xd xs) → RpF g.K G xs fs → SlOk g G H (some (.ref a)) (.exc a d fs)
  | trL {p : Addr} {es : List (Addr × Inn)} : H p = some (.lst (es.map fun e => .ref e.1)) → (∀ e ∈ es, InnOk g.K G H e.1 e.2) → SlOk g G H (some (.ref p)) (.trL p es)
  | trK {p : Addr} {es : List (Key × Addr × Inn)} : H p = some (.dK (es.map fun e => (e.1, .ref e.2.1))) → (∀ e ∈ es, InnOk g.K G H e.2.1 e.2.2) → SlOk g G H (some (.ref p)) (.trK p es)
  | at_ {p : Addr} : SlOk g G H (some (.ref p)) (.at_ p)
inductive SlsOk (g : Gm) (G H : Hp) : L2.St → List Sl → Prop
  | nil : SlsOk g G H [] []
  | cons {x : Option V} {s : Sl} {σ : L2.St} {ρ : List Sl} : SlOk g G H x s → SlsOk g G H σ ρ → SlsOk g G H (x :: σ) (s :: ρ)
abbrev hid (g : Gm) (X : List Addr) (σ : L2.St) (ρ : List Sl) (H : Hp) : Hp := hide (X ++ (g.pr ++ owned σ ρ)) H
def StOk (g : Gm) (H : Hp) : Prop := ∀ p ∈ g.st, Store H p.1 p.2
structure RS (g : Gm) (X : List Addr) (Y : Hp) (σ : L2.St) (H : Hp) (ρ : List Sl) : Prop where
  nd : (owned σ ρ).Nodup
  sl : SlsOk g (hid g X σ ρ H) H σ ρ
  fr : ∀ b o, Y b = some o → H b = some o ∧ b ∉ g.pr
  nw : ∀ p ∈ owned σ ρ, Y p = none ∧ p ∉ g.pr
  xd : ∀ b ∈ X, H b ≠ none ∧ b ∉ owned σ ρ
  st : StOk g H
/-- what an expression leaves: all that was tracked but the stores, which are right -/
structure Nx (g : Gm) (H H' : Hp) : Prop where
  kp : ∀ b o, H b = some o → b ∉ g.pr → H' b = some o
  st : StOk g H'
section
variable {g : Gm} {X : List Addr} {Y : Hp} {σ : L2.St} {ρ : List Sl} {H H' H2 : Hp}
theorem Nx.trans (a : Nx g H H') (b : Nx g H' H2) : Nx g H H2 := ⟨fun c o e n => b.kp c o (a.kp c o e n) n, b.st⟩
theorem StOk.ext (h : StOk g H) (e : Same H H') : StOk g H' := fun a ha => by
  obtain ⟨cs, i, lf, sm, seed, turn, h1, h2, h3⟩ := h a ha
  exact ⟨cs, i, lf, sm, seed, turn, e _ _ h1, e _ _ h2, h3⟩
theorem StOk.some (h : StOk g H) {b : Addr} (hb : b ∈ g.pr) : H b ≠ none := by
  obtain ⟨p, hp, q⟩ := pr_mem.mp hb
  obtain ⟨cs, i, lf, sm, seed, turn, h1, h2, h3⟩ := h p hp
  rcases q with q | q
  · rw [q, h1]; intro z; cases z
  · rw [q, h2]; intro z; cases z
theorem RS.refl (R : RS g X Y σ H ρ) : Nx g H H := ⟨fun _ _ h _ => h, R.st⟩
theorem RS.same (R : RS g X Y σ H ρ) (e : Same H H') : Nx g H H' := ⟨fun b o h _ => e b o h, R.st.ext e⟩
theorem SlOk.mono {G G' : Hp} {x : Option V} {s : Sl} (h : SlOk g G H x s) (e : Same G G') (e2 : ∀ p ∈ ownA x s, ∀ o, H p = some o → H' p = some o) : SlOk g G' H' x s := by
  cases h with
  | no x => exact .no x
  | dat r => exact .dat (r.mn e)
  | own q h r => exact .own q (e2 _ (List.mem_singleton.mpr rfl) _ h) (r.mn e)
  | ownK h r => exact .ownK (e2 _ (List.mem_singleton.mpr rfl) _ h) (r.mn e)
  | obj h r => exact .obj (e2 _ (List.mem_singleton.mpr rfl) _ h) (RpF.mono e _ _ r)
  | sto h => exact .sto h
  | exc h r => exact .exc (e _ _ h) (RpF.mono e _ _ r)
  | trL h r => exact .trL (e2 _ List.mem_cons_self _ h) fun z hz => (r z hz).mono e fun o ho => e2 _ (List.mem_cons_of_mem _ (List.mem_map.mpr ⟨z, hz, rfl⟩)) o ho
  | trK h r => exact .trK (e2 _ List.mem_cons_self _ h) fun z hz => (r z hz).mono e fun o ho => e2 _ (List.mem_cons_of_mem _ (List.mem_map.mpr ⟨z, hz, rfl⟩)) o ho
  | at_ => exact .at_
theorem SlsOk.mono {G G' : Hp} {σ : L2.St} : ∀ {ρ : List Sl}, SlsOk g G H σ ρ → (Same G G') → (∀ p ∈ owned σ ρ, ∀ o, H p = some o → H' p = some o) → SlsOk g G' H' σ ρ := by
  induction σ with
  | nil => intro ρ h _ _; cases h; exact .nil
  | cons x σ ih =>
    intro ρ h e e2
    cases h with
    | cons a b => exact .cons (a.mono e fun p hp => e2 p (List.mem_append_left _ hp)) (ih b e fun p hp => e2 p (List.mem_append_right _ hp))
theorem Nx.hid (n : Nx g H H') : Same (hid g X σ ρ H) (hid g X σ ρ H') := hide_sub (fun _ z => z) fun b o q nb => n.kp b o q fun z => nb (List.mem_append_right _ (List.mem_append_left _ z))
theorem Nx.hidp (n : Nx g H H') : Same (hide g.pr H) (hide g.pr H') := hide_sub (fun _ z => z) fun b o q nb => n.kp b o q nb
theorem hid_p : Same (hid g X σ ρ H) (hide g.pr H) := hide_mono fun _ z => List.mem_append_right _ (List.mem_append_left _ z)
theorem RS.nx (R : RS g X Y σ H ρ) (n : Nx g H H') : RS g X Y σ H' ρ where
  nd := R.nd
  sl := R.sl.mono n.hid fun p hp o e => n.kp p o e (R.nw p hp).2
  fr := fun b o e => ⟨n.kp b o (R.fr b o e).1 (R.fr b o e).2, (R.fr b o e).2⟩
  nw := R.nw
  xd := fun b hb => ⟨(fun z => by
    have q := (R.xd b hb).1
    cases e : H b with
    | none => exact q e
    | some o =>
      by_cases hp : b ∈ g.pr
      · exact n.st.some hp z
      · rw [n.kp b o e hp] at z; cases z), (R.xd b hb).2⟩
  st := n.st
theorem RS.own_some (R : RS g X Y σ H ρ) {p : Addr} (hp : p ∈ owned σ ρ) : H p ≠ none := by
  have key : ∀ {σ : L2.St} {ρ : List Sl} {G : Hp}, SlsOk g G H σ ρ → p ∈ owned σ ρ → H p ≠ none := by
    intro σ
    induction σ with
    | nil => intro ρ G h hp; cases h; cases hp
    | cons x σ ih =>
      intro ρ G h hp
      cases h with
      | cons a b =>
        rcases List.mem_append.mp hp with q | q
        · cases a with
          | own _ h _ => rw [List.mem_singleton.mp q, h]; intro z; cases z
          | ownK h _ => rw [List.mem_singleton.mp q, h]; intro z; cases z
          | obj h _ => rw [List.mem_singleton.mp q, h]; intro z; cases z
          | no x => rw [ownA_no] at q; cases q
          | dat h => rw [ownA_dat] at q; cases q
          | sto h => rw [ownA_sto] at q; cases q
          | exc h _ => cases q
          | trL h r =>
            rcases List.mem_cons.mp q with q | q
            · rw [q, h]; intro z; cases z
            · obtain ⟨z, hz, rfl⟩ := List.mem_map.mp q
              exact (r z hz).some
          | trK h r =>
            rcases List.mem_cons.mp q with q | q
            · rw [q, h]; intro z; cases z
            · obtain ⟨z, hz, rfl⟩ := List.mem_map.mp q
              exact (r z hz).some
          | at_ => cases q
        · exact ih b q
  exact key R.sl hp
/-- a new address is none that is hidden -/
theorem RS.new (R : RS g X Y σ H ρ) {p : Addr} (hp : H p = none) : p ∉ X ++ (g.pr ++ owned σ ρ) := fun z => by
  rcases List.mem_append.mp z with z | z
  · exact (R.xd p z).1 hp
  · rcases List.mem_append.mp z with z | z
    · exact R.st.some z hp
    · exact R.own_some z hp
theorem upd_new {p : Addr} {o : HO} (hp : H p = none) : Same H (upd H p o) := fun b u e => by
  rw [upd_ne (ne_of_none e hp)]; exact e
theorem hid_upd {p : Addr} {o : HO} (R : RS g X Y σ H ρ) (hp : H p = none) : (hid g X σ ρ (upd H p o)) p = some o := (hide_out (R.new hp)).trans upd_same

/-! ### slots are looked up and set -/
theorem SlsOk.get {G : Hp} {i : Nat} {s : Sl} : ∀ {σ : L2.St} {ρ : List Sl}, SlsOk g G H σ ρ → ρ[i]? = some s → ∃ x, σ[i]? = some x ∧ SlOk g G H x s := by
  induction i with
  | zero =>
    intro σ ρ h e
    cases h with
    | nil => cases e
    | cons a b => cases e; exact ⟨_, rfl, a⟩
  | succ i ih =>
    intro σ ρ h e
    cases h with
    | nil => cases e
    | cons a b => exact ih b e
theorem RS.dat (R : RS g X Y σ H ρ) {i : Nat} {d : Dat} (e : ρ[i]? = some (.dat d)) : ∃ v, σ[i]? = some (some v) ∧ Rp g.K (hid g X σ ρ H) v d := by
  obtain ⟨x, h1, h2⟩ := R.sl.get e
  cases h2 with
  | dat r => exact ⟨_, h1, r⟩
theorem RS.own (R : RS g X Y σ H ρ) {i : Nat} {a : Option Addr} {ds : List Dat} (e : ρ[i]? = some (.own a ds)) : ∃ p xs, σ[i]? = some (some (.ref p)) ∧ H p = some (.lst xs) ∧ RpA g.K (hid g X σ ρ H) xs ds ∧ ∀ b, a = some b → p = b := by
  obtain ⟨x, h1, h2⟩ := R.sl.get e
  cases h2 with
  | own q h r => exact ⟨_, _, h1, h, r, q⟩
theorem RS.ownK (R : RS g X Y σ H ρ) {i : Nat} {ds : List (Key × Dat)} (e : ρ[i]? = some (.ownK ds)) : ∃ p xs, σ[i]? = some (some (.ref p)) ∧ H p = some (.dK xs) ∧ RpK g.K (hid g X σ ρ H) xs ds := by
  obtain ⟨x, h1, h2⟩ := R.sl.get e
  cases h2 with
  | ownK h r => exact ⟨_, _, h1, h, r⟩
theorem RS.obj (R : RS g X Y σ H ρ) {i : Nat} {a C : Addr} {ds : List (Str × Dat)} (e : ρ[i]? = some (.obj a C ds)) : ∃ dx xs, σ[i]? = some (some (.ref a)) ∧ H a = some (.ins C dx xs) ∧ RpF g.K (hid g X σ ρ H) xs ds := by
  obtain ⟨x, h1, h2⟩ := R.sl.get e
  cases h2 with
  | obj h r => exact ⟨_, _, h1, h, r⟩
theorem RS.sto (R : RS g X Y σ H ρ) {i : Nat} (e : ρ[i]? = some .sto) : ∃ p, σ[i]? = some (some (.ref p.1)) ∧ p ∈ g.st := by
  obtain ⟨x, h1, h2⟩ := R.sl.get e
  cases h2 with
  | sto h => exact ⟨_, h1, h⟩
theorem SlsOk.len {G : Hp} {σ : L2.St} : ∀ {ρ : List Sl}, SlsOk g G H σ ρ → σ.length = ρ.length := by
  induction σ with
  | nil => intro ρ h; cases h; rfl
  | cons x σ ih => intro ρ h; cases h with | cons a b => rw [List.length_cons, List.length_cons, ih b]
theorem own_mem {i : Nat} {x : Option V} {s : Sl} {p : Addr} : ∀ {σ : L2.St} {ρ : List Sl}, σ[i]? = some x → ρ[i]? = some s → p ∈ ownA x s → p ∈ owned σ ρ := by
  induction i with
  | zero =>
    intro σ ρ h1 h2 hp
    cases σ with
    | nil => cases h1
    | cons y σ =>
      cases ρ with
      | nil => cases h2
      | cons t ρ => cases h1; cases h2; exact List.mem_append_left _ hp
  | succ i ih =>
    intro σ ρ h1 h2 hp
    cases σ with
    | nil => cases h1
    | cons y σ =>
      cases ρ with
      | nil => cases h2
      | cons t ρ => exact List.mem_append_right _ (ih (by simpa using h1) (by simpa using h2) hp)
/-- what is owned behind a store to a slot -/
theorem own_ne {p : Addr} : ∀ {σ : L2.St} {ρ : List Sl} {i j : Nat} {x y : Option V} {s t : Sl}, (owned σ ρ).Nodup → σ[i]? = some x → ρ[i]? = some s → σ[j]? = some y → ρ[j]? = some t → p ∈ ownA x s → p ∈ ownA y t → i = j
  | [], _, _, _, _, _, _, _, _, h, _, _, _, _, _ => by simp at h
  | _ :: _, [], _, _, _, _, _, _, _, _, h, _, _, _, _ => by simp at h
  | z :: σ, r :: ρ, i, j, x, y, s, t, nd, e1, e2, e3, e4, h1, h2 => by
    have nd' : (ownA z r ++ owned σ ρ).Nodup := nd
    rw [List.nodup_append] at nd'
    cases i with
    | zero =>
      cases e1
      cases e2
      cases j with
      | zero => rfl
      | succ j => exact absurd rfl (nd'.2.2 p h1 p (own_mem (by simpa using e3) (by simpa using e4) h2))
    | succ i =>
      cases j with
      | zero =>
        cases e3
        cases e4
        exact absurd rfl (nd'.2.2 p h2 p (own_mem (by simpa using e1) (by simpa using e2) h1))
      | succ j =>
        have ih : i = j := own_ne (σ := σ) (ρ := ρ) (x := x) (y := y) (s := s) (t := t) nd'.2.1 (by simpa using e1) (by simpa using e2) (by simpa using e3) (by simpa using e4) h1 h2
        rw [ih]
theorem owned_set {i : Nat} {x : Option V} {s : Sl} : ∀ {σ : L2.St} {ρ : List Sl}, ∀ p ∈ owned (σ.set i x) (ρ.set i s), p ∈ ownA x s ∨ p ∈ owned σ ρ := by
  induction i with
  | zero =>
    intro σ ρ p hp
    cases σ with
    | nil => cases ρ <;> cases hp
    | cons y σ =>
      cases ρ with
      | nil => cases hp
      | cons t ρ =>
        rcases List.mem_append.mp hp with q | q
        · exact .inl q
        · exact .inr (List.mem_append_right _ q)
  | succ i ih =>
    intro σ ρ p hp
    cases σ with
    | nil => cases ρ <;> cases hp
    | cons y σ =>
      cases ρ with
      | nil => cases hp
      | cons t ρ =>
        rcases List.mem_append.mp hp with q | q
        · exact .inr (List.mem_append_left _ q)
        · rcases ih p q with q | q
          · exact .inl q
          · exact .inr (List.mem_append_right _ q)
theorem owned_set_nd {i : Nat} {x : Option V} {s : Sl} : ∀ {σ : L2.St} {ρ : List Sl}, (owned σ ρ).Nodup → (ownA x s).Nodup → (∀ p ∈ ownA x s, p ∉ owned σ ρ) → (owned (σ.set i x) (ρ.set i s)).Nodup := by
  induction i with
  | zero =>
    intro σ ρ nd n1 d
    cases σ with
    | nil => cases ρ <;> exact List.nodup_nil
    | cons y σ =>
      cases ρ with
      | nil => exact List.nodup_nil
      | cons t ρ =>
        show (ownA x s ++ owned σ ρ).Nodup
        have nd' : (ownA y t ++ owned σ ρ).Nodup := nd
        rw [List.nodup_append] at nd' ⊢
        refine ⟨n1, nd'.2.1, fun a ha b hb e => ?_⟩
        subst e
        exact d a ha (List.mem_append_right _ hb)
  | succ i ih =>
    intro σ ρ nd n1 d
    cases σ with
    | nil => cases ρ <;> exact List.nodup_nil
    | cons y σ =>
      cases ρ with
      | nil => exact List.nodup_nil
      | cons t ρ =>
        show (ownA y t ++ owned (σ.set i x) (ρ.set i s)).Nodup
        have nd' : (ownA y t ++ owned σ ρ).Nodup := nd
        rw [List.nodup_append] at nd' ⊢
        refine ⟨nd'.1, ih nd'.2.1 n1 (fun p hp z => d p hp (List.mem_append_right _ z)), fun a ha b hb e => ?_⟩
        subst e
        rcases owned_set a hb with q | q
        · exact d a q (List.mem_append_left _ ha)
        · exact nd'.2.2 a ha a q rfl
theorem SlsOk.set {G : Hp} {i : Nat} {x : Option V} {s : Sl} (h : SlOk g G H x s) : ∀ {σ : L2.St} {ρ : List Sl}, SlsOk g G H σ ρ → SlsOk g G H (σ.set i x) (ρ.set i s) := by
  induction i with
  | zero =>
    intro σ ρ q
    cases q with
    | nil => exact .nil
    | cons a b => exact .cons h b
  | succ i ih =>
    intro σ ρ q
    cases q with
    | nil => exact .nil
    | cons a b => exact .cons a (ih b)
/-- a slot that owns nothing new is set -/
theorem RS.set0 (R : RS g X Y σ H ρ) {i : Nat} {x : Option V} {s : Sl} (h0 : ownA x s = []) (h : SlOk g (hid g X σ ρ H) H x s) : RS g X Y (σ.set i x) H (ρ.set i s) := by
  have sub : ∀ p ∈ owned (σ.set i x) (ρ.set i s), p ∈ owned σ ρ := fun p hp => by
    rcases owned_set p hp with q | q
    · rw [h0] at q; cases q
    · exact q
  refine ⟨owned_set_nd R.nd (by rw [h0]; exact List.nodup_nil) (by rw [h0]; intro p hp; cases hp), ?_, R.fr, fun p hp => R.nw p (sub p hp), fun b hb => ⟨(R.xd b hb).1, fun z => (R.xd b hb).2 (sub b z)⟩, R.st⟩
  exact (R.sl.set h).mono (hide_mono fun b hb => by
    rcases List.mem_append.mp hb with q | q
    · exact List.mem_append_left _ q
    · rcases List.mem_append.mp q with q | q
      · exact List.mem_append_right _ (List.mem_append_left _ q)
      · exact List.mem_append_right _ (List.mem_append_right _ (sub b q))) fun _ _ _ e => e
theorem RS.setD (R : RS g X Y σ H ρ) {i : Nat} {v : V} {d : Dat} (r : Rp g.K (hid g X σ ρ H) v d) : RS g X Y (σ.set i (some v)) H (ρ.set i (.dat d)) := R.set0 (ownA_dat _ _) (.dat r)
theorem RS.forget (R : RS g X Y σ H ρ) {i : Nat} (x : Option V) : RS g X Y (σ.set i x) H (ρ.set i .no) := R.set0 (ownA_no _) (.no x)
/-- a slot that owns a new object is set -/
theorem RS.setO (R : RS g X Y σ H ρ) {i : Nat} {p : Addr} {s : Sl} (h0 : ownA (some (.ref p)) s = [p]) (hn : Y p = none) (hp : p ∉ X ++ (g.pr ++ owned σ ρ)) (hH : H p ≠ none) (h : SlOk g (hide (p :: (X ++ (g.pr ++ owned σ ρ))) H) H (some (.ref p)) s)
    (hs : SlsOk g (hide (p :: (X ++ (g.pr ++ owned σ ρ))) H) H σ ρ) : RS g X Y (σ.set i (some (.ref p))) H (ρ.set i s) := by
  have hp1 : p ∉ X := fun z => hp (List.mem_append_left _ z)
  have hp2 : p ∉ g.pr := fun z => hp (List.mem_append_right _ (List.mem_append_left _ z))
  have hp3 : p ∉ owned σ ρ := fun z => hp (List.mem_append_right _ (List.mem_append_right _ z))
  have sub : ∀ q ∈ owned (σ.set i (some (.ref p))) (ρ.set i s), q = p ∨ q ∈ owned σ ρ := fun q hq => by
    rcases owned_set q hq with z | z
    · rw [h0] at z; exact .inl (List.mem_singleton.mp z)
    · exact .inr z
  refine ⟨owned_set_nd R.nd (by rw [h0]; exact List.nodup_cons.mpr ⟨fun z => (by cases z), List.nodup_nil⟩) (by rw [h0]; intro q hq; rw [List.mem_singleton.mp hq]; exact hp3), ?_, R.fr, fun q hq => ?_, fun b hb => ⟨(R.xd b hb).1, fun z => ?_⟩, R.st⟩
  · exact (hs.set h).mono (hide_mono fun b hb => by
      rcases List.mem_append.mp hb with q | q
      · exact List.mem_cons_of_mem _ (List.mem_append_left _ q)
      · rcases List.mem_append.mp q with q | q
        · exact List.mem_cons_of_mem _ (List.mem_append_right _ (List.mem_append_left _ q))
        · rcases sub b q with q | q
          · rw [q]; exact List.mem_cons_self
          · exact List.mem_cons_of_mem _ (List.mem_append_right _ (List.mem_append_right _ q))) fun _ _ _ e => e
  · rcases sub q hq with z | z
    · rw [z]; exact ⟨hn, hp2⟩
    · exact R.nw q z
  · rcases sub b z with z | z
    · rw [z] at hb; exact hp1 hb
    · exact (R.xd b hb).2 z
/-- the object that slot i owns is written -/
theorem SlsOk.write {G : Hp} {i : Nat} {p : Addr} {o : HO} {s t : Sl} (h : SlOk g G (upd H p o) (some (.ref p)) t) (h0 : ownA (some (.ref p)) t = [p]) (hs0 : ownA (some (.ref p)) s = [p]) : ∀ {σ : L2.St} {ρ : List Sl}, (owned σ ρ).Nodup → SlsOk g G H σ ρ → σ[i]? = some (some (.ref p)) → ρ[i]? = some s → SlsOk g G (upd H p o) σ (ρ.set i t) ∧ owned σ (ρ.set i t) = owned σ ρ := by
  induction i with
  | zero =>
    intro σ ρ nd q e1 e2
    cases q with
    | nil => cases e1
    | cons a b =>
      cases e1
      cases e2
      rename_i σ ρ
      have nd' : (ownA (some (.ref p)) s ++ owned σ ρ).Nodup := nd
      rw [hs0] at nd'
      have np : p ∉ owned σ ρ := (List.nodup_cons.mp nd').1
      refine ⟨.cons h (b.mono (fun _ _ e => e) fun r hr o e => ?_), ?_⟩
      · rw [upd_ne (fun z => np (by rw [← z]; exact hr))]; exact e
      · show ownA (some (.ref p)) t ++ owned σ ρ = ownA (some (.ref p)) s ++ owned σ ρ
        rw [h0, hs0]
  | succ i ih =>
    intro σ ρ nd q e1 e2
    cases q with
    | nil => cases e1
    | cons a b =>
      rename_i x s' σ ρ
      have nd' : (ownA x s' ++ owned σ ρ).Nodup := nd
      rw [List.nodup_append] at nd'
      have e1' : σ[i]? = some (some (.ref p)) := by simpa using e1
      have e2' : ρ[i]? = some s := by simpa using e2
      obtain ⟨z1, z2⟩ := ih nd'.2.1 b e1' e2'
      have pm : p ∈ owned σ ρ := own_mem e1' e2' (by rw [hs0]; exact List.mem_singleton.mpr rfl)
      refine ⟨.cons (a.mono (fun _ _ e => e) fun r hr o e => ?_) z1, ?_⟩
      · rw [upd_ne (fun z => nd'.2.2 r hr p pm z)]; exact e
      · show ownA x s' ++ owned σ (ρ.set i t) = ownA x s' ++ owned σ ρ
        rw [z2]
/-- one of the objects that slot i owns is written -/
theorem SlsOk.writeM {G : Hp} {i : Nat} {b : Addr} {o : HO} {x : Option V} {s t : Sl} (h : SlOk g G (upd H b o) x t) (h0 : ownA x t = ownA x s) (hb : b ∈ ownA x s) : ∀ {σ : L2.St} {ρ : List Sl}, (owned σ ρ).Nodup → SlsOk g G H σ ρ → σ[i]? = some x → ρ[i]? = some s → SlsOk g G (upd H b o) σ (ρ.set i t) ∧ owned σ (ρ.set i t) = owned σ ρ := by
  induction i with
  | zero =>
    intro σ ρ nd q e1 e2
    cases q with
    | nil => cases e1
    | cons a c =>
      cases e1
      cases e2
      rename_i σ ρ
      have nd' : (ownA x s ++ owned σ ρ).Nodup := nd
      have np : b ∉ owned σ ρ := fun z => (List.nodup_append.mp nd').2.2 b hb b z rfl
      refine ⟨.cons h (c.mono (fun _ _ e => e) fun r hr o e => ?_), ?_⟩
      · rw [upd_ne (fun z => np (by rw [← z]; exact hr))]; exact e
      · show ownA x t ++ owned σ ρ = ownA x s ++ owned σ ρ
        rw [h0]
  | succ i ih =>
    intro σ ρ nd q e1 e2
    cases q with
    | nil => cases e1
    | cons a c =>
      rename_i x' s' σ ρ
      have nd' : (ownA x' s' ++ owned σ ρ).Nodup := nd
      rw [List.nodup_append] at nd'
      have e1' : σ[i]? = some x := by simpa using e1
      have e2' : ρ[i]? = some s := by simpa using e2
      obtain ⟨z1, z2⟩ := ih nd'.2.1 c e1' e2'
      have pm : b ∈ owned σ ρ := own_mem e1' e2' hb
      refine ⟨.cons (a.mono (fun _ _ e => e) fun r hr o e => ?_) z1, ?_⟩
      · rw [upd_ne (fun z => nd'.2.2 r hr b pm z)]; exact e
      · show ownA x' s' ++ owned σ (ρ.set i t) = ownA x' s' ++ owned σ ρ
        rw [z2]
theorem hide_upd_in {O : List Addr} {p : Addr} {o : HO} (h : p ∈ O) : hide O (upd H p o) = hide O H := by
  funext b
  by_cases q : b ∈ O
  · rw [hide_in q, hide_in q]
  · rw [hide_out q, hide_out q, upd_ne (fun z => q (by rw [z]; exact h))]
theorem RS.write (R : RS g X Y σ H ρ) {i : Nat} {p : Addr} {o : HO} {s t : Sl} (e1 : σ[i]? = some (some (.ref p))) (e2 : ρ[i]? = some s) (hs0 : ownA (some (.ref p)) s = [p]) (h0 : ownA (some (.ref p)) t = [p])
    (h : SlOk g (hid g X σ ρ H) (upd H p o) (some (.ref p)) t) : RS g X Y σ (upd H p o) (ρ.set i t) := by
  have pm : p ∈ owned σ ρ := own_mem e1 e2 (by rw [hs0]; exact List.mem_singleton.mpr rfl)
  obtain ⟨z1, z2⟩ := SlsOk.write h h0 hs0 R.nd R.sl e1 e2
  have pn := R.nw p pm
  have e3 : hid g X σ (ρ.set i t) (upd H p o) = hid g X σ ρ H := by
    show hide (X ++ (g.pr ++ owned σ (ρ.set i t))) (upd H p o) = _
    rw [z2, hide_upd_in (List.mem_append_right _ (List.mem_append_right _ pm))]
  refine ⟨by rw [z2]; exact R.nd, by rw [e3]; exact z1, fun b u e => ⟨?_, (R.fr b u e).2⟩, by rw [z2]; exact R.nw, fun b hb => ⟨fun z => ?_, by rw [z2]; exact (R.xd b hb).2⟩, fun a ha => ?_⟩
  · rw [upd_ne (fun z => by rw [z, pn.1] at e; cases e)]
    exact (R.fr b u e).1
  · by_cases q : b = p
    · rw [q, upd_same] at z; cases z
    · rw [upd_ne q] at z; exact (R.xd b hb).1 z
  · obtain ⟨cs, i, lf, sm, seed, turn, h1, h2, h3⟩ := R.st a ha
    have n1 : a.1 ≠ p := fun z => pn.2 (pr_mem.mpr ⟨a, ha, .inl z.symm⟩)
    have n2 : a.2 ≠ p := fun z => pn.2 (pr_mem.mpr ⟨a, ha, .inr z.symm⟩)
    exact ⟨cs, i, lf, sm, seed, turn, by rw [upd_ne n1]; exact h1, by rw [upd_ne n2]; exact h2, h3⟩
theorem RS.writeM (R : RS g X Y σ H ρ) {i : Nat} {b : Addr} {o : HO} {x : Option V} {s t : Sl} (e1 : σ[i]? = some x) (e2 : ρ[i]? = some s) (hb : b ∈ ownA x s) (h0 : ownA x t = ownA x s)
    (h : SlOk g (hid g X σ ρ H) (upd H b o) x t) : RS g X Y σ (upd H b o) (ρ.set i t) := by
  have pm : b ∈ owned σ ρ := own_mem e1 e2 hb
  obtain ⟨z1, z2⟩ := SlsOk.writeM h h0 hb R.nd R.sl e1 e2
  have pn := R.nw b pm
  have e3 : hid g X σ (ρ.set i t) (upd H b o) = hid g X σ ρ H := by
    show hide (X ++ (g.pr ++ owned σ (ρ.set i t))) (upd H b o) = _
    rw [z2, hide_upd_in (List.mem_append_right _ (List.mem_append_right _ pm))]
  refine ⟨by rw [z2]; exact R.nd, by rw [e3]; exact z1, fun c u e => ⟨?_, (R.fr c u e).2⟩, by rw [z2]; exact R.nw, fun c hc => ⟨fun z => ?_, by rw [z2]; exact (R.xd c hc).2⟩, fun a ha => ?_⟩
  · rw [upd_ne (fun z => by rw [z, pn.1] at e; cases e)]
    exact (R.fr c u e).1
  · by_cases q : c = b
    · rw [q, upd_same] at z; cases z
    · rw [upd_ne q] at z; exact (R.xd c hc).1 z
  · obtain ⟨cs, i, lf, sm, seed, turn, h1, h2, h3⟩ := R.st a ha
    have n1 : a.1 ≠ b := fun z => pn.2 (pr_mem.mpr ⟨a, ha, .inl z.symm⟩)
    have n2 : a.2 ≠ b := fun z => pn.2 (pr_mem.mpr ⟨a, ha, .inr z.symm⟩)
    exact ⟨cs, i, lf, sm, seed, turn, by rw [upd_ne n1]; exact h1, by rw [upd_ne n2]; exact h2, h3⟩
/-- a slot is set to what owns more: the new addresses were not tracked, the others' data are right without them -/
theorem RS.setM (R : RS g X Y σ H ρ) {H' : Hp} {i : Nat} {x : Option V} {s : Sl} (N : List Addr) (hn : ∀ q ∈ N, Y q = none ∧ q ∉ X ++ (g.pr ++ owned σ ρ)) (own : ∀ q ∈ ownA x s, q ∈ N) (nd : (ownA x s).Nodup)
    (n : Nx g H H') (h : SlOk g (hide (N ++ (X ++ (g.pr ++ owned σ ρ))) H') H' x s) (e : Same (hid g X σ ρ H) (hide (N ++ (X ++ (g.pr ++ owned σ ρ))) H')) : RS g X Y (σ.set i x) H' (ρ.set i s) := by
  have sub : ∀ q ∈ owned (σ.set i x) (ρ.set i s), q ∈ N ∨ q ∈ owned σ ρ := fun q hq => by
    rcases owned_set q hq with z | z
    · exact .inl (own q z)
    · exact .inr z
  have nX : ∀ q ∈ N, q ∉ X := fun q hq z => (hn q hq).2 (List.mem_append_left _ z)
  have np : ∀ q ∈ N, q ∉ g.pr := fun q hq z => (hn q hq).2 (List.mem_append_right _ (List.mem_append_left _ z))
  have no : ∀ q ∈ N, q ∉ owned σ ρ := fun q hq z => (hn q hq).2 (List.mem_append_right _ (List.mem_append_right _ z))
  have R1 := R.nx n
  refine ⟨owned_set_nd R.nd nd fun q hq => no q (own q hq), ?_, R1.fr, fun q hq => ?_, fun b hb => ⟨(R1.xd b hb).1, fun z => ?_⟩, n.st⟩
  · have hs : SlsOk g (hide (N ++ (X ++ (g.pr ++ owned σ ρ))) H') H' σ ρ := R.sl.mono e fun q hq o eo => n.kp q o eo (R.nw q hq).2
    exact (hs.set h).mono (hide_mono fun b hb => by
      rcases List.mem_append.mp hb with q | q
      · exact List.mem_append_right _ (List.mem_append_left _ q)
      · rcases List.mem_append.mp q with q | q
        · exact List.mem_append_right _ (List.mem_append_right _ (List.mem_append_left _ q))
        · rcases sub b q with q | q
          · exact List.mem_append_left _ q
          · exact List.mem_append_right _ (List.mem_append_right _ (List.mem_append_right _ q))) fun _ _ _ e => e
  · rcases sub q hq with z | z
    · exact ⟨(hn q z).1, np q z⟩
    · exact R.nw q z
  · rcases sub b z with z | z
    · exact nX b z hb
    · exact (R.xd b hb).2 z
theorem RS.yn (R : RS g X Y σ H ρ) {p : Addr} (h : H p = none) : Y p = none := by
  cases e : Y p with
  | none => rfl
  | some o => rw [(R.fr p o e).1] at h; cases h
theorem pr_sub0 {b : Addr} (h : b ∈ g.pr) : b ∈ X ++ (g.pr ++ owned σ ρ) := List.mem_append_right _ (List.mem_append_left _ h)
/-- slot i, its value as it is, owns other addresses: of the new ones, of its own -/
theorem SlsOk.regrow {G G' : Hp} {i : Nat} {x : Option V} {s t : Sl} (h : SlOk g G' H' x t) (e : Same G G') : ∀ {σ : L2.St} {ρ : List Sl}, (owned σ ρ).Nodup → (∀ p ∈ owned σ ρ, p ∉ ownA x s → ∀ o, H p = some o → H' p = some o) → SlsOk g G H σ ρ → σ[i]? = some x → ρ[i]? = some s →
    SlsOk g G' H' σ (ρ.set i t) ∧ ((ownA x t).Nodup → (∀ p ∈ ownA x t, p ∈ ownA x s ∨ p ∉ owned σ ρ) → (owned σ (ρ.set i t)).Nodup) ∧ (∀ p ∈ owned σ (ρ.set i t), p ∈ ownA x t ∨ (p ∈ owned σ ρ ∧ p ∉ ownA x s)) ∧ ∀ p ∈ owned σ ρ, p ∈ ownA x s ∨ p ∈ owned σ (ρ.set i t) := by
  induction i with
  | zero =>
    intro σ ρ nd kp q e1 e2
    cases q with
    | nil => cases e1
    | cons a c =>
      cases e1
      cases e2
      rename_i σ ρ
      have nd' : (ownA x s ++ owned σ ρ).Nodup := nd
      rw [List.nodup_append] at nd'
      have np : ∀ p ∈ owned σ ρ, p ∉ ownA x s := fun p hp z => nd'.2.2 p z p hp rfl
      refine ⟨.cons h (c.mono e fun r hr o eo => kp r (List.mem_append_right _ hr) (np r hr) o eo), fun n1 n2 => ?_, fun p hp => ?_, fun p hp => ?_⟩
      · show (ownA x t ++ owned σ ρ).Nodup
        rw [List.nodup_append]
        refine ⟨n1, nd'.2.1, fun a ha b hb ab => ?_⟩
        subst ab
        rcases n2 a ha with z | z
        · exact np a hb z
        · exact z (List.mem_append_right _ hb)
      · rcases List.mem_append.mp hp with z | z
        · exact .inl z
        · exact .inr ⟨List.mem_append_right _ z, np p z⟩
      · rcases List.mem_append.mp hp with z | z
        · exact .inl z
        · exact .inr (List.mem_append_right _ z)
  | succ i ih =>
    intro σ ρ nd kp q e1 e2
    cases q with
    | nil => cases e1
    | cons a c =>
      rename_i x' s' σ ρ
      have nd' : (ownA x' s' ++ owned σ ρ).Nodup := nd
      rw [List.nodup_append] at nd'
      have e1' : σ[i]? = some x := by simpa using e1
      have e2' : ρ[i]? = some s := by simpa using e2
      have np : ∀ p ∈ ownA x' s', p ∉ ownA x s := fun p hp z => nd'.2.2 p hp p (own_mem e1' e2' z) rfl
      obtain ⟨z1, z2, z3, z4⟩ := ih nd'.2.1 (fun p hp => kp p (List.mem_append_right _ hp)) c e1' e2'
      refine ⟨.cons (a.mono e fun r hr o eo => kp r (List.mem_append_left _ hr) (np r hr) o eo) z1, fun n1 n2 => ?_, fun p hp => ?_, fun p hp => ?_⟩
      · show (ownA x' s' ++ owned σ (ρ.set i t)).Nodup
        rw [List.nodup_append]
        refine ⟨nd'.1, z2 n1 fun p hp => (n2 p hp).imp id fun w z => w (List.mem_append_right _ z), fun a ha b hb ab => ?_⟩
        subst ab
        rcases z3 a hb with z | z
        · rcases n2 a z with w | w
          · exact np a ha w
          · exact w (List.mem_append_left _ ha)
        · exact nd'.2.2 a ha a z.1 rfl
      · rcases List.mem_append.mp hp with z | z
        · exact .inr ⟨List.mem_append_left _ z, np p z⟩
        · exact (z3 p z).imp id fun w => ⟨List.mem_append_right _ w.1, w.2⟩
      · rcases List.mem_append.mp hp with z | z
        · exact .inr (List.mem_append_left _ z)
        · exact (z4 p z).imp id fun w => List.mem_append_right _ w
theorem RS.regrow (R : RS g X Y σ H ρ) {i : Nat} {x : Option V} {s t : Sl} (N : List Addr) (e1 : σ[i]? = some x) (e2 : ρ[i]? = some s) (hN : ∀ q ∈ N, H q = none) (kp : ∀ b o, H b = some o → b ∉ g.pr → b ∉ ownA x s → H' b = some o) (st : StOk g H')
    (own : ∀ q ∈ ownA x t, q ∈ N ∨ q ∈ ownA x s) (nd : (ownA x t).Nodup) (h : SlOk g (hid g X σ (ρ.set i t) H') H' x t) : RS g X Y σ H' (ρ.set i t) := by
  have hnew : ∀ q ∈ N, q ∉ X ++ (g.pr ++ owned σ ρ) := fun q hq => R.new (hN q hq)
  have hno : ∀ p ∈ ownA x t, p ∈ ownA x s ∨ p ∉ owned σ ρ := fun p hp => (own p hp).symm.imp id fun z w => hnew p z (List.mem_append_right _ (List.mem_append_right _ w))
  have sub : ∀ p ∈ ownA x s, p ∈ owned σ ρ := fun p hp => own_mem e1 e2 hp
  have e : Same (hid g X σ ρ H) (hid g X σ (ρ.set i t) H') := fun b o eb => by
    obtain ⟨h1, h2⟩ := hide_some eb
    have bX : b ∉ X := fun z => h1 (List.mem_append_left _ z)
    have bp : b ∉ g.pr := fun z => h1 (List.mem_append_right _ (List.mem_append_left _ z))
    have bo : b ∉ owned σ ρ := fun z => h1 (List.mem_append_right _ (List.mem_append_right _ z))
    show hide (X ++ (g.pr ++ owned σ (ρ.set i t))) H' b = some o
    rw [hide_out]
    · exact kp b o h2 bp fun z => bo (sub b z)
    · intro z
      rcases List.mem_append.mp z with z | z
      · exact bX z
      · rcases List.mem_append.mp z with z | z
        · exact bp z
        · have z3 : ∀ {σ : L2.St} {ρ : List Sl} {i : Nat}, (∀ p ∈ owned σ (ρ.set i t), p ∈ ownA x t ∨ p ∈ owned σ ρ) ∨ σ[i]? ≠ some x := by
            intro σ
            induction σ with
            | nil => intro ρ i; right; simp
            | cons y σ ih =>
              intro ρ i
              cases ρ with
              | nil => left; intro p hp; cases hp
              | cons s ρ =>
                cases i with
                | zero =>
                  by_cases q : y = x
                  · subst q
                    left
                    intro p hp
                    rcases List.mem_append.mp hp with w | w
                    · exact .inl w
                    · exact .inr (List.mem_append_right _ w)
                  · right
                    intro w
                    exact q (by simpa using w)
                | succ i =>
                  rcases ih (ρ := ρ) (i := i) with w | w
                  · left
                    intro p hp
                    rcases List.mem_append.mp hp with q | q
                    · exact .inr (List.mem_append_left _ q)
                    · exact (w p q).imp id fun r => List.mem_append_right _ r
                  · right
                    intro r
                    exact w (by simpa using r)
          rcases z3 (σ := σ) (ρ := ρ) (i := i) with w | w
          · rcases w b z with r | r
            · rcases own b r with q | q
              · rw [hN b q] at h2; cases h2
              · exact bo (sub b q)
            · exact bo r
          · exact w e1
  obtain ⟨z1, z2, z3, z4⟩ := SlsOk.regrow h e R.nd (fun p hp np o eo => kp p o eo (R.nw p hp).2 np) R.sl e1 e2
  refine ⟨z2 nd hno, z1, fun b o eb => ?_, fun p hp => ?_, fun b hb => ⟨fun z => ?_, fun z => ?_⟩, st⟩
  · obtain ⟨h1, h2⟩ := R.fr b o eb
    exact ⟨kp b o h1 h2 fun z => (by rw [(R.nw b (sub b z)).1] at eb; cases eb), h2⟩
  · rcases z3 p hp with z | z
    · rcases own p z with q | q
      · have := hN p q
        refine ⟨R.yn this, fun w => hnew p q (pr_sub0 w)⟩
      · exact R.nw p (sub p q)
    · exact R.nw p z.1
  · obtain ⟨h1, h2⟩ := R.xd b hb
    by_cases q : b ∈ g.pr
    · exact st.some q z
    · cases eo : H b with
      | none => exact h1 eo
      | some o => rw [kp b o eo q fun w => h2 (sub b w)] at z; cases z
  · rcases z3 b z with q | q
    · rcases own b q with w | w
      · exact hnew b w (List.mem_append_left _ hb)
      · exact (R.xd b hb).2 (sub b w)
    · exact (R.xd b hb).2 q.1
theorem RS.weak {Y' : Hp} (R : RS g X Y' σ H ρ) (h : Same Y Y') : RS g X Y σ H ρ := ⟨R.nd, R.sl, fun b o e => R.fr b o (h b o e), fun p hp => ⟨h.free (R.nw p hp).1, (R.nw p hp).2⟩, R.xd, R.st⟩
/-- all that isn't owned stands for good -/
theorem RS.fix (R : RS g X Y σ H ρ) : RS g X (hide (g.pr ++ owned σ ρ) H) σ H ρ := ⟨R.nd, R.sl, fun b o e => ⟨(hide_some e).2, fun z => (hide_some e).1 (List.mem_append_left _ z)⟩, fun p hp => ⟨hide_in (List.mem_append_right _ hp), (R.nw p hp).2⟩, R.xd, R.st⟩
theorem RS.fixY (R : RS g X Y σ H ρ) : Same Y (hide (g.pr ++ owned σ ρ) H) := fun b o e => by
  have q := R.fr b o e
  rw [hide_out (fun z => ?_)]
  · exact q.1
  · rcases List.mem_append.mp z with z | z
    · exact q.2 z
    · rw [(R.nw b z).1] at e; cases e
/-- what stood unowned and unhidden then is seen now -/
theorem RS.seen {σ' : L2.St} {ρ' : List Sl} (R : RS g X (hide (g.pr ++ owned σ ρ) H) σ' H' ρ') : Same (hid g X σ ρ H) (hid g X σ' ρ' H') := fun b o e => by
  obtain ⟨h1, h2⟩ := hide_some e
  have n1 : b ∉ g.pr ++ owned σ ρ := fun z => h1 (List.mem_append_right _ z)
  have q := R.fr b o ((hide_out n1).trans h2)
  refine (hide_out fun z => ?_).trans q.1
  rcases List.mem_append.mp z with z | z
  · exact h1 (List.mem_append_left _ z)
  · rcases List.mem_append.mp z with z | z
    · exact q.2 z
    · have w := (R.nw b z).1
      rw [hide_out n1, h2] at w; cases w
end
end NW

/-! NwB: the judgements and the rules of expressions. -/
namespace NW
open PySem PySem.Spec PyProof.Rows L2

inductive RpWA (K : PySem.W.Frag) (G G1 : Hp) : List V → List Dat → Prop
  | nil : RpWA K G G1 [] []
  | cons {v : V} {vs : List V} {d : Dat} {ds : List Dat} : RpW K G G1 v d → RpWA K G G1 vs ds → RpWA K G G1 (v :: vs) (d :: ds)
theorem RpWA.mn {K : PySem.W.Frag} {G G' G1 G1' : Hp} {vs : List V} {ds : List Dat} (r : RpWA K G G1 vs ds) (e : Same G G') (e1 : Same G1 G1') : RpWA K G' G1' vs ds := by
  induction r with
  | nil => exact .nil
  | cons a b ih => exact .cons (a.mn e e1) ih
inductive ArgOk (g : Gm) (G : Hp) : List V → List Sl → Prop
  | nil : ArgOk g G [] []
  | dat {v : V} {vs : List V} {d : Dat} {ds : List Sl} : Rp g.K G v d → ArgOk g G vs ds → ArgOk g G (v :: vs) (.dat d :: ds)
  | sto {p : Addr × Addr} {vs : List V} {ds : List Sl} : p ∈ g.st → ArgOk g G vs ds → ArgOk g G (.ref p.1 :: vs) (.sto :: ds)
theorem ArgOk.mn {g : Gm} {G G' : Hp} {vs : List V} {ds : List Sl} (r : ArgOk g G vs ds) (e : Same G G') : ArgOk g G' vs ds := by
  induction r with
  | nil => exact .nil
  | dat a b ih => exact .dat (a.mn e) ih
  | sto a b ih => exact .sto a ih

/-- an expression's value stands for some d with Φ d -/
def EvC (g : Gm) (te : TE) (ρ : List Sl) (Φ : Dat → Prop) : Prop := ∀ X Y σ H (Q : VK), RS g X Y σ H ρ → (∀ d v H', Φ d → Nx g H H' → Rp g.K (hid g X σ ρ H') v d → Q v H') → te σ H Q
/-- .. at this moment -/
def EvS (g : Gm) (te : TE) (ρ : List Sl) (Φ : Dat → Prop) : Prop := ∀ X Y σ H (Q : VK), RS g X Y σ H ρ → (∀ d v H', Φ d → Nx g H H' → RpW g.K (hid g X σ ρ H') (hide g.pr H') v d → Q v H') → te σ H Q
/-- .. is a new list of ds with Φ ds -/
def EvN (g : Gm) (te : TE) (ρ : List Sl) (Φ : List Dat → Prop) : Prop := ∀ X Y σ H (Q : VK), RS g X Y σ H ρ → (∀ ds p xs H', Φ ds → Nx g H H' → H p = none → H' p = some (.lst xs) → RpA g.K (hide (p :: (X ++ (g.pr ++ owned σ ρ))) H') xs ds → Q (.ref p) H') → te σ H Q
def EvT (g : Gm) (tt : TT) (ρ : List Sl) (Φ : Bool → Prop) : Prop := ∀ X Y σ H (Q : Bool → Hp → Prop), RS g X Y σ H ρ → (∀ b H', Φ b → Nx g H H' → Q b H') → tt σ H Q
def EvA (g : Gm) (ta : TA) (ρ : List Sl) (Φ : List Dat → Prop) : Prop := ∀ X Y σ H (Q : List V → Hp → Prop), RS g X Y σ H ρ → (∀ ds vs H', Φ ds → Nx g H H' → RpA g.K (hid g X σ ρ H') vs ds → Q vs H') → ta σ H Q
def EvW (g : Gm) (ta : TA) (ρ : List Sl) (Φ : List Dat → Prop) : Prop := ∀ X Y σ H (Q : List V → Hp → Prop), RS g X Y σ H ρ → (∀ ds vs H', Φ ds → Nx g H H' → RpWA g.K (hid g X σ ρ H') (hide g.pr H') vs ds → Q vs H') → ta σ H Q
def EvP (g : Gm) (ta : TA) (ρ : List Sl) (Φ : List Sl → Prop) : Prop := ∀ X Y σ H (Q : List V → Hp → Prop), RS g X Y σ H ρ → (∀ ds vs H', Φ ds → Nx g H H' → ArgOk g (hid g X σ ρ H') vs ds → Q vs H') → ta σ H Q
def EvO (g : Gm) (to : TO) (ρ : List Sl) (Φ : Option Int → Prop) : Prop := ∀ X Y σ H (Q : Option Int → Hp → Prop), RS g X Y σ H ρ → (∀ o H', Φ o → Nx g H H' → Q o H') → to σ H Q

/-! ### operators by values -/
def OpD (K : PySem.W.Frag) (r : R2) (R : Dat → Dat → (Dat → Prop) → Prop) : Prop := ∀ (O pr : List Addr) (H : Hp) (x y : V) (dx dy : Dat) (Φ : Dat → Prop) (Q : VK), (∀ b ∈ pr, b ∈ O) → (∀ b ∈ O, H b ≠ none) →
  RpW K (hide O H) (hide pr H) x dx → RpW K (hide O H) (hide pr H) y dy → R dx dy Φ → (∀ d v H', Φ d → Same H H' → Rp K (hide O H') v d → Q v H') → r x y H Q
def OpN (K : PySem.W.Frag) (r : R2) (R : Dat → Dat → (List Dat → Prop) → Prop) : Prop := ∀ (O pr : List Addr) (H : Hp) (x y : V) (dx dy : Dat) (Φ : List Dat → Prop) (Q : VK), (∀ b ∈ pr, b ∈ O) → (∀ b ∈ O, H b ≠ none) →
  RpW K (hide O H) (hide pr H) x dx → RpW K (hide O H) (hide pr H) y dy → R dx dy Φ → (∀ ds p xs H', Φ ds → Same H H' → H p = none → H' p = some (.lst xs) → RpA K (hide (p :: O) H') xs ds → Q (.ref p) H') → r x y H Q
def UnD (K : PySem.W.Frag) (r : V → Hp → VK → Prop) (R : Dat → (Dat → Prop) → Prop) : Prop := ∀ (O pr : List Addr) (H : Hp) (x : V) (dx : Dat) (Φ : Dat → Prop) (Q : VK), (∀ b ∈ pr, b ∈ O) → (∀ b ∈ O, H b ≠ none) →
  RpW K (hide O H) (hide pr H) x dx → R dx Φ → (∀ d v H', Φ d → Same H H' → Rp K (hide O H') v d → Q v H') → r x H Q
def CbD (K : PySem.W.Frag) (r : List V → Hp → VK → Prop) (R : List Dat → (Dat → Prop) → Prop) : Prop := ∀ (O pr : List Addr) (H : Hp) (xs : List V) (dx : List Dat) (Φ : Dat → Prop) (Q : VK), (∀ b ∈ pr, b ∈ O) → (∀ b ∈ O, H b ≠ none) →
  RpWA K (hide O H) (hide pr H) xs dx → R dx Φ → (∀ d v H', Φ d → Same H H' → Rp K (hide O H') v d → Q v H') → r xs H Q
def CbN (K : PySem.W.Frag) (r : List V → Hp → VK → Prop) (R : List Dat → (List Dat → Prop) → Prop) : Prop := ∀ (O pr : List Addr) (H : Hp) (xs : List V) (dx : List Dat) (Φ : List Dat → Prop) (Q : VK), (∀ b ∈ pr, b ∈ O) → (∀ b ∈ O, H b ≠ none) →
  RpWA K (hide O H) (hide pr H) xs dx → R dx Φ → (∀ ds p ys H', Φ ds → Same H H' → H p = none → H' p = some (.lst ys) → RpA K (hide (p :: O) H') ys ds → Q (.ref p) H') → r xs H Q

section
variable {g : Gm} {X : List Addr} {Y : Hp} {σ : L2.St} {ρ : List Sl} {H H' : Hp} {te ta tb tc : TE} {tr : TA}
theorem RS.hd (R : RS g X Y σ H ρ) : ∀ b ∈ X ++ (g.pr ++ owned σ ρ), H b ≠ none := fun b hb => by
  intro z
  exact R.new z hb
theorem pr_sub {b : Addr} (h : b ∈ g.pr) : b ∈ X ++ (g.pr ++ owned σ ρ) := List.mem_append_right _ (List.mem_append_left _ h)

/-! ### one judgement from another -/
theorem EvC.mono {Φ Ψ : Dat → Prop} (h : EvC g te ρ Φ) (i : ∀ d, Φ d → Ψ d) : EvC g te ρ Ψ := fun X Y σ H Q R k => h X Y σ H Q R fun d v H' a => k d v H' (i d a)
theorem EvN.mono {Φ Ψ : List Dat → Prop} (h : EvN g te ρ Φ) (i : ∀ d, Φ d → Ψ d) : EvN g te ρ Ψ := fun X Y σ H Q R k => h X Y σ H Q R fun d v x H' a => k d v x H' (i d a)
theorem EvT.mono {tt : TT} {Φ Ψ : Bool → Prop} (h : EvT g tt ρ Φ) (i : ∀ d, Φ d → Ψ d) : EvT g tt ρ Ψ := fun X Y σ H Q R k => h X Y σ H Q R fun d H' a => k d H' (i d a)
theorem evs_of {Φ : Dat → Prop} (h : EvC g te ρ Φ) : EvS g te ρ Φ := fun X Y σ H Q R k => h X Y σ H Q R fun d v H' a n r => k d v H' a n (.of r)
theorem ev_of_n {Φ : Dat → Prop} (h : EvN g te ρ fun ds => Φ (.lst ds)) : EvC g te ρ Φ := fun X Y σ H Q R k => h X Y σ H Q R fun ds p xs H' a n hp hx r => k _ _ H' a n (.lst
  ((hide_out (R.new hp)).trans hx) (r.mn (hide_mono fun b hb => List.mem_cons_of_mem _ hb)))

/-! ### names, constants -/
theorem ev_var {i : Nat} {d : Dat} {Φ : Dat → Prop} (e : ρ[i]? = some (.dat d)) (h : Φ d) : EvC g (tVar i) ρ Φ := fun X Y σ H Q R k => by
  obtain ⟨v, h1, r⟩ := R.dat e
  exact ⟨v, h1, k d v H h R.refl r⟩
theorem evs_var {i : Nat} {d : Dat} {Φ : Dat → Prop} (e : ρ[i]? = some (.dat d)) (h : Φ d) : EvS g (tVar i) ρ Φ := evs_of (ev_var e h)
theorem evs_own {i : Nat} {a : Option Addr} {ds : List Dat} {Φ : Dat → Prop} (e : ρ[i]? = some (.own a ds)) (h : Φ (.lst ds)) : EvS g (tVar i) ρ Φ := fun X Y σ H Q R k => by
  obtain ⟨p, xs, h1, h2, r, _⟩ := R.own e
  have pm := R.nw p (own_mem h1 e (List.mem_singleton.mpr rfl))
  exact ⟨.ref p, h1, k _ _ H h R.refl (.lst ((hide_out pm.2).trans h2) r)⟩
theorem evs_ownK {i : Nat} {ds : List (Key × Dat)} {Φ : Dat → Prop} (e : ρ[i]? = some (.ownK ds)) (h : Φ (.dic ds)) : EvS g (tVar i) ρ Φ := fun X Y σ H Q R k => by
  obtain ⟨p, xs, h1, h2, r⟩ := R.ownK e
  have pm := R.nw p (own_mem h1 e (List.mem_singleton.mpr rfl))
  exact ⟨.ref p, h1, k _ _ H h R.refl (.dic ((hide_out pm.2).trans h2) r)⟩
theorem ev_int {i : Int} {Φ : Dat → Prop} (h : Φ (.int i)) : EvC g (tC (.int i)) ρ Φ := fun X Y σ H Q R k => k _ _ H h R.refl (.int i)
theorem ev_str {i : Str} {Φ : Dat → Prop} (h : Φ (.str i)) : EvC g (tC (.str i)) ρ Φ := fun X Y σ H Q R k => k _ _ H h R.refl (.str i)
theorem ev_bl {i : Bool} {Φ : Dat → Prop} (h : Φ (.bl i)) : EvC g (tC (.bl i)) ρ Φ := fun X Y σ H Q R k => k _ _ H h R.refl (.bl i)
theorem ev_non {Φ : Dat → Prop} (h : Φ .non) : EvC g (tC .non) ρ Φ := fun X Y σ H Q R k => k _ _ H h R.refl .non

/-! ### operators -/
theorem ev_op {r : R2} {R : Dat → Dat → (Dat → Prop) → Prop} {Φ : Dat → Prop} (o : OpD g.K r R) (h : EvS g ta ρ fun x => EvS g tb ρ fun y => R x y Φ) : EvC g (tOp r ta tb) ρ Φ := fun X Y σ H Q S k =>
  h X Y σ H _ S fun dx x H1 hb n1 rx => hb X Y σ H1 _ (S.nx n1) fun dy y H2 hR n2 ry =>
    o (X ++ (g.pr ++ owned σ ρ)) g.pr H2 x y dx dy Φ Q (fun _ => pr_sub) ((S.nx n1).nx n2).hd (rx.mn n2.hid n2.hidp) ry hR fun d v H3 hd e3 r3 => k d v H3 hd (n1.trans (n2.trans (((S.nx n1).nx n2).same e3))) r3
theorem en_op {r : R2} {R : Dat → Dat → (List Dat → Prop) → Prop} {Φ : List Dat → Prop} (o : OpN g.K r R) (h : EvS g ta ρ fun x => EvS g tb ρ fun y => R x y Φ) : EvN g (tOp r ta tb) ρ Φ := fun X Y σ H Q S k =>
  h X Y σ H _ S fun dx x H1 hb n1 rx => hb X Y σ H1 _ (S.nx n1) fun dy y H2 hR n2 ry =>
    o (X ++ (g.pr ++ owned σ ρ)) g.pr H2 x y dx dy Φ Q (fun _ => pr_sub) ((S.nx n1).nx n2).hd (rx.mn n2.hid n2.hidp) ry hR fun ds p xs H3 hd e3 hp hx r3 => k ds p xs H3 hd (n1.trans (n2.trans (((S.nx n1).nx n2).same e3)))
      (by
        have z := (S.nx n1).nx n2
        cases e : H p with
        | none => rfl
        | some o =>
          by_cases q : p ∈ g.pr
          · exact absurd hp (z.st.some q)
          · rw [n2.kp p o (n1.kp p o e q) q] at hp; cases hp) hx r3
theorem ev_un {r : V → Hp → VK → Prop} {R : Dat → (Dat → Prop) → Prop} {Φ : Dat → Prop} (o : UnD g.K r R) (h : EvS g ta ρ fun x => R x Φ) : EvC g (tUn r ta) ρ Φ := fun X Y σ H Q S k =>
  h X Y σ H _ S fun dx x H1 hb n1 rx => o (X ++ (g.pr ++ owned σ ρ)) g.pr H1 x dx Φ Q (fun _ => pr_sub) (S.nx n1).hd rx hb fun d v H3 hd e3 r3 => k d v H3 hd (n1.trans ((S.nx n1).same e3)) r3
theorem nx_none (S : RS g X Y σ H ρ) (n : Nx g H H') {p : Addr} (h : H' p = none) : H p = none := by
  cases e : H p with
  | none => rfl
  | some o =>
    by_cases q : p ∈ g.pr
    · exact absurd h (n.st.some q)
    · rw [n.kp p o e q] at h; cases h
theorem ev_cb {r : List V → Hp → VK → Prop} {R : List Dat → (Dat → Prop) → Prop} {Φ : Dat → Prop} (o : CbD g.K r R) (h : EvW g tr ρ fun x => R x Φ) : EvC g (tCB r tr) ρ Φ := fun X Y σ H Q S k =>
  h X Y σ H _ S fun dx x H1 hb n1 rx => o (X ++ (g.pr ++ owned σ ρ)) g.pr H1 x dx Φ Q (fun _ => pr_sub) (S.nx n1).hd rx hb fun d v H3 hd e3 r3 => k d v H3 hd (n1.trans ((S.nx n1).same e3)) r3
theorem en_cb {r : List V → Hp → VK → Prop} {R : List Dat → (List Dat → Prop) → Prop} {Φ : List Dat → Prop} (o : CbN g.K r R) (h : EvW g tr ρ fun x => R x Φ) : EvN g (tCB r tr) ρ Φ := fun X Y σ H Q S k =>
  h X Y σ H _ S fun dx x H1 hb n1 rx => o (X ++ (g.pr ++ owned σ ρ)) g.pr H1 x dx Φ Q (fun _ => pr_sub) (S.nx n1).hd rx hb fun d p xs H3 hd e3 hp hx r3 => k d p xs H3 hd (n1.trans ((S.nx n1).same e3)) (nx_none S n1 hp) hx r3

/-! ### argument lists -/
theorem ea_nil {Φ : List Dat → Prop} (h : Φ []) : EvA g tNil ρ Φ := fun X Y σ H Q R k => k [] [] H h R.refl .nil
theorem ea_cons {Φ : List Dat → Prop} (h : EvC g te ρ fun d => EvA g tr ρ fun ds => Φ (d :: ds)) : EvA g (tCons te tr) ρ Φ := fun X Y σ H Q R k =>
  h X Y σ H _ R fun d v H1 h2 n1 r1 => h2 X Y σ H1 _ (R.nx n1) fun ds vs H2 hf n2 r2 => k (d :: ds) (v :: vs) H2 hf (n1.trans n2) (.cons (r1.mn n2.hid) r2)
theorem ew_nil {Φ : List Dat → Prop} (h : Φ []) : EvW g tNil ρ Φ := fun X Y σ H Q R k => k [] [] H h R.refl .nil
theorem ew_cons {Φ : List Dat → Prop} (h : EvS g te ρ fun d => EvW g tr ρ fun ds => Φ (d :: ds)) : EvW g (tCons te tr) ρ Φ := fun X Y σ H Q R k =>
  h X Y σ H _ R fun d v H1 h2 n1 r1 => h2 X Y σ H1 _ (R.nx n1) fun ds vs H2 hf n2 r2 => k (d :: ds) (v :: vs) H2 hf (n1.trans n2) (.cons (r1.mn n2.hid n2.hidp) r2)
theorem ep_nil {Φ : List Sl → Prop} (h : Φ []) : EvP g tNil ρ Φ := fun X Y σ H Q R k => k [] [] H h R.refl .nil
theorem ep_cons {Φ : List Sl → Prop} (h : EvC g te ρ fun d => EvP g tr ρ fun ds => Φ (.dat d :: ds)) : EvP g (tCons te tr) ρ Φ := fun X Y σ H Q R k =>
  h X Y σ H _ R fun d v H1 h2 n1 r1 => h2 X Y σ H1 _ (R.nx n1) fun ds vs H2 hf n2 r2 => k (.dat d :: ds) (v :: vs) H2 hf (n1.trans n2) (.dat (r1.mn n2.hid) r2)
theorem ep_sto {i : Nat} {Φ : List Sl → Prop} (e : ρ[i]? = some .sto) (h : EvP g tr ρ fun ds => Φ (.sto :: ds)) : EvP g (tCons (tVar i) tr) ρ Φ := fun X Y σ H Q R k => by
  obtain ⟨p, h1, h2⟩ := R.sto e
  exact ⟨_, h1, h X Y σ H _ R fun ds vs H2 hf n2 r2 => k (.sto :: ds) (.ref p.1 :: vs) H2 hf n2 (.sto h2 r2)⟩

/-! ### displays -/
theorem ev_tup {Φ : Dat → Prop} (h : EvA g tr ρ fun ds => ds.length ≤ sizeLine ∧ Φ (.tup ds)) : EvC g (tTup tr) ρ Φ := fun X Y σ H Q R k =>
  h X Y σ H _ R fun ds vs H1 hf n1 r1 => ⟨by rw [r1.length]; exact hf.1, fun p hp => k _ _ _ hf.2 (n1.trans ((R.nx n1).same (upd_new hp)))
    (.tup (SqT.of (hid_upd (R.nx n1) hp)) (r1.mn ((R.nx n1).same (upd_new hp)).hid))⟩
theorem hide_cons_upd {O : List Addr} {p : Addr} {o : HO} (hp : H p = none) : Same (hide O H) (hide (p :: O) (upd H p o)) := fun b u e => by
  obtain ⟨h1, h2⟩ := hide_some e
  have q : b ≠ p := ne_of_none h2 hp
  rw [hide_out (fun z => by rcases List.mem_cons.mp z with z | z; exact q z; exact h1 z), upd_ne q]
  exact h2
theorem en_lst {Φ : List Dat → Prop} (h : EvA g tr ρ fun ds => ds.length ≤ sizeLine ∧ Φ ds) : EvN g (tLst tr) ρ Φ := fun X Y σ H Q R k =>
  h X Y σ H _ R fun ds vs H1 hf n1 r1 => ⟨by rw [r1.length]; exact hf.1, fun p hp => k _ _ _ _ hf.2 (n1.trans ((R.nx n1).same (upd_new hp))) (nx_none R n1 hp) upd_same (r1.mn (hide_cons_upd hp))⟩

/-! ### tests -/
def dBl : Dat → (Bool → Prop) → Prop
  | .bl b, Φ => Φ b
  | _, _ => False
theorem dBl_inv {d : Dat} {Φ : Bool → Prop} (h : dBl d Φ) : ∃ b, d = .bl b ∧ Φ b := by
  cases d with
  | bl b => exact ⟨b, rfl, h⟩
  | _ => cases h
theorem et_test {Φ : Bool → Prop} (h : EvC g te ρ fun d => dBl d Φ) : EvT g (tTest te) ρ Φ := fun X Y σ H Q R k =>
  h X Y σ H _ R fun d v H1 hd n1 r1 => by
    obtain ⟨b, rfl, hb⟩ := dBl_inv hd
    cases r1
    exact ⟨b, rfl, k b H1 hb n1⟩
theorem et_B {Φ : Bool → Prop} (h : EvC g te ρ fun d => dBl d Φ) : EvT g (tB te) ρ Φ := fun X Y σ H Q R k =>
  h X Y σ H _ R fun d v H1 hd n1 r1 => by
    obtain ⟨b, rfl, hb⟩ := dBl_inv hd
    cases r1
    exact ⟨b, rfl, k b H1 hb n1⟩
theorem et_and {t u : TT} {Φ : Bool → Prop} (h : EvT g t ρ fun c => if c = true then EvT g u ρ Φ else Φ false) : EvT g (tAnd t u) ρ Φ := fun X Y σ H Q R k =>
  h X Y σ H _ R fun c H1 hc n1 => by
    cases c with
    | true => exact iteT ((by simpa using hc : EvT g u ρ Φ) X Y σ H1 _ (R.nx n1) fun b H2 hb n2 => k b H2 hb (n1.trans n2))
    | false => exact iteF (k false H1 (by simpa using hc) n1)
theorem et_or {t u : TT} {Φ : Bool → Prop} (h : EvT g t ρ fun c => if c = true then Φ true else EvT g u ρ Φ) : EvT g (tOr t u) ρ Φ := fun X Y σ H Q R k =>
  h X Y σ H _ R fun c H1 hc n1 => by
    cases c with
    | true => exact iteT (k true H1 (by simpa using hc) n1)
    | false => exact iteF ((by simpa using hc : EvT g u ρ Φ) X Y σ H1 _ (R.nx n1) fun b H2 hb n2 => k b H2 hb (n1.trans n2))
theorem et_not {t : TT} {Φ : Bool → Prop} (h : EvT g t ρ fun c => Φ (!c)) : EvT g (tNot t) ρ Φ := fun X Y σ H Q R k => h X Y σ H _ R fun c H1 hc n1 => k (!c) H1 hc n1
theorem ev_if {t : TT} {Φ : Dat → Prop} (h : EvT g t ρ fun c => if c = true then EvC g ta ρ Φ else EvC g tb ρ Φ) : EvC g (tIf t ta tb) ρ Φ := fun X Y σ H Q R k =>
  h X Y σ H _ R fun c H1 hc n1 => by
    cases c with
    | true => exact iteT ((by simpa using hc : EvC g ta ρ Φ) X Y σ H1 _ (R.nx n1) fun d v H2 hb n2 => k d v H2 hb (n1.trans n2))
    | false => exact iteF ((by simpa using hc : EvC g tb ρ Φ) X Y σ H1 _ (R.nx n1) fun d v H2 hb n2 => k d v H2 hb (n1.trans n2))
theorem ev_andV {Φ : Dat → Prop} (h : EvC g ta ρ fun d => dBl d fun c => if c = true then EvC g tb ρ Φ else Φ (.bl false)) : EvC g (tAndV ta tb) ρ Φ := fun X Y σ H Q R k =>
  h X Y σ H _ R fun d v H1 hd n1 r1 => by
    obtain ⟨c, rfl, hc⟩ := dBl_inv hd
    cases r1
    refine ⟨c, rfl, ?_⟩
    cases c with
    | true => exact iteT ((by simpa using hc : EvC g tb ρ Φ) X Y σ H1 _ (R.nx n1) fun d v H2 hb n2 => k d v H2 hb (n1.trans n2))
    | false => exact iteF (k _ _ H1 (by simpa using hc) n1 (.bl false))
theorem ev_orV {Φ : Dat → Prop} (h : EvC g ta ρ fun d => dBl d fun c => if c = true then Φ (.bl true) else EvC g tb ρ Φ) : EvC g (tOrV ta tb) ρ Φ := fun X Y σ H Q R k =>
  h X Y σ H _ R fun d v H1 hd n1 r1 => by
    obtain ⟨c, rfl, hc⟩ := dBl_inv hd
    cases r1
    refine ⟨c, rfl, ?_⟩
    cases c with
    | true => exact iteT (k _ _ H1 (by simpa using hc) n1 (.bl true))
    | false => exact iteF ((by simpa using hc : EvC g tb ρ Φ) X Y σ H1 _ (R.nx n1) fun d v H2 hb n2 => k d v H2 hb (n1.trans n2))
theorem ev_notV {Φ : Dat → Prop} (h : EvC g ta ρ fun d => dBl d fun c => Φ (.bl (!c))) : EvC g (tNotV ta) ρ Φ := fun X Y σ H Q R k =>
  h X Y σ H _ R fun d v H1 hd n1 r1 => by
    obtain ⟨c, rfl, hc⟩ := dBl_inv hd
    cases r1
    exact ⟨c, rfl, k _ _ H1 hc n1 (.bl _)⟩
/-- a value's truth -/
def dTru : Dat → (Bool → Prop) → Prop
  | .non, Φ => Φ false
  | .bl b, Φ => Φ b
  | .int i, Φ => Φ (i != 0)
  | .str y, Φ => y.length ≤ sizeLine ∧ Φ ((y.length : Int) != 0)
  | .lst ds, Φ => Φ (!ds.isEmpty)
  | .tup ds, Φ => Φ (!ds.isEmpty)
  | .dic ds, Φ => Φ (!ds.isEmpty)
  | _, _ => False
theorem et_tru {Φ : Bool → Prop} (h : EvS g te ρ fun d => dTru d Φ) : EvT g (fun σ H Q => te σ H fun x H' => ∃ k, TruV g.K x H' k ∧ Q k H') ρ Φ := fun X Y σ H Q R k =>
  h X Y σ H _ R fun d v H1 hd n1 r1 => by
    cases d with
    | non => cases r1.non_inv; exact ⟨false, rfl, k _ H1 hd n1⟩
    | bl b => cases r1.bl_inv; exact ⟨b, rfl, k _ H1 hd n1⟩
    | int i => cases r1.int_inv; exact ⟨_, rfl, k _ H1 hd n1⟩
    | str y => cases r1.str_inv; exact ⟨_, ⟨hd.1, rfl⟩, k _ H1 hd.2 n1⟩
    | lst ds =>
      obtain ⟨a, xs, rfl, h1, h2⟩ := r1.lst_inv hid_p
      refine ⟨!ds.isEmpty, .inl ⟨xs, SqL.of (hide_same _ _ h1), ?_⟩, k _ H1 hd n1⟩
      have := h2.length
      cases xs <;> cases ds <;> first | rfl | cases this
    | tup ds =>
      obtain ⟨a, xs, rfl, h1, h2⟩ := r1.tup_inv hid_p
      refine ⟨!ds.isEmpty, .inr (.inl ⟨xs, Same.sqT hide_same h1, ?_⟩), k _ H1 hd n1⟩
      have := h2.length
      cases xs <;> cases ds <;> first | rfl | cases this
    | dic ds =>
      obtain ⟨a, xs, rfl, h1, h2⟩ := r1.dic_inv hid_p
      refine ⟨!ds.isEmpty, .inr (.inr ⟨xs, hide_same _ _ h1, ?_⟩), k _ H1 hd n1⟩
      cases h2 <;> rfl
    | ins C fs => cases hd

/-! ### parts of a slice -/
theorem eo_none {Φ : Option Int → Prop} (h : Φ none) : EvO g tNoPart ρ Φ := fun X Y σ H Q R k => k none H h R.refl
def dInt : Dat → (Int → Prop) → Prop
  | .int b, Φ => Φ b
  | _, _ => False
theorem dInt_inv {d : Dat} {Φ : Int → Prop} (h : dInt d Φ) : ∃ b, d = .int b ∧ Φ b := by
  cases d with
  | int b => exact ⟨b, rfl, h⟩
  | _ => cases h
theorem eo_some {Φ : Option Int → Prop} (h : EvC g te ρ fun d => dInt d fun i => Φ (some i)) : EvO g (tPart te) ρ Φ := fun X Y σ H Q R k =>
  h X Y σ H _ R fun d v H1 hd n1 r1 => by
    obtain ⟨b, rfl, hb⟩ := dInt_inv hd
    cases r1
    exact ⟨b, rfl, k _ H1 hb n1⟩
/-- xs[lo:hi] of a list -/
def dSlL : Dat → Option Int → Option Int → (List Dat → Prop) → Prop
  | .lst xs, lo, hi, Φ => Φ ((xs.drop (HT.sIx xs.length 0 lo)).take (HT.sIx xs.length xs.length hi - HT.sIx xs.length 0 lo))
  | _, _, _, _ => False
theorem en_slL {tl th : TO} {Φ : List Dat → Prop} (h : EvS g te ρ fun d => EvO g tl ρ fun lo => EvO g th ρ fun hi => dSlL d lo hi Φ) : EvN g (tSl (rSlL g.K) te tl th) ρ Φ := fun X Y σ H Q R k =>
  h X Y σ H _ R fun d v H1 h1 n1 r1 => h1 X Y σ H1 _ (R.nx n1) fun lo H2 h2 n2 => h2 X Y σ H2 _ ((R.nx n1).nx n2) fun hi H3 h3 n3 => by
    have n := n1.trans (n2.trans n3)
    have r3 := r1.mn (n2.trans n3).hid (n2.trans n3).hidp
    cases d with
    | lst ds =>
      obtain ⟨a, xs, rfl, q1, q2⟩ := r3.lst_inv hid_p
      refine ⟨a, xs, rfl, SqL.of (hide_same _ _ q1), fun p hp => ?_⟩
      refine k _ p _ _ h3 (n.trans ((R.nx n).same (upd_new hp))) (nx_none R n hp) upd_same ?_
      have e := q2.length
      unfold cutV
      rw [e]
      exact ((q2.drop _).take _).mn (hide_cons_upd hp)
    | _ => cases h3
/-- s[lo:hi] of a text -/
def dSlS : Dat → Option Int → Option Int → (Dat → Prop) → Prop
  | .str z, lo, hi, Φ => z.length ≤ sizeLine ∧ Φ (.str (cutS z lo hi))
  | _, _, _, _ => False
theorem ev_slS {tl th : TO} {Φ : Dat → Prop} (h : EvS g te ρ fun d => EvO g tl ρ fun lo => EvO g th ρ fun hi => dSlS d lo hi Φ) : EvC g (tSl rSlS te tl th) ρ Φ := fun X Y σ H Q R k =>
  h X Y σ H _ R fun d v H1 h1 n1 r1 => h1 X Y σ H1 _ (R.nx n1) fun lo H2 h2 n2 => h2 X Y σ H2 _ ((R.nx n1).nx n2) fun hi H3 h3 n3 => by
    have n := n1.trans (n2.trans n3)
    cases d with
    | str z =>
      cases r1.str_inv
      exact ⟨z, rfl, h3.1, k _ _ H3 h3.2 n (.str _)⟩
    | _ => cases h3
end
end NW

/-! NwD: the rules of statements; what a def promises over data. -/
namespace NW
open PySem PySem.Spec PyProof.Rows L2

structure DE where
  nx : List Sl → Prop
  rt : Dat → List Sl → Prop
  rn : List Dat → List Sl → Prop
  bk : List Sl → Prop := fun _ => False
  ct : List Sl → Prop := fun _ => False
  rs : Sl → List Sl → Prop := fun _ _ => False
structure Ms (g : Gm) (X : List Addr) (Y : Hp) (D : Ends) (E : DE) : Prop where
  nx : ∀ σ H ρ, E.nx ρ → RS g X Y σ H ρ → D.nx σ H
  rt : ∀ d v σ H ρ, E.rt d ρ → RS g X Y σ H ρ → Rp g.K (hide (X ++ g.pr) H) v d → D.rt v H
  rn : ∀ ds p xs σ H ρ, E.rn ds ρ → RS g X Y σ H ρ → Y p = none → p ∉ X ++ g.pr → H p = some (.lst xs) → RpA g.K (hide (p :: (X ++ g.pr)) H) xs ds → (∀ b es, Sl.own (some b) es ∈ ρ → p ≠ b) → D.rt (.ref p) H
  bk : ∀ σ H ρ, E.bk ρ → RS g X Y σ H ρ → D.bk σ H
  ct : ∀ σ H ρ, E.ct ρ → RS g X Y σ H ρ → D.ct σ H
  rs : ∀ s v σ H ρ, E.rs s ρ → RS g X Y σ H ρ → (∀ q ∈ ownA (some v) s, Y q = none ∧ q ∉ X ++ g.pr) → (ownA (some v) s).Nodup → SlOk g (hide (ownA (some v) s ++ (X ++ g.pr)) H) H (some v) s → D.rt v H
def DSt (g : Gm) (t : TS) (ρ : List Sl) (E : DE) : Prop := ∀ X Y σ H (D : Ends), RS g X Y σ H ρ → Ms g X Y D E → t D σ H

section
variable {g : Gm} {X : List Addr} {Y : Hp} {σ : L2.St} {ρ : List Sl} {H H' : Hp} {te ta tb tc : TE} {tr : TA} {t u : TS} {E : DE} {D : Ends}
theorem RS.sy (R : RS g X Y σ H ρ) : Same Y H := fun b o e => (R.fr b o e).1
theorem hid_r : Same (hid g X σ ρ H) (hide (X ++ g.pr) H) := hide_mono fun b hb => by
  rcases List.mem_append.mp hb with z | z
  · exact List.mem_append_left _ z
  · exact List.mem_append_right _ (List.mem_append_left _ z)
/-! ### sequence, ends -/
theorem ds_seq (h : DSt g t ρ { E with nx := fun ρ' => DSt g u ρ' E }) : DSt g (tSeq t u) ρ E := fun X Y σ H D R M =>
  h X Y σ H { D with nx := u D } R ⟨fun σ H ρ hu R' => hu X Y σ H D R' M, M.rt, M.rn, M.bk, M.ct, M.rs⟩
theorem ds_cut (Mid : List Sl → Prop) (h : DSt g t ρ { E with nx := Mid }) (k : ∀ ρ', Mid ρ' → DSt g u ρ' E) : DSt g (tSeq t u) ρ E := fun X Y σ H D R M =>
  h X Y σ H { D with nx := u D } R ⟨fun σ H ρ hu R' => k ρ hu X Y σ H D R' M, M.rt, M.rn, M.bk, M.ct, M.rs⟩
theorem DSt.mono {E' : DE} (h : DSt g t ρ E) (h1 : ∀ ρ, E.nx ρ → E'.nx ρ) (h2 : ∀ d ρ, E.rt d ρ → E'.rt d ρ) (h3 : ∀ d ρ, E.rn d ρ → E'.rn d ρ) (h4 : ∀ ρ, E.bk ρ → E'.bk ρ) (h5 : ∀ ρ, E.ct ρ → E'.ct ρ) (h6 : ∀ s ρ, E.rs s ρ → E'.rs s ρ) : DSt g t ρ E' := fun X Y σ H D R M =>
  h X Y σ H D R ⟨fun σ H ρ e => M.nx σ H ρ (h1 ρ e), fun d v σ H ρ e => M.rt d v σ H ρ (h2 d ρ e), fun ds p xs σ H ρ e => M.rn ds p xs σ H ρ (h3 ds ρ e), fun σ H ρ e => M.bk σ H ρ (h4 ρ e), fun σ H ρ e => M.ct σ H ρ (h5 ρ e), fun s v σ H ρ e => M.rs s v σ H ρ (h6 s ρ e)⟩
theorem RS.fixed (R : RS g X Y σ H ρ) {b : Addr} {es : List Dat} (h : Sl.own (some b) es ∈ ρ) : b ∈ owned σ ρ := by
  obtain ⟨k, hk, e⟩ := List.mem_iff_getElem.mp h
  have e' := List.getElem?_eq_getElem hk
  rw [e] at e'
  obtain ⟨p, xs, h1, _, _, ha⟩ := R.own e'
  rw [← ha b rfl]
  exact own_mem h1 e' (List.mem_singleton.mpr rfl)
theorem RS.fixed_ne (R : RS g X Y σ H ρ) {i : Nat} {ds : List Dat} (e : ρ[i]? = some (.own none ds)) {p : Addr} (hp : σ[i]? = some (some (.ref p))) {b : Addr} {es : List Dat} (h : Sl.own (some b) es ∈ ρ) : p ≠ b := fun z => by
  obtain ⟨k, hk, e2⟩ := List.mem_iff_getElem.mp h
  have e' := List.getElem?_eq_getElem hk
  rw [e2] at e'
  obtain ⟨q, xs, h1, _, _, ha⟩ := R.own e'
  have hq := ha b rfl
  subst hq
  subst z
  have := own_ne R.nd hp e h1 e' (List.mem_singleton.mpr rfl) (List.mem_singleton.mpr rfl)
  subst this
  rw [e] at e'
  cases e'
theorem ds_next (h : E.nx ρ) : DSt g tNext ρ E := fun X Y σ H D R M => M.nx σ H ρ h R
theorem ds_break (h : E.bk ρ) : DSt g tBreak ρ E := fun X Y σ H D R M => M.bk σ H ρ h R
theorem ds_cont (h : E.ct ρ) : DSt g tCont ρ E := fun X Y σ H D R M => M.ct σ H ρ h R
theorem ds_drop (h : EvC g te ρ fun _ => E.nx ρ) : DSt g (tDrop te) ρ E := fun X Y σ H D R M => h X Y σ H _ R fun d v H1 hd n1 r1 => M.nx σ H1 ρ hd (R.nx n1)
theorem ds_ret (h : EvC g te ρ fun d => E.rt d ρ) : DSt g (tRet te) ρ E := fun X Y σ H D R M => h X Y σ H _ R fun d v H1 hd n1 r1 => M.rt d v σ H1 ρ hd (R.nx n1) (r1.mn hid_r)
theorem ds_retN (h : EvN g te ρ fun ds => E.rn ds ρ) : DSt g (tRet te) ρ E := fun X Y σ H D R M => h X Y σ H _ R fun ds p xs H1 hd n1 hp hx r1 => by
  have np := R.new hp
  refine M.rn ds p xs σ H1 ρ hd (R.nx n1) (R.yn hp) (fun z => np ?_) hx (r1.mn (hide_mono fun b hb => ?_)) fun b es hm z => np (List.mem_append_right _ (List.mem_append_right _ (z ▸ R.fixed hm)))
  · rcases List.mem_append.mp z with z | z
    · exact List.mem_append_left _ z
    · exact pr_sub z
  · rcases List.mem_cons.mp hb with z | z
    · exact z ▸ List.mem_cons_self
    · rcases List.mem_append.mp z with z | z
      · exact List.mem_cons_of_mem _ (List.mem_append_left _ z)
      · exact List.mem_cons_of_mem _ (pr_sub z)
/-- return x, x a list that the slot owns -/
theorem ds_retO {i : Nat} {ds : List Dat} (e : ρ[i]? = some (.own none ds)) (h : E.rn ds ρ) : DSt g (tRet (tVar i)) ρ E := fun X Y σ H D R M => by
  obtain ⟨p, xs, h1, h2, r, ha⟩ := R.own e
  have pm := own_mem h1 e (List.mem_singleton.mpr rfl)
  have pw := R.nw p pm
  refine ⟨_, h1, M.rn ds p xs σ H ρ h R pw.1 (fun z => ?_) h2 (r.mn (hide_mono fun b hb => ?_)) fun b es hm z => R.fixed_ne e h1 hm z⟩
  · rcases List.mem_append.mp z with z | z
    · exact (R.xd p z).2 pm
    · exact pw.2 z
  · rcases List.mem_cons.mp hb with z | z
    · exact z ▸ List.mem_append_right _ (List.mem_append_right _ pm)
    · rcases List.mem_append.mp z with z | z
      · exact List.mem_append_left _ z
      · exact pr_sub z
theorem ds_retNone (h : E.rt .non ρ) : DSt g tRetN ρ E := fun X Y σ H D R M => M.rt _ _ σ H ρ h R .non
/-- a list that slot i owns is from now on a plain one -/
theorem ds_freeze {i : Nat} {a : Option Addr} {ds : List Dat} (e : ρ[i]? = some (.own a ds)) (h : DSt g t (ρ.set i (.dat (.lst ds))) E) : DSt g t ρ E := fun X Y σ H D R M => by
  obtain ⟨p, xs, h1, h2, r, ha⟩ := R.own e
  have pm := own_mem h1 e (List.mem_singleton.mpr rfl)
  refine h X Y σ H D ?_ M
  have e0 : σ.set i (some (.ref p)) = σ := by
    apply List.ext_getElem?
    intro j
    rw [List.getElem?_set]
    by_cases q : i = j
    · subst q
      rw [if_pos rfl, h1]
      have : i < σ.length := by
        by_cases z : i < σ.length
        · exact z
        · rw [List.getElem?_eq_none_iff.mpr (by omega)] at h1; cases h1
      rw [if_pos this]
    · rw [if_neg q]
  have R1 := R.forget (i := i) (some (.ref p))
  rw [e0] at R1
  have np : p ∉ X ++ (g.pr ++ owned σ (ρ.set i .no)) := fun z => by
    rcases List.mem_append.mp z with z | z
    · exact (R.xd p z).2 pm
    · rcases List.mem_append.mp z with z | z
      · exact (R.nw p pm).2 z
      · have key : ∀ {σ : L2.St} {ρ : List Sl} {i : Nat}, (owned σ ρ).Nodup → σ[i]? = some (some (.ref p)) → ρ[i]? = some (.own a ds) → p ∉ owned σ (ρ.set i .no) := by
          intro σ
          induction σ with
          | nil => intro ρ i _ h _; cases h
          | cons x σ ih =>
            intro ρ i nd h1 h2 hp
            cases ρ with
            | nil => cases h2
            | cons s ρ =>
              have nd' : (ownA x s ++ owned σ ρ).Nodup := nd
              cases i with
              | zero =>
                cases h1
                cases h2
                rcases List.mem_append.mp (show p ∈ ownA (some (.ref p)) .no ++ owned σ ρ from hp) with q | q
                · cases q
                · exact (List.nodup_cons.mp nd').1 q
              | succ i =>
                rw [List.nodup_append] at nd'
                rcases List.mem_append.mp (show p ∈ ownA x s ++ owned σ (ρ.set i .no) from hp) with q | q
                · exact nd'.2.2 p q p (own_mem (by simpa using h1) (by simpa using h2) (List.mem_singleton.mpr rfl)) rfl
                · exact ih nd'.2.1 (by simpa using h1) (by simpa using h2) q
        exact key R.nd h1 e z
  have R2 := R1.setD (i := i) (v := .ref p) (d := .lst ds) (.lst ((hide_out np).trans h2) (r.mn (hide_mono fun b hb => ?_)))
  · rw [e0, List.set_set] at R2
    exact R2
  · rcases List.mem_append.mp hb with z | z
    · exact List.mem_append_left _ z
    · rcases List.mem_append.mp z with z | z
      · exact pr_sub z
      · have z' : b ∈ owned (σ.set i (some (.ref p))) (ρ.set i .no) := by rw [e0]; exact z
        rcases owned_set b z' with w | w
        · rw [ownA_no] at w; cases w
        · exact List.mem_append_right _ (List.mem_append_right _ w)
/-! ### stores to names -/
theorem ds_asg {i : Nat} (h : EvC g te ρ fun d => E.nx (ρ.set i (.dat d))) : DSt g (tAsg te (gName i)) ρ E := fun X Y σ H D R M =>
  h X Y σ H _ R fun d v H1 hd n1 r1 => M.nx _ H1 _ hd ((R.nx n1).setD r1)
theorem ds_asgN {i : Nat} (h : EvN g te ρ fun ds => E.nx (ρ.set i (.own none ds))) : DSt g (tAsg te (gName i)) ρ E := fun X Y σ H D R M =>
  h X Y σ H _ R fun ds p xs H1 hd n1 hp hx r1 => by
    have R1 := R.nx n1
    have np := R.new hp
    refine M.nx _ H1 _ hd (R1.setO rfl (R.yn hp) np (by rw [hx]; intro z; cases z) (.own (fun _ z => nomatch z) hx r1) (R.sl.mono ?_ fun q hq o e => n1.kp q o e (R.nw q hq).2))
    intro b o e
    obtain ⟨h1, h2⟩ := hide_some e
    have q : b ≠ p := ne_of_none h2 hp
    rw [hide_out (fun z => by rcases List.mem_cons.mp z with z | z; exact q z; exact h1 z)]
    exact n1.kp b o h2 fun z => h1 (pr_sub z)
/-- x, y, .. = e -/
def dTup : Dat → (List Dat → Prop) → Prop
  | .tup ds, Φ => Φ ds
  | _, _ => False
inductive PutS : List Nat → List Dat → List Sl → List Sl → Prop
  | nil {ρ : List Sl} : PutS [] [] ρ ρ
  | cons {i : Nat} {is : List Nat} {d : Dat} {ds : List Dat} {ρ ρ' : List Sl} : PutS is ds (ρ.set i (.dat d)) ρ' → PutS (i :: is) (d :: ds) ρ ρ'
def putS : List Nat → List Dat → List Sl → List Sl
  | i :: is, d :: ds, ρ => putS is ds (ρ.set i (.dat d))
  | _, _, ρ => ρ
def gNames : List Nat → TGs
  | [] => gNil
  | i :: is => gCons (gName i) (gNames is)
theorem gNames_ok {is : List Nat} : ∀ {ds : List Dat} {vs : List V} {σ : L2.St} {ρ : List Sl} {Q : L2.St → Hp → Prop}, is.length = ds.length → RS g X Y σ H ρ → RpA g.K (hid g X σ ρ H) vs ds → (∀ σ', RS g X Y σ' H (putS is ds ρ) → Q σ' H) → gNames is vs σ H Q := by
  induction is with
  | nil =>
    intro ds vs σ ρ Q hl R r k
    cases ds with
    | nil => cases r; exact ⟨rfl, k σ R⟩
    | cons d ds => cases hl
  | cons i is ih =>
    intro ds vs σ ρ Q hl R r k
    cases ds with
    | nil => cases hl
    | cons d ds =>
      cases r with
      | cons r1 r2 =>
        refine ⟨_, _, rfl, ?_⟩
        have R1 := R.setD (i := i) r1
        refine ih (by simpa using hl) R1 (r2.mn ?_) k
        refine hide_mono fun b hb => ?_
        rcases List.mem_append.mp hb with z | z
        · exact List.mem_append_left _ z
        · rcases List.mem_append.mp z with z | z
          · exact pr_sub z
          · rcases owned_set b z with w | w
            · rw [ownA_dat] at w; cases w
            · exact List.mem_append_right _ (List.mem_append_right _ w)
theorem ds_asgT {n : Nat} {is : List Nat} (h : EvC g te ρ fun d => dTup d fun ds => is.length = n ∧ ds.length = n ∧ E.nx (putS is ds ρ)) : DSt g (tAsg te (gTup g.K n (gNames is))) ρ E := fun X Y σ H D R M =>
  h X Y σ H _ R fun d v H1 hd n1 r1 => by
    cases d with
    | tup ds =>
      cases r1 with
      | tup h2 r2 =>
        have e := r2.length
        exact ⟨_, _, rfl, Same.sqT hide_same h2, by rw [e]; exact hd.2.1, gNames_ok (by rw [hd.1, hd.2.1]) (R.nx n1) r2 fun σ' R' => M.nx _ _ _ hd.2.2 R'⟩
    | _ => cases hd
/-! ### branches -/
theorem ds_if {c : TT} (h : EvT g c ρ fun b => if b = true then DSt g t ρ E else DSt g u ρ E) : DSt g (tIfS c t u) ρ E := fun X Y σ H D R M =>
  h X Y σ H _ R fun b H1 hb n1 => by
    cases b with
    | true => exact iteT ((by simpa using hb : DSt g t ρ E) X Y σ H1 D (R.nx n1) M)
    | false => exact iteF ((by simpa using hb : DSt g u ρ E) X Y σ H1 D (R.nx n1) M)
/-! ### in-place -/
theorem ds_aug {i : Nat} {f : Int → Int → Int} {a : Int} (e : ρ[i]? = some (.dat (.int a))) (h : EvC g te ρ fun d => dInt d fun b => E.nx (ρ.set i (.dat (.int (f a b))))) : DSt g (tAug i te (ipI f)) ρ E := fun X Y σ H D R M => by
  obtain ⟨v, h1, r⟩ := R.dat e
  cases r
  exact ⟨_, h1, h X Y σ H _ R fun d v H1 hd n1 r1 => by
    obtain ⟨b, rfl, hb⟩ := dInt_inv hd
    cases r1
    exact ⟨a, b, rfl, rfl, M.nx _ _ _ hb ((R.nx n1).setD (.int _))⟩⟩
theorem nx_own (R : RS g X Y σ H ρ) (n : Nx g H H') {i : Nat} {p : Addr} {s : Sl} {o : HO} (h1 : σ[i]? = some (some (.ref p))) (e : ρ[i]? = some s) (hs : ownA (some (.ref p)) s = [p]) (h : H p = some o) : H' p = some o :=
  n.kp p o h (R.nw p (own_mem h1 e (by rw [hs]; exact List.mem_singleton.mpr rfl))).2
/-- x.append(e), x a list that the slot owns -/
theorem ds_append {i : Nat} {a : Option Addr} {ds : List Dat} (e : ρ[i]? = some (.own a ds)) (h : EvC g te ρ fun d => ds.length < sizeLine ∧ E.nx (ρ.set i (.own a (ds ++ [d])))) : DSt g (tDrop (tBM g.K "list" rAppend (tVar i) (tCons te tNil))) ρ E := fun X Y σ H D R M => by
  obtain ⟨p, xs, h1, h2, r, ha⟩ := R.own e
  refine ⟨_, h1, .inl ⟨rfl, xs, SqL.of h2⟩, ?_⟩
  refine h X Y σ H _ R fun d v H1 hd n1 r1 => ?_
  have h2' := nx_own R n1 h1 e rfl h2
  refine ⟨p, xs, v, rfl, rfl, h2', by rw [r.length]; exact hd.1, ?_⟩
  exact M.nx _ _ _ hd.2 ((R.nx n1).write h1 e rfl rfl (.own ha upd_same ((r.mn n1.hid).append (.cons r1 .nil))))
/-- x[k] = e -/
theorem ds_setL {i : Nat} {a : Option Addr} {ds : List Dat} (e : ρ[i]? = some (.own a ds)) (h : EvC g te ρ fun d => EvC g ta ρ fun x => dInt x fun k => ∃ j, ixN ds.length k = some j ∧ E.nx (ρ.set i (.own a (ds.set j d)))) : DSt g (tAsg te (gSub (tVar i) ta rSetL)) ρ E := fun X Y σ H D R M => by
  obtain ⟨p, xs, h1, h2, r, ha⟩ := R.own e
  refine h X Y σ H _ R fun d v H1 hd n1 r1 => ?_
  refine ⟨_, h1, hd X Y σ H1 _ (R.nx n1) fun x w H2 hx n2 r2 => ?_⟩
  obtain ⟨k, rfl, j, hj, hn⟩ := dInt_inv hx
  cases r2
  have n := n1.trans n2
  have h2' := nx_own R n h1 e rfl h2
  refine ⟨p, xs, k, j, rfl, rfl, h2', by rw [r.length]; exact hj, ?_⟩
  exact M.nx _ _ _ hn ((R.nx n).write h1 e rfl rfl (.own ha upd_same ((r.mn n.hid).set (r1.mn n2.hid) j)))
/-! ### loops -/
theorem hid_set_sub {i : Nat} {x : Option V} {d : Dat} : Same (hid g X σ ρ H) (hid g X (σ.set i x) (ρ.set i (.dat d)) H) := hide_mono fun b hb => by
  rcases List.mem_append.mp hb with z | z
  · exact List.mem_append_left _ z
  · rcases List.mem_append.mp z with z | z
    · exact pr_sub z
    · rcases owned_set b z with w | w
      · rw [ownA_dat] at w; cases w
      · exact List.mem_append_right _ (List.mem_append_right _ w)
theorem Ms.loop {Y' : Hp} (M : Ms g X Y D E) (hY : Same Y Y') {Nn : L2.St → Hp → Prop} {I : List Sl → Prop} (hN : ∀ σ H ρ, I ρ → RS g X Y' σ H ρ → Nn σ H) : Ms g X Y' { D with nx := Nn, ct := Nn, bk := D.nx } { E with nx := I, ct := I, bk := E.nx } where
  nx := hN
  ct := hN
  bk := fun σ H ρ e R => M.nx σ H ρ e (R.weak hY)
  rt := fun d v σ H ρ e R => M.rt d v σ H ρ e (R.weak hY)
  rn := fun ds p xs σ H ρ e R hp => M.rn ds p xs σ H ρ e (R.weak hY) (hY.free hp)
  rs := fun s v σ H ρ e R hq => M.rs s v σ H ρ e (R.weak hY) fun q hm => ⟨hY.free (hq q hm).1, (hq q hm).2⟩
/-- for x in range(..): n turns from lo on -/
theorem ds_range {lo : Int} {n j : Nat} {tb : TS} (Inv : Nat → List Sl → Prop) (h0 : Inv 0 ρ) (hs : ∀ i ρ', i < n → Inv i ρ' → DSt g tb (ρ'.set j (.dat (.int (lo + i)))) { E with nx := Inv (i + 1), ct := Inv (i + 1), bk := E.nx }) (hd : ∀ ρ', Inv n ρ' → E.nx ρ') (R : RS g X Y σ H ρ) (M : Ms g X Y D E) :
    ∃ W : Nat → Nat → L2.St → Hp → Prop, (∃ m, W 0 m σ H) ∧ ∀ i m σ H, W i m σ H →
      ((Itr lo n).stop i H ∧ D.nx σ H) ∨ ((Itr lo n).go i H ∧ ∃ N : L2.St → Hp → Prop, (∀ σ' H', N σ' H' → ∃ m', m' < m ∧ W (i + 1) m' σ' H') ∧ ∀ x H', (Itr lo n).yld i H x H' → gName j x σ H' fun σ2 H2 => tb { D with nx := N, ct := N, bk := D.nx } σ2 H2) :=
  for_range (fun i σ' H' => ∃ ρ', Inv i ρ' ∧ RS g X Y σ' H' ρ') ⟨ρ, h0, R⟩
    (fun i σ' H' hi ⟨ρ', hI, R'⟩ => hs i ρ' hi hI X Y _ H' _ (R'.setD (.int _)) (M.loop (Same.refl _) fun σ H ρ hI R => ⟨ρ, hI, R⟩)) fun σ' H' ⟨ρ', hI, R'⟩ => M.nx σ' H' ρ' (hd ρ' hI) R'
theorem ds_for1 {j : Nat} {tb : TS} (h : EvA g tr ρ fun ds => ∃ n : Int, ds = [.int n] ∧ -(2 ^ 62) ≤ n ∧ n < 2 ^ 62 ∧ ∃ Inv : Nat → List Sl → Prop, Inv 0 ρ ∧ (∀ i ρ', i < n.toNat → Inv i ρ' → DSt g tb (ρ'.set j (.dat (.int i))) { E with nx := Inv (i + 1), ct := Inv (i + 1), bk := E.nx }) ∧ ∀ ρ', Inv n.toNat ρ' → E.nx ρ') :
    DSt g (tFor (iRng1 tr) (gName j) tb) ρ E := fun X Y σ H D R M => h X Y σ H _ R fun ds vs H1 hd n1 r1 => by
  obtain ⟨n, rfl, hl, hh, Inv, h0, hs, hf⟩ := hd
  cases r1 with
  | cons a b =>
    cases a
    cases b
    exact ⟨n, rfl, hl, hh, ds_range Inv h0 (fun i ρ' hi hI => by rw [Int.zero_add]; exact hs i ρ' hi hI) hf (R.nx n1) M⟩
theorem ds_for2 {j : Nat} {tb : TS} (h : EvA g tr ρ fun ds => ∃ a n : Int, ds = [.int a, .int n] ∧ (-(2 ^ 62) ≤ a ∧ a < 2 ^ 62 ∧ -(2 ^ 62) ≤ n ∧ n < 2 ^ 62) ∧ ∃ Inv : Nat → List Sl → Prop, Inv 0 ρ ∧ (∀ i ρ', i < (n - a).toNat → Inv i ρ' → DSt g tb (ρ'.set j (.dat (.int (a + i)))) { E with nx := Inv (i + 1), ct := Inv (i + 1), bk := E.nx }) ∧ ∀ ρ', Inv (n - a).toNat ρ' → E.nx ρ') :
    DSt g (tFor (iRng2 tr) (gName j) tb) ρ E := fun X Y σ H D R M => h X Y σ H _ R fun ds vs H1 hd n1 r1 => by
  obtain ⟨a, n, rfl, hb, Inv, h0, hs, hf⟩ := hd
  cases r1 with
  | cons x y =>
    cases x
    cases y with
    | cons x y =>
      cases x
      cases y
      exact ⟨a, n, rfl, hb, ds_range Inv h0 hs hf (R.nx n1) M⟩
/-- for x in xs, a list that stands -/
theorem ds_forL {j : Nat} {tl : TE} {tb : TS} (h : EvC g tl ρ fun d => ∃ ds, d = .lst ds ∧ ∃ Inv : Nat → List Sl → Prop, Inv 0 ρ ∧ (∀ i d ρ', ds[i]? = some d → Inv i ρ' → DSt g tb (ρ'.set j (.dat d)) { E with nx := Inv (i + 1), ct := Inv (i + 1), bk := E.nx }) ∧ ∀ ρ', Inv ds.length ρ' → E.nx ρ') :
    DSt g (tFor (iList g.K tl) (gName j) tb) ρ E := fun X Y σ H D R M => h X Y σ H _ R fun d v H1 hd n1 r1 => by
  obtain ⟨ds, rfl, Inv, h0, hs, hf⟩ := hd
  cases r1 with
  | lst ha r =>
    rename_i a xs
    have R1 := R.nx n1
    have ha' : hide (g.pr ++ owned σ ρ) H1 a = some (.lst xs) := (hide_out fun z => (hide_some ha).1 (List.mem_append_right _ z)).trans (hide_some ha).2
    refine ⟨a, rfl, ⟨xs, SqL.of (hide_some ha).2⟩, for_list (K := g.K) (a := a) (xs := xs) (fun i σ' H' => ∃ ρ', Inv i ρ' ∧ RS g X (hide (g.pr ++ owned σ ρ) H1) σ' H' ρ') ⟨ρ, h0, R1.fix⟩ (fun i σ' H' _ ⟨ρ', _, R'⟩ => SqL.of (R'.fr a _ ha').1)
      (fun i x σ' H' hi ⟨ρ', hI, R'⟩ => ?_) fun σ' H' ⟨ρ', hI, R'⟩ => M.nx σ' H' ρ' (hf ρ' (by rw [← r.length]; exact hI)) (R'.weak R1.fixY)⟩
    obtain ⟨d, hd, rd⟩ := r.get' hi
    exact hs i d ρ' hd hI X _ _ H' _ (R'.setD (rd.mn R'.seen)) (M.loop R1.fixY fun σ H ρ hI R => ⟨ρ, hI, R⟩)
theorem ds_forT {j : Nat} {tl : TE} {tb : TS} (h : EvC g tl ρ fun d => dTup d fun ds => ∃ Inv : Nat → List Sl → Prop, Inv 0 ρ ∧ (∀ i d ρ', ds[i]? = some d → Inv i ρ' → DSt g tb (ρ'.set j (.dat d)) { E with nx := Inv (i + 1), ct := Inv (i + 1), bk := E.nx }) ∧ ∀ ρ', Inv ds.length ρ' → E.nx ρ') :
    DSt g (tFor (iTup g.K tl) (gName j) tb) ρ E := fun X Y σ H D R M => h X Y σ H _ R fun d v H1 hd n1 r1 => by
  cases d with
  | tup ds =>
    obtain ⟨Inv, h0, hs, hf⟩ := hd
    cases r1 with
    | tup ha r =>
      rename_i a xs
      have R1 := R.nx n1
      have ha' : SqT g.K (hide (g.pr ++ owned σ ρ) H1) a xs := Same.sqT (hide_mono fun b hb => List.mem_append_right _ hb) ha
      refine ⟨a, rfl, ⟨xs, Same.sqT hide_same ha⟩, for_tup (K := g.K) (a := a) (xs := xs) (fun i σ' H' => ∃ ρ', Inv i ρ' ∧ RS g X (hide (g.pr ++ owned σ ρ) H1) σ' H' ρ') ⟨ρ, h0, R1.fix⟩ (fun i σ' H' _ ⟨ρ', _, R'⟩ => Same.sqT R'.sy ha')
        (fun i x σ' H' hi ⟨ρ', hI, R'⟩ => ?_) fun σ' H' ⟨ρ', hI, R'⟩ => M.nx σ' H' ρ' (hf ρ' (by rw [← r.length]; exact hI)) (R'.weak R1.fixY)⟩
      obtain ⟨d, hd, rd⟩ := r.get' hi
      exact hs i d ρ' hd hI X _ _ H' _ (R'.setD (rd.mn R'.seen)) (M.loop R1.fixY fun σ H ρ hI R => ⟨ρ, hI, R⟩)
  | _ => cases hd
/-- for c in s, a text -/
theorem ds_forS {j : Nat} {tl : TE} {tb : TS} (h : EvC g tl ρ fun d => ∃ z, d = .str z ∧ ∃ Inv : Nat → List Sl → Prop, Inv 0 ρ ∧ (∀ (i c : Nat) ρ', z.cps.toList[i]? = some c → Inv i ρ' → DSt g tb (ρ'.set j (.dat (.str ⟨#[c]⟩))) { E with nx := Inv (i + 1), ct := Inv (i + 1), bk := E.nx }) ∧ ∀ ρ', Inv z.length ρ' → E.nx ρ') :
    DSt g (tFor (iStr tl) (gName j) tb) ρ E := fun X Y σ H D R M => h X Y σ H _ R fun d v H1 hd n1 r1 => by
  obtain ⟨z, rfl, Inv, h0, hs, hf⟩ := hd
  cases r1
  have R1 := R.nx n1
  refine ⟨z, rfl, fun i m σ' H' => m = z.length - i ∧ i ≤ z.length ∧ ∃ ρ', Inv i ρ' ∧ RS g X Y σ' H' ρ', ⟨z.length, by omega, Nat.zero_le _, ρ, h0, R1⟩, ?_⟩
  rintro i m σ' H' ⟨rfl, hi, ρ', hI, R'⟩
  by_cases hlt : i < z.length
  · refine .inr ⟨hlt, fun σ' H' => ∃ ρ', Inv (i + 1) ρ' ∧ RS g X Y σ' H' ρ', fun σ' H' ⟨ρ', p', R'⟩ => ⟨z.length - (i + 1), by omega, rfl, hlt, ρ', p', R'⟩, fun x H' y => ?_⟩
    obtain ⟨e, c, hc, rfl⟩ := y
    subst e
    exact hs i c ρ' (by rw [← hc]; simp) hI X Y _ _ _ (R'.setD (.str _)) (M.loop (Same.refl _) fun σ H ρ hI R => ⟨ρ, hI, R⟩)
  · have e : i = z.length := by omega
    subst e
    exact .inl ⟨Nat.le_refl _, M.nx σ' H' ρ' (hf ρ' hI) R'⟩
/-- while -/
theorem ds_while {c : TT} {tb : TS} (Inv : List Sl → Prop) (μ : List Sl → Nat) (h0 : Inv ρ) (hs : ∀ ρ', Inv ρ' → EvT g c ρ' fun b => if b = true then DSt g tb ρ' { E with nx := fun ρ2 => Inv ρ2 ∧ μ ρ2 < μ ρ', ct := fun ρ2 => Inv ρ2 ∧ μ ρ2 < μ ρ', bk := E.nx } else E.nx ρ') :
    DSt g (tWhile c tb) ρ E := fun X Y σ H D R M => by
  refine ⟨fun m σ H => ∃ ρ', Inv ρ' ∧ m = μ ρ' ∧ RS g X Y σ H ρ', ⟨_, ρ, h0, rfl, R⟩, ?_⟩
  rintro m σ H ⟨ρ', hI, rfl, R'⟩
  refine hs ρ' hI X Y σ H _ R' fun b H1 hb n1 => ?_
  cases b with
  | true =>
    refine iteT ⟨fun σ' H' => ∃ ρ2, (Inv ρ2 ∧ μ ρ2 < μ ρ') ∧ RS g X Y σ' H' ρ2, fun σ' H' ⟨ρ2, ⟨h1, h2⟩, R2⟩ => ⟨_, h2, ρ2, h1, rfl, R2⟩, ?_⟩
    exact (by simpa using hb : DSt g tb ρ' _) X Y σ H1 _ (R'.nx n1) (M.loop (Same.refl _) fun σ H ρ hI R => ⟨ρ, hI, R⟩)
  | false => exact iteF (M.nx σ H1 ρ' (by simpa using hb) (R'.nx n1))
end
end NW

/-! NwE: comprehensions; what a def promises over data, its call. -/
namespace NW
open PySem PySem.Spec PyProof.Rows L2

section
variable {g : Gm} {X : List Addr} {Y : Hp} {σ : L2.St} {ρ : List Sl} {H H' H1 : Hp} {te ta tb tc tl : TE} {tr : TA} {tt : TT}
theorem owned_keep {i : Nat} {x : Option V} {s : Sl} {p : Addr} : ∀ {σ : L2.St} {ρ : List Sl}, ρ[i]? = some .no → p ∈ owned σ ρ → p ∈ owned (σ.set i x) (ρ.set i s) := by
  induction i with
  | zero =>
    intro σ ρ e h
    cases σ with
    | nil => cases h
    | cons y σ =>
      cases ρ with
      | nil => cases h
      | cons t ρ =>
        cases e
        rcases List.mem_append.mp (show p ∈ ownA y .no ++ owned σ ρ from h) with q | q
        · rw [ownA_no] at q; cases q
        · exact List.mem_append_right _ q
  | succ i ih =>
    intro σ ρ e h
    cases σ with
    | nil => cases h
    | cons y σ =>
      cases ρ with
      | nil => cases h
      | cons t ρ =>
        rcases List.mem_append.mp (show p ∈ ownA y t ++ owned σ ρ from h) with q | q
        · exact List.mem_append_left _ q
        · exact List.mem_append_right _ (ih (by simpa using e) q)
theorem RS.addX (R : RS g X Y σ H ρ) {D : Addr} {o : HO} (hD : H D = none) : RS g (D :: X) Y σ (upd H D o) ρ where
  nd := R.nd
  sl := R.sl.mono (hide_cons_upd hD) fun p hp u e => by rw [upd_ne (ne_of_none e hD)]; exact e
  fr := fun b u e => ⟨upd_new hD _ _ (R.fr b u e).1, (R.fr b u e).2⟩
  nw := R.nw
  xd := fun b hb => by
    rcases List.mem_cons.mp hb with z | z
    · subst z
      exact ⟨by rw [upd_same]; intro q; (cases q), fun q => R.own_some q hD⟩
    · refine ⟨fun q => ?_, (R.xd b z).2⟩
      have w := (R.xd b z).1
      cases e : H b with
      | none => exact w e
      | some u => rw [upd_new hD _ _ e] at q; cases q
  st := R.st.ext (upd_new hD)
theorem RS.updX (R : RS g X Y σ H ρ) {D : Addr} {o : HO} (hD : D ∈ X) (hp : D ∉ g.pr) (hy : Y D = none) : RS g X Y σ (upd H D o) ρ where
  nd := R.nd
  sl := by
    have e : hid g X σ ρ (upd H D o) = hid g X σ ρ H := hide_upd_in (List.mem_append_left _ hD)
    rw [e]
    exact R.sl.mono (Same.refl _) fun p hq u e => by rw [upd_ne (fun z => (R.xd D hD).2 (by rw [← z]; exact hq))]; exact e
  fr := fun b u e => ⟨by rw [upd_ne (fun z => by rw [z, hy] at e; cases e)]; exact (R.fr b u e).1, (R.fr b u e).2⟩
  nw := R.nw
  xd := fun b hb => ⟨fun q => by
    by_cases z : b = D
    · rw [z, upd_same] at q; cases q
    · rw [upd_ne z] at q; exact (R.xd b hb).1 q, (R.xd b hb).2⟩
  st := fun a ha => by
    obtain ⟨cs, i, lf, sm, seed, turn, h1, h2, h3⟩ := R.st a ha
    exact ⟨cs, i, lf, sm, seed, turn, by rw [upd_ne (fun z => hp (pr_mem.mpr ⟨a, ha, .inl z.symm⟩))]; exact h1, by rw [upd_ne (fun z => hp (pr_mem.mpr ⟨a, ha, .inr z.symm⟩))]; exact h2, h3⟩
/-- the state between two turns of a comprehension: D the new list, acc what it holds -/
def LcP (g : Gm) (X : List Addr) (Y : Hp) (σ : L2.St) (ρ : List Sl) (H1 : Hp) (D : Addr) (Inv : Nat → List Dat → Prop) (i : Nat) (H' : Hp) : Prop :=
  ∃ acc vs, Inv i acc ∧ RS g (D :: X) Y σ H' ρ ∧ Nx g H1 H' ∧ H' D = some (.lst vs) ∧ RpA g.K (hid g (D :: X) σ ρ H') vs acc
theorem LcP.seen {D : Addr} {Inv : Nat → List Dat → Prop} {i : Nat} (hD : H1 D = none) (p : LcP g X Y σ ρ H1 D Inv i H') : Same (hid g X σ ρ H1) (hid g (D :: X) σ ρ H') := by
  obtain ⟨acc, vs, _, _, n, _⟩ := p
  intro b o e
  obtain ⟨h1, h2⟩ := hide_some e
  refine (hide_out fun z => ?_).trans (n.kp b o h2 fun z => h1 (pr_sub z))
  rcases List.mem_cons.mp z with z | z
  · rw [z, hD] at h2; cases h2
  · exact h1 z
theorem LcP.nx {D : Addr} {Inv : Nat → List Dat → Prop} {i : Nat} (p : LcP g X Y σ ρ H1 D Inv i H') : Nx g H1 H' := by
  obtain ⟨acc, vs, _, _, n, _⟩ := p
  exact n
theorem LcP.start (R : RS g X Y σ H1 ρ) {D : Addr} (hD : H1 D = none) {Inv : Nat → List Dat → Prop} (h0 : Inv 0 []) : LcP g X Y σ ρ H1 D Inv 0 (upd H1 D (.lst [])) :=
  ⟨[], [], h0, R.addX hD, R.same (upd_new hD), upd_same, .nil⟩
theorem wipe1 {v : Nat} {x : V} : wipe ((wipe σ [v]).set v (some x)) [v] = wipe σ [v] := by
  show ((σ.set v none).set v (some x)).set v none = σ.set v none
  rw [List.set_set, List.set_set]
theorem set_no {v : Nat} (hv : ρ[v]? = some .no) : ρ.set v .no = ρ := by
  apply List.ext_getElem?
  intro j
  rw [List.getElem?_set]
  by_cases q : v = j
  · subst q
    have : v < ρ.length := by
      by_cases z : v < ρ.length
      · exact z
      · rw [List.getElem?_eq_none_iff.mpr (by omega)] at hv; cases hv
    rw [if_pos rfl, if_pos this, hv]
  · rw [if_neg q]
theorem LcP.turn (R0 : RS g X Y σ H1 ρ) {D : Addr} {Inv : Nat → List Dat → Prop} {i v : Nat} {x : V} {d : Dat} (hD : H1 D = none) (hv : ρ[v]? = some .no) (p : LcP g X Y σ ρ H1 D Inv i H') (rx : Rp g.K (hid g (D :: X) σ ρ H') x d)
    (h : ∀ acc, Inv i acc → EvT g tt (ρ.set v (.dat d)) fun b => if b = true then EvC g te (ρ.set v (.dat d)) fun y => acc.length < sizeLine ∧ Inv (i + 1) (acc ++ [y]) else Inv (i + 1) acc) :
    gName v x (wipe σ [v]) H' fun σ2 H2 => wipe σ2 [v] = wipe σ [v] ∧ tt σ2 H2 fun b H3 =>
      if b = true then te σ2 H3 fun y H4 => ∃ acc, H4 D = some (.lst acc) ∧ acc.length < sizeLine ∧ LcP g X Y σ ρ H1 D Inv (i + 1) (upd H4 D (.lst (acc ++ [y]))) else LcP g X Y σ ρ H1 D Inv (i + 1) H3 := by
  obtain ⟨acc, vs, hI, R, n, hDl, ra⟩ := p
  have npr : D ∉ g.pr := fun z => R0.st.some z hD
  have R1 := R.forget (i := v) none
  rw [set_no hv] at R1
  have e1 : Same (hid g (D :: X) σ ρ H') (hid g (D :: X) (wipe σ [v]) ρ H') := hide_mono fun b hb => by
    have hb' : b ∈ (D :: X) ++ (g.pr ++ owned (σ.set v none) ρ) := hb
    rcases List.mem_append.mp hb' with z | z
    · exact List.mem_append_left _ z
    · rcases List.mem_append.mp z with z | z
      · exact pr_sub z
      · have z2 : b ∈ owned (σ.set v none) (ρ.set v .no) := by rw [set_no hv]; exact z
        rcases owned_set b z2 with w | w
        · cases w
        · exact List.mem_append_right _ (List.mem_append_right _ w)
  have R2 := RS.setD (σ := wipe σ [v]) R1 (i := v) (rx.mn e1)
  refine ⟨wipe1, h acc hI _ _ _ H' _ R2 fun b H3 hb n3 => ?_⟩
  cases b with
  | false =>
    refine iteF ⟨acc, vs, by simpa using hb, R.nx n3, n.trans n3, n3.kp _ _ hDl npr, ra.mn n3.hid⟩
  | true =>
    refine iteT ?_
    have hb' : EvC g te (ρ.set v (.dat d)) fun y => acc.length < sizeLine ∧ Inv (i + 1) (acc ++ [y]) := by simpa using hb
    refine hb' _ _ _ H3 _ (R2.nx n3) fun y yv H4 hy n4 ry => ?_
    have n34 := n3.trans n4
    have hD4 := n34.kp _ _ hDl npr
    refine ⟨vs, hD4, by rw [ra.length]; exact hy.1, ?_⟩
    have e2 : hid g (D :: X) σ ρ (upd H4 D (.lst (vs ++ [yv]))) = hid g (D :: X) σ ρ H4 := hide_upd_in (List.mem_append_left _ List.mem_cons_self)
    refine ⟨acc ++ [y], vs ++ [yv], hy.2, (R.nx n34).updX List.mem_cons_self npr (R0.yn hD), ⟨fun b o e nb => ?_, ?_⟩, upd_same, ?_⟩
    · rw [upd_ne (ne_of_none e hD)]
      exact (n.trans n34).kp b o e nb
    · exact ((R.nx n34).updX (o := .lst (vs ++ [yv])) List.mem_cons_self npr (R0.yn hD)).st
    · rw [e2]
      refine (ra.mn n34.hid).append (.cons (ry.mn ?_) .nil)
      refine hide_mono fun b hb => ?_
      rcases List.mem_append.mp hb with z | z
      · exact List.mem_append_left _ z
      · rcases List.mem_append.mp z with z | z
        · exact pr_sub z
        · refine List.mem_append_right _ (List.mem_append_right _ (owned_keep hv ?_))
          have z2 := owned_keep (i := v) (x := none) (s := .no) hv z
          rw [set_no hv] at z2
          exact z2
theorem LcP.stop (R : RS g X Y σ H ρ) (n1 : Nx g H H1) {D : Addr} {Inv : Nat → List Dat → Prop} {Φ : List Dat → Prop} {n : Nat} {Q : VK} (hD : H1 D = none) (hf : ∀ acc, Inv n acc → Φ acc)
    (k : ∀ ds p xs H', Φ ds → Nx g H H' → H p = none → H' p = some (.lst xs) → RpA g.K (hide (p :: (X ++ (g.pr ++ owned σ ρ))) H') xs ds → Q (.ref p) H') (p : LcP g X Y σ ρ H1 D Inv n H') : Q (.ref D) H' := by
  obtain ⟨acc, vs, hI, _, nn, hDl, ra⟩ := p
  exact k acc D vs H' (hf acc hI) (n1.trans nn) (nx_none R n1 hD) hDl ra
/-- [te for x in xs if tt], xs a list; x in slot v -/
theorem en_lcL {v : Nat} {Φ : List Dat → Prop} (hv : ρ[v]? = some .no) (h : EvS g tl ρ fun d => ∃ ds, d = .lst ds ∧ ∃ Inv : Nat → List Dat → Prop, Inv 0 [] ∧
    (∀ i d acc, ds[i]? = some d → Inv i acc → EvT g tt (ρ.set v (.dat d)) fun b => if b = true then EvC g te (ρ.set v (.dat d)) fun y => acc.length < sizeLine ∧ Inv (i + 1) (acc ++ [y]) else Inv (i + 1) acc) ∧ ∀ acc, Inv ds.length acc → Φ acc) :
    EvN g (tLc (iList g.K tl) (gName v) tt te [v]) ρ Φ := fun X Y σ H Q R k => h X Y σ H _ R fun d w H1 hd n1 r1 => by
  obtain ⟨ds, rfl, Inv, h0, hs, hf⟩ := hd
  obtain ⟨a, xs, rfl, ha, r⟩ := r1.lst_inv hid_p
  have ha2 := hide_some ha
  refine ⟨a, rfl, ⟨xs, SqL.of ha2.2⟩, fun D hD => ?_⟩
  refine lc_list (K := g.K) (a := a) (xs := xs) (LcP g X Y σ ρ H1 D Inv) (LcP.start (R.nx n1) hD h0) (fun i H' _ p => SqL.of (p.nx.kp a _ ha2.2 ha2.1)) (fun i x H' hi p => ?_) fun H' p => LcP.stop R n1 hD (n := xs.length) (fun acc hI => hf acc (by rw [← r.length]; exact hI)) k p
  obtain ⟨d, hd, rd⟩ := r.get' hi
  exact LcP.turn (R.nx n1) hD hv p (rd.mn (p.seen hD)) fun acc hI => hs i d acc hd hI
/-- .. xs a tuple -/
theorem en_lcT {v : Nat} {Φ : List Dat → Prop} (hv : ρ[v]? = some .no) (h : EvS g tl ρ fun d => dTup d fun ds => ∃ Inv : Nat → List Dat → Prop, Inv 0 [] ∧
    (∀ i d acc, ds[i]? = some d → Inv i acc → EvT g tt (ρ.set v (.dat d)) fun b => if b = true then EvC g te (ρ.set v (.dat d)) fun y => acc.length < sizeLine ∧ Inv (i + 1) (acc ++ [y]) else Inv (i + 1) acc) ∧ ∀ acc, Inv ds.length acc → Φ acc) :
    EvN g (tLc (iTup g.K tl) (gName v) tt te [v]) ρ Φ := fun X Y σ H Q R k => h X Y σ H _ R fun d w H1 hd n1 r1 => by
  cases d with
  | tup ds =>
    obtain ⟨Inv, h0, hs, hf⟩ := hd
    obtain ⟨a, xs, rfl, ha, r⟩ := r1.tup_inv hid_p
    refine ⟨a, rfl, ⟨xs, Same.sqT hide_same ha⟩, fun D hD => ?_⟩
    refine lc_tup (K := g.K) (a := a) (xs := xs) (LcP g X Y σ ρ H1 D Inv) (LcP.start (R.nx n1) hD h0) (fun i H' _ p => Same.sqT (fun b o e => p.nx.kp b o (hide_some e).2 (hide_some e).1) ha) (fun i x H' hi p => ?_) fun H' p => LcP.stop R n1 hD (n := xs.length) (fun acc hI => hf acc (by rw [← r.length]; exact hI)) k p
    obtain ⟨d, hd, rd⟩ := r.get' hi
    exact LcP.turn (R.nx n1) hD hv p (rd.mn (p.seen hD)) fun acc hI => hs i d acc hd hI
  | _ => cases hd
/-- .. a range -/
theorem en_lc1 {v : Nat} {Φ : List Dat → Prop} (hv : ρ[v]? = some .no) (h : EvA g tr ρ fun ds => ∃ n : Int, ds = [.int n] ∧ -(2 ^ 62) ≤ n ∧ n < 2 ^ 62 ∧ ∃ Inv : Nat → List Dat → Prop, Inv 0 [] ∧
    (∀ i acc, i < n.toNat → Inv i acc → EvT g tt (ρ.set v (.dat (.int i))) fun b => if b = true then EvC g te (ρ.set v (.dat (.int i))) fun y => acc.length < sizeLine ∧ Inv (i + 1) (acc ++ [y]) else Inv (i + 1) acc) ∧ ∀ acc, Inv n.toNat acc → Φ acc) :
    EvN g (tLc (iRng1 tr) (gName v) tt te [v]) ρ Φ := fun X Y σ H Q R k => h X Y σ H _ R fun ds w H1 hd n1 r1 => by
  obtain ⟨n, rfl, hl, hh, Inv, h0, hs, hf⟩ := hd
  cases r1 with
  | cons a b =>
    cases a
    cases b
    refine ⟨n, rfl, hl, hh, fun D hD => ?_⟩
    refine lc_range (lo := 0) (n := n.toNat) (LcP g X Y σ ρ H1 D Inv) (LcP.start (R.nx n1) hD h0) (fun i H' hi p => ?_) fun H' p => LcP.stop R n1 hD (n := n.toNat) hf k p
    rw [Int.zero_add]
    exact LcP.turn (R.nx n1) hD hv p (.int _) fun acc hI => hs i acc hi hI
end

/-! ### what a def promises over data -/
/-- of the parameters' slots and the wanted: what is asked -/
abbrev DT := List Sl → (Dat → Prop) → Prop
abbrev NT := List Sl → (List Dat → Prop) → Prop
def spD (K : PySem.W.Frag) (T : DT) : Sp := fun vs H Q E => ∃ (st : List (Addr × Addr)) (X : List Addr) (ρ : List Sl) (Φ : Dat → Prop), RS ⟨K, st⟩ X (hide (Gm.pr ⟨K, st⟩) H) (vs.map some) H ρ ∧ T ρ Φ ∧
  ∀ d v H', Φ d → Nx ⟨K, st⟩ H H' → Rp K (hide (X ++ Gm.pr ⟨K, st⟩) H') v d → Q v H'
def spN (K : PySem.W.Frag) (T : NT) : Sp := fun vs H Q E => ∃ (st : List (Addr × Addr)) (X : List Addr) (ρ : List Sl) (Φ : List Dat → Prop), RS ⟨K, st⟩ X (hide (Gm.pr ⟨K, st⟩) H) (vs.map some) H ρ ∧ T ρ Φ ∧
  ∀ ds p xs H', Φ ds → Nx ⟨K, st⟩ H H' → H p = none → H' p = some (.lst xs) → RpA K (hide (p :: (X ++ Gm.pr ⟨K, st⟩)) H') xs ds → Q (.ref p) H'
section
variable {g : Gm} {X : List Addr} {Y : Hp} {σ : L2.St} {ρ : List Sl} {H H' H1 : Hp}
theorem owned_pad {n : Nat} : ∀ {σ : L2.St} {ρ : List Sl}, σ.length = ρ.length → owned (σ ++ List.replicate n none) (ρ ++ List.replicate n .no) = owned σ ρ := by
  intro σ
  induction σ with
  | nil =>
    intro ρ h
    cases ρ with
    | nil =>
      show owned (List.replicate n none) (List.replicate n .no) = []
      induction n with
      | zero => rfl
      | succ n ih => exact ih
    | cons s ρ => cases h
  | cons x σ ih =>
    intro ρ h
    cases ρ with
    | nil => cases h
    | cons s ρ =>
      show ownA x s ++ owned (σ ++ List.replicate n none) (ρ ++ List.replicate n .no) = ownA x s ++ owned σ ρ
      rw [ih (by simpa using h)]
theorem SlsOk.pad {G : Hp} {n : Nat} : ∀ {σ : L2.St} {ρ : List Sl}, SlsOk g G H σ ρ → SlsOk g G H (σ ++ List.replicate n none) (ρ ++ List.replicate n .no) := by
  intro σ
  induction σ with
  | nil =>
    intro ρ h
    cases h
    show SlsOk g G H (List.replicate n none) (List.replicate n .no)
    induction n with
    | zero => exact .nil
    | succ n ih => exact .cons (.no none) ih
  | cons x σ ih =>
    intro ρ h
    cases h with
    | cons a b => exact .cons a (ih b)
theorem RS.pad {n : Nat} (R : RS g X Y σ H ρ) : RS g X Y (σ ++ List.replicate n none) H (ρ ++ List.replicate n .no) := by
  have e := owned_pad (n := n) R.sl.len
  exact ⟨by rw [e]; exact R.nd, by
    have q := R.sl.pad (n := n)
    show SlsOk g (hide (X ++ (g.pr ++ owned (σ ++ List.replicate n none) (ρ ++ List.replicate n .no))) H) H _ _
    rw [e]
    exact q, R.fr, by rw [e]; exact R.nw, by rw [e]; exact R.xd, R.st⟩
/-- a def whose parameters own nothing -/
theorem RS.no_own (R : RS g X (hide g.pr H) σ H ρ) : owned σ ρ = [] := by
  apply List.eq_nil_iff_forall_not_mem.mpr
  intro p hp
  have h1 := R.nw p hp
  rw [hide_out h1.2] at h1
  exact R.own_some hp h1.1
end
section
variable {P : Program} {w : World} {K : PySem.W.Frag} {mg : Str → Option Value} {base : Heap} {x qual : Str} {params : Arguments} {body : List Stmt} {scope : Scope} {f : Addr} {fd : FuncData} {N ps : List Str} {k : Nat}
theorem start_eq (N : List Str) (vs : List V) : start N vs = vs.map some ++ List.replicate (N.length - vs.length) none := rfl
/-- THE RULE for a def whose promise is over data -/
theorem fn_D {T : DT} (F : FunD K x qual params body scope [] [] f fd) (S : FnScope N ps scope) (hl : ∀ ρ Φ, T ρ Φ → ρ.length = ps.length)
    (hb : ∀ (cdv : Value) (A : Around) (outer : List Env) (s : Shared) (H : Hp) (E : XK), Room k (A.deeper (envOfC qual scope s.heap.objs.size f cdv)) →
      ∃ t, PSs (cxOf CX0 P w K mg base N qual scope f cdv A outer s H E).nox body t ∧ ∀ st ρ Φ, T ρ Φ → DSt ⟨K, st⟩ t (ρ ++ List.replicate (N.length - ps.length) .no) { nx := fun _ => Φ .non, rt := fun d _ => Φ d, rn := fun ds _ => Φ (.lst ds) }) :
    FnOk P w K mg base CX0 (k + 1) f fd ps (spD K T) := by
  have len : ∀ vs H Q E, spD K T vs H Q E → vs.length = ps.length := fun vs H Q E h => by
    obtain ⟨st, X, ρ, Φ, R, hT, _⟩ := h
    rw [← hl ρ Φ hT, ← R.sl.len, List.length_map]
  refine F.ok S len fun cdv A outer s H vs Q E hr h => ?_
  obtain ⟨t, ht, hd⟩ := hb cdv A outer s H E hr
  refine ⟨t, PSs.nox ht, ?_⟩
  have lv := len vs H Q E h
  obtain ⟨st, X, ρ, Φ, R, hT, hQ⟩ := h
  have R1 := R.pad (n := N.length - ps.length)
  rw [start_eq, lv]
  refine hd st ρ Φ hT X _ _ H _ R1 ⟨fun σ H' ρ' e R' => ?_, fun d v σ H' ρ' e R' r => ?_, fun ds p xs σ H' ρ' e R' hp np hx r _ => ?_, fun _ _ _ e => e.elim, fun _ _ _ e => e.elim, fun _ _ _ _ _ e => e.elim⟩
  · exact hQ .non .non H' e ⟨fun b o q nb => R'.sy b o ((hide_out nb).trans q), R'.st⟩ .non
  · exact hQ d v H' e ⟨fun b o q nb => R'.sy b o ((hide_out nb).trans q), R'.st⟩ r
  · exact hQ _ _ H' e ⟨fun b o q nb => R'.sy b o ((hide_out nb).trans q), R'.st⟩ (.lst ((hide_out np).trans hx) (r.mn (hide_mono fun b hb => List.mem_cons_of_mem _ hb)))
/-- .. that hands back a new list -/
theorem fn_N {T : NT} (F : FunD K x qual params body scope [] [] f fd) (S : FnScope N ps scope) (hl : ∀ ρ Φ, T ρ Φ → ρ.length = ps.length)
    (hb : ∀ (cdv : Value) (A : Around) (outer : List Env) (s : Shared) (H : Hp) (E : XK), Room k (A.deeper (envOfC qual scope s.heap.objs.size f cdv)) →
      ∃ t, PSs (cxOf CX0 P w K mg base N qual scope f cdv A outer s H E).nox body t ∧ ∀ st ρ Φ, T ρ Φ → DSt ⟨K, st⟩ t (ρ ++ List.replicate (N.length - ps.length) .no) { nx := fun _ => False, rt := fun _ _ => False, rn := fun ds _ => Φ ds }) :
    FnOk P w K mg base CX0 (k + 1) f fd ps (spN K T) := by
  have len : ∀ vs H Q E, spN K T vs H Q E → vs.length = ps.length := fun vs H Q E h => by
    obtain ⟨st, X, ρ, Φ, R, hT, _⟩ := h
    rw [← hl ρ Φ hT, ← R.sl.len, List.length_map]
  refine F.ok S len fun cdv A outer s H vs Q E hr h => ?_
  obtain ⟨t, ht, hd⟩ := hb cdv A outer s H E hr
  refine ⟨t, PSs.nox ht, ?_⟩
  have lv := len vs H Q E h
  obtain ⟨st, X, ρ, Φ, R, hT, hQ⟩ := h
  have R1 := R.pad (n := N.length - ps.length)
  rw [start_eq, lv]
  refine hd st ρ Φ hT X _ _ H _ R1 ⟨fun σ H' ρ' e R' => e.elim, fun d v σ H' ρ' e R' r => e.elim, fun ds p xs σ H' ρ' e R' hp np hx r _ => ?_, fun _ _ _ e => e.elim, fun _ _ _ e => e.elim, fun _ _ _ _ _ e => e.elim⟩
  have npr : p ∉ Gm.pr ⟨K, st⟩ := fun z => np (List.mem_append_right _ z)
  exact hQ ds p xs H' e ⟨fun b o q nb => R'.sy b o ((hide_out nb).trans q), R'.st⟩ ((hide_out npr).symm.trans hp) hx r

/-! ### calls -/
/-- a def of the top that may be called -/
structure Cal (P : Program) (w : World) (K : PySem.W.Frag) (mg : Str → Option Value) (base : Heap) (k : Nat) (x : Str) (ps : List Str) (sp : Sp) : Prop where
  ex : ∃ f fd, mg x = some (.ref f) ∧ PySem.W.keepIn K (.ref f) = true ∧ Binds K fd ps [] ∧ FnOk P w K mg base CX0 k f fd ps sp
theorem Cal.mono {sp sp' : Sp} (C : Cal P w K mg base k x ps sp) (h : ∀ vs H Q E, sp' vs H Q E → sp vs H Q E) : Cal P w K mg base k x ps sp' := by
  obtain ⟨f, fd, a, b, c, d⟩ := C.ex
  exact ⟨f, fd, a, b, c, d.imp h⟩
variable {X : Cx} {e : Expr} {es : List Expr} {ta : TA} {sp : Sp} {p pos : Pos}
theorem pe_cal (C : Cal X.prog X.w X.K X.mg X.base k x ps sp) (hr : Room k X.A) (hg : Gl X x) (ha : PA X (e :: es) ta) (hdb : (x == ("__debug__" : Str)) = false := by decide)
    (he : starEach (e :: es) X.env = (false, eval e X.env) :: starEach es X.env := by rfl) (hpl : (backTo pos (starEach es X.env)).any (·.1) = false := by rfl) : PE X (.Call (.Name x p) (e :: es) [] pos) (tCall sp [] E0 ta) := by
  obtain ⟨f, fd, a, b, c, d⟩ := C.ex
  exact pe_call d hr hg a b c .nil pass0 ha hdb he hpl
end
section
variable {g : Gm} {X : List Addr} {Y : Hp} {σ : L2.St} {ρ : List Sl} {H H' H1 : Hp} {tr : TA} {E : XK}
theorem args_rs {g : Gm} {O : List Addr} {H : Hp} (hO : ∀ b ∈ O, H b ≠ none) (st : StOk g H) : ∀ {vs : List V} {πs : List Sl}, ArgOk g (hide (O ++ g.pr) H) vs πs → owned (vs.map some) πs = [] ∧ SlsOk g (hide (O ++ g.pr) H) H (vs.map some) πs := by
  intro vs πs r
  induction r with
  | nil => exact ⟨rfl, .nil⟩
  | dat a b ih => exact ⟨by
      show ownA _ _ ++ owned _ _ = []
      rw [ownA_dat, ih.1]; rfl, .cons (.dat a) ih.2⟩
  | sto a b ih => exact ⟨by
      show ownA _ _ ++ owned _ _ = []
      rw [ownA_sto, ih.1]; rfl, .cons (.sto a) ih.2⟩
theorem call_rs (R : RS g X Y σ H ρ) {vs : List V} {πs : List Sl} (r : ArgOk g (hid g X σ ρ H) vs πs) : RS g (X ++ owned σ ρ) (hide g.pr H) (vs.map some) H πs := by
  have hO : ∀ b ∈ X ++ owned σ ρ, H b ≠ none := fun b hb => R.hd b (by
    rcases List.mem_append.mp hb with z | z
    · exact List.mem_append_left _ z
    · exact List.mem_append_right _ (List.mem_append_right _ z))
  have e : Same (hid g X σ ρ H) (hide ((X ++ owned σ ρ) ++ g.pr) H) := hide_mono fun b hb => by
    rcases List.mem_append.mp hb with z | z
    · rcases List.mem_append.mp z with z | z
      · exact List.mem_append_left _ z
      · exact List.mem_append_right _ (List.mem_append_right _ z)
    · exact pr_sub z
  obtain ⟨h1, h2⟩ := args_rs hO R.st (r.mn e)
  refine ⟨by rw [h1]; exact List.nodup_nil, ?_, fun b o q => ⟨(hide_some q).2, (hide_some q).1⟩, (by rw [h1]; intro p hp; cases hp), fun b hb => ⟨hO b hb, (by rw [h1]; intro z; cases z)⟩, R.st⟩
  show SlsOk g (hide ((X ++ owned σ ρ) ++ (g.pr ++ owned (vs.map some) πs)) H) H _ _
  rw [h1, List.append_nil]
  exact h2
theorem back_mono {H : Hp} : Same (hide ((X ++ owned σ ρ) ++ g.pr) H) (hid g X σ ρ H) := hide_mono fun b hb => by
  rcases List.mem_append.mp hb with z | z
  · exact List.mem_append_left _ (List.mem_append_left _ z)
  · rcases List.mem_append.mp z with z | z
    · exact List.mem_append_right _ z
    · exact List.mem_append_left _ (List.mem_append_right _ z)
/-- f(..) -/
theorem ev_call {T : DT} {Φ : Dat → Prop} (h : EvP g tr ρ fun πs => T πs Φ) : EvC g (tCall (spD g.K T) [] E tr) ρ Φ := fun X Y σ H Q R k =>
  h X Y σ H _ R fun πs vs H1 hT n1 r1 => by
    show spD g.K T (vs ++ []) H1 Q E
    rw [List.append_nil]
    exact ⟨g.st, X ++ owned σ ρ, πs, Φ, call_rs (R.nx n1) r1, hT, fun d v H' hd n2 r2 => k d v H' hd (n1.trans n2) (r2.mn back_mono)⟩
theorem en_call {T : NT} {Φ : List Dat → Prop} (h : EvP g tr ρ fun πs => T πs Φ) : EvN g (tCall (spN g.K T) [] E tr) ρ Φ := fun X Y σ H Q R k =>
  h X Y σ H _ R fun πs vs H1 hT n1 r1 => by
    show spN g.K T (vs ++ []) H1 Q E
    rw [List.append_nil]
    refine ⟨g.st, X ++ owned σ ρ, πs, Φ, call_rs (R.nx n1) r1, hT, fun ds p xs H' hd n2 hp hx r2 => k ds p xs H' hd (n1.trans n2) (nx_none R n1 hp) hx (r2.mn (hide_mono fun b hb => ?_))⟩
    rcases List.mem_cons.mp hb with z | z
    · exact z ▸ List.mem_cons_self
    · refine List.mem_cons_of_mem _ ?_
      rcases List.mem_append.mp z with z | z
      · exact List.mem_append_left _ (List.mem_append_left _ z)
      · rcases List.mem_append.mp z with z | z
        · exact List.mem_append_right _ z
        · exact List.mem_append_left _ (List.mem_append_right _ z)
end
end NW

/-! NwC: operators and built-ins over data. -/
namespace NW
open PySem PySem.Spec PyProof.Rows L2

section
variable {K : PySem.W.Frag}
/-! ### ints -/
def dII (C : Int → Int → Prop) (f : Int → Int → Dat) : Dat → Dat → (Dat → Prop) → Prop
  | .int i, .int j, Φ => C i j ∧ Φ (f i j)
  | _, _, _ => False
def dII0 (f : Int → Int → Dat) : Dat → Dat → (Dat → Prop) → Prop
  | .int i, .int j, Φ => Φ (f i j)
  | _, _, _ => False
theorem dII_inv {C : Int → Int → Prop} {f : Int → Int → Dat} {x y : Dat} {Φ : Dat → Prop} (h : dII C f x y Φ) : ∃ i j, x = .int i ∧ y = .int j ∧ C i j ∧ Φ (f i j) := by
  cases x <;> first | exact (show False from h).elim | skip
  cases y <;> first | exact (show False from h).elim | skip
  exact ⟨_, _, rfl, rfl, h⟩
theorem dII0_inv {f : Int → Int → Dat} {x y : Dat} {Φ : Dat → Prop} (h : dII0 f x y Φ) : ∃ i j, x = .int i ∧ y = .int j ∧ Φ (f i j) := by
  cases x <;> first | exact (show False from h).elim | skip
  cases y <;> first | exact (show False from h).elim | skip
  exact ⟨_, _, rfl, rfl, h⟩
theorem od_I {C : Int → Int → Prop} {f : Int → Int → Int} : OpD K (rI C fun i j => .int (f i j)) (dII C fun i j => .int (f i j)) := fun O pr H x y dx dy Φ Q s1 s2 rx ry h k => by
  obtain ⟨i, j, rfl, rfl, hc, hf⟩ := dII_inv h
  cases rx.int_inv
  cases ry.int_inv
  exact ⟨i, j, rfl, rfl, hc, k _ _ H hf (Same.refl _) (.int _)⟩
theorem od_I0 {f : Int → Int → Int} : OpD K (rI0 fun i j => .int (f i j)) (dII0 fun i j => .int (f i j)) := fun O pr H x y dx dy Φ Q s1 s2 rx ry h k => by
  obtain ⟨i, j, rfl, rfl, hf⟩ := dII0_inv h
  cases rx.int_inv
  cases ry.int_inv
  exact ⟨i, j, rfl, rfl, k _ _ H hf (Same.refl _) (.int _)⟩
theorem od_B0 {f : Int → Int → Bool} : OpD K (rI0 fun i j => .bl (f i j)) (dII0 fun i j => .bl (f i j)) := fun O pr H x y dx dy Φ Q s1 s2 rx ry h k => by
  obtain ⟨i, j, rfl, rfl, hf⟩ := dII0_inv h
  cases rx.int_inv
  cases ry.int_inv
  exact ⟨i, j, rfl, rfl, k _ _ H hf (Same.refl _) (.bl _)⟩
theorem dII0_mk {f : Int → Int → Dat} {i j : Int} {Φ : Dat → Prop} (h : Φ (f i j)) : dII0 f (.int i) (.int j) Φ := h
theorem dII_mk {C : Int → Int → Prop} {f : Int → Int → Dat} {i j : Int} {Φ : Dat → Prop} (hc : C i j) (h : Φ (f i j)) : dII C f (.int i) (.int j) Φ := ⟨hc, h⟩
/-- -a -/
def dNeg : Dat → (Dat → Prop) → Prop
  | .int i, Φ => Φ (.int (-i))
  | _, _ => False
theorem ud_neg : UnD K (rU fun i => .int (-i)) dNeg := fun O pr H x dx Φ Q s1 s2 rx h k => by
  cases dx with
  | int i =>
    cases rx.int_inv
    exact ⟨i, rfl, k _ _ H h (Same.refl _) (.int _)⟩
  | _ => cases h
theorem dNeg_mk {i : Int} {Φ : Dat → Prop} (h : Φ (.int (-i))) : dNeg (.int i) Φ := h
theorem dBl_mk {b : Bool} {Φ : Bool → Prop} (h : Φ b) : dBl (.bl b) Φ := h
theorem dInt_mk {b : Int} {Φ : Int → Prop} (h : Φ b) : dInt (.int b) Φ := h
/-! ### == and != of ints, texts, None -/
def dEq (neg : Bool) : Dat → Dat → (Dat → Prop) → Prop
  | .int i, .int j, Φ => Φ (.bl (if neg then !decide (i = j) else decide (i = j)))
  | .str i, .str j, Φ => Φ (.bl (if neg then !decide (i = j) else decide (i = j)))
  | .bl i, .bl j, Φ => Φ (.bl (if neg then !decide (i = j) else decide (i = j)))
  | .non, .non, Φ => Φ (.bl (!neg))
  | .non, .int _, Φ => Φ (.bl neg)
  | .int _, .non, Φ => Φ (.bl neg)
  | .non, .str _, Φ => Φ (.bl neg)
  | .str _, .non, Φ => Φ (.bl neg)
  | .int _, .str _, Φ => Φ (.bl neg)
  | .str _, .int _, Φ => Φ (.bl neg)
  | _, _, _ => False
theorem dEq_i {i j : Int} {Φ : Dat → Prop} (h : Φ (.bl (decide (i = j)))) : dEq false (.int i) (.int j) Φ := h
theorem dEq_s {i j : Str} {Φ : Dat → Prop} (h : Φ (.bl (decide (i = j)))) : dEq false (.str i) (.str j) Φ := h
theorem dEq_b {i j : Bool} {Φ : Dat → Prop} (h : Φ (.bl (decide (i = j)))) : dEq false (.bl i) (.bl j) Φ := h
theorem dNe_i {i j : Int} {Φ : Dat → Prop} (h : Φ (.bl (!decide (i = j)))) : dEq true (.int i) (.int j) Φ := h
theorem dNe_s {i j : Str} {Φ : Dat → Prop} (h : Φ (.bl (!decide (i = j)))) : dEq true (.str i) (.str j) Φ := h
theorem dec_V {α : Type} {f : α → V} (inj : ∀ a b, f a = f b → a = b) [DecidableEq α] (a b : α) : decide (f a = f b) = decide (a = b) := by
  by_cases h : a = b
  · subst h; simp
  · rw [decide_eq_false h, decide_eq_false (fun z => h (inj _ _ z))]
theorem od_eq : OpD K rEq (dEq false) := fun O pr H x y dx dy Φ Q s1 s2 rx ry h k => by
  cases dx <;> cases dy <;> first | exact (show False from h).elim | skip
  all_goals first
    | (cases rx.int_inv; cases ry.int_inv; exact ⟨rfl, k _ _ H h (Same.refl _) (by rw [dec_V (fun a b e => by injection e)]; exact .bl _)⟩)
    | (cases rx.str_inv; cases ry.str_inv; exact ⟨rfl, k _ _ H h (Same.refl _) (by rw [dec_V (fun a b e => by injection e)]; exact .bl _)⟩)
    | (cases rx.bl_inv; cases ry.bl_inv; exact ⟨rfl, k _ _ H h (Same.refl _) (by rw [dec_V (fun a b e => by injection e)]; exact .bl _)⟩)
    | (cases rx.non_inv; cases ry.non_inv; exact ⟨rfl, k _ _ H h (Same.refl _) (.bl _)⟩)
    | (cases rx.non_inv; cases ry.int_inv; exact ⟨rfl, k _ _ H h (Same.refl _) (.bl _)⟩)
    | (cases rx.int_inv; cases ry.non_inv; exact ⟨rfl, k _ _ H h (Same.refl _) (.bl _)⟩)
    | (cases rx.non_inv; cases ry.str_inv; exact ⟨rfl, k _ _ H h (Same.refl _) (.bl _)⟩)
    | (cases rx.str_inv; cases ry.non_inv; exact ⟨rfl, k _ _ H h (Same.refl _) (.bl _)⟩)
    | (cases rx.str_inv; cases ry.int_inv; exact ⟨rfl, k _ _ H h (Same.refl _) (.bl _)⟩)
    | (cases rx.int_inv; cases ry.str_inv; exact ⟨rfl, k _ _ H h (Same.refl _) (.bl _)⟩)
theorem od_ne : OpD K rNe (dEq true) := fun O pr H x y dx dy Φ Q s1 s2 rx ry h k => by
  cases dx <;> cases dy <;> first | exact (show False from h).elim | skip
  all_goals first
    | (cases rx.int_inv; cases ry.int_inv; exact ⟨rfl, k _ _ H h (Same.refl _) (by rw [dec_V (fun a b e => by injection e)]; exact .bl _)⟩)
    | (cases rx.str_inv; cases ry.str_inv; exact ⟨rfl, k _ _ H h (Same.refl _) (by rw [dec_V (fun a b e => by injection e)]; exact .bl _)⟩)
    | (cases rx.bl_inv; cases ry.bl_inv; exact ⟨rfl, k _ _ H h (Same.refl _) (by rw [dec_V (fun a b e => by injection e)]; exact .bl _)⟩)
    | (cases rx.non_inv; cases ry.non_inv; exact ⟨rfl, k _ _ H h (Same.refl _) (.bl _)⟩)
    | (cases rx.non_inv; cases ry.int_inv; exact ⟨rfl, k _ _ H h (Same.refl _) (.bl _)⟩)
    | (cases rx.int_inv; cases ry.non_inv; exact ⟨rfl, k _ _ H h (Same.refl _) (.bl _)⟩)
    | (cases rx.non_inv; cases ry.str_inv; exact ⟨rfl, k _ _ H h (Same.refl _) (.bl _)⟩)
    | (cases rx.str_inv; cases ry.non_inv; exact ⟨rfl, k _ _ H h (Same.refl _) (.bl _)⟩)
    | (cases rx.str_inv; cases ry.int_inv; exact ⟨rfl, k _ _ H h (Same.refl _) (.bl _)⟩)
    | (cases rx.int_inv; cases ry.str_inv; exact ⟨rfl, k _ _ H h (Same.refl _) (.bl _)⟩)
/-! ### is None -/
@[reducible] def isN : Dat → Bool
  | .non => true
  | _ => false
def dIs (neg : Bool) : Dat → Dat → (Dat → Prop) → Prop
  | d, .non, Φ => Φ (.bl (if neg then !isN d else isN d))
  | _, _, _ => False
def rIsN1 : R2 := fun x y H Q => y = .non ∧ Q (.bl (decide (x = .non))) H
def rNotN1 : R2 := fun x y H Q => y = .non ∧ Q (.bl (!decide (x = .non))) H
theorem n_is {X : Cx} : OpR X (compareOp .Is) rIsN1 := op_isN
theorem n_isnot {X : Cx} : OpR X (compareOp .IsNot) rNotN1 := op_notN
theorem isN_V {G G1 : Hp} {v : V} {d : Dat} (r : RpW K G G1 v d) : decide (v = .non) = isN d := by
  cases r with
  | of r => cases r <;> first | rfl | exact decide_eq_false (fun z => nomatch z)
  | lst h r => exact decide_eq_false (fun z => nomatch z)
  | dic h r => exact decide_eq_false (fun z => nomatch z)
theorem od_is : OpD K rIsN1 (dIs false) := fun O pr H x y dx dy Φ Q s1 s2 rx ry h k => by
  cases dy with
  | non => cases ry.non_inv; exact ⟨rfl, k _ _ H h (Same.refl _) (by rw [isN_V rx]; exact .bl _)⟩
  | _ => cases h
theorem od_isnot : OpD K rNotN1 (dIs true) := fun O pr H x y dx dy Φ Q s1 s2 rx ry h k => by
  cases dy with
  | non => cases ry.non_inv; exact ⟨rfl, k _ _ H h (Same.refl _) (by rw [isN_V rx]; exact .bl _)⟩
  | _ => cases h
theorem dIs_f {d : Dat} {Φ : Dat → Prop} (h : Φ (.bl (isN d))) : dIs false d .non Φ := h
theorem dIs_t {d : Dat} {Φ : Dat → Prop} (h : Φ (.bl (!isN d))) : dIs true d .non Φ := h
/-! ### texts -/
def rAddS : R2 := fun x y H Q => ∃ i j, x = .str i ∧ y = .str j ∧ i.length + j.length ≤ sizeLine ∧ Q (.str (i ++ j)) H
theorem n_addS {X : Cx} : OpR X (binaryOp .Add) rAddS := op_add_str
def dSS (C : Str → Str → Prop) (f : Str → Str → Dat) : Dat → Dat → (Dat → Prop) → Prop
  | .str i, .str j, Φ => C i j ∧ Φ (f i j)
  | _, _, _ => False
theorem dSS_inv {C : Str → Str → Prop} {f : Str → Str → Dat} {x y : Dat} {Φ : Dat → Prop} (h : dSS C f x y Φ) : ∃ i j, x = .str i ∧ y = .str j ∧ C i j ∧ Φ (f i j) := by
  cases x <;> first | exact (show False from h).elim | skip
  cases y <;> first | exact (show False from h).elim | skip
  exact ⟨_, _, rfl, rfl, h⟩
theorem dSS_mk {C : Str → Str → Prop} {f : Str → Str → Dat} {i j : Str} {Φ : Dat → Prop} (hc : C i j) (h : Φ (f i j)) : dSS C f (.str i) (.str j) Φ := ⟨hc, h⟩
theorem od_addS : OpD K rAddS (dSS (fun i j => i.length + j.length ≤ sizeLine) fun i j => .str (i ++ j)) := fun O pr H x y dx dy Φ Q s1 s2 rx ry h k => by
  obtain ⟨i, j, rfl, rfl, hc, hf⟩ := dSS_inv h
  cases rx.str_inv
  cases ry.str_inv
  exact ⟨i, j, rfl, rfl, hc, k _ _ H hf (Same.refl _) (.str _)⟩
/-- one sign in a text -/
def rInC : R2 := fun x y H Q => ∃ (c : Nat) (z : Str), x = .str ⟨#[c]⟩ ∧ y = .str z ∧ Q (.bl (decide (c ∈ z.cps.toList))) H
def rNiC : R2 := fun x y H Q => ∃ (c : Nat) (z : Str), x = .str ⟨#[c]⟩ ∧ y = .str z ∧ Q (.bl (!decide (c ∈ z.cps.toList))) H
theorem n_inC {X : Cx} : OpR X (compareOp .In) rInC := op_in_sign
theorem n_niC {X : Cx} : OpR X (compareOp .NotIn) rNiC := op_notIn_sign
def dInC (neg : Bool) : Dat → Dat → (Dat → Prop) → Prop
  | .str i, .str j, Φ => ∃ c, i = ⟨#[c]⟩ ∧ Φ (.bl (if neg then !decide (c ∈ j.cps.toList) else decide (c ∈ j.cps.toList)))
  | _, _, _ => False
theorem dInC_inv {neg : Bool} {x y : Dat} {Φ : Dat → Prop} (h : dInC neg x y Φ) : ∃ c j, x = .str ⟨#[c]⟩ ∧ y = .str j ∧ Φ (.bl (if neg then !decide (c ∈ j.cps.toList) else decide (c ∈ j.cps.toList))) := by
  cases x <;> first | exact (show False from h).elim | skip
  cases y <;> first | exact (show False from h).elim | skip
  obtain ⟨c, rfl, h⟩ := h
  exact ⟨_, _, rfl, rfl, h⟩
theorem od_inC : OpD K rInC (dInC false) := fun O pr H x y dx dy Φ Q s1 s2 rx ry h k => by
  obtain ⟨c, j, rfl, rfl, hf⟩ := dInC_inv h
  cases rx.str_inv
  cases ry.str_inv
  exact ⟨c, j, rfl, rfl, k _ _ H hf (Same.refl _) (.bl _)⟩
theorem od_niC : OpD K rNiC (dInC true) := fun O pr H x y dx dy Φ Q s1 s2 rx ry h k => by
  obtain ⟨c, j, rfl, rfl, hf⟩ := dInC_inv h
  cases rx.str_inv
  cases ry.str_inv
  exact ⟨c, j, rfl, rfl, k _ _ H hf (Same.refl _) (.bl _)⟩
theorem dInC_f {c : Nat} {j : Str} {Φ : Dat → Prop} (h : Φ (.bl (decide (c ∈ j.cps.toList)))) : dInC false (.str ⟨#[c]⟩) (.str j) Φ := ⟨c, rfl, h⟩
theorem dInC_t {c : Nat} {j : Str} {Φ : Dat → Prop} (h : Φ (.bl (!decide (c ∈ j.cps.toList)))) : dInC true (.str ⟨#[c]⟩) (.str j) Φ := ⟨c, rfl, h⟩
/-! ### in a list or tuple of flat items -/
def flatD : Dat → Bool
  | .non => true
  | .bl _ => true
  | .int _ => true
  | .str _ => true
  | _ => false
/-- == of flat data -/
def eqF : Dat → Dat → Bool
  | .non, .non => true
  | .bl a, .bl b => a == b
  | .bl a, .int b => (if a then 1 else 0) == b
  | .int a, .bl b => a == (if b then 1 else 0)
  | .int a, .int b => a == b
  | .str a, .str b => a == b
  | _, _ => false
theorem flat_V {G : Hp} {v : V} {d : Dat} (r : Rp K G v d) (f : flatD d = true) : flatV v = true := by
  cases d <;> first | (cases f; done) | (cases r; rfl)
theorem eqF_V {G G' : Hp} {v u : V} {d e : Dat} (r : Rp K G v d) (q : Rp K G' u e) (f : flatD d = true) (h : flatD e = true) : eqV v u = eqF d e := by
  cases d <;> first | (cases f; done) | skip
  all_goals cases e <;> first | (cases h; done) | skip
  all_goals (cases r; cases q; rfl)
theorem any_V {G G' : Hp} {u : V} {e : Dat} (q : Rp K G' u e) (h : flatD e = true) : ∀ {ds : List Dat} {vs : List V}, RpA K G vs ds → ds.all flatD = true → vs.all flatV = true ∧ (inV u vs) = ds.any fun y => eqF y e := by
  intro ds
  induction ds with
  | nil => intro vs r f; cases r; exact ⟨rfl, rfl⟩
  | cons d ds ih =>
    intro vs r f
    cases r with
    | cons r t =>
      rw [List.all_cons, Bool.and_eq_true] at f
      obtain ⟨i1, i2⟩ := ih t f.2
      refine ⟨by rw [List.all_cons, flat_V r f.1, i1]; rfl, ?_⟩
      unfold inV at i2 ⊢
      rw [List.any_cons, List.any_cons, eqF_V r q f.1 h, i2]
def dIn (neg : Bool) : Dat → Dat → (Dat → Prop) → Prop
  | x, .lst ds, Φ => flatD x = true ∧ ds.all flatD = true ∧ Φ (.bl (if neg then !(ds.any fun y => eqF y x) else ds.any fun y => eqF y x))
  | x, .tup ds, Φ => flatD x = true ∧ ds.all flatD = true ∧ Φ (.bl (if neg then !(ds.any fun y => eqF y x) else ds.any fun y => eqF y x))
  | _, _, _ => False
theorem RpW.flat {G G1 : Hp} {v : V} {d : Dat} (r : RpW K G G1 v d) (f : flatD d = true) : Rp K G v d := by
  cases r with
  | of r => exact r
  | lst h r => cases f
  | dic h r => cases f
theorem od_in {neg : Bool} : OpD K (rIn K neg) (dIn neg) := fun O pr H x y dx dy Φ Q s1 s2 rx ry h k => by
  cases dy with
  | lst ds =>
    obtain ⟨h1, h2, h3⟩ := h
    obtain ⟨a, xs, rfl, q1, q2⟩ := ry.lst_inv (hide_mono s1)
    obtain ⟨z1, z2⟩ := any_V (rx.flat h1) h1 q2 h2
    exact ⟨a, xs, rfl, .inl (SqL.of (hide_same _ _ q1)), flat_V (rx.flat h1) h1, z1, k _ _ H h3 (Same.refl _) (by rw [z2]; exact .bl _)⟩
  | tup ds =>
    obtain ⟨h1, h2, h3⟩ := h
    obtain ⟨a, xs, rfl, q1, q2⟩ := ry.tup_inv (hide_mono s1)
    obtain ⟨z1, z2⟩ := any_V (rx.flat h1) h1 q2 h2
    exact ⟨a, xs, rfl, .inr (Same.sqT hide_same q1), flat_V (rx.flat h1) h1, z1, k _ _ H h3 (Same.refl _) (by rw [z2]; exact .bl _)⟩
  | _ => cases h
theorem any_str {x : Str} {ss : List Str} : ((ss.map Dat.str).any fun y => eqF y (.str x)) = decide (x ∈ ss) := by
  induction ss with
  | nil => rfl
  | cons s ss ih =>
    rw [List.map_cons, List.any_cons, ih]
    by_cases h : s = x
    · subst h
      simp [eqF]
    · have h2 : ¬ x = s := fun z => h z.symm
      have e : eqF (.str s) (.str x) = false := beq_eq_false_iff_ne.mpr h
      rw [e]
      simp [h2]
theorem any_int {x : Int} {ss : List Int} : ((ss.map Dat.int).any fun y => eqF y (.int x)) = decide (x ∈ ss) := by
  induction ss with
  | nil => rfl
  | cons s ss ih =>
    rw [List.map_cons, List.any_cons, ih]
    by_cases h : s = x
    · subst h
      simp [eqF]
    · have h2 : ¬ x = s := fun z => h z.symm
      have e : eqF (.int s) (.int x) = false := beq_eq_false_iff_ne.mpr h
      rw [e]
      simp [h2]
theorem all_str {ss : List Str} : (ss.map Dat.str).all flatD = true := by
  induction ss with
  | nil => rfl
  | cons s ss ih => rw [List.map_cons, List.all_cons, ih]; rfl
theorem all_int {ss : List Int} : (ss.map Dat.int).all flatD = true := by
  induction ss with
  | nil => rfl
  | cons s ss ih => rw [List.map_cons, List.all_cons, ih]; rfl
theorem dIn_s {neg : Bool} {x : Str} {ss : List Str} {Φ : Dat → Prop} (h : Φ (.bl (if neg then !decide (x ∈ ss) else decide (x ∈ ss)))) : dIn neg (.str x) (.lst (ss.map Dat.str)) Φ := ⟨rfl, all_str, by rw [any_str]; exact h⟩
theorem dIn_i {neg : Bool} {x : Int} {ss : List Int} {Φ : Dat → Prop} (h : Φ (.bl (if neg then !decide (x ∈ ss) else decide (x ∈ ss)))) : dIn neg (.int x) (.lst (ss.map Dat.int)) Φ := ⟨rfl, all_int, by rw [any_int]; exact h⟩
/-! ### subscripts -/
def dIx : Dat → Dat → (Dat → Prop) → Prop
  | .lst ds, .int i, Φ => ∃ d, atI ds i = some d ∧ Φ d
  | .tup ds, .int i, Φ => ∃ d, atI ds i = some d ∧ Φ d
  | .str z, .int i, Φ => z.length ≤ sizeLine ∧ ∃ c, atI z.cps.toList i = some c ∧ Φ (.str ⟨#[c]⟩)
  | _, _, _ => False
theorem atI_rp {G : Hp} {vs : List V} {ds : List Dat} (r : RpA K G vs ds) {i : Int} {d : Dat} (h : atI ds i = some d) : ∃ v, atI vs i = some v ∧ Rp K G v d := by
  unfold atI at h ⊢
  rw [r.length]
  cases e : ixN ds.length i with
  | none => rw [e] at h; cases h
  | some j =>
    rw [e] at h
    exact r.get h
theorem od_ix : OpD K (rIx K) dIx := fun O pr H x y dx dy Φ Q s1 s2 rx ry h k => by
  cases dx <;> cases dy <;> first | exact (show False from h).elim | skip
  · cases rx.str_inv
    cases ry.int_inv
    obtain ⟨h1, c, h2, h3⟩ := h
    exact .inr (.inr ⟨_, _, c, rfl, rfl, h1, h2, k _ _ H h3 (Same.refl _) (.str _)⟩)
  · obtain ⟨a, xs, rfl, q1, q2⟩ := rx.lst_inv (hide_mono s1)
    cases ry.int_inv
    obtain ⟨d, h1, h2⟩ := h
    obtain ⟨v, e, r⟩ := atI_rp q2 h1
    exact .inl ⟨a, xs, _, v, rfl, rfl, SqL.of (hide_same _ _ q1), e, k _ _ H h2 (Same.refl _) r⟩
  · obtain ⟨a, xs, rfl, q1, q2⟩ := rx.tup_inv (hide_mono s1)
    cases ry.int_inv
    obtain ⟨d, h1, h2⟩ := h
    obtain ⟨v, e, r⟩ := atI_rp q2 h1
    exact .inr (.inl ⟨a, xs, _, v, rfl, rfl, Same.sqT hide_same q1, e, k _ _ H h2 (Same.refl _) r⟩)
theorem n_ix {X : Cx} (hK : X.K = K) : IxR X (rIx K) := hK ▸ ix_seq
theorem dIx_l {ds : List Dat} {i : Int} {d : Dat} {Φ : Dat → Prop} (e : atI ds i = some d) (h : Φ d) : dIx (.lst ds) (.int i) Φ := ⟨d, e, h⟩
theorem dIx_t {ds : List Dat} {i : Int} {d : Dat} {Φ : Dat → Prop} (e : atI ds i = some d) (h : Φ d) : dIx (.tup ds) (.int i) Φ := ⟨d, e, h⟩
theorem dIx_s {z : Str} {i : Int} {c : Nat} {Φ : Dat → Prop} (hz : z.length ≤ sizeLine) (e : atI z.cps.toList i = some c) (h : Φ (.str ⟨#[c]⟩)) : dIx (.str z) (.int i) Φ := ⟨hz, c, e, h⟩
/-! ### lists: +, list(..), tuple(..), slices -/
def dCat : Dat → Dat → (List Dat → Prop) → Prop
  | .lst xs, .lst ys, Φ => xs.length + ys.length ≤ sizeLine ∧ Φ (xs ++ ys)
  | _, _, _ => False
theorem on_cat : OpN K rCat dCat := fun O pr H x y dx dy Φ Q s1 s2 rx ry h k => by
  cases dx <;> cases dy <;> first | exact (show False from h).elim | skip
  obtain ⟨a, xs, rfl, q1, q2⟩ := rx.lst_inv (hide_mono s1)
  obtain ⟨b, ys, rfl, r1, r2⟩ := ry.lst_inv (hide_mono s1)
  refine ⟨a, b, xs, ys, rfl, rfl, hide_same _ _ q1, hide_same _ _ r1, by rw [q2.length, r2.length]; exact h.1, fun p hp => ?_⟩
  exact k _ p _ _ h.2 (upd_new hp) hp upd_same ((q2.append r2).mn (hide_cons_upd hp))
theorem dCat_mk {xs ys : List Dat} {Φ : List Dat → Prop} (hz : xs.length + ys.length ≤ sizeLine) (h : Φ (xs ++ ys)) : dCat (.lst xs) (.lst ys) Φ := ⟨hz, h⟩
def rListK (K : PySem.W.Frag) : List V → Hp → VK → Prop := fun xs H Q => ∃ p ys, xs = [.ref p] ∧ (SqL K H p ys ∨ SqT K H p ys) ∧ ∀ l, H l = none → Q (.ref l) (upd H l (.lst ys))
theorem n_list {X : Cx} (hK : X.K = K) : CallR X (.type "list") (rListK K) := hK ▸ call_list_of
def dList : List Dat → (List Dat → Prop) → Prop
  | [.lst ds], Φ => Φ ds
  | [.tup ds], Φ => Φ ds
  | _, _ => False
theorem cn_list : CbN K (rListK K) dList := fun O pr H xs dx Φ Q s1 s2 rx h k => by
  match dx, rx, h with
  | [.lst ds], .cons r .nil, h =>
    obtain ⟨a, ys, rfl, q1, q2⟩ := r.lst_inv (hide_mono s1)
    exact ⟨a, ys, rfl, .inl (SqL.of (hide_same _ _ q1)), fun p hp => k _ p _ _ h (upd_new hp) hp upd_same (q2.mn (hide_cons_upd hp))⟩
  | [.tup ds], .cons r .nil, h =>
    obtain ⟨a, ys, rfl, q1, q2⟩ := r.tup_inv (hide_mono s1)
    exact ⟨a, ys, rfl, .inr (Same.sqT hide_same q1), fun p hp => k _ p _ _ h (upd_new hp) hp upd_same (q2.mn (hide_cons_upd hp))⟩
theorem dList_l {ds : List Dat} {Φ : List Dat → Prop} (h : Φ ds) : dList [.lst ds] Φ := h
theorem dList_t {ds : List Dat} {Φ : List Dat → Prop} (h : Φ ds) : dList [.tup ds] Φ := h
def rTupleK (K : PySem.W.Frag) : List V → Hp → VK → Prop := fun xs H Q => ∃ p ys, xs = [.ref p] ∧ ((SqL K H p ys ∧ ∀ l, H l = none → Q (.ref l) (upd H l (.tup ys))) ∨ (SqT K H p ys ∧ Q (.ref p) H))
theorem n_tuple {X : Cx} (hK : X.K = K) : CallR X (.type "tuple") (rTupleK K) := hK ▸ call_tuple_of
def dTuple : List Dat → (Dat → Prop) → Prop
  | [.lst ds], Φ => Φ (.tup ds)
  | [.tup ds], Φ => Φ (.tup ds)
  | _, _ => False
theorem cd_tuple : CbD K (rTupleK K) dTuple := fun O pr H xs dx Φ Q s1 s2 rx h k => by
  match dx, rx, h with
  | [.lst ds], .cons r .nil, h =>
    obtain ⟨a, ys, rfl, q1, q2⟩ := r.lst_inv (hide_mono s1)
    exact ⟨a, ys, rfl, .inl ⟨SqL.of (hide_same _ _ q1), fun p hp => k _ _ _ h (upd_new hp) (.tup (SqT.of ((hide_out fun z => s2 p z hp).trans upd_same)) (q2.mn (hide_sub (fun _ z => z) fun b o e _ => upd_new hp b o e)))⟩⟩
  | [.tup ds], .cons r .nil, h =>
    cases r with
    | of r =>
      cases r with
      | tup ht r => exact ⟨_, _, rfl, .inr ⟨Same.sqT hide_same ht, k _ _ H h (Same.refl _) (.tup ht r)⟩⟩
theorem dTuple_l {ds : List Dat} {Φ : Dat → Prop} (h : Φ (.tup ds)) : dTuple [.lst ds] Φ := h
theorem dTuple_t {ds : List Dat} {Φ : Dat → Prop} (h : Φ (.tup ds)) : dTuple [.tup ds] Φ := h
/-! ### len, abs, min, max, int, str -/
def rLenK (K : PySem.W.Frag) : List V → Hp → VK → Prop := fun xs H Q => ∃ x n, xs = [x] ∧ LenV K x H n ∧ Q (.int n) H
theorem n_len {X : Cx} (hK : X.K = K) : CallR X (.builtin "len") (rLenK K) := hK ▸ call_len
def dLen : List Dat → (Dat → Prop) → Prop
  | [.lst ds], Φ => Φ (.int ds.length)
  | [.tup ds], Φ => Φ (.int ds.length)
  | [.str z], Φ => z.length ≤ sizeLine ∧ Φ (.int z.length)
  | _, _ => False
theorem cd_len : CbD K (rLenK K) dLen := fun O pr H xs dx Φ Q s1 s2 rx h k => by
  match dx, rx, h with
  | [.lst ds], .cons r .nil, h =>
    obtain ⟨a, ys, rfl, q1, q2⟩ := r.lst_inv (hide_mono s1)
    exact ⟨_, _, rfl, .inl ⟨ys, SqL.of (hide_same _ _ q1), rfl⟩, k _ _ H h (Same.refl _) (by rw [q2.length]; exact .int _)⟩
  | [.tup ds], .cons r .nil, h =>
    obtain ⟨a, ys, rfl, q1, q2⟩ := r.tup_inv (hide_mono s1)
    exact ⟨_, _, rfl, .inr ⟨ys, Same.sqT hide_same q1, rfl⟩, k _ _ H h (Same.refl _) (by rw [q2.length]; exact .int _)⟩
  | [.str z], .cons r .nil, h =>
    cases r.str_inv
    exact ⟨_, _, rfl, ⟨h.1, rfl⟩, k _ _ H h.2 (Same.refl _) (.int _)⟩
theorem dLen_l {ds : List Dat} {Φ : Dat → Prop} (h : Φ (.int ds.length)) : dLen [.lst ds] Φ := h
theorem dLen_t {ds : List Dat} {Φ : Dat → Prop} (h : Φ (.int ds.length)) : dLen [.tup ds] Φ := h
theorem dLen_s {z : Str} {Φ : Dat → Prop} (hz : z.length ≤ sizeLine) (h : Φ (.int z.length)) : dLen [.str z] Φ := ⟨hz, h⟩
def rAbs1 : List V → Hp → VK → Prop := fun xs H Q => ∃ i, xs = [.int i] ∧ Q (.int (if i < 0 then -i else i)) H
theorem n_abs {X : Cx} : CallR X (.builtin "abs") rAbs1 := call_abs
def dI1 (f : Int → Dat) : List Dat → (Dat → Prop) → Prop
  | [.int i], Φ => Φ (f i)
  | _, _ => False
theorem dI1_mk {f : Int → Dat} {i : Int} {Φ : Dat → Prop} (h : Φ (f i)) : dI1 f [.int i] Φ := h
theorem cd_abs : CbD K rAbs1 (dI1 fun i => .int (if i < 0 then -i else i)) := fun O pr H xs dx Φ Q s1 s2 rx h k => by
  match dx, rx, h with
  | [.int i], .cons r .nil, h =>
    cases r.int_inv
    exact ⟨i, rfl, k _ _ H h (Same.refl _) (.int _)⟩
def rMax2 : List V → Hp → VK → Prop := fun xs H Q => ∃ i j, xs = [.int i, .int j] ∧ Q (.int (if j > i then j else i)) H
def rMin2 : List V → Hp → VK → Prop := fun xs H Q => ∃ i j, xs = [.int i, .int j] ∧ Q (.int (if j < i then j else i)) H
theorem n_max2 {X : Cx} (hc : X.calm = true) : CallR X (.builtin "max") rMax2 := call_max2 hc
theorem n_min2 {X : Cx} (hc : X.calm = true) : CallR X (.builtin "min") rMin2 := call_min2 hc
def dI2 (f : Int → Int → Dat) : List Dat → (Dat → Prop) → Prop
  | [.int i, .int j], Φ => Φ (f i j)
  | _, _ => False
theorem dI2_mk {f : Int → Int → Dat} {i j : Int} {Φ : Dat → Prop} (h : Φ (f i j)) : dI2 f [.int i, .int j] Φ := h
theorem cd_max2 : CbD K rMax2 (dI2 fun i j => .int (max i j)) := fun O pr H xs dx Φ Q s1 s2 rx h k => by
  match dx, rx, h with
  | [.int i, .int j], .cons r (.cons q .nil), h =>
    cases r.int_inv
    cases q.int_inv
    exact ⟨i, j, rfl, k _ _ H h (Same.refl _) (by
      have e : (if j > i then j else i) = max i j := by split <;> omega
      rw [e]; exact .int _)⟩
theorem cd_min2 : CbD K rMin2 (dI2 fun i j => .int (min i j)) := fun O pr H xs dx Φ Q s1 s2 rx h k => by
  match dx, rx, h with
  | [.int i, .int j], .cons r (.cons q .nil), h =>
    cases r.int_inv
    cases q.int_inv
    exact ⟨i, j, rfl, k _ _ H h (Same.refl _) (by
      have e : (if j < i then j else i) = min i j := by split <;> omega
      rw [e]; exact .int _)⟩
def dI3 (f : Int → Int → Int → Dat) : List Dat → (Dat → Prop) → Prop
  | [.int i, .int j, .int k], Φ => Φ (f i j k)
  | _, _ => False
theorem dI3_mk {f : Int → Int → Int → Dat} {i j k : Int} {Φ : Dat → Prop} (h : Φ (f i j k)) : dI3 f [.int i, .int j, .int k] Φ := h
theorem cd_min3 : CbD K (rNuC3 nuMin3) (dI3 fun i j l => .int (min (min i j) l)) := fun O pr H xs dx Φ Q s1 s2 rx h k => by
  match dx, rx, h with
  | [.int i, .int j, .int l], .cons r (.cons q (.cons z .nil)), h =>
    cases r.int_inv
    cases q.int_inv
    cases z.int_inv
    refine ⟨_, _, _, .int (min (min i j) l), rfl, ?_, k _ _ H h (Same.refl _) (.int _)⟩
    have e1 : nuMin2 (.int i) (.int j) = some (.int (min i j)) := by
      show some (if decide (j < i) = true then V.int j else V.int i) = _
      by_cases c : j < i
      · rw [decide_eq_true c, if_pos rfl, show min i j = j by omega]
      · rw [decide_eq_false c, if_neg Bool.false_ne_true, show min i j = i by omega]
    show (nuMin2 (.int i) (.int j)).bind (fun m => nuMin2 m (.int l)) = _
    rw [e1]
    show some (if decide (l < min i j) = true then V.int l else V.int (min i j)) = _
    by_cases c : l < min i j
    · rw [decide_eq_true c, if_pos rfl, show min (min i j) l = l by omega]
    · rw [decide_eq_false c, if_neg Bool.false_ne_true, show min (min i j) l = min i j by omega]
def rInt1 : List V → Hp → VK → Prop := fun xs H Q => (∃ i, xs = [.int i] ∧ Q (.int i) H) ∨ ∃ k, xs = [.bl k] ∧ Q (.int (if k then 1 else 0)) H
theorem n_int {X : Cx} : CallR X (.type "int") rInt1 := call_int1
theorem cd_int : CbD K rInt1 (dI1 fun i => .int i) := fun O pr H xs dx Φ Q s1 s2 rx h k => by
  match dx, rx, h with
  | [.int i], .cons r .nil, h =>
    cases r.int_inv
    exact .inl ⟨i, rfl, k _ _ H h (Same.refl _) (.int _)⟩
def rStrI : List V → Hp → VK → Prop := fun xs H Q => ∃ i, xs = [.int i] ∧ i.natAbs.log2 < 1920 ∧ Q (.str (toString i)) H
theorem n_strI {X : Cx} : CallR X (.type "str") rStrI := call_str_int
def dStrI : List Dat → (Dat → Prop) → Prop
  | [.int i], Φ => i.natAbs.log2 < 1920 ∧ Φ (.str (toString i : String))
  | _, _ => False
theorem cd_strI : CbD K rStrI dStrI := fun O pr H xs dx Φ Q s1 s2 rx h k => by
  match dx, rx, h with
  | [.int i], .cons r .nil, h =>
    cases r.int_inv
    exact ⟨i, rfl, h.1, k _ _ H h.2 (Same.refl _) (.str _)⟩
/-- max, sum of a list of ints -/
theorem n_max {X : Cx} (hc : X.calm = true) (hK : X.K = K) : CallR X (.builtin "max") (rMax K) := hK ▸ cr_max hc
def dMax : List Dat → (Dat → Prop) → Prop
  | [.lst ds], Φ => ∃ ns : List Int, ds = ns.map Dat.int ∧ 0 < ns.length ∧ ∀ m, m ∈ ns → (∀ y ∈ ns, y ≤ m) → Φ (.int m)
  | _, _ => False
theorem cd_max : CbD K (rMax K) dMax := fun O pr H xs dx Φ Q s1 s2 rx h k => by
  match dx, rx, h with
  | [.lst ds], .cons r .nil, h =>
    obtain ⟨ns, rfl, h1, h2⟩ := h
    obtain ⟨a, ys, rfl, q1, q2⟩ := r.lst_inv (hide_mono s1)
    cases q2.ints_inv
    exact ⟨a, ns, rfl, SqL.of (hide_same _ _ q1), h1, fun m h3 h4 => k _ _ H (h2 m h3 h4) (Same.refl _) (.int _)⟩
theorem n_sum {X : Cx} (hc : X.calm = true) (hK : X.K = K) : CallR X (.builtin "sum") (rSum K) := hK ▸ cr_sum hc
def dSum : List Dat → (Dat → Prop) → Prop
  | [.lst ds], Φ => ∃ ns : List Int, ds = ns.map Dat.int ∧ Φ (.int ns.sum)
  | _, _ => False
theorem cd_sum : CbD K (rSum K) dSum := fun O pr H xs dx Φ Q s1 s2 rx h k => by
  match dx, rx, h with
  | [.lst ds], .cons r .nil, h =>
    obtain ⟨ns, rfl, h1⟩ := h
    obtain ⟨a, ys, rfl, q1, q2⟩ := r.lst_inv (hide_mono s1)
    cases q2.ints_inv
    exact ⟨a, ns, rfl, SqL.of (hide_same _ _ q1), k _ _ H h1 (Same.refl _) (.int _)⟩
/-! ### isinstance -/
def tyN : Dat → String
  | .non => "NoneType"
  | .bl _ => "bool"
  | .int _ => "int"
  | .str _ => "str"
  | .lst _ => "list"
  | .tup _ => "tuple"
  | .dic _ => "dict"
  | .ins _ _ => ""
@[reducible] def plainD : Dat → Bool
  | .ins _ _ => false
  | _ => true
@[reducible] def isBl : Dat → Bool
  | .bl _ => true
  | _ => false
@[reducible] def isInt : Dat → Bool
  | .bl _ => true
  | .int _ => true
  | _ => false
@[reducible] def isStr : Dat → Bool
  | .str _ => true
  | _ => false
@[reducible] def isLst : Dat → Bool
  | .lst _ => true
  | _ => false
@[reducible] def isTup : Dat → Bool
  | .tup _ => true
  | _ => false
@[reducible] def isDic : Dat → Bool
  | .dic _ => true
  | _ => false
theorem kb_bool : ∀ d : Dat, plainD d = true → kitB (tyN d) "bool" = some (isBl d)
  | .non, _ => by decide +kernel
  | .bl _, _ => by show kitB "bool" "bool" = some true; decide +kernel
  | .int _, _ => by show kitB "int" "bool" = some false; decide +kernel
  | .str _, _ => by show kitB "str" "bool" = some false; decide +kernel
  | .lst _, _ => by show kitB "list" "bool" = some false; decide +kernel
  | .tup _, _ => by show kitB "tuple" "bool" = some false; decide +kernel
  | .dic _, _ => by show kitB "dict" "bool" = some false; decide +kernel
theorem kb_int : ∀ d : Dat, plainD d = true → kitB (tyN d) "int" = some (isInt d)
  | .non, _ => by decide +kernel
  | .bl _, _ => by show kitB "bool" "int" = some true; decide +kernel
  | .int _, _ => by show kitB "int" "int" = some true; decide +kernel
  | .str _, _ => by show kitB "str" "int" = some false; decide +kernel
  | .lst _, _ => by show kitB "list" "int" = some false; decide +kernel
  | .tup _, _ => by show kitB "tuple" "int" = some false; decide +kernel
  | .dic _, _ => by show kitB "dict" "int" = some false; decide +kernel
theorem kb_str : ∀ d : Dat, plainD d = true → kitB (tyN d) "str" = some (isStr d)
  | .non, _ => by decide +kernel
  | .bl _, _ => by show kitB "bool" "str" = some false; decide +kernel
  | .int _, _ => by show kitB "int" "str" = some false; decide +kernel
  | .str _, _ => by show kitB "str" "str" = some true; decide +kernel
  | .lst _, _ => by show kitB "list" "str" = some false; decide +kernel
  | .tup _, _ => by show kitB "tuple" "str" = some false; decide +kernel
  | .dic _, _ => by show kitB "dict" "str" = some false; decide +kernel
theorem kb_list : ∀ d : Dat, plainD d = true → kitB (tyN d) "list" = some (isLst d)
  | .non, _ => by decide +kernel
  | .bl _, _ => by show kitB "bool" "list" = some false; decide +kernel
  | .int _, _ => by show kitB "int" "list" = some false; decide +kernel
  | .str _, _ => by show kitB "str" "list" = some false; decide +kernel
  | .lst _, _ => by show kitB "list" "list" = some true; decide +kernel
  | .tup _, _ => by show kitB "tuple" "list" = some false; decide +kernel
  | .dic _, _ => by show kitB "dict" "list" = some false; decide +kernel
theorem kb_tuple : ∀ d : Dat, plainD d = true → kitB (tyN d) "tuple" = some (isTup d)
  | .non, _ => by decide +kernel
  | .bl _, _ => by show kitB "bool" "tuple" = some false; decide +kernel
  | .int _, _ => by show kitB "int" "tuple" = some false; decide +kernel
  | .str _, _ => by show kitB "str" "tuple" = some false; decide +kernel
  | .lst _, _ => by show kitB "list" "tuple" = some false; decide +kernel
  | .tup _, _ => by show kitB "tuple" "tuple" = some true; decide +kernel
  | .dic _, _ => by show kitB "dict" "tuple" = some false; decide +kernel
theorem kb_dict : ∀ d : Dat, plainD d = true → kitB (tyN d) "dict" = some (isDic d)
  | .non, _ => by decide +kernel
  | .bl _, _ => by show kitB "bool" "dict" = some false; decide +kernel
  | .int _, _ => by show kitB "int" "dict" = some false; decide +kernel
  | .str _, _ => by show kitB "str" "dict" = some false; decide +kernel
  | .lst _, _ => by show kitB "list" "dict" = some false; decide +kernel
  | .tup _, _ => by show kitB "tuple" "dict" = some false; decide +kernel
  | .dic _, _ => by show kitB "dict" "dict" = some true; decide +kernel
theorem tyX_of {O pr : List Addr} {H : Hp} (s1 : ∀ b ∈ pr, b ∈ O) {v : V} {d : Dat} (r : RpW K (hide O H) (hide pr H) v d) (h : plainD d = true) : TyX K H v (.type (tyN d)) := by
  cases d with
  | non => cases r.non_inv; exact .base .non
  | bl b => cases r.bl_inv; exact .base (.bl b)
  | int b => cases r.int_inv; exact .base (.int b)
  | str b => cases r.str_inv; exact .base (.str b)
  | lst ds =>
    obtain ⟨a, xs, rfl, q1, q2⟩ := r.lst_inv (hide_mono s1)
    exact .base (.lst (hide_same _ _ q1))
  | tup ds =>
    obtain ⟨a, xs, rfl, q1, q2⟩ := r.tup_inv (hide_mono s1)
    rcases Same.sqT hide_same q1 with (q | ⟨o, q⟩) | ⟨o, its, n, q, c, _⟩
    · exact .base (.tup q)
    · exact .fTuple q
    · exact .kTuple q c
  | dic ds =>
    obtain ⟨a, xs, rfl, q1, q2⟩ := r.dic_inv (hide_mono s1)
    exact .base (.dK (hide_same _ _ q1))
  | ins C fs => cases h
theorem n_isi {X : Cx} (hK : X.K = K) : CallR X (.builtin "isinstance") (rIsi K) := hK ▸ call_isi
theorem n_isiT {X : Cx} (hK : X.K = K) : CallR X (.builtin "isinstance") (rIsiT K) := hK ▸ call_isiT
end
section
variable {g : Gm} {X : List Addr} {Y : Hp} {σ : L2.St} {ρ : List Sl} {H H' H1 : Hp} {te ta tb tc tl : TE} {tr : TA} {tt : TT} {Φ : Dat → Prop}
/-- isinstance(x, T), T a built-in class -/
theorem ev_isi {T : String} {f : Dat → Bool} (kf : ∀ d, plainD d = true → kitB (tyN d) T = some (f d)) (h : EvS g ta ρ fun d => plainD d = true ∧ Φ (.bl (f d))) : EvC g (tCB (rIsi g.K) (tCons ta (tCons (tC (.ty T)) tNil))) ρ Φ := fun X Y σ H Q R k =>
  h X Y σ H _ R fun d v H1 hd n1 r1 => by
    refine ⟨v, .ty T, .type (tyN d), .type T, f d, rfl, .ty T, tyX_of (fun _ => pr_sub) r1 hd.1, kit_ty (kf d hd.1), k _ _ H1 hd.2 n1 (.bl _)⟩
theorem kitAny2 {K : PySem.W.Frag} {t a b : Value} {x y : Bool} (h1 : PySem.W.kitOne K t a = some x) (h2 : PySem.W.kitOne K t b = some y) : PySem.W.kitAny K t [a, b] = some (x || y) :=
  kitAny_cons h1 (fun e => by subst e; exact kitAny_cons h2 (fun e => by subst e; exact kitAny_nil) (fun e => by subst e; rfl)) (fun e => by subst e; rfl)
theorem ev_isiT {T U : String} {f f' : Dat → Bool} (kf : ∀ d, plainD d = true → kitB (tyN d) T = some (f d)) (kf' : ∀ d, plainD d = true → kitB (tyN d) U = some (f' d)) (h : EvS g ta ρ fun d => plainD d = true ∧ Φ (.bl (f d || f' d))) :
    EvC g (tCB (rIsiT g.K) (tCons ta (tCons (tTup (tCons (tC (.ty T)) (tCons (tC (.ty U)) tNil))) tNil))) ρ Φ := fun X Y σ H Q R k =>
  h X Y σ H _ R fun d v H1 hd n1 r1 => by
    refine ⟨by show 2 ≤ sizeLine; decide, fun p hp => ?_⟩
    have nu : Nx g H1 (upd H1 p (.tup [.ty T, .ty U])) := (R.nx n1).same (upd_new hp)
    refine ⟨v, p, [.ty T, .ty U], .type (tyN d), [.type T, .type U], f d || f' d, rfl, upd_same, .cons (.ty T) (.cons (.ty U) .nil), tyX_of (fun _ => pr_sub) (r1.mn nu.hid nu.hidp) hd.1, kitAny2 (kit_ty (kf d hd.1)) (kit_ty (kf' d hd.1)), k _ _ _ hd.2 (n1.trans nu) (.bl _)⟩
end
/-! ### walks, slices by a written part -/
theorem n_pil {K : PySem.W.Frag} {X : Cx} {tg l : Expr} {tl : TE} (hK : X.K = K) (hl : PE X l tl) : PI X tg l (iList K tl) := hK ▸ pi_list hl
theorem n_pit {K : PySem.W.Frag} {X : Cx} {tg l : Expr} {tl : TE} (hK : X.K = K) (hl : PE X l tl) : PI X tg l (iTup K tl) := hK ▸ pi_tup hl
theorem n_slL {K : PySem.W.Frag} {X : Cx} (hK : X.K = K) : SlR X (rSlL K) := hK ▸ sl_list
theorem n_in {K : PySem.W.Frag} {X : Cx} (hK : X.K = K) : OpR X (compareOp .In) (rIn K false) := hK ▸ op_in_seq
theorem n_ni {K : PySem.W.Frag} {X : Cx} (hK : X.K = K) : OpR X (compareOp .NotIn) (rIn K true) := hK ▸ op_notIn_seq
theorem n_pt {K : PySem.W.Frag} {X : Cx} {a : Expr} {ta : TE} (hK : X.K = K) (ha : PE X a ta) (he : ∀ whole, isTrue a X.env whole = (do let v ← whole; standAt a.pos; holding [v] (truthy v)) := by intro _; rfl) :
    PT X a (fun σ H Q => ta σ H fun x H' => ∃ k, TruV K x H' k ∧ Q k H') := hK ▸ pt_truth ha he
/-- the built-in names -/
structure Bi (mg : Str → Option Value) : Prop where
  len : mg "len" = none
  range : mg "range" = none
  int : mg "int" = none
  str : mg "str" = none
  bool : mg "bool" = none
  list : mg "list" = none
  tuple : mg "tuple" = none
  dict : mg "dict" = none
  set : mg "set" = none
  isinstance : mg "isinstance" = none
  min : mg "min" = none
  max : mg "max" = none
  abs : mg "abs" = none
  sum : mg "sum" = none
  sorted : mg "sorted" = none
  any : mg "any" = none
  all : mg "all" = none
  enumerate : mg "enumerate" = none
  zip : mg "zip" = none
  reversed : mg "reversed" = none
  repr : mg "repr" = none
  iter : mg "iter" = none
  type : mg "type" = none
theorem bb_abs : bootBuiltins "abs" = some (.builtin "abs") := by decide +kernel
theorem bb_max : bootBuiltins "max" = some (.builtin "max") := by decide +kernel
theorem bb_min : bootBuiltins "min" = some (.builtin "min") := by decide +kernel
theorem bb_sum : bootBuiltins "sum" = some (.builtin "sum") := by decide +kernel
theorem bb_len : bootBuiltins "len" = some (.builtin "len") := by decide +kernel
theorem bb_isinstance : bootBuiltins "isinstance" = some (.builtin "isinstance") := by decide +kernel
theorem bb_sorted : bootBuiltins "sorted" = some (.builtin "sorted") := by decide +kernel
theorem bb_any : bootBuiltins "any" = some (.builtin "any") := by decide +kernel
theorem bb_all : bootBuiltins "all" = some (.builtin "all") := by decide +kernel
theorem bb_repr : bootBuiltins "repr" = some (.builtin "repr") := by decide +kernel
theorem bb_int : bootBuiltins "int" = some (.type "int") := by decide +kernel
theorem bb_str : bootBuiltins "str" = some (.type "str") := by decide +kernel
theorem bb_bool : bootBuiltins "bool" = some (.type "bool") := by decide +kernel
theorem bb_list : bootBuiltins "list" = some (.type "list") := by decide +kernel
theorem bb_tuple : bootBuiltins "tuple" = some (.type "tuple") := by decide +kernel
theorem bb_dict : bootBuiltins "dict" = some (.type "dict") := by decide +kernel
theorem bb_set : bootBuiltins "set" = some (.type "set") := by decide +kernel
end NW

/-! NwF: more helpers: facts of a def, promises. -/
namespace NW
open PySem PySem.Spec PyProof.Rows L2
abbrev FnP (K : PySem.W.Frag) (x : Str) (st : Stmt) (f : Addr) (fd : FuncData) : Prop := FunD K x x (defArgs st) (defBody st) (defScope st) [] [] f fd
theorem get_list {X : Cx} : PGet X (rIxL X.K) := by
  intro pins s σ H x y v u Q I rx ry h
  obtain ⟨p, xs, i, z, rfl, rfl, hq, he, q⟩ := h
  cases rx
  obtain ⟨t, rfl⟩ := ry
  obtain ⟨its, r, pl, hz⟩ := I.list hq
  obtain ⟨j, h1, h2, h3, h4, h5⟩ := atI_get he
  obtain ⟨w, ew, rw'⟩ := r.get h2
  have hl := r.length
  have hn := line63
  by_cases h0 : 0 ≤ i
  · have hj : i.toNat = j := by
      rw [seqIndex_of h0 h5] at h1
      exact Option.some.inj h1
    exact wpAny_getItem_list pl.isList h0 (by omega) (by rw [hj]; simpa using ew) ⟨z, H, I, rw', q⟩
  · have hj : (i + (its.toArray.size : Int)).toNat = j := by
      rw [seqIndex_neg (by omega) h4] at h1
      rw [List.size_toArray, ← hl]
      exact Option.some.inj h1
    exact wpAny_getItem_list_neg pl.isList (by omega) (by rw [List.size_toArray] <;> omega) (by omega) (by rw [hj]; simpa using ew) ⟨z, H, I, rw', q⟩
theorem n_getL {K : PySem.W.Frag} {X : Cx} (hK : X.K = K) : PGet X (rIxL K) := hK ▸ get_list
section
variable {g : Gm} {ρ : List Sl} {te ta : TE} {E : DE}
/-- x[k] += e, x a list that the slot owns -/
theorem ds_augL {i : Nat} {a : Option Addr} {ds : List Dat} {f : Int → Int → Int} (e : ρ[i]? = some (.own a ds)) (h : EvC g ta ρ fun x => dInt x fun k => ∃ j m, ixN ds.length k = some j ∧ ds[j]? = some (.int m) ∧ EvC g te ρ fun d => dInt d fun b => E.nx (ρ.set i (.own a (ds.set j (.int (f m b)))))) :
    DSt g (tAugS (tVar i) ta te (rIxL g.K) (ipI f) rSetL) ρ E := fun X Y σ H D R M => by
  obtain ⟨p, xs, h1, h2, r, ha⟩ := R.own e
  refine ⟨_, h1, h X Y σ H _ R fun x w H1 hx n1 r1 => ?_⟩
  obtain ⟨k, rfl, j, m, hj, hm, ht⟩ := dInt_inv hx
  cases r1
  have h2' := nx_own R n1 h1 e rfl h2
  have ra := r.mn n1.hid
  obtain ⟨v, hv, rv⟩ := ra.get hm
  cases rv
  refine ⟨p, xs, k, .int m, rfl, rfl, SqL.of h2', ?_, ht X Y σ H1 _ (R.nx n1) fun d w H2 hd n2 r2 => ?_⟩
  · unfold atI
    rw [r.length, hj]
    exact hv
  obtain ⟨b, rfl, hb⟩ := dInt_inv hd
  cases r2
  refine ⟨m, b, rfl, rfl, p, xs, k, j, rfl, rfl, nx_own (R.nx n1) n2 h1 e rfl h2', by rw [r.length]; exact hj, ?_⟩
  exact M.nx _ _ _ hb (((R.nx n1).nx n2).write h1 e rfl rfl (.own ha upd_same ((ra.mn n2.hid).set (.int _) j)))
end
/-- a method of a built-in type -/
theorem n_bm {K : PySem.W.Frag} {X : Cx} {o e : Expr} {es : List Expr} {to : TE} {t : TA} {name : Str} {apos cpos : Pos} {T id : String} {r : V → List V → Hp → VK → Prop} (hK : X.K = K) (pa : PlainAttrs T) (slot : Slot T name id) (hty : typeOf (.builtin id) = pure (.type "method_descriptor")) (hm : MtR X id r) (ho : PE X o to) (ha : PA X (e :: es) t)
    (hbase : attributeBase o name X.env (eval o X.env) = eval o X.env := by rfl)
    (hfew : ((backTo cpos (starEach (e :: es) X.env)).all (fun x => !x.1) && (backToKw cpos (keywordEach [] X.env)).all (fun x => x.1.isSome)
      && decide ((e :: es).length + ([] : List Keyword).length + (if ([] : List Keyword).isEmpty then 0 else 1) < 30)) = true := by rfl)
    (hline : (apos.endLine == cpos.line) = true := by rfl) (hs : starEach (e :: es) X.env = (false, eval e X.env) :: starEach es X.env := by rfl) (hplain : (backTo cpos (starEach es X.env)).any (·.1) = false := by rfl) :
    PE X (.Call (.Attribute o name apos) (e :: es) [] cpos) (tBM K T r to t) := hK ▸ pe_bm pa slot hty hm ho ha hbase hfew hline hs hplain
theorem n_bm0 {K : PySem.W.Frag} {X : Cx} {o : Expr} {to : TE} {name : Str} {apos cpos : Pos} {T id : String} {r : V → List V → Hp → VK → Prop} (hK : X.K = K) (pa : PlainAttrs T) (slot : Slot T name id) (hty : typeOf (.builtin id) = pure (.type "method_descriptor")) (hm : MtR X id r) (ho : PE X o to)
    (hbase : attributeBase o name X.env (eval o X.env) = eval o X.env := by rfl) (hline : (apos.endLine == cpos.line) = true := by rfl) : PE X (.Call (.Attribute o name apos) [] [] cpos) (tBM0 K T r to) := hK ▸ pe_bm0 pa slot hty hm ho hbase hline
/-- x.append(e) as a statement's expression, in the form that ds_append takes -/
theorem cmul_l {i j : Int} (h : -(2 ^ 64) < i ∧ i < 2 ^ 64) : CMul i j := .inl h
theorem cmul_r {i j : Int} (h : -(2 ^ 64) < j ∧ j < 2 ^ 64) : CMul i j := .inr h
theorem cdiv_w {i j : Int} (h : 0 < j ∧ j < 2 ^ 64) : CDivW i j := wide_div (b := 64) h.1 (by have := h.2; omega) (by decide) (by decide)
end NW

/-! NwG: the store of draws: made, drawn from (by the hand layer itself). -/
namespace NW
open PySem PySem.Spec PyProof.Rows L2
def T_mix : DT := fun ρ Φ => ∃ s t : Int, ρ = [.dat (.int s), .dat (.int t)] ∧ ∀ r : Int, 0 ≤ r → r < 9967 → Φ (.int r)
def T_take : DT := fun ρ Φ => ∃ n : Int, ρ = [.sto, .dat (.int n)] ∧ n < 2 ^ 400 ∧ ∀ r : Int, 0 ≤ r → (r < n ∨ r = 0) → Φ (.int r)
def spStore (K : PySem.W.Frag) : Sp := fun vs H Q E => ∃ (a : Addr) (ns : List Int), vs = [.ref a] ∧ SqL K H a (ns.map V.int) ∧ ∀ l p H', H l = none → H p = none → p ≠ l → Same H H' → H' l = some (.lst (ns.map V.int)) → H' p = some (.lst [.ref l, .int 0, .int 0, .int 0, .int 1, .int 0]) → Q (.ref p) H'
/-- what the store's list holds -/
abbrev stL (l : Addr) (i lf sm seed turn : Int) : List V := [.ref l, .int i, .int lf, .int sm, .int seed, .int turn]
theorem rs0 (K : PySem.W.Frag) (H : Hp) : RS ⟨K, []⟩ [] (fun _ => none) [] H [] := ⟨List.nodup_nil, .nil, (fun _ _ e => by cases e), (fun _ h => by cases h), (fun _ h => by cases h), fun _ h => by cases h⟩
/-- a def whose arguments are plain is called -/
theorem sp_plain {K : PySem.W.Frag} {T : DT} {vs : List V} {πs : List Sl} {H : Hp} {Q : VK} {E : XK} (Φ : Dat → Prop) (r : ArgOk ⟨K, []⟩ H vs πs) (hT : T πs Φ) (k : ∀ d v H', Φ d → Same H H' → Rp K H' v d → Q v H') : spD K T vs H Q E := by
  have e : hid ⟨K, []⟩ [] [] [] H = H := by
    funext b
    exact hide_out (by intro z; cases z)
  have r' : ArgOk ⟨K, []⟩ (hid ⟨K, []⟩ [] [] [] H) vs πs := by rw [e]; exact r
  refine ⟨[], [], πs, Φ, call_rs (rs0 K H) r', hT, fun d v H' hd n r => k d v H' hd (fun b o q => n.kp b o q (by intro z; cases z)) (r.mn fun b o q => (hide_some q).2)⟩
theorem idx_st {K : PySem.W.Frag} {H : Hp} {a l : Addr} {i lf sm seed turn k : Int} {v : V} {Q : VK} (hH : H a = some (.lst (stL l i lf sm seed turn))) (e : atI (stL l i lf sm seed turn) k = some v) (h : Q v H) : rIx K (.ref a) (.int k) H Q := .inl ⟨a, _, k, v, rfl, rfl, SqL.of hH, e, h⟩
theorem idxL_st {K : PySem.W.Frag} {H : Hp} {a l : Addr} {i lf sm seed turn k : Int} {v : V} {Q : VK} (hH : H a = some (.lst (stL l i lf sm seed turn))) (e : atI (stL l i lf sm seed turn) k = some v) (h : Q v H) : rIxL K (.ref a) (.int k) H Q := ⟨a, _, k, v, rfl, rfl, SqL.of hH, e, h⟩
end NW

/-! NwH: promises of a new list or another thing; pop within append; a slot forgotten; texts and lists compared. -/
namespace NW
open PySem PySem.Spec PyProof.Rows L2
section
variable {g : Gm} {te ta tb : TE} {ρ : List Sl} {r : R2} {rc : List V → Hp → VK → Prop} {tr : TA} {t : TS} {E : DE} {tt : TT} {tog : TO}
theorem id_EvC {Φ : Dat → Prop} (h : EvC g te ρ Φ) : EvC g te ρ Φ := h
theorem id_op {Φ : Dat → Prop} (h : EvC g (tOp r ta tb) ρ Φ) : EvC g (tOp r ta tb) ρ Φ := h
theorem id_cb {Φ : Dat → Prop} (h : EvC g (tCB rc tr) ρ Φ) : EvC g (tCB rc tr) ρ Φ := h
theorem id_EvS {Φ : Dat → Prop} (h : EvS g te ρ Φ) : EvS g te ρ Φ := h
theorem id_EvN {Φ : List Dat → Prop} (h : EvN g te ρ Φ) : EvN g te ρ Φ := h
theorem id_EvT {Φ : Bool → Prop} (h : EvT g tt ρ Φ) : EvT g tt ρ Φ := h
theorem id_EvA {Φ : List Dat → Prop} (h : EvA g tr ρ Φ) : EvA g tr ρ Φ := h
theorem id_EvW {Φ : List Dat → Prop} (h : EvW g tr ρ Φ) : EvW g tr ρ Φ := h
theorem id_EvP {Φ : List Sl → Prop} (h : EvP g tr ρ Φ) : EvP g tr ρ Φ := h
theorem id_EvO {Φ : Option Int → Prop} (h : EvO g tog ρ Φ) : EvO g tog ρ Φ := h
theorem id_DSt (h : DSt g t ρ E) : DSt g t ρ E := h
theorem id_asg {i : Nat} (h : DSt g (tAsg te (gName i)) ρ E) : DSt g (tAsg te (gName i)) ρ E := h
theorem id_ret (h : DSt g (tRet te) ρ E) : DSt g (tRet te) ρ E := h
end
abbrev ET := List Sl → (Dat → Prop) → (List Dat → Prop) → Prop
/-- hands back a new list of ds (Ψ ds) or another thing d (Φ d) -/
def spE (K : PySem.W.Frag) (T : ET) : Sp := fun vs H Q E => ∃ (st : List (Addr × Addr)) (X : List Addr) (ρ : List Sl) (Φ : Dat → Prop) (Ψ : List Dat → Prop), RS ⟨K, st⟩ X (hide (Gm.pr ⟨K, st⟩) H) (vs.map some) H ρ ∧ T ρ Φ Ψ ∧
  (∀ d v H', Φ d → Nx ⟨K, st⟩ H H' → Rp K (hide (X ++ Gm.pr ⟨K, st⟩) H') v d → Q v H') ∧
  ∀ ds p xs H', Ψ ds → Nx ⟨K, st⟩ H H' → H p = none → H' p = some (.lst xs) → RpA K (hide (p :: (X ++ Gm.pr ⟨K, st⟩)) H') xs ds → Q (.ref p) H'
section
variable {P : Program} {w : World} {K : PySem.W.Frag} {mg : Str → Option Value} {base : Heap} {x qual : Str} {params : Arguments} {body : List Stmt} {scope : Scope} {f : Addr} {fd : FuncData} {N ps : List Str} {k : Nat}
theorem fn_E {T : ET} (F : FunD K x qual params body scope [] [] f fd) (S : FnScope N ps scope) (hl : ∀ ρ Φ Ψ, T ρ Φ Ψ → ρ.length = ps.length)
    (hb : ∀ (cdv : Value) (A : Around) (outer : List Env) (s : Shared) (H : Hp) (E : XK), Room k (A.deeper (envOfC qual scope s.heap.objs.size f cdv)) →
      ∃ t, PSs (cxOf CX0 P w K mg base N qual scope f cdv A outer s H E).nox body t ∧ ∀ st ρ Φ Ψ, T ρ Φ Ψ → DSt ⟨K, st⟩ t (ρ ++ List.replicate (N.length - ps.length) .no) { nx := fun _ => Φ .non, rt := fun d _ => Φ d, rn := fun ds _ => Ψ ds }) :
    FnOk P w K mg base CX0 (k + 1) f fd ps (spE K T) := by
  have len : ∀ vs H Q E, spE K T vs H Q E → vs.length = ps.length := fun vs H Q E h => by
    obtain ⟨st, X, ρ, Φ, Ψ, R, hT, _⟩ := h
    rw [← hl ρ Φ Ψ hT, ← R.sl.len, List.length_map]
  refine F.ok S len fun cdv A outer s H vs Q E hr h => ?_
  obtain ⟨t, ht, hd⟩ := hb cdv A outer s H E hr
  refine ⟨t, PSs.nox ht, ?_⟩
  have lv := len vs H Q E h
  obtain ⟨st, X, ρ, Φ, Ψ, R, hT, hQ, hQn⟩ := h
  have R1 := R.pad (n := N.length - ps.length)
  rw [start_eq, lv]
  refine hd st ρ Φ Ψ hT X _ _ H _ R1 ⟨fun σ H' ρ' e R' => ?_, fun d v σ H' ρ' e R' r => ?_, fun ds p xs σ H' ρ' e R' hp np hx r _ => ?_, fun _ _ _ e => e.elim, fun _ _ _ e => e.elim, fun _ _ _ _ _ e => e.elim⟩
  · exact hQ .non .non H' e ⟨fun b o q nb => R'.sy b o ((hide_out nb).trans q), R'.st⟩ .non
  · exact hQ d v H' e ⟨fun b o q nb => R'.sy b o ((hide_out nb).trans q), R'.st⟩ r
  · have npr : p ∉ Gm.pr ⟨K, st⟩ := fun z => np (List.mem_append_right _ z)
    exact hQn ds p xs H' e ⟨fun b o q nb => R'.sy b o ((hide_out nb).trans q), R'.st⟩ ((hide_out npr).symm.trans hp) hx r
end
section
variable {g : Gm} {X : List Addr} {Y : Hp} {σ : L2.St} {ρ : List Sl} {H H' : Hp} {te ta tb tc : TE} {tr : TA} {t u : TS} {E : DE} {D : Ends}
theorem ds_asgE {i : Nat} {T : ET} {Ex : XK} (h : EvP g tr ρ fun πs => T πs (fun d => E.nx (ρ.set i (.dat d))) fun ds => E.nx (ρ.set i (.own none ds))) : DSt g (tAsg (tCall (spE g.K T) [] Ex tr) (gName i)) ρ E := fun X Y σ H D R M =>
  h X Y σ H _ R fun πs vs H1 hT n1 r1 => by
    show spE g.K T (vs ++ []) H1 _ Ex
    rw [List.append_nil]
    refine ⟨g.st, X ++ owned σ ρ, πs, _, _, call_rs (R.nx n1) r1, hT, fun d v H' hd n2 r2 => ?_, fun ds p xs H' hd n2 hp hx r2 => ?_⟩
    · exact M.nx _ H' _ hd (((R.nx n1).nx n2).setD (r2.mn back_mono))
    · have R1 := R.nx n1
      have np := R1.new hp
      refine M.nx _ H' _ hd ((R1.nx n2).setO rfl (R1.yn hp) np (by rw [hx]; intro z; cases z) (.own (fun _ z => nomatch z) hx (r2.mn ?_)) (R1.sl.mono ?_ fun q hq o e => n2.kp q o e (R1.nw q hq).2))
      · refine hide_mono fun b hb => ?_
        rcases List.mem_cons.mp hb with z | z
        · exact z ▸ List.mem_cons_self
        · refine List.mem_cons_of_mem _ ?_
          rcases List.mem_append.mp z with z | z
          · exact List.mem_append_left _ (List.mem_append_left _ z)
          · rcases List.mem_append.mp z with z | z
            · exact List.mem_append_right _ z
            · exact List.mem_append_left _ (List.mem_append_right _ z)
      · intro b o e
        obtain ⟨h1, h2⟩ := hide_some e
        have q : b ≠ p := ne_of_none h2 hp
        rw [hide_out (fun z => by rcases List.mem_cons.mp z with z | z; exact q z; exact h1 z)]
        exact n2.kp b o h2 fun z => h1 (pr_sub z)
theorem owned_keep' {i : Nat} {x : Option V} {s : Sl} {p : Addr} {d : Dat} : ∀ {σ : L2.St} {ρ : List Sl}, ρ[i]? = some (.dat d) → p ∈ owned σ ρ → p ∈ owned (σ.set i x) (ρ.set i s) := by
  induction i with
  | zero =>
    intro σ ρ e h
    cases σ with
    | nil => cases h
    | cons y σ =>
      cases ρ with
      | nil => cases h
      | cons t ρ =>
        cases e
        rcases List.mem_append.mp (show p ∈ ownA y (.dat d) ++ owned σ ρ from h) with q | q
        · rw [ownA_dat] at q; cases q
        · exact List.mem_append_right _ q
  | succ i ih =>
    intro σ ρ e h
    cases σ with
    | nil => cases h
    | cons y σ =>
      cases ρ with
      | nil => cases h
      | cons t ρ =>
        rcases List.mem_append.mp (show p ∈ ownA y t ++ owned σ ρ from h) with q | q
        · exact List.mem_append_left _ q
        · exact List.mem_append_right _ (ih (by simpa using e) q)
theorem set_self {α : Type} {l : List α} {i : Nat} {x : α} (h1 : l[i]? = some x) : l.set i x = l := by
  apply List.ext_getElem?
  intro j
  rw [List.getElem?_set]
  by_cases q : i = j
  · subst q
    have : i < l.length := by
      by_cases z : i < l.length
      · exact z
      · rw [List.getElem?_eq_none_iff.mpr (by omega)] at h1; cases h1
    rw [if_pos rfl, if_pos this, h1]
  · rw [if_neg q]
/-- a plain slot is forgotten ahead of an expression -/
theorem en_forget (i : Nat) {d : Dat} (e : ρ[i]? = some (.dat d)) {Φ : List Dat → Prop} (h : EvN g te (ρ.set i .no) Φ) : EvN g te ρ Φ := fun X Y σ H Q R k => by
  obtain ⟨v, h1, _⟩ := R.dat e
  have R1 := R.forget (i := i) (some v)
  rw [set_self h1] at R1
  refine h X Y σ H Q R1 fun ds p xs H' a n hp hq r => k ds p xs H' a n hp hq (r.mn (hide_mono fun b hb => ?_))
  rcases List.mem_cons.mp hb with z | z
  · exact z ▸ List.mem_cons_self
  · refine List.mem_cons_of_mem _ ?_
    rcases List.mem_append.mp z with z | z
    · exact List.mem_append_left _ z
    · rcases List.mem_append.mp z with z | z
      · exact pr_sub z
      · have z2 := owned_keep' (x := some v) (s := .no) e z
        rw [set_self h1] at z2
        exact List.mem_append_right _ (List.mem_append_right _ z2)
/-- x.append(y.pop(k)), x and y two lists that slots own -/
theorem ds_appPop {i j : Nat} {a b : Option Addr} {xs ys : List Dat} (hij : i ≠ j) (e : ρ[i]? = some (.own a xs)) (e2 : ρ[j]? = some (.own b ys)) (h : EvC g te ρ fun d => dInt d fun k => ∃ m d, 0 ≤ k ∧ k = (m : Nat) ∧ ys[m]? = some d ∧ xs.length < sizeLine ∧ ys.length ≤ sizeLine ∧ E.nx ((ρ.set j (.own b (ys.eraseIdx m))).set i (.own a (xs ++ [d])))) :
    DSt g (tDrop (tBM g.K "list" rAppend (tVar i) (tCons (tBM g.K "list" rPopAt (tVar j) (tCons te tNil)) tNil))) ρ E := fun X Y σ H D R M => by
  obtain ⟨p, vs, h1, h2, r, ha⟩ := R.own e
  obtain ⟨q, us, h3, h4, r2, hb⟩ := R.own e2
  refine ⟨_, h1, .inl ⟨rfl, vs, SqL.of h2⟩, _, h3, .inl ⟨rfl, us, SqL.of h4⟩, ?_⟩
  refine h X Y σ H _ R fun d v H1 hd n1 r1 => ?_
  obtain ⟨k, rfl, m, d, k0, rfl, hm, z1, z2, hn⟩ := dInt_inv hd
  cases r1
  have R1 := R.nx n1
  have h2' := nx_own R n1 h1 e rfl h2
  have h4' := nx_own R n1 h3 e2 rfl h4
  obtain ⟨u, hu, ru⟩ := (r2.mn n1.hid).get hm
  have hml : m < us.length := by
    by_cases z : m < us.length
    · exact z
    · rw [List.getElem?_eq_none_iff.mpr (by omega)] at hu; cases hu
  have hl := r2.length
  have z2' : us.length ≤ 16777216 := by rw [hl]; rw [sizeLine_eq] at z2; exact z2
  refine ⟨q, us, (m : Int), m, u, rfl, rfl, h4', by omega, by omega, seqIndex_of (by omega) (by omega), hu, ?_⟩
  have R2 := R1.write (o := .lst (us.eraseIdx m)) h3 e2 rfl rfl (.own hb upd_same ((r2.mn n1.hid).erase m))
  have e' : (ρ.set j (.own b (ys.eraseIdx m)))[i]? = some (.own a xs) := by
    rw [List.getElem?_set, if_neg (fun z => hij z.symm)]; exact e
  obtain ⟨p', vs', h1', h2'', r', ha'⟩ := R2.own e'
  rw [h1] at h1'
  cases h1'
  have qm := own_mem h3 e2 (p := q) (List.mem_singleton.mpr rfl)
  have eh : hid g X σ (ρ.set j (.own b (ys.eraseIdx m))) (upd H1 q (.lst (us.eraseIdx m))) = hid g X σ ρ H1 := by
    obtain ⟨_, z⟩ := SlsOk.write (o := .lst (us.eraseIdx m)) (.own hb upd_same ((r2.mn n1.hid).erase m)) rfl rfl R1.nd R1.sl h3 e2 (t := .own b (ys.eraseIdx m))
    show hide (X ++ (g.pr ++ owned σ (ρ.set j (.own b (ys.eraseIdx m))))) _ = _
    rw [z, hide_upd_in (List.mem_append_right _ (List.mem_append_right _ qm))]
  refine ⟨p, vs', u, rfl, rfl, h2'', by rw [r'.length]; exact z1, ?_⟩
  exact M.nx _ _ _ hn (R2.write h1 e' rfl rfl (.own ha upd_same (r'.append (.cons (by rw [eh]; exact ru) .nil))))
end
end NW

/-! NwI: dicts over data. -/
namespace NW
open PySem PySem.Spec PyProof.Rows L2
def valD (kvs : List (Key × Dat)) (k : Key) : Option Dat := (kvs.find? fun kv => decide (kv.1 = k)).map (·.2)
def putD (kvs : List (Key × Dat)) (k : Key) (v : Dat) : List (Key × Dat) :=
  if (kvs.any fun kv => decide (kv.1 = k)) = true then kvs.map (fun kv => if kv.1 = k then (kv.1, v) else kv) else kvs ++ [(k, v)]
def dropD (kvs : List (Key × Dat)) (k : Key) : List (Key × Dat) := kvs.filter fun kv => decide (kv.1 ≠ k)
/-- a datum as a key -/
def keyD : Dat → Option Key
  | .int i => some (.inl i)
  | .str x => some (.inr x)
  | _ => none
section
variable {K : PySem.W.Frag} {G G1 : Hp}
theorem keyD_V {v : V} {d : Dat} {k : Key} (r : RpW K G G1 v d) (h : keyD d = some k) : v = kV k := by
  cases d with
  | int i => cases r.int_inv; cases h; rfl
  | str i => cases r.str_inv; cases h; rfl
  | _ => cases h
theorem RpK.len {xs : List (Key × V)} : ∀ {ds : List (Key × Dat)}, RpK K G xs ds → xs.length = ds.length := by
  induction xs with
  | nil => intro ds r; cases r; rfl
  | cons x xs ih => intro ds r; cases r with | cons a b => rw [List.length_cons, List.length_cons, ih b]
theorem RpK.keys {xs : List (Key × V)} : ∀ {ds : List (Key × Dat)}, RpK K G xs ds → xs.map (·.1) = ds.map (·.1) := by
  induction xs with
  | nil => intro ds r; cases r; rfl
  | cons x xs ih => intro ds r; cases r with | cons a b => rw [List.map_cons, List.map_cons, ih b]
theorem RpK.val {k : Key} {xs : List (Key × V)} : ∀ {ds : List (Key × Dat)}, RpK K G xs ds → (valD ds k = none ∧ valV xs k = none) ∨ ∃ d v, valD ds k = some d ∧ valV xs k = some v ∧ Rp K G v d := by
  induction xs with
  | nil => intro ds r; cases r; exact .inl ⟨rfl, rfl⟩
  | cons x xs ih =>
    intro ds r
    cases r with
    | cons a b =>
      rename_i k' v d ds
      unfold valD valV
      by_cases q : k' = k
      · rw [List.find?_cons_of_pos (by simpa using q), List.find?_cons_of_pos (by simpa using q)]
        exact .inr ⟨_, _, rfl, rfl, a⟩
      · rw [List.find?_cons_of_neg (by simpa using q), List.find?_cons_of_neg (by simpa using q)]
        exact ih b
theorem RpK.any {k : Key} {xs : List (Key × V)} : ∀ {ds : List (Key × Dat)}, RpK K G xs ds → (xs.any fun kv => decide (kv.1 = k)) = ds.any fun kv => decide (kv.1 = k) := by
  induction xs with
  | nil => intro ds r; cases r; rfl
  | cons x xs ih => intro ds r; cases r with | cons a b => rw [List.any_cons, List.any_cons, ih b]
theorem RpK.putMap {k : Key} {v : V} {d : Dat} (q : Rp K G v d) {xs : List (Key × V)} : ∀ {ds : List (Key × Dat)}, RpK K G xs ds → RpK K G (xs.map fun kv => if kv.1 = k then (kv.1, v) else kv) (ds.map fun kv => if kv.1 = k then (kv.1, d) else kv) := by
  induction xs with
  | nil => intro ds r; cases r; exact .nil
  | cons x xs ih =>
    intro ds r
    cases r with
    | cons a b =>
      rename_i k' v' d' ds
      rw [List.map_cons, List.map_cons]
      by_cases z : k' = k
      · rw [if_pos z, if_pos z]; exact .cons q (ih b)
      · rw [if_neg z, if_neg z]; exact .cons a (ih b)
theorem RpK.app {xs ys : List (Key × V)} : ∀ {ds es : List (Key × Dat)}, RpK K G xs ds → RpK K G ys es → RpK K G (xs ++ ys) (ds ++ es) := by
  induction xs with
  | nil => intro ds es r s; cases r; exact s
  | cons x xs ih => intro ds es r s; cases r with | cons a b => exact .cons a (ih b s)
theorem RpK.put {k : Key} {v : V} {d : Dat} (q : Rp K G v d) {xs : List (Key × V)} {ds : List (Key × Dat)} (r : RpK K G xs ds) : RpK K G (putK xs k v) (putD ds k d) := by
  unfold putK putD
  rw [r.any]
  split
  · exact r.putMap q
  · exact r.app (.cons q .nil)
theorem RpK.drop {k : Key} {xs : List (Key × V)} : ∀ {ds : List (Key × Dat)}, RpK K G xs ds → RpK K G (dropK xs k) (dropD ds k) := by
  induction xs with
  | nil => intro ds r; cases r; exact .nil
  | cons x xs ih =>
    intro ds r
    cases r with
    | cons a b =>
      rename_i k' v' d' ds
      unfold dropK dropD
      by_cases z : k' ≠ k
      · rw [List.filter_cons_of_pos (by simpa using z), List.filter_cons_of_pos (by simpa using z)]; exact .cons a (ih b)
      · rw [List.filter_cons_of_neg (by simpa using z), List.filter_cons_of_neg (by simpa using z)]; exact ih b
end
section
variable {g : Gm} {X : List Addr} {Y : Hp} {σ : L2.St} {ρ : List Sl} {H H' : Hp} {te ta tb tc td ty tx : TE} {tr : TA} {t u : TS} {E : DE} {D : Ends}
/-- {} in a slot of its own -/
theorem ds_asgNewK {i : Nat} (h : E.nx (ρ.set i (.ownK []))) : DSt g (tAsg tDNewK (gName i)) ρ E := fun X Y σ H D R M => fun p hp => by
  have np := R.new hp
  have R1 := R.nx (R.same (upd_new (o := .dK []) hp))
  refine M.nx _ _ _ h (R1.setO rfl (R.yn hp) np (by rw [upd_same]; intro z; cases z) (.ownK upd_same .nil) (R.sl.mono ?_ fun q hq o e => upd_new hp q o e))
  intro b o e
  obtain ⟨h1, h2⟩ := hide_some e
  have q : b ≠ p := ne_of_none h2 hp
  rw [hide_out (fun z => by rcases List.mem_cons.mp z with z | z; exact q z; exact h1 z)]
  exact upd_new hp b o h2
/-- d[k] -/
def dGetK : Dat → Dat → (Dat → Prop) → Prop
  | .dic kvs, x, Φ => ∃ k d, keyD x = some k ∧ valD kvs k = some d ∧ Φ d
  | _, _, _ => False
theorem ev_dget {Φ : Dat → Prop} (h : EvS g td ρ fun x => EvS g ty ρ fun y => dGetK x y Φ) : EvC g (tDGet td ty) ρ Φ := fun X Y σ H Q R k =>
  h X Y σ H _ R fun dx x H1 h1 n1 r1 => h1 X Y σ H1 _ (R.nx n1) fun dy y H2 h2 n2 r2 => by
    cases dx with
    | dic kvs =>
      obtain ⟨ke, d, hk, hv, hf⟩ := h2
      obtain ⟨a, xs, rfl, q1, q2⟩ := (r1.mn n2.hid n2.hidp).dic_inv hid_p
      cases keyD_V r2 hk
      rcases q2.val (k := ke) with ⟨z, _⟩ | ⟨d', v, z1, z2, z3⟩
      · rw [hv] at z; cases z
      · rw [hv] at z1
        cases z1
        refine ⟨a, v, rfl, ?_, k _ _ H2 hf (n1.trans n2) z3⟩
        rw [← z2]
        exact DGet.k (hide_same _ _ q1)
    | _ => cases h2
theorem dGetK_s {kvs : List (Key × Dat)} {s : Str} {d : Dat} {Φ : Dat → Prop} (e : valD kvs (.inr s) = some d) (h : Φ d) : dGetK (.dic kvs) (.str s) Φ := ⟨_, _, rfl, e, h⟩
/-- k in d -/
def dInK (neg : Bool) : Dat → Dat → (Dat → Prop) → Prop
  | x, .dic kvs, Φ => ∃ k, keyD x = some k ∧ Φ (.bl (if neg then !(valD kvs k).isSome else (valD kvs k).isSome))
  | _, _, _ => False
theorem RpK.isSome {K : PySem.W.Frag} {G : Hp} {k : Key} {xs : List (Key × V)} {ds : List (Key × Dat)} (r : RpK K G xs ds) : (valV xs k).isSome = (valD ds k).isSome := by
  rcases r.val (k := k) with ⟨z, z2⟩ | ⟨d', v, z1, z2, z3⟩
  · rw [z, z2] <;> rfl
  · rw [z1, z2] <;> rfl
theorem ev_din {Φ : Dat → Prop} (h : EvS g ty ρ fun y => EvS g td ρ fun x => dInK false y x Φ) : EvC g (tDIn ty td) ρ Φ := fun X Y σ H Q R k =>
  h X Y σ H _ R fun dy y H1 h1 n1 r1 => h1 X Y σ H1 _ (R.nx n1) fun dx x H2 h2 n2 r2 => by
    cases dx with
    | dic kvs =>
      obtain ⟨ke, hk, hf⟩ := h2
      obtain ⟨a, xs, rfl, q1, q2⟩ := r2.dic_inv hid_p
      cases keyD_V (r1.mn n2.hid n2.hidp) hk
      refine ⟨a, _, rfl, DGet.k (hide_same _ _ q1), k _ _ H2 hf (n1.trans n2) ?_⟩
      rw [q2.isSome]
      exact .bl _
    | _ => cases h2
theorem ev_dnotin {Φ : Dat → Prop} (h : EvS g ty ρ fun y => EvS g td ρ fun x => dInK true y x Φ) : EvC g (tDNotIn ty td) ρ Φ := fun X Y σ H Q R k =>
  h X Y σ H _ R fun dy y H1 h1 n1 r1 => h1 X Y σ H1 _ (R.nx n1) fun dx x H2 h2 n2 r2 => by
    cases dx with
    | dic kvs =>
      obtain ⟨ke, hk, hf⟩ := h2
      obtain ⟨a, xs, rfl, q1, q2⟩ := r2.dic_inv hid_p
      cases keyD_V (r1.mn n2.hid n2.hidp) hk
      refine ⟨a, _, rfl, DGet.k (hide_same _ _ q1), k _ _ H2 hf (n1.trans n2) ?_⟩
      rw [q2.isSome]
      exact .bl _
    | _ => cases h2
theorem dInK_s {kvs : List (Key × Dat)} {s : Str} {Φ : Dat → Prop} (h : Φ (.bl (valD kvs (.inr s)).isSome)) : dInK false (.str s) (.dic kvs) Φ := ⟨_, rfl, h⟩
theorem dNiK_s {kvs : List (Key × Dat)} {s : Str} {Φ : Dat → Prop} (h : Φ (.bl (!(valD kvs (.inr s)).isSome))) : dInK true (.str s) (.dic kvs) Φ := ⟨_, rfl, h⟩
/-- d.get(k, x) -/
theorem ev_dget2 {Φ : Dat → Prop} (h : EvS g td ρ fun x => ∃ kvs, x = .dic kvs ∧ EvS g ty ρ fun y => EvC g tx ρ fun z => ∃ k, keyD y = some k ∧ Φ ((valD kvs k).getD z)) : EvC g (tDGet2 td ty tx) ρ Φ := fun X Y σ H Q R k =>
  h X Y σ H _ R fun dx x H1 h1 n1 r1 => by
    obtain ⟨kvs, rfl, h1⟩ := h1
    obtain ⟨a, xs, rfl, q1, q2⟩ := r1.dic_inv hid_p
    refine ⟨a, rfl, .inl ⟨xs, .inl (hide_same _ _ q1)⟩, ?_⟩
    refine h1 X Y σ H1 _ (R.nx n1) fun dy y H2 h2 n2 r2 => h2 X Y σ H2 _ ((R.nx n1).nx n2) fun dz z H3 h3 n3 r3 => ?_
    obtain ⟨ke, hk, hf⟩ := h3
    have n23 := n2.trans n3
    cases keyD_V r2 hk
    have q1' := n23.hidp _ _ q1
    have q2' := q2.mn n23.hid
    refine ⟨_, DGet.k (hide_same _ _ q1'), k _ _ H3 hf (n1.trans n23) ?_⟩
    rcases q2'.val (k := ke) with ⟨z1, z2⟩ | ⟨d', v, z1, z2, z3⟩
    · rw [z1, z2]; exact r3
    · rw [z1, z2]; exact z3
/-- d[k] = v -/
theorem ds_dput {i : Nat} {kvs : List (Key × Dat)} (e : ρ[i]? = some (.ownK kvs)) (h : EvC g te ρ fun d => EvS g ty ρ fun y => ∃ k, keyD y = some k ∧ kvs.length < sizeLine ∧ E.nx (ρ.set i (.ownK (putD kvs k d)))) : DSt g (sDPut (tVar i) ty te) ρ E := fun X Y σ H D R M => by
  obtain ⟨p, xs, h1, h2, r⟩ := R.ownK e
  refine h X Y σ H _ R fun d v H1 hd n1 r1 => ?_
  refine ⟨_, h1, hd X Y σ H1 _ (R.nx n1) fun y w H2 hy n2 r2 => ?_⟩
  obtain ⟨ke, hk, hz, hn⟩ := hy
  cases keyD_V r2 hk
  have n := n1.trans n2
  have h2' := nx_own R n h1 e rfl h2
  refine ⟨p, _, rfl, DPut.k h2' (by rw [r.len]; exact hz), ?_⟩
  exact M.nx _ _ _ hn ((R.nx n).write h1 e rfl rfl (.ownK upd_same ((r.mn n.hid).put (r1.mn n2.hid))))
end
theorem n_dget {K : PySem.W.Frag} {X : Cx} {o i : Expr} {pos : Pos} {td ty : TE} (hK : X.K = K) (hu : X.A.units + 1 < cLine) (ho : PE X o td) (hi : PE X i ty) (hs : NoSl i := by intro _ _; rfl) : PE X (.Subscript o i pos) (tDGet td ty) := pe_dget hu ho hi hs
end NW

/-! NwJ: instances over data: fields, methods, constants, len by __len__, making. -/
namespace NW
open PySem PySem.Spec PyProof.Rows L2
def putFd (f : Str) (d : Dat) : List (Str × Dat) → List (Str × Dat)
  | [] => [(f, d)]
  | (g, x) :: r => if g = f then (g, d) :: r else (g, x) :: putFd f d r
section
variable {K : PySem.W.Frag} {G : Hp}
theorem RpF.put {f : Str} {v : V} {d : Dat} (q : Rp K G v d) {xs : List (Str × V)} : ∀ {fs : List (Str × Dat)}, RpF K G xs fs → RpF K G (putF f v xs) (putFd f d fs) := by
  induction xs with
  | nil => intro fs r; cases r; exact .cons q .nil
  | cons x xs ih =>
    intro fs r
    cases r with
    | cons a b =>
      rename_i k' v' d' fs
      show RpF K G (if k' = f then (k', v) :: xs else (k', v') :: putF f v xs) (if k' = f then (k', d) :: fs else (k', d') :: putFd f d fs)
      by_cases z : k' = f
      · rw [if_pos z, if_pos z]; exact .cons q b
      · rw [if_neg z, if_neg z]; exact .cons a (ih b)
theorem RpF.look {f : Str} {xs : List (Str × V)} : ∀ {fs : List (Str × Dat)}, RpF K G xs fs → (fs.lookup f = none ∧ xs.lookup f = none) ∨ ∃ d v, fs.lookup f = some d ∧ xs.lookup f = some v ∧ Rp K G v d := by
  induction xs with
  | nil => intro fs r; cases r; exact .inl ⟨rfl, rfl⟩
  | cons x xs ih =>
    intro fs r
    cases r with
    | cons a b =>
      rename_i k' v' d' fs
      by_cases z : (f == k') = true
      · exact .inr ⟨d', v', by rw [List.lookup_cons, z], by rw [List.lookup_cons, z], a⟩
      · have z' : (f == k') = false := by simpa using z
        rcases ih b with ⟨q1, q2⟩ | ⟨d, v, q1, q2, q3⟩
        · exact .inl ⟨by rw [List.lookup_cons, z']; exact q1, by rw [List.lookup_cons, z']; exact q2⟩
        · exact .inr ⟨d, v, by rw [List.lookup_cons, z']; exact q1, by rw [List.lookup_cons, z']; exact q2, q3⟩
theorem RpF.len {xs : List (Str × V)} : ∀ {fs : List (Str × Dat)}, RpF K G xs fs → xs.length = fs.length := by
  induction xs with
  | nil => intro fs r; cases r; rfl
  | cons x xs ih => intro fs r; cases r with | cons a b => rw [List.length_cons, List.length_cons, ih b]
end
section
variable {g : Gm} {X : List Addr} {Y : Hp} {σ : L2.St} {ρ : List Sl} {H H' : Hp} {te ta tb tc td ty tx tv : TE} {tr : TA} {t u : TS} {E : DE} {D : Ends} {C : Addr} {f m : Str} {Ex : XK}
/-- x.f -/
theorem ev_fld {Φ : Dat → Prop} (cl : Cls g.K C) (na : NoAttr g.K C f) (h : EvC g ta ρ fun x => ∃ fs d, x = .ins C fs ∧ fs.lookup f = some d ∧ Φ d) : EvC g (tFld g.K ta f) ρ Φ := fun X Y σ H Q R k =>
  h X Y σ H _ R fun dx x H1 h1 n1 r1 => by
    obtain ⟨fs, d, rfl, hl, hf⟩ := h1
    cases r1 with
    | ins ha r =>
      rcases r.look (f := f) with ⟨z, _⟩ | ⟨d', v, z1, z2, z3⟩
      · rw [hl] at z; cases z
      · rw [hl] at z1
        cases z1
        exact ⟨_, C, _, _, v, rfl, (hide_some ha).2, cl, na, z2, k _ _ H1 hf n1 z3⟩
/-- x.f, x an instance that is being made -/
theorem ev_fldO {i : Nat} {a : Addr} {fs : List (Str × Dat)} {d : Dat} {Φ : Dat → Prop} (cl : Cls g.K C) (na : NoAttr g.K C f) (e : ρ[i]? = some (.obj a C fs)) (hl : fs.lookup f = some d) (h : Φ d) : EvC g (tFld g.K (tVar i) f) ρ Φ := fun X Y σ H Q R k => by
  obtain ⟨dx, xs, h1, h2, r⟩ := R.obj e
  rcases r.look (f := f) with ⟨z, _⟩ | ⟨d', v, z1, z2, z3⟩
  · rw [hl] at z; cases z
  · rw [hl] at z1
    cases z1
    exact ⟨_, h1, a, C, dx, xs, v, rfl, h2, cl, na, z2, k _ _ H h R.refl z3⟩
/-- x.f = e, x an instance that is being made -/
theorem ds_sfld {i : Nat} {a : Addr} {fs : List (Str × Dat)} (cl : Cls g.K C) (na : NoAttr g.K C f) (e : ρ[i]? = some (.obj a C fs)) (h : EvC g tv ρ fun d => fs.length < 1000 ∧ E.nx (ρ.set i (.obj a C (putFd f d fs)))) : DSt g (sFld g.K (tVar i) tv f) ρ E := fun X Y σ H D R M => by
  obtain ⟨dx, xs, h1, h2, r⟩ := R.obj e
  refine h X Y σ H _ R fun d v H1 hd n1 r1 => ?_
  have h2' := nx_own R n1 h1 e rfl h2
  refine ⟨_, h1, a, C, dx, xs, rfl, h2', cl, na, by rw [r.len]; exact hd.1, ?_⟩
  exact M.nx _ _ _ hd.2 ((R.nx n1).write h1 e rfl rfl (.obj upd_same (RpF.put r1 (RpF.mono n1.hid _ _ r))))
/-- x.f, a constant of the class: an int -/
theorem ev_con {i : Int} {u : Value} {Φ : Dat → Prop} (cl : Cls g.K C) (co : Con g.K C f (.int i) u) (h : EvC g ta ρ fun x => ∃ fs, x = .ins C fs ∧ fs.lookup f = none ∧ Φ (.int i)) : EvC g (tCon g.K ta f) ρ Φ := fun X Y σ H Q R k =>
  h X Y σ H _ R fun dx x H1 h1 n1 r1 => by
    obtain ⟨fs, rfl, hl, hf⟩ := h1
    cases r1 with
    | ins ha r =>
      rcases r.look (f := f) with ⟨_, z⟩ | ⟨d', v, z1, z2, z3⟩
      · exact ⟨_, C, _, _, _, u, rfl, (hide_some ha).2, cl, co, z, k _ _ H1 hf n1 (.int i)⟩
      · rw [hl] at z1; cases z1
/-- C.f, a constant of the class: an int -/
theorem ev_cval {i : Int} {mc u : Value} {Φ : Dat → Prop} (cr : ClX.CRead g.K C mc) (cv : ClX.CVal g.K C mc f (.int i) u) (h : Φ (.int i)) : EvC g (ClX.tCVal g.K (tC (.ref C)) f) ρ Φ := fun X Y σ H Q R k => ⟨C, mc, .int i, u, rfl, cr, cv, k _ _ H h R.refl (.int i)⟩
/-- x.m(..) -/
theorem ev_meth {T : DT} {Φ : Dat → Prop} (h : EvC g ta ρ fun x => ∃ fs, x = .ins C fs ∧ fs.lookup m = none ∧ EvP g tr ρ fun πs => T (.dat x :: πs) Φ) : EvC g (tMeth C m (spD g.K T) [] Ex ta tr) ρ Φ := fun X Y σ H Q R k =>
  h X Y σ H _ R fun dx x H1 h1 n1 r1 => by
    obtain ⟨fs, rfl, hl, hf⟩ := h1
    have r1' := r1
    cases r1 with
    | ins ha r =>
      rename_i a dx xs
      rcases r.look (f := m) with ⟨_, z⟩ | ⟨d', v, z1, z2, z3⟩
      · refine ⟨a, dx, xs, rfl, (hide_some ha).2, z, ?_⟩
        refine hf X Y σ H1 _ (R.nx n1) fun πs vs H2 hT n2 r2 => ?_
        show spD g.K T (.ref a :: (vs ++ [])) H2 Q Ex
        rw [List.append_nil]
        exact ⟨g.st, X ++ owned σ ρ, .dat (.ins C fs) :: πs, Φ, call_rs ((R.nx n1).nx n2) (.dat (r1'.mn n2.hid) r2), hT, fun d v H' hd n3 r3 => k d v H' hd (n1.trans (n2.trans n3)) (r3.mn back_mono)⟩
      · rw [hl] at z1; cases z1
theorem en_meth {T : NT} {Φ : List Dat → Prop} (h : EvC g ta ρ fun x => ∃ fs, x = .ins C fs ∧ fs.lookup m = none ∧ EvP g tr ρ fun πs => T (.dat x :: πs) Φ) : EvN g (tMeth C m (spN g.K T) [] Ex ta tr) ρ Φ := fun X Y σ H Q R k =>
  h X Y σ H _ R fun dx x H1 h1 n1 r1 => by
    obtain ⟨fs, rfl, hl, hf⟩ := h1
    have r1' := r1
    cases r1 with
    | ins ha r =>
      rename_i a dx xs
      rcases r.look (f := m) with ⟨_, z⟩ | ⟨d', v, z1, z2, z3⟩
      · refine ⟨a, dx, xs, rfl, (hide_some ha).2, z, ?_⟩
        refine hf X Y σ H1 _ (R.nx n1) fun πs vs H2 hT n2 r2 => ?_
        show spN g.K T (.ref a :: (vs ++ [])) H2 Q Ex
        rw [List.append_nil]
        have n12 := n1.trans n2
        refine ⟨g.st, X ++ owned σ ρ, .dat (.ins C fs) :: πs, Φ, call_rs ((R.nx n1).nx n2) (.dat (r1'.mn n2.hid) r2), hT, fun ds p xs H' hd n3 hp hx r3 => k ds p xs H' hd (n12.trans n3) (nx_none R n12 hp) hx (r3.mn (hide_mono fun b hb => ?_))⟩
        rcases List.mem_cons.mp hb with z | z
        · exact z ▸ List.mem_cons_self
        · refine List.mem_cons_of_mem _ ?_
          rcases List.mem_append.mp z with z | z
          · exact List.mem_append_left _ (List.mem_append_left _ z)
          · rcases List.mem_append.mp z with z | z
            · exact List.mem_append_right _ z
            · exact List.mem_append_left _ (List.mem_append_right _ z)
      · rw [hl] at z1; cases z1
/-- len(x) by __len__ -/
def rLenO (C : Addr) (sp : Sp) : List V → Hp → VK → Prop := fun xs H Q => ∃ a dx fs, xs = [V.ref a] ∧ H a = some (.ins C dx fs) ∧ sp [.ref a] H (fun v H' => ∃ n : Int, v = .int n ∧ 0 ≤ n ∧ n < 2 ^ 63 ∧ Q (.int n) H') E0
theorem ev_lenO {T : DT} {Φ : Dat → Prop} (h : EvC g ta ρ fun x => ∃ fs, x = .ins C fs ∧ T [.dat x] fun d => ∃ n : Int, d = .int n ∧ 0 ≤ n ∧ n < 2 ^ 63 ∧ Φ d) : EvC g (tCB (rLenO C (spD g.K T)) (tCons ta tNil)) ρ Φ := fun X Y σ H Q R k =>
  h X Y σ H _ R fun dx x H1 h1 n1 r1 => by
    obtain ⟨fs, rfl, hT⟩ := h1
    have r1' := r1
    cases r1 with
    | ins ha r =>
      rename_i a dx xs
      refine ⟨a, dx, xs, rfl, (hide_some ha).2, g.st, X ++ owned σ ρ, [.dat (.ins C fs)], _, call_rs (R.nx n1) (.dat r1' .nil), hT, fun d v H' hd n3 r3 => ?_⟩
      obtain ⟨n, rfl, z1, z2, hf⟩ := hd
      cases r3
      exact ⟨n, rfl, z1, z2, k _ _ H' hf (n1.trans n3) (.int n)⟩
/-- an __init__'s promise: of the arguments' slots, the wanted of the fields -/
abbrev IT := List Sl → (List (Str × Dat) → Prop) → Prop
def spI (K : PySem.W.Frag) (C : Addr) (T : IT) : Sp := fun vs H Q E => ∃ (st : List (Addr × Addr)) (X : List Addr) (p dx : Addr) (us : List V) (ρ : List Sl) (Φ : List (Str × Dat) → Prop), vs = .ref p :: us ∧ H p = some (.ins C dx []) ∧ p ∉ X ∧ p ∉ Gm.pr ⟨K, st⟩ ∧
  RS ⟨K, st⟩ (p :: X) (hide (p :: Gm.pr ⟨K, st⟩) H) (us.map some) H ρ ∧ T ρ Φ ∧
  ∀ fs xs dx' H', Φ fs → (∀ b o, b ≠ p → H b = some o → b ∉ Gm.pr ⟨K, st⟩ → H' b = some o) → StOk ⟨K, st⟩ H' → H' p = some (.ins C dx' xs) → RpF K (hide (p :: (X ++ Gm.pr ⟨K, st⟩)) H') xs fs → Q .non H'
theorem ev_make {T : IT} {Φ : Dat → Prop} (h : EvP g tr ρ fun πs => T πs fun fs => Φ (.ins C fs)) : EvC g (tMake C (spI g.K C T) [] Ex tr) ρ Φ := fun X Y σ H Q R k =>
  h X Y σ H _ R fun πs vs H1 hT n1 r1 => fun x dx hx hdx hne => by
    have nd : Nx g H1 (upd H1 dx (.own x)) := (R.nx n1).same (upd_new hdx)
    have R1 := (R.nx n1).nx nd
    have hx1 : (upd H1 dx (.own x)) x = none := by rw [upd_ne hne.symm]; exact hx
    have c := call_rs R1 (r1.mn nd.hid)
    have npr : x ∉ g.pr := fun z => R1.st.some z hx1
    have nX : x ∉ X ++ owned σ ρ := fun z => (c.xd x z).1 hx1
    have c2 := c.addX (o := .ins C dx []) hx1
    have eY : hide g.pr (upd H1 dx (.own x)) = hide (x :: g.pr) (upd (upd H1 dx (.own x)) x (.ins C dx [])) := by
      funext b
      by_cases q : b = x
      · rw [q, hide_out npr, hx1, hide_in List.mem_cons_self]
      · by_cases q2 : b ∈ g.pr
        · rw [hide_in q2, hide_in (List.mem_cons_of_mem _ q2)]
        · rw [hide_out q2, hide_out (fun z => by rcases List.mem_cons.mp z with z | z; exact q z; exact q2 z), upd_ne q]
    rw [eY] at c2
    show spI g.K C T (.ref x :: (vs ++ [])) _ _ Ex
    rw [List.append_nil]
    refine ⟨g.st, X ++ owned σ ρ, x, dx, vs, πs, _, rfl, upd_same, nX, npr, c2, hT, fun fs xs dx' H' hf kp st hxx rf => ⟨rfl, ?_⟩⟩
    have nn : Nx g (upd H1 dx (.own x)) H' := ⟨fun b o e nb => kp b o (ne_of_none e hx1) (by rw [upd_ne (ne_of_none e hx1)]; exact e) nb, st⟩
    have n : Nx g H H' := n1.trans (nd.trans nn)
    refine k _ _ H' hf n (.ins ((hide_out ?_).trans hxx) (RpF.mono (hide_mono fun b hb => ?_) _ _ rf))
    · intro z
      rcases List.mem_append.mp z with z | z
      · exact nX (List.mem_append_left _ z)
      · rcases List.mem_append.mp z with z | z
        · exact npr z
        · exact nX (List.mem_append_right _ z)
    · refine List.mem_cons_of_mem _ ?_
      rcases List.mem_append.mp hb with z | z
      · exact List.mem_append_left _ (List.mem_append_left _ z)
      · rcases List.mem_append.mp z with z | z
        · exact List.mem_append_right _ z
        · exact List.mem_append_left _ (List.mem_append_right _ z)
theorem RS.init {p dx : Addr} (R : RS g (p :: X) (hide (p :: g.pr) H) σ H ρ) (hp : H p = some (.ins C dx [])) (npr : p ∉ g.pr) (nX : p ∉ X) : RS g X (hide (p :: g.pr) H) (some (.ref p) :: σ) H (.obj p C [] :: ρ) := by
  have no : owned σ ρ = [] := by
    apply List.eq_nil_iff_forall_not_mem.mpr
    intro q hq
    have h1 := R.nw q hq
    have h2 := (R.xd p List.mem_cons_self).2
    have h3 : q ≠ p := fun z => h2 (z ▸ hq)
    rw [hide_out (fun z => by rcases List.mem_cons.mp z with z | z; exact h3 z; exact h1.2 z)] at h1
    exact R.own_some hq h1.1
  have eo : owned (some (.ref p) :: σ) (.obj p C [] :: ρ) = [p] := by
    show [p] ++ owned σ ρ = [p]
    rw [no]; rfl
  refine ⟨by rw [eo]; exact List.nodup_cons.mpr ⟨fun z => (by cases z), List.nodup_nil⟩, ?_, R.fr, fun q hq => ?_, fun b hb => ⟨(R.xd b (List.mem_cons_of_mem _ hb)).1, fun z => ?_⟩, R.st⟩
  · refine .cons (.obj hp .nil) (R.sl.mono (hide_mono fun b hb => ?_) fun _ _ _ e => e)
    rw [eo] at hb
    rcases List.mem_append.mp hb with z | z
    · exact List.mem_append_left _ (List.mem_cons_of_mem _ z)
    · rcases List.mem_append.mp z with z | z
      · exact pr_sub z
      · rw [List.mem_singleton.mp z]; exact List.mem_append_left _ List.mem_cons_self
  · rw [eo] at hq
    rw [List.mem_singleton.mp hq]
    exact ⟨hide_in List.mem_cons_self, npr⟩
  · rw [eo] at z
    rw [List.mem_singleton.mp z] at hb
    exact nX hb
end
section
variable {P : Program} {w : World} {K : PySem.W.Frag} {mg : Str → Option Value} {base : Heap} {x qual : Str} {params : Arguments} {body : List Stmt} {scope : Scope} {f C : Addr} {fd : FuncData} {N ps : List Str} {k : Nat}
theorem fn_I {T : IT} (F : FunD K x qual params body scope [] [] f fd) (S : FnScope N ps scope) (hl : ∀ ρ Φ, T ρ Φ → ρ.length + 1 = ps.length)
    (hb : ∀ (cdv : Value) (A : Around) (outer : List Env) (s : Shared) (H : Hp) (E : XK), Room k (A.deeper (envOfC qual scope s.heap.objs.size f cdv)) →
      ∃ t, PSs (cxOf CX0 P w K mg base N qual scope f cdv A outer s H E).nox body t ∧ ∀ st p ρ Φ, T ρ Φ → DSt ⟨K, st⟩ t (.obj p C [] :: (ρ ++ List.replicate (N.length - ps.length) .no)) { nx := fun ρ' => ∃ fs, ρ'[0]? = some (.obj p C fs) ∧ Φ fs, rt := fun _ _ => False, rn := fun _ _ => False }) :
    FnOk P w K mg base CX0 (k + 1) f fd ps (spI K C T) := by
  have len : ∀ vs H Q E, spI K C T vs H Q E → vs.length = ps.length := fun vs H Q E h => by
    obtain ⟨st, X, p, dx, us, ρ, Φ, rfl, _, _, _, R, hT, _⟩ := h
    have := R.sl.len
    rw [List.length_map] at this
    rw [← hl ρ Φ hT, List.length_cons, this]
  refine F.ok S len fun cdv A outer s H vs Q E hr h => ?_
  obtain ⟨t, ht, hd⟩ := hb cdv A outer s H E hr
  refine ⟨t, PSs.nox ht, ?_⟩
  have lv := len vs H Q E h
  obtain ⟨st, X, p, dx, us, ρ, Φ, rfl, hp, nX, npr, R, hT, hQ⟩ := h
  have R1 := (R.init hp npr nX).pad (n := N.length - ps.length)
  rw [start_eq, lv]
  refine hd st p ρ Φ hT X _ _ H _ R1 ⟨fun σ H' ρ' e R' => ?_, fun d v σ H' ρ' e R' r => e.elim, fun ds p xs σ H' ρ' e R' hp np hx r _ => e.elim, fun _ _ _ e => e.elim, fun _ _ _ e => e.elim, fun _ _ _ _ _ e => e.elim⟩
  obtain ⟨fs, e, hf⟩ := e
  obtain ⟨dx', xs, h1, h2, r⟩ := R'.obj e
  refine hQ fs xs dx' H' hf (fun b o nb q npr' => R'.sy b o ((hide_out (fun z => by rcases List.mem_cons.mp z with z | z; exact nb z; exact npr' z)).trans q)) R'.st h2 (RpF.mono (hide_mono fun b hb => ?_) _ _ r)
  rcases List.mem_cons.mp hb with z | z
  · rw [z]
    exact List.mem_append_right _ (List.mem_append_right _ (own_mem h1 e (List.mem_singleton.mpr rfl)))
  · rcases List.mem_append.mp z with z | z
    · exact List.mem_append_left _ z
    · exact pr_sub z
/-- a method that may be called -/
structure CalM (P : Program) (w : World) (K : PySem.W.Frag) (mg : Str → Option Value) (base : Heap) (k : Nat) (C : Addr) (m : Str) (ps : List Str) (sp : Sp) : Prop where
  cl : Cls K C
  ex : ∃ f fd, Meth K C m f ∧ PySem.W.findIn K (.ref C) m = some (some (.ref f)) ∧ PySem.W.typeIn K (.ref f) = some (.type "function") ∧ Binds K fd ps [] ∧ FnOk P w K mg base CX0 k f fd ps sp
/-- a class that may be made -/
structure CalI (P : Program) (w : World) (K : PySem.W.Frag) (mg : Str → Option Value) (base : Heap) (k : Nat) (x : Str) (C : Addr) (ps : List Str) (sp : Sp) : Prop where
  ex : ∃ f fd, mg x = some (.ref C) ∧ Mk K C f ∧ Binds K fd ps [] ∧ FnOk P w K mg base CX0 k f fd ps sp
variable {X : Cx} {e o : Expr} {es : List Expr} {ta : TA} {to : TE} {sp : Sp} {p pos apos : Pos} {m : Str}
theorem n_make (c : CalI X.prog X.w X.K X.mg X.base k x C ps sp) (hr : Room (k + 1) X.A) (hg : Gl X x) (ha : PA X (e :: es) ta) (hdb : (x == ("__debug__" : Str)) = false := by decide)
    (he : starEach (e :: es) X.env = (false, eval e X.env) :: starEach es X.env := by rfl) (hpl : (backTo pos (starEach es X.env)).any (·.1) = false := by rfl) : PE X (.Call (.Name x p) (e :: es) [] pos) (tMake C sp [] E0 ta) := by
  obtain ⟨f, fd, a, b, c, d⟩ := c.ex
  exact pe_make b d hr hg a c .nil pass0 ha hdb he hpl
theorem n_meth0 {pl : Sem Bool} (c : CalM X.prog X.w X.K X.mg X.base k C m ps sp) (hr : Room k X.A) (he : PE X o to)
    (ht : eval (.Call (.Attribute o m apos) [] [] pos) X.env = (do
      let ov ← eval o X.env
      standAt apos.atName
      let (f, first) ← holding [ov] (getMethod ov m pl)
      callWith pos f first (backTo pos (starEach [] X.env)) (backToKw pos (keywordEach [] X.env))) := by rfl) : PE X (.Call (.Attribute o m apos) [] [] pos) (tMeth C m sp [] E0 to tNil) := by
  obtain ⟨f, fd, a, _, _, b, d⟩ := c.ex
  exact pe_meth0 he c.cl a d hr b .nil pass0 ht
theorem n_meth {pl : Sem Bool} (c : CalM X.prog X.w X.K X.mg X.base k C m ps sp) (hr : Room k X.A) (he : PE X o to) (ha : PA X (e :: es) ta)
    (hst : starEach (e :: es) X.env = (false, eval e X.env) :: starEach es X.env := by rfl) (hpl : (backTo pos (starEach es X.env)).any (·.1) = false := by rfl)
    (ht : eval (.Call (.Attribute o m apos) (e :: es) [] pos) X.env = (do
      let ov ← eval o X.env
      standAt apos.atName
      let (f, first) ← holding [ov] (getMethod ov m pl)
      callWith pos f first (backTo pos (starEach (e :: es) X.env)) (backToKw pos (keywordEach [] X.env))) := by rfl) : PE X (.Call (.Attribute o m apos) (e :: es) [] pos) (tMeth C m sp [] E0 to ta) := by
  obtain ⟨f, fd, a, _, _, b, d⟩ := c.ex
  exact pe_meth he c.cl a d hr b .nil pass0 ha hst hpl ht
theorem n_fld (hK : X.K = K) (he : PE X e to) (hb : attributeBase e m X.env (eval e X.env) = eval e X.env := by rfl) : PE X (.Attribute e m pos) (tFld K to m) := hK ▸ pe_fld he hb
theorem n_con (hK : X.K = K) (he : PE X e to) (hb : attributeBase e m X.env (eval e X.env) = eval e X.env := by rfl) : PE X (.Attribute e m pos) (tCon K to m) := hK ▸ pe_con he hb
theorem n_sfld {value : Expr} {tv : TE} {pos' : Pos} (hK : X.K = K) (ha : PE X o to) (hv : PE X value tv) (hs : swapsWith value (some (.Attribute o m pos')) pos.line X.env = pure false := by rfl) : PS X (.Assign [.Attribute o m pos'] value pos) (sFld K to tv m) := hK ▸ ps_fld ha hv hs
/-- len of an instance -/
theorem n_lenO (c : CalM X.prog X.w X.K X.mg X.base k C "__len__" ["self"] sp) (hr : Room (k + 1) X.A) : CallR X (.builtin "len") (rLenO C sp) := by
  intro pins s σ H xs us Q I r h
  obtain ⟨a, dx, fs, rfl, ha, q⟩ := h
  obtain ⟨u, rfl, ru⟩ := r.one
  cases (show u = Value.ref a from ru)
  obtain ⟨f, fd, _, hs, hf, hb, F⟩ := c.ex
  obtain ⟨mA, O, _⟩ := ins_get I.hok ha
  obtain ⟨od, J, _⟩ := O.look
  have hr1 : Room k X.A.in1 := hr.in1
  refine Calls.call_function_entry kind_len plain_len entry_len (args_len1 _) ?_
  unfold Builtin.«len»
  refine wpAny_bind (m := oneArg "len" _) (wpAny_pure ?_)
  refine wpAny_bind (m := callSpecial? (.ref a) (Str.ofString "__len__")) (PySem.W.special_fn I.kIn J hs hf ?_)
  have hl : ([Value.ref a] : List Value).length = (["self"] : List Str).length := rfl
  refine wpAny_call (codeAny_mono (F.run X.A.in1 X.stack s H ⟨[.ref a], []⟩ [.ref a] [.ref a] _ E0 hr1 I.env0.in1 (by
    have z := hb s [.ref a] I.kIn rfl
    exact z) (.cons rfl .nil) q) fun r s' hq => ?_)
  cases r with
  | error e => exact (show False from hq).elim
  | ok fl =>
    cases fl with
    | next => exact False.elim hq
    | brk => exact False.elim hq
    | cont => exact False.elim hq
    | ret u =>
      obtain ⟨v, H', I', rv, n, rfl, n0, n1, qn⟩ := I.after hq
      obtain ⟨t, rfl⟩ := rv
      refine wpAny_bind (wpAny_holding (wpAny_pure ?_))
      refine wpAny_bind (wpAny_letGo ?_)
      show wpAny _ _ (if n < 0 then _ else _) _ _ _
      rw [if_neg (by omega)]
      show wpAny _ _ (if n ≥ 2 ^ 63 then _ else _) _ _ _
      rw [if_neg (by omega)]
      exact wpAny_bind (wpAny_mkInt (wpAny_pure ⟨_, rfl, .int n, H', I'.tok _, ⟨_, rfl⟩, qn⟩))
end
end NW

/-! NwT: what the law's own drawing defs promise; names. -/
namespace NW
open PySem PySem.Spec PyProof.Rows L2
/-! ### tests that are split -/
theorem br {p : Prop} [Decidable p] {A B : Prop} (h1 : p → A) (h2 : ¬p → B) : if decide p = true then A else B := ite2 (fun c => h1 (of_decide_eq_true c)) (fun c => h2 (fun z => c (decide_eq_true z)))
theorem br_not {p : Prop} [Decidable p] {A B : Prop} (h1 : ¬p → A) (h2 : p → B) : if (!decide p) = true then A else B := by
  by_cases h : p
  · rw [decide_eq_true h]; exact iteF (h2 h)
  · rw [decide_eq_false h]; exact iteT (h1 h)
theorem br_b {b : Bool} {A B : Prop} (h1 : b = true → A) (h2 : b = false → B) : if b = true then A else B := by
  cases b with
  | true => exact iteT (h1 rfl)
  | false => exact iteF (h2 rfl)
theorem br_nb {b : Bool} {A B : Prop} (h1 : b = false → A) (h2 : b = true → B) : if (!b) = true then A else B := by
  cases b with
  | true => exact iteF (h2 rfl)
  | false => exact iteT (h1 rfl)
theorem isi_mk {d : Dat} {A : Prop} (h : plainD d = true) (k : A) : plainD d = true ∧ A := ⟨h, k⟩
theorem iteN0 {A B : Prop} (h : A) : if (!false) = true then A else B := iteT h
theorem iteN1 {A B : Prop} (h : B) : if (!true) = true then A else B := iteF h
/-! ### sameness -/
mutual
/-- data without dicts and instances, no list too long -/
def okD : Dat → Bool
  | .lst xs => decide (xs.length ≤ sizeLine) && okA xs
  | .tup xs => decide (xs.length ≤ sizeLine) && okA xs
  | .dic _ => false
  | .ins _ _ => false
  | _ => true
def okA : List Dat → Bool
  | [] => true
  | x :: xs => okD x && okA xs
end
mutual
def dpt : Dat → Nat
  | .lst xs => dptA xs + 1
  | .tup xs => dptA xs + 1
  | _ => 0
def dptA : List Dat → Nat
  | [] => 0
  | x :: xs => max (dpt x) (dptA xs)
end
mutual
def sameD : Dat → Dat → Bool
  | .non, .non => true
  | .bl a, .bl b => decide (a = b)
  | .int a, .int b => decide (a = b)
  | .str a, .str b => decide (a = b)
  | .lst a, .lst b => sameA a b
  | .tup a, .tup b => sameA a b
  | _, _ => false
def sameA : List Dat → List Dat → Bool
  | [], [] => true
  | x :: xs, y :: ys => sameD x y && sameA xs ys
  | _, _ => false
end
theorem okA_get : ∀ {xs : List Dat} {i : Nat} {d : Dat}, okA xs = true → xs[i]? = some d → okD d = true
  | [], i, d, _, h => by simp at h
  | x :: xs, 0, d, h, e => by
    unfold okA at h
    rw [Bool.and_eq_true] at h
    cases e; exact h.1
  | x :: xs, i + 1, d, h, e => by
    unfold okA at h
    rw [Bool.and_eq_true] at h
    exact okA_get h.2 (by simpa using e)
theorem dptA_get : ∀ {xs : List Dat} {i : Nat} {d : Dat}, xs[i]? = some d → dpt d ≤ dptA xs
  | [], i, d, h => by simp at h
  | x :: xs, 0, d, e => by
    unfold dptA
    cases e; exact Nat.le_max_left _ _
  | x :: xs, i + 1, d, e => by
    unfold dptA
    exact Nat.le_trans (dptA_get (xs := xs) (by simpa using e)) (Nat.le_max_right _ _)
theorem sameA_len : ∀ {xs ys : List Dat}, sameA xs ys = true → xs.length = ys.length
  | [], [], _ => rfl
  | [], _ :: _, h => by unfold sameA at h; cases h
  | _ :: _, [], h => by unfold sameA at h; cases h
  | x :: xs, y :: ys, h => by
    unfold sameA at h
    rw [Bool.and_eq_true] at h
    rw [List.length_cons, List.length_cons, sameA_len h.2]
theorem sameA_all : ∀ {xs ys : List Dat}, xs.length = ys.length → (∀ (i : Nat) (d e : Dat), xs[i]? = some d → ys[i]? = some e → sameD d e = true) → sameA xs ys = true
  | [], [], _, _ => by unfold sameA; rfl
  | x :: xs, y :: ys, hl, h => by
    unfold sameA
    rw [h 0 x y rfl rfl, sameA_all (xs := xs) (ys := ys) (by simpa using hl) fun i d e hd he => h (i + 1) d e (by simpa using hd) (by simpa using he)]
    rfl
theorem sameA_no : ∀ {xs ys : List Dat} {i : Nat} {d e : Dat}, xs[i]? = some d → ys[i]? = some e → sameD d e = false → sameA xs ys = false
  | [], ys, i, d, e, h, _, _ => by simp at h
  | x :: xs, [], i, d, e, _, h, _ => by simp at h
  | x :: xs, y :: ys, 0, d, e, h1, h2, h => by
    cases h1
    cases h2
    unfold sameA
    rw [h]; rfl
  | x :: xs, y :: ys, i + 1, d, e, h1, h2, h => by
    unfold sameA
    rw [sameA_no (xs := xs) (ys := ys) (i := i) (by simpa using h1) (by simpa using h2) h, Bool.and_false]
mutual
theorem sameD_eq : ∀ (d e : Dat), sameD d e = true → d = e
  | .non, e, h => by cases e <;> first | rfl | (unfold sameD at h; cases h)
  | .bl a, e, h => by cases e <;> first | (unfold sameD at h; rw [of_decide_eq_true h]; done) | (unfold sameD at h; cases h; done)
  | .int a, e, h => by cases e <;> first | (unfold sameD at h; rw [of_decide_eq_true h]; done) | (unfold sameD at h; cases h; done)
  | .str a, e, h => by cases e <;> first | (unfold sameD at h; rw [of_decide_eq_true h]; done) | (unfold sameD at h; cases h; done)
  | .lst a, e, h => by cases e <;> first | (unfold sameD at h; rw [sameA_eq a _ h]; done) | (unfold sameD at h; cases h; done)
  | .tup a, e, h => by cases e <;> first | (unfold sameD at h; rw [sameA_eq a _ h]; done) | (unfold sameD at h; cases h; done)
  | .dic a, e, h => by cases e <;> (unfold sameD at h; cases h)
  | .ins a b, e, h => by cases e <;> (unfold sameD at h; cases h)
theorem sameA_eq : ∀ (xs ys : List Dat), sameA xs ys = true → xs = ys
  | [], ys, h => by cases ys with | nil => rfl | cons y ys => unfold sameA at h; cases h
  | x :: xs, ys, h => by
    cases ys with
    | nil => unfold sameA at h; cases h
    | cons y ys =>
      unfold sameA at h
      rw [Bool.and_eq_true] at h
      rw [sameD_eq x y h.1, sameA_eq xs ys h.2]
end
mutual
theorem sameD_refl : ∀ (d : Dat), okD d = true → sameD d d = true
  | .non, _ => by unfold sameD; rfl
  | .bl a, _ => by unfold sameD; exact decide_eq_true rfl
  | .int a, _ => by unfold sameD; exact decide_eq_true rfl
  | .str a, _ => by unfold sameD; exact decide_eq_true rfl
  | .lst a, h => by unfold sameD; unfold okD at h; rw [Bool.and_eq_true] at h; exact sameA_refl a h.2
  | .tup a, h => by unfold sameD; unfold okD at h; rw [Bool.and_eq_true] at h; exact sameA_refl a h.2
  | .dic a, h => by unfold okD at h; cases h
  | .ins a b, h => by unfold okD at h; cases h
theorem sameA_refl : ∀ (xs : List Dat), okA xs = true → sameA xs xs = true
  | [], _ => by unfold sameA; rfl
  | x :: xs, h => by
    unfold okA at h
    rw [Bool.and_eq_true] at h
    unfold sameA
    rw [sameD_refl x h.1, sameA_refl xs h.2]; rfl
end
theorem isN_inv {d : Dat} (h : isN d = true) : d = .non := by cases d <;> first | rfl | cases h
theorem isBl_inv {d : Dat} (h : isBl d = true) : ∃ a, d = .bl a := by cases d <;> first | exact ⟨_, rfl⟩ | cases h
theorem isInt_inv {d : Dat} (h : isInt d = true) (h2 : isBl d = false) : ∃ a, d = .int a := by cases d <;> first | exact ⟨_, rfl⟩ | exact Bool.noConfusion (show false = true from h) | exact Bool.noConfusion (show true = false from h2)
theorem isStr_inv {d : Dat} (h : isStr d = true) : ∃ a, d = .str a := by cases d <;> first | exact ⟨_, rfl⟩ | cases h
theorem isLst_inv {d : Dat} (h : isLst d = true) : ∃ a, d = .lst a := by cases d <;> first | exact ⟨_, rfl⟩ | cases h
theorem isTup_inv {d : Dat} (h : isTup d = true) : ∃ a, d = .tup a := by cases d <;> first | exact ⟨_, rfl⟩ | cases h
theorem iteO1 {b : Bool} {A B : Prop} (h : B) : if (!(true || b)) = true then A else B := iteF h
theorem iteO2 {A B : Prop} (h : B) : if (!(false || true)) = true then A else B := iteF h
/-- _law_same of data at most n - 1 deep -/
def T_same : Nat → DT
  | 0 => fun _ _ => False
  | n + 1 => fun ρ Φ => ∃ d e, ρ = [.dat d, .dat e] ∧ dpt d ≤ n ∧ okD d = true ∧ okD e = true ∧ Φ (.bl (sameD d e))
theorem T_same_mk {n : Nat} {d e : Dat} {Φ : Dat → Prop} (h1 : dpt d ≤ n) (h2 : okD d = true) (h3 : okD e = true) (h : Φ (.bl (sameD d e))) : T_same (n + 1) [.dat d, .dat e] Φ := ⟨d, e, rfl, h1, h2, h3, h⟩
theorem okD_plain {d : Dat} (h : okD d = true) : plainD d = true := by
  cases d <;> first | rfl | (unfold okD at h; cases h)
/-! ### texts as lists of signs -/
abbrev Str.l (z : Str) : List Nat := z.cps.toList
theorem l_len (z : Str) : z.length = (Str.l z).length := by simp [Str.length]
theorem l_app (a b : Str) : Str.l (a ++ b) = Str.l a ++ Str.l b := by
  show (a.cps ++ b.cps).toList = _
  simp
theorem l_one (c : Nat) : Str.l ⟨#[c]⟩ = [c] := rfl
theorem l_ext {a b : Str} (h : Str.l a = Str.l b) : a = b := by
  obtain ⟨a⟩ := a
  obtain ⟨b⟩ := b
  have h' : a.toList = b.toList := h
  rw [Array.toList_inj.mp h']
theorem l_cut (z : Str) (lo hi : Option Int) : Str.l (cutS z lo hi) = ((Str.l z).drop (HT.sIx (Str.l z).length 0 lo)).take (HT.sIx (Str.l z).length (Str.l z).length hi - HT.sIx (Str.l z).length 0 lo) := by
  unfold cutS
  rw [l_len]
theorem l_cutTo (z : Str) (k : Nat) : Str.l (cutS z none (some (k : Int))) = (Str.l z).take k := by
  rw [l_cut, HT.sIx_none, HT.sIx_nat, List.drop_zero, Nat.sub_zero]
  by_cases h : k ≤ (Str.l z).length
  · rw [Nat.min_eq_left h]
  · rw [Nat.min_eq_right (by omega), List.take_length, List.take_of_length_le (by omega)]
theorem l_cutFrom (z : Str) (k : Nat) : Str.l (cutS z (some (k : Int)) none) = (Str.l z).drop k := by
  rw [l_cut, HT.sIx_none, HT.sIx_nat]
  by_cases h : k ≤ (Str.l z).length
  · rw [Nat.min_eq_left h]
    exact List.take_of_length_le (by rw [List.length_drop]; omega)
  · rw [Nat.min_eq_right (by omega), List.drop_length, List.take_nil, List.drop_of_length_le (by omega)]
/-! ### names -/
def low (c : Nat) : Prop := 97 ≤ c ∧ c ≤ 122
def sgn (c : Nat) : Prop := (97 ≤ c ∧ c ≤ 122) ∨ (48 ≤ c ∧ c ≤ 57)
def NameL (l : List Nat) : Prop := ∃ h t, l = h :: t ∧ low h ∧ t.length ≤ 7 ∧ ∀ c ∈ t, sgn c
def NameS (z : Str) : Prop := NameL (Str.l z)
theorem low.sgn {c : Nat} (h : low c) : sgn c := .inl h
theorem NameL.all {l : List Nat} (h : NameL l) : ∀ c ∈ l, sgn c := by
  obtain ⟨a, t, rfl, h1, h2, h3⟩ := h
  intro c hc
  rcases List.mem_cons.mp hc with z | z
  · rw [z]; exact .inl h1
  · exact h3 c z
theorem NameL.len {l : List Nat} (h : NameL l) : 1 ≤ l.length ∧ l.length ≤ 8 := by
  obtain ⟨a, t, rfl, h1, h2, h3⟩ := h
  rw [List.length_cons]; omega
theorem NameS.len {z : Str} (h : NameS z) : 1 ≤ z.length ∧ z.length ≤ 8 := by rw [l_len]; exact NameL.len h
theorem NameS.line {z : Str} (h : NameS z) : z.length ≤ sizeLine := Nat.le_trans h.len.2 (by decide)
theorem NameL.mk {l : List Nat} (h1 : l ≠ []) (h2 : l.length ≤ 8) (h3 : ∀ c, l.head? = some c → low c) (h4 : ∀ c ∈ l, sgn c) : NameL l := by
  cases l with
  | nil => exact absurd rfl h1
  | cons a t => exact ⟨a, t, rfl, h3 a rfl, by rw [List.length_cons] at h2; omega, fun c hc => h4 c (List.mem_cons_of_mem _ hc)⟩
theorem NameL.head {l : List Nat} (h : NameL l) {c : Nat} (e : l.head? = some c) : low c := by
  obtain ⟨a, t, rfl, h1, h2, h3⟩ := h
  cases e; exact h1
theorem NameL.app {l m : List Nat} (h : NameL l) (hm : ∀ c ∈ m, sgn c) (hz : l.length + m.length ≤ 8) : NameL (l ++ m) := by
  obtain ⟨a, t, rfl, h1, h2, h3⟩ := h
  refine ⟨a, t ++ m, rfl, h1, by rw [List.length_cons] at hz; rw [List.length_append]; omega, fun c hc => ?_⟩
  rcases List.mem_append.mp hc with z | z
  · exact h3 c z
  · exact hm c z
theorem NameL.take {l : List Nat} (h : NameL l) {k : Nat} (hk : 0 < k) : NameL (l.take k) := by
  obtain ⟨a, t, rfl, h1, h2, h3⟩ := h
  cases k with
  | zero => omega
  | succ k => exact ⟨a, t.take k, rfl, h1, by rw [List.length_take]; omega, fun c hc => h3 c (List.mem_of_mem_take hc)⟩
/-- the sign of a number -/
def signC (k : Int) : Nat := if k < 26 then 97 + k.toNat else 22 + k.toNat
theorem signC_sgn {k : Int} (h0 : 0 ≤ k) (h : k < 36) : sgn (signC k) := by
  unfold signC sgn
  split <;> omega
theorem signC_low {k : Int} (h0 : 0 ≤ k) (h : k < 26) : low (signC k) := by
  unfold signC low
  rw [if_pos h]; omega
abbrev abc36 : Str := "abcdefghijklmnopqrstuvwxyz0123456789"
theorem abc_at {n : Int} (h0 : 0 ≤ n) (h : n < 36) : atI abc36.cps.toList n = some (signC n) := by
  have q : ∀ k : Fin 36, atI abc36.cps.toList ((k.val : Nat) : Int) = some (signC ((k.val : Nat) : Int)) := by decide +kernel
  have := q ⟨n.toNat, by omega⟩
  rwa [show (((⟨n.toNat, by omega⟩ : Fin 36).val : Nat) : Int) = n by show ((n.toNat : Nat) : Int) = n; omega] at this

theorem perm_erase {α : Type} : ∀ {l : List α} {j : Nat} (h : j < l.length), (l[j] :: l.eraseIdx j).Perm l
  | [], j, h => by cases h
  | a :: l, 0, h => List.Perm.refl _
  | a :: l, j + 1, h => by
    have hj : j < l.length := by simpa using h
    exact (List.Perm.swap a l[j] (l.eraseIdx j)).trans ((perm_erase hj).cons a)
/-! ### promises of the drawing defs -/
def T_number : DT := fun ρ Φ => ∃ lo hi : Int, ρ = [.sto, .dat (.int lo), .dat (.int hi)] ∧ hi - lo < 2 ^ 300 ∧ ∀ r : Int, lo ≤ r → (r ≤ hi ∨ r = lo) → Φ (.int r)
def T_pick : DT := fun ρ Φ => (∃ ds, (ρ = [.sto, .dat (.lst ds)] ∨ ρ = [.sto, .dat (.tup ds)]) ∧ ds ≠ [] ∧ ds.length ≤ sizeLine ∧ ∀ d ∈ ds, Φ d) ∨ (∃ z : Str, ρ = [.sto, .dat (.str z)] ∧ z.length ≤ sizeLine ∧ 0 < z.length ∧ ∀ c ∈ Str.l z, Φ (.str ⟨#[c]⟩))
def T_shuffled : NT := fun ρ Φ => ∃ ds, (ρ = [.sto, .dat (.lst ds)] ∨ ρ = [.sto, .dat (.tup ds)]) ∧ ds.length ≤ 100000 ∧ ∀ es : List Dat, es.Perm ds → Φ es

def T_row_of : ET := fun ρ Φ Ψ => ∃ ds, (ρ = [.sto, .dat (.lst ds)] ∨ ρ = [.sto, .dat (.tup ds)]) ∧ Ψ ds ∧ Φ (.tup ds)
def T_sign : DT := fun ρ Φ => ∃ n : Int, ρ = [.dat (.int n)] ∧ Φ (.str ⟨#[signC (n % 36)]⟩)
def T_name_of : DT := fun ρ Φ => ∃ n : Int, ρ = [.dat (.int n)] ∧ 0 ≤ n ∧ ∀ z, NameS z → Φ (.str z)
def T_name : DT := fun ρ Φ => ρ = [.sto] ∧ ∀ z, NameS z → Φ (.str z)
def T_unlike : DT := fun ρ Φ => ∃ (z : Str) (ss : List Str), ρ = [.dat (.str z), .dat (.lst (ss.map Dat.str))] ∧ NameS z ∧ ss.length ≤ 600 ∧ ∀ y, NameS y → y ∉ ss → Φ (.str y)
def T_name_like : DT := fun ρ Φ => ∃ (m : Int) (z : Str), ρ = [.sto, .dat (.int m), .dat (.str z)] ∧ NameS z ∧ ∀ y, NameS y → Φ (.str y)
def T_names : NT := fun ρ Φ => ∃ (n : Int) (ss : List Str), ρ = [.sto, .dat (.int n), .dat (.lst (ss.map Dat.str))] ∧ 0 ≤ n ∧ n + ss.length ≤ 600 ∧ ∀ zs : List Str, (zs.length : Int) = n → zs.Nodup → (∀ z ∈ zs, NameS z ∧ z ∉ ss) → Φ (zs.map Dat.str)
theorem T_sign_mk {n : Int} {Φ : Dat → Prop} (h : Φ (.str ⟨#[signC (n % 36)]⟩)) : T_sign [.dat (.int n)] Φ := ⟨n, rfl, h⟩
theorem T_take_mk {n : Int} {Φ : Dat → Prop} (hb : n < 2 ^ 400) (h : ∀ r : Int, 0 ≤ r → (r < n ∨ r = 0) → Φ (.int r)) : T_take [.sto, .dat (.int n)] Φ := ⟨n, rfl, hb, h⟩
theorem T_number_mk {lo hi : Int} {Φ : Dat → Prop} (hb : hi - lo < 2 ^ 300) (h : ∀ r : Int, lo ≤ r → (r ≤ hi ∨ r = lo) → Φ (.int r)) : T_number [.sto, .dat (.int lo), .dat (.int hi)] Φ := ⟨lo, hi, rfl, hb, h⟩
theorem T_name_mk {Φ : Dat → Prop} (h : ∀ z, NameS z → Φ (.str z)) : T_name [.sto] Φ := ⟨rfl, h⟩
/-- what unlike tries: the name's first six signs and two letters -/
def cand (z : Str) (k : Nat) : Str := ⟨((Str.l z).take 6 ++ [signC ((k : Int) / 26 % 26), signC ((k : Int) % 26)]).toArray⟩
theorem cand_l (z : Str) (k : Nat) : Str.l (cand z k) = (Str.l z).take 6 ++ [signC ((k : Int) / 26 % 26), signC ((k : Int) % 26)] := by
  unfold cand
  simp [Str.l]
theorem cand_name {z : Str} (h : NameS z) (k : Nat) : NameS (cand z k) := by
  unfold NameS
  rw [cand_l]
  refine NameL.app (NameL.take h (by decide)) (fun c hc => ?_) (by
    rw [List.length_take]
    simp only [List.length_cons, List.length_nil]
    omega)
  rcases List.mem_cons.mp hc with e | e
  · rw [e]; exact signC_sgn (by omega) (by omega)
  · rw [List.mem_singleton.mp e]; exact signC_sgn (by omega) (by omega)
theorem signC_inj {a b : Int} (ha : 0 ≤ a) (ha2 : a < 26) (hb : 0 ≤ b) (hb2 : b < 26) (h : signC a = signC b) : a = b := by
  unfold signC at h
  rw [if_pos ha2, if_pos hb2] at h
  omega
theorem cand_inj {z : Str} {j k : Nat} (hj : j < 676) (hk : k < 676) (h : cand z j = cand z k) : j = k := by
  have e := congrArg Str.l h
  rw [cand_l, cand_l] at e
  have e2 := List.append_cancel_left e
  injection e2 with e3 e4
  injection e4 with e5 _
  have a := signC_inj (by omega) (by omega) (by omega) (by omega) e3
  have b := signC_inj (by omega) (by omega) (by omega) (by omega) e5
  omega
theorem cand_new {z : Str} {ss : List Str} (hs : ss.length ≤ 600) : ∃ k, k ≤ ss.length ∧ cand z k ∉ ss := by
  apply Classical.byContradiction
  intro h
  have all : ∀ k, k ≤ ss.length → cand z k ∈ ss := fun k hk => Classical.byContradiction fun q => h ⟨k, hk, q⟩
  have nd : ((List.range (ss.length + 1)).map (cand z)).Nodup := by
    unfold List.Nodup
    rw [List.pairwise_map]
    refine List.Pairwise.imp_of_mem (fun {a b} ha hb hne e => hne (cand_inj ?_ ?_ e)) List.nodup_range
    · have := List.mem_range.mp ha; omega
    · have := List.mem_range.mp hb; omega
  have := length_le_of_nodup_of_subset _ ss nd fun a ha => by
    obtain ⟨k, hk, rfl⟩ := List.mem_map.mp ha
    exact all k (by have := List.mem_range.mp hk; omega)
  rw [List.length_map, List.length_range] at this
  omega
theorem num130 {r : Int} (h0 : 0 ≤ r) (h : r < 130) : (∀ c ∈ Str.l ((toString r : String) : Str), sgn c) ∧ (Str.l ((toString r : String) : Str)).length ≤ 3 := by
  have q : ∀ k : Fin 130, (∀ c ∈ Str.l ((toString ((k.val : Nat) : Int) : String) : Str), 48 ≤ c ∧ c ≤ 57) ∧ (Str.l ((toString ((k.val : Nat) : Int) : String) : Str)).length ≤ 3 := by decide +kernel
  have := q ⟨r.toNat, by omega⟩
  rw [show (((⟨r.toNat, by omega⟩ : Fin 130).val : Nat) : Int) = r by show ((r.toNat : Nat) : Int) = r; omega] at this
  exact ⟨fun c hc => .inr (this.1 c hc), this.2⟩
end NW

/-! NwK: walks over a list or a tuple; lists that a slot owns handed to a def for reading; deep == and in. -/
namespace NW
open PySem PySem.Spec PyProof.Rows L2
/-! ### a list or a tuple walked -/
def iSeq (K : PySem.W.Frag) (tl : TE) : TI := fun σ H R => tl σ H fun x H1 => ∃ a, x = .ref a ∧ (((∃ xs, SqL K H1 a xs) ∧ R (Itl K a) H1) ∨ ((∃ xs, SqT K H1 a xs) ∧ R (Itt K a) H1))
theorem pi_seq {X : Cx} {tg l : Expr} {tl : TE} (hl : PE X l tl) : PI X tg l (iSeq X.K tl) := by
  refine ⟨fun pins s σ H R I h => ?_⟩
  refine thn (hl.run pins s σ H _ I h) fun v s1 ⟨x, H1, I1, r1, q1⟩ => ?_
  obtain ⟨a, e, ⟨⟨xs, hq⟩, q⟩ | ⟨⟨xs, hq⟩, q⟩⟩ := q1
  · subst e
    cases r1
    obtain ⟨its, rv, p, hz⟩ := I1.list hq
    refine wpAny_pyIter_list p.isList ?_
    refine ⟨s1.heap.objs.size, [s1.heap.objs.size], _, _, H1, rfl, I1.kept (t' := s1.toks) fun b o e => Heap.get?_push_of_some _ e, turn_list a _, ⟨_, Heap.get?_push_size _ rfl, rfl, rfl⟩, fun b hb => ?_, q⟩
    have e : b = s1.heap.objs.size := by simpa using hb
    subst e
    exact I1.fpOk (Nat.le_refl _) (I1.hok.fresh (Nat.le_refl _))
  · subst e
    cases r1
    obtain ⟨its, rv, p, hz⟩ := I1.tuple hq
    refine wpAny_pyIter_tuple (show s1.heap.IsTuple a its.toArray from p) ?_
    refine ⟨s1.heap.objs.size, [s1.heap.objs.size], _, _, H1, rfl, I1.kept (t' := s1.toks) fun b o e => Heap.get?_push_of_some _ e, turn_tuple a _, ⟨_, Heap.get?_push_size _ rfl, rfl, rfl⟩, fun b hb => ?_, q⟩
    have e : b = s1.heap.objs.size := by simpa using hb
    subst e
    exact I1.fpOk (Nat.le_refl _) (I1.hok.fresh (Nat.le_refl _))
theorem n_piq {K : PySem.W.Frag} {X : Cx} {tg l : Expr} {tl : TE} (hK : X.K = K) (hl : PE X l tl) : PI X tg l (iSeq K tl) := hK ▸ pi_seq hl
section
variable {g : Gm} {X : List Addr} {Y : Hp} {σ : L2.St} {ρ : List Sl} {H H' : Hp} {te ta tb tc : TE} {tr : TA} {t u : TS} {E : DE} {D : Ends}
theorem ds_forQ {j : Nat} {tl : TE} {tb : TS} (h : EvC g tl ρ fun d => ∃ ds, (d = .lst ds ∨ d = .tup ds) ∧ ∃ Inv : Nat → List Sl → Prop, Inv 0 ρ ∧ (∀ i d ρ', ds[i]? = some d → Inv i ρ' → DSt g tb (ρ'.set j (.dat d)) { E with nx := Inv (i + 1), ct := Inv (i + 1), bk := E.nx }) ∧ ∀ ρ', Inv ds.length ρ' → E.nx ρ') :
    DSt g (tFor (iSeq g.K tl) (gName j) tb) ρ E := fun X Y σ H D R M => h X Y σ H _ R fun d v H1 hd n1 r1 => by
  obtain ⟨ds, rfl | rfl, Inv, h0, hs, hf⟩ := hd
  · cases r1 with
    | lst ha r =>
      rename_i a xs
      have R1 := R.nx n1
      have ha' : hide (g.pr ++ owned σ ρ) H1 a = some (.lst xs) := (hide_out fun z => (hide_some ha).1 (List.mem_append_right _ z)).trans (hide_some ha).2
      refine ⟨a, rfl, .inl ⟨⟨xs, SqL.of (hide_some ha).2⟩, for_list (K := g.K) (a := a) (xs := xs) (fun i σ' H' => ∃ ρ', Inv i ρ' ∧ RS g X (hide (g.pr ++ owned σ ρ) H1) σ' H' ρ') ⟨ρ, h0, R1.fix⟩ (fun i σ' H' _ ⟨ρ', _, R'⟩ => SqL.of (R'.fr a _ ha').1)
        (fun i x σ' H' hi ⟨ρ', hI, R'⟩ => ?_) fun σ' H' ⟨ρ', hI, R'⟩ => M.nx σ' H' ρ' (hf ρ' (by rw [← r.length]; exact hI)) (R'.weak R1.fixY)⟩⟩
      obtain ⟨d, hd, rd⟩ := r.get' hi
      exact hs i d ρ' hd hI X _ _ H' _ (R'.setD (rd.mn R'.seen)) (M.loop R1.fixY fun σ H ρ hI R => ⟨ρ, hI, R⟩)
  · cases r1 with
    | tup ha r =>
      rename_i a xs
      have R1 := R.nx n1
      have ha' : SqT g.K (hide (g.pr ++ owned σ ρ) H1) a xs := Same.sqT (hide_mono fun b hb => List.mem_append_right _ hb) ha
      refine ⟨a, rfl, .inr ⟨⟨xs, Same.sqT hide_same ha⟩, for_tup (K := g.K) (a := a) (xs := xs) (fun i σ' H' => ∃ ρ', Inv i ρ' ∧ RS g X (hide (g.pr ++ owned σ ρ) H1) σ' H' ρ') ⟨ρ, h0, R1.fix⟩ (fun i σ' H' _ ⟨ρ', _, R'⟩ => Same.sqT R'.sy ha')
        (fun i x σ' H' hi ⟨ρ', hI, R'⟩ => ?_) fun σ' H' ⟨ρ', hI, R'⟩ => M.nx σ' H' ρ' (hf ρ' (by rw [← r.length]; exact hI)) (R'.weak R1.fixY)⟩⟩
      obtain ⟨d, hd, rd⟩ := r.get' hi
      exact hs i d ρ' hd hI X _ _ H' _ (R'.setD (rd.mn R'.seen)) (M.loop R1.fixY fun σ H ρ hI R => ⟨ρ, hI, R⟩)
end
/-! ### data without lists, dicts -/
mutual
def noL : Dat → Bool
  | .lst _ => false
  | .dic _ => false
  | .tup ds => noLA ds
  | .ins _ fs => noLF fs
  | _ => true
def noLA : List Dat → Bool
  | [] => true
  | d :: ds => noL d && noLA ds
def noLF : List (Str × Dat) → Bool
  | [] => true
  | (_, d) :: ds => noL d && noLF ds
end
/-- P: lists, dicts alone -/
def LsAt (P : List Addr) (G : Hp) : Prop := ∀ p ∈ P, (∃ xs, G p = some (.lst xs)) ∨ ∃ xs, G p = some (.dK xs)
theorem LsAt.tup {K : PySem.W.Frag} {P : List Addr} {G : Hp} (h : LsAt P G) {a : Addr} {xs : List V} (q : SqT K G a xs) : SqT K (hide P G) a xs := by
  by_cases hp : a ∈ P
  · rcases q with (q | ⟨o, q⟩) | q
    · rcases h a hp with ⟨ys, e⟩ | ⟨ys, e⟩ <;> (rw [e] at q; cases q)
    · rcases h a hp with ⟨ys, e⟩ | ⟨ys, e⟩ <;> (rw [e] at q; cases q)
    · exact .inr q
  · rcases q with (q | ⟨o, q⟩) | q
    · exact .inl (.inl ((hide_out hp).trans q))
    · exact .inl (.inr ⟨o, (hide_out hp).trans q⟩)
    · exact .inr q
section
variable {K : PySem.W.Frag} {G : Hp} {P : List Addr}
mutual
theorem Rp.free (h : LsAt P G) : ∀ (d : Dat) (v : V), noL d = true → Rp K G v d → Rp K (hide P G) v d
  | .non, _, _, r => by cases r; exact .non
  | .bl b, _, _, r => by cases r; exact .bl b
  | .int b, _, _, r => by cases r; exact .int b
  | .str b, _, _, r => by cases r; exact .str b
  | .lst ds, _, n, r => by unfold noL at n; cases n
  | .dic ds, _, n, r => by unfold noL at n; cases n
  | .tup ds, _, n, r => by
    unfold noL at n
    cases r with | tup q r => exact .tup (h.tup q) (RpA.free h ds _ n r)
  | .ins C ds, _, n, r => by
    unfold noL at n
    cases r with
    | ins q r =>
      refine .ins ((hide_out fun z => ?_).trans q) (RpF.free h ds _ n r)
      rcases h _ z with ⟨ys, e⟩ | ⟨ys, e⟩ <;> (rw [e] at q; cases q)
theorem RpA.free (h : LsAt P G) : ∀ (ds : List Dat) (vs : List V), noLA ds = true → RpA K G vs ds → RpA K (hide P G) vs ds
  | [], _, _, r => by cases r; exact .nil
  | d :: ds, _, n, r => by
    unfold noLA at n
    rw [Bool.and_eq_true] at n
    cases r with | cons r t => exact .cons (Rp.free h d _ n.1 r) (RpA.free h ds _ n.2 t)
theorem RpF.free (h : LsAt P G) : ∀ (ds : List (Str × Dat)) (vs : List (Str × V)), noLF ds = true → RpF K G vs ds → RpF K (hide P G) vs ds
  | [], _, _, r => by cases r; exact .nil
  | (k, d) :: ds, _, n, r => by
    unfold noLF at n
    rw [Bool.and_eq_true] at n
    cases r with | cons r t => exact .cons (Rp.free h d _ n.1 r) (RpF.free h ds _ n.2 t)
end
end
theorem hide_app {A B : List Addr} {H : Hp} : hide A (hide B H) = hide (A ++ B) H := by
  funext b
  by_cases q : b ∈ A
  · rw [hide_in q, hide_in (List.mem_append_left _ q)]
  · rw [hide_out q]
    by_cases z : b ∈ B
    · rw [hide_in z, hide_in (List.mem_append_right _ z)]
    · rw [hide_out z, hide_out (fun w => by rcases List.mem_append.mp w with w | w; exact q w; exact z w)]
/-! ### own lists, dicts handed to a def for reading -/
/-- the argument list: plain data, stores, lists and dicts at P -/
inductive ArgF (g : Gm) (G H : Hp) (P : List Addr) : List V → List Sl → Prop
  | nil : ArgF g G H P [] []
  | dat {v : V} {vs : List V} {d : Dat} {ds : List Sl} : Rp g.K G v d → ArgF g G H P vs ds → ArgF g G H P (v :: vs) (.dat d :: ds)
  | sto {p : Addr × Addr} {vs : List V} {ds : List Sl} : p ∈ g.st → ArgF g G H P vs ds → ArgF g G H P (.ref p.1 :: vs) (.sto :: ds)
  | lst {p : Addr} {xs : List V} {es : List Dat} {vs : List V} {ds : List Sl} : p ∈ P → H p = some (.lst xs) → RpA g.K G xs es → ArgF g G H P vs ds → ArgF g G H P (.ref p :: vs) (.dat (.lst es) :: ds)
  | dic {p : Addr} {xs : List (Key × V)} {es : List (Key × Dat)} {vs : List V} {ds : List Sl} : p ∈ P → H p = some (.dK xs) → RpK g.K G xs es → ArgF g G H P vs ds → ArgF g G H P (.ref p :: vs) (.dat (.dic es) :: ds)
def EvF (g : Gm) (ta : TA) (ρ : List Sl) (Φ : List Sl → Prop) : Prop := ∀ X Y σ H (Q : List V → Hp → Prop), RS g X Y σ H ρ → (∀ ds vs H', Φ ds → Nx g H H' → ArgF g (hid g X σ ρ H') H' (owned σ ρ) vs ds → Q vs H') → ta σ H Q
theorem ArgF.nx {g : Gm} {X : List Addr} {Y : Hp} {σ : L2.St} {ρ : List Sl} {H H' : Hp} (R : RS g X Y σ H ρ) (n : Nx g H H') {vs : List V} {ds : List Sl} (a : ArgF g (hid g X σ ρ H) H (owned σ ρ) vs ds) : ArgF g (hid g X σ ρ H') H' (owned σ ρ) vs ds := by
  induction a with
  | nil => exact .nil
  | dat r _ ih => exact .dat (r.mn n.hid) ih
  | sto h _ ih => exact .sto h ih
  | lst hp h r _ ih => exact .lst hp (n.kp _ _ h (R.nw _ hp).2) (r.mn n.hid) ih
  | dic hp h r _ ih => exact .dic hp (n.kp _ _ h (R.nw _ hp).2) (r.mn n.hid) ih
section
variable {g : Gm} {X : List Addr} {Y : Hp} {σ : L2.St} {ρ : List Sl} {H H' : Hp} {te ta tb tc : TE} {tr : TA} {t u : TS} {E : DE} {D : Ends} {Ex : XK}
theorem ef_nil {Φ : List Sl → Prop} (h : Φ []) : EvF g tNil ρ Φ := fun X Y σ H Q R k => k [] [] H h R.refl .nil
theorem ef_cons {Φ : List Sl → Prop} (h : EvC g te ρ fun d => EvF g tr ρ fun ds => Φ (.dat d :: ds)) : EvF g (tCons te tr) ρ Φ := fun X Y σ H Q R k =>
  h X Y σ H _ R fun d v H1 h2 n1 r1 => h2 X Y σ H1 _ (R.nx n1) fun ds vs H2 hf n2 r2 => k (.dat d :: ds) (v :: vs) H2 hf (n1.trans n2) (.dat (r1.mn n2.hid) r2)
theorem ef_sto {i : Nat} {Φ : List Sl → Prop} (e : ρ[i]? = some .sto) (h : EvF g tr ρ fun ds => Φ (.sto :: ds)) : EvF g (tCons (tVar i) tr) ρ Φ := fun X Y σ H Q R k => by
  obtain ⟨p, h1, h2⟩ := R.sto e
  exact ⟨_, h1, h X Y σ H _ R fun ds vs H2 hf n2 r2 => k (.sto :: ds) (.ref p.1 :: vs) H2 hf n2 (.sto h2 r2)⟩
theorem ef_own {i : Nat} {a : Option Addr} {es : List Dat} {Φ : List Sl → Prop} (e : ρ[i]? = some (.own a es)) (h : EvF g tr ρ fun ds => Φ (.dat (.lst es) :: ds)) : EvF g (tCons (tVar i) tr) ρ Φ := fun X Y σ H Q R k => by
  obtain ⟨p, xs, h1, h2, r, _⟩ := R.own e
  have pm := own_mem h1 e (p := p) (List.mem_singleton.mpr rfl)
  exact ⟨_, h1, h X Y σ H _ R fun ds vs H2 hf n2 r2 => k (.dat (.lst es) :: ds) (.ref p :: vs) H2 hf n2 (.lst pm (n2.kp _ _ h2 (R.nw p pm).2) (r.mn n2.hid) r2)⟩
theorem ef_ownK {i : Nat} {es : List (Key × Dat)} {Φ : List Sl → Prop} (e : ρ[i]? = some (.ownK es)) (h : EvF g tr ρ fun ds => Φ (.dat (.dic es) :: ds)) : EvF g (tCons (tVar i) tr) ρ Φ := fun X Y σ H Q R k => by
  obtain ⟨p, xs, h1, h2, r⟩ := R.ownK e
  have pm := own_mem h1 e (p := p) (List.mem_singleton.mpr rfl)
  exact ⟨_, h1, h X Y σ H _ R fun ds vs H2 hf n2 r2 => k (.dat (.dic es) :: ds) (.ref p :: vs) H2 hf n2 (.dic pm (n2.kp _ _ h2 (R.nw p pm).2) (r.mn n2.hid) r2)⟩
def lsB (H : Hp) (p : Addr) : Bool := match H p with
  | some (.lst _) => true
  | some (.dK _) => true
  | _ => false
theorem lsB_t {H : Hp} {p : Addr} (h : lsB H p = true) : (∃ xs, H p = some (.lst xs)) ∨ ∃ xs, H p = some (.dK xs) := by
  unfold lsB at h
  split at h
  · exact .inl ⟨_, by assumption⟩
  · exact .inr ⟨_, by assumption⟩
  · cases h
/-- what a call hides when own lists are handed over: all but the lists, dicts -/
abbrev notLs (H : Hp) (P : List Addr) : List Addr := P.filter fun p => !lsB H p
theorem args_rsF {O P : List Addr} (hO : ∀ b ∈ O, H b ≠ none) (st : StOk g H) (hP : ∀ p ∈ P, lsB H p = true → p ∉ O ++ g.pr) : ∀ {vs : List V} {πs : List Sl}, ArgF g (hide (O ++ g.pr) H) H P vs πs → owned (vs.map some) πs = [] ∧ SlsOk g (hide (O ++ g.pr) H) H (vs.map some) πs := by
  intro vs πs r
  induction r with
  | nil => exact ⟨rfl, .nil⟩
  | dat a b ih => exact ⟨by
      show ownA _ _ ++ owned _ _ = []
      rw [ownA_dat, ih.1]; rfl, .cons (.dat a) ih.2⟩
  | sto a b ih => exact ⟨by
      show ownA _ _ ++ owned _ _ = []
      rw [ownA_sto, ih.1]; rfl, .cons (.sto a) ih.2⟩
  | lst hp h r b ih => exact ⟨by
      show ownA _ _ ++ owned _ _ = []
      rw [ownA_dat, ih.1]; rfl, .cons (.dat (.lst ((hide_out (hP _ hp (by unfold lsB; rw [h]))).trans h) r)) ih.2⟩
  | dic hp h r b ih => exact ⟨by
      show ownA _ _ ++ owned _ _ = []
      rw [ownA_dat, ih.1]; rfl, .cons (.dat (.dic ((hide_out (hP _ hp (by unfold lsB; rw [h]))).trans h) r)) ih.2⟩
theorem ArgF.mn {G G' : Hp} {P : List Addr} {vs : List V} {ds : List Sl} (r : ArgF g G H P vs ds) (e : Same G G') : ArgF g G' H P vs ds := by
  induction r with
  | nil => exact .nil
  | dat a b ih => exact .dat (a.mn e) ih
  | sto a b ih => exact .sto a ih
  | lst hp h r b ih => exact .lst hp h (r.mn e) ih
  | dic hp h r b ih => exact .dic hp h (r.mn e) ih
theorem call_rsF (R : RS g X Y σ H ρ) {vs : List V} {πs : List Sl} (r : ArgF g (hid g X σ ρ H) H (owned σ ρ) vs πs) : RS g (X ++ notLs H (owned σ ρ)) (hide g.pr H) (vs.map some) H πs := by
  have sub : ∀ b ∈ X ++ notLs H (owned σ ρ), b ∈ X ++ (g.pr ++ owned σ ρ) := fun b hb => by
    rcases List.mem_append.mp hb with z | z
    · exact List.mem_append_left _ z
    · exact List.mem_append_right _ (List.mem_append_right _ (List.mem_filter.mp z).1)
  have hO : ∀ b ∈ X ++ notLs H (owned σ ρ), H b ≠ none := fun b hb => R.hd b (sub b hb)
  have e : Same (hid g X σ ρ H) (hide ((X ++ notLs H (owned σ ρ)) ++ g.pr) H) := hide_mono fun b hb => by
    rcases List.mem_append.mp hb with z | z
    · exact sub b z
    · exact pr_sub z
  have hP : ∀ p ∈ owned σ ρ, lsB H p = true → p ∉ (X ++ notLs H (owned σ ρ)) ++ g.pr := fun p hp hl z => by
    rcases List.mem_append.mp z with z | z
    · rcases List.mem_append.mp z with z | z
      · exact (R.xd p z).2 hp
      · have := (List.mem_filter.mp z).2
        rw [hl] at this
        cases this
    · exact (R.nw p hp).2 z
  obtain ⟨h1, h2⟩ := args_rsF hO R.st hP (r.mn e)
  refine ⟨by rw [h1]; exact List.nodup_nil, ?_, fun b o q => ⟨(hide_some q).2, (hide_some q).1⟩, (by rw [h1]; intro p hp; cases hp), fun b hb => ⟨hO b hb, (by rw [h1]; intro z; cases z)⟩, R.st⟩
  show SlsOk g (hide ((X ++ notLs H (owned σ ρ)) ++ (g.pr ++ owned (vs.map some) πs)) H) H _ _
  rw [h1, List.append_nil]
  exact h2
/-- the answer has no lists: what was handed over isn't in it -/
theorem LsAt.back {H H1 : Hp} (n : Nx g H1 H) (R : RS g X Y σ H1 ρ) : LsAt ((owned σ ρ).filter fun p => lsB H1 p) (hide ((X ++ notLs H1 (owned σ ρ)) ++ g.pr) H) := fun p hp => by
  obtain ⟨h1, h2⟩ := List.mem_filter.mp hp
  have np : p ∉ (X ++ notLs H1 (owned σ ρ)) ++ g.pr := fun z => by
    rcases List.mem_append.mp z with z | z
    · rcases List.mem_append.mp z with z | z
      · exact (R.xd p z).2 h1
      · have := (List.mem_filter.mp z).2
        rw [h2] at this
        cases this
    · exact (R.nw p h1).2 z
  rw [hide_out np]
  rcases lsB_t h2 with ⟨xs, e⟩ | ⟨xs, e⟩
  · exact .inl ⟨xs, n.kp p _ e (R.nw p h1).2⟩
  · exact .inr ⟨xs, n.kp p _ e (R.nw p h1).2⟩
theorem backF {H H1 : Hp} : Same (hide ((owned σ ρ).filter fun p => lsB H1 p) (hide ((X ++ notLs H1 (owned σ ρ)) ++ g.pr) H)) (hid g X σ ρ H) := by
  rw [hide_app]
  refine hide_mono fun b hb => ?_
  rcases List.mem_append.mp hb with z | z
  · exact List.mem_append_right _ (List.mem_append_left _ (List.mem_append_left _ z))
  · rcases List.mem_append.mp z with z | z
    · exact List.mem_append_right _ (List.mem_append_right _ z)
    · by_cases q : lsB H1 b = true
      · exact List.mem_append_left _ (List.mem_filter.mpr ⟨z, q⟩)
      · refine List.mem_append_right _ (List.mem_append_left _ (List.mem_append_right _ (List.mem_filter.mpr ⟨z, ?_⟩)))
        simpa using q
theorem ev_callF {T : DT} {Φ : Dat → Prop} (h : EvF g tr ρ fun πs => T πs fun d => noL d = true ∧ Φ d) : EvC g (tCall (spD g.K T) [] Ex tr) ρ Φ := fun X Y σ H Q R k =>
  h X Y σ H _ R fun πs vs H1 hT n1 r1 => by
    show spD g.K T (vs ++ []) H1 Q Ex
    rw [List.append_nil]
    have R1 := R.nx n1
    exact ⟨g.st, X ++ notLs H1 (owned σ ρ), πs, _, call_rsF R1 r1, hT, fun d v H' hd n2 r2 => k d v H' hd.2 (n1.trans n2) ((Rp.free (LsAt.back n2 R1) d v hd.1 r2).mn backF)⟩
/-- .. an instance is made -/
theorem ev_makeF {C : Addr} {T : IT} {Φ : Dat → Prop} (h : EvF g tr ρ fun πs => T πs fun fs => noLF fs = true ∧ Φ (.ins C fs)) : EvC g (tMake C (spI g.K C T) [] Ex tr) ρ Φ := fun X Y σ H Q R k =>
  h X Y σ H _ R fun πs vs H1 hT n1 r1 => fun x dx hx hdx hne => by
    have nd : Nx g H1 (upd H1 dx (.own x)) := (R.nx n1).same (upd_new hdx)
    have R1 := (R.nx n1).nx nd
    have hx1 : (upd H1 dx (.own x)) x = none := by rw [upd_ne hne.symm]; exact hx
    have c := call_rsF R1 (ArgF.nx (R.nx n1) nd r1)
    have npr : x ∉ g.pr := fun z => R1.st.some z hx1
    have nX : x ∉ X ++ notLs (upd H1 dx (.own x)) (owned σ ρ) := fun z => (c.xd x z).1 hx1
    have c2 := c.addX (o := .ins C dx []) hx1
    have eY : hide g.pr (upd H1 dx (.own x)) = hide (x :: g.pr) (upd (upd H1 dx (.own x)) x (.ins C dx [])) := by
      funext b
      by_cases q : b = x
      · rw [q, hide_out npr, hx1, hide_in List.mem_cons_self]
      · by_cases q2 : b ∈ g.pr
        · rw [hide_in q2, hide_in (List.mem_cons_of_mem _ q2)]
        · rw [hide_out q2, hide_out (fun z => by rcases List.mem_cons.mp z with z | z; exact q z; exact q2 z), upd_ne q]
    rw [eY] at c2
    show spI g.K C T (.ref x :: (vs ++ [])) _ _ Ex
    rw [List.append_nil]
    refine ⟨g.st, X ++ notLs (upd H1 dx (.own x)) (owned σ ρ), x, dx, vs, πs, _, rfl, upd_same, nX, npr, c2, hT, fun fs xs dx' H' hf kp st hxx rf => ⟨rfl, ?_⟩⟩
    have nn : Nx g (upd H1 dx (.own x)) H' := ⟨fun b o e nb => kp b o (ne_of_none e hx1) (by rw [upd_ne (ne_of_none e hx1)]; exact e) nb, st⟩
    have n : Nx g H H' := n1.trans (nd.trans nn)
    have LA : LsAt ((owned σ ρ).filter fun p => lsB (upd H1 dx (.own x)) p) (hide (x :: ((X ++ notLs (upd H1 dx (.own x)) (owned σ ρ)) ++ g.pr)) H') := fun p hp => by
      have q := LsAt.back nn R1 p hp
      have npx : p ≠ x := fun z => by
        obtain ⟨h1, h2⟩ := List.mem_filter.mp hp
        exact R1.own_some h1 (by rw [z]; exact hx1)
      have e : hide (x :: ((X ++ notLs (upd H1 dx (.own x)) (owned σ ρ)) ++ g.pr)) H' p = hide ((X ++ notLs (upd H1 dx (.own x)) (owned σ ρ)) ++ g.pr) H' p := by
        by_cases w : p ∈ (X ++ notLs (upd H1 dx (.own x)) (owned σ ρ)) ++ g.pr
        · rw [hide_in w, hide_in (List.mem_cons_of_mem _ w)]
        · rw [hide_out w, hide_out (fun z => by rcases List.mem_cons.mp z with z | z; exact npx z; exact w z)]
      rw [e]
      exact q
    refine k _ _ H' hf.2 n (.ins ((hide_out (R1.new hx1)).trans hxx) (RpF.mono ?_ _ _ (RpF.free LA _ _ hf.1 rf)))
    intro b o e
    refine backF (H1 := upd H1 dx (.own x)) b o ?_
    obtain ⟨e1, e2⟩ := hide_some e
    obtain ⟨e3, e4⟩ := hide_some e2
    rw [hide_out e1, hide_out (fun z => e3 (List.mem_cons_of_mem _ z))]
    exact e4
end
/-! ### deep == and in -/
mutual
def pyD : Dat → PyData
  | .non => .none
  | .bl b => .bool b
  | .int i => .int i
  | .str x => .str x
  | .lst ds => .list (pyA ds)
  | .tup ds => .tuple (pyA ds)
  | .dic _ => .none
  | .ins _ _ => .none
def pyA : List Dat → List PyData
  | [] => []
  | d :: ds => pyD d :: pyA ds
end
mutual
/-- data that == looks into -/
def eqD : Dat → Bool
  | .lst ds => eqA ds
  | .tup ds => eqA ds
  | .dic _ => false
  | .ins _ _ => false
  | _ => true
def eqA : List Dat → Bool
  | [] => true
  | d :: ds => eqD d && eqA ds
end
section
variable {K : PySem.W.Frag} {G H : Hp}
mutual
theorem Rp.dp (e : Same G H) : ∀ (d : Dat) (v : V), eqD d = true → Rp K G v d → Dp K H v (pyD d)
  | .non, _, _, r => by cases r; exact .non
  | .bl b, _, _, r => by cases r; exact .bl b
  | .int b, _, _, r => by cases r; exact .int b
  | .str b, _, _, r => by cases r; exact .str b
  | .lst ds, _, n, r => by
    unfold eqD at n
    cases r with | lst q r => exact .lst (SqL.of (e _ _ q)) (RpA.dp e ds _ n r)
  | .dic ds, _, n, r => by unfold eqD at n; cases n
  | .tup ds, _, n, r => by
    unfold eqD at n
    cases r with | tup q r => exact .tup (Same.sqT e q) (RpA.dp e ds _ n r)
  | .ins C ds, _, n, r => by unfold eqD at n; cases n
theorem RpA.dp (e : Same G H) : ∀ (ds : List Dat) (vs : List V), eqA ds = true → RpA K G vs ds → DpAll K H vs (pyA ds)
  | [], _, _, r => by cases r; exact .nil
  | d :: ds, _, n, r => by
    unfold eqA at n
    rw [Bool.and_eq_true] at n
    cases r with | cons r t => exact .cons (Rp.dp e d _ n.1 r) (RpA.dp e ds _ n.2 t)
end
theorem RpW.dp {O pr : List Addr} (s1 : ∀ b ∈ pr, b ∈ O) {d : Dat} {v : V} (r : RpW K (hide O H) (hide pr H) v d) (n : eqD d = true) : Dp K H v (pyD d) := by
  cases r with
  | of r => exact Rp.dp hide_same d v n r
  | lst h r =>
    unfold eqD at n
    exact .lst (SqL.of (hide_same _ _ h)) (RpA.dp hide_same _ _ n r)
  | dic h r => unfold eqD at n; cases n
/-- d == e, d in es: what is asked -/
def shD (d : Dat) : Prop := eqD d = true ∧ SeqAt.shaped (pyD d) = true
def dEqD (neg : Bool) (d e : Dat) (Φ : Dat → Prop) : Prop := shD d ∧ shD e ∧ Φ (.bl (if neg then !PyData.eqv (pyD d) (pyD e) else PyData.eqv (pyD d) (pyD e)))
theorem od_eqD : OpD K (rEqD K) (dEqD false) := fun O pr H x y dx dy Φ Q s1 s2 rx ry h k => ⟨_, _, rx.dp s1 h.1.1, ry.dp s1 h.2.1.1, h.1.2, h.2.1.2, k _ _ H h.2.2 (Same.refl _) (.bl _)⟩
theorem od_neD : OpD K (rNeD K) (dEqD true) := fun O pr H x y dx dy Φ Q s1 s2 rx ry h k => ⟨_, _, rx.dp s1 h.1.1, ry.dp s1 h.2.1.1, h.1.2, h.2.1.2, k _ _ H h.2.2 (Same.refl _) (.bl _)⟩
def dInD (neg : Bool) (d e : Dat) (Φ : Dat → Prop) : Prop := ∃ es, e = .lst es ∧ shD d ∧ shD e ∧ Φ (.bl (if neg then !((pyA es).any fun z => PyData.eqv z (pyD d)) else (pyA es).any fun z => PyData.eqv z (pyD d)))
theorem od_inD : OpD K (rInD K) (dInD false) := fun O pr H x y dx dy Φ Q s1 s2 rx ry h k => by
  obtain ⟨es, rfl, h1, h2, h3⟩ := h
  have q := ry.dp s1 h2.1
  unfold pyD at q
  exact ⟨_, _, rx.dp s1 h1.1, q, h1.2, (by have := h2.2; unfold pyD at this; exact this), k _ _ H h3 (Same.refl _) (.bl _)⟩
theorem od_niD : OpD K (rNotInD K) (dInD true) := fun O pr H x y dx dy Φ Q s1 s2 rx ry h k => by
  obtain ⟨es, rfl, h1, h2, h3⟩ := h
  have q := ry.dp s1 h2.1
  unfold pyD at q
  exact ⟨_, _, rx.dp s1 h1.1, q, h1.2, (by have := h2.2; unfold pyD at this; exact this), k _ _ H h3 (Same.refl _) (.bl _)⟩
end
section
variable {K : PySem.W.Frag} {X : Cx} {k : Nat}
theorem n_eqD (hK : X.K = K) (hu : X.A.units + 64 < cLine) : OpR X (compareOp .Eq) (rEqD K) := hK ▸ op_eqD hu
theorem n_neD (hK : X.K = K) (hu : X.A.units + 64 < cLine) : OpR X (compareOp .NotEq) (rNeD K) := hK ▸ op_neD hu
theorem n_inD (hK : X.K = K) (hu : X.A.units + 65 < cLine) : OpR X (compareOp .In) (rInD K) := hK ▸ op_inD hu
theorem n_niD (hK : X.K = K) (hu : X.A.units + 65 < cLine) : OpR X (compareOp .NotIn) (rNotInD K) := hK ▸ op_notInD hu
end
end NW

/-! NwS: sorted(l) of tuples of ints and texts, of texts, of a dict; list(d.values()). -/
namespace NW
open PySem PySem.Spec PyProof.Rows L2
/-! ### the order of keys, of rows of keys -/
def ltK : Key → Key → Bool
  | .inl a, .inl b => decide (a < b)
  | .inr a, .inr b => decide (a.cps.toList < b.cps.toList)
  | .inl _, .inr _ => true
  | .inr _, .inl _ => false
theorem str_ext {a b : Str} (h : a.cps.toList = b.cps.toList) : a = b := by
  obtain ⟨a⟩ := a
  obtain ⟨b⟩ := b
  have h' : a.toList = b.toList := h
  rw [Array.toList_inj.mp h']
theorem ltK_irr (a : Key) : ltK a a = false := by
  cases a with
  | inl a => exact decide_eq_false (Int.lt_irrefl _)
  | inr a => exact decide_eq_false (List.lt_irrefl _)
theorem ltK_trans {a b c : Key} (h1 : ltK a b = true) (h2 : ltK b c = true) : ltK a c = true := by
  cases a <;> cases b <;> cases c <;> first | rfl | (cases h1; done) | (cases h2; done) | skip
  · have x := of_decide_eq_true h1
    have y := of_decide_eq_true h2
    exact decide_eq_true (by omega)
  · exact decide_eq_true (List.lt_trans (of_decide_eq_true h1) (of_decide_eq_true h2))
theorem ltK_tot {a b : Key} (h : ltK b a = false) : a = b ∨ ltK a b = true := by
  cases a <;> cases b
  · rename_i a b
    have x := of_decide_eq_false h
    by_cases e : a = b
    · exact .inl (by rw [e])
    · exact .inr (decide_eq_true (by omega))
  · exact .inr rfl
  · cases h
  · rename_i a b
    have x := of_decide_eq_false h
    rcases List.le_iff_lt_or_eq.mp (List.not_lt.mp x) with e | e
    · exact .inr (decide_eq_true e)
    · exact .inl (by rw [str_ext e])
theorem ltK_asym {a b : Key} (h : ltK a b = true) : ltK b a = false := by
  cases e : ltK b a with
  | false => rfl
  | true =>
    have := ltK_trans h e
    rw [ltK_irr] at this; cases this
def lexK : List Key → List Key → Bool
  | [], [] => false
  | [], _ :: _ => true
  | _ :: _, [] => false
  | x :: xs, y :: ys => if x = y then lexK xs ys else ltK x y
theorem lexK_irr : ∀ xs : List Key, lexK xs xs = false
  | [] => rfl
  | x :: xs => by
    unfold lexK
    rw [if_pos rfl]
    exact lexK_irr xs
theorem lexK_tot : ∀ {xs ys : List Key}, lexK ys xs = false → xs = ys ∨ lexK xs ys = true
  | [], [], _ => .inl rfl
  | [], _ :: _, _ => .inr rfl
  | _ :: _, [], h => by cases h
  | x :: xs, y :: ys, h => by
    unfold lexK at h ⊢
    by_cases e : y = x
    · rw [if_pos e] at h
      rw [if_pos e.symm]
      rcases lexK_tot h with q | q
      · exact .inl (by rw [q, e])
      · exact .inr q
    · rw [if_neg e] at h
      rw [if_neg fun z => e z.symm]
      rcases ltK_tot h with q | q
      · exact absurd q.symm e
      · exact .inr q
theorem lexK_trans : ∀ {xs ys zs : List Key}, lexK xs ys = true → lexK ys zs = true → lexK xs zs = true
  | [], [], _, h, _ => by cases h
  | [], _ :: _, [], _, h => by cases h
  | [], _ :: _, _ :: _, _, _ => rfl
  | _ :: _, [], _, h, _ => by cases h
  | _ :: _, _ :: _, [], _, h => by cases h
  | x :: xs, y :: ys, z :: zs, h1, h2 => by
    unfold lexK at h1 h2 ⊢
    by_cases e : x = y
    · rw [if_pos e] at h1
      subst e
      by_cases e2 : x = z
      · rw [if_pos e2] at h2 ⊢
        exact lexK_trans h1 h2
      · rw [if_neg e2] at h2 ⊢
        exact h2
    · rw [if_neg e] at h1
      by_cases e2 : y = z
      · subst e2
        rw [if_neg e]
        exact h1
      · rw [if_neg e2] at h2
        have h3 := ltK_trans h1 h2
        by_cases e3 : x = z
        · subst e3
          rw [ltK_irr] at h3; cases h3
        · rw [if_neg e3]; exact h3
theorem swoK (k : Value → List Key) : SrtO.Swo fun v u => lexK (k v) (k u) := by
  refine ⟨fun x y h => ?_, fun x y z h1 h2 => ?_⟩
  · cases e : lexK (k y) (k x) with
    | false => rfl
    | true =>
      have := lexK_trans h e
      rw [lexK_irr] at this; cases this
  · cases e : lexK (k z) (k x) with
    | false => rfl
    | true =>
      rcases lexK_tot h1 with q | q
      · rw [q] at e; rw [e] at h2; cases h2
      · have := lexK_trans e q
        rw [this] at h2; cases h2
/-! ### the comparison -/
def isI : Key → Bool
  | .inl _ => true
  | .inr _ => false
def IsTupK (h : Heap) (v : Value) (ks : List Key) : Prop := ∃ a o xs n, v = .ref a ∧ h.get? a = some o ∧ o.cls = .type "tuple" ∧ o.data = .seq xs n ∧ Vals (ks.map kV) xs.toList
theorem IsTupK.keeps {h h' : Heap} {v : Value} {ks : List Key} (p : IsTupK h v ks) (k : ∀ b o, h.get? b = some o → o.cls = .type "tuple" → h'.get? b = some o) : IsTupK h' v ks := by
  obtain ⟨a, o, xs, n, e, ho, hc, hd, r⟩ := p
  exact ⟨a, o, xs, n, e, k _ _ ho hc, hc, hd, r⟩
section
variable {prog : Program} {w : World} {A : Around} {s : Shared}
theorem katlex_ok {Q : Bool → Shared → Prop} {fin : Bool} (hfin : fin = false) : ∀ {ks ls : List Key} {us vs : List Value} (i : Nat), Vals (ks.map kV) us → Vals (ls.map kV) vs → ks.map isI = ls.map isI → Q (lexK ks ls) s → PySem.W.KatLex prog w A true fin Q (us.zip vs) i s
  | [], [], _, _, i, r, r', _, q => by
    cases r
    cases r'
    exact PySem.W.kat_nil (by rw [hfin]; exact q)
  | [], _ :: _, _, _, i, _, _, h, _ => by cases h
  | _ :: _, [], _, _, i, _, _, h, _ => by cases h
  | k :: ks, l :: ls, _, _, i, r, r', h, q => by
    cases r with
    | cons r rs =>
      cases r' with
      | cons r' rs' =>
        have h' : ks.map isI = ls.map isI := (List.cons.inj h).2
        have hk : isI k = isI l := (List.cons.inj h).1
        cases k with
        | inl a =>
          cases l with
          | inr b => cases hk
          | inl b =>
            obtain ⟨t, rfl⟩ := r
            obtain ⟨u, rfl⟩ := r'
            refine PySem.W.kat_cons (SeqAt.EqAt.int_int a t b u prog w _ _ ?_)
            refine PySem.W.kat_go (fun e => ?_) (fun e => ?_)
            · have e' : a = b := by simpa using e
              subst e'
              unfold lexK at q
              rw [if_pos rfl] at q
              exact PySem.W.kat_yes (katlex_ok hfin (i + 1) rs rs' h' q)
            · have e' : ¬ a = b := by simpa using e
              unfold lexK at q
              rw [if_neg (fun z => e' (Sum.inl.inj z))] at q
              cases i with
              | zero => exact PySem.W.kat_no (oneLt_int q)
              | succ i => exact PySem.W.kat_no (PySem.W.kat_one _ _ (PyProof.Rows.lt_int q))
        | inr a =>
          cases l with
          | inl b => cases hk
          | inr b =>
            obtain ⟨t, rfl⟩ := r
            obtain ⟨u, rfl⟩ := r'
            refine PySem.W.kat_cons (SeqAt.EqAt.str_str a t b u prog w _ _ ?_)
            refine PySem.W.kat_go (fun e => ?_) (fun e => ?_)
            · have e' : a = b := by simpa using e
              subst e'
              unfold lexK at q
              rw [if_pos rfl] at q
              exact PySem.W.kat_yes (katlex_ok hfin (i + 1) rs rs' h' q)
            · have e' : ¬ a = b := by simpa using e
              unfold lexK at q
              rw [if_neg (fun z => e' (Sum.inr.inj z))] at q
              cases i with
              | zero => exact PySem.W.kat_no (oneLt_str q)
              | succ i => exact PySem.W.kat_no (PySem.W.kat_one _ _ (PyProof.Rows.lt_str q))
theorem rowK_cmp {vs : List Value} {k : Value → List Key} {sh : List Bool} (hp : ∀ v ∈ vs, IsTupK s.heap v (k v) ∧ (k v).map isI = sh) : SrtO.Cmp prog w A s (tuples' true) (fun p => p.1 ∈ vs) (SrtO.lt2 fun v u => lexK (k v) (k u)) := by
  intro p q hm hm'
  obtain ⟨⟨a, o, xs, n, e, ho, hc, hd, r⟩, h1⟩ := hp _ hm
  obtain ⟨⟨a', o', xs', n', e', ho', hc', hd', r'⟩, h2⟩ := hp _ hm'
  rw [e, e']
  refine PySem.W.kat_lt ho hd ho' hd' ?_
  have l1 : xs.size = sh.length := by
    rw [← h1, List.length_map, ← Array.length_toList, ← r.length, List.length_map]
  have l2 : xs'.size = sh.length := by
    rw [← h2, List.length_map, ← Array.length_toList, ← r'.length, List.length_map]
  refine katlex_ok (decide_eq_false (by omega)) 0 r r' (by rw [h1, h2]) ?_
  show s = s ∧ lexK (k p.1) (k q.1) = lexK (k p.1) (k q.1)
  exact ⟨rfl, rfl⟩
theorem firstsK {h : Heap} {b : Bool} {sh : List Bool} : ∀ {vs : List Value}, (∀ v ∈ vs, ∃ ks, IsTupK h v ks ∧ ks.map isI = b :: sh) → ∃ fs : List Value, PySem.W.KatTups h vs fs ∧ fs.length = vs.length ∧ ∀ f ∈ fs, ∃ k : Key, isI k = b ∧ RelV (kV k) f
  | [], _ => ⟨[], PySem.W.KatTups.nil, rfl, fun _ hm => by simp at hm⟩
  | v :: vs, hp => by
    obtain ⟨fs, h1, h2, h3⟩ := firstsK (vs := vs) fun v' hm => hp v' (List.mem_cons_of_mem _ hm)
    obtain ⟨ks, ⟨a, o, xs, n, e, ho, hc, hd, r⟩, hb⟩ := hp v (List.mem_cons_self ..)
    subst e
    cases ks with
    | nil => cases hb
    | cons k ks =>
      obtain ⟨us, hus⟩ : ∃ us, xs.toList = us := ⟨_, rfl⟩
      rw [hus] at r
      cases r with
      | cons r rs =>
        rename_i u us'
        have e0 : xs[0]? = some u := by rw [← Array.getElem?_toList, hus]; rfl
        refine ⟨u :: fs, PySem.W.KatTups.cons ho hc hd e0 h1, by rw [List.length_cons, List.length_cons, h2], fun f hm => ?_⟩
        rcases List.mem_cons.mp hm with rfl | hm
        · exact ⟨k, (List.cons.inj hb).1, r⟩
        · exact h3 f hm
theorem rowK_sortable {a : Addr} {vs : List Value} {k : Value → List Key} {b : Bool} {sh : List Bool} (h0 : 0 < vs.length) (hp : ∀ v ∈ vs, IsTupK s.heap v (k v) ∧ (k v).map isI = b :: sh) (ha : ∀ o, s.heap.get? a = some o → o.cls ≠ .type "tuple") :
    SrtO.SortableO prog w A s a vs fun v u => lexK (k v) (k u) := by
  intro h' keep
  have hp' : ∀ v ∈ vs, IsTupK h' v (k v) ∧ (k v).map isI = b :: sh := fun v hm => ⟨(hp v hm).1.keeps fun b o e c => keep b o (fun z => by subst z; exact ha o e c) e, (hp v hm).2⟩
  obtain ⟨fs, h1, h2, h3⟩ := firstsK (b := b) (sh := sh) fun v hm => ⟨_, hp' v hm⟩
  refine ⟨tuples' true, fun Q E hq => ?_, rowK_cmp hp'⟩
  cases b with
  | true =>
    refine PySem.W.kat_kind (T := .type "int") h1 (by omega) (fun f hm => ?_) (by rfl) ?_
    · obtain ⟨k, hk, r⟩ := h3 f hm
      cases k with
      | inr z => cases hk
      | inl z =>
        obtain ⟨t, rfl⟩ := r
        exact PySem.W.Looks.now
    · have e : (Value.type "int" != Value.type "tuple") = true := by first | decide +kernel | rfl | decide
      rw [e]
      exact hq
  | false =>
    refine PySem.W.kat_kind (T := .type "str") h1 (by omega) (fun f hm => ?_) (by rfl) ?_
    · obtain ⟨k, hk, r⟩ := h3 f hm
      cases k with
      | inl z => cases hk
      | inr z =>
        obtain ⟨t, rfl⟩ := r
        exact PySem.W.Looks.now
    · have e : (Value.type "str" != Value.type "tuple") = true := by first | decide +kernel | rfl | decide
      rw [e]
      exact hq
end
/-! ### sorted(l), a list of tuples of keys -/
def kOf : Value → Key
  | .int i _ => .inl i
  | .str z _ => .inr z
  | _ => .inl 0
theorem kOf_rel {k : Key} {u : Value} (r : RelV (kV k) u) : kOf u = k := by
  cases k with
  | inl i => obtain ⟨t, rfl⟩ := r; rfl
  | inr i => obtain ⟨t, rfl⟩ := r; rfl
theorem kOf_vals : ∀ {ks : List Key} {us : List Value}, Vals (ks.map kV) us → us.map kOf = ks
  | [], _, r => by cases r; rfl
  | k :: ks, _, r => by
    cases r with
    | cons r rs => rw [List.map_cons, kOf_rel r, kOf_vals rs]
def rowOf (h : Heap) (v : Value) : List Key := match v with
  | .ref a => match h.get? a with
    | some o => match o.data with
      | .seq xs _ => xs.toList.map kOf
      | _ => []
    | none => []
  | _ => []
theorem rowOf_tup {h : Heap} {v : Value} {ks : List Key} (p : IsTupK h v ks) : rowOf h v = ks := by
  obtain ⟨a, o, xs, n, rfl, ho, hc, hd, r⟩ := p
  unfold rowOf
  simp only [ho, hd]
  exact kOf_vals r
def IsRow (K : PySem.W.Frag) (H : Hp) (v : V) (ks : List Key) : Prop := ∃ a, v = .ref a ∧ SqT K H a (ks.map kV)
def IsRows (K : PySem.W.Frag) (H : Hp) : List V → List (List Key) → Prop
  | [], [] => True
  | v :: vs, k :: ks => IsRow K H v k ∧ IsRows K H vs ks
  | _, _ => False
def rSortedT (K : PySem.W.Frag) : List V → Hp → VK → Prop := fun vs H Q => ∃ (a : Addr) (xs : List V) (b : Bool) (sh : List Bool), vs = [V.ref a] ∧ SqL K H a xs ∧ (∀ x ∈ xs, ∃ ks, IsRow K H x ks ∧ ks.map isI = b :: sh) ∧
  ∀ (ys : List V) (p : Addr) (k : V → List Key), (∀ x ks, IsRow K H x ks → k x = ks) → ys.Perm xs → ys.Pairwise (fun x y => lexK (k y) (k x) = false) → H p = none → Q (.ref p) (upd H p (.lst ys))
def rvV : Value → V
  | .ref a => .ref a
  | _ => .non
theorem rvV_vals : ∀ {xs : List V} {us : List Value}, (∀ x ∈ xs, ∃ a, x = V.ref a) → Vals xs us → us.map rvV = xs ∧ ∀ u ∈ us, ∃ a, u = Value.ref a
  | [], _, _, r => by cases r; exact ⟨rfl, fun _ h => by cases h⟩
  | x :: xs, _, h, r => by
    cases r with
    | cons r rs =>
      obtain ⟨a, rfl⟩ := h x List.mem_cons_self
      obtain rfl := r
      obtain ⟨h1, h2⟩ := rvV_vals (fun x hx => h x (List.mem_cons_of_mem _ hx)) rs
      refine ⟨by rw [List.map_cons, h1]; rfl, fun u hu => ?_⟩
      rcases List.mem_cons.mp hu with z | z
      · exact ⟨a, z⟩
      · exact h2 u z
theorem vals_rvV : ∀ {us : List Value}, (∀ u ∈ us, ∃ a, u = Value.ref a) → Vals (us.map rvV) us
  | [], _ => .nil
  | u :: us, h => by
    obtain ⟨a, rfl⟩ := h u List.mem_cons_self
    exact .cons rfl (vals_rvV fun v hv => h v (List.mem_cons_of_mem _ hv))
theorem cr_sortedT {X : Cx} : CallR X (.builtin "sorted") (rSortedT X.K) := by
  intro pins s σ H vs us Q I r h
  obtain ⟨a, xs, b, sh, rfl, hs, hx, q⟩ := h
  obtain ⟨its, rv, hl, hz⟩ := I.list hs
  rw [Vals.ref1 r]
  have row : ∀ x ks, IsRow X.K H x ks → ∃ c, x = .ref c ∧ IsTupK s.heap (.ref c) ks := fun x ks hr => by
    obtain ⟨c, rfl, hc⟩ := hr
    obtain ⟨jts, rj, ⟨o, ho, hcl, n, hd⟩, _⟩ := I.tuple hc
    exact ⟨c, rfl, c, o, jts.toArray, n, rfl, ho, hcl, hd, by rw [List.toList_toArray]; exact rj⟩
  have refs : ∀ x ∈ xs, ∃ a, x = V.ref a := fun x hm => by
    obtain ⟨ks, hr, _⟩ := hx x hm
    obtain ⟨c, e, _⟩ := row x ks hr
    exact ⟨c, e⟩
  obtain ⟨e1, e2⟩ := rvV_vals refs rv
  have hp : ∀ v ∈ its, IsTupK s.heap v (rowOf s.heap v) ∧ (rowOf s.heap v).map isI = b :: sh := fun v hv => by
    obtain ⟨c, rfl⟩ := e2 v hv
    have hm : V.ref c ∈ xs := by rw [← e1]; exact List.mem_map.mpr ⟨_, hv, rfl⟩
    obtain ⟨ks, hr, hb⟩ := hx _ hm
    obtain ⟨c', e, ht⟩ := row _ ks hr
    cases e
    rw [rowOf_tup ht]
    exact ⟨ht, hb⟩
  have hlen := rv.length
  refine SrtO.sorted_ord (swoK (rowOf s.heap)) hl.isList (by rw [← hlen]; exact hz) (fun h2 h₁ a ha kk => ?_) fun out hsr hb => ?_
  · refine rowK_sortable (s := { s with heap := h₁ }) (k := rowOf s.heap) (by omega) (fun v hm => ⟨(hp v hm).1.keeps fun b o e _ => (kk b o e).2, (hp v hm).2⟩) fun o e => ?_
    have e' : some o = some (seqObj "list" its.toArray 0) := e.symm.trans ha
    cases e'
    intro c
    exact absurd (Value.type.inj c) (by decide)
  · obtain ⟨ep, he'⟩ := PyProof.Rows.sortedAll_at s.heap its out.toArray
    have pm : (out.map rvV).Perm xs := by rw [← e1]; exact hb.perm.map rvV
    have or : ∀ u ∈ out, ∃ a, u = Value.ref a := fun u hu => e2 u (hb.perm.mem_iff.mp hu)
    have hlo : (out.map rvV).length ≤ sizeLine := by rw [pm.length_eq]; exact hz
    refine ⟨.ref _, upd H (s.heap.objs.size + 1) (.lst (out.map rvV)), I.laid (t' := s.toks) (fun _ _ => PyProof.Rows.sortedAll_old) (Nat.le_succ _) ⟨hlo, out, ep, vals_rvV or, he'⟩, rfl, ?_⟩
    refine q (out.map rvV) _ (fun x => match x with | .ref c => rowOf s.heap (.ref c) | _ => []) (fun x ks hr => ?_) pm ?_ (I.hok.fresh (Nat.le_succ _))
    · obtain ⟨c, rfl, ht⟩ := row x ks hr
      exact rowOf_tup ht
    · rw [List.pairwise_map]
      refine List.Pairwise.imp_of_mem (fun {x y} hx hy h => ?_) hsr
      obtain ⟨c, rfl⟩ := or x hx
      obtain ⟨c', rfl⟩ := or y hy
      exact h
/-! ### over data -/
def kD : Key → Dat
  | .inl i => .int i
  | .inr z => .str z
abbrev rowD (ks : List Key) : Dat := .tup (ks.map kD)
section
variable {K : PySem.W.Frag} {G H : Hp}
theorem RpA.keys_inv : ∀ {ks : List Key} {vs : List V}, RpA K G vs (ks.map kD) → vs = ks.map kV
  | [], _, r => by cases r; rfl
  | k :: ks, _, r => by
    cases r with
    | cons r t =>
      rw [RpA.keys_inv t]
      cases k <;> (cases r; rfl)
theorem RpA.rows {e : Same G H} : ∀ {rows : List (List Key)} {vs : List V}, RpA K G vs (rows.map rowD) → ∀ v ∈ vs, ∃ ks ∈ rows, IsRow K H v ks
  | [], _, r, _, h => by cases r; cases h
  | k :: ks, _, r, v, h => by
    cases r with
    | cons r t =>
      rcases List.mem_cons.mp h with z | z
      · subst z
        cases r with
        | tup q r => exact ⟨k, List.mem_cons_self, _, rfl, by rw [← RpA.keys_inv r]; exact Same.sqT e q⟩
      · obtain ⟨ks', h1, h2⟩ := RpA.rows (e := e) t v z
        exact ⟨ks', List.mem_cons_of_mem _ h1, h2⟩
theorem RpA.perm {xs ys : List V} (p : ys.Perm xs) : ∀ {ds : List Dat}, RpA K G xs ds → ∃ es, es.Perm ds ∧ RpA K G ys es := by
  induction p with
  | nil => intro ds r; exact ⟨ds, List.Perm.refl _, r⟩
  | cons x p ih =>
    intro ds r
    cases r with
    | cons r t =>
      obtain ⟨es, h1, h2⟩ := ih t
      exact ⟨_, h1.cons _, .cons r h2⟩
  | swap x y l =>
    intro ds r
    cases r with
    | cons r t =>
      cases t with
      | cons r2 t => exact ⟨_, List.Perm.swap .., .cons r2 (.cons r t)⟩
  | trans p q i1 i2 =>
    intro ds r
    obtain ⟨es, h1, h2⟩ := i2 r
    obtain ⟨fs, h3, h4⟩ := i1 h2
    exact ⟨fs, h3.trans h1, h4⟩
end
theorem perm_map_inv {α β : Type} {f : α → β} {xs : List α} : ∀ {es : List β}, es.Perm (xs.map f) → ∃ ys : List α, ys.Perm xs ∧ es = ys.map f := by
  intro es p
  generalize hm : xs.map f = ds at p
  induction p generalizing xs with
  | nil => cases xs with | nil => exact ⟨[], List.Perm.refl _, rfl⟩ | cons _ _ => cases hm
  | cons x p ih =>
    cases xs with
    | nil => cases hm
    | cons y ys =>
      rw [List.map_cons] at hm
      obtain ⟨h1, h2⟩ := List.cons.inj hm
      obtain ⟨zs, h3, h4⟩ := ih h2
      exact ⟨y :: zs, h3.cons _, by rw [List.map_cons, h1, h4]⟩
  | swap x y l =>
    match xs, hm with
    | a :: b :: ys, hm =>
      rw [List.map_cons, List.map_cons] at hm
      obtain ⟨h1, h2⟩ := List.cons.inj hm
      obtain ⟨h3, h4⟩ := List.cons.inj h2
      exact ⟨b :: a :: ys, List.Perm.swap .., by rw [List.map_cons, List.map_cons, h1, h3, h4]⟩
  | trans p q i1 i2 =>
    obtain ⟨zs, h1, h2⟩ := i2 hm
    obtain ⟨ws, h3, h4⟩ := i1 h2.symm
    exact ⟨ws, h3.trans h1, h4⟩
theorem n_sortedT {K : PySem.W.Frag} {X : Cx} (hK : X.K = K) : CallR X (.builtin "sorted") (rSortedT K) := hK ▸ cr_sortedT
def dSortedT : List Dat → (List Dat → Prop) → Prop
  | [.lst ds], Φ => ∃ (rows : List (List Key)) (b : Bool) (sh : List Bool), ds = rows.map rowD ∧ (∀ r ∈ rows, r.map isI = b :: sh) ∧ ∀ rows' : List (List Key), rows'.Perm rows → rows'.Pairwise (fun x y => lexK y x = false) → Φ (rows'.map rowD)
  | _, _ => False
theorem cn_sortedT {K : PySem.W.Frag} : CbN K (rSortedT K) dSortedT := fun O pr H xs dx Φ Q s1 s2 rx h k => by
  match dx, rx, h with
  | [.lst ds], .cons r .nil, h =>
    obtain ⟨rows, b, sh, rfl, hb, h⟩ := h
    obtain ⟨a, ys, rfl, q1, q2⟩ := r.lst_inv (hide_mono s1)
    refine ⟨a, ys, b, sh, rfl, SqL.of (hide_same _ _ q1), fun x hx => ?_, fun zs p f hf hp hs hn => ?_⟩
    · obtain ⟨ks, h1, h2⟩ := RpA.rows (e := hide_same) q2 x hx
      exact ⟨ks, h2, hb _ h1⟩
    · obtain ⟨es, e1, e2⟩ := RpA.perm hp q2
      obtain ⟨rows', p1, rfl⟩ := perm_map_inv e1
      have srt : rows'.Pairwise (fun x y => lexK y x = false) := by
        have key : ∀ {rows' : List (List Key)} {zs : List V}, RpA K (hide O H) zs (rows'.map rowD) → zs.map f = rows' := by
          intro rows'
          induction rows' with
          | nil => intro zs r; cases r; rfl
          | cons k ks ih =>
            intro zs r
            cases r with
            | cons r t =>
              rw [List.map_cons, ih t]
              cases r with
              | tup q r => rw [hf _ k ⟨_, rfl, by rw [← RpA.keys_inv r]; exact Same.sqT hide_same q⟩]
        rw [← key e2, List.pairwise_map]
        exact hs
      exact k _ p _ _ (h rows' p1 srt) (upd_new hn) hn upd_same (e2.mn (hide_cons_upd hn))
/-- sorted(l) of texts -/
theorem n_sortedS {K : PySem.W.Frag} {X : Cx} (hK : X.K = K) : CallR X (.builtin "sorted") (rSortedS K) := hK ▸ cr_sortedS
def dSortedS : List Dat → (List Dat → Prop) → Prop
  | [.lst ds], Φ => ∃ zs : List Str, ds = zs.map Dat.str ∧ zs.length < 64 ∧ ∀ ys : List Str, ys.Perm zs → sortedS ys = true → Φ (ys.map Dat.str)
  | _, _ => False
theorem cn_sortedS {K : PySem.W.Frag} : CbN K (rSortedS K) dSortedS := fun O pr H xs dx Φ Q s1 s2 rx h k => by
  match dx, rx, h with
  | [.lst ds], .cons r .nil, h =>
    obtain ⟨zs, rfl, h1, h⟩ := h
    obtain ⟨a, ys, rfl, q1, q2⟩ := r.lst_inv (hide_mono s1)
    cases q2.strs_inv
    exact ⟨a, zs, rfl, SqL.of (hide_same _ _ q1), h1, fun ws p hp hs hn => k _ p _ _ (h ws hp hs) (upd_new hn) hn upd_same (RpA.strs)⟩
/-- sorted(d), a dict of texts -/
def rSortedD : List V → Hp → VK → Prop := fun xs H Q => ∃ (a : Addr) (kvs : List (Key × V)) (ks : List Str), xs = [.ref a] ∧ Rd H a (.dK kvs) ∧ kvs.map (·.1) = ks.map Sum.inr ∧ ks.length < 64 ∧
    ∀ ys p, ys.Perm ks → sortedS ys = true → H p = none → Q (.ref p) (upd H p (.lst (ys.map V.str)))
theorem n_sortedD {X : Cx} (hc : X.calm = true) : CallR X (.builtin "sorted") rSortedD := call_sortedD hc
def dSortedD : List Dat → (List Dat → Prop) → Prop
  | [.dic kvs], Φ => ∃ ks : List Str, kvs.map (·.1) = ks.map Sum.inr ∧ ks.length < 64 ∧ ∀ ys : List Str, ys.Perm ks → sortedS ys = true → Φ (ys.map Dat.str)
  | _, _ => False
theorem cn_sortedD {K : PySem.W.Frag} : CbN K rSortedD dSortedD := fun O pr H xs dx Φ Q s1 s2 rx h k => by
  match dx, rx, h with
  | [.dic kvs], .cons r .nil, h =>
    obtain ⟨ks, h1, h2, h⟩ := h
    obtain ⟨a, ys, rfl, q1, q2⟩ := r.dic_inv (hide_mono s1)
    exact ⟨a, ys, ks, rfl, .inl (hide_same _ _ q1), by rw [q2.keys]; exact h1, h2, fun ws p hp hs hn => k _ p _ _ (h ws hp hs) (upd_new hn) hn upd_same (RpA.strs)⟩
end NW

/-! NwV: list(d.values()), dict comprehensions over data. -/
namespace NW
open PySem PySem.Spec PyProof.Rows L2
def rValsL : V → Hp → VK → Prop := fun x H Q => ∃ (d : Addr) (kvs : List (Key × V)), x = .ref d ∧ H d = some (.dK kvs) ∧ ∀ p, H p = none → Q (.ref p) (upd H p (.lst (kvs.map (·.2))))
def tListVals (te : TE) : TE := fun σ H Q => te σ H fun x H1 => rValsL x H1 Q
theorem kv_vals : ∀ {kvs : List (Key × V)} {vs : List (Key × Value)}, KV kvs vs → Vals (kvs.map (·.2)) (vs.map (·.2))
  | [], _, h => by cases h; exact .nil
  | p :: kvs, _, h => by
    cases h with
    | cons r t => exact .cons r.2 (kv_vals t)
section
variable {X : Cx} {e : Expr} {te : TE} {p apos cpos pos : Pos}
/-- list(e.values()) -/
theorem pe_listVals (hc : X.calm = true) (he : PE X e te) (hg : Gl X "list") (hm : X.mg "list" = none) (hv : bootBuiltins "list" = some (.type "list")) (hbase : attributeBase e "values" X.env (eval e X.env) = eval e X.env := by rfl) (hline : (apos.endLine == cpos.line) = true := by rfl)
    (hs : starEach [.Call (.Attribute e "values" apos) [] [] cpos] X.env = (false, eval (.Call (.Attribute e "values" apos) [] [] cpos) X.env) :: starEach [] X.env := by rfl) :
    PE X (.Call (.Name "list" p) [.Call (.Attribute e "values" apos) [] [] cpos] [] pos) (tListVals te) := by
  refine ⟨fun pins s σ H Q I hq => ?_⟩
  refine wpAny_Call_Name_kw (ld_blt I hg hm hv ?_)
  refine PyProof.Rows.callWith_type1 ?_ hs rfl
  rw [hs]
  show wpAny _ _ (spliced ((false, eval (.Call (.Attribute e "values" apos) [] [] cpos) X.env) :: backTo pos (starEach [] X.env))) _ _ s
  refine Calls.spliced_cons ?_
  refine wpAny_Call_method (T := "dict") (id := "dict.values") hbase rfl hline F.plainAttrs_dict F.slot_dict_values F.type_dict_values (thn (he.run pins s σ H _ I hq) fun u s1 ⟨x, H1, I1, rx, d, kvs, ex, hd, q⟩ => ?_)
  subst ex
  obtain rfl : u = Value.ref d := rx
  obtain ⟨hz, hs0, vs, kv, hdo⟩ := I1.hok d _ hd
  obtain ⟨ep, hat⟩ := hdo.dictAt
  have lk : kvs.length = vs.length := Paired.length kv
  have I2 : Inv X pins σ H1 { s1 with heap := s1.heap.push { cls := .type "dict_values", data := .fields #[.ref d] } } := I1.kept (t' := s1.toks) fun b ob q => Heap.get?_push_of_some _ q
  refine ⟨hdo.typeIs, hdo.mapOf.noDict, ?_⟩
  show wpAny _ _ (callWith cpos (.builtin "dict.values") [.ref d] [] []) _ X.xe s1
  refine method_meetsIn F.slot_dict_values F.entry_dict_values rfl (PySem.evalArgs_none ⟨rfl, hdo.typeIs, F.args_dict_values_1 _, _, meets_dict_values (mixKind X.prog X.w) d hs0, ⟨vs, hdo⟩, ?_⟩)
  refine Calls.spliced_nil ?_
  refine PySem.W.kdl_call (PySem.W.kdl_values (knd := mixKind X.prog X.w) (kvs := vs) (ep := ep)) (I1.ok.hd hc) ⟨⟨_, Heap.get?_push_size _ rfl, rfl, rfl⟩, hat.push _⟩ (by omega) fun h' tk acc c hk hS hacc => ?_
  have hal : acc.toList.length = vs.length := by rw [Array.length_toList]; exact hacc.1
  have e : acc.toList = vs.map (·.2) := PySem.W.kdl_vals_eq acc.toList hal fun j v e => hacc.2 j v (by rw [← Array.getElem?_toList]; exact e)
  have hl : (kvs.map (·.2)).length ≤ sizeLine := by rw [List.length_map]; exact hz
  have hN : H1 (s1.heap.push { cls := .type "dict_values", data := .fields #[.ref d] }).objs.size = none := I2.hok.fresh (Nat.le_refl _)
  exact ⟨.ref _, upd H1 _ (.lst (kvs.map (·.2))), I2.laid (t' := tk) hk (Nat.le_refl _) ⟨hl, acc.toList, c, by rw [e]; exact kv_vals kv, by rw [Array.toArray_toList]; exact hS⟩, rfl, q _ hN⟩
end
theorem RpK.vals {K : PySem.W.Frag} {G : Hp} : ∀ {kvs : List (Key × V)} {ds : List (Key × Dat)}, RpK K G kvs ds → RpA K G (kvs.map (·.2)) (ds.map (·.2))
  | [], _, h => by cases h; exact .nil
  | p :: kvs, _, h => by
    cases h with
    | cons r t => exact .cons r (RpK.vals t)
section
variable {g : Gm} {X : List Addr} {Y : Hp} {σ : L2.St} {ρ : List Sl} {H H' : Hp} {te ta tb tc : TE} {tr : TA} {t u : TS} {E : DE} {D : Ends}
theorem en_vals {Φ : List Dat → Prop} (h : EvS g te ρ fun d => ∃ kvs, d = .dic kvs ∧ Φ (kvs.map (·.2))) : EvN g (tListVals te) ρ Φ := fun X Y σ H Q R k =>
  h X Y σ H _ R fun d v H1 hd n1 r1 => by
    obtain ⟨kvs, rfl, hf⟩ := hd
    obtain ⟨a, xs, rfl, q1, q2⟩ := r1.dic_inv hid_p
    refine ⟨a, xs, rfl, hide_same _ _ q1, fun p hp => ?_⟩
    exact k _ p _ _ hf (n1.trans ((R.nx n1).same (upd_new hp))) (nx_none R n1 hp) upd_same ((q2.vals).mn (hide_cons_upd hp))
/-! ### a dict in a slot of its own: any expression that makes one -/
def EvK (g : Gm) (te : TE) (ρ : List Sl) (Φ : List (Key × Dat) → Prop) : Prop := ∀ X Y σ H (Q : VK), RS g X Y σ H ρ → (∀ ds p xs H', Φ ds → Nx g H H' → H p = none → H' p = some (.dK xs) → RpK g.K (hide (p :: (X ++ (g.pr ++ owned σ ρ))) H') xs ds → Q (.ref p) H') → te σ H Q
theorem ds_asgK {i : Nat} (h : EvK g te ρ fun ds => E.nx (ρ.set i (.ownK ds))) : DSt g (tAsg te (gName i)) ρ E := fun X Y σ H D R M =>
  h X Y σ H _ R fun ds p xs H1 hd n1 hp hx r1 => by
    have R1 := R.nx n1
    have np := R.new hp
    refine M.nx _ H1 _ hd (R1.setO rfl (R.yn hp) np (by rw [hx]; intro z; cases z) (.ownK hx r1) (R.sl.mono ?_ fun q hq o e => n1.kp q o e (R.nw q hq).2))
    intro b o e
    obtain ⟨h1, h2⟩ := hide_some e
    have q : b ≠ p := ne_of_none h2 hp
    rw [hide_out (fun z => by rcases List.mem_cons.mp z with z | z; exact q z; exact h1 z)]
    exact n1.kp b o h2 fun z => h1 (pr_sub z)
theorem ev_of_k {Φ : Dat → Prop} (h : EvK g te ρ fun ds => Φ (.dic ds)) : EvC g te ρ Φ := fun X Y σ H Q R k => h X Y σ H Q R fun ds p xs H' a n hp hx r => k _ _ H' a n (.dic
  ((hide_out (R.new hp)).trans hx) (r.mn (hide_mono fun b hb => List.mem_cons_of_mem _ hb)))
/-- the state between two turns of a dict comprehension -/
def DcP (g : Gm) (X : List Addr) (Y : Hp) (σ : L2.St) (ρ : List Sl) (H1 : Hp) (D : Addr) (Inv : Nat → List (Key × Dat) → Prop) (i : Nat) (H' : Hp) : Prop :=
  ∃ acc vs, Inv i acc ∧ RS g (D :: X) Y σ H' ρ ∧ Nx g H1 H' ∧ H' D = some (.dK vs) ∧ RpK g.K (hid g (D :: X) σ ρ H') vs acc
theorem DcP.nx {H1 : Hp} {D : Addr} {Inv : Nat → List (Key × Dat) → Prop} {i : Nat} (p : DcP g X Y σ ρ H1 D Inv i H') : Nx g H1 H' := by
  obtain ⟨acc, vs, _, _, n, _⟩ := p
  exact n
theorem DcP.seen {H1 : Hp} {D : Addr} {Inv : Nat → List (Key × Dat) → Prop} {i : Nat} (hD : H1 D = none) (p : DcP g X Y σ ρ H1 D Inv i H') : Same (hid g X σ ρ H1) (hid g (D :: X) σ ρ H') := by
  have n := p.nx
  intro b o e
  obtain ⟨h1, h2⟩ := hide_some e
  refine (hide_out fun z => ?_).trans (n.kp b o h2 fun z => h1 (pr_sub z))
  rcases List.mem_cons.mp z with z | z
  · rw [z, hD] at h2; cases h2
  · exact h1 z
theorem DcP.start {H1 : Hp} (R : RS g X Y σ H1 ρ) {D : Addr} (hD : H1 D = none) {Inv : Nat → List (Key × Dat) → Prop} (h0 : Inv 0 []) : DcP g X Y σ ρ H1 D Inv 0 (upd H1 D (.dK [])) :=
  ⟨[], [], h0, R.addX hD, R.same (upd_new hD), upd_same, .nil⟩
theorem DcP.turn {H1 : Hp} {tt : TT} {tk tv : TE} (R0 : RS g X Y σ H1 ρ) {D : Addr} {Inv : Nat → List (Key × Dat) → Prop} {i v : Nat} {x : V} {d : Dat} (hD : H1 D = none) (hv : ρ[v]? = some .no) (p : DcP g X Y σ ρ H1 D Inv i H') (rx : Rp g.K (hid g (D :: X) σ ρ H') x d)
    (h : ∀ acc, Inv i acc → EvT g tt (ρ.set v (.dat d)) fun b => if b = true then EvC g tk (ρ.set v (.dat d)) fun y => EvC g tv (ρ.set v (.dat d)) fun z => ∃ ke, keyD y = some ke ∧ acc.length < sizeLine ∧ Inv (i + 1) (putD acc ke z) else Inv (i + 1) acc) :
    gName v x (wipe σ [v]) H' fun σ2 H2 => wipe σ2 [v] = wipe σ [v] ∧ tt σ2 H2 fun b H3 =>
      if b = true then tk σ2 H3 fun y H4 => tv σ2 H4 fun z H5 => ∃ kvs k, y = kV k ∧ H5 D = some (.dK kvs) ∧ kvs.length < sizeLine ∧ DcP g X Y σ ρ H1 D Inv (i + 1) (upd H5 D (.dK (putK kvs k z))) else DcP g X Y σ ρ H1 D Inv (i + 1) H3 := by
  obtain ⟨acc, vs, hI, R, n, hDl, ra⟩ := p
  have npr : D ∉ g.pr := fun z => R0.st.some z hD
  have R1 := R.forget (i := v) none
  rw [set_no hv] at R1
  have e1 : Same (hid g (D :: X) σ ρ H') (hid g (D :: X) (wipe σ [v]) ρ H') := hide_mono fun b hb => by
    have hb' : b ∈ (D :: X) ++ (g.pr ++ owned (σ.set v none) ρ) := hb
    rcases List.mem_append.mp hb' with z | z
    · exact List.mem_append_left _ z
    · rcases List.mem_append.mp z with z | z
      · exact pr_sub z
      · have z2 : b ∈ owned (σ.set v none) (ρ.set v .no) := by rw [set_no hv]; exact z
        rcases owned_set b z2 with w | w
        · cases w
        · exact List.mem_append_right _ (List.mem_append_right _ w)
  have R2 := RS.setD (σ := wipe σ [v]) R1 (i := v) (rx.mn e1)
  refine ⟨wipe1, h acc hI _ _ _ H' _ R2 fun b H3 hb n3 => ?_⟩
  cases b with
  | false =>
    refine iteF ⟨acc, vs, by simpa using hb, R.nx n3, n.trans n3, n3.kp _ _ hDl npr, ra.mn n3.hid⟩
  | true =>
    refine iteT ?_
    have hb' : EvC g tk (ρ.set v (.dat d)) fun y => EvC g tv (ρ.set v (.dat d)) fun z => ∃ ke, keyD y = some ke ∧ acc.length < sizeLine ∧ Inv (i + 1) (putD acc ke z) := by simpa using hb
    refine hb' _ _ _ H3 _ (R2.nx n3) fun y yv H4 hy n4 ry => ?_
    refine hy _ _ _ H4 _ ((R2.nx n3).nx n4) fun z zv H5 hz n5 rz => ?_
    obtain ⟨ke, hk, hl, hn⟩ := hz
    have n35 := n3.trans (n4.trans n5)
    have hD5 := n35.kp _ _ hDl npr
    refine ⟨vs, ke, keyD_V (.of (G1 := fun _ => none) ry) hk, hD5, by rw [ra.len]; exact hl, ?_⟩
    have e2 : hid g (D :: X) σ ρ (upd H5 D (.dK (putK vs ke zv))) = hid g (D :: X) σ ρ H5 := hide_upd_in (List.mem_append_left _ List.mem_cons_self)
    refine ⟨_, _, hn, (R.nx n35).updX List.mem_cons_self npr (R0.yn hD), ⟨fun b o e nb => ?_, ?_⟩, upd_same, ?_⟩
    · rw [upd_ne (ne_of_none e hD)]
      exact (n.trans n35).kp b o e nb
    · exact ((R.nx n35).updX (o := .dK (putK vs ke zv)) List.mem_cons_self npr (R0.yn hD)).st
    · rw [e2]
      refine (ra.mn n35.hid).put (rz.mn ?_)
      refine hide_mono fun b hb => ?_
      rcases List.mem_append.mp hb with z | z
      · exact List.mem_append_left _ z
      · rcases List.mem_append.mp z with z | z
        · exact pr_sub z
        · refine List.mem_append_right _ (List.mem_append_right _ (owned_keep hv ?_))
          have z2 := owned_keep (i := v) (x := none) (s := .no) hv z
          rw [set_no hv] at z2
          exact z2
theorem DcP.stop {H1 : Hp} (R : RS g X Y σ H ρ) (n1 : Nx g H H1) {D : Addr} {Inv : Nat → List (Key × Dat) → Prop} {Φ : List (Key × Dat) → Prop} {n : Nat} {Q : VK} (hD : H1 D = none) (hf : ∀ acc, Inv n acc → Φ acc)
    (k : ∀ ds p xs H', Φ ds → Nx g H H' → H p = none → H' p = some (.dK xs) → RpK g.K (hide (p :: (X ++ (g.pr ++ owned σ ρ))) H') xs ds → Q (.ref p) H') (p : DcP g X Y σ ρ H1 D Inv n H') : Q (.ref D) H' := by
  obtain ⟨acc, vs, hI, _, nn, hDl, ra⟩ := p
  exact k acc D vs H' (hf acc hI) (n1.trans nn) (nx_none R n1 hD) hDl ra
/-- over a list that stays -/
theorem dc_list {K : PySem.W.Frag} {a : Addr} {xs : List V} {gg : TG} {tt : TT} {tk tv : TE} {vs : List Nat} {σ : L2.St} {H1 : Hp} {D : Addr} {Qd : Hp → Prop} (Pv : Nat → Hp → Prop) (h0 : Pv 0 (upd H1 D (.dK []))) (hl : ∀ i H, i ≤ xs.length → Pv i H → SqL K H a xs)
    (hs : ∀ i x H, xs[i]? = some x → Pv i H → gg x (wipe σ vs) H fun σ2 H2 => wipe σ2 vs = wipe σ vs ∧ tt σ2 H2 fun b H3 =>
      if b = true then tk σ2 H3 fun y H4 => tv σ2 H4 fun z H5 => ∃ kvs k, y = kV k ∧ H5 D = some (.dK kvs) ∧ kvs.length < sizeLine ∧ Pv (i + 1) (upd H5 D (.dK (putK kvs k z))) else Pv (i + 1) H3) (hd : ∀ H, Pv xs.length H → Qd H) :
    ∃ W : Nat → Nat → Hp → Prop, (∃ m, W 0 m (upd H1 D (.dK []))) ∧ ∀ i m H, W i m H →
      ((Itl K a).stop i H ∧ Qd H) ∨ ((Itl K a).go i H ∧ ∃ Nx : Hp → Prop, (∀ H', Nx H' → ∃ m', m' < m ∧ W (i + 1) m' H') ∧ ∀ x H', (Itl K a).yld i H x H' → gg x (wipe σ vs) H' fun σ2 H2 => wipe σ2 vs = wipe σ vs ∧ tt σ2 H2 fun b H3 =>
        if b = true then tk σ2 H3 fun y H4 => tv σ2 H4 fun z H5 => ∃ kvs k, y = kV k ∧ H5 D = some (.dK kvs) ∧ kvs.length < sizeLine ∧ Nx (upd H5 D (.dK (putK kvs k z))) else Nx H3) := by
  refine ⟨fun i m H => m = xs.length - i ∧ i ≤ xs.length ∧ Pv i H, ⟨xs.length, by simp, Nat.zero_le _, h0⟩, ?_⟩
  rintro i m H ⟨rfl, hi, p⟩
  have q := hl i H hi p
  by_cases hlt : i < xs.length
  · refine .inr ⟨⟨xs, xs[i], q, by simp [hlt]⟩, Pv (i + 1), fun H' p' => ⟨xs.length - (i + 1), by omega, rfl, hlt, p'⟩, fun x H' y => ?_⟩
    obtain ⟨e, y⟩ := y
    subst e
    exact hs i x _ (y xs q) p
  · have e : i = xs.length := by omega
    subst e
    exact .inl ⟨⟨xs, q, Nat.le_refl _⟩, hd H p⟩
/-- {tk: tv for x in xs if tt}, xs a list -/
theorem ek_dcL {v : Nat} {tl tk tv : TE} {tt : TT} {Φ : List (Key × Dat) → Prop} (hv : ρ[v]? = some .no) (h : EvS g tl ρ fun d => ∃ ds, d = .lst ds ∧ ∃ Inv : Nat → List (Key × Dat) → Prop, Inv 0 [] ∧
    (∀ i d acc, ds[i]? = some d → Inv i acc → EvT g tt (ρ.set v (.dat d)) fun b => if b = true then EvC g tk (ρ.set v (.dat d)) fun y => EvC g tv (ρ.set v (.dat d)) fun z => ∃ ke, keyD y = some ke ∧ acc.length < sizeLine ∧ Inv (i + 1) (putD acc ke z) else Inv (i + 1) acc) ∧ ∀ acc, Inv ds.length acc → Φ acc) :
    EvK g (tDc (iList g.K tl) (gName v) tt tk tv [v]) ρ Φ := fun X Y σ H Q R k => h X Y σ H _ R fun d w H1 hd n1 r1 => by
  obtain ⟨ds, rfl, Inv, h0, hs, hf⟩ := hd
  obtain ⟨a, xs, rfl, ha, r⟩ := r1.lst_inv hid_p
  have ha2 := hide_some ha
  refine ⟨a, rfl, ⟨xs, SqL.of ha2.2⟩, fun D hD => ?_⟩
  refine dc_list (K := g.K) (a := a) (xs := xs) (DcP g X Y σ ρ H1 D Inv) (DcP.start (R.nx n1) hD h0) (fun i H' _ p => SqL.of (p.nx.kp a _ ha2.2 ha2.1)) (fun i x H' hi p => ?_) fun H' p => DcP.stop R n1 hD (n := xs.length) (fun acc hI => hf acc (by rw [← r.length]; exact hI)) k p
  obtain ⟨d, hd, rd⟩ := r.get' hi
  exact DcP.turn (R.nx n1) hD hv p (rd.mn (p.seen hD)) fun acc hI => hs i d acc hd hI
end
section
variable {K : PySem.W.Frag} {X : Cx}
theorem n_dcomp {kx vx tg iter : Expr} {ifs : List Expr} {scope : Scope} {own : List (Str × Nat)} {pos : Pos} {wi : TI} {g : TG} {tt : TT} {tk tv : TE} (hc : X.calm = true) (hN : X.N.Nodup) (hi : PI X tg iter wi) (ok : BlkOk X.N X.env.scope scope own)
    (hg : ∀ (s : Shared) (H : Hp) (C : Addr) (cl : List (Str × Addr)) (fp : List Addr), PG (X.blk s H scope (compEnvC scope cl C X.env) fp) tg g) (ht : ∀ (s : Shared) (H : Hp) (C : Addr) (cl : List (Str × Addr)) (fp : List Addr), PTs (X.blk s H scope (compEnvC scope cl C X.env) fp) ifs tt)
    (hk : ∀ (s : Shared) (H : Hp) (C : Addr) (cl : List (Str × Addr)) (fp : List Addr), PE (X.blk s H scope (compEnvC scope cl C X.env) fp) kx tk)
    (he : ∀ (s : Shared) (H : Hp) (C : Addr) (cl : List (Str × Addr)) (fp : List Addr), PE (X.blk s H scope (compEnvC scope cl C X.env) fp) vx tv) (hs : ∀ x, foldedSetIterable iter X.env x = pure x := by intro _; rfl) :
    PE X (.DictComp kx vx [⟨tg, iter, ifs, 0⟩] scope pos) (tDc wi g tt tk tv (own.map (·.2))) := pe_dc hc hN hi ok hg ht hk he hs
end
section
variable {X : Cx}
theorem sw_trueD {kx vx : Expr} {gs : List Comprehension} {scope : Scope} {pos py : Pos} {y : Str} {l : Nat} {env : Env} (hk : env.scope.kind = .function) (hy : env.scope.names.lookup y = some .local) (hl : (py.line == pos.line) = true)
    (ha : (scope.names.any fun (n, k) => n == y && (k == .local || k == .cell)) = false) : swapsWith (.DictComp kx vx gs scope pos) (some (.Name y py)) l env = pure true := by
  have ky : env.kindOf y = some .local := hy
  have hb : env.blockKind = .function := by unfold Env.blockKind; rw [hk]; rfl
  unfold swapsWith
  simp only [hb, ky, ha, Expr.pos, hl]
  rfl
/-- name = {..} on one line, the name a local -/
theorem ps_setDc {i : Nat} {y : Str} {py : Pos} {kx vx tg iter : Expr} {ifs : List Expr} {scope : Scope} {own : List (Str × Nat)} {pos spos : Pos} {wi : TI} {g : TG} {tt : TT} {tk tv : TE} (hc : X.calm = true) (hN : X.N.Nodup) (hy : X.N[i]? = some y) (hyl : X.env.scope.names.lookup y = some .local)
    (hsw : swapsWith (.DictComp kx vx [⟨tg, iter, ifs, 0⟩] scope pos) (some (.Name y py)) spos.line X.env = pure true) (hi : PI X tg iter wi) (ok : BlkOk X.N X.env.scope scope own)
    (hg : ∀ (s : Shared) (H : Hp) (C : Addr) (cl : List (Str × Addr)) (fp : List Addr), PG (X.blk s H scope (compEnvC scope cl C X.env) fp) tg g) (ht : ∀ (s : Shared) (H : Hp) (C : Addr) (cl : List (Str × Addr)) (fp : List Addr), PTs (X.blk s H scope (compEnvC scope cl C X.env) fp) ifs tt)
    (hk : ∀ (s : Shared) (H : Hp) (C : Addr) (cl : List (Str × Addr)) (fp : List Addr), PE (X.blk s H scope (compEnvC scope cl C X.env) fp) kx tk)
    (he : ∀ (s : Shared) (H : Hp) (C : Addr) (cl : List (Str × Addr)) (fp : List Addr), PE (X.blk s H scope (compEnvC scope cl C X.env) fp) vx tv) (hs : ∀ x, foldedSetIterable iter X.env x = pure x := by intro _; rfl) :
    PS X (.Assign [.Name y py] (.DictComp kx vx [⟨tg, iter, ifs, 0⟩] scope pos) spos) (tAsg (tDc wi g tt tk tv (own.map (·.2))) (gName i)) := by
  refine ⟨fun pins s σ H D I h => ?_⟩
  rw [exec_Assign_Name_used _ _ _ _ hsw]
  refine wpAny_bind (wpAny_standAt (wpAny_bind ?_))
  show wpAny _ X.A (do let _ ← comprehension (.DictComp kx vx [⟨tg, iter, ifs, 0⟩] scope pos) scope X.env (firstIterPos [⟨tg, iter, ifs, 0⟩] pos) newDict false (eval iter X.env) (some (assign (.Name y py) X.env))) _ _ s
  have h : tDc wi g tt tk tv (own.map (·.2)) σ H (fun x H1 => gName i x σ H1 D.nx) := h
  refine wpAny_bind (thn (dc_core (Qf := fun _ s' => SP X pins D .next s') hc hN I hi ok hg ht hk he hs h fun L C s' m H' I' q hn f => ?_) fun _ s' hq => wpAny_pure (wpAny_pure hq))
  show wpAny _ _ (assign (.Name y py) X.env (.ref L)) _ _ _
  refine wpAny_assign_Name (store_ok2 (v := V.ref L) I' hN hy (.inl hyl) rfl (fun s2 I2 ⟨a, sb, ha⟩ => ?_) (.inr hyl))
  obtain ⟨f0, f1, f2, f3, f4, f5⟩ := f
  have haC : C ≠ a := by
    rcases ha with z | z
    · rw [z]; exact f1
    · exact fun e => f4 y a z e.symm
  refine ⟨m, hn.sameBut sb haC, fun h3 sb3 => ?_⟩
  exact ⟨_, H', I2.turned (t' := s2.toks) (fun b o hb e => (sb3.2 b hb).trans e) f0 f1 f3 f4 f5, q⟩
end
section
variable {g : Gm} {ρ : List Sl}
theorem et_yes {Φ : Bool → Prop} (h : Φ true) : EvT g tYes ρ Φ := fun X Y σ H Q R k => k true H h R.refl
end
end NW

/-! NwL: chained comparisons of ints, more wrappers. -/
namespace NW
open PySem PySem.Spec PyProof.Rows L2
section
variable {g : Gm} {ρ : List Sl} {te ta tb tc : TE}
/-- a op b op' c of ints -/
theorem ev_chain {f f' : Int → Int → Bool} {Φ : Dat → Prop} (h : EvC g ta ρ fun x => dInt x fun i => EvC g tb ρ fun y => dInt y fun j => if f i j = true then EvC g tc ρ fun z => dInt z fun k => Φ (.bl (f' j k)) else Φ (.bl false)) :
    EvC g (tChain (rI0 fun i j => .bl (f i j)) (rI0 fun i j => .bl (f' i j)) ta tb tc) ρ Φ := fun X Y σ H Q R k =>
  h X Y σ H _ R fun x v H1 h1 n1 r1 => by
    obtain ⟨i, rfl, h1'⟩ := dInt_inv h1
    cases r1
    refine h1' X Y σ H1 _ (R.nx n1) fun y u H2 h2 n2 r2 => ?_
    obtain ⟨j, rfl, h2'⟩ := dInt_inv h2
    cases r2
    refine ⟨i, j, rfl, rfl, _, rfl, ?_⟩
    cases c : f i j with
    | false =>
      rw [c] at h2'
      exact iteF (k _ _ H2 (by simpa using h2') (n1.trans n2) (.bl false))
    | true =>
      rw [c] at h2'
      refine iteT ((by simpa using h2' : EvC g tc ρ fun z => dInt z fun k => Φ (.bl (f' j k))) X Y σ H2 _ ((R.nx n1).nx n2) fun z w H3 h3 n3 r3 => ?_)
      obtain ⟨l, rfl, h3'⟩ := dInt_inv h3
      cases r3
      exact ⟨j, l, rfl, rfl, k _ _ H3 h3' (n1.trans (n2.trans n3)) (.bl _)⟩
end
section
variable {g : Gm} {tr : TA} {ρ : List Sl}
theorem id_EvF {Φ : List Sl → Prop} (h : EvF g tr ρ Φ) : EvF g tr ρ Φ := h
end
theorem _root_.L2.Room.u1 {k : Nat} {A : Around} (r : Room k A) : A.units + 1 < cLine := by have := r.un; omega
theorem _root_.L2.Room.u65 {k : Nat} {A : Around} (r : Room k A) : A.units + 65 < cLine := by have := r.un; omega
theorem n_gtup {K : PySem.W.Frag} {X : Cx} {es : List Expr} {k : Nat} {t : TGs} {n : Nat} {pos : Pos} (hK : X.K = K) (hc : X.calm = true) (h : PGs X es t)
    (hn : (assignEach es X.env).length = n := by rfl) (hst : (assignEach es X.env).findIdx? (·.1) = none := by rfl) : PG X (.Tuple es k pos) (gTup K n t) := hK ▸ pg_tup hc h hn hst
end NW

/-! NwW: webs: arrows, rings, tables; what the defs about them promise. -/
namespace NW
open PySem PySem.Spec PyProof.Rows L2
/-! ### names -/
theorem mem_letters {c : Nat} : c ∈ ("abcdefghijklmnopqrstuvwxyz" : Str).cps.toList ↔ low c := by
  have e : ("abcdefghijklmnopqrstuvwxyz" : Str).cps.toList = [97, 98, 99, 100, 101, 102, 103, 104, 105, 106, 107, 108, 109, 110, 111, 112, 113, 114, 115, 116, 117, 118, 119, 120, 121, 122] := by decide +kernel
  rw [e]
  unfold low
  simp only [List.mem_cons, List.not_mem_nil, or_false]
  omega
theorem mem_signs {c : Nat} : c ∈ ("abcdefghijklmnopqrstuvwxyz0123456789" : Str).cps.toList ↔ sgn c := by
  have e : ("abcdefghijklmnopqrstuvwxyz0123456789" : Str).cps.toList = [97, 98, 99, 100, 101, 102, 103, 104, 105, 106, 107, 108, 109, 110, 111, 112, 113, 114, 115, 116, 117, 118, 119, 120, 121, 122, 48, 49, 50, 51, 52, 53, 54, 55, 56, 57] := by decide +kernel
  rw [e]
  unfold sgn
  simp only [List.mem_cons, List.not_mem_nil, or_false]
  omega
def T_is_name : DT := fun ρ Φ => ∃ z : Str, ρ = [.dat (.str z)] ∧ z.length ≤ sizeLine ∧ (NameS z → Φ (.bl true)) ∧ (¬ NameS z → Φ (.bl false))
theorem T_is_name_mk {z : Str} {Φ : Dat → Prop} (h : NameS z) (k : Φ (.bl true)) : T_is_name [.dat (.str z)] Φ := ⟨z, rfl, h.line, fun _ => k, fun n => absurd h n⟩
def T_valid_name : DT := fun ρ Φ => ∃ z : Str, ρ = [.dat (.str z)] ∧ NameS z ∧ Φ (.str z)
theorem T_valid_name_mk {z : Str} {Φ : Dat → Prop} (h : NameS z) (k : Φ (.str z)) : T_valid_name [.dat (.str z)] Φ := ⟨z, rfl, h, k⟩
/-! ### arrows -/
abbrev Arr := Str × Str × Str
abbrev arrD (a : Arr) : Dat := .tup [.str a.1, .str a.2.1, .str a.2.2]
structure ArrOk (a : Arr) : Prop where
  n1 : NameS a.1
  n2 : NameS a.2.1
  n3 : NameS a.2.2
  ne : a.2.1 ≠ a.2.2
/-- how often p is a beginning, an end -/
def begs (rows : List Arr) (p : Str) : Nat := rows.countP fun a => decide (a.2.1 = p)
def ends (rows : List Arr) (p : Str) : Nat := rows.countP fun a => decide (a.2.2 = p)
structure WebOk (rows : List Arr) : Prop where
  ok : ∀ a ∈ rows, ArrOk a
  nd : (rows.map (·.1)).Nodup
  bal : ∀ p, begs rows p = ends rows p
theorem WebOk.perm {a b : List Arr} (h : WebOk a) (p : b.Perm a) : WebOk b := ⟨fun x hx => h.ok x (p.mem_iff.mp hx), (p.map (·.1)).nodup_iff.mpr h.nd, fun q => by
  unfold begs ends
  rw [p.countP_eq, p.countP_eq]
  exact h.bal q⟩
/-- a row's entry in a dict by its box -/
abbrev knD (rows : List Arr) : List (Key × Dat) := rows.map fun a => (.inr a.1, arrD a)
theorem valD_none {rows : List Arr} {x : Str} : valD (knD rows) (.inr x) = none ↔ x ∉ rows.map (·.1) := by
  unfold valD
  rw [Option.map_eq_none_iff, List.find?_eq_none]
  constructor
  · intro h hm
    obtain ⟨a, ha, rfl⟩ := List.mem_map.mp hm
    exact absurd (h (.inr a.1, arrD a) (List.mem_map.mpr ⟨a, ha, rfl⟩)) (by simp)
  · intro h kv hkv
    obtain ⟨a, ha, rfl⟩ := List.mem_map.mp hkv
    simp only [decide_eq_true_eq]
    intro e
    exact h (List.mem_map.mpr ⟨a, ha, Sum.inr.inj e⟩)
theorem valD_some {rows : List Arr} (nd : (rows.map (·.1)).Nodup) {a : Arr} (ha : a ∈ rows) : valD (knD rows) (.inr a.1) = some (arrD a) := by
  induction rows with
  | nil => cases ha
  | cons b rows ih =>
    rw [List.map_cons, List.nodup_cons] at nd
    show valD ((.inr b.1, arrD b) :: knD rows) _ = _
    unfold valD
    by_cases e : b.1 = a.1
    · have eab : a = b := by
        rcases List.mem_cons.mp ha with z | z
        · exact z
        · exact absurd (List.mem_map.mpr ⟨a, z, e.symm⟩) nd.1
      rw [List.find?_cons_of_pos (by simp [e]), eab]
      rfl
    · rw [List.find?_cons_of_neg (by simp [e])]
      rcases List.mem_cons.mp ha with z | z
      · exact absurd (by rw [z]) e
      · exact ih nd.2 z
theorem putD_new {rows : List Arr} {a : Arr} (h : a.1 ∉ rows.map (·.1)) : putD (knD rows) (.inr a.1) (arrD a) = knD (rows ++ [a]) := by
  unfold putD
  rw [if_neg]
  · unfold knD
    rw [List.map_append]
    rfl
  · intro z
    obtain ⟨kv, hkv, e⟩ := List.any_eq_true.mp z
    obtain ⟨b, hb, rfl⟩ := List.mem_map.mp hkv
    have e' : (Sum.inr b.1 : Key) = .inr a.1 := of_decide_eq_true e
    exact h (List.mem_map.mpr ⟨b, hb, Sum.inr.inj e'⟩)
def T_require_arrow : DT := fun ρ Φ => ∃ (a : Arr) (rows : List Arr), ρ = [.dat (arrD a), .dat (.dic (knD rows))] ∧ ArrOk a ∧ a.1 ∉ rows.map (·.1) ∧ Φ .non
def T_require_balance : DT := fun ρ Φ => ∃ rows : List Arr, ρ = [.dat (.lst (rows.map arrD))] ∧ WebOk rows ∧ rows.length ≤ 12 ∧ Φ .non
def T_arrows : NT := fun ρ Φ => ∃ m : Int, ρ = [.sto, .dat (.int m)] ∧ 0 ≤ m ∧ m ≤ 12 ∧ ∀ rows, WebOk rows → (rows.length : Int) ≤ m → Φ (rows.map arrD)
/-! ### dicts -/
theorem find_map_put {kvs : List (Key × Dat)} {k k' : Key} {v : Dat} : (kvs.map fun kv => if kv.1 = k then (kv.1, v) else kv).find? (fun kv => decide (kv.1 = k')) = if k' = k then (kvs.find? fun kv => decide (kv.1 = k')).map (fun kv => (kv.1, v)) else kvs.find? fun kv => decide (kv.1 = k') := by
  induction kvs with
  | nil => split <;> rfl
  | cons kv kvs ih =>
    obtain ⟨a, b⟩ := kv
    rw [List.map_cons]
    by_cases h1 : a = k'
    · subst h1
      by_cases h2 : a = k
      · subst h2
        rw [if_pos rfl, List.find?_cons_of_pos (by simp), if_pos rfl, List.find?_cons_of_pos (by simp)]
        rfl
      · rw [if_neg h2, List.find?_cons_of_pos (by simp), if_neg h2, List.find?_cons_of_pos (by simp)]
    · have e : decide ((if a = k then (a, v) else (a, b)).1 = k') = false := by
        split <;> exact decide_eq_false h1
      rw [List.find?_cons_of_neg (by rw [e]; exact Bool.false_ne_true), ih, List.find?_cons_of_neg (by simpa using h1)]
theorem valD_putD {kvs : List (Key × Dat)} {k k' : Key} {v : Dat} : valD (putD kvs k v) k' = if k' = k then some v else valD kvs k' := by
  unfold putD
  split
  · rename_i h
    unfold valD
    rw [find_map_put]
    by_cases e : k' = k
    · subst e
      rw [if_pos rfl, if_pos rfl]
      obtain ⟨kv, hkv, hk⟩ := List.any_eq_true.mp h
      have : (kvs.find? fun kv => decide (kv.1 = k')).isSome = true := List.find?_isSome.mpr ⟨kv, hkv, hk⟩
      obtain ⟨x, hx⟩ := Option.isSome_iff_exists.mp this
      rw [hx]; rfl
    · rw [if_neg e, if_neg e]
  · rename_i h
    unfold valD
    rw [List.find?_append]
    by_cases e : k' = k
    · subst e
      rw [if_pos rfl]
      have : kvs.find? (fun kv => decide (kv.1 = k')) = none := by
        rw [List.find?_eq_none]
        intro kv hkv z
        exact h (List.any_eq_true.mpr ⟨kv, hkv, z⟩)
      rw [this]
      simp
    · rw [if_neg e]
      have : [(k, v)].find? (fun kv => decide (kv.1 = k')) = none := by
        rw [List.find?_eq_none]
        intro kv hkv z
        rw [List.mem_singleton.mp hkv] at z
        exact e (of_decide_eq_true z).symm
      rw [this]
      cases kvs.find? (fun kv => decide (kv.1 = k')) <;> rfl
theorem putD_len {kvs : List (Key × Dat)} {k : Key} {v : Dat} : (putD kvs k v).length ≤ kvs.length + 1 := by
  unfold putD
  split
  · rw [List.length_map]; omega
  · rw [List.length_append]; exact Nat.le_refl _
theorem putD_keys {kvs : List (Key × Dat)} {k : Key} {v : Dat} : (putD kvs k v).map (·.1) = if (kvs.any fun kv => decide (kv.1 = k)) = true then kvs.map (·.1) else kvs.map (·.1) ++ [k] := by
  unfold putD
  split
  · rw [List.map_map]
    apply List.map_congr_left
    intro kv _
    show (if kv.1 = k then (kv.1, v) else kv).1 = kv.1
    split <;> rfl
  · rw [List.map_append]; rfl
theorem valD_mem {kvs : List (Key × Dat)} {k : Key} : (valD kvs k).isSome = true ↔ k ∈ kvs.map (·.1) := by
  unfold valD
  rw [Option.isSome_map, List.find?_isSome]
  constructor
  · rintro ⟨kv, h, e⟩
    exact List.mem_map.mpr ⟨kv, h, of_decide_eq_true e⟩
  · intro h
    obtain ⟨kv, hkv, e⟩ := List.mem_map.mp h
    exact ⟨kv, hkv, decide_eq_true e⟩
/-- a dict of ints by texts: f tells its numbers, 0 where there is none -/
structure IntD (kvs : List (Key × Dat)) (f : Str → Int) : Prop where
  ks : ∃ zs : List Str, kvs.map (·.1) = zs.map Sum.inr ∧ zs.Nodup
  val : ∀ p, (valD kvs (.inr p)).getD (.int 0) = .int (f p)
theorem IntD.nil : IntD [] fun _ => 0 := ⟨⟨[], rfl, List.nodup_nil⟩, fun _ => rfl⟩
theorem IntD.put {kvs : List (Key × Dat)} {f : Str → Int} (h : IntD kvs f) (p : Str) (v : Int) : IntD (putD kvs (.inr p) (.int v)) fun q => if q = p then v else f q := by
  obtain ⟨zs, e, nd⟩ := h.ks
  refine ⟨?_, fun q => ?_⟩
  · rw [putD_keys]
    split
    · exact ⟨zs, e, nd⟩
    · rename_i hn
      refine ⟨zs ++ [p], by rw [e, List.map_append]; rfl, ?_⟩
      rw [List.nodup_append]
      refine ⟨nd, by simp, fun a ha b hb hab => hn ?_⟩
      rw [List.mem_singleton.mp hb] at hab
      subst hab
      have : (Sum.inr a : Key) ∈ kvs.map (·.1) := by rw [e]; exact List.mem_map.mpr ⟨a, ha, rfl⟩
      obtain ⟨kv, h1, h2⟩ := List.mem_map.mp this
      exact List.any_eq_true.mpr ⟨kv, h1, decide_eq_true h2⟩
  · rw [valD_putD]
    by_cases e : q = p
    · subst e
      rw [if_pos rfl, if_pos rfl]; rfl
    · rw [if_neg (fun z => e (Sum.inr.inj z)), if_neg e]
      exact h.val q
theorem IntD.has {kvs : List (Key × Dat)} {f : Str → Int} (h : IntD kvs f) {p : Str} (hp : (Sum.inr p : Key) ∈ kvs.map (·.1)) : valD kvs (.inr p) = some (.int (f p)) := by
  have q := valD_mem.mpr hp
  have v := h.val p
  obtain ⟨x, hx⟩ := Option.isSome_iff_exists.mp q
  rw [hx] at v ⊢
  exact congrArg some v
theorem begs_take {rows : List Arr} {i : Nat} {a : Arr} (h : rows[i]? = some a) (p : Str) : (begs (rows.take (i + 1)) p : Int) = begs (rows.take i) p + (if p = a.2.1 then 1 else 0) := by
  unfold begs
  rw [List.take_add_one, h, List.countP_append]
  show _ = _
  by_cases e : p = a.2.1
  · rw [if_pos e]
    simp [e]
  · rw [if_neg e]
    have : ¬ a.2.1 = p := fun z => e z.symm
    simp [this]
theorem ends_take {rows : List Arr} {i : Nat} {a : Arr} (h : rows[i]? = some a) (p : Str) : (ends (rows.take (i + 1)) p : Int) = ends (rows.take i) p + (if p = a.2.2 then 1 else 0) := by
  unfold ends
  rw [List.take_add_one, h, List.countP_append]
  show _ = _
  by_cases e : p = a.2.2
  · rw [if_pos e]
    simp [e]
  · rw [if_neg e]
    have : ¬ a.2.2 = p := fun z => e z.symm
    simp [this]
theorem map_get {α β : Type} {f : α → β} {l : List α} {i : Nat} {d : β} (h : (l.map f)[i]? = some d) : ∃ a, l[i]? = some a ∧ d = f a := by
  rw [List.getElem?_map] at h
  cases e : l[i]? with
  | none => rw [e] at h; cases h
  | some a =>
    rw [e] at h
    cases h
    exact ⟨a, rfl, rfl⟩
end NW

/-! NwR: rings of arrows, their index sets, the table of greatest numbers. -/
namespace NW
open PySem PySem.Spec PyProof.Rows L2
/-! ### len of a dict -/
def rLenD : List V → Hp → VK → Prop := fun xs H Q => ∃ a kvs, xs = [V.ref a] ∧ H a = some (.dK kvs) ∧ Q (.int kvs.length) H
theorem n_lenD {X : Cx} : CallR X (.builtin "len") rLenD := call_lenD
def dLenD : List Dat → (Dat → Prop) → Prop
  | [.dic kvs], Φ => Φ (.int kvs.length)
  | _, _ => False
theorem cd_lenD {K : PySem.W.Frag} : CbD K rLenD dLenD := fun O pr H xs dx Φ Q s1 s2 rx h k => by
  match dx, rx, h with
  | [.dic ds], .cons r .nil, h =>
    obtain ⟨a, ys, rfl, q1, q2⟩ := r.dic_inv (hide_mono s1)
    exact ⟨a, ys, rfl, hide_same _ _ q1, k _ _ H h (Same.refl _) (by rw [q2.len]; exact .int _)⟩
theorem dLenD_mk {kvs : List (Key × Dat)} {Φ : Dat → Prop} (h : Φ (.int kvs.length)) : dLenD [.dic kvs] Φ := h
/-! ### rings -/
/-- each arrow ends where the next begins, the last one at h -/
structure Lnk (r : List Arr) (h : Str) : Prop where
  st : ∀ (i : Nat) (a b : Arr), r[i]? = some a → r[i + 1]? = some b → a.2.2 = b.2.1
  la : ∀ a, r[r.length - 1]? = some a → a.2.2 = h
theorem Lnk.one (a : Arr) : Lnk [a] a.2.2 := ⟨fun i x y h1 h2 => by simp at h2, fun b h => by
  cases (show some a = some b from h); rfl⟩
theorem Lnk.app {r : List Arr} {b : Arr} (h : Lnk r b.2.1) : Lnk (r ++ [b]) b.2.2 := by
  refine ⟨fun i x y h1 h2 => ?_, fun a h1 => ?_⟩
  · by_cases q : i + 1 < r.length
    · rw [List.getElem?_append_left (by omega)] at h1 h2
      exact h.st i x y h1 h2
    · have hl := (List.getElem?_eq_some_iff.mp h2).1
      rw [List.length_append] at hl
      have hl' : i + 1 < r.length + 1 := hl
      have e : i + 1 = r.length := by omega
      rw [List.getElem?_append_right (by omega), e, Nat.sub_self] at h2
      cases (show some b = some y from h2)
      rw [List.getElem?_append_left (by omega)] at h1
      exact h.la x (by rw [← e, Nat.add_sub_cancel]; exact h1)
  · rw [List.length_append] at h1
    have e : r.length + [b].length - 1 = r.length := by simp
    rw [e, List.getElem?_append_right (Nat.le_refl _), Nat.sub_self] at h1
    cases (show some b = some a from h1)
    rfl
structure Ring (S r : List Arr) : Prop where
  len : r.length = S.length
  hd : r[0]? = S[0]?
  sub : ∀ a ∈ r, a ∈ S
  bg : (r.map (·.2.1)).Nodup
  ln : ∀ a, r[0]? = some a → Lnk r a.2.1
theorem nodup_of_beg {r : List Arr} (h : (r.map (·.2.1)).Nodup) : r.Nodup := List.Pairwise.of_map _ (fun a b hne e => hne (by rw [e])) h
theorem nodup_at {α β : Type} {f : α → β} {l : List α} (h : (l.map f).Nodup) {i j : Nat} {a b : α} (hi : l[i]? = some a) (hj : l[j]? = some b) (e : f a = f b) : i = j := by
  have h1 : (l.map f)[i]? = some (f a) := by rw [List.getElem?_map, hi]; rfl
  have h2 : (l.map f)[j]? = some (f b) := by rw [List.getElem?_map, hj]; rfl
  obtain ⟨x1, y1⟩ := List.getElem?_eq_some_iff.mp h1
  obtain ⟨x2, y2⟩ := List.getElem?_eq_some_iff.mp h2
  rcases Nat.lt_trichotomy i j with q | q | q
  · exact absurd (by rw [y1, y2, e]) (List.pairwise_iff_getElem.mp h i j x1 x2 q)
  · exact q
  · exact absurd (by rw [y1, y2, e]) (List.pairwise_iff_getElem.mp h j i x2 x1 q)
theorem perm_of_nodup {α : Type} [DecidableEq α] : ∀ {l m : List α}, l.Nodup → (∀ a ∈ l, a ∈ m) → m.length ≤ l.length → l.Perm m
  | [], m, _, _, h => by
    rw [List.eq_nil_of_length_eq_zero (Nat.le_zero.mp h)]
  | a :: t, m, nd, sub, h => by
    rw [List.nodup_cons] at nd
    have ha := sub a List.mem_cons_self
    have p := List.perm_cons_erase ha
    refine List.Perm.trans (List.Perm.cons a (perm_of_nodup nd.2 (fun b hb => ?_) ?_)) p.symm
    · exact (List.mem_erase_of_ne (fun (z : b = a) => nd.1 (z ▸ hb))).mpr (sub b (List.mem_cons_of_mem _ hb))
    · rw [List.length_erase_of_mem ha]
      rw [List.length_cons] at h
      omega
theorem Ring.perm {S r : List Arr} (h : Ring S r) : r.Perm S := perm_of_nodup (nodup_of_beg h.bg) h.sub (by rw [h.len]; exact Nat.le_refl _)
theorem Ring.begS {S r : List Arr} (h : Ring S r) : (S.map (·.2.1)).Nodup := (h.perm.map (·.2.1)).nodup_iff.mp h.bg
theorem beg_eq {S : List Arr} (h : (S.map (·.2.1)).Nodup) {a b : Arr} (ha : a ∈ S) (hb : b ∈ S) (e : a.2.1 = b.2.1) : a = b := by
  obtain ⟨i, hi, rfl⟩ := List.mem_iff_getElem.mp ha
  obtain ⟨j, hj, rfl⟩ := List.mem_iff_getElem.mp hb
  have := nodup_at (f := fun x : Arr => x.2.1) h (List.getElem?_eq_getElem hi) (List.getElem?_eq_getElem hj) e
  subst this; rfl
/-- a walk that doesn't pass its home ahead of its end is a ring -/
theorem walk_nodup {S r : List Arr} {home : Str} (bs : (S.map (·.2.1)).Nodup) (sub : ∀ a ∈ r, a ∈ S) (ln : Lnk r home) (nh : ∀ (i : Nat) (a : Arr), i + 1 < r.length → r[i]? = some a → a.2.2 ≠ home) : (r.map (·.2.1)).Nodup := by
  rw [List.nodup_iff_pairwise_ne, List.pairwise_iff_getElem]
  intro i j hi hj hij e
  rw [List.length_map] at hi hj
  rw [List.getElem_map, List.getElem_map] at e
  have det : ∀ t, (h : j + t < r.length) → r[i + t]? = some (r[j + t]) := by
    intro t
    induction t with
    | zero =>
      intro h
      rw [Nat.add_zero, List.getElem?_eq_getElem hi]
      exact congrArg some (beg_eq bs (sub _ (List.getElem_mem hi)) (sub _ (List.getElem_mem hj)) e)
    | succ t ih =>
      intro h
      have h1 := ih (by omega)
      have hi' : i + (t + 1) < r.length := by omega
      rw [List.getElem?_eq_getElem hi']
      have s1 := ln.st (i + t) _ _ h1 (List.getElem?_eq_getElem (show i + t + 1 < r.length by omega))
      have s2 := ln.st (j + t) _ _ (List.getElem?_eq_getElem (by omega)) (List.getElem?_eq_getElem (show j + t + 1 < r.length by omega))
      have e3 : r[i + t + 1].2.1 = r[j + t + 1].2.1 := s1.symm.trans s2
      exact congrArg some (beg_eq bs (sub _ (List.getElem_mem _)) (sub _ (List.getElem_mem _)) e3)
  have h1 := det (r.length - 1 - j) (by omega)
  have hx : j + (r.length - 1 - j) = r.length - 1 := by omega
  have h2 : r[r.length - 1]? = some (r[j + (r.length - 1 - j)]'(by omega)) := by
    rw [List.getElem?_eq_getElem (show r.length - 1 < r.length by omega)]
    simp only [hx]
  have h3 := ln.la _ h2
  exact nh (i + (r.length - 1 - j)) _ (by omega) h1 h3
/-- what the walk of a ring shows: its beginning is the ring's -/
theorem Ring.next {S r : List Arr} (h : Ring S r) {k : Nat} (hk : 0 < k) (hk2 : k < r.length) {here home : Str} (hl : Lnk (r.take k) here) (hh : ∀ a, r[0]? = some a → a.2.1 = home) : ∃ a, r[k]? = some a ∧ a ∈ S ∧ a.2.1 = here ∧ here ≠ home := by
  refine ⟨r[k], List.getElem?_eq_getElem hk2, h.sub _ (List.getElem_mem hk2), ?_⟩
  have h0 := List.getElem?_eq_getElem (show 0 < r.length by omega)
  have ln := h.ln _ h0
  have hk1 : k - 1 < r.length := by omega
  have e1 : r[k - 1].2.2 = r[k].2.1 := ln.st (k - 1) _ _ (List.getElem?_eq_getElem hk1) (by rw [show k - 1 + 1 = k by omega]; exact List.getElem?_eq_getElem hk2)
  have e2 : r[k - 1].2.2 = here := hl.la _ (by rw [List.length_take, Nat.min_eq_left (by omega), List.getElem?_take_of_lt (by omega)]; exact List.getElem?_eq_getElem hk1)
  have e3 : r[k].2.1 = here := e1.symm.trans e2
  refine ⟨e3, fun z => ?_⟩
  have := nodup_at (f := fun x : Arr => x.2.1) h.bg (List.getElem?_eq_getElem hk2) h0 (e3.trans (z.trans (hh _ h0).symm))
  omega
def T_ring_of : DT := fun ρ Φ => ∃ S : List Arr, ρ = [.dat (.lst (S.map arrD))] ∧ S ≠ [] ∧ S.length ≤ 12 ∧ (∀ r, Ring S r → Φ (.lst (r.map arrD))) ∧ ((∀ r, ¬ Ring S r) → Φ .non)
/-! ### the dict of rows by their beginning -/
structure LeaveD (kvs : List (Key × Dat)) (R : List Arr) : Prop where
  val : ∀ p, (∃ a ∈ R, a.2.1 = p ∧ valD kvs (.inr p) = some (arrD a)) ∨ (valD kvs (.inr p) = none ∧ p ∉ R.map (·.2.1))
  le : kvs.length ≤ R.length
  len : kvs.length = R.length ↔ (R.map (·.2.1)).Nodup
theorem LeaveD.nil : LeaveD [] [] := ⟨fun p => .inr ⟨rfl, fun z => by cases z⟩, Nat.le_refl _, ⟨fun _ => List.nodup_nil, fun _ => rfl⟩⟩
theorem LeaveD.put {kvs : List (Key × Dat)} {R : List Arr} (h : LeaveD kvs R) (a : Arr) : LeaveD (putD kvs (.inr a.2.1) (arrD a)) (R ++ [a]) := by
  have lr : (R ++ [a]).length = R.length + 1 := by rw [List.length_append]; rfl
  have er : (R ++ [a]).map (·.2.1) = R.map (·.2.1) ++ [a.2.1] := by rw [List.map_append]; rfl
  refine ⟨fun p => ?_, by rw [lr]; exact Nat.le_trans putD_len (Nat.succ_le_succ h.le), ?_⟩
  · rw [valD_putD]
    by_cases e : p = a.2.1
    · subst e
      rw [if_pos rfl]
      exact .inl ⟨a, by simp, rfl, rfl⟩
    · rw [if_neg (fun z => e (Sum.inr.inj z))]
      rcases h.val p with ⟨b, h1, h2, h3⟩ | ⟨h1, h2⟩
      · exact .inl ⟨b, List.mem_append_left _ h1, h2, h3⟩
      · refine .inr ⟨h1, fun z => ?_⟩
        rw [er] at z
        rcases List.mem_append.mp z with z | z
        · exact h2 z
        · exact e (List.mem_singleton.mp z)
  · rw [lr, er]
    rcases h.val a.2.1 with ⟨b, h1, h2, h3⟩ | ⟨h1, h2⟩
    · have hs : (valD kvs (.inr a.2.1)).isSome = true := by rw [h3]; rfl
      have hm := valD_mem.mp hs
      have el : (putD kvs (.inr a.2.1) (arrD a)).length = kvs.length := by
        have := congrArg List.length (putD_keys (kvs := kvs) (k := .inr a.2.1) (v := arrD a))
        rw [List.length_map] at this
        rw [this, if_pos, List.length_map]
        obtain ⟨kv, x, y⟩ := List.mem_map.mp hm
        exact List.any_eq_true.mpr ⟨kv, x, decide_eq_true y⟩
      rw [el]
      have := h.le
      constructor
      · intro z; omega
      · intro z
        rw [List.nodup_append] at z
        exact absurd rfl (z.2.2 a.2.1 (List.mem_map.mpr ⟨b, h1, h2⟩) a.2.1 List.mem_cons_self)
    · have el : (putD kvs (.inr a.2.1) (arrD a)).length = kvs.length + 1 := by
        have := congrArg List.length (putD_keys (kvs := kvs) (k := .inr a.2.1) (v := arrD a))
        rw [List.length_map] at this
        rw [this, if_neg, List.length_append, List.length_map]
        · rfl
        · intro z
          obtain ⟨kv, x, y⟩ := List.any_eq_true.mp z
          have : (valD kvs (.inr a.2.1)).isSome = true := valD_mem.mpr (List.mem_map.mpr ⟨kv, x, of_decide_eq_true y⟩)
          rw [h1] at this; cases this
      rw [el]
      constructor
      · intro z
        rw [List.nodup_append]
        refine ⟨h.len.mp (by omega), by simp, fun x hx y hy e => ?_⟩
        rw [List.mem_singleton.mp hy] at e
        exact h2 (e ▸ hx)
      · intro z
        rw [List.nodup_append] at z
        rw [h.len.mpr z.1]
/-! ### the arrows that an index tells -/
abbrev selB (idx : Int) (k : Nat) : Bool := decide (Builtin.bitAnd (idx / 2 ^ k) 1 = 1)
def selTo (rows : List Arr) (idx : Int) : Nat → List Arr
  | 0 => []
  | k + 1 => selTo rows idx k ++ (if selB idx k = true then (rows[k]?).toList else [])
def sel (rows : List Arr) (idx : Int) : List Arr := selTo rows idx rows.length
theorem selTo_sub {rows : List Arr} {idx : Int} : ∀ {k : Nat}, ∀ a ∈ selTo rows idx k, ∃ j < k, rows[j]? = some a ∧ selB idx j = true
  | 0, a, h => by cases h
  | k + 1, a, h => by
    unfold selTo at h
    rcases List.mem_append.mp h with z | z
    · obtain ⟨j, h1, h2⟩ := selTo_sub a z
      exact ⟨j, by omega, h2⟩
    · by_cases q : selB idx k = true
      · rw [if_pos q] at z
        exact ⟨k, by omega, Option.mem_toList.mp z, q⟩
      · rw [if_neg q] at z; cases z
theorem selTo_len {rows : List Arr} {idx : Int} : ∀ k : Nat, (selTo rows idx k).length ≤ k
  | 0 => Nat.le_refl _
  | k + 1 => by
    unfold selTo
    rw [List.length_append]
    have := selTo_len (rows := rows) (idx := idx) k
    split
    · cases rows[k]? <;> simp <;> omega
    · simp; omega
theorem selTo_nodup {rows : List Arr} (nd : (rows.map (·.1)).Nodup) {idx : Int} : ∀ k : Nat, ((selTo rows idx k).map (·.1)).Nodup
  | 0 => List.nodup_nil
  | k + 1 => by
    unfold selTo
    split
    · cases e : rows[k]? with
      | none => simp; exact selTo_nodup nd k
      | some a =>
        rw [List.map_append, List.nodup_append]
        refine ⟨selTo_nodup nd k, by simp, fun x hx y hy exy => ?_⟩
        obtain ⟨b, hb, rfl⟩ := List.mem_map.mp hx
        have hy' : y = a.1 := by simpa using hy
        subst hy'
        obtain ⟨j, hj, h1, _⟩ := selTo_sub b hb
        have := nodup_at (f := fun x : Arr => x.1) nd h1 e exy
        omega
    · rw [List.append_nil]; exact selTo_nodup nd k
theorem selB_ex : ∀ (n : Nat) (idx : Int), 1 ≤ idx → idx < 2 ^ n → ∃ k < n, selB idx k = true
  | 0, idx, h1, h2 => by
    have : (2 : Int) ^ 0 = 1 := rfl
    omega
  | n + 1, idx, h1, h2 => by
    by_cases q : idx % 2 = 1
    · refine ⟨0, by omega, decide_eq_true ?_⟩
      rw [PyProof.Rows.bitAnd_m1, Int.pow_zero, Int.ediv_one]
      exact q
    · have e : (2 : Int) ^ (n + 1) = 2 ^ n * 2 := Int.pow_succ 2 n
      obtain ⟨k, hk, h⟩ := selB_ex n (idx / 2) (by omega) (by omega)
      refine ⟨k + 1, by omega, ?_⟩
      have e2 : idx / 2 ^ (k + 1) = idx / 2 / 2 ^ k := by
        rw [show (2 : Int) ^ (k + 1) = 2 * 2 ^ k by rw [Int.pow_succ, Int.mul_comm]]
        exact (Int.ediv_ediv_of_nonneg (by decide)).symm
      unfold selB
      rw [e2]
      exact h
theorem sel_ne {rows : List Arr} {idx : Int} (h1 : 1 ≤ idx) (h2 : idx < 2 ^ rows.length) : sel rows idx ≠ [] := by
  obtain ⟨k, hk, h⟩ := selB_ex _ idx h1 h2
  have key : ∀ m, k < m → selTo rows idx m ≠ [] := by
    intro m
    induction m with
    | zero => intro z; omega
    | succ m ih =>
      intro hm
      unfold selTo
      by_cases e : k = m
      · subst e
        rw [if_pos h, List.getElem?_eq_getElem hk]
        simp
      · intro z
        exact ih (by omega) (List.append_eq_nil_iff.mp z).1
  exact key _ hk
/-! ### the index sets that are rings -/
open Classical in
noncomputable def ringB (rows : List Arr) (idx : Int) : Bool := decide (∃ r, Ring (sel rows idx) r)
theorem ringB_t {rows : List Arr} {idx : Int} {r : List Arr} (h : Ring (sel rows idx) r) : ringB rows idx = true := by
  unfold ringB
  exact @decide_eq_true _ (Classical.propDecidable _) ⟨r, h⟩
theorem ringB_f {rows : List Arr} {idx : Int} (h : ∀ r, ¬ Ring (sel rows idx) r) : ringB rows idx = false := by
  unfold ringB
  exact @decide_eq_false _ (Classical.propDecidable _) fun ⟨r, z⟩ => h r z
noncomputable def circsTo (rows : List Arr) : Nat → List Int
  | 0 => []
  | i + 1 => circsTo rows i ++ (if ringB rows (1 + (i : Int)) = true then [1 + (i : Int)] else [])
noncomputable def circs (rows : List Arr) : List Int := circsTo rows (2 ^ rows.length - 1)
theorem circsTo_mem {rows : List Arr} : ∀ {n : Nat}, ∀ x ∈ circsTo rows n, 1 ≤ x ∧ x ≤ n
  | 0, x, h => by cases h
  | n + 1, x, h => by
    unfold circsTo at h
    rcases List.mem_append.mp h with z | z
    · have := circsTo_mem x z; omega
    · split at z
      · rw [List.mem_singleton.mp z]; omega
      · cases z
theorem circsTo_len {rows : List Arr} : ∀ n : Nat, (circsTo rows n).length ≤ n
  | 0 => Nat.le_refl _
  | n + 1 => by
    unfold circsTo
    rw [List.length_append]
    have := circsTo_len (rows := rows) n
    split
    · simp; omega
    · simp; omega
abbrev prD (p : Int × List Arr) : Dat := .tup [.int p.1, .lst (p.2.map fun a => .str a.1)]
def T_rings_of : NT := fun ρ Φ => ∃ rows : List Arr, ρ = [.dat (.tup (rows.map arrD))] ∧ rows.length ≤ 12 ∧ ∀ prs : List (Int × List Arr), prs.map (·.1) = circs rows → (∀ p ∈ prs, Ring (sel rows p.1) p.2) → Φ (prs.map prD)
/-! ### the table -/
def maxL : List Int → Int
  | [] => 0
  | x :: xs => max x (maxL xs)
theorem maxL_nn : ∀ xs, 0 ≤ maxL xs
  | [] => Int.le_refl _
  | x :: xs => by
    have := maxL_nn xs
    unfold maxL; omega
theorem maxL_le : ∀ {xs : List Int}, ∀ y ∈ xs, y ≤ maxL xs
  | [], y, h => by cases h
  | x :: xs, y, h => by
    unfold maxL
    rcases List.mem_cons.mp h with z | z
    · omega
    · have := maxL_le y z; omega
theorem maxL_mem : ∀ {xs : List Int}, maxL xs = 0 ∨ maxL xs ∈ xs
  | [] => .inl rfl
  | x :: xs => by
    unfold maxL
    rcases maxL_mem (xs := xs) with h | h
    · by_cases q : x ≤ 0
      · exact .inl (by omega)
      · exact .inr (by rw [show max x (maxL xs) = x by omega]; exact List.mem_cons_self)
    · by_cases q : x ≤ maxL xs
      · exact .inr (by rw [show max x (maxL xs) = maxL xs by omega]; exact List.mem_cons_of_mem _ h)
      · exact .inr (by rw [show max x (maxL xs) = x by omega]; exact List.mem_cons_self)
theorem max_is {xs : List Int} {m : Int} (h : m ∈ (0 : Int) :: xs) (h2 : ∀ y ∈ (0 : Int) :: xs, y ≤ m) : m = maxL xs := by
  have h0 : 0 ≤ m := h2 0 List.mem_cons_self
  have h1 : maxL xs ≤ m := by
    rcases maxL_mem (xs := xs) with q | q
    · omega
    · exact h2 _ (List.mem_cons_of_mem _ q)
  rcases List.mem_cons.mp h with z | z
  · have := maxL_nn xs; omega
  · have := maxL_le _ z; omega
/-- index & part == part -/
abbrev inB (idx p : Int) : Bool := decide (Builtin.bitAnd idx p = p)
def entry (rs : List Int) (l : List Int) (idx : Int) : Int := maxL ((rs.filter (inB idx)).map fun p => 1 + (l[(idx - p).toNat]?).getD 0)
def tabN (rs : List Int) : Nat → List Int
  | 0 => [0]
  | m + 1 => tabN rs m ++ [entry rs (tabN rs m) (1 + (m : Int))]
theorem tabN_len {rs : List Int} : ∀ m, (tabN rs m).length = m + 1
  | 0 => rfl
  | m + 1 => by
    unfold tabN
    rw [List.length_append, tabN_len m]; rfl
theorem inB_le {idx p : Int} (h0 : 0 ≤ idx) (hp : 0 ≤ p) (h : Builtin.bitAnd idx p = p) : p ≤ idx := by
  have := (PyProof.Rows.bitAnd_range p (y := idx) h0).2
  rw [PyProof.Rows.bitAnd_comm, h] at this
  exact this
def T_table_of : NT := fun ρ Φ => ∃ (prs : List (Int × List Arr)) (n : Nat), ρ = [.dat (.lst (prs.map prD)), .dat (.int (n : Int))] ∧ n ≤ 12 ∧ (∀ p ∈ prs, 1 ≤ p.1) ∧ prs.length ≤ 100000 ∧ Φ ((tabN (prs.map (·.1)) (2 ^ n - 1)).map Dat.int)
theorem pow12 {n : Nat} (h : n ≤ 12) : 1 ≤ (2 : Int) ^ n ∧ (2 : Int) ^ n ≤ 4096 ∧ ((2 : Int) ^ n - 1).toNat = 2 ^ n - 1 ∧ ((2 : Int) ^ n = ((2 ^ n : Nat) : Int)) := by
  have e : (2 : Int) ^ n = ((2 ^ n : Nat) : Int) := by rw [Int.natCast_pow]; rfl
  have h1 : 2 ^ n ≤ 2 ^ 12 := Nat.pow_le_pow_right (by decide) h
  have h2 : 0 < 2 ^ n := Nat.two_pow_pos n
  rw [e]
  omega
theorem cpow1 {j : Int} (h : 0 ≤ j) (h2 : j ≤ 12) : CPow 1 j := ⟨h, by omega, by decide⟩
theorem take_next {α : Type} {l : List α} {i : Nat} {a : α} (h : l[i]? = some a) : l.take (i + 1) = l.take i ++ [a] := by
  rw [List.take_add_one, h]; rfl
theorem selTo_t {rows : List Arr} {idx : Int} {k : Nat} {a : Arr} (h : Builtin.bitAnd (idx / 2 ^ k) 1 = 1) (ha : rows[k]? = some a) : selTo rows idx (k + 1) = selTo rows idx k ++ [a] := by
  show selTo rows idx k ++ (if selB idx k = true then (rows[k]?).toList else []) = _
  rw [if_pos (decide_eq_true h), ha]; rfl
theorem selTo_f {rows : List Arr} {idx : Int} {k : Nat} (h : ¬ Builtin.bitAnd (idx / 2 ^ k) 1 = 1) : selTo rows idx (k + 1) = selTo rows idx k := by
  show selTo rows idx k ++ (if selB idx k = true then (rows[k]?).toList else []) = _
  rw [if_neg (fun z => h (of_decide_eq_true z)), List.append_nil]
theorem circsTo_t {rows : List Arr} {i : Nat} (h : ringB rows (1 + (i : Int)) = true) : circsTo rows (i + 1) = circsTo rows i ++ [1 + (i : Int)] := by
  show circsTo rows i ++ (if ringB rows (1 + (i : Int)) = true then [1 + (i : Int)] else []) = _
  rw [if_pos h]
theorem circsTo_f {rows : List Arr} {i : Nat} (h : ringB rows (1 + (i : Int)) = false) : circsTo rows (i + 1) = circsTo rows i := by
  show circsTo rows i ++ (if ringB rows (1 + (i : Int)) = true then [1 + (i : Int)] else []) = _
  rw [if_neg (by rw [h]; exact Bool.false_ne_true), List.append_nil]
theorem tabN_succ {rs : List Int} {m : Nat} : tabN rs (m + 1) = tabN rs m ++ [entry rs (tabN rs m) (1 + (m : Int))] := rfl
theorem fil_t {α : Type} {p : α → Bool} {l : List α} {i : Nat} {a : α} (h : l[i]? = some a) (c : p a = true) : (l.take (i + 1)).filter p = (l.take i).filter p ++ [a] := by
  rw [take_next h, List.filter_append, List.filter_cons_of_pos c]; rfl
theorem fil_f {α : Type} {p : α → Bool} {l : List α} {i : Nat} {a : α} (h : l[i]? = some a) (c : ¬ p a = true) : (l.take (i + 1)).filter p = (l.take i).filter p := by
  rw [take_next h, List.filter_append, List.filter_cons_of_neg c]; simp
theorem inB_t {i p : Int} (h : Builtin.bitAnd i p = p) : inB i p = true := decide_eq_true h
theorem inB_f {i p : Int} (h : ¬ Builtin.bitAnd i p = p) : ¬ inB i p = true := fun z => h (of_decide_eq_true z)
theorem entry_mk {Φ : Dat → Prop} {rs l : List Int} {idx : Int} (h : Φ (.int (entry rs l idx))) : dMax [.lst ([Dat.int 0] ++ (((rs.filter (inB idx)).map fun p => 1 + (l[(idx - p).toNat]?).getD 0).map Dat.int))] Φ :=
  ⟨0 :: ((rs.filter (inB idx)).map fun p => 1 + (l[(idx - p).toNat]?).getD 0), rfl, by simp, fun m h1 h2 => by rw [max_is h1 h2]; exact h⟩
theorem atI_int {α : Type} {l : List α} {k : Int} {a : α} (h0 : 0 ≤ k) (h : l[k.toNat]? = some a) : atI l k = some a := by
  have := atI_nat h
  rwa [Int.toNat_of_nonneg h0] at this
/-! ### xs.index(x), texts -/
section
variable {g : Gm} {X : List Addr} {Y : Hp} {σ : L2.St} {ρ : List Sl} {H H' : Hp} {te : TE} {tr : TA}
theorem n_index {K : PySem.W.Frag} {X : Cx} (hK : X.K = K) : MtR X "list.index" (rIndex K) := hK ▸ mt_index
theorem eqV_str {a b : Str} : eqV (.str a) (.str b) = (a == b) := rfl
theorem ev_indexS {Φ : Dat → Prop} (h : EvS g te ρ fun x => ∃ ss : List Str, x = .lst (ss.map Dat.str) ∧ EvW g tr ρ fun as => ∃ (z : Str) (j : Nat), as = [.str z] ∧ ss[j]? = some z ∧ (∀ m, m < j → ss[m]? ≠ some z) ∧ Φ (.int j)) :
    EvC g (tBM g.K "list" (rIndex g.K) te tr) ρ Φ := fun X Y σ H Q R k =>
  h X Y σ H _ R fun x v H1 h1 n1 r1 => by
    obtain ⟨ss, rfl, h1⟩ := h1
    obtain ⟨a, xs, rfl, q1, q2⟩ := r1.lst_inv hid_p
    cases q2.strs_inv
    refine ⟨.inl ⟨rfl, _, SqL.of (hide_same _ _ q1)⟩, h1 X Y σ H1 _ (R.nx n1) fun as vs H2 h2 n2 r2 => ?_⟩
    obtain ⟨z, j, rfl, hj, hm, hf⟩ := h2
    cases r2 with
    | cons rz rn =>
      cases rn
      cases rz.str_inv
      have fl : (ss.map V.str).all flatV = true := by
        rw [List.all_map]
        exact List.all_eq_true.mpr fun _ _ => rfl
      refine ⟨a, ss.map V.str, .str z, j, .str z, rfl, rfl, SqL.of (hide_same _ _ (n2.hidp _ _ q1)), rfl, fl, by rw [List.getElem?_map, hj]; rfl, ?_, fun m z' hlt hz' => ?_, k _ _ H2 hf (n1.trans n2) (.int _)⟩
      · rw [eqV_str]; exact beq_self_eq_true z
      · obtain ⟨y, hy, rfl⟩ := map_get hz'
        rw [eqV_str]
        refine beq_eq_false_iff_ne.mpr fun e => hm m hlt ?_
        rw [hy, e]
end
/-- the trail that a row of boxes tells -/
structure TrailP (rows : List Arr) (plain : Bool) (r : List Arr) : Prop where
  sub : ∀ a ∈ r, a ∈ rows
  nd : (r.map (·.1)).Nodup
  ln : ∀ (i : Nat) (a b : Arr), r[i]? = some a → r[if i = 0 then r.length - 1 else i - 1]? = some b → b.2.2 = a.2.1
  bg : plain = true → (r.map (·.2.1)).Nodup
  ne : r ≠ []
def T_is_trail : DT := fun ρ Φ => ∃ (rows r : List Arr) (plain : Bool), ρ = [.dat (.lst (rows.map arrD)), .dat (.lst (r.map fun a => .str a.1)), .dat (.bl plain)] ∧ (rows.map (·.1)).Nodup ∧ rows.length ≤ 12 ∧ r.length ≤ 12 ∧ (∀ a ∈ r, a ∈ rows) ∧
  (TrailP rows plain r → Φ (.bl true)) ∧ (¬ TrailP rows plain r → Φ (.bl false))
/-- xs[k - 1], the last one for k = 0 -/
theorem atI_back {α : Type} {xs : List α} {k : Nat} {v : α} (hk : k < xs.length) (h : xs[if k = 0 then xs.length - 1 else k - 1]? = some v) : atI xs ((k : Int) - 1) = some v := by
  unfold atI
  by_cases q : k = 0
  · subst q
    rw [if_pos rfl] at h
    have e : ixN xs.length (((0 : Nat) : Int) - 1) = some (xs.length - 1) := by
      unfold ixN
      rw [if_neg (by omega), if_pos (by omega)]
      congr 1
      omega
    rw [e]; exact h
  · rw [if_neg q] at h
    have e : ixN xs.length ((k : Int) - 1) = some (k - 1) := by
      unfold ixN
      rw [if_pos (by omega), if_pos (by omega)]
      congr 1
      omega
    rw [e]; exact h
theorem index_of {rows : List Arr} (nd : (rows.map (·.1)).Nodup) {a : Arr} (h : a ∈ rows) : ∃ j : Nat, rows[j]? = some a ∧ (rows.map (·.1))[j]? = some a.1 ∧ ∀ m : Nat, m < j → (rows.map (·.1))[m]? ≠ some a.1 := by
  obtain ⟨j, hj, e⟩ := List.mem_iff_getElem.mp h
  have h1 : rows[j]? = some a := by rw [List.getElem?_eq_getElem hj, e]
  refine ⟨j, h1, by rw [List.getElem?_map, h1]; rfl, fun m hm z => ?_⟩
  obtain ⟨b, hb, e2⟩ := map_get z
  have := nodup_at (f := fun x : Arr => x.1) nd hb h1 e2.symm
  omega
theorem nodup_next {α : Type} {l : List α} {i : Nat} {a : α} (h : l[i]? = some a) (hn : (l.take i).Nodup) (hm : a ∉ l.take i) : (l.take (i + 1)).Nodup := by
  rw [take_next h, List.nodup_append]
  refine ⟨hn, by simp, fun x hx y hy e => ?_⟩
  rw [List.mem_singleton.mp hy] at e
  exact hm (e ▸ hx)
theorem nodup_not {α : Type} {l : List α} {i : Nat} {a : α} (h : l[i]? = some a) (hm : a ∈ l.take i) : ¬ l.Nodup := fun nd => by
  obtain ⟨j, hj, e⟩ := List.mem_iff_getElem.mp hm
  rw [List.length_take] at hj
  rw [List.getElem_take] at e
  have h1 := (List.getElem?_eq_some_iff.mp h)
  obtain ⟨h2, h3⟩ := h1
  exact List.pairwise_iff_getElem.mp nd j i (by omega) h2 (by omega) (by rw [e, h3])
theorem dSlL_to {ds : List Dat} {k : Nat} {Φ : List Dat → Prop} (h : Φ (ds.take k)) : dSlL (.lst ds) none (some (k : Int)) Φ := by
  show Φ _
  rw [HT.sIx_none, HT.sIx_nat, List.drop_zero, Nat.sub_zero]
  by_cases q : k ≤ ds.length
  · rw [Nat.min_eq_left q]; exact h
  · rw [Nat.min_eq_right (by omega), List.take_length]
    rwa [List.take_of_length_le (by omega)] at h
theorem dSlL_from {ds : List Dat} {k : Nat} {Φ : List Dat → Prop} (h : Φ (ds.drop k)) : dSlL (.lst ds) (some (k : Int)) none Φ := by
  show Φ _
  rw [HT.sIx_none, HT.sIx_nat]
  by_cases q : k ≤ ds.length
  · rw [Nat.min_eq_left q, List.take_of_length_le (by rw [List.length_drop]; omega)]; exact h
  · rw [Nat.min_eq_right (by omega), List.drop_length, List.take_nil]
    rwa [List.drop_of_length_le (by omega)] at h
theorem Ring.trail {S q : List Arr} (h : Ring S q) (nd : (S.map (·.1)).Nodup) (ne : S ≠ []) : TrailP S true q := by
  have hq : q ≠ [] := fun z => ne (List.eq_nil_of_length_eq_zero (by rw [← h.len, z]; rfl))
  have h0 : 0 < q.length := List.length_pos_iff.mpr hq
  have e0 := List.getElem?_eq_getElem h0
  have ln := h.ln _ e0
  refine ⟨h.sub, (h.perm.map (·.1)).nodup_iff.mpr nd, fun i a b h1 h2 => ?_, fun _ => h.bg, hq⟩
  by_cases z : i = 0
  · subst z
    rw [if_pos rfl] at h2
    rw [e0] at h1
    cases h1
    exact ln.la b h2
  · rw [if_neg z] at h2
    exact ln.st (i - 1) b a h2 (by rw [show i - 1 + 1 = i by omega]; exact h1)
theorem TrailP.ring {S r : List Arr} (h : TrailP S true r) (hl : r.length = S.length) (h0 : r[0]? = S[0]?) : Ring S r := by
  refine ⟨hl, h0, h.sub, h.bg rfl, fun a ha => ⟨fun i x y h1 h2 => ?_, fun b hb => ?_⟩⟩
  · exact h.ln (i + 1) y x h2 (by rw [if_neg (by omega), Nat.add_sub_cancel]; exact h1)
  · exact h.ln 0 a b ha (by rw [if_pos rfl]; exact hb)
/-! ### arrows compared -/
theorem NameS.strOk {z : Str} (h : NameS z) : PyData.strOk z = true := by
  unfold PyData.strOk
  rw [← Array.all_toList, List.all_eq_true]
  intro c hc
  have := NameL.all h c hc
  unfold sgn at this
  exact decide_eq_true (by omega)
abbrev ArrsOk (rows : List Arr) : Prop := ∀ a ∈ rows, ArrOk a
theorem shD_arr {a : Arr} (h : ArrOk a) : shD (arrD a) := ⟨rfl, by
  show (PyData.canLay0 (.tuple [.str a.1, .str a.2.1, .str a.2.2]) && decide (PyData.depth (.tuple [.str a.1, .str a.2.1, .str a.2.2]) ≤ 64)) = true
  simp [PyData.canLay0, PyData.canLayAll0, PyData.depth, PyData.depthAll, h.n1.strOk, h.n2.strOk, h.n3.strOk]⟩
theorem pyD_arr (a : Arr) : pyD (arrD a) = .tuple [.str a.1, .str a.2.1, .str a.2.2] := by simp [pyD, pyA]
theorem eqA_arrs : ∀ rows : List Arr, eqA (rows.map arrD) = true
  | [] => rfl
  | a :: rows => by
    show (eqD (arrD a) && eqA (rows.map arrD)) = true
    rw [eqA_arrs rows]
    simp [eqD, eqA]
theorem layA_arrs : ∀ rows : List Arr, ArrsOk rows → PyData.canLayAll0 (pyA (rows.map arrD)) = true ∧ PyData.depthAll (pyA (rows.map arrD)) ≤ 2
  | [], _ => by simp [pyA, PyData.canLayAll0, PyData.depthAll]
  | a :: rows, h => by
    obtain ⟨h1, h2⟩ := layA_arrs rows fun b hb => h b (List.mem_cons_of_mem _ hb)
    have ha := h a List.mem_cons_self
    rw [List.map_cons, pyA, pyD_arr]
    simp [PyData.canLay0, PyData.canLayAll0, PyData.depth, PyData.depthAll, h1, ha.n1.strOk, ha.n2.strOk, ha.n3.strOk]
    omega
theorem shD_arrs {rows : List Arr} (h : ArrsOk rows) : shD (.lst (rows.map arrD)) := ⟨by
  show eqA (rows.map arrD) = true
  exact eqA_arrs rows, by
  obtain ⟨h1, h2⟩ := layA_arrs rows h
  show (PyData.canLay0 (pyD (.lst (rows.map arrD))) && decide (PyData.depth (pyD (.lst (rows.map arrD))) ≤ 64)) = true
  rw [pyD]
  have h3 : PyData.depth (.list (pyA (rows.map arrD))) ≤ 64 := by
    rw [PyData.depth]; omega
  have h4 : PyData.canLay0 (.list (pyA (rows.map arrD))) = true := by
    rw [PyData.canLay0]; exact h1
  rw [h4, decide_eq_true h3]
  rfl⟩
theorem eqv_arr (a b : Arr) : PyData.eqv (pyD (arrD a)) (pyD (arrD b)) = decide (a = b) := by
  rw [pyD_arr, pyD_arr]
  obtain ⟨a1, a2, a3⟩ := a
  obtain ⟨b1, b2, b3⟩ := b
  simp only [PyData.eqv, PyData.eqvAll, Bool.and_true]
  by_cases h1 : a1 = b1
  · by_cases h2 : a2 = b2
    · by_cases h3 : a3 = b3
      · subst h1; subst h2; subst h3; simp
      · simp [h3]
    · simp [h2]
  · simp [h1]
theorem any_arr (rows : List Arr) (a : Arr) : ((pyA (rows.map arrD)).any fun z => PyData.eqv z (pyD (arrD a))) = decide (a ∈ rows) := by
  induction rows with
  | nil => simp [pyA]
  | cons b rows ih =>
    rw [List.map_cons, pyA, List.any_cons, eqv_arr, ih]
    by_cases h : b = a
    · subst h; simp
    · have h2 : ¬ a = b := fun z => h z.symm
      simp [h, h2]
theorem dNiD_arr {a : Arr} {rows : List Arr} {Φ : Dat → Prop} (ha : ArrOk a) (hr : ArrsOk rows) (h : Φ (.bl (!decide (a ∈ rows)))) : dInD true (arrD a) (.lst (rows.map arrD)) Φ := ⟨_, rfl, shD_arr ha, shD_arrs hr, by rw [any_arr]; exact h⟩
theorem dInD_arr {a : Arr} {rows : List Arr} {Φ : Dat → Prop} (ha : ArrOk a) (hr : ArrsOk rows) (h : Φ (.bl (decide (a ∈ rows)))) : dInD false (arrD a) (.lst (rows.map arrD)) Φ := ⟨_, rfl, shD_arr ha, shD_arrs hr, by rw [any_arr]; exact h⟩
theorem eqvA_arr : ∀ (xs ys : List Arr), PyData.eqvAll (pyA (xs.map arrD)) (pyA (ys.map arrD)) = decide (xs = ys)
  | [], [] => by simp [pyA, PyData.eqvAll]
  | [], b :: ys => by simp [pyA, PyData.eqvAll]
  | a :: xs, [] => by simp [pyA, PyData.eqvAll]
  | a :: xs, b :: ys => by
    rw [List.map_cons, List.map_cons, pyA, pyA, PyData.eqvAll, eqv_arr, eqvA_arr xs ys]
    by_cases h1 : a = b
    · by_cases h2 : xs = ys
      · simp [h1, h2]
      · simp [h2]
    · simp [h1]
theorem dNeD_arrs {xs ys : List Arr} {Φ : Dat → Prop} (hx : ArrsOk xs) (hy : ArrsOk ys) (h : Φ (.bl (!decide (xs = ys)))) : dEqD true (.lst (xs.map arrD)) (.lst (ys.map arrD)) Φ := ⟨shD_arrs hx, shD_arrs hy, by
  have e : PyData.eqv (pyD (.lst (xs.map arrD))) (pyD (.lst (ys.map arrD))) = decide (xs = ys) := by
    rw [pyD, pyD, PyData.eqv, eqvA_arr]
  rw [e]
  exact h⟩
section
variable {g : Gm} {ρ : List Sl} {t : TS} {E : DE}
theorem ds_forget (i : Nat) {d : Dat} (e : ρ[i]? = some (.dat d)) (h : DSt g t (ρ.set i .no) E) : DSt g t ρ E := fun X Y σ H D R M => by
  obtain ⟨v, h1, _⟩ := R.dat e
  have R1 := R.forget (i := i) (some v)
  rw [set_self h1] at R1
  exact h X Y σ H D R1 M
end
def T_circuit_sets : NT := fun ρ Φ => ∃ rows : List Arr, ρ = [.dat (.lst (rows.map arrD))] ∧ ArrsOk rows ∧ (rows.map (·.1)).Nodup ∧ rows.length ≤ 12 ∧ Φ ((circs rows).map Dat.int)
def T_web_table : NT := fun ρ Φ => ∃ rows : List Arr, ρ = [.dat (.lst (rows.map arrD))] ∧ ArrsOk rows ∧ (rows.map (·.1)).Nodup ∧ rows.length ≤ 12 ∧ Φ ((tabN (circs rows) (2 ^ rows.length - 1)).map Dat.int)
theorem sel_sub {rows : List Arr} {idx : Int} : ∀ a ∈ sel rows idx, a ∈ rows := fun a h => by
  obtain ⟨j, _, h, _⟩ := selTo_sub a h
  exact List.mem_of_getElem? h
theorem iteB0 {b : Bool} {A B : Prop} (h : b = false) (k : B) : if b = true then A else B := by subst h; exact iteF k
theorem iteB1 {b : Bool} {A B : Prop} (h : b = true) (k : A) : if b = true then A else B := by subst h; exact iteT k
theorem dTru_l {ds : List Dat} {Φ : Bool → Prop} (h : Φ (!ds.isEmpty)) : dTru (.lst ds) Φ := h
theorem dTru_t {ds : List Dat} {Φ : Bool → Prop} (h : Φ (!ds.isEmpty)) : dTru (.tup ds) Φ := h
end NW

/-! NwU: drawn webs. -/
namespace NW
open PySem PySem.Spec PyProof.Rows L2
abbrev nth (l : List Str) (i : Nat) : Str := (l[i]?).getD ⟨#[]⟩
theorem nth_at {l : List Str} {i : Nat} (h : i < l.length) : l[i]? = some (nth l i) := by
  unfold nth
  rw [List.getElem?_eq_getElem h]; rfl
theorem nth_mem {l : List Str} {i : Nat} (h : i < l.length) : nth l i ∈ l := List.mem_of_getElem? (nth_at h)
/-- the arrow of turn t of a ring r of places, of box n + t -/
def rgF (zs r : List Str) (n t : Nat) : Arr := (nth zs (n + t), nth r t, nth r ((t + 1) % r.length))
def rgL (zs r : List Str) (n : Nat) : Nat → List Arr
  | 0 => []
  | j + 1 => rgL zs r n j ++ [rgF zs r n j]
theorem rgL_eq (zs r : List Str) (n : Nat) : ∀ j, rgL zs r n j = (List.range j).map (rgF zs r n)
  | 0 => rfl
  | j + 1 => by
    rw [rgL, rgL_eq zs r n j, List.range_succ, List.map_append]; rfl
theorem rgL_len (zs r : List Str) (n j : Nat) : (rgL zs r n j).length = j := by rw [rgL_eq, List.length_map, List.length_range]
theorem begins_eq (zs r : List Str) (n : Nat) : (rgL zs r n r.length).map (·.2.1) = r := by
  rw [rgL_eq, List.map_map]
  refine List.ext_getElem (by rw [List.length_map, List.length_range]) fun i h1 h2 => ?_
  rw [List.getElem_map, List.getElem_range]
  show nth r i = r[i]
  unfold nth
  rw [List.getElem?_eq_getElem h2]; rfl
theorem ends_eq (zs r : List Str) (n : Nat) : (rgL zs r n r.length).map (·.2.2) = r.drop 1 ++ r.take 1 := by
  rw [rgL_eq, List.map_map]
  refine List.ext_getElem (by rw [List.length_map, List.length_range, List.length_append, List.length_drop, List.length_take]; omega) fun i h1 h2 => ?_
  rw [List.length_map, List.length_range] at h1
  rw [List.getElem_map, List.getElem_range]
  show nth r ((i + 1) % r.length) = _
  by_cases q : i + 1 < r.length
  · rw [Nat.mod_eq_of_lt q, List.getElem_append_left (by rw [List.length_drop]; omega), List.getElem_drop]
    unfold nth
    rw [List.getElem?_eq_getElem q]
    simp only [Nat.add_comm 1 i]
    rfl
  · have e : i + 1 = r.length := by omega
    rw [e, Nat.mod_self, List.getElem_append_right (by rw [List.length_drop]; omega), List.getElem_take]
    unfold nth
    rw [List.getElem?_eq_getElem (show 0 < r.length by omega)]
    have e2 : i - (r.drop 1).length = 0 := by rw [List.length_drop]; omega
    simp only [e2]
    rfl
theorem boxes_eq (zs r : List Str) (n j : Nat) (h : n + j ≤ zs.length) : (rgL zs r n j).map (·.1) = (zs.drop n).take j := by
  rw [rgL_eq, List.map_map]
  refine List.ext_getElem (by rw [List.length_map, List.length_range, List.length_take, List.length_drop]; omega) fun i h1 h2 => ?_
  rw [List.length_map, List.length_range] at h1
  rw [List.getElem_map, List.getElem_range, List.getElem_take, List.getElem_drop]
  show nth zs (n + i) = _
  unfold nth
  rw [List.getElem?_eq_getElem (show n + i < zs.length by omega)]; rfl
theorem begs_app (a b : List Arr) (p : Str) : begs (a ++ b) p = begs a p + begs b p := List.countP_append
theorem ends_app (a b : List Arr) (p : Str) : ends (a ++ b) p = ends a p + ends b p := List.countP_append
theorem begs_map (a : List Arr) (p : Str) : begs a p = (a.map (·.2.1)).countP fun x => decide (x = p) := by
  unfold begs
  rw [List.countP_map]; rfl
theorem ends_map (a : List Arr) (p : Str) : ends a p = (a.map (·.2.2)).countP fun x => decide (x = p) := by
  unfold ends
  rw [List.countP_map]; rfl
theorem rg_bal (zs r : List Str) (n : Nat) (p : Str) : begs (rgL zs r n r.length) p = ends (rgL zs r n r.length) p := by
  rw [begs_map, ends_map, begins_eq, ends_eq]
  have : (r.drop 1 ++ r.take 1).Perm r := by
    have := List.perm_append_comm (l₁ := r.drop 1) (l₂ := r.take 1)
    rwa [List.take_append_drop] at this
  exact (this.countP_eq _).symm
theorem nth_inj {l : List Str} (nd : l.Nodup) {i j : Nat} (hi : i < l.length) (hj : j < l.length) (e : nth l i = nth l j) : i = j := by
  have h1 := nth_at hi
  have h2 := nth_at hj
  refine nodup_at (f := fun x : Str => x) (by simpa using nd) h1 h2 e
/-- rows behind i rings: boxes come in their order -/
structure DrawnOk (zs : List Str) (many : Nat) (rows : List Arr) : Prop where
  ok : ArrsOk rows
  bx : rows.map (·.1) = zs.take rows.length
  bal : ∀ p, begs rows p = ends rows p
  le : rows.length ≤ many
theorem DrawnOk.web {zs : List Str} {many : Nat} {rows : List Arr} (h : DrawnOk zs many rows) (nd : zs.Nodup) : WebOk rows := ⟨h.ok, by rw [h.bx]; exact nd.sublist (List.take_sublist _ _), h.bal⟩
theorem DrawnOk.ring {zs r : List Str} {many : Nat} {rows : List Arr} (h : DrawnOk zs many rows) (hz : many ≤ zs.length) (nz : ∀ z ∈ zs, NameS z) (nr : ∀ z ∈ r, NameS z) (nd : r.Nodup) (h2 : 2 ≤ r.length) (hl : rows.length + r.length ≤ many) : DrawnOk zs many (rows ++ rgL zs r rows.length r.length) := by
  refine ⟨fun a ha => ?_, ?_, fun p => ?_, ?_⟩
  · rcases List.mem_append.mp ha with q | q
    · exact h.ok a q
    · rw [rgL_eq] at q
      obtain ⟨t, ht, rfl⟩ := List.mem_map.mp q
      have ht := List.mem_range.mp ht
      have hm : (t + 1) % r.length < r.length := Nat.mod_lt _ (by omega)
      refine ⟨nz _ (nth_mem (by omega)), nr _ (nth_mem ht), nr _ (nth_mem hm), fun e => ?_⟩
      have := nth_inj nd ht hm e
      by_cases q : t + 1 < r.length
      · rw [Nat.mod_eq_of_lt q] at this; omega
      · rw [show t + 1 = r.length by omega, Nat.mod_self] at this; omega
  · rw [List.map_append, h.bx, boxes_eq _ _ _ _ (by omega), List.length_append, rgL_len, ← List.take_append_drop rows.length zs]
    rw [List.take_append_drop]
    exact List.take_add.symm
  · rw [begs_app, ends_app, h.bal, rg_bal]
  · rw [List.length_append, rgL_len]; omega
def T_rows : NT := T_arrows
theorem filter_web {rows : List Arr} (ok : ∀ a ∈ rows, NameS a.1 ∧ NameS a.2.1 ∧ NameS a.2.2) (nd : (rows.map (·.1)).Nodup) (p : (rows.map (·.2.1)).Perm (rows.map (·.2.2))) : WebOk (rows.filter fun a => !decide (a.2.1 = a.2.2)) := by
  refine ⟨fun a ha => ?_, nd.sublist (List.Sublist.map _ List.filter_sublist), fun q => ?_⟩
  · obtain ⟨h1, h2⟩ := List.mem_filter.mp ha
    obtain ⟨x, y, z⟩ := ok a h1
    exact ⟨x, y, z, by simpa using h2⟩
  · have h1 := p.countP_eq (fun x => decide (x = q))
    rw [← begs_map, ← ends_map] at h1
    -- an arrow from a place to itself counts on both sides
    have key : ∀ l : List Arr, begs l q + ends (l.filter fun a => !decide (a.2.1 = a.2.2)) q = ends l q + begs (l.filter fun a => !decide (a.2.1 = a.2.2)) q := by
      intro l
      unfold begs ends
      induction l with
      | nil => rfl
      | cons a l ih =>
        by_cases c : a.2.1 = a.2.2
        · rw [List.filter_cons_of_neg (by simp [c]), List.countP_cons, List.countP_cons, c]
          omega
        · rw [List.filter_cons_of_pos (by simp [c]), List.countP_cons, List.countP_cons, List.countP_cons, List.countP_cons]
          omega
    have h2 := key rows
    omega
end NW

/-! NwM: the class of webs. -/
namespace NW
open PySem PySem.Spec PyProof.Rows L2
abbrev webF (rows : List Arr) : List (Str × Dat) := [("web_rows", .tup (rows.map arrD))]
abbrev webD (C : Addr) (rows : List Arr) : Dat := .ins C (webF rows)
/-- a web's rows: right, by their boxes in order -/
structure WebS (rows : List Arr) : Prop where
  ok : WebOk rows
  srt : sortedS (rows.map (·.1)) = true
  le : rows.length ≤ 12
def T_web_init : IT := fun ρ Φ => ∃ rows : List Arr, (ρ = [.dat (.lst (rows.map arrD))] ∨ ρ = [.dat (.tup (rows.map arrD))]) ∧ WebOk rows ∧ rows.length ≤ 12 ∧ ∀ rows', rows'.Perm rows → WebS rows' → Φ (webF rows')
def T_web_len (C : Addr) : DT := fun ρ Φ => ∃ rows : List Arr, ρ = [.dat (webD C rows)] ∧ Φ (.int rows.length)
def T_require_searchable (C : Addr) : DT := fun ρ Φ => ∃ rows : List Arr, ρ = [.dat (webD C rows)] ∧ rows.length ≤ 6 ∧ Φ .non
def T_web_tab (C : Addr) : NT := fun ρ Φ => ∃ rows : List Arr, ρ = [.dat (webD C rows)] ∧ WebS rows ∧ rows.length ≤ 6 ∧ Φ ((tabN (circs rows) (2 ^ rows.length - 1)).map Dat.int)
def T_web_most (C : Addr) : DT := fun ρ Φ => ∃ rows : List Arr, ρ = [.dat (webD C rows)] ∧ WebS rows ∧ rows.length ≤ 6 ∧ ∀ m, (tabN (circs rows) (2 ^ rows.length - 1))[2 ^ rows.length - 1]? = some m → Φ (.int m)
theorem noLA_arrs (rows : List Arr) : noLA (rows.map arrD) = true := by
  induction rows with
  | nil => rfl
  | cons a rows ih =>
    rw [List.map_cons, noLA, ih]
    simp [noL, noLA]
theorem noLF_web (rows : List Arr) : noLF (webF rows) = true := by
  simp [webF, noLF, noL, noLA_arrs]
/-- the rows that a sorted list of their boxes tells -/
theorem rows_of_boxes {rows : List Arr} : ∀ {ys : List Str}, ys.Perm (rows.map (·.1)) → ∃ rows' : List Arr, rows'.Perm rows ∧ rows'.map (·.1) = ys := fun {ys} h => by
  obtain ⟨rs, h1, h2⟩ := perm_map_inv h
  exact ⟨rs, h1, h2.symm⟩
theorem keys_kn (rows : List Arr) : (knD rows).map (·.1) = (rows.map (·.1)).map Sum.inr := by
  rw [List.map_map, List.map_map]; rfl
theorem vals_kn (rows : List Arr) : (knD rows).map (·.2) = rows.map arrD := by
  rw [List.map_map]; rfl
/-! ### sorted rows are the same rows -/
theorem leK_trans {a b c : Key} (h1 : ltK b a = false) (h2 : ltK c b = false) : ltK c a = false := by
  cases e : ltK c a with
  | false => rfl
  | true =>
    rcases ltK_tot h1 with q | q
    · subst q; rw [e] at h2; cases h2
    · have := ltK_trans e q
      rw [this] at h2; cases h2
abbrev leS (a b : Str) : Prop := ltK (.inr b) (.inr a) = false
theorem leS_of {a b : Str} (h : (!ltCps b.cps.toList a.cps.toList) = true) : leS a b := by
  show decide (b.cps.toList < a.cps.toList) = false
  rw [← ltCps_eq]
  simpa using h
theorem rising_pair : ∀ {l : List Str} {p : Str}, risingS p l = true → (p :: l).Pairwise leS
  | [], p, _ => by simp
  | x :: r, p, h => by
    unfold risingS at h
    rw [Bool.and_eq_true] at h
    have ih := rising_pair h.2
    have hx := leS_of h.1
    rw [List.pairwise_cons]
    refine ⟨fun y hy => ?_, ih⟩
    rcases List.mem_cons.mp hy with z | z
    · rw [z]; exact hx
    · exact leK_trans hx ((List.pairwise_cons.mp ih).1 y z)
theorem sortedS_pair {l : List Str} (h : sortedS l = true) : l.Pairwise leS := by
  cases l with
  | nil => exact List.Pairwise.nil
  | cons x r => exact rising_pair h
theorem rows_uniq : ∀ {xs ys : List Arr}, xs.Perm ys → (xs.map (·.1)).Nodup → xs.Pairwise (fun a b => leS a.1 b.1) → ys.Pairwise (fun a b => leS a.1 b.1) → xs = ys
  | [], ys, p, _, _, _ => (List.nil_perm.mp p).symm
  | a :: xs, [], p, _, _, _ => by have := p.length_eq; cases this
  | a :: xs, b :: ys, p, nd, h1, h2 => by
    have e : a = b := by
      by_cases q : a = b
      · exact q
      · have ha : a ∈ ys := by
          rcases List.mem_cons.mp (p.mem_iff.mp List.mem_cons_self) with z | z
          · exact absurd z q
          · exact z
        have hb : b ∈ xs := by
          rcases List.mem_cons.mp (p.mem_iff.mpr List.mem_cons_self) with z | z
          · exact absurd z.symm q
          · exact z
        have l1 := (List.pairwise_cons.mp h1).1 b hb
        have l2 := (List.pairwise_cons.mp h2).1 a ha
        rcases ltK_tot l1 with z | z
        · have z' : a.1 = b.1 := Sum.inr.inj z
          rw [List.map_cons, List.nodup_cons] at nd
          exact absurd (List.mem_map.mpr ⟨b, hb, z'.symm⟩) nd.1
        · rw [show ltK (.inr a.1) (.inr b.1) = false from l2] at z; cases z
    subst e
    rw [List.map_cons, List.nodup_cons] at nd
    rw [rows_uniq ((List.perm_cons a).mp p) nd.2 (List.pairwise_cons.mp h1).2 (List.pairwise_cons.mp h2).2]
abbrev rowK (a : Arr) : List Key := [.inr a.1, .inr a.2.1, .inr a.2.2]
theorem rowD_arr (rows : List Arr) : rows.map arrD = (rows.map rowK).map rowD := by
  rw [List.map_map]; rfl
/-- sorted(arrows) is the web's rows -/
theorem dSortedT_arr {rows rs : List Arr} {Φ : List Dat → Prop} (p : rs.Perm rows) (h : WebS rs) (k : Φ (rs.map arrD)) : dSortedT [.lst (rows.map arrD)] Φ := by
  refine ⟨rows.map rowK, false, [false, false], rowD_arr rows, fun r hr => ?_, fun rows' p' hs => ?_⟩
  · obtain ⟨a, _, rfl⟩ := List.mem_map.mp hr; rfl
  · obtain ⟨ys, p2, rfl⟩ := perm_map_inv p'
    have nd : (ys.map (·.1)).Nodup := ((p2.trans p.symm).map (·.1)).nodup_iff.mpr h.ok.nd
    have e : ys = rs := by
      refine rows_uniq (p2.trans p.symm) nd ?_ ?_
      · rw [List.pairwise_map] at hs
        refine List.Pairwise.imp_of_mem (fun {a b} ha hb hab => ?_) (List.pairwise_map.mp (show (ys.map (·.1)).Pairwise (· ≠ ·) from nd) |>.and hs)
        obtain ⟨hne, hl⟩ := hab
        unfold lexK at hl
        rw [if_neg (fun z => hne (Sum.inr.inj z).symm)] at hl
        exact hl
      · have := sortedS_pair h.srt
        rwa [List.pairwise_map] at this
    rw [e, ← rowD_arr]
    exact k
def T_law_web (C : Addr) : DT := fun ρ Φ => ∃ rows : List Arr, ρ = [.sto, .dat (.lst (rows.map arrD))] ∧ WebOk rows ∧ rows.length ≤ 12 ∧ ∀ rs, rs.Perm rows → WebS rs → Φ (webD C rs)
def T_asked (C : Addr) : DT := fun ρ Φ => ∃ rows rs : List Arr, ρ = [.dat (webD C rs), .dat (.lst (rows.map arrD))] ∧ rs.Perm rows ∧ WebS rs ∧ rs.length ≤ 6 ∧ Φ (.bl true)
theorem okA_ints : ∀ ns : List Int, okA (ns.map Dat.int) = true
  | [] => rfl
  | n :: ns => by
    show (okD (.int n) && okA (ns.map Dat.int)) = true
    rw [okA_ints ns]; rfl
theorem dptA_ints : ∀ ns : List Int, dptA (ns.map Dat.int) = 0
  | [] => rfl
  | n :: ns => by
    show max (dpt (.int n)) (dptA (ns.map Dat.int)) = 0
    rw [dptA_ints ns]; rfl
theorem okD_ints {ns : List Int} (h : ns.length ≤ sizeLine) : okD (.lst (ns.map Dat.int)) = true := by
  unfold okD
  rw [okA_ints, List.length_map, decide_eq_true h]; rfl
theorem dpt_ints (ns : List Int) : dpt (.lst (ns.map Dat.int)) = 1 := by
  unfold dpt
  rw [dptA_ints]
end NW

/-! NwX: exceptions over data: what a def may raise, its call, raise, try .. except .. as e. -/
namespace NW
open PySem PySem.Spec PyProof.Rows L2
def tMethX (C : Addr) (m : Str) (sp : Sp) (E : L2.St → XK) (ta : TE) (t : TA) : TE := fun σ H Q => ta σ H fun x H1 => ∃ a dx fs, x = .ref a ∧ H1 a = some (.ins C dx fs) ∧ fs.lookup m = none ∧ t σ H1 fun vs H2 => sp (x :: vs) H2 Q (E σ)
/-- of the slots: the wanted of an answer, of an exception (its class, its fields) -/
abbrev XT := List Sl → (Dat → Prop) → (Addr → List (Str × Dat) → Prop) → Prop
def spX (K : PySem.W.Frag) (T : XT) : Sp := fun vs H Q E => ∃ (st : List (Addr × Addr)) (X : List Addr) (ρ : List Sl) (Φ : Dat → Prop) (Ξ : Addr → List (Str × Dat) → Prop), RS ⟨K, st⟩ X (hide (Gm.pr ⟨K, st⟩) H) (vs.map some) H ρ ∧ T ρ Φ Ξ ∧
  (∀ d v H', Φ d → Nx ⟨K, st⟩ H H' → Rp K (hide (X ++ Gm.pr ⟨K, st⟩) H') v d → Q v H') ∧
  ∀ C fs d xs H', Ξ C fs → Nx ⟨K, st⟩ H H' → H d = none → H' d = some (.xd xs) → RpF K (hide (X ++ Gm.pr ⟨K, st⟩) H') xs fs → E (.ref C) (some d) H'
/-- where an exception goes -/
def MsW (g : Gm) (X : List Addr) (Y : Hp) (W : WX) (Ξ : Addr → List (Str × Dat) → List Sl → Prop) : Prop :=
  ∀ C fs d xs σ H ρ, Ξ C fs ρ → RS g X Y σ H ρ → Y d = none → (hid g X σ ρ H) d = some (.xd xs) → RpF g.K (hid g X σ ρ H) xs fs → W (.ref C) (some d) σ H
def DStW (g : Gm) (t : WX → TS) (ρ : List Sl) (E : DE) (Ξ : Addr → List (Str × Dat) → List Sl → Prop) : Prop := ∀ X Y σ H (D : Ends) (W : WX), RS g X Y σ H ρ → Ms g X Y D E → MsW g X Y W Ξ → t W D σ H
def EvX (g : Gm) (te : WX → TE) (ρ : List Sl) (Φ : Dat → Prop) (Ξ : Addr → List (Str × Dat) → Prop) : Prop := ∀ X Y σ H (Q : VK) (W : WX), RS g X Y σ H ρ → (∀ d v H', Φ d → Nx g H H' → Rp g.K (hid g X σ ρ H') v d → Q v H') →
  (∀ C fs d xs H', Ξ C fs → Nx g H H' → H d = none → H' d = some (.xd xs) → RpF g.K (hid g X σ ρ H') xs fs → W (.ref C) (some d) σ H') → te W σ H Q
section
variable {g : Gm} {X : List Addr} {Y : Hp} {σ : L2.St} {ρ : List Sl} {H H' : Hp} {te ta tb tc : TE} {tr : TA} {t u : WX → TS} {E : DE} {D : Ends} {Ξ : Addr → List (Str × Dat) → List Sl → Prop}
theorem dw_of {t : TS} (h : DSt g t ρ E) : DStW g (fun _ => t) ρ E Ξ := fun X Y σ H D W R M _ => h X Y σ H D R M
theorem dw_seq (h : DStW g t ρ { E with nx := fun ρ' => DStW g u ρ' E Ξ } Ξ) : DStW g (fun W => tSeq (t W) (u W)) ρ E Ξ := fun X Y σ H D W R M N =>
  h X Y σ H { D with nx := u W D } W R ⟨fun σ H ρ hu R' => hu X Y σ H D W R' M N, M.rt, M.rn, M.bk, M.ct, M.rs⟩ N
theorem dw_if {c : TT} (h : EvT g c ρ fun b => if b = true then DStW g t ρ E Ξ else DStW g u ρ E Ξ) : DStW g (fun W => tIfS c (t W) (u W)) ρ E Ξ := fun X Y σ H D W R M N =>
  h X Y σ H _ R fun b H1 hb n1 => by
    cases b with
    | true => exact iteT ((by simpa using hb : DStW g t ρ E Ξ) X Y σ H1 D W (R.nx n1) M N)
    | false => exact iteF ((by simpa using hb : DStW g u ρ E Ξ) X Y σ H1 D W (R.nx n1) M N)
theorem dw_drop {te : WX → TE} (h : EvX g te ρ (fun _ => E.nx ρ) fun C fs => Ξ C fs ρ) : DStW g (fun W => tDrop (te W)) ρ E Ξ := fun X Y σ H D W R M N =>
  h X Y σ H _ W R (fun d v H1 hd n1 r1 => M.nx σ H1 ρ hd (R.nx n1)) fun C fs d xs H1 hx n1 hd he rf => N C fs d xs σ H1 ρ hx (R.nx n1) (R.yn hd) ((hide_out (R.new hd)).trans he) rf
theorem dw_ret {te : WX → TE} (h : EvX g te ρ (fun d => E.rt d ρ) fun C fs => Ξ C fs ρ) : DStW g (fun W => tRet (te W)) ρ E Ξ := fun X Y σ H D W R M N =>
  h X Y σ H _ W R (fun d v H1 hd n1 r1 => M.rt d v σ H1 ρ hd (R.nx n1) (r1.mn hid_r)) fun C fs d xs H1 hx n1 hd he rf => N C fs d xs σ H1 ρ hx (R.nx n1) (R.yn hd) ((hide_out (R.new hd)).trans he) rf
theorem dw_asg {i : Nat} {te : WX → TE} (h : EvX g te ρ (fun d => E.nx (ρ.set i (.dat d))) fun C fs => Ξ C fs ρ) : DStW g (fun W => tAsg (te W) (gName i)) ρ E Ξ := fun X Y σ H D W R M N =>
  h X Y σ H _ W R (fun d v H1 hd n1 r1 => M.nx _ H1 _ hd ((R.nx n1).setD r1)) fun C fs d xs H1 hx n1 hd he rf => N C fs d xs σ H1 ρ hx (R.nx n1) (R.yn hd) ((hide_out (R.new hd)).trans he) rf
/-- f(..) -/
theorem ex_call {T : XT} {Φ : Dat → Prop} {Ψ : Addr → List (Str × Dat) → Prop} (h : EvP g tr ρ fun πs => T πs Φ Ψ) : EvX g (fun W => tCallS (spX g.K T) (WE W) tr) ρ Φ Ψ := fun X Y σ H Q W R k kx =>
  h X Y σ H _ R fun πs vs H1 hT n1 r1 => ⟨g.st, X ++ owned σ ρ, πs, Φ, Ψ, call_rs (R.nx n1) r1, hT, fun d v H' hd n2 r2 => k d v H' hd (n1.trans n2) (r2.mn back_mono),
    fun C fs d xs H' hx n2 hd he rf => kx C fs d xs H' hx (n1.trans n2) (nx_none R n1 hd) he (RpF.mono back_mono _ _ rf)⟩
/-- x.m(..) -/
theorem ex_meth {C : Addr} {m : Str} {T : XT} {Φ : Dat → Prop} {Ψ : Addr → List (Str × Dat) → Prop} (h : EvC g ta ρ fun x => ∃ fs, x = .ins C fs ∧ fs.lookup m = none ∧ EvP g tr ρ fun πs => T (.dat x :: πs) Φ Ψ) : EvX g (fun W => tMethX C m (spX g.K T) (WE W) ta tr) ρ Φ Ψ := fun X Y σ H Q W R k kx =>
  h X Y σ H _ R fun dx x H1 h1 n1 r1 => by
    obtain ⟨fs, rfl, hl, hf⟩ := h1
    have r1' := r1
    cases r1 with
    | ins ha r =>
      rename_i a dx xs
      rcases r.look (f := m) with ⟨_, z⟩ | ⟨d', v, z1, z2, z3⟩
      · refine ⟨a, dx, xs, rfl, (hide_some ha).2, z, ?_⟩
        refine hf X Y σ H1 _ (R.nx n1) fun πs vs H2 hT n2 r2 => ?_
        have n12 := n1.trans n2
        exact ⟨g.st, X ++ owned σ ρ, .dat (.ins C fs) :: πs, Φ, Ψ, call_rs ((R.nx n1).nx n2) (.dat (r1'.mn n2.hid) r2), hT, fun d v H' hd n3 r3 => k d v H' hd (n12.trans n3) (r3.mn back_mono),
          fun C fs d xs H' hx n3 hd he rf => kx C fs d xs H' hx (n12.trans n3) (nx_none R n12 hd) he (RpF.mono back_mono _ _ rf)⟩
      · rw [hl] at z1; cases z1
/-- e[k], e raising -/
theorem ex_ix {te : WX → TE} {Φ : Dat → Prop} {Ψ : Addr → List (Str × Dat) → Prop} (h : EvX g te ρ (fun _ => False) Ψ) : EvX g (fun W => tOp (rIx g.K) (te W) tb) ρ Φ Ψ := fun X Y σ H Q W R k kx =>
  h X Y σ H _ W R (fun d v H1 hd => hd.elim) kx
end
section
variable {P : Program} {w : World} {K : PySem.W.Frag} {mg : Str → Option Value} {base : Heap} {x qual : Str} {params : Arguments} {body : List Stmt} {scope : Scope} {f : Addr} {fd : FuncData} {N ps : List Str} {k : Nat}
theorem fn_X {T : XT} (F : FunD K x qual params body scope [] [] f fd) (S : FnScope N ps scope) (hl : ∀ ρ Φ Ξ, T ρ Φ Ξ → ρ.length = ps.length)
    (hb : ∀ (cdv : Value) (A : Around) (outer : List Env) (s : Shared) (H : Hp) (E : XK), Room k (A.deeper (envOfC qual scope s.heap.objs.size f cdv)) →
      ∃ t : WX → TS, (∀ W, L2N.Takes (cxOf (L2N.CX P w) P w K mg base N qual scope f cdv A outer s H E) W → PSs (cxOf (L2N.CX P w) P w K mg base N qual scope f cdv A outer s H E) body (t W)) ∧ ∀ st ρ Φ Ξ, T ρ Φ Ξ → DStW ⟨K, st⟩ t (ρ ++ List.replicate (N.length - ps.length) .no) { nx := fun _ => Φ .non, rt := fun d _ => Φ d, rn := fun ds _ => Φ (.lst ds) } fun C fs _ => Ξ C fs) :
    FnOk P w K mg base (L2N.CX P w) (k + 1) f fd ps (spX K T) := by
  have len : ∀ vs H Q E, spX K T vs H Q E → vs.length = ps.length := fun vs H Q E h => by
    obtain ⟨st, X, ρ, Φ, Ξ, R, hT, _⟩ := h
    rw [← hl ρ Φ Ξ hT, ← R.sl.len, List.length_map]
  refine F.ok S len fun cdv A outer s H vs Q E hr h => ?_
  obtain ⟨t, ht, hd⟩ := hb cdv A outer s H E hr
  refine ⟨t fun cls d _ H => E cls d H, ht _ (L2N.takes_of rfl rfl rfl rfl), ?_⟩
  have lv := len vs H Q E h
  obtain ⟨st, X, ρ, Φ, Ξ, R, hT, hQ, hX⟩ := h
  have R1 := R.pad (n := N.length - ps.length)
  rw [start_eq, lv]
  refine hd st ρ Φ Ξ hT X _ _ H _ _ R1 ⟨fun σ H' ρ' e R' => ?_, fun d v σ H' ρ' e R' r => ?_, fun ds p xs σ H' ρ' e R' hp np hx r _ => ?_, fun _ _ _ e => e.elim, fun _ _ _ e => e.elim, fun _ _ _ _ _ e => e.elim⟩ fun C fs d xs σ H' ρ' hx R' hd he rf => ?_
  · exact hQ .non .non H' e ⟨fun b o q nb => R'.sy b o ((hide_out nb).trans q), R'.st⟩ .non
  · exact hQ d v H' e ⟨fun b o q nb => R'.sy b o ((hide_out nb).trans q), R'.st⟩ r
  · exact hQ _ _ H' e ⟨fun b o q nb => R'.sy b o ((hide_out nb).trans q), R'.st⟩ (.lst ((hide_out np).trans hx) (r.mn (hide_mono fun b hb => List.mem_cons_of_mem _ hb)))
  · have he := (hide_some he).2
    refine hX C fs d xs H' hx ⟨fun b o q nb => R'.sy b o ((hide_out nb).trans q), R'.st⟩ ?_ he (RpF.mono hid_r _ _ rf)
    by_cases q : d ∈ Gm.pr ⟨K, st⟩
    · exfalso
      obtain ⟨p, hp, z⟩ := pr_mem.mp q
      obtain ⟨cs, i, lf, sm, seed, turn, h1, h2, _⟩ := R'.st p hp
      rcases z with z | z
      · rw [z, h1] at he; cases he
      · rw [z, h2] at he; cases he
    · rw [hide_out q] at hd; exact hd
end
/-! ### calls -/
/-- a def of the top, a method that may raise -/
structure CalX (P : Program) (w : World) (K : PySem.W.Frag) (mg : Str → Option Value) (base : Heap) (k : Nat) (x : Str) (ps : List Str) (sp : Sp) : Prop where
  ex : ∃ f fd, mg x = some (.ref f) ∧ PySem.W.keepIn K (.ref f) = true ∧ Binds K fd ps [] ∧ FnOk P w K mg base (L2N.CX P w) k f fd ps sp
structure CalMX (P : Program) (w : World) (K : PySem.W.Frag) (mg : Str → Option Value) (base : Heap) (k : Nat) (C : Addr) (m : Str) (ps : List Str) (sp : Sp) : Prop where
  cl : Cls K C
  ex : ∃ f fd, Meth K C m f ∧ Binds K fd ps [] ∧ FnOk P w K mg base (L2N.CX P w) k f fd ps sp
section
variable {X : Cx} {k : Nat} {C : Addr} {ps : List Str} {sp : Sp} {x m : Str} {p pos apos : Pos} {e o : Expr} {es : List Expr} {ta : TE} {t : TA} {W : WX}
theorem px_cal (c : CalX X.prog X.w X.K X.mg X.base k x ps sp) (tk : L2N.Takes X W) (hr : Room k X.A) (hg : Gl X x) (ha : PA X (e :: es) t) (hdb : (x == ("__debug__" : Str)) = false := by decide) (he : starEach (e :: es) X.env = (false, eval e X.env) :: starEach es X.env := by rfl) (hpl : (backTo pos (starEach es X.env)).any (·.1) = false := by rfl) :
    PE X (.Call (.Name x p) (e :: es) [] pos) (tCallS sp (WE W) t) := by
  obtain ⟨f, fd, a, b, c, d⟩ := c.ex
  exact pe_callS d hr hg a b c (fun σ => L2N.passAt tk σ) ha hdb he hpl
theorem px_meth0 {pl : Sem Bool} (c : CalMX X.prog X.w X.K X.mg X.base k C m ps sp) (tk : L2N.Takes X W) (hr : Room k X.A) (he : PE X o ta)
    (ht : eval (.Call (.Attribute o m apos) [] [] pos) X.env = (do
      let ov ← eval o X.env
      standAt apos.atName
      let (f, first) ← holding [ov] (getMethod ov m pl)
      callWith pos f first (backTo pos (starEach [] X.env)) (backToKw pos (keywordEach [] X.env))) := by rfl) :
    PE X (.Call (.Attribute o m apos) [] [] pos) (tMethX C m sp (WE W) ta tNil) := by
  obtain ⟨f, fd, hm, hb, F⟩ := c.ex
  refine ⟨fun pins s σ H Q I h => ?_⟩
  refine PySem.W.methodCall_KW (pl := pl) (thn (he.run pins s σ H _ I h) fun u s1 ⟨x, H1, I1, rx, a, dx, fs, ex, ea, l, q⟩ => ?_) ht
  subst ex
  obtain rfl : u = Value.ref a := rx
  refine getmeth_ok I1 ea c.cl hm l ?_
  exact PySem.W.callWith_K0 (first := [.ref a]) I1.kIn hm.kp (run_fnS (us := [.ref a]) (vs := [.ref a]) F hr hb (L2N.passAt tk σ) I1 (.cons rfl .nil) q)
end
end NW

/-! NwY: own exceptions with one, two fields: made, raised. -/
namespace NW
open PySem PySem.Spec PyProof.Rows L2
/-- __init__(self, x): self.f = x -/
def spEx1 (C : Addr) (f : Str) : Sp := fun vs H Q E => ∃ (a : Addr) (x : V), vs = [.ref a, x] ∧ H a = some (exo a C none) ∧ ∀ dx, H dx = none → dx ≠ a → Q .non (upd (upd H dx (exd dx [(f, x)])) a (exo a C (some dx)))
/-- __init__(self, x, y): self.f = x; self.h = y -/
def spEx2 (C : Addr) (f h : Str) : Sp := fun vs H Q E => ∃ (a : Addr) (x y : V), vs = [.ref a, x, y] ∧ H a = some (exo a C none) ∧ ∀ dx, H dx = none → dx ≠ a → Q .non (upd (upd (upd H dx (exd dx [(f, x)])) a (exo a C (some dx))) dx (exd dx [(h, y), (f, x)]))
section
variable {P : Program} {w : World} {K : PySem.W.Frag} {mg : Str → Option Value} {base : Heap} {x qual : Str} {params : Arguments} {body : List Stmt} {scope : Scope} {f C : Addr} {fd : FuncData} {N ps : List Str} {f1 f2 : Str}
theorem fn_Ex2 (F : FunD K x qual params body scope [] [] f fd) (S : FnScope N ps scope) (hN : N = ps) (hps : ps.length = 3) (T : OexC K C) (n1 : PySem.W.findIn K (.ref C) f1 = some none) (n2 : PySem.W.findIn K (.ref C) f2 = some none)
    (hb : ∀ (cdv : Value) (A : Around) (outer : List Env) (s : Shared) (H : Hp) (E : XK), PSs (cxOf CX0 P w K mg base N qual scope f cdv A outer s H E).nox body (tSeq (tOst K f1 (tVar 0) (tVar 1)) (tOst K f2 (tVar 0) (tVar 2)))) :
    FnOk P w K mg base CX0 1 f fd ps (spEx2 C f1 f2) := by
  have len : ∀ vs H Q E, spEx2 C f1 f2 vs H Q E → vs.length = ps.length := fun vs H Q E h => by
    obtain ⟨a, x, y, rfl, _⟩ := h
    rw [hps]; rfl
  refine F.ok S len fun cdv A outer s H vs Q E hr h => ⟨_, PSs.nox (hb cdv A outer s H E), ?_⟩
  obtain ⟨a, x, y, rfl, ha, k⟩ := h
  rw [start_eq, hN, hps]
  refine ⟨_, rfl, _, rfl, a, C, rfl, T, n1, .inl ⟨ha, fun dx hd hne => ?_⟩⟩
  refine ⟨_, rfl, _, rfl, a, C, rfl, T, n2, .inr ⟨dx, _, upd_same, ?_, ?_, k dx hd hne⟩⟩
  · rw [upd_ne hne, upd_same]
  · show 1 ≤ 900; decide
theorem fn_Ex1 (F : FunD K x qual params body scope [] [] f fd) (S : FnScope N ps scope) (hN : N = ps) (hps : ps.length = 2) (T : OexC K C) (n1 : PySem.W.findIn K (.ref C) f1 = some none)
    (hb : ∀ (cdv : Value) (A : Around) (outer : List Env) (s : Shared) (H : Hp) (E : XK), PSs (cxOf CX0 P w K mg base N qual scope f cdv A outer s H E).nox body (tOst K f1 (tVar 0) (tVar 1))) :
    FnOk P w K mg base CX0 1 f fd ps (spEx1 C f1) := by
  have len : ∀ vs H Q E, spEx1 C f1 vs H Q E → vs.length = ps.length := fun vs H Q E h => by
    obtain ⟨a, x, rfl, _⟩ := h
    rw [hps]; rfl
  refine F.ok S len fun cdv A outer s H vs Q E hr h => ⟨_, PSs.nox (hb cdv A outer s H E), ?_⟩
  obtain ⟨a, x, rfl, ha, k⟩ := h
  rw [start_eq, hN, hps]
  exact ⟨_, rfl, _, rfl, a, C, rfl, T, n1, .inl ⟨ha, fun dx hd hne => k dx hd hne⟩⟩
end
/-- an exception class of the program that may be made -/
structure CalE (P : Program) (w : World) (K : PySem.W.Frag) (mg : Str → Option Value) (base : Heap) (k : Nat) (x : Str) (C : Addr) (ps : List Str) (sp : Sp) : Prop where
  ox : OexC K C
  ex : ∃ f fd, mg x = some (.ref C) ∧ PySem.W.findIn K (.ref C) "__init__" = some (some (.ref f)) ∧ PySem.W.typeIn K (.ref f) = some (.type "function") ∧ Binds K fd ps [] ∧ FnOk P w K mg base CX0 k f fd ps sp
/-- C(e, ..), C's own __init__ keeping sp: its context is None -/
theorem pmk_oexN {X : Cx} {x : Str} {e : Expr} {es : List Expr} {ta : TA} {p pos : Pos} {C fI : Addr} {k : Nat} {fd : FuncData} {ps : List Str} {sp : Sp} (T : OexC X.K C) (iC : PySem.W.findIn X.K (.ref C) "__init__" = some (some (.ref fI))) (tI : PySem.W.typeIn X.K (.ref fI) = some (.type "function"))
    (F1 : FnOk X.prog X.w X.K X.mg X.base CX0 k fI fd ps sp) (hr : Room (k + 1) X.A) (hb : Binds X.K fd ps []) (hg : Gl X x) (hm : X.mg x = some (.ref C)) (ha : PA X (e :: es) ta)
    (hdb : (x == ("__debug__" : Str)) = false := by decide) (he : starEach (e :: es) X.env = (false, eval e X.env) :: starEach es X.env := by rfl) (hpl : (backTo pos (starEach es X.env)).any (·.1) = false := by rfl) :
    L2N.PMk X (.Call (.Name x p) (e :: es) [] pos) (tMkO C sp [] ta) := by
  intro pins s σ H Q I h
  obtain ⟨nm, q, N, bs, bm, sn, sub, ab, col, dd, k0, k1, k2, k3, k5, hC, hbm⟩ := T.cls
  refine wpAny_Call_Name_kw (ld_glob I hg hm ?_ hdb)
  refine PySem.W.callWith_K (h₀ := X.base) I.ok.mod.kin T.kC (thn (ha.run pos pins s σ H _ I h) fun us s1 ⟨vs, H1, I1, r1, hz, q1⟩ => ⟨I1.kIn, ?_⟩) he hpl
  show wpAny _ _ (call (.ref C) us) _ _ _
  obtain ⟨hp, g, dr, tk, os⟩ := s1
  have hsz : hp.objs.size ≤ hp.objs.size + 1 := Nat.le_succ _
  have hn : H1 (hp.objs.size + 1) = none := I1.hok.fresh hsz
  have hq := q1 (hp.objs.size + 1) hn
  rw [List.append_nil] at hq
  have kk : ∀ b o, hp.get? b = some o → ((hp.push (PySem.W.kdv_tup us)).push (PySem.HandSPX.excO C hp.objs.size)).get? b = some o := fun b o e => Heap.get?_push_of_some _ (Heap.get?_push_of_some _ e)
  have hget : ((hp.push (PySem.W.kdv_tup us)).push (PySem.HandSPX.excO C hp.objs.size)).get? (hp.objs.size + 1) = some (PySem.HandSPX.excO C hp.objs.size) := by heap_get
  have I2 : Inv X pins σ (upd H1 (hp.objs.size + 1) (exo (hp.objs.size + 1) C none)) ⟨(hp.push (PySem.W.kdv_tup us)).push (PySem.HandSPX.excO C hp.objs.size), g, dr, tk, os⟩ :=
    I1.laid (t' := tk) (a := hp.objs.size + 1) (o := exo (hp.objs.size + 1) C none) (h' := (hp.push (PySem.W.kdv_tup us)).push (PySem.HandSPX.excO C hp.objs.size)) kk hsz (exo_ok hget)
  have r2 : Vals (V.ref (hp.objs.size + 1) :: vs) (Value.ref (hp.objs.size + 1) :: us) := .cons rfl r1
  have hl : (Value.ref (hp.objs.size + 1) :: us ++ []).length = ps.length := by
    have e := r2.length
    rw [F1.len _ _ _ _ hq] at e
    rw [List.append_nil]
    exact e.symm
  have hus : us.length ≤ sizeLine := by
    rw [← Paired.length r1, sizeLine_eq]
    omega
  have b2 := hb _ (Value.ref (hp.objs.size + 1) :: us) I2.kIn hl
  rw [List.append_nil] at b2
  refine wpAny_call (PySem.HandSPX.call_own F.excBase_ValueError (fun Y => PySem.HandSPX.refsVE_contains Y bm hbm) (I1.kIn _ _ hC) (PySem.W.looks_findIn I1.kIn iC) (fun self => PySem.W.bind_fn I1.kIn self tI) hus
    (codeAny_mono (F1.run _ X.stack _ _ ⟨Value.ref (hp.objs.size + 1) :: us, []⟩ (Value.ref (hp.objs.size + 1) :: us) _ _ (fun _ _ _ => False) (hr.make C us []) (I2.env0.make C us []) b2 r2 hq) fun r s' hq' => ?_))
  cases r with
  | error er => exact (show False from hq').elim
  | ok fl =>
    cases fl with
    | ret u =>
      obtain ⟨v, H2, os2, bare2, un2, hok2, rv, ev, d, fs, ea, ed, hd1, q2⟩ := hq'
      subst ev
      obtain ⟨h2, g2, d2, t2, os'⟩ := s'
      obtain ⟨t0, G, J, kG, ge, hoe, na⟩ := mk_end0 (d2 := d2) (t2 := t2) I1 hsz kk un2 hok2 os2 bare2 ea ed hd1
      refine ⟨rv, hp.objs.size + 1, _, _, ⟨G, g2, d2, t2, os'⟩, _, .ref C, some d, rfl, J, kG, ge, hoe, ⟨rfl, rfl, fun vs hv => ?_⟩, rfl, rfl, na, rfl, bare2, raises_own T.exC T.tyC, q2⟩
      cases hv
      rfl
    | next => exact False.elim hq'
    | brk => exact False.elim hq'
    | cont => exact False.elim hq'
section
variable {X : Cx} {k : Nat} {C : Addr} {ps : List Str} {sp : Sp} {x m : Str} {p pos pos2 : Pos} {e : Expr} {es : List Expr} {ta : TA} {W : WX}
theorem n_raise (c : CalE X.prog X.w X.K X.mg X.base k x C ps sp) (hc : X.calm = true) (tk : L2N.Takes X W) (hr : Room (k + 1) X.A) (hg : Gl X x) (ha : PA X (e :: es) ta)
    (hdb : (x == ("__debug__" : Str)) = false := by decide) (he : starEach (e :: es) X.env = (false, eval e X.env) :: starEach es X.env := by rfl) (hpl : (backTo pos (starEach es X.env)).any (·.1) = false := by rfl) :
    PS X (.Raise (some (.Call (.Name x p) (e :: es) [] pos)) none pos2) (fun _ σ H => tMkO C sp [] ta σ H fun cls d H' => W cls d σ H') := by
  obtain ⟨f, fd, h1, h2, h3, h4, h5⟩ := c.ex
  exact L2N.ps_raise hc tk (pmk_oexN c.ox h2 h3 h5 hr h4 hg h1 ha hdb he hpl)
end
section
variable {g : Gm} {X : List Addr} {Y : Hp} {σ : L2.St} {ρ : List Sl} {H H' : Hp} {tr : TA} {E : DE} {Ξ : Addr → List (Str × Dat) → List Sl → Prop} {C : Addr} {f1 f2 : Str}
theorem dw_raise2 (h : EvA g tr ρ fun ds => ∃ d1 d2, ds = [d1, d2] ∧ Ξ C [(f2, d2), (f1, d1)] ρ) : DStW g (fun W => fun _ σ H => tMkO C (spEx2 C f1 f2) [] tr σ H fun cls d H' => W cls d σ H') ρ E Ξ := fun X Y σ H D W R M N =>
  h X Y σ H _ R fun ds vs H1 hd n1 r1 => by
    obtain ⟨d1, d2, rfl, hx⟩ := hd
    cases r1 with
    | cons r1 r2 =>
      cases r2 with
      | cons r2 r3 =>
        cases r3
        rename_i v1 v2
        refine ⟨by show 2 ≤ 1000; decide, fun a ha => ⟨a, v1, v2, rfl, upd_same, fun dx hdx hne => ⟨rfl, dx, [(f2, v2), (f1, v1)], ?_, upd_same, ?_, ?_⟩⟩⟩
        · rw [upd_ne (fun z => hne z.symm), upd_same]
        · rw [upd_ne hne] at hdx; exact hdx
        · have hd1 : H1 dx = none := by rw [upd_ne hne] at hdx; exact hdx
          have e3 : (upd (del (upd (upd (upd (upd H1 a (exo a C none)) dx (exd dx [(f1, v1)])) a (exo a C (some dx))) dx (exd dx [(f2, v2), (f1, v1)])) a) dx (.xd [(f2, v2), (f1, v1)])) = upd H1 dx (.xd [(f2, v2), (f1, v1)]) := by
            funext b
            by_cases q : b = dx
            · rw [q, upd_same, upd_same]
            · rw [upd_ne q, upd_ne q]
              by_cases z : b = a
              · rw [z, del_same, ha]
              · rw [del_ne z, upd_ne q, upd_ne z, upd_ne q, upd_ne z]
          rw [e3]
          have R1 := R.nx n1
          have n2 := R1.same (upd_new (o := .xd [(f2, v2), (f1, v1)]) hd1)
          exact N C _ dx _ σ _ ρ hx (R1.nx n2) (R1.yn hd1) ((hide_out (R1.new hd1)).trans upd_same) (.cons (r2.mn n2.hid) (.cons (r1.mn n2.hid) .nil))
theorem dw_raise1 (h : EvA g tr ρ fun ds => ∃ d1, ds = [d1] ∧ Ξ C [(f1, d1)] ρ) : DStW g (fun W => fun _ σ H => tMkO C (spEx1 C f1) [] tr σ H fun cls d H' => W cls d σ H') ρ E Ξ := fun X Y σ H D W R M N =>
  h X Y σ H _ R fun ds vs H1 hd n1 r1 => by
    obtain ⟨d1, rfl, hx⟩ := hd
    cases r1 with
    | cons r1 r3 =>
      cases r3
      rename_i v1
      refine ⟨by show 1 ≤ 1000; decide, fun a ha => ⟨a, v1, rfl, upd_same, fun dx hdx hne => ⟨rfl, dx, [(f1, v1)], upd_same, ?_, ?_, ?_⟩⟩⟩
      · rw [upd_ne hne, upd_same]
      · rw [upd_ne hne] at hdx; exact hdx
      · have hd1 : H1 dx = none := by rw [upd_ne hne] at hdx; exact hdx
        have e3 : (upd (del (upd (upd (upd H1 a (exo a C none)) dx (exd dx [(f1, v1)])) a (exo a C (some dx))) a) dx (.xd [(f1, v1)])) = upd H1 dx (.xd [(f1, v1)]) := by
          funext b
          by_cases q : b = dx
          · rw [q, upd_same, upd_same]
          · rw [upd_ne q, upd_ne q]
            by_cases z : b = a
            · rw [z, del_same, ha]
            · rw [del_ne z, upd_ne z, upd_ne q, upd_ne z]
        rw [e3]
        have R1 := R.nx n1
        have n2 := R1.same (upd_new (o := .xd [(f1, v1)]) hd1)
        exact N C _ dx _ σ _ ρ hx (R1.nx n2) (R1.yn hd1) ((hide_out (R1.new hd1)).trans upd_same) (.cons (r1.mn n2.hid) .nil)
end
/-! ### webs of more than six arrows -/
def tooMany (n : Nat) : List (Str × Dat) := [("limit", .int 6), ("many", .int n)]
def T_searchX (C D : Addr) : XT := fun ρ Φ Ξ => ∃ rows : List Arr, ρ = [.dat (webD C rows)] ∧ 6 < rows.length ∧ rows.length ≤ 12 ∧ Ξ D (tooMany rows.length)
section
variable {g : Gm} {te : WX → TE} {t : WX → TS} {ρ : List Sl} {Ξ : Addr → List (Str × Dat) → List Sl → Prop} {Φ : Dat → Prop} {Ψ : Addr → List (Str × Dat) → Prop} {E : DE}
theorem id_DStW (h : DStW g t ρ E Ξ) : DStW g t ρ E Ξ := h
theorem id_EvX (h : EvX g te ρ Φ Ψ) : EvX g te ρ Φ Ψ := h
end
end NW

/-! NwZ: try .. except C as e over data: the suite reads e's fields, asks its class. -/
namespace NW
open PySem PySem.Spec PyProof.Rows L2
/-! ### isinstance of the caught exception, its own dict there -/
def rIsX (K : PySem.W.Frag) (D a : Addr) (cls : Value) (d : Option Addr) : List V → Hp → VK → Prop := fun xs H Q => ∃ (c : V) (cv : Value) (b : Bool) (dd : Addr) (fs : List (Str × V)), cls = .ref D ∧ d = some dd ∧ xs = [.ref a, c] ∧ ClsV c cv ∧ H dd = some (.xd fs) ∧ PySem.W.kitOne K (.ref D) cv = some b ∧ Q (.bl b) H
def rIsXT (K : PySem.W.Frag) (D a : Addr) (cls : Value) (d : Option Addr) : List V → Hp → VK → Prop := fun xs H Q => ∃ (tp : Addr) (cs : List V) (us : List Value) (b : Bool) (dd : Addr) (fs : List (Str × V)), cls = .ref D ∧ d = some dd ∧ xs = [.ref a, .ref tp] ∧ H tp = some (.tup cs) ∧ Paired ClsV cs us ∧ H dd = some (.xd fs) ∧ PySem.W.kitAny K (.ref D) us = some b ∧ Q (.bl b) H
section
variable {X : Cx} {a D : Addr} {oe : Obj} {cls : Value} {d : Option Addr} {pn : List (Addr × Obj)}
theorem kitx_of_exc {K : PySem.W.Frag} (C : ExcC K D) {od : Option Obj} : PySem.W.KitX K (.ref a) (.ref D) (fun h => PySem.W.InstAt h a oe D od) := by
  have hcl : (PySem.W.clsIn K D).isSome = true := by
    obtain ⟨cdD, hcD, _⟩ := PySem.W.any_some C.hd
    rw [hcD]; rfl
  exact PySem.W.kitx_exc hcl C.hg C.hk C.hs C.ha C.hn C.ht C.hm
theorem inst_exc {pins : List (Addr × Obj)} {σ : L2.St} {H : Hp} {s : Shared} {dd : Addr} {fs : List (Str × V)} (I : Inv (X.suite a ((a, oe) :: pn)) pins σ H s) (hz : Zc (.ref D) (some dd) oe) (hf : ∃ vs, oe.data = .fields vs) (ea : H dd = some (.xd fs)) : ∃ od, PySem.W.InstAt s.heap a oe D (some od) := by
  obtain ⟨ha, _⟩ := I.pin (a, oe) (List.mem_append_left _ List.mem_cons_self)
  obtain ⟨vs, hd⟩ := hf
  have hx : ObjOk X.prog X.w H s.heap dd (.xd fs) := I.hok dd _ ea
  obtain ⟨mA, hns, hr⟩ := hx
  obtain ⟨od, ho, hl⟩ := lookIn_ns hns
  exact ⟨od, ha, hz.1, by unfold PySem.W.notCls; rw [hd] <;> rfl, by rw [hz.2]; exact ho⟩
theorem call_isX (C : ExcC X.K D) (hz : Zc cls d oe) (hf : ∃ vs, oe.data = .fields vs) : CallR (X.suite a ((a, oe) :: pn)) (.builtin "isinstance") (rIsX X.K D a cls d) := by
  intro pins s σ H xs us Q I r h
  obtain ⟨c, cv, b, dd, fs, rfl, rfl, rfl, hcv, ea, e, q⟩ := h
  obtain ⟨u1, u2, rfl, r1, r2⟩ := vals2 r
  have e2 := hcv.eq r2
  subst e2
  cases (show u1 = Value.ref a from r1)
  obtain ⟨od, J⟩ := inst_exc I hz hf ea
  exact PySem.W.kia_one (kitx_of_exc C) I.kIn J e (fun z => nomatch z) fun tk => ⟨.bl b, H, I.tok tk, rfl, q⟩
theorem call_isXT (C : ExcC X.K D) (hz : Zc cls d oe) (hf : ∃ vs, oe.data = .fields vs) : CallR (X.suite a ((a, oe) :: pn)) (.builtin "isinstance") (rIsXT X.K D a cls d) := by
  intro pins s σ H xs us Q I r h
  obtain ⟨tp, cs, ws, b, dd, fs, rfl, rfl, rfl, hT, k, ea, e, q⟩ := h
  obtain ⟨u1, u2, rfl, r1, r2⟩ := vals2 r
  cases (show u1 = Value.ref a from r1)
  cases (show u2 = Value.ref tp from r2)
  obtain ⟨_, its, rv, o, h1, h2, n, h3⟩ := (show ObjOk X.prog X.w H s.heap tp (.tup cs) from I.hok tp _ hT)
  have e3 := ClsV.all k rv
  subst e3
  obtain ⟨oc, od', dt, sl⟩ := o
  simp only at h2 h3
  subst h2 h3
  obtain ⟨od, J⟩ := inst_exc I hz hf ea
  exact PySem.W.kia_tup (kitx_of_exc C) I.kIn J h1 e (fun z => nomatch z) fun tk => ⟨.bl b, H, I.tok tk, rfl, q⟩
end
section
variable {g : Gm} {X : List Addr} {Y : Hp} {σ : L2.St} {ρ : List Sl} {H H' : Hp} {te : TE} {tr : TA} {E : DE} {D : Addr} {a dd : Addr} {fs : List (Str × Dat)} {i : Nat}
theorem RS.exc (R : RS g X Y σ H ρ) (e : ρ[i]? = some (.exc a dd fs)) : ∃ xs, σ[i]? = some (some (.ref a)) ∧ (hid g X σ ρ H) dd = some (.xd xs) ∧ RpF g.K (hid g X σ ρ H) xs fs := by
  obtain ⟨x, h1, h2⟩ := R.sl.get e
  cases h2 with
  | exc h r => exact ⟨_, h1, h, r⟩
/-- e.f -/
theorem ev_xf {f : Str} {d : Dat} {Φ : Dat → Prop} (e : ρ[i]? = some (.exc a dd fs)) (hl : fs.lookup f = some d) (h : Φ d) : EvC g (tXf a (.ref D) (some dd) D f (tVar i)) ρ Φ := fun X Y σ H Q R k => by
  obtain ⟨xs, h1, h2, r⟩ := R.exc e
  rcases r.look (f := f) with ⟨z, _⟩ | ⟨d', v, z1, z2, z3⟩
  · rw [hl] at z; cases z
  · rw [hl] at z1
    cases z1
    exact ⟨_, h1, rfl, rfl, dd, xs, v, rfl, (hide_some h2).2, z2, k _ _ H h R.refl z3⟩
/-- isinstance(e, C) -/
theorem ev_isX {C : Addr} {b : Bool} {Φ : Dat → Prop} (e : ρ[i]? = some (.exc a dd fs)) (hk : PySem.W.kitOne g.K (.ref D) (.ref C) = some b) (h : Φ (.bl b)) : EvC g (tCB (rIsX g.K D a (.ref D) (some dd)) (tCons (tVar i) (tCons (tC (.ref C)) tNil))) ρ Φ := fun X Y σ H Q R k => by
  obtain ⟨xs, h1, h2, r⟩ := R.exc e
  exact ⟨_, h1, _, _, b, dd, xs, rfl, rfl, rfl, .own C, (hide_some h2).2, hk, k _ _ H h R.refl (.bl b)⟩
/-- isinstance(e, (C1, C2, C3)) -/
theorem ev_isXT3 {C1 C2 C3 : Addr} {b : Bool} {Φ : Dat → Prop} (e : ρ[i]? = some (.exc a dd fs)) (hk : PySem.W.kitAny g.K (.ref D) [.ref C1, .ref C2, .ref C3] = some b) (h : Φ (.bl b)) :
    EvC g (tCB (rIsXT g.K D a (.ref D) (some dd)) (tCons (tVar i) (tCons (tTup (tCons (tC (.ref C1)) (tCons (tC (.ref C2)) (tCons (tC (.ref C3)) tNil)))) tNil))) ρ Φ := fun X Y σ H Q R k => by
  obtain ⟨xs, h1, h2, r⟩ := R.exc e
  refine ⟨_, h1, by show 3 ≤ sizeLine; decide, fun p hp => ?_⟩
  have nu : Nx g H (upd H p (.tup [.ref C1, .ref C2, .ref C3])) := R.same (upd_new hp)
  exact ⟨p, _, [.ref C1, .ref C2, .ref C3], b, dd, xs, rfl, rfl, rfl, upd_same, .cons (.own C1) (.cons (.own C2) (.cons (.own C3) .nil)), upd_new hp _ _ (hide_some h2).2, hk, k _ _ _ h nu (.bl b)⟩
def tTry (K : PySem.W.Frag) (c : Value) (i : Nat) (ts : Addr → Value → Option Addr → TS) (tb : WX → TS) : TS := fun D σ H => tb (wAs K c i ts (fun _ _ _ _ => False) D) D σ H
/-- try: body except C as e: suite (all of the body's exceptions are the clause's) -/
theorem ds_try {tb : WX → TS} {ts : Addr → Value → Option Addr → TS} {c : Value} (h : DStW g tb ρ E fun C fs ρ' => ρ'[i]? = some .no ∧ PySem.W.exmOne g.K (.ref C) c = some true ∧ ∀ a d, DSt g (ts a (.ref C) (some d)) (ρ'.set i (.exc a d fs)) { E with nx := fun ρ2 => E.nx (ρ2.set i .no), bk := fun ρ2 => E.bk (ρ2.set i .no), ct := fun ρ2 => E.ct (ρ2.set i .no) }) :
    DSt g (tTry g.K c i ts tb) ρ E := fun X Y σ H D R M =>
  h X Y σ H D _ R M fun C fs d xs σ' H' ρ' ⟨hi, hm, hs⟩ R' hd he rf => by
    refine ⟨true, hm, fun _ a ha => ?_, fun z => Bool.noConfusion z⟩
    exact hs a d X Y _ H' _ (R'.set0 (i := i) (x := some (.ref a)) (s := .exc a d fs) rfl (.exc he rf)) ⟨fun σ H ρ2 e R2 => M.nx _ H _ e (R2.forget none), M.rt, M.rn, fun σ H ρ2 e R2 => M.bk _ H _ e (R2.forget none), fun σ H ρ2 e R2 => M.ct _ H _ e (R2.forget none), M.rs⟩
end
/-! ### defs called within the suite -/
section
variable {P : Program} {w : World} {K : PySem.W.Frag} {mg : Str → Option Value} {base : Heap} {x qual : Str} {params : Arguments} {body : List Stmt} {scope : Scope} {f : Addr} {fd : FuncData} {N ps : List Str} {k : Nat}
open L2H in
theorem fn_H {T : DT} (F : FunD K x qual params body scope [] [] f fd) (S : FnScope N ps scope) (hl : ∀ ρ Φ, T ρ Φ → ρ.length = ps.length)
    (hb : ∀ (cdv : Value) (A : Around) (outer : List Env) (s : Shared) (H : Hp) (E : XK) (p : Addr × Obj), Hot1 A p → RoomH k (A.deeper (envOfC qual scope s.heap.objs.size f cdv)) →
      ∃ t, PSs (cxH CX0 P w K mg base N qual scope f cdv A outer s H E p).nox body t ∧ ∀ st ρ Φ, T ρ Φ → DSt ⟨K, st⟩ t (ρ ++ List.replicate (N.length - ps.length) .no) { nx := fun _ => Φ .non, rt := fun d _ => Φ d, rn := fun ds _ => Φ (.lst ds) }) :
    FnH P w K mg base CX0 (k + 1) f fd ps (spD K T) := by
  have len : ∀ vs H Q E, spD K T vs H Q E → vs.length = ps.length := fun vs H Q E h => by
    obtain ⟨st, X, ρ, Φ, R, hT, _⟩ := h
    rw [← hl ρ Φ hT, ← R.sl.len, List.length_map]
  obtain ⟨oc, od, dV, kV, doc, pm, an, cdv, ct, osl, rfl, lk, hcd, _, _⟩ := F.ex
  refine fn_ofH lk hcd S len fun A outer s H vs Q E p hot hr h => ?_
  obtain ⟨t, ht, hd⟩ := hb cdv A outer s H E p hot hr
  refine ⟨t, PSs.nox ht, ?_⟩
  have lv := len vs H Q E h
  obtain ⟨st, X, ρ, Φ, R, hT, hQ⟩ := h
  have R1 := R.pad (n := N.length - ps.length)
  rw [start_eq, lv]
  refine hd st ρ Φ hT X _ _ H _ R1 ⟨fun σ H' ρ' e R' => ?_, fun d v σ H' ρ' e R' r => ?_, fun ds p xs σ H' ρ' e R' hp np hx r _ => ?_, fun _ _ _ e => e.elim, fun _ _ _ e => e.elim, fun _ _ _ _ _ e => e.elim⟩
  · exact hQ .non .non H' e ⟨fun b o q nb => R'.sy b o ((hide_out nb).trans q), R'.st⟩ .non
  · exact hQ d v H' e ⟨fun b o q nb => R'.sy b o ((hide_out nb).trans q), R'.st⟩ r
  · exact hQ _ _ H' e ⟨fun b o q nb => R'.sy b o ((hide_out nb).trans q), R'.st⟩ (.lst ((hide_out np).trans hx) (r.mn (hide_mono fun b hb => List.mem_cons_of_mem _ hb)))
end
/-- a def of the top that may be called within a suite -/
structure CalH (P : Program) (w : World) (K : PySem.W.Frag) (mg : Str → Option Value) (base : Heap) (k : Nat) (x : Str) (ps : List Str) (sp : Sp) : Prop where
  ex : ∃ f fd, mg x = some (.ref f) ∧ PySem.W.keepIn K (.ref f) = true ∧ Binds K fd ps [] ∧ L2H.FnH P w K mg base CX0 k f fd ps sp
section
variable {X : Cx} {k : Nat} {ps : List Str} {sp : Sp} {x : Str} {p pos : Pos} {e : Expr} {es : List Expr} {t : TA}
theorem hot_suite {a : Addr} {oe : Obj} {pn : List (Addr × Obj)} {cls : Value} {d : Option Addr} (hz : L2N.Zn cls d oe) (hf : ∃ vs, oe.data = .fields vs) : L2H.HotC (X.suite a ((a, oe) :: pn)) := by
  obtain ⟨vs, hv⟩ := hf
  exact ⟨(a, oe), ⟨rfl, vs, hv, hz.2.2 vs hv⟩, List.mem_cons_self⟩
theorem ph_cal (c : CalH X.prog X.w X.K X.mg X.base k x ps sp) (hr : L2H.RoomH k X.A) (hc : L2H.HotC X) (hg : Gl X x) (ha : PA X (e :: es) t) (hdb : (x == ("__debug__" : Str)) = false := by decide) (he : starEach (e :: es) X.env = (false, eval e X.env) :: starEach es X.env := by rfl) (hpl : (backTo pos (starEach es X.env)).any (·.1) = false := by rfl) :
    PE X (.Call (.Name x p) (e :: es) [] pos) (tCallS sp (fun _ => E0) t) := by
  obtain ⟨f, fd, a, b, c, d⟩ := c.ex
  exact L2H.pe_callH d hr hc hg a b c (fun σ pins H s e s' I q => pass0 pins σ H s e s' I q) ha hdb he hpl
end
section
variable {g : Gm} {ρ : List Sl} {tr : TA}
theorem ev_callS {T : DT} {Φ : Dat → Prop} (h : EvP g tr ρ fun πs => T πs Φ) : EvC g (tCallS (spD g.K T) (fun _ => E0) tr) ρ Φ := fun X Y σ H Q R k =>
  h X Y σ H _ R fun πs vs H1 hT n1 r1 => ⟨g.st, X ++ owned σ ρ, πs, Φ, call_rs (R.nx n1) r1, hT, fun d v H' hd n2 r2 => k d v H' hd (n1.trans n2) (r2.mn back_mono)⟩
end
/-- _law_same of two ints -/
def T_sameI : DT := fun ρ Φ => ∃ a b : Int, ρ = [.dat (.int a), .dat (.int b)] ∧ Φ (.bl (decide (a = b)))
theorem takes0N {X : Cx} : L2N.Takes X (fun _ _ _ _ => False) := fun u s' ⟨_, _, _, _, _, _, _, _, _, _, _, _, _, _, _, _, w⟩ => w.elim
theorem _root_.L2.ExcC.xf {K : PySem.W.Frag} {D : Addr} (c : ExcC K D) : XfC K D := ⟨c.hg, c.hk, c.hs, c.hd⟩
def T_too_many (C : Addr) : DT := fun ρ Φ => ∃ rows : List Arr, ρ = [.dat (webD C rows), .dat (.int rows.length)] ∧ 6 < rows.length ∧ rows.length ≤ 12 ∧ Φ (.bl true)
theorem roomH_mark {k : Nat} {A : Around} (r : Room k A) (h : Option Value) : L2H.RoomH k (A.mark h) := ⟨r.dp, r.un⟩
theorem T_sameI_mk {a b : Int} {Φ : Dat → Prop} (h : Φ (.bl (decide (a = b)))) : T_sameI [.dat (.int a), .dat (.int b)] Φ := ⟨a, b, rfl, h⟩
section
variable {K : PySem.W.Frag} {X : Cx} {x n : Str} {c : Value} {i : Nat} {body suite : List Stmt} {b₀ : Stmt} {np pos pos' : Pos} {tb : WX → TS} {ts : Addr → Value → Option Addr → TS}
theorem n_try (hK : X.K = K) (hs : X.stack = X.env :: X.outer) (hf : X.env.frame = some X.env.locals) (hN : X.N.Nodup) (hi : X.N[i]? = some n) (hln : X.env.kindOf n = some .local) (hc : Names X x c)
    (hb : ∀ (W : WX) (pn : List (Addr × Obj)) (xe : Value → Shared → Prop), L2N.Takes (X.tr pn xe) W → PassesOwn (model X.prog X.w) X.A X.env xe → PSs (X.tr pn xe) body (tb W))
    (hsu : ∀ (a : Addr) (oe : Obj) (cls : Value) (d : Option Addr) (pn : List (Addr × Obj)), L2N.Zn cls d oe → (∃ vs, oe.data = .fields vs) → PSs (X.suite a ((a, oe) :: pn)) (b₀ :: suite) (ts a cls d)) :
    PS X (.Try body [.ExceptHandler (some (.Name x np)) (some n) (b₀ :: suite) pos'] [] [] pos) (tTry K c i ts tb) := hK ▸ L2N.ps_try_as hs hf hN hi hln hc takes0N hb hsu
variable {a D : Addr} {oe : Obj} {cls : Value} {d : Option Addr} {pn : List (Addr × Obj)}
theorem n_isX (hK : X.K = K) (C : ExcC K D) (hz : Zc cls d oe) (hf : ∃ vs, oe.data = .fields vs) : CallR (X.suite a ((a, oe) :: pn)) (.builtin "isinstance") (rIsX K D a cls d) := by
  subst hK
  exact call_isX C hz hf
theorem n_isXT (hK : X.K = K) (C : ExcC K D) (hz : Zc cls d oe) (hf : ∃ vs, oe.data = .fields vs) : CallR (X.suite a ((a, oe) :: pn)) (.builtin "isinstance") (rIsXT K D a cls d) := by
  subst hK
  exact call_isXT C hz hf
end
theorem n_cval {K : PySem.W.Frag} {X : Cx} {e : Expr} {te : TE} {f : Str} {pos : Pos} (hK : X.K = K) (he : PE X e te) (hb : attributeBase e f X.env (eval e X.env) = eval e X.env := by rfl) : PE X (.Attribute e f pos) (ClX.tCVal K te f) := hK ▸ ClX.pe_cval he hb
/-- the law: true of every script -/
def spLaw (K : PySem.W.Frag) : Sp := fun vs H Q E => ∃ (a : Addr) (ns : List Int), vs = [.ref a] ∧ SqL K H a (ns.map V.int) ∧ ∀ H', Q (.bl true) H'
theorem rs_store {K : PySem.W.Frag} {p l : Addr} {H : Hp} {ns : List Int} (hp : H p = some (.lst (stL l 0 0 0 1 0))) (hl : H l = some (.lst (ns.map V.int))) (v : V) (n : Nat) :
    RS ⟨K, [(p, l)]⟩ [] (fun _ => none) (some v :: some (.ref p) :: List.replicate n none) H (.no :: .sto :: List.replicate n .no) := by
  have e0 : ∀ n, owned (List.replicate n none) (List.replicate n .no) = [] := fun n => by
    induction n with
    | zero => rfl
    | succ n ih => exact ih
  have e : owned (some v :: some (.ref p) :: List.replicate n none) (.no :: .sto :: List.replicate n .no) = [] := by
    show ownA (some v) .no ++ (ownA (some (.ref p)) .sto ++ owned (List.replicate n none) (List.replicate n .no)) = []
    rw [ownA_no, ownA_sto, e0]; rfl
  have s0 : ∀ n G, SlsOk ⟨K, [(p, l)]⟩ G H (List.replicate n none) (List.replicate n .no) := fun n G => by
    induction n with
    | zero => exact .nil
    | succ n ih => exact .cons (.no none) ih
  refine ⟨by rw [e]; exact List.nodup_nil, .cons (.no _) (.cons (.sto (p := (p, l)) List.mem_cons_self) (s0 n _)), (fun _ _ h => by cases h), (by rw [e]; intro q hq; cases hq), (fun b hb => by cases hb), fun q hq => ?_⟩
  rw [List.mem_singleton.mp hq]
  exact ⟨ns, 0, 0, 0, 1, 0, hp, hl, by decide, by decide, by decide, by decide, by decide, by decide⟩
end NW

/-! NwHd: facts of the head as tests. -/
namespace NW
open PySem PySem.Spec PyProof.Rows L2
def oexB1 (K : PySem.W.Frag) (C : Addr) : Bool := match K.lookup C with
  | some ⟨.type "type", _, .cls cd, sl⟩ => (match cd.mro, sl.toList with
    | .ref C' :: bm, [_, _, _, _, some (.builtin n), _] => C' == C && n == "ValueError.__new__" && !cd.hasDel && cd.hasDict && PySem.HandSPX.refsVE bm
    | _, _ => false)
  | _ => false
theorem oexB1_ok {K : PySem.W.Frag} {C : Addr} (q : oexB1 K C = true) : ∃ nm q N bs bm sn sub ab col dd k0 k1 k2 k3 k5, K.lookup C = some (excClassObj nm q C N bs bm true sn sub ab col dd k0 k1 k2 k3 k5 "ValueError.__new__") ∧ PySem.HandSPX.refsVE bm = true := by
  unfold oexB1 at q
  split at q
  · rename_i dd cd sl ho
    split at q
    · rename_i C' bm k0 k1 k2 k3 n k5 hm hs
      simp only [Bool.and_eq_true, beq_iff_eq, Bool.not_eq_true'] at q
      obtain ⟨⟨⟨⟨rfl, rfl⟩, hdel⟩, hdict⟩, hr⟩ := q
      obtain ⟨nm, bs, mro, ns, qn, hd, sn, sub, ab, col, del⟩ := cd
      dsimp only at hm hdel hdict
      subst hm hdel hdict
      have hsl : sl = #[k0, k1, k2, k3, some (.builtin "ValueError.__new__"), k5] := by
        obtain ⟨l⟩ := sl
        simp only at hs
        rw [hs]
      subst hsl
      exact ⟨nm, qn, ns, bs, bm, sn, sub, ab, col, dd, k0, k1, k2, k3, k5, ho, hr⟩
    · cases q
  · cases q
def oexB (K : PySem.W.Frag) (C : Addr) : Bool := oexB1 K C && (decide (PySem.W.findIn K (.ref C) "__setattr__" = some (some (.builtin "object.__setattr__"))) && (decide (PySem.W.subIn K (.ref C) (.type "BaseException") = some true) && (decide (PySem.W.typeIn K (.ref C) = some (.type "type")) && PySem.W.keepIn K (.ref C))))
theorem oexB_ok {K : PySem.W.Frag} {C : Addr} (h : oexB K C = true) : OexC K C := by
  obtain ⟨h1, h⟩ := Bool.and_eq_true_iff.mp h
  obtain ⟨h2, h⟩ := Bool.and_eq_true_iff.mp h
  obtain ⟨h3, h⟩ := Bool.and_eq_true_iff.mp h
  obtain ⟨h4, h5⟩ := Bool.and_eq_true_iff.mp h
  exact ⟨oexB1_ok h1, of_decide_eq_true h2, of_decide_eq_true h3, of_decide_eq_true h4, h5⟩
def excB (K : PySem.W.Frag) (D : Addr) : Bool := decide (PySem.W.findIn K (.ref D) "__getattribute__" = some (some (.builtin "BaseException.__getattribute__"))) && (decide (PySem.W.findIn K (.ref D) "__getattr__" = some none) && (decide (PySem.W.subIn K (.ref D) (.type "BaseException") = some true) && (PySem.W.hasDictIn K D &&
  (decide (PySem.W.findIn K (.ref D) "__class__" = some (some (.builtin "object.__class__"))) && (decide (PySem.W.specialIn K (.builtin "object.__class__") "__get__" = some (some (.builtin "getset_descriptor.__get__"))) && (decide (PySem.W.takesIn K (.builtin "object.__class__") = some true) && decide (PySem.W.mroIn K D (.type "object") = some true)))))))
theorem excB_ok {K : PySem.W.Frag} {C : Addr} (h : excB K C = true) : ExcC K C := by
  obtain ⟨h1, h⟩ := Bool.and_eq_true_iff.mp h
  obtain ⟨h2, h⟩ := Bool.and_eq_true_iff.mp h
  obtain ⟨h3, h⟩ := Bool.and_eq_true_iff.mp h
  obtain ⟨h4, h⟩ := Bool.and_eq_true_iff.mp h
  obtain ⟨h5, h⟩ := Bool.and_eq_true_iff.mp h
  obtain ⟨h6, h⟩ := Bool.and_eq_true_iff.mp h
  obtain ⟨h7, h8⟩ := Bool.and_eq_true_iff.mp h
  exact ⟨of_decide_eq_true h1, of_decide_eq_true h2, of_decide_eq_true h3, h4, of_decide_eq_true h5, of_decide_eq_true h6, of_decide_eq_true h7, of_decide_eq_true h8⟩
theorem ex_at {l : List Bool} (h : (l.all id) = true) (i : Nat) {b : Bool} (hi : l[i]? = some b) : b = true := by
  have := List.all_eq_true.mp h b (List.mem_of_getElem? hi)
  exact this
def cvalB (K : PySem.W.Frag) (C : Addr) (mc : Value) (f : Str) (i : Int) : Bool := match PySem.W.findCls K (.ref C) mc f with
  | some (.val (.int j _)) => decide (j = i)
  | _ => false
theorem cvalB_ok {K : PySem.W.Frag} {C : Addr} {mc : Value} {f : Str} {i : Int} (h : cvalB K C mc f i = true) : ∃ u, ClX.CVal K C mc f (.int i) u := by
  unfold cvalB at h
  split at h
  · rename_i j t e
    have e2 : j = i := of_decide_eq_true h
    subst e2
    exact ⟨_, e, t, rfl⟩
  · cases h
/-! ### the Hook: facts, defs, more tests; the table of statics is looked at too -/
structure SaysW (fa : List He.Fa) (fn : List He.DefD) (ex : PySem.W.Frag → Bool) (K : PySem.W.Frag) : Prop where
  d : He.SaysD fa fn K
  more : ex K = true
def frW (n : Nat) (g : Addr → Option Obj) : PySem.W.Frag := He.frT g (He.asD g n ++ [cStatics])
def obsW (n : Nat) (fa : List He.Fa) (fn : List He.DefD) (ex : PySem.W.Frag → Bool) (g : Addr → Option Obj) : He.AlD × Bool := (He.obsD fa fn (frW n g), ex (frW n g))
def hookW (n : Nat) (fa : List He.Fa) (fn : List He.DefD) (ex : PySem.W.Frag → Bool) : PySem.W.Hook where
  α := He.AlD × Bool
  obs := fun s => obsW n fa fn ex s.heap.get?
  val := fun _ => (He.valD fn, true)
  says := fun _ h => ∃ K : PySem.W.Frag, K.In h ∧ SaysW fa fn ex K
  of := fun _ _ e => ⟨_, He.frT_in, congrArg (fun z : He.AlD × Bool => z.1) e, congrArg (fun z : He.AlD × Bool => z.2) e⟩
  keeps := fun _ _ _ ⟨K, hK, c⟩ k => ⟨K, PySem.W.Frag.In.keeps hK k, c⟩
theorem obsW_eq {n : Nat} {fa : List He.Fa} {fn : List He.DefD} {ex : PySem.W.Frag → Bool} {g : Addr → Option Obj} {s : Shared} (h : ∀ a, g a = s.heap.get? a) : obsW n fa fn ex g = (hookW n fa fn ex).obs s := by
  have e : g = s.heap.get? := funext h
  rw [e] <;> rfl
end NW

/-! NwQ: any, all; comprehensions over a list or a tuple; comprehensions whose test and element are functions of the data. -/
namespace NW
open PySem PySem.Spec PyProof.Rows L2
section
variable {K : PySem.W.Frag}
theorem RpA.bls_inv {G : Hp} {vs : List V} : ∀ {bs : List Bool}, RpA K G vs (bs.map Dat.bl) → vs = bs.map V.bl := by
  induction vs with
  | nil => intro ns r; cases ns with | nil => rfl | cons n ns => cases r
  | cons v vs ih =>
    intro ns r
    cases ns with
    | nil => cases r
    | cons n ns =>
      cases r with
      | cons r t => cases r; rw [ih t]; rfl
def dAll (f : List Bool → Bool) : List Dat → (Dat → Prop) → Prop
  | [.lst ds], Φ => ∃ bs : List Bool, ds = bs.map Dat.bl ∧ Φ (.bl (f bs))
  | _, _ => False
theorem cd_any : CbD K (rAny K) (dAll fun bs => bs.any id) := fun O pr H xs dx Φ Q s1 s2 rx h k => by
  match dx, rx, h with
  | [.lst ds], .cons r .nil, h =>
    obtain ⟨ns, rfl, h1⟩ := h
    obtain ⟨a, ys, rfl, q1, q2⟩ := r.lst_inv (hide_mono s1)
    cases q2.bls_inv
    exact ⟨a, ns, rfl, SqL.of (hide_same _ _ q1), k _ _ H h1 (Same.refl _) (.bl _)⟩
theorem cd_all : CbD K (rAll K) (dAll fun bs => bs.all id) := fun O pr H xs dx Φ Q s1 s2 rx h k => by
  match dx, rx, h with
  | [.lst ds], .cons r .nil, h =>
    obtain ⟨ns, rfl, h1⟩ := h
    obtain ⟨a, ys, rfl, q1, q2⟩ := r.lst_inv (hide_mono s1)
    cases q2.bls_inv
    exact ⟨a, ns, rfl, SqL.of (hide_same _ _ q1), k _ _ H h1 (Same.refl _) (.bl _)⟩
theorem n_any {X : Cx} (hc : X.calm = true) (hK : X.K = K) : CallR X (.builtin "any") (rAny K) := hK ▸ cr_any hc
theorem n_all {X : Cx} (hc : X.calm = true) (hK : X.K = K) : CallR X (.builtin "all") (rAll K) := hK ▸ cr_all hc
theorem dAll_mk {f : List Bool → Bool} {α : Type} {l : List α} {p : α → Bool} {Φ : Dat → Prop} (h : Φ (.bl (f (l.map p)))) : dAll f [.lst (l.map fun x => .bl (p x))] Φ := ⟨l.map p, by rw [List.map_map]; rfl, h⟩
end
theorem map_bl {α : Type} (p : α → Bool) (l : List α) : (l.map fun x => Dat.bl (p x)) = (l.map p).map Dat.bl := by rw [List.map_map]; rfl
section
variable {g : Gm} {X : List Addr} {Y : Hp} {σ : L2.St} {ρ : List Sl} {H H' : Hp} {te ta tb tc tl : TE} {tt : TT} {tr : TA} {t u : TS} {E : DE} {D : Ends}
/-- [.. for x in xs if ..], xs a list or a tuple -/
theorem en_lcQ {v : Nat} {Φ : List Dat → Prop} (hv : ρ[v]? = some .no) (h : EvS g tl ρ fun d => ∃ ds, (d = .lst ds ∨ d = .tup ds) ∧ ∃ Inv : Nat → List Dat → Prop, Inv 0 [] ∧
    (∀ i d acc, ds[i]? = some d → Inv i acc → EvT g tt (ρ.set v (.dat d)) fun b => if b = true then EvC g te (ρ.set v (.dat d)) fun y => acc.length < sizeLine ∧ Inv (i + 1) (acc ++ [y]) else Inv (i + 1) acc) ∧ ∀ acc, Inv ds.length acc → Φ acc) :
    EvN g (tLc (iSeq g.K tl) (gName v) tt te [v]) ρ Φ := fun X Y σ H Q R k => h X Y σ H _ R fun d w H1 hd n1 r1 => by
  obtain ⟨ds, rfl | rfl, Inv, h0, hs, hf⟩ := hd
  · obtain ⟨a, xs, rfl, ha, r⟩ := r1.lst_inv hid_p
    have ha2 := hide_some ha
    refine ⟨a, rfl, .inl ⟨⟨xs, SqL.of ha2.2⟩, fun D hD => ?_⟩⟩
    refine lc_list (K := g.K) (a := a) (xs := xs) (LcP g X Y σ ρ H1 D Inv) (LcP.start (R.nx n1) hD h0) (fun i H' _ p => SqL.of (p.nx.kp a _ ha2.2 ha2.1)) (fun i x H' hi p => ?_) fun H' p => LcP.stop R n1 hD (n := xs.length) (fun acc hI => hf acc (by rw [← r.length]; exact hI)) k p
    obtain ⟨d, hd, rd⟩ := r.get' hi
    exact LcP.turn (R.nx n1) hD hv p (rd.mn (p.seen hD)) fun acc hI => hs i d acc hd hI
  · obtain ⟨a, xs, rfl, ha, r⟩ := r1.tup_inv hid_p
    refine ⟨a, rfl, .inr ⟨⟨xs, Same.sqT hide_same ha⟩, fun D hD => ?_⟩⟩
    refine lc_tup (K := g.K) (a := a) (xs := xs) (LcP g X Y σ ρ H1 D Inv) (LcP.start (R.nx n1) hD h0) (fun i H' _ p => Same.sqT (fun b o e => p.nx.kp b o (hide_some e).2 (hide_some e).1) ha) (fun i x H' hi p => ?_) fun H' p => LcP.stop R n1 hD (n := xs.length) (fun acc hI => hf acc (by rw [← r.length]; exact hI)) k p
    obtain ⟨d, hd, rd⟩ := r.get' hi
    exact LcP.turn (R.nx n1) hD hv p (rd.mn (p.seen hD)) fun acc hI => hs i d acc hd hI
/-- what each turn of a pure comprehension is asked: the test is p, the element f -/
def Pure1 (g : Gm) (tt : TT) (te : TE) (ρ : List Sl) (v : Nat) (d : Dat) (p : Bool) (f : Dat) : Prop := EvT g tt (ρ.set v (.dat d)) fun b => b = p ∧ (p = true → EvC g te (ρ.set v (.dat d)) fun y => y = f)
theorem Pure1.turn {v : Nat} {d : Dat} {p : Bool} {f : Dat} {A : Prop} {B : Dat → Prop} (h : Pure1 g tt te ρ v d p f) (h1 : p = true → B f) (h2 : p = false → A) : EvT g tt (ρ.set v (.dat d)) fun b => if b = true then EvC g te (ρ.set v (.dat d)) B else A :=
  EvT.mono h fun b ⟨e, hb⟩ => by
    subst e
    cases b with
    | true => exact iteT (EvC.mono (hb rfl) fun y ey => by rw [ey]; exact h1 rfl)
    | false => exact iteF (h2 rfl)
theorem getL {α : Type} {ds : List α} {i : Nat} {d : α} (h : ds[i]? = some d) : i < ds.length := (List.getElem?_eq_some_iff.mp h).1
theorem takeF {α : Type} {ds : List α} {p : α → Bool} {f : α → Dat} {i : Nat} {d : α} (h : ds[i]? = some d) : ((ds.take (i + 1)).filter p).map f = ((ds.take i).filter p).map f ++ if p d = true then [f d] else [] := by
  rw [take_next h, List.filter_append, List.map_append]
  cases q : p d with
  | true => rw [List.filter_cons_of_pos q]; rfl
  | false => rw [List.filter_cons_of_neg (by rw [q]; exact Bool.false_ne_true)]; rfl
theorem takeFl {α : Type} {ds : List α} {p : α → Bool} {f : α → Dat} {i : Nat} {d : α} (h : ds[i]? = some d) (hl : ds.length ≤ sizeLine) : (((ds.take i).filter p).map f).length < sizeLine := by
  have h1 := getL h
  have h2 := List.length_filter_le p (ds.take i)
  rw [List.length_map]
  rw [List.length_take] at h2
  omega
theorem lcp_inv {ds : List Dat} {v : Nat} {p : Dat → Bool} {f : Dat → Dat} (hl : ds.length ≤ sizeLine) (h : ∀ d ∈ ds, Pure1 g tt te ρ v d (p d) (f d)) : ∀ i d acc, ds[i]? = some d → acc = ((ds.take i).filter p).map f → EvT g tt (ρ.set v (.dat d)) fun b =>
    if b = true then EvC g te (ρ.set v (.dat d)) fun y => acc.length < sizeLine ∧ acc ++ [y] = ((ds.take (i + 1)).filter p).map f else acc = ((ds.take (i + 1)).filter p).map f := fun i d acc hd e => by
  subst e
  refine Pure1.turn (h d (List.mem_of_getElem? hd)) (fun hp => ⟨takeFl hd hl, ?_⟩) (fun hp => ?_)
  · rw [takeF hd, if_pos hp]
  · rw [takeF hd, if_neg (by rw [hp]; exact Bool.false_ne_true), List.append_nil]
theorem en_lcLp {v : Nat} {Φ : List Dat → Prop} (p : Dat → Bool) (f : Dat → Dat) (hv : ρ[v]? = some .no) (h : EvS g tl ρ fun d => ∃ ds, d = .lst ds ∧ ds.length ≤ sizeLine ∧ (∀ d ∈ ds, Pure1 g tt te ρ v d (p d) (f d)) ∧ Φ ((ds.filter p).map f)) :
    EvN g (tLc (iList g.K tl) (gName v) tt te [v]) ρ Φ := en_lcL hv fun X Y σ H Q R k => h X Y σ H Q R fun d w H1 hd => k d w H1 (by
  obtain ⟨ds, e, hl, hp, hf⟩ := hd
  exact ⟨ds, e, fun i acc => acc = ((ds.take i).filter p).map f, rfl, lcp_inv hl hp, fun acc ha => by rw [ha, List.take_length]; exact hf⟩)
theorem en_lcTp {v : Nat} {Φ : List Dat → Prop} (p : Dat → Bool) (f : Dat → Dat) (hv : ρ[v]? = some .no) (h : EvS g tl ρ fun d => ∃ ds, d = .tup ds ∧ ds.length ≤ sizeLine ∧ (∀ d ∈ ds, Pure1 g tt te ρ v d (p d) (f d)) ∧ Φ ((ds.filter p).map f)) :
    EvN g (tLc (iTup g.K tl) (gName v) tt te [v]) ρ Φ := en_lcT hv fun X Y σ H Q R k => h X Y σ H Q R fun d w H1 hd => k d w H1 (by
  obtain ⟨ds, rfl, hl, hp, hf⟩ := hd
  exact ⟨fun i acc => acc = ((ds.take i).filter p).map f, rfl, lcp_inv hl hp, fun acc ha => by rw [ha, List.take_length]; exact hf⟩)
theorem en_lcQp {v : Nat} {Φ : List Dat → Prop} (p : Dat → Bool) (f : Dat → Dat) (hv : ρ[v]? = some .no) (h : EvS g tl ρ fun d => ∃ ds, (d = .lst ds ∨ d = .tup ds) ∧ ds.length ≤ sizeLine ∧ (∀ d ∈ ds, Pure1 g tt te ρ v d (p d) (f d)) ∧ Φ ((ds.filter p).map f)) :
    EvN g (tLc (iSeq g.K tl) (gName v) tt te [v]) ρ Φ := en_lcQ hv fun X Y σ H Q R k => h X Y σ H Q R fun d w H1 hd => k d w H1 (by
  obtain ⟨ds, e, hl, hp, hf⟩ := hd
  exact ⟨ds, e, fun i acc => acc = ((ds.take i).filter p).map f, rfl, lcp_inv hl hp, fun acc ha => by rw [ha, List.take_length]; exact hf⟩)
theorem range_get {n i : Nat} (h : i < n) : (List.range n)[i]? = some i := by rw [List.getElem?_range h]
theorem en_lc1p {v : Nat} {Φ : List Dat → Prop} (p : Nat → Bool) (f : Nat → Dat) (hv : ρ[v]? = some .no) (h : EvA g tr ρ fun ds => ∃ n : Nat, ds = [.int n] ∧ n ≤ sizeLine ∧ (∀ i, i < n → Pure1 g tt te ρ v (.int i) (p i) (f i)) ∧ Φ (((List.range n).filter p).map f)) :
    EvN g (tLc (iRng1 tr) (gName v) tt te [v]) ρ Φ := en_lc1 hv fun X Y σ H Q R k => h X Y σ H Q R fun d w H1 hd => k d w H1 (by
  obtain ⟨n, e, hl, hp, hf⟩ := hd
  have sl : sizeLine = 16777216 := sizeLine_eq
  have rl : (List.range n).length ≤ sizeLine := by rw [List.length_range]; exact hl
  refine ⟨n, e, by omega, by omega, fun i acc => acc = (((List.range n).take i).filter p).map f, (by show [] = _; rw [List.take_zero]; rfl), fun i acc hi ea => ?_, fun acc ha => by rw [ha, Int.toNat_natCast, show (List.range n).take n = List.range n by rw [List.take_of_length_le (by rw [List.length_range]; exact Nat.le_refl _)]]; exact hf⟩
  subst ea
  have hi' : i < n := by omega
  refine Pure1.turn (hp i hi') (fun hp => ⟨takeFl (range_get hi') rl, ?_⟩) (fun hp => ?_)
  · show _ = (((List.range n).take (i + 1)).filter p).map f
    rw [takeF (range_get hi'), if_pos hp]
  · show _ = (((List.range n).take (i + 1)).filter p).map f
    rw [takeF (range_get hi'), if_neg (by rw [hp]; exact Bool.false_ne_true), List.append_nil])
theorem pure_mk {v : Nat} {d : Dat} {p : Bool} {f : Dat} (h : EvT g tt (ρ.set v (.dat d)) fun b => b = p ∧ (p = true → EvC g te (ρ.set v (.dat d)) fun y => y = f)) : Pure1 g tt te ρ v d p f := h
/-- no test -/
theorem pure_yes {v : Nat} {d : Dat} {f : Dat} (h : EvC g te (ρ.set v (.dat d)) fun y => y = f) : Pure1 g tYes te ρ v d true f := et_yes ⟨rfl, fun _ => h⟩
theorem filter_yes {α : Type} (l : List α) : (l.filter fun _ => true) = l := List.filter_eq_self.mpr fun _ _ => rfl
/-! ### x.pop(k), x.extend(e) of an own list, as statements; is of bools; a list times an int -/
theorem ds_popAt {i : Nat} {a : Option Addr} {ds : List Dat} (e : ρ[i]? = some (.own a ds)) (h : EvC g te ρ fun d => dInt d fun k => ∃ m d, 0 ≤ k ∧ k = (m : Nat) ∧ ds[m]? = some d ∧ ds.length ≤ sizeLine ∧ E.nx (ρ.set i (.own a (ds.eraseIdx m)))) :
    DSt g (tDrop (tBM g.K "list" rPopAt (tVar i) (tCons te tNil))) ρ E := fun X Y σ H D R M => by
  obtain ⟨p, xs, h1, h2, r, ha⟩ := R.own e
  refine ⟨_, h1, .inl ⟨rfl, xs, SqL.of h2⟩, ?_⟩
  refine h X Y σ H _ R fun d v H1 hd n1 r1 => ?_
  obtain ⟨k, rfl, m, d, k0, rfl, hm, z1, hn⟩ := dInt_inv hd
  cases r1
  have h2' := nx_own R n1 h1 e rfl h2
  obtain ⟨u, hu, ru⟩ := (r.mn n1.hid).get hm
  have hml := getL hu
  have hl := r.length
  have sl : sizeLine = 16777216 := sizeLine_eq
  refine ⟨p, xs, (m : Int), m, u, rfl, rfl, h2', by omega, by omega, seqIndex_of (by omega) (by omega), hu, ?_⟩
  exact M.nx _ _ _ hn ((R.nx n1).write h1 e rfl rfl (.own ha upd_same ((r.mn n1.hid).erase m)))
theorem ds_extend {i : Nat} {a : Option Addr} {ds : List Dat} (e : ρ[i]? = some (.own a ds)) (h : EvS g te ρ fun d => ∃ es, d = .lst es ∧ ds.length + es.length ≤ sizeLine ∧ E.nx (ρ.set i (.own a (ds ++ es)))) :
    DSt g (tDrop (tBM g.K "list" rExtend (tVar i) (tCons te tNil))) ρ E := fun X Y σ H D R M => by
  obtain ⟨p, xs, h1, h2, r, ha⟩ := R.own e
  refine ⟨_, h1, .inl ⟨rfl, xs, SqL.of h2⟩, ?_⟩
  refine h X Y σ H _ R fun d v H1 hd n1 r1 => ?_
  obtain ⟨es, rfl, hz, hn⟩ := hd
  obtain ⟨b, ys, rfl, q1, q2⟩ := r1.lst_inv hid_p
  have h2' := nx_own R n1 h1 e rfl h2
  refine ⟨p, b, xs, ys, rfl, rfl, h2', hide_same _ _ q1, by rw [r.length, q2.length]; exact hz, ?_⟩
  exact M.nx _ _ _ hn ((R.nx n1).write h1 e rfl rfl (.own ha upd_same ((r.mn n1.hid).append q2)))
end
section
variable {K : PySem.W.Frag}
def dIsB (neg : Bool) : Dat → Dat → (Dat → Prop) → Prop
  | .bl a, .bl b, Φ => Φ (.bl (if neg then !decide (a = b) else decide (a = b)))
  | _, _, _ => False
theorem dIsB_inv {neg : Bool} {x y : Dat} {Φ : Dat → Prop} (h : dIsB neg x y Φ) : ∃ a b, x = .bl a ∧ y = .bl b ∧ Φ (.bl (if neg then !decide (a = b) else decide (a = b))) := by
  cases x with
  | bl a => cases y with
    | bl b => exact ⟨a, b, rfl, rfl, h⟩
    | _ => cases h
  | _ => cases h
theorem n_isB {X : Cx} : OpR X (compareOp .Is) rIsB := op_isBl
theorem n_isnotB {X : Cx} : OpR X (compareOp .IsNot) rNotB := op_notBl
theorem od_isB : OpD K rIsB (dIsB false) := fun O pr H x y dx dy Φ Q s1 s2 rx ry h k => by
  obtain ⟨a, b, rfl, rfl, q⟩ := dIsB_inv h
  cases rx.bl_inv
  cases ry.bl_inv
  exact ⟨a, b, rfl, rfl, k _ _ H q (Same.refl _) (.bl _)⟩
theorem od_isnotB : OpD K rNotB (dIsB true) := fun O pr H x y dx dy Φ Q s1 s2 rx ry h k => by
  obtain ⟨a, b, rfl, rfl, q⟩ := dIsB_inv h
  cases rx.bl_inv
  cases ry.bl_inv
  exact ⟨a, b, rfl, rfl, k _ _ H q (Same.refl _) (.bl _)⟩
theorem dIsB_t {b : Bool} {Φ : Dat → Prop} (h : Φ (.bl b)) : dIsB false (.bl b) (.bl true) Φ := by
  show Φ (.bl (decide (b = true)))
  cases b <;> exact h
theorem dIsB_f {b : Bool} {Φ : Dat → Prop} (h : Φ (.bl (!b))) : dIsB false (.bl b) (.bl false) Φ := by
  show Φ (.bl (decide (b = false)))
  cases b <;> exact h
theorem dNotB_t {b : Bool} {Φ : Dat → Prop} (h : Φ (.bl (!b))) : dIsB true (.bl b) (.bl true) Φ := by
  show Φ (.bl (!decide (b = true)))
  cases b <;> exact h
theorem dNotB_f {b : Bool} {Φ : Dat → Prop} (h : Φ (.bl b)) : dIsB true (.bl b) (.bl false) Φ := by
  show Φ (.bl (!decide (b = false)))
  cases b <;> exact h
def dRep : Dat → Dat → (List Dat → Prop) → Prop
  | .lst xs, .int k, Φ => 0 ≤ k ∧ k < 2 ^ 60 ∧ xs.length * k.toNat ≤ sizeLine ∧ Φ (List.replicate k.toNat xs).flatten
  | _, _, _ => False
theorem RpA.rep {G : Hp} {vs : List V} {ds : List Dat} (r : RpA K G vs ds) : ∀ n : Nat, RpA K G (List.replicate n vs).flatten (List.replicate n ds).flatten
  | 0 => .nil
  | n + 1 => by
    rw [List.replicate_succ, List.flatten_cons, List.replicate_succ, List.flatten_cons]
    exact r.append (RpA.rep r n)
theorem on_rep : OpN K rRep dRep := fun O pr H x y dx dy Φ Q s1 s2 rx ry h k => by
  cases dx <;> cases dy <;> first | exact (show False from h).elim | skip
  obtain ⟨a, xs, rfl, q1, q2⟩ := rx.lst_inv (hide_mono s1)
  cases ry.int_inv
  obtain ⟨h1, h2, h3, h4⟩ := h
  refine ⟨a, _, xs, rfl, rfl, hide_same _ _ q1, by omega, by omega, by rw [q2.length]; exact h3, fun p hp => ?_⟩
  exact k _ p _ _ h4 (upd_new hp) hp upd_same ((q2.rep _).mn (hide_cons_upd hp))
end
section
variable {g : Gm} {ρ : List Sl} {ta : TE} {tr : TA} {C : Addr} {f : Str}
theorem ev_fldA {Φ : Dat → Prop} (na : NoAttr g.K C f) (cl : Cls g.K C) (h : EvC g ta ρ fun x => ∃ fs d, x = .ins C fs ∧ fs.lookup f = some d ∧ Φ d) : EvC g (tFld g.K ta f) ρ Φ := ev_fld cl na h
theorem fldI_mk {fs : List (Str × Dat)} {d : Dat} {Φ : Dat → Prop} (hl : fs.lookup f = some d) (h : Φ d) : ∃ fs' d', Dat.ins C fs = .ins C fs' ∧ fs'.lookup f = some d' ∧ Φ d' := ⟨_, _, rfl, hl, h⟩
theorem methI_mk {fs : List (Str × Dat)} {A : Prop} (hl : fs.lookup f = none) (h : A) : ∃ fs', Dat.ins C fs = .ins C fs' ∧ fs'.lookup f = none ∧ A := ⟨_, rfl, hl, h⟩
end
end NW

/-! NwN: tables that bound a web, over data. -/
namespace NW
open PySem PySem.Spec PyProof.Rows L2
@[reducible] def wholeB : Dat → Bool
  | .int _ => true
  | _ => false
def T_is_whole : DT := fun ρ Φ => ∃ d, ρ = [.dat d] ∧ plainD d = true ∧ Φ (.bl (wholeB d))
theorem T_is_whole_mk {d : Dat} {Φ : Dat → Prop} (hd : plainD d = true) (h : Φ (.bl (wholeB d))) : T_is_whole [.dat d] Φ := ⟨d, rfl, hd, h⟩
def wholes : List Dat → Option (List Int)
  | [] => some []
  | .int i :: ds => (wholes ds).map (i :: ·)
  | _ :: _ => none
theorem wholes_ints : ∀ is : List Int, wholes (is.map Dat.int) = some is
  | [] => rfl
  | i :: is => by show (wholes (is.map Dat.int)).map (i :: ·) = _; rw [wholes_ints is]; rfl
theorem wholes_some : ∀ {ds : List Dat} {is : List Int}, wholes ds = some is → ds = is.map Dat.int
  | [], is, h => by cases h; rfl
  | .int i :: ds, is, h => by
    cases e : wholes ds with
    | none => rw [show wholes (.int i :: ds) = (wholes ds).map (i :: ·) from rfl, e] at h; cases h
    | some js =>
      rw [show wholes (.int i :: ds) = (wholes ds).map (i :: ·) from rfl, e] at h
      cases h
      rw [wholes_some e]; rfl
  | .non :: ds, is, h => by cases h
  | .bl _ :: ds, is, h => by cases h
  | .str _ :: ds, is, h => by cases h
  | .lst _ :: ds, is, h => by cases h
  | .tup _ :: ds, is, h => by cases h
  | .dic _ :: ds, is, h => by cases h
  | .ins _ _ :: ds, is, h => by cases h
theorem wholes_none : ∀ {ds : List Dat}, wholes ds = none → ∃ d ∈ ds, wholeB d = false
  | [], h => by cases h
  | .int i :: ds, h => by
    cases e : wholes ds with
    | none => obtain ⟨d, hd, hw⟩ := wholes_none e; exact ⟨d, List.mem_cons_of_mem _ hd, hw⟩
    | some js =>
      rw [show wholes (.int i :: ds) = (wholes ds).map (i :: ·) from rfl, e] at h
      cases h
  | .non :: ds, h => ⟨_, List.mem_cons_self, rfl⟩
  | .bl _ :: ds, h => ⟨_, List.mem_cons_self, rfl⟩
  | .str _ :: ds, h => ⟨_, List.mem_cons_self, rfl⟩
  | .lst _ :: ds, h => ⟨_, List.mem_cons_self, rfl⟩
  | .tup _ :: ds, h => ⟨_, List.mem_cons_self, rfl⟩
  | .dic _ :: ds, h => ⟨_, List.mem_cons_self, rfl⟩
  | .ins _ _ :: ds, h => ⟨_, List.mem_cons_self, rfl⟩
/-- a whole entry from 0 on -/
def wholeNN : Dat → Bool
  | .int i => decide (i ≥ 0)
  | _ => false
/-- the step of a bound at one set and one circuit -/
def stepB (is : List Int) (p : Int) (i : Nat) : Bool := !(inB i p) || !decide ((is[i]?).getD 0 < 1 + (is[(i - p).toNat]?).getD 0)
abbrev lowB (is : List Int) (p : Int) (i : Nat) : Bool := decide ((is[i]?).getD 0 < 1 + (is[(i - p).toNat]?).getD 0)
theorem all_id {α : Type} {l : List α} {f : α → Bool} : (fun bs : List Bool => bs.all id) (l.map f) = l.all f := by
  show (l.map f).all id = _
  rw [List.all_map]; rfl
theorem any_id {α : Type} {l : List α} {f : α → Bool} : (fun bs : List Bool => bs.any id) (l.map f) = l.any f := by
  show (l.map f).any id = _
  rw [List.any_map]; rfl
theorem all_fil {α : Type} (a b : α → Bool) : ∀ l : List α, l.all (fun i => !(a i) || !(b i)) = !((l.filter a).any b)
  | [] => rfl
  | x :: l => by
    rw [List.all_cons, all_fil a b l]
    cases q : a x with
    | true => rw [List.filter_cons_of_pos q, List.any_cons]; simp
    | false => rw [List.filter_cons_of_neg (by rw [q]; exact Bool.false_ne_true)]; simp
theorem stepB_all (is : List Int) (p : Int) (l : List Nat) : l.all (stepB is p) = !((l.filter fun i : Nat => inB i p).any (lowB is p)) := all_fil (fun i : Nat => inB i p) (lowB is p) l
theorem inB_of {i p : Int} (h : inB i p = true) : Builtin.bitAnd i p = p := of_decide_eq_true h
def bndI (rs : List Int) (is : List Int) : Bool := rs.all fun p => (List.range is.length).all (stepB is p)
noncomputable def boundD (rows : List Arr) (ds : List Dat) (num : Int) : Bool := decide (ds.length = 2 ^ rows.length) && (ds.all wholeNN && match wholes ds with
  | none => false
  | some is => bndI (circs rows) is && decide ((is[2 ^ rows.length - 1]?).getD 0 = num))
theorem wholeNN_all {ds : List Dat} (h : ds.all wholeNN = true) : ∃ is : List Int, ds = is.map Dat.int ∧ wholes ds = some is ∧ ∀ i ∈ is, 0 ≤ i := by
  cases e : wholes ds with
  | none =>
    obtain ⟨d, hd, hw⟩ := wholes_none e
    have := List.all_eq_true.mp h d hd
    cases d <;> first | (cases hw; done) | (cases this; done)
  | some is =>
    have e2 := wholes_some e
    subst e2
    exact ⟨is, rfl, rfl, fun i hi => by
      have := List.all_eq_true.mp h (.int i) (List.mem_map.mpr ⟨i, hi, rfl⟩)
      exact of_decide_eq_true this⟩
def T_is_bound (C : Addr) : DT := fun ρ Φ => ∃ (rows : List Arr) (ds : List Dat) (num : Int), (ρ = [.dat (webD C rows), .dat (.lst ds), .dat (.int num)] ∨ ρ = [.dat (webD C rows), .dat (.tup ds), .dat (.int num)]) ∧ WebS rows ∧ rows.length ≤ 6 ∧
  ds.length ≤ 10000 ∧ (∀ d ∈ ds, plainD d = true) ∧ Φ (.bl (boundD rows ds num))
def T_law_is_bound : DT := fun ρ Φ => ∃ (rows : List Arr) (ds : List Dat) (num : Int), ρ = [.dat (.lst (rows.map arrD)), .dat (.lst ds), .dat (.int num)] ∧ ArrsOk rows ∧ (rows.map (·.1)).Nodup ∧ rows.length ≤ 6 ∧
  ds.length ≤ 10000 ∧ (∀ d ∈ ds, plainD d = true) ∧ Φ (.bl (boundD rows ds num))
/-! ### bits counted -/
theorem band (a b : Nat) : Builtin.bitAnd (a : Int) (b : Int) = ((a &&& b : Nat) : Int) := by
  have e : Builtin.bitAnd (a : Int) (b : Int) = (((a : Int).toNat &&& (b : Int).toNat : Nat) : Int) := by
    unfold Builtin.bitAnd
    simp
  rw [e, Int.toNat_natCast, Int.toNat_natCast]
def cnt : Nat → Nat → Nat
  | 0, _ => 0
  | n + 1, i => i % 2 + cnt n (i / 2)
theorem selB_zero (i : Nat) : selB (i : Int) 0 = decide (i % 2 = 1) := by
  unfold selB
  rw [PyProof.Rows.bitAnd_m1, Int.pow_zero, Int.ediv_one]
  exact decide_eq_decide.mpr (by omega)
theorem selB_succ (i k : Nat) : selB (i : Int) (k + 1) = selB ((i / 2 : Nat) : Int) k := by
  unfold selB
  have e2 : (i : Int) / 2 ^ (k + 1) = ((i / 2 : Nat) : Int) / 2 ^ k := by
    rw [show (2 : Int) ^ (k + 1) = 2 * 2 ^ k by rw [Int.pow_succ, Int.mul_comm], show ((i / 2 : Nat) : Int) = (i : Int) / 2 from rfl]
    exact (Int.ediv_ediv_of_nonneg (by decide)).symm
  rw [e2]
theorem cnt_fil : ∀ (n i : Nat), ((List.range n).filter fun k => selB (i : Int) k).length = cnt n i
  | 0, i => rfl
  | n + 1, i => by
    rw [List.range_succ_eq_map, List.filter_cons, List.filter_map]
    have ih := cnt_fil n (i / 2)
    have e : (List.range n).filter ((fun k => selB (i : Int) k) ∘ Nat.succ) = (List.range n).filter fun k => selB ((i / 2 : Nat) : Int) k := by
      congr 1
      funext k
      exact selB_succ i k
    rw [e, selB_zero]
    unfold cnt
    by_cases q : i % 2 = 1
    · rw [decide_eq_true q, if_pos rfl, List.length_cons, List.length_map, ih]; omega
    · rw [decide_eq_false q, if_neg Bool.false_ne_true, List.length_map, ih]; omega
theorem cnt_sub : ∀ (n i p : Nat), i &&& p = p → cnt n i = cnt n p + cnt n (i - p)
  | 0, _, _, _ => rfl
  | n + 1, i, p, h => by
    have h1 : (i / 2) &&& (p / 2) = p / 2 := by rw [← Nat.and_div_two, h]
    have h2 : p / 2 ≤ i / 2 := by rw [← h1]; exact Nat.and_le_left
    have h3 : p % 2 ≤ i % 2 := by
      rcases Nat.mod_two_eq_zero_or_one p with z | z
      · omega
      · have := (Nat.and_mod_two_eq_one (a := i) (b := p)).mp (by rw [h]; exact z)
        omega
    have ih := cnt_sub n (i / 2) (p / 2) h1
    unfold cnt
    rw [ih, show (i - p) / 2 = i / 2 - p / 2 by omega, show (i - p) % 2 = i % 2 - p % 2 by omega]
    omega
theorem selTo_length {rows : List Arr} {idx : Int} : ∀ k : Nat, k ≤ rows.length → (selTo rows idx k).length = ((List.range k).filter fun j => selB idx j).length
  | 0, _ => rfl
  | k + 1, h => by
    unfold selTo
    rw [List.range_succ, List.filter_append, List.length_append, List.length_append, selTo_length k (by omega)]
    by_cases q : selB idx k = true
    · rw [if_pos q, List.getElem?_eq_getElem (by omega), List.filter_cons_of_pos q]; rfl
    · rw [if_neg q, List.filter_cons_of_neg q]; rfl
/-- a circuit has two arrows or more -/
theorem ring_two {S r : List Arr} (h : Ring S r) (ok : ∀ a ∈ S, a.2.1 ≠ a.2.2) (ne : S ≠ []) : 2 ≤ S.length := by
  by_cases q : 2 ≤ S.length
  · exact q
  · have h0 := List.length_pos_iff.mpr ne
    have hl := h.len
    match r, h, hl with
    | [], h, hl => simp at hl; omega
    | [a], h, hl =>
      have e := (h.ln a rfl).la a (by rfl)
      exact absurd e.symm (ok a (h.sub a (by simp)))
    | a :: b :: r, h, hl => simp at hl; omega
theorem circs_ring {rows : List Arr} : ∀ {n : Nat}, ∀ x ∈ circsTo rows n, ∃ r, Ring (sel rows x) r
  | 0, x, h => by cases h
  | n + 1, x, h => by
    unfold circsTo at h
    rcases List.mem_append.mp h with z | z
    · exact circs_ring x z
    · by_cases q : ringB rows (1 + (n : Int)) = true
      · rw [if_pos q] at z
        rw [List.mem_singleton.mp z]
        exact @of_decide_eq_true _ (Classical.propDecidable _) q
      · rw [if_neg q] at z; cases z
theorem circs_two {rows : List Arr} (ok : ArrsOk rows) {p : Nat} (h : (p : Int) ∈ circs rows) : 2 ≤ cnt rows.length p := by
  obtain ⟨h1, h2⟩ := circsTo_mem _ h
  obtain ⟨r, hr⟩ := circs_ring _ h
  have p2 : 1 ≤ 2 ^ rows.length := Nat.one_le_two_pow
  have ne := sel_ne (rows := rows) (idx := p) h1 (by have : (2 : Int) ^ rows.length = ((2 ^ rows.length : Nat) : Int) := (Int.natCast_pow 2 _).symm ▸ rfl; omega)
  have := ring_two hr (fun a ha => (ok a (sel_sub a ha)).ne) ne
  unfold sel at this
  rw [selTo_length _ (Nat.le_refl _), cnt_fil] at this
  exact this
/-! ### bounds -/
theorem bndI_iff {rs is : List Int} : bndI rs is = true ↔ ∀ p ∈ rs, ∀ i : Nat, i < is.length → inB i p = true → 1 + (is[(i - p).toNat]?).getD 0 ≤ (is[i]?).getD 0 := by
  unfold bndI
  rw [List.all_eq_true]
  constructor
  · intro h p hp i hi hb
    have := List.all_eq_true.mp (h p hp) i (List.mem_range.mpr hi)
    unfold stepB at this
    rw [hb] at this
    have h2 : ¬ (is[i]?).getD 0 < 1 + (is[((i : Int) - p).toNat]?).getD 0 := by simpa using this
    omega
  · intro h p hp
    refine List.all_eq_true.mpr fun i hi => ?_
    have hi' := List.mem_range.mp hi
    unfold stepB
    cases q : inB i p with
    | false => rfl
    | true =>
      have := h p hp i hi' q
      rw [decide_eq_false (by omega)]; rfl
theorem bndI_more {rs is : List Int} (m : Int) (hp : ∀ p ∈ rs, 0 ≤ p) (h : bndI rs is = true) : bndI rs (is.map (· + m)) = true := by
  rw [bndI_iff] at h ⊢
  intro p hm i hi hb
  rw [List.length_map] at hi
  have h1 := h p hm i hi hb
  have h2 := inB_le (by omega) (hp p hm) (inB_of hb)
  have hp' := hp p hm
  have hk : ((i : Int) - p).toNat < is.length := by omega
  rw [List.getElem?_map, List.getElem?_map, List.getElem?_eq_getElem hi, List.getElem?_eq_getElem hk]
  rw [List.getElem?_eq_getElem hi, List.getElem?_eq_getElem hk] at h1
  simp only [Option.map_some, Option.getD_some] at h1 ⊢
  omega
theorem inB_nat {i p : Nat} (h : inB i p = true) : i &&& p = p := by
  have := inB_of h
  rw [band] at this
  omega
theorem bnd_cnt {rows : List Arr} (ok : ArrsOk rows) (f : Nat → Int) (N : Nat) (hf : ∀ a b, 2 ≤ b → 1 + f a ≤ f (b + a)) : bndI (circs rows) ((List.range N).map fun i => f (cnt rows.length i)) = true := by
  rw [bndI_iff]
  intro p hm i hi hb
  rw [List.length_map, List.length_range] at hi
  obtain ⟨p1, _⟩ := circsTo_mem p hm
  obtain ⟨q, rfl⟩ : ∃ q : Nat, p = q := ⟨p.toNat, by omega⟩
  have h2 := inB_le (by omega) (by omega) (inB_of hb)
  have e := cnt_sub rows.length i q (inB_nat hb)
  have h3 := circs_two ok hm
  rw [show ((i : Int) - q).toNat = i - q by omega, List.getElem?_map, List.getElem?_map, List.getElem?_range hi, List.getElem?_range (by omega : i - q < N)]
  simp only [Option.map_some, Option.getD_some]
  rw [e]
  exact hf _ _ h3
theorem tabN_pre {rs : List Int} {j k : Nat} (hj : j ≤ k) : ∀ m, k ≤ m → (tabN rs m)[j]? = (tabN rs k)[j]?
  | 0, h => by rw [show k = 0 by omega]
  | m + 1, h => by
    by_cases q : k = m + 1
    · rw [q]
    · rw [tabN_succ, List.getElem?_append_left (by rw [tabN_len]; omega)]
      exact tabN_pre hj m (by omega)
theorem tabN_at {rs : List Int} {i m : Nat} (h1 : 1 ≤ i) (h2 : i ≤ m) : (tabN rs m)[i]? = some (entry rs (tabN rs (i - 1)) i) := by
  obtain ⟨k, rfl⟩ : ∃ k, i = k + 1 := ⟨i - 1, by omega⟩
  rw [tabN_pre (Nat.le_refl _) m h2, tabN_succ, List.getElem?_append_right (by rw [tabN_len]; omega), tabN_len, Nat.sub_self]
  show some _ = _
  rw [Nat.add_sub_cancel, show (1 : Int) + (k : Int) = ((k + 1 : Nat) : Int) by omega]
theorem tabN_zero {rs : List Int} (m : Nat) : (tabN rs m)[0]? = some 0 := by rw [tabN_pre (Nat.le_refl 0) m (Nat.zero_le m)]; rfl
theorem tabN_nn {rs : List Int} (m : Nat) : ∀ i ∈ tabN rs m, 0 ≤ i := fun i hi => by
  obtain ⟨j, hj, e⟩ := List.mem_iff_getElem.mp hi
  have h := List.getElem?_eq_getElem hj
  rw [e] at h
  rw [tabN_len] at hj
  by_cases q : 1 ≤ j
  · rw [tabN_at q (by omega)] at h
    cases h
    exact maxL_nn _
  · rw [show j = 0 by omega, tabN_zero] at h
    cases h
    exact Int.le_refl _
theorem bnd_tab {rs : List Int} (hp : ∀ p ∈ rs, 1 ≤ p) (m : Nat) : bndI rs (tabN rs m) = true := by
  rw [bndI_iff]
  intro p hm i hi hb
  rw [tabN_len] at hi
  have hp' := hp p hm
  have h2 := inB_le (by omega) (by omega) (inB_of hb)
  rw [tabN_at (show 1 ≤ i by omega) (by omega)]
  show _ ≤ entry rs (tabN rs (i - 1)) i
  refine maxL_le _ (List.mem_map.mpr ⟨p, List.mem_filter.mpr ⟨hm, hb⟩, ?_⟩)
  rw [tabN_pre (rs := rs) (show ((i : Int) - p).toNat ≤ i - 1 by omega) m (by omega)]
theorem boundD_ints {rows : List Arr} {is : List Int} {num : Int} (hl : is.length = 2 ^ rows.length) (h0 : ∀ i ∈ is, 0 ≤ i) (hb : bndI (circs rows) is = true) : boundD rows (is.map Dat.int) num = decide ((is[2 ^ rows.length - 1]?).getD 0 = num) := by
  unfold boundD
  rw [wholes_ints, List.length_map, decide_eq_true hl, Bool.true_and, show (is.map Dat.int).all wholeNN = true from List.all_eq_true.mpr fun d hd => by
    obtain ⟨i, hi, rfl⟩ := List.mem_map.mp hd
    exact decide_eq_true (h0 i hi), Bool.true_and]
  show (bndI (circs rows) is && _) = _
  rw [hb, Bool.true_and]
theorem boundD_len {rows : List Arr} {ds : List Dat} {num : Int} (hl : ds.length ≠ 2 ^ rows.length) : boundD rows ds num = false := by
  unfold boundD
  rw [decide_eq_false hl]; rfl
/-! ### spoilt tables -/
/-- data of depth at most 1, no dicts, no instances -/
def OddP (d : Dat) : Prop := okD d = true ∧ dpt d ≤ 1
theorem OddP.pl {d : Dat} (h : OddP d) : plainD d = true := okD_plain h.1
theorem OddP.int (i : Int) : OddP (.int i) := ⟨rfl, Nat.zero_le _⟩
theorem okA_of : ∀ {ds : List Dat}, (∀ d ∈ ds, okD d = true) → okA ds = true
  | [], _ => rfl
  | d :: ds, h => by
    show (okD d && okA ds) = true
    rw [h d List.mem_cons_self, okA_of fun e he => h e (List.mem_cons_of_mem _ he)]; rfl
theorem dptA_of {n : Nat} : ∀ {ds : List Dat}, (∀ d ∈ ds, dpt d ≤ n) → dptA ds ≤ n
  | [], _ => Nat.zero_le _
  | d :: ds, h => Nat.max_le.mpr ⟨h d List.mem_cons_self, dptA_of fun e he => h e (List.mem_cons_of_mem _ he)⟩
def T_odd : DT := fun ρ Φ => ρ = [.sto] ∧ ∀ d, OddP d → Φ d
theorem T_odd_mk {Φ : Dat → Prop} (h : ∀ d, OddP d → Φ d) : T_odd [.sto] Φ := ⟨rfl, h⟩
def T_put : NT := fun ρ Φ => ∃ (ds : List Dat) (at_ : Nat) (d : Dat), (ρ = [.dat (.lst ds), .dat (.int at_), .dat d] ∨ ρ = [.dat (.tup ds), .dat (.int at_), .dat d]) ∧ ds.length ≤ 100000 ∧ at_ ≤ ds.length ∧ Φ (ds.take at_ ++ [d] ++ ds.drop at_)
def T_bentI : NT := fun ρ Φ => ∃ (is : List Int), ρ = [.sto, .dat (.lst (is.map Dat.int)), .dat (.int 0)] ∧ is.length ≤ 10000 ∧ ∀ es : List Dat, es.length ≤ is.length + 1 → (∀ e ∈ es, OddP e) → Φ es
/-- _law_copy of data at most n - 1 deep -/
def T_copy : Nat → DT
  | 0 => fun _ _ => False
  | n + 1 => fun ρ Φ => ∃ d, ρ = [.dat d] ∧ dpt d ≤ n ∧ okD d = true ∧ Φ d
theorem T_copy_mk {n : Nat} {d : Dat} {Φ : Dat → Prop} (h1 : dpt d ≤ n) (h2 : okD d = true) (h : Φ d) : T_copy (n + 1) [.dat d] Φ := ⟨d, rfl, h1, h2, h⟩
def T_base : NT := fun ρ Φ => ∃ rows : List Arr, ρ = [.sto, .dat (.lst (rows.map arrD))] ∧ ArrsOk rows ∧ (rows.map (·.1)).Nodup ∧ rows.length ≤ 6 ∧ ∀ is : List Int, is.length = 2 ^ rows.length → (∀ i ∈ is, 0 ≤ i) → bndI (circs rows) is = true → Φ (is.map Dat.int)
def T_spoilt : NT := fun ρ Φ => ∃ (rows : List Arr) (is : List Int), ρ = [.sto, .dat (.lst (rows.map arrD)), .dat (.lst (is.map Dat.int))] ∧ ArrsOk rows ∧ (rows.map (·.1)).Nodup ∧ rows.length ≤ 6 ∧ is.length = 2 ^ rows.length ∧ ∀ es : List Dat, es.length ≤ is.length + 1 → (∀ e ∈ es, OddP e) → Φ es
def T_agrees (C : Addr) : DT := fun ρ Φ => ∃ (rows : List Arr) (ds : List Dat) (num : Int), ρ = [.sto, .dat (webD C rows), .dat (.lst (rows.map arrD)), .dat (.lst ds), .dat (.int num)] ∧ WebS rows ∧ rows.length ≤ 6 ∧ ds.length ≤ 9000 ∧ (∀ d ∈ ds, OddP d) ∧ Φ (.bl true)
def T_refusedB (C : Addr) : DT := fun ρ Φ => ∃ rows : List Arr, ρ = [.dat (webD C rows), .dat (.int rows.length)] ∧ 6 < rows.length ∧ rows.length ≤ 12 ∧ Φ (.bl true)
def T_is_boundX (C D : Addr) : XT := fun ρ Φ Ξ => ∃ (rows : List Arr) (d e : Dat), ρ = [.dat (webD C rows), .dat d, .dat e] ∧ 6 < rows.length ∧ rows.length ≤ 12 ∧ Ξ D (tooMany rows.length)
/-! ### more of the logic -/
section
variable {g : Gm} {X : List Addr} {Y : Hp} {σ : L2.St} {ρ : List Sl} {H H' : Hp} {te ta tb tc tl : TE} {tt : TT} {tr : TA} {t u : TS} {E : DE} {D : Ends}
theorem ev_callE {T : ET} {Ex : XK} {Φ : Dat → Prop} (h : EvP g tr ρ fun πs => T πs Φ fun ds => Φ (.lst ds)) : EvC g (tCall (spE g.K T) [] Ex tr) ρ Φ := fun X Y σ H Q R k =>
  h X Y σ H _ R fun πs vs H1 hT n1 r1 => by
    show spE g.K T (vs ++ []) H1 _ Ex
    rw [List.append_nil]
    refine ⟨g.st, X ++ owned σ ρ, πs, _, _, call_rs (R.nx n1) r1, hT, fun d v H' hd n2 r2 => k d v H' hd (n1.trans n2) (r2.mn back_mono), fun ds p xs H' hd n2 hp hx r2 => ?_⟩
    have R1 := R.nx n1
    have np := R1.new hp
    exact k (.lst ds) (.ref p) H' hd (n1.trans n2) (.lst ((hide_out np).trans hx) (r2.mn (hide_mono fun b hb => by
      rcases List.mem_append.mp hb with z | z
      · exact List.mem_cons_of_mem _ (List.mem_append_left _ (List.mem_append_left _ z))
      · rcases List.mem_append.mp z with z | z
        · exact List.mem_cons_of_mem _ (List.mem_append_right _ z)
        · exact List.mem_cons_of_mem _ (List.mem_append_left _ (List.mem_append_right _ z)))))
end
section
variable {X : Cx} {k : Nat} {C : Addr} {ps : List Str} {sp : Sp} {x m : Str} {p pos apos : Pos} {e o : Expr} {es : List Expr} {ta : TE} {t : TA} {W : WX}
theorem px_meth {pl : Sem Bool} (c : CalMX X.prog X.w X.K X.mg X.base k C m ps sp) (tk : L2N.Takes X W) (hr : Room k X.A) (he : PE X o ta) (ha : PA X (e :: es) t)
    (hst : starEach (e :: es) X.env = (false, eval e X.env) :: starEach es X.env := by rfl) (hpl : (backTo pos (starEach es X.env)).any (·.1) = false := by rfl)
    (ht : eval (.Call (.Attribute o m apos) (e :: es) [] pos) X.env = (do
      let ov ← eval o X.env
      standAt apos.atName
      let (f, first) ← holding [ov] (getMethod ov m pl)
      callWith pos f first (backTo pos (starEach (e :: es) X.env)) (backToKw pos (keywordEach [] X.env))) := by rfl) :
    PE X (.Call (.Attribute o m apos) (e :: es) [] pos) (tMethX C m sp (WE W) ta t) := by
  obtain ⟨f, fd, hm, hb, F⟩ := c.ex
  refine ⟨fun pins s σ H Q I h => ?_⟩
  refine PySem.W.methodCall_KW (pl := pl) (thn (he.run pins s σ H _ I h) fun u s1 ⟨x, H1, I1, rx, a, dx, fs, ex, ea, l, q⟩ => ?_) ht
  subst ex
  obtain rfl : u = Value.ref a := rx
  refine getmeth_ok I1 ea c.cl hm l ?_
  refine PySem.W.callWith_K (first := [.ref a]) (h₀ := X.base) I.ok.mod.kin hm.kp (thn (ha.run pos pins s1 σ H1 _ I1 q) fun us s2 ⟨vs, H2, I2, r, q2⟩ => ⟨I2.kIn, ?_⟩) hst hpl
  exact run_fnS (us := .ref a :: us) (vs := .ref a :: vs) F hr hb (L2N.passAt tk σ) I2 (.cons rfl r) q2
end
theorem sz0 {A : Prop} (h : A) : ([] : List Dat).length ≤ sizeLine ∧ A := ⟨Nat.zero_le _, h⟩
theorem sz1 {a : Dat} {A : Prop} (h : A) : [a].length ≤ sizeLine ∧ A := ⟨by show 1 ≤ sizeLine; decide, h⟩
theorem sz2 {a b : Dat} {A : Prop} (h : A) : [a, b].length ≤ sizeLine ∧ A := ⟨by show 2 ≤ sizeLine; decide, h⟩
theorem sz3 {a b c : Dat} {A : Prop} (h : A) : [a, b, c].length ≤ sizeLine ∧ A := ⟨by show 3 ≤ sizeLine; decide, h⟩
theorem sz4 {a b c d : Dat} {A : Prop} (h : A) : [a, b, c, d].length ≤ sizeLine ∧ A := ⟨by show 4 ≤ sizeLine; decide, h⟩
end NW

/-! NwSt: {e for x in xs if ..} of ints and texts; its length. -/
namespace NW
open PySem PySem.Spec PyProof.Rows L2
abbrev emptyK (P : Program) (w : World) (D : Addr) : HO := SetK P w D (fun _ => false) 0
abbrev plusK (P : Program) (w : World) (D : Addr) (S : Key → Bool) (n : Nat) (c : Key) : HO := SetK P w D (fun j => S j || decide (j = c)) (if S c = true then n else n + 1)
/-- the new set stands at D; a turn adds the key that te gives -/
def tScK (P : Program) (w : World) (wi : TI) (g : TG) (tt : TT) (te : TE) (vs : List Nat) : TE := fun σ H Q => wi σ H fun J HJ => ∀ D, HJ D = none → ∃ W : Nat → Nat → Hp → Prop, (∃ m, W 0 m (upd HJ D (emptyK P w D))) ∧
  ∀ i m HW, W i m HW → (J.stop i HW ∧ Q (.ref D) HW) ∨ (J.go i HW ∧ ∃ Z : Hp → Prop, (∀ HZ, Z HZ → ∃ m', m' < m ∧ W (i + 1) m' HZ) ∧ ∀ x Hx, J.yld i HW x Hx → g x (wipe σ vs) Hx fun σg Hg => wipe σg vs = wipe σ vs ∧
    tt σg Hg fun b Hb => if b = true then te σg Hb fun y Hy => ∃ (c : Key) (S : Key → Bool) (n : Nat), y = kV c ∧ Hy D = some (SetK P w D S n) ∧ n + 1 < scanBound ∧ Z (upd Hy D (plusK P w D S n c)) else Z Hb)
section
variable {X : Cx}
theorem addK_ok {pins : List (Addr × Obj)} {σ : L2.St} {H : Hp} {s : Shared} {E : Value → Shared → Prop} {D : Addr} {S : Key → Bool} {n : Nat} {c : Key} {u : Value} {Q : Value → Shared → Prop} (I : Inv X pins σ H s) (r : RelV (kV c) u) (hD : H D = some (SetK X.prog X.w D S n)) (room : n + 1 < scanBound)
    (h : ∀ s', Inv X pins σ (upd H D (plusK X.prog X.w D S n c)) s' → Q .none s') : wpAny (model X.prog X.w) X.A (call (.builtin "set.add") [.ref D, u]) Q E s :=
  call_set_add (kV_is r) (key_scan r) (setK_get I hD) room fun hp sb R => h _ (I.write (e := D) (t' := s.toks + 1) (by rw [hD]; trivial) (.inl rfl) (fun b v hb hv => (sb.2 b hb).trans hv) (by
    obtain ⟨o, _, _, _, ho, _⟩ := R
    exact ⟨o, ho⟩) (setK_new R))
abbrev rawSet (w : World) : Obj := { cls := .type "set", dict := none, data := .set #[] 0 (.fresh 0 0 (!w.params.followText "set-order")) }
theorem emptyK_at {P : Program} {w : World} {h : Heap} : (h.push (rawSet w)).SetOf (mixKind P w) h.objs.size (fun _ => false) 0 :=
  ⟨_, #[], 0, _, Heap.get?_push_size _ rfl, ⟨rfl, rfl, rfl⟩, rfl, (fun e he => by simp at he), (fun k => by simp), (by decide), (by rfl), rfl⟩
theorem scK_core {pins : List (Addr × Obj)} {s : Shared} {σ : L2.St} {H : Hp} {Q : VK} {elt tg it0 : Expr} {ifs : List Expr} {scope : Scope} {own : List (Str × Nat)} {pos posC : Pos} {wi : TI} {g : TG} {tt : TT} {te : TE} {use : Option (Value → Sem Unit)} {Qf : Value → Shared → Prop}
    (calm : X.calm = true) (ndN : X.N.Nodup) (I : Inv X pins σ H s) (pi : PI X tg it0 wi) (bk : BlkOk X.N X.env.scope scope own)
    (hg : ∀ (s : Shared) (H : Hp) (C : Addr) (cl : List (Str × Addr)) (fp : List Addr), PG (X.blk s H scope (compEnvC scope cl C X.env) fp) tg g)
    (ht : ∀ (s : Shared) (H : Hp) (C : Addr) (cl : List (Str × Addr)) (fp : List Addr), PTs (X.blk s H scope (compEnvC scope cl C X.env) fp) ifs tt)
    (he : ∀ (s : Shared) (H : Hp) (C : Addr) (cl : List (Str × Addr)) (fp : List Addr), PE (X.blk s H scope (compEnvC scope cl C X.env) fp) elt te)
    (fold : ∀ x, foldedSetIterable it0 X.env x = pure x) (h : tScK X.prog X.w wi g tt te (own.map (·.2)) σ H Q)
    (out : ∀ D C sE m HE, Inv X pins σ HE sE → Q (.ref D) HE → sE.heap.Ns C m → FpOk X pins HE C → compPost (model X.prog X.w) X.A X.xe use Qf (.ref D) C (.ok .next) sE) :
    wpAny (model X.prog X.w) X.A (comprehension (.SetComp elt [⟨tg, it0, ifs, 0⟩] scope pos) scope X.env posC (newSet (.type "set")) false (eval it0 X.env) use) Qf X.xe s := by
  have cells : ∀ y ∈ scope.names, y.2 = .free → ∃ c, X.env.cells.lookup y.1 = some c := fun y hy e => (bk.free y hy e).elim (fun k => I.ok.has _ (.inl k)) fun k => I.ok.has _ (.inr k)
  refine wpAny_comprehension_free (use := use) rfl fold (closure_ok cells) bk.kind (fun y hy e => by rw [bk.uniq y hy, e]) (thn (pi.run _ s σ H _ I h) fun xv s1 hx => thn hx fun iv sJ hJ => ?_)
  obtain ⟨jt, fp, tn, J, HJ, ei, IJ, T, stJ, fJ, q⟩ := hJ
  subst ei
  refine PpSet.newSet_ok (newEnv_comp ?_)
  generalize eD : sJ.heap.objs.size = D
  have noD : HJ D = none := IJ.hok.fresh (Nat.le_of_eq eD)
  obtain ⟨W, ⟨m0, w0⟩, turn⟩ := q D noD
  generalize esA : ({ sJ with heap := sJ.heap.push (rawSet X.w) } : Shared) = sA
  have hpA : sA.heap = sJ.heap.push (rawSet X.w) := by rw [← esA]
  have IA : Inv X pins σ (upd HJ D (emptyK X.prog X.w D)) sA := by
    rw [← esA]
    refine IJ.laid (t' := sJ.toks) (fun b o e => Heap.get?_push_of_some _ e) (Nat.le_of_eq eD) ?_
    rw [← eD]
    exact setK_new emptyK_at
  have lowF : ∀ b ∈ fp, b < sJ.heap.objs.size := fun b hb => by
    obtain ⟨_, e, _⟩ := T.obj _ _ stJ b hb
    exact Heap.lt_size e
  have fA : ∀ b ∈ fp, FpOk X pins (upd HJ D (emptyK X.prog X.w D)) b ∧ b < sA.heap.objs.size := fun b hb => by
    have lt := lowF b hb
    refine ⟨⟨?_, (fJ b hb).2⟩, by rw [hpA, Heap.size_push]; exact Nat.lt_succ_of_lt lt⟩
    rw [upd_ne (fun z => by rw [z, ← eD] at lt; exact Nat.lt_irrefl _ lt)]
    exact (fJ b hb).1
  have stA : tn 0 sA.heap := T.keep _ _ _ stJ fun b _ o e => by rw [hpA]; exact Heap.get?_push_of_some _ e
  have IB := block_start IA bk ndN fA
  have noF : ∀ b ∈ fp, (upd HJ D (emptyK X.prog X.w D)) b = none := fun b hb => (fA b hb).1.1
  generalize eHA : upd HJ D (emptyK X.prog X.w D) = HA at IA IB w0 noF fA
  have gg := hg sA HA sA.heap.objs.size (cellsFrom (sA.heap.objs.size + 1) scope.names (cloFrom X.env.cells scope.names [])) fp
  have gt := ht sA HA sA.heap.objs.size (cellsFrom (sA.heap.objs.size + 1) scope.names (cloFrom X.env.cells scope.names [])) fp
  have ge := he sA HA sA.heap.objs.size (cellsFrom (sA.heap.objs.size + 1) scope.names (cloFrom X.env.cells scope.names [])) fp
  have lifted : ∀ b o, sA.heap.get? b = some o → (pushCells (sA.heap.push { cls := .type "dict", data := .dict #[] }) scope.names).get? b = some o := fun b o e => pushCells_keeps _ _ _ _ (Heap.get?_push_of_some _ e)
  suffices main : ∀ ce : Env, ce = compEnvC scope (cellsFrom (sA.heap.objs.size + 1) scope.names (cloFrom X.env.cells scope.names [])) sA.heap.objs.size X.env → ∀ sB : Shared, sB = { sA with heap := pushCells (sA.heap.push { cls := .type "dict", data := .dict #[] }) scope.names } →
      codeAny (model X.prog X.w) X.A (.compLoop (.SetComp elt [⟨tg, it0, ifs, 0⟩] scope pos) 0 (.ref jt) (.ref D) ce) (compPost (model X.prog X.w) X.A X.xe use Qf (.ref D) sA.heap.objs.size) sB by
    have z := main _ rfl _ rfl
    exact PpSet.codeAny_compStart_set z (T.self X.A 0 _ _ _ (T.keep _ _ _ stA fun b _ o e => lifted b o e) z)
  intro ce ece sB esB
  rw [← ece] at IB gg gt ge
  have locC : ce.locals = sA.heap.objs.size := by rw [ece]; rfl
  rw [← esB] at IB
  have stB : tn 0 sB.heap := T.keep _ _ _ stA fun b _ o e => by rw [esB]; exact lifted b o e
  have own' : ∀ {σ' : L2.St} {H' : Hp} {s' : Shared}, Inv (X.blk sA HA scope ce fp) [] σ' H' s' → (∀ b ∈ fp, H' b = none) → ∀ b ∈ fp, FpOk (X.blk sA HA scope ce fp) [] H' b := fun {σ' H' s'} I' no b hb =>
    ⟨no b hb, (I'.ok.exf b hb).1, I'.ok.exfs b hb, .inl hb, fun x c e => (I'.ok.exf b hb).2 x c e, fun p hp => absurd (show p ∈ ([] : List (Addr × Obj)) ++ [] from hp) (by simp)⟩
  refine PpSet.compLoopS_any (fun n s' => ∃ i H', Inv (X.blk sA HA scope ce fp) [] (wipe σ (own.map (·.2))) H' s' ∧ tn i s'.heap ∧ (∀ b ∈ fp, H' b = none) ∧ W i n H') ?_ m0 ⟨0, HA, IB, stB, noF, w0⟩
  rintro n sT ⟨i, HT, IT, stT, noT, wT⟩
  rcases turn i n HT wT with ⟨stop, qD⟩ | ⟨go, Z, hZ, step⟩
  · refine thnF (T.done (X.blk sA HA scope ce fp) rfl rfl rfl calm i [] sT _ HT (fun _ _ => False) IT (own' IT noT) stT stop) fun r sE ⟨er, IE⟩ => ?_
    subst er
    have IX : Inv X pins σ HT sE := IA.call' (ch := fp) IE.os IE.base IE.hok IE.bare fun b hb => by
      obtain ⟨f1, _⟩ := fA b hb
      exact ⟨f1.2.2.2.1, f1.2.1, f1.2.2.2.2.1, f1.2.2.2.2.2⟩
    have noC : HT sA.heap.objs.size = none := by
      rw [← locC]
      exact IE.free
    obtain ⟨m, ns, _⟩ := IE.loc
    have ns' : sE.heap.Ns sA.heap.objs.size m := by rw [← locC]; exact ns
    exact out D sA.heap.objs.size sE m HT IX qD ns' (IA.fpOk (Nat.le_refl _) noC)
  · refine thnF (T.item (X.blk sA HA scope ce fp) rfl rfl rfl calm i [] sT _ HT (fun _ _ => False) IT (own' IT noT) stT go) fun r sU ⟨u, er, hU⟩ => ?_
    subst er
    refine thnF hU fun _ sV ⟨x, HV, IV, rV, yV, stV, noV⟩ => ?_
    refine thnF (gg.run _ sV _ HV x u _ (IV.pinned (own' IV noV) (T.obj _ _ stV)) rV (step x HV yV)) fun _ sG ⟨σG, HG, IG, wG, qG⟩ => ?_
    refine thnF (gt.run _ sG σG HG _ IG qG) fun b sK ⟨HK, IK, qK⟩ => ?_
    have close : ∀ {s' : Shared} {H' : Hp}, Inv (X.blk sA HA scope ce fp) ([] ++ pinsAt fp sV.heap) σG H' s' → Z H' → ∃ m, m < n ∧ ∃ i H', Inv (X.blk sA HA scope ce fp) [] (wipe σ (own.map (·.2))) H' s' ∧ tn i s'.heap ∧ (∀ b ∈ fp, H' b = none) ∧ W i m H' := fun {s' H'} I' z => by
      obtain ⟨m', hm, w'⟩ := hZ H' z
      have stay : ∀ b ∈ fp, ∀ o, sV.heap.get? b = some o → s'.heap.get? b = some o ∧ H' b = none := fun b hb o e => by
        have w := I'.pin (b, o) (List.mem_append_right _ (List.mem_append_right _ (mem_pinsAt hb e)))
        exact ⟨w.1, w.2.1⟩
      refine ⟨m', hm, i + 1, H', (I'.unpinned (pins := [])).weak (by rw [← wG, wipe_length]) (fun j v e => ?_), T.keep _ _ _ stV fun b hb o e => (stay b hb o e).1, fun b hb => ?_, w'⟩
      · exact (wipe_some (by rw [wG]; exact e)).1
      · obtain ⟨o, e, _⟩ := T.obj _ _ stV b hb
        exact (stay b hb o e).2
    cases b with
    | false =>
      simp only [Bool.false_eq_true, if_false] at qK ⊢
      exact close IK qK
    | true =>
      simp only [if_true] at qK ⊢
      refine thnF (ge.run _ sK σG HK _ IK qK) fun zv sL ⟨yv, HL, IL, rL, c, S0, n0, ey, eDL, room, zz⟩ => ?_
      subst ey
      exact addK_ok (X := X.blk sA HA scope ce fp) IL rL eDL room fun sM IM => close IM zz
theorem pe_scK {elt tg it0 : Expr} {ifs : List Expr} {scope : Scope} {own : List (Str × Nat)} {pos : Pos} {wi : TI} {g : TG} {tt : TT} {te : TE} (calm : X.calm = true) (ndN : X.N.Nodup) (pi : PI X tg it0 wi) (bk : BlkOk X.N X.env.scope scope own)
    (hg : ∀ (s : Shared) (H : Hp) (C : Addr) (cl : List (Str × Addr)) (fp : List Addr), PG (X.blk s H scope (compEnvC scope cl C X.env) fp) tg g)
    (ht : ∀ (s : Shared) (H : Hp) (C : Addr) (cl : List (Str × Addr)) (fp : List Addr), PTs (X.blk s H scope (compEnvC scope cl C X.env) fp) ifs tt)
    (he : ∀ (s : Shared) (H : Hp) (C : Addr) (cl : List (Str × Addr)) (fp : List Addr), PE (X.blk s H scope (compEnvC scope cl C X.env) fp) elt te)
    (fold : ∀ x, foldedSetIterable it0 X.env x = pure x := by intro _; rfl) : PE X (.SetComp elt [⟨tg, it0, ifs, 0⟩] scope pos) (tScK X.prog X.w wi g tt te (own.map (·.2))) := by
  refine ⟨fun pins s σ H Q I h => ?_⟩
  rw [PpSet.eval_SetComp]
  refine scK_core calm ndN I pi bk hg ht he fold h fun D C sE m HE IE q ns f => ⟨m, ns, fun h2 sb => ?_⟩
  obtain ⟨f0, f1, f2, f3, f4, f5⟩ := f
  exact ⟨.ref D, HE, IE.turned (t' := sE.toks) (fun b o hb e => (sb.2 b hb).trans e) f0 f1 f3 f4 f5, rfl, q⟩
/-- len(a set of keys) -/
def rLenSK (P : Program) (w : World) : List V → Hp → VK → Prop := fun xs H Q => ∃ (a : Addr) (S : Key → Bool) (n : Nat), xs = [V.ref a] ∧ H a = some (SetK P w a S n) ∧ Q (.int n) H
theorem cr_lenSK : CallR X (.builtin "len") (rLenSK X.prog X.w) := by
  intro pins s σ H xs us Q I r h
  obtain ⟨a, S, n, rfl, ha, q⟩ := h
  rw [Vals.ref1 r]
  obtain ⟨o, es, ep, t, ho, hex, hd, _, _, hsz, hf, hn⟩ := setK_get I ha
  have sb : scanBound ≤ 2 ^ 62 := by decide
  exact call_len_set ho hex hd hf (by omega) ⟨.int n, H, I.tok _, ⟨_, by rw [hn]⟩, q⟩
end
end NW

/-! NwP: what is handed back whole with all that it owns (lists of lists, dicts of dicts); such things handed on for reading, changed inside. -/
namespace NW
open PySem PySem.Spec PyProof.Rows L2
def EvY (g : Gm) (te : TE) (ρ : List Sl) (Φ : Sl → Prop) : Prop := ∀ X Y σ H (Q : VK), RS g X Y σ H ρ → (∀ s v H', Φ s → Nx g H H' → (∀ q ∈ ownA (some v) s, H q = none) → (ownA (some v) s).Nodup →
  SlOk g (hide (ownA (some v) s ++ (X ++ (g.pr ++ owned σ ρ))) H') H' (some v) s → Q v H') → te σ H Q
abbrev ST := List Sl → (Sl → Prop) → Prop
def spS (K : PySem.W.Frag) (T : ST) : Sp := fun vs H Q E => ∃ (st : List (Addr × Addr)) (X : List Addr) (ρ : List Sl) (Φ : Sl → Prop), RS ⟨K, st⟩ X (hide (Gm.pr ⟨K, st⟩) H) (vs.map some) H ρ ∧ T ρ Φ ∧
  ∀ s v H', Φ s → Nx ⟨K, st⟩ H H' → (∀ q ∈ ownA (some v) s, H q = none) → (ownA (some v) s).Nodup → SlOk ⟨K, st⟩ (hide (ownA (some v) s ++ (X ++ Gm.pr ⟨K, st⟩)) H') H' (some v) s → Q v H'
section
variable {g : Gm} {X : List Addr} {Y : Hp} {σ : L2.St} {ρ : List Sl} {H H' : Hp} {te ta tb tc : TE} {tr : TA} {t u : TS} {E : DE} {D : Ends} {Ex : XK}
theorem ey_of {Φ : Sl → Prop} (h : EvC g te ρ fun d => Φ (.dat d)) : EvY g te ρ Φ := fun X Y σ H Q R k => h X Y σ H Q R fun d v H' hd n r => by
  have e : ownA (some v) (.dat d) = [] := ownA_dat _ _
  refine k (.dat d) v H' hd n (by rw [e]; intro q hq; cases hq) (by rw [e]; exact List.nodup_nil) (by rw [e]; exact .dat r)
theorem ey_of_n {Φ : Sl → Prop} (h : EvN g te ρ fun ds => Φ (.own none ds)) : EvY g te ρ Φ := fun X Y σ H Q R k => h X Y σ H Q R fun ds p xs H' hd n hp hx r =>
  k (.own none ds) (.ref p) H' hd n (fun q hq => by rw [List.mem_singleton.mp hq]; exact hp) (List.nodup_cons.mpr ⟨fun z => (by cases z), List.nodup_nil⟩) (.own (fun _ z => nomatch z) hx r)
theorem ey_of_k {Φ : Sl → Prop} (h : EvK g te ρ fun ds => Φ (.ownK ds)) : EvY g te ρ Φ := fun X Y σ H Q R k => h X Y σ H Q R fun ds p xs H' hd n hp hx r =>
  k (.ownK ds) (.ref p) H' hd n (fun q hq => by rw [List.mem_singleton.mp hq]; exact hp) (List.nodup_cons.mpr ⟨fun z => (by cases z), List.nodup_nil⟩) (.ownK hx r)
theorem ds_asgY {i : Nat} (h : EvY g te ρ fun s => E.nx (ρ.set i s)) : DSt g (tAsg te (gName i)) ρ E := fun X Y σ H D R M =>
  h X Y σ H _ R fun s v H' hd n hn nd r => M.nx _ H' _ hd (R.setM (ownA (some v) s) (fun q hq => ⟨R.yn (hn q hq), R.new (hn q hq)⟩) (fun _ z => z) nd n r fun b o e => by
    obtain ⟨h1, h2⟩ := hide_some e
    have hb : b ∉ g.pr := fun z => h1 (List.mem_append_right _ (List.mem_append_left _ z))
    rw [hide_out (fun z => by
      rcases List.mem_append.mp z with z | z
      · rw [hn b z] at h2; cases h2
      · exact h1 z)]
    exact n.kp b o h2 hb)
theorem SlOk.mn {G G' : Hp} {x : Option V} {s : Sl} (h : SlOk g G H x s) (e : Same G G') : SlOk g G' H x s := h.mono e fun _ _ _ z => z
theorem ds_retY (h : EvY g te ρ fun s => E.rs s ρ) : DSt g (tRet te) ρ E := fun X Y σ H D R M =>
  h X Y σ H _ R fun s v H' hd n hn nd r => M.rs s v σ H' ρ hd (R.nx n) (fun q hq => ⟨R.yn (hn q hq), fun z => R.new (hn q hq) (by
    rcases List.mem_append.mp z with z | z
    · exact List.mem_append_left _ z
    · exact pr_sub z)⟩) nd (r.mn (hide_mono fun b hb => by
      rcases List.mem_append.mp hb with z | z
      · exact List.mem_append_left _ z
      · refine List.mem_append_right _ ?_
        rcases List.mem_append.mp z with z | z
        · exact List.mem_append_left _ z
        · exact pr_sub z))
/-- return x, x a slot that owns all that it stands for -/
theorem ds_retV {i : Nat} {s : Sl} (e : ρ[i]? = some s) (hv : ∀ G x, SlOk g G H x s → True) (ne : s ≠ .no) (h : E.rs s ρ) : DSt g (tRet (tVar i)) ρ E := fun X Y σ H D R M => by
  obtain ⟨x, h1, r⟩ := R.sl.get e
  obtain ⟨v, rfl⟩ : ∃ v, x = some v := by
    cases r with
    | no x => exact absurd rfl ne
    | _ => exact ⟨_, rfl⟩
  have own : ∀ q ∈ ownA (some v) s, q ∈ owned σ ρ := fun q hq => own_mem h1 e hq
  have nd : (ownA (some v) s).Nodup := by
    have key : ∀ {σ : L2.St} {ρ : List Sl} {i : Nat}, σ[i]? = some (some v) → ρ[i]? = some s → (owned σ ρ).Nodup → (ownA (some v) s).Nodup := by
      intro σ
      induction σ with
      | nil => intro ρ i h; simp at h
      | cons y σ ih =>
        intro ρ i h1 h2 nd
        cases ρ with
        | nil => simp at h2
        | cons t ρ =>
          have nd' : (ownA y t ++ owned σ ρ).Nodup := nd
          rw [List.nodup_append] at nd'
          cases i with
          | zero => cases h1; cases h2; exact nd'.1
          | succ i => exact ih (by simpa using h1) (by simpa using h2) nd'.2.1
    exact key h1 e R.nd
  refine ⟨v, h1, M.rs s v σ H ρ h R (fun q hq => ⟨(R.nw q (own q hq)).1, fun z => ?_⟩) nd (r.mn (hide_mono fun b hb => ?_))⟩
  · rcases List.mem_append.mp z with z | z
    · exact (R.xd q z).2 (own q hq)
    · exact (R.nw q (own q hq)).2 z
  · rcases List.mem_append.mp hb with z | z
    · exact List.mem_append_right _ (List.mem_append_right _ (own b z))
    · rcases List.mem_append.mp z with z | z
      · exact List.mem_append_left _ z
      · exact pr_sub z
end
section
variable {P : Program} {w : World} {K : PySem.W.Frag} {mg : Str → Option Value} {base : Heap} {x qual : Str} {params : Arguments} {body : List Stmt} {scope : Scope} {f : Addr} {fd : FuncData} {N ps : List Str} {k : Nat}
theorem fn_S {T : ST} (F : FunD K x qual params body scope [] [] f fd) (S : FnScope N ps scope) (hl : ∀ ρ Φ, T ρ Φ → ρ.length = ps.length)
    (hb : ∀ (cdv : Value) (A : Around) (outer : List Env) (s : Shared) (H : Hp) (E : XK), Room k (A.deeper (envOfC qual scope s.heap.objs.size f cdv)) →
      ∃ t, PSs (cxOf CX0 P w K mg base N qual scope f cdv A outer s H E).nox body t ∧ ∀ st ρ Φ, T ρ Φ → DSt ⟨K, st⟩ t (ρ ++ List.replicate (N.length - ps.length) .no) { nx := fun _ => False, rt := fun d _ => Φ (.dat d), rn := fun ds _ => Φ (.own none ds), rs := fun s _ => Φ s }) :
    FnOk P w K mg base CX0 (k + 1) f fd ps (spS K T) := by
  have len : ∀ vs H Q E, spS K T vs H Q E → vs.length = ps.length := fun vs H Q E h => by
    obtain ⟨st, X, ρ, Φ, R, hT, _⟩ := h
    rw [← hl ρ Φ hT, ← R.sl.len, List.length_map]
  refine F.ok S len fun cdv A outer s H vs Q E hr h => ?_
  obtain ⟨t, ht, hd⟩ := hb cdv A outer s H E hr
  refine ⟨t, PSs.nox ht, ?_⟩
  have lv := len vs H Q E h
  obtain ⟨st, X, ρ, Φ, R, hT, hQ⟩ := h
  have R1 := R.pad (n := N.length - ps.length)
  rw [start_eq, lv]
  refine hd st ρ Φ hT X _ _ H _ R1 ⟨fun σ H' ρ' e R' => e.elim, fun d v σ H' ρ' e R' r => ?_, fun ds p xs σ H' ρ' e R' hp np hx r _ => ?_, fun _ _ _ e => e.elim, fun _ _ _ e => e.elim, fun s v σ H' ρ' e R' hn nd r => ?_⟩
  · have e0 : ownA (some v) (.dat d) = [] := ownA_dat _ _
    exact hQ (.dat d) v H' e ⟨fun b o q nb => R'.sy b o ((hide_out nb).trans q), R'.st⟩ (by rw [e0]; intro q hq; cases hq) (by rw [e0]; exact List.nodup_nil) (by rw [e0]; exact .dat r)
  · have npr : p ∉ Gm.pr ⟨K, st⟩ := fun z => np (List.mem_append_right _ z)
    exact hQ (.own none ds) (.ref p) H' e ⟨fun b o q nb => R'.sy b o ((hide_out nb).trans q), R'.st⟩ (fun q hq => by rw [List.mem_singleton.mp hq]; exact (hide_out npr).symm.trans hp) (List.nodup_cons.mpr ⟨fun z => (by cases z), List.nodup_nil⟩) (.own (fun _ z => nomatch z) hx r)
  · exact hQ s v H' e ⟨fun b o q nb => R'.sy b o ((hide_out nb).trans q), R'.st⟩ (fun q hq => by
      obtain ⟨h1, h2⟩ := hn q hq
      exact (hide_out fun z => h2 (List.mem_append_right _ z)).symm.trans h1) nd r
end
section
variable {g : Gm} {X : List Addr} {Y : Hp} {σ : L2.St} {ρ : List Sl} {H H' : Hp} {te ta tb tc : TE} {tr : TA} {t u : TS} {E : DE} {D : Ends} {Ex : XK}
theorem ey_call {T : ST} {Φ : Sl → Prop} (h : EvP g tr ρ fun πs => T πs Φ) : EvY g (tCall (spS g.K T) [] Ex tr) ρ Φ := fun X Y σ H Q R k =>
  h X Y σ H _ R fun πs vs H1 hT n1 r1 => by
    show spS g.K T (vs ++ []) H1 Q Ex
    rw [List.append_nil]
    refine ⟨g.st, X ++ owned σ ρ, πs, Φ, call_rs (R.nx n1) r1, hT, fun s v H' hd n2 hn nd r2 => k s v H' hd (n1.trans n2) (fun q hq => nx_none R n1 (hn q hq)) nd (r2.mn (hide_mono fun b hb => ?_))⟩
    rcases List.mem_append.mp hb with z | z
    · exact List.mem_append_left _ z
    · refine List.mem_append_right _ ?_
      rcases List.mem_append.mp z with z | z
      · exact List.mem_append_left _ (List.mem_append_left _ z)
      · rcases List.mem_append.mp z with z | z
        · exact List.mem_append_right _ z
        · exact List.mem_append_left _ (List.mem_append_right _ z)
/-- the same of a method -/
theorem ey_meth {C : Addr} {m : Str} {T : ST} {Φ : Sl → Prop} (h : EvC g ta ρ fun x => ∃ fs, x = .ins C fs ∧ fs.lookup m = none ∧ EvP g tr ρ fun πs => T (.dat x :: πs) Φ) : EvY g (tMeth C m (spS g.K T) [] Ex ta tr) ρ Φ := fun X Y σ H Q R k =>
  h X Y σ H _ R fun dx x H1 h1 n1 r1 => by
    obtain ⟨fs, rfl, hl, hf⟩ := h1
    have r1' := r1
    cases r1 with
    | ins ha r =>
      rename_i a dx xs
      rcases r.look (f := m) with ⟨_, z⟩ | ⟨d', v, z1, z2, z3⟩
      · refine ⟨a, dx, xs, rfl, (hide_some ha).2, z, ?_⟩
        refine hf X Y σ H1 _ (R.nx n1) fun πs vs H2 hT n2 r2 => ?_
        show spS g.K T (.ref a :: (vs ++ [])) H2 Q Ex
        rw [List.append_nil]
        have n12 := n1.trans n2
        refine ⟨g.st, X ++ owned σ ρ, .dat (.ins C fs) :: πs, Φ, call_rs ((R.nx n1).nx n2) (.dat (r1'.mn n2.hid) r2), hT, fun s v H' hd n3 hn nd r3 => k s v H' hd (n12.trans n3) (fun q hq => nx_none R n12 (hn q hq)) nd (r3.mn (hide_mono fun b hb => ?_))⟩
        rcases List.mem_append.mp hb with z | z
        · exact List.mem_append_left _ z
        · refine List.mem_append_right _ ?_
          rcases List.mem_append.mp z with z | z
          · exact List.mem_append_left _ (List.mem_append_left _ z)
          · rcases List.mem_append.mp z with z | z
            · exact List.mem_append_right _ z
            · exact List.mem_append_left _ (List.mem_append_right _ z)
      · rw [hl] at z1; cases z1
/-! ### own things handed on for reading -/
abbrev viewF (g : Gm) (X : List Addr) (σ : L2.St) (ρ : List Sl) (H : Hp) : Hp := hide ((X ++ notLs H (owned σ ρ)) ++ g.pr) H
theorem viewF_sub : Same (hid g X σ ρ H) (viewF g X σ ρ H) := hide_mono fun b hb => by
  rcases List.mem_append.mp hb with z | z
  · rcases List.mem_append.mp z with z | z
    · exact List.mem_append_left _ z
    · exact List.mem_append_right _ (List.mem_append_right _ (List.mem_filter.mp z).1)
  · exact pr_sub z
theorem viewF_nx (n : Nx g H H') : Same (viewF g X σ ρ H) (viewF g X σ ρ H') := fun b o e => by
  obtain ⟨h1, h2⟩ := hide_some e
  have bp : b ∉ g.pr := fun z => h1 (List.mem_append_right _ z)
  have h3 := n.kp b o h2 bp
  show hide ((X ++ notLs H' (owned σ ρ)) ++ g.pr) H' b = some o
  rw [hide_out]
  · exact h3
  · intro z
    rcases List.mem_append.mp z with z | z
    · rcases List.mem_append.mp z with z | z
      · exact h1 (List.mem_append_left _ (List.mem_append_left _ z))
      · obtain ⟨z1, z2⟩ := List.mem_filter.mp z
        refine h1 (List.mem_append_left _ (List.mem_append_right _ (List.mem_filter.mpr ⟨z1, ?_⟩)))
        unfold lsB at z2 ⊢
        rw [h3] at z2
        rw [h2]
        exact z2
    · exact bp z
theorem viewF_at (R : RS g X Y σ H ρ) {p : Addr} {o : HO} (hp : p ∈ owned σ ρ) (h : H p = some o) (hl : lsB H p = true) : viewF g X σ ρ H p = some o := by
  refine (hide_out fun z => ?_).trans h
  rcases List.mem_append.mp z with z | z
  · rcases List.mem_append.mp z with z | z
    · exact (R.xd p z).2 hp
    · have := (List.mem_filter.mp z).2
      rw [hl] at this
      cases this
  · exact (R.nw p hp).2 z
def momD : Sl → Option Dat
  | .own _ ds => some (.lst ds)
  | .ownK kvs => some (.dic kvs)
  | .trL _ es => some (.lst (es.map fun e => e.2.d))
  | .trK _ es => some (.dic (es.map fun e => (e.1, e.2.2.d)))
  | .dat d => some d
  | _ => none
theorem RpA.of_map {K : PySem.W.Frag} {G : Hp} {α : Type} {f : α → V} {h : α → Dat} : ∀ {es : List α}, (∀ e ∈ es, Rp K G (f e) (h e)) → RpA K G (es.map f) (es.map h)
  | [], _ => .nil
  | e :: es, r => .cons (r e List.mem_cons_self) (RpA.of_map fun z hz => r z (List.mem_cons_of_mem _ hz))
theorem RpK.of_map {K : PySem.W.Frag} {G : Hp} {α : Type} {k : α → Key} {f : α → V} {h : α → Dat} : ∀ {es : List α}, (∀ e ∈ es, Rp K G (f e) (h e)) → RpK K G (es.map fun e => (k e, f e)) (es.map fun e => (k e, h e))
  | [], _ => .nil
  | e :: es, r => .cons (r e List.mem_cons_self) (RpK.of_map fun z hz => r z (List.mem_cons_of_mem _ hz))
theorem InnOk.view (R : RS g X Y σ H ρ) {a : Addr} {n : Inn} (ha : a ∈ owned σ ρ) (h : InnOk g.K (hid g X σ ρ H) H a n) : Rp g.K (viewF g X σ ρ H) (.ref a) n.d := by
  cases n with
  | l ds =>
    obtain ⟨xs, h1, h2⟩ := h
    exact .lst (viewF_at R ha h1 (by unfold lsB; rw [h1])) (h2.mn viewF_sub)
  | k ds =>
    obtain ⟨xs, h1, h2⟩ := h
    exact .dic (viewF_at R ha h1 (by unfold lsB; rw [h1])) (h2.mn viewF_sub)
theorem RS.mom (R : RS g X Y σ H ρ) {i : Nat} {s : Sl} {d : Dat} (e : ρ[i]? = some s) (hd : momD s = some d) : ∃ v, σ[i]? = some (some v) ∧ Rp g.K (viewF g X σ ρ H) v d := by
  obtain ⟨x, h1, r⟩ := R.sl.get e
  have own : ∀ q ∈ ownA x s, q ∈ owned σ ρ := fun q hq => own_mem h1 e hq
  cases r with
  | no x => cases hd
  | dat r => cases hd; exact ⟨_, h1, r.mn viewF_sub⟩
  | own q h r => cases hd; exact ⟨_, h1, .lst (viewF_at R (own _ (List.mem_singleton.mpr rfl)) h (by unfold lsB; rw [h])) (r.mn viewF_sub)⟩
  | ownK h r => cases hd; exact ⟨_, h1, .dic (viewF_at R (own _ (List.mem_singleton.mpr rfl)) h (by unfold lsB; rw [h])) (r.mn viewF_sub)⟩
  | obj h r => cases hd
  | sto h => cases hd
  | exc h r => cases hd
  | trL h r =>
    cases hd
    exact ⟨_, h1, .lst (viewF_at R (own _ List.mem_cons_self) h (by unfold lsB; rw [h])) (RpA.of_map fun e he => InnOk.view R (own _ (List.mem_cons_of_mem _ (List.mem_map.mpr ⟨e, he, rfl⟩))) (r e he))⟩
  | trK h r =>
    cases hd
    exact ⟨_, h1, .dic (viewF_at R (own _ List.mem_cons_self) h (by unfold lsB; rw [h])) (RpK.of_map fun e he => InnOk.view R (own _ (List.mem_cons_of_mem _ (List.mem_map.mpr ⟨e, he, rfl⟩))) (r e he))⟩
  | at_ => cases hd
def EvG (g : Gm) (ta : TA) (ρ : List Sl) (Φ : List Sl → Prop) : Prop := ∀ X Y σ H (Q : List V → Hp → Prop), RS g X Y σ H ρ → (∀ ds vs H', Φ ds → Nx g H H' → ArgOk g (viewF g X σ ρ H') vs ds → Q vs H') → ta σ H Q
theorem eg_nil {Φ : List Sl → Prop} (h : Φ []) : EvG g tNil ρ Φ := fun X Y σ H Q R k => k [] [] H h R.refl .nil
theorem eg_cons {Φ : List Sl → Prop} (h : EvC g te ρ fun d => EvG g tr ρ fun ds => Φ (.dat d :: ds)) : EvG g (tCons te tr) ρ Φ := fun X Y σ H Q R k =>
  h X Y σ H _ R fun d v H1 h2 n1 r1 => h2 X Y σ H1 _ (R.nx n1) fun ds vs H2 hf n2 r2 => k (.dat d :: ds) (v :: vs) H2 hf (n1.trans n2) (.dat (r1.mn (fun b o e => viewF_nx n2 b o (viewF_sub b o e))) r2)
theorem eg_sto {i : Nat} {Φ : List Sl → Prop} (e : ρ[i]? = some .sto) (h : EvG g tr ρ fun ds => Φ (.sto :: ds)) : EvG g (tCons (tVar i) tr) ρ Φ := fun X Y σ H Q R k => by
  obtain ⟨p, h1, h2⟩ := R.sto e
  exact ⟨_, h1, h X Y σ H _ R fun ds vs H2 hf n2 r2 => k (.sto :: ds) (.ref p.1 :: vs) H2 hf n2 (.sto h2 r2)⟩
theorem eg_m {i : Nat} {s : Sl} {d : Dat} {Φ : List Sl → Prop} (e : ρ[i]? = some s) (hd : momD s = some d) (h : EvG g tr ρ fun ds => Φ (.dat d :: ds)) : EvG g (tCons (tVar i) tr) ρ Φ := fun X Y σ H Q R k => by
  obtain ⟨v, h1, r⟩ := R.mom e hd
  exact ⟨_, h1, h X Y σ H _ R fun ds vs H2 hf n2 r2 => k (.dat d :: ds) (v :: vs) H2 hf n2 (.dat (r.mn (viewF_nx n2)) r2)⟩
theorem call_rsG (R : RS g X Y σ H ρ) {vs : List V} {πs : List Sl} (r : ArgOk g (viewF g X σ ρ H) vs πs) : RS g (X ++ notLs H (owned σ ρ)) (hide g.pr H) (vs.map some) H πs := by
  have sub : ∀ b ∈ X ++ notLs H (owned σ ρ), b ∈ X ++ (g.pr ++ owned σ ρ) := fun b hb => by
    rcases List.mem_append.mp hb with z | z
    · exact List.mem_append_left _ z
    · exact List.mem_append_right _ (List.mem_append_right _ (List.mem_filter.mp z).1)
  have hO : ∀ b ∈ X ++ notLs H (owned σ ρ), H b ≠ none := fun b hb => R.hd b (sub b hb)
  obtain ⟨h1, h2⟩ := args_rs hO R.st r
  refine ⟨by rw [h1]; exact List.nodup_nil, ?_, fun b o q => ⟨(hide_some q).2, (hide_some q).1⟩, (by rw [h1]; intro p hp; cases hp), fun b hb => ⟨hO b hb, (by rw [h1]; intro z; cases z)⟩, R.st⟩
  show SlsOk g (hide ((X ++ notLs H (owned σ ρ)) ++ (g.pr ++ owned (vs.map some) πs)) H) H _ _
  rw [h1, List.append_nil]
  exact h2
theorem ev_callG {T : DT} {Φ : Dat → Prop} (h : EvG g tr ρ fun πs => T πs fun d => noL d = true ∧ Φ d) : EvC g (tCall (spD g.K T) [] Ex tr) ρ Φ := fun X Y σ H Q R k =>
  h X Y σ H _ R fun πs vs H1 hT n1 r1 => by
    show spD g.K T (vs ++ []) H1 Q Ex
    rw [List.append_nil]
    have R1 := R.nx n1
    exact ⟨g.st, X ++ notLs H1 (owned σ ρ), πs, _, call_rsG R1 r1, hT, fun d v H' hd n2 r2 => k d v H' hd.2 (n1.trans n2) ((Rp.free (LsAt.back n2 R1) d v hd.1 r2).mn backF)⟩
theorem ev_methG {C : Addr} {m : Str} {T : DT} {Φ : Dat → Prop} (h : EvC g ta ρ fun x => ∃ fs, x = .ins C fs ∧ fs.lookup m = none ∧ EvG g tr ρ fun πs => T (.dat x :: πs) fun d => noL d = true ∧ Φ d) : EvC g (tMeth C m (spD g.K T) [] Ex ta tr) ρ Φ := fun X Y σ H Q R k =>
  h X Y σ H _ R fun dx x H1 h1 n1 r1 => by
    obtain ⟨fs, rfl, hl, hf⟩ := h1
    have r1' := r1
    cases r1 with
    | ins ha r =>
      rename_i a dx xs
      rcases r.look (f := m) with ⟨_, z⟩ | ⟨d', v, z1, z2, z3⟩
      · refine ⟨a, dx, xs, rfl, (hide_some ha).2, z, ?_⟩
        refine hf X Y σ H1 _ (R.nx n1) fun πs vs H2 hT n2 r2 => ?_
        show spD g.K T (.ref a :: (vs ++ [])) H2 Q Ex
        rw [List.append_nil]
        have n12 := n1.trans n2
        have R2 := (R.nx n1).nx n2
        exact ⟨g.st, X ++ notLs H2 (owned σ ρ), .dat (.ins C fs) :: πs, _, call_rsG R2 (.dat (r1'.mn (fun b o e => viewF_nx n2 b o (viewF_sub b o e))) r2), hT, fun d v H' hd n3 r3 => k d v H' hd.2 (n12.trans n3) ((Rp.free (LsAt.back n3 R2) d v hd.1 r3).mn backF)⟩
      · rw [hl] at z1; cases z1
/-! ### lists of lists that a slot owns -/
theorem RS.trL (R : RS g X Y σ H ρ) {i : Nat} {p : Addr} {es : List (Addr × Inn)} (e : ρ[i]? = some (.trL p es)) : σ[i]? = some (some (.ref p)) ∧ H p = some (.lst (es.map fun e => .ref e.1)) ∧ ∀ e ∈ es, InnOk g.K (hid g X σ ρ H) H e.1 e.2 := by
  obtain ⟨x, h1, r⟩ := R.sl.get e
  cases r with
  | trL h r => exact ⟨h1, h, r⟩
theorem ev_lenT {i : Nat} {p : Addr} {es : List (Addr × Inn)} {Φ : Dat → Prop} (e : ρ[i]? = some (.trL p es)) (h : Φ (.int es.length)) : EvC g (tCB (rLenK g.K) (tCons (tVar i) tNil)) ρ Φ := fun X Y σ H Q R k => by
  obtain ⟨h1, h2, _⟩ := R.trL e
  refine ⟨_, h1, _, es.length, rfl, .inl ⟨es.map fun e => .ref e.1, SqL.of h2, by rw [List.length_map]⟩, ?_⟩
  exact k _ _ H h R.refl (.int _)
/-- the empty list that a slot owns may take lists -/
theorem ds_asTr {i : Nat} {a : Option Addr} (e : ρ[i]? = some (.own a [])) (h : ∀ p, DSt g t (ρ.set i (.trL p [])) E) : DSt g t ρ E := fun X Y σ H D R M => by
  obtain ⟨p, xs, h1, h2, r, _⟩ := R.own e
  cases r
  refine h p X Y σ H D ?_ M
  exact R.regrow (x := some (.ref p)) (s := .own a []) (t := .trL p []) [] h1 e (fun _ z => nomatch z) (fun b o e _ _ => e) R.st (fun q hq => .inr hq) (List.nodup_cons.mpr ⟨fun z => (by cases z), List.nodup_nil⟩) (.trL h2 fun _ z => nomatch z)
theorem Same.rfl' {G : Hp} : Same G G := fun _ _ e => e
/-- x.append(e), e a new list -/
theorem ds_appT {i : Nat} {p : Addr} {es : List (Addr × Inn)} (e : ρ[i]? = some (.trL p es)) (h : EvN g te ρ fun ds => es.length < sizeLine ∧ ∀ q, E.nx (ρ.set i (.trL p (es ++ [(q, .l ds)])))) : DSt g (tDrop (tBM g.K "list" rAppend (tVar i) (tCons te tNil))) ρ E := fun X Y σ H D R M => by
  obtain ⟨h1, h2, r⟩ := R.trL e
  refine ⟨_, h1, .inl ⟨rfl, _, SqL.of h2⟩, ?_⟩
  refine h X Y σ H _ R fun ds q xs H1 hd n1 hq hx rq => ?_
  have pm := own_mem h1 e (p := p) List.mem_cons_self
  have pw := R.nw p pm
  have h2' := n1.kp p _ h2 pw.2
  have hpq : p ≠ q := fun z => by rw [z, hq] at h2; cases h2
  refine ⟨p, _, .ref q, rfl, rfl, h2', by rw [List.length_map]; exact hd.1, ?_⟩
  have nd0 : (p :: es.map (·.1)).Nodup := by
    have key : ∀ {σ : L2.St} {ρ : List Sl} {i : Nat}, σ[i]? = some (some (.ref p)) → ρ[i]? = some (.trL p es) → (owned σ ρ).Nodup → (p :: es.map (·.1)).Nodup := by
      intro σ
      induction σ with
      | nil => intro ρ i h; simp at h
      | cons y σ ih =>
        intro ρ i h1 h2 nd
        cases ρ with
        | nil => simp at h2
        | cons t ρ =>
          have nd' : (ownA y t ++ owned σ ρ).Nodup := nd
          rw [List.nodup_append] at nd'
          cases i with
          | zero => cases h1; cases h2; exact nd'.1
          | succ i => exact ih (by simpa using h1) (by simpa using h2) nd'.2.1
    exact key h1 e R.nd
  have hqn : q ∉ p :: es.map (·.1) := fun z => R.new hq (List.mem_append_right _ (List.mem_append_right _ (own_mem h1 e z)))
  refine M.nx σ _ _ (hd.2 q) (R.regrow (x := some (.ref p)) (s := .trL p es) (t := .trL p (es ++ [(q, .l ds)])) [q] h1 e (fun z hz => by rw [List.mem_singleton.mp hz]; exact hq) (fun b o eb nb no => ?_) (fun a ha => ?_) (fun z hz => ?_) ?_ ?_)
  · rw [upd_ne (fun z => no (by rw [z]; exact List.mem_cons_self))]
    exact n1.kp b o eb nb
  · obtain ⟨cs, i, lf, sm, seed, turn, k1, k2, k3⟩ := n1.st a ha
    exact ⟨cs, i, lf, sm, seed, turn, by rw [upd_ne (fun z => pw.2 (pr_mem.mpr ⟨a, ha, .inl z.symm⟩))]; exact k1, by rw [upd_ne (fun z => pw.2 (pr_mem.mpr ⟨a, ha, .inr z.symm⟩))]; exact k2, k3⟩
  · rcases List.mem_cons.mp hz with z | z
    · exact .inr (z ▸ List.mem_cons_self)
    · rw [List.map_append] at z
      rcases List.mem_append.mp z with z | z
      · exact .inr (List.mem_cons_of_mem _ z)
      · exact .inl z
  · show (p :: (es ++ [(q, Inn.l ds)]).map (·.1)).Nodup
    rw [List.map_append, ← List.cons_append, List.nodup_append]
    exact ⟨nd0, by simp, fun a ha b hb ab => by
      rw [List.mem_singleton.mp (show b ∈ [q] from hb)] at ab
      exact hqn (ab ▸ ha)⟩
  · -- the data
    have own' : ∀ z ∈ owned σ (ρ.set i (.trL p (es ++ [(q, Inn.l ds)]))), z = q ∨ z ∈ owned σ ρ := by
      have key : ∀ {σ : L2.St} {ρ : List Sl} {i : Nat}, σ[i]? = some (some (.ref p)) → ρ[i]? = some (.trL p es) → ∀ z ∈ owned σ (ρ.set i (.trL p (es ++ [(q, Inn.l ds)]))), z = q ∨ z ∈ owned σ ρ := by
        intro σ
        induction σ with
        | nil => intro ρ i h; simp at h
        | cons y σ ih =>
          intro ρ i h1 h2 z hz
          cases ρ with
          | nil => simp at h2
          | cons t ρ =>
            cases i with
            | zero =>
              cases h1
              cases h2
              rcases List.mem_append.mp hz with w | w
              · rcases List.mem_cons.mp w with w | w
                · exact .inr (List.mem_append_left _ (w ▸ List.mem_cons_self))
                · rw [List.map_append] at w
                  rcases List.mem_append.mp w with w | w
                  · exact .inr (List.mem_append_left _ (List.mem_cons_of_mem _ w))
                  · exact .inl (List.mem_singleton.mp w)
              · exact .inr (List.mem_append_right _ w)
            | succ i =>
              rcases List.mem_append.mp hz with w | w
              · exact .inr (List.mem_append_left _ w)
              · exact (ih (by simpa using h1) (by simpa using h2) z w).imp id fun w => List.mem_append_right _ w
      exact key h1 e
    have eG : Same (hid g X σ ρ H) (hid g X σ (ρ.set i (.trL p (es ++ [(q, Inn.l ds)]))) (upd H1 p (.lst (es.map (fun e => V.ref e.1) ++ [.ref q])))) := fun b o eb => by
      obtain ⟨k1, k2⟩ := hide_some eb
      have bp : b ∉ g.pr := fun z => k1 (List.mem_append_right _ (List.mem_append_left _ z))
      show hide (X ++ (g.pr ++ owned σ (ρ.set i _))) _ b = some o
      rw [hide_out, upd_ne (fun z : b = p => k1 (List.mem_append_right _ (List.mem_append_right _ (by rw [z]; exact pm))))]
      · exact n1.kp b o k2 bp
      · intro z
        rcases List.mem_append.mp z with z | z
        · exact k1 (List.mem_append_left _ z)
        · rcases List.mem_append.mp z with z | z
          · exact bp z
          · rcases own' b z with w | w
            · rw [w, hq] at k2; cases k2
            · exact k1 (List.mem_append_right _ (List.mem_append_right _ w))
    have eQ : Same (hide (q :: (X ++ (g.pr ++ owned σ ρ))) H1) (hid g X σ (ρ.set i (.trL p (es ++ [(q, Inn.l ds)]))) (upd H1 p (.lst (es.map (fun e => V.ref e.1) ++ [.ref q])))) := fun b o eb => by
      obtain ⟨k1, k2⟩ := hide_some eb
      show hide (X ++ (g.pr ++ owned σ (ρ.set i _))) _ b = some o
      rw [hide_out, upd_ne (fun z : b = p => k1 (List.mem_cons_of_mem _ (List.mem_append_right _ (List.mem_append_right _ (by rw [z]; exact pm)))))]
      · exact k2
      · intro z
        rcases List.mem_append.mp z with z | z
        · exact k1 (List.mem_cons_of_mem _ (List.mem_append_left _ z))
        · rcases List.mem_append.mp z with z | z
          · exact k1 (List.mem_cons_of_mem _ (List.mem_append_right _ (List.mem_append_left _ z)))
          · rcases own' b z with w | w
            · exact k1 (w ▸ List.mem_cons_self)
            · exact k1 (List.mem_cons_of_mem _ (List.mem_append_right _ (List.mem_append_right _ w)))
    refine .trL (by rw [upd_same, List.map_append]; rfl) fun z hz => ?_
    rcases List.mem_append.mp hz with w | w
    · have zm : z.1 ∈ owned σ ρ := own_mem h1 e (List.mem_cons_of_mem _ (List.mem_map.mpr ⟨z, w, rfl⟩))
      have zp : z.1 ≠ p := fun x => (List.nodup_cons.mp nd0).1 (x ▸ List.mem_map.mpr ⟨z, w, rfl⟩)
      exact (r z w).mono eG fun o ho => by rw [upd_ne zp]; exact n1.kp _ _ ho (R.nw _ zm).2
    · rw [List.mem_singleton.mp w]
      exact ⟨xs, by rw [upd_ne (fun z => hpq z.symm)]; exact hx, rq.mn eQ⟩
/-- of an expression that owns nothing -/
theorem ev_of_y {Φ : Dat → Prop} (h : EvY g te ρ fun s => ∃ d, s = .dat d ∧ Φ d) : EvC g te ρ Φ := fun X Y σ H Q R k => h X Y σ H Q R fun s v H' hs n _ _ r => by
  obtain ⟨d, rfl, hd⟩ := hs
  have e : ownA (some v) (.dat d) = [] := ownA_dat _ _
  rw [e] at r
  cases r with
  | dat r => exact k d v H' hd n r
theorem en_of_y {Φ : List Dat → Prop} (h : EvY g te ρ fun s => ∃ ds, s = .own none ds ∧ Φ ds) : EvN g te ρ Φ := fun X Y σ H Q R k => h X Y σ H Q R fun s v H' hs n hn _ r => by
  obtain ⟨ds, rfl, hd⟩ := hs
  cases r with
  | own q h r => exact k ds _ _ H' hd n (hn _ (List.mem_singleton.mpr rfl)) h r
/-! ### lists of new lists by a comprehension -/
theorem RS.hideNew (R : RS g X Y σ H ρ) (n : Nx g H H') {q : Addr} (hq : H q = none) (hq2 : H' q ≠ none) : RS g (q :: X) Y σ H' ρ := by
  have R1 := R.nx n
  refine ⟨R.nd, R.sl.mono (fun b o e => ?_) fun p hp o e => n.kp p o e (R.nw p hp).2, R1.fr, R.nw, fun b hb => ?_, n.st⟩
  · obtain ⟨h1, h2⟩ := hide_some e
    refine (hide_out fun z => ?_).trans (n.kp b o h2 fun z => h1 (pr_sub z))
    rcases List.mem_cons.mp z with z | z
    · rw [z, hq] at h2; cases h2
    · exact h1 z
  · rcases List.mem_cons.mp hb with z | z
    · subst z
      exact ⟨hq2, fun w => R.own_some w hq⟩
    · exact R1.xd b z
def innS : Sl → Option Inn
  | .own _ ds => some (.l ds)
  | .ownK kvs => some (.k kvs)
  | _ => none
def LtP (g : Gm) (X : List Addr) (Y : Hp) (σ : L2.St) (ρ : List Sl) (H1 : Hp) (D : Addr) (Inv : Nat → List Inn → Prop) (i : Nat) (H' : Hp) : Prop :=
  ∃ es : List (Addr × Inn), Inv i (es.map (·.2)) ∧ RS g (es.map (·.1) ++ D :: X) Y σ H' ρ ∧ Nx g H1 H' ∧ H' D = some (.lst (es.map fun e => .ref e.1)) ∧ (D :: es.map (·.1)).Nodup ∧ (∀ e ∈ es, H1 e.1 = none) ∧ ∀ e ∈ es, InnOk g.K (hid g (es.map (·.1) ++ D :: X) σ ρ H') H' e.1 e.2
theorem LtP.start {H1 : Hp} (R : RS g X Y σ H1 ρ) {D : Addr} (hD : H1 D = none) {Inv : Nat → List Inn → Prop} (h0 : Inv 0 []) : LtP g X Y σ ρ H1 D Inv 0 (upd H1 D (.lst [])) :=
  ⟨[], h0, R.addX hD, R.same (upd_new hD), upd_same, List.nodup_cons.mpr ⟨fun z => (by cases z), List.nodup_nil⟩, (fun _ z => nomatch z), fun _ z => nomatch z⟩
theorem LtP.seen {H1 : Hp} {D : Addr} {Inv : Nat → List Inn → Prop} {i : Nat} (hD : H1 D = none) (p : LtP g X Y σ ρ H1 D Inv i H') {es : List (Addr × Inn)} (n : Nx g H1 H') (hn : ∀ e ∈ es, H1 e.1 = none) : Same (hid g X σ ρ H1) (hid g (es.map (·.1) ++ D :: X) σ ρ H') := fun b o e => by
  obtain ⟨h1, h2⟩ := hide_some e
  refine (hide_out fun z => ?_).trans (n.kp b o h2 fun z => h1 (pr_sub z))
  rcases List.mem_append.mp z with z | z
  · rcases List.mem_append.mp z with z | z
    · obtain ⟨e', he, rfl⟩ := List.mem_map.mp z
      rw [hn e' he] at h2; cases h2
    · rcases List.mem_cons.mp z with z | z
      · rw [z, hD] at h2; cases h2
      · exact h1 (List.mem_append_left _ z)
  · exact h1 (List.mem_append_right _ z)
theorem hid_permX {X' : List Addr} (h : ∀ b, b ∈ X ↔ b ∈ X') : hid g X σ ρ H = hid g X' σ ρ H := by
  funext b
  show hide (X ++ (g.pr ++ owned σ ρ)) H b = hide (X' ++ (g.pr ++ owned σ ρ)) H b
  by_cases q : b ∈ X ++ (g.pr ++ owned σ ρ)
  · have q' : b ∈ X' ++ (g.pr ++ owned σ ρ) := by
      rcases List.mem_append.mp q with z | z
      · exact List.mem_append_left _ ((h b).mp z)
      · exact List.mem_append_right _ z
    rw [hide_in q, hide_in q']
  · have q' : b ∉ X' ++ (g.pr ++ owned σ ρ) := fun w => q (by
      rcases List.mem_append.mp w with z | z
      · exact List.mem_append_left _ ((h b).mpr z)
      · exact List.mem_append_right _ z)
    rw [hide_out q, hide_out q']
theorem RS.permX {X' : List Addr} (R : RS g X Y σ H ρ) (h : ∀ b, b ∈ X ↔ b ∈ X') : RS g X' Y σ H ρ :=
  ⟨R.nd, (hid_permX h : hid g X σ ρ H = _) ▸ R.sl, R.fr, R.nw, fun b hb => R.xd b ((h b).mpr hb), R.st⟩
theorem LtP.turn {H1 : Hp} {tt : TT} (R0 : RS g X Y σ H1 ρ) {D : Addr} {Inv : Nat → List Inn → Prop} {i v : Nat} {x : V} {d : Dat} (hD : H1 D = none) (hv : ρ[v]? = some .no) (p : LtP g X Y σ ρ H1 D Inv i H')
    (rx : Rp g.K (hid g X σ ρ H1) x d) (h : ∀ acc, Inv i acc → EvT g tt (ρ.set v (.dat d)) fun b => if b = true then EvY g te (ρ.set v (.dat d)) fun s => ∃ n, innS s = some n ∧ acc.length < sizeLine ∧ Inv (i + 1) (acc ++ [n]) else Inv (i + 1) acc) :
    gName v x (wipe σ [v]) H' fun σ2 H2 => wipe σ2 [v] = wipe σ [v] ∧ tt σ2 H2 fun b H3 =>
      if b = true then te σ2 H3 fun y H4 => ∃ acc, H4 D = some (.lst acc) ∧ acc.length < sizeLine ∧ LtP g X Y σ ρ H1 D Inv (i + 1) (upd H4 D (.lst (acc ++ [y]))) else LtP g X Y σ ρ H1 D Inv (i + 1) H3 := by
  have p0 := p
  obtain ⟨es, hI, R, n, hDl, nd, hnew, hin⟩ := p
  have npr : D ∉ g.pr := fun z => R0.st.some z hD
  have R1 := R.forget (i := v) none
  rw [set_no hv] at R1
  have e1 : Same (hid g (es.map (·.1) ++ D :: X) σ ρ H') (hid g (es.map (·.1) ++ D :: X) (wipe σ [v]) ρ H') := hide_mono fun b hb => by
    have hb' : b ∈ (es.map (·.1) ++ D :: X) ++ (g.pr ++ owned (σ.set v none) ρ) := hb
    rcases List.mem_append.mp hb' with z | z
    · exact List.mem_append_left _ z
    · rcases List.mem_append.mp z with z | z
      · exact pr_sub z
      · have z2 : b ∈ owned (σ.set v none) (ρ.set v .no) := by rw [set_no hv]; exact z
        rcases owned_set b z2 with w | w
        · cases w
        · exact List.mem_append_right _ (List.mem_append_right _ w)
  have rx' : Rp g.K (hid g (es.map (·.1) ++ D :: X) σ ρ H') x d := rx.mn (LtP.seen hD p0 n hnew)
  have R2 := RS.setD (σ := wipe σ [v]) R1 (i := v) (rx'.mn e1)
  refine ⟨wipe1, h _ hI _ _ _ H' _ R2 fun b H3 hb n3 => ?_⟩
  cases b with
  | false => exact iteF ⟨es, by simpa using hb, R.nx n3, n.trans n3, n3.kp _ _ hDl npr, nd, hnew, fun e he => (hin e he).mono n3.hid fun o ho => n3.kp _ _ ho fun z => R0.st.some z (hnew e he)⟩
  | true =>
    refine iteT ?_
    have hb' : EvY g te (ρ.set v (.dat d)) fun s => ∃ n, innS s = some n ∧ (es.map (·.2)).length < sizeLine ∧ Inv (i + 1) (es.map (·.2) ++ [n]) := by simpa using hb
    refine hb' _ _ _ H3 _ (R2.nx n3) fun s yv H4 hy n4 hq ndq ry => ?_
    obtain ⟨m, hm, hlen, hI'⟩ := hy
    have n34 := n3.trans n4
    have hD4 := n34.kp _ _ hDl npr
    rw [List.length_map] at hlen
    refine ⟨_, hD4, by rw [List.length_map]; exact hlen, ?_⟩
    obtain ⟨q, rfl, hqo⟩ : ∃ q, yv = .ref q ∧ ownA (some yv) s = [q] := by
      cases ry with
      | own _ _ _ => exact ⟨_, rfl, rfl⟩
      | ownK _ _ => exact ⟨_, rfl, rfl⟩
      | _ => cases hm
    have hq3 : H3 q = none := hq q (by rw [hqo]; exact List.mem_singleton.mpr rfl)
    have hqH' : H' q = none := nx_none R n3 hq3
    have hq1 : H1 q = none := by
      cases e : H1 q with
      | none => rfl
      | some o =>
        by_cases z : q ∈ g.pr
        · exact absurd hqH' (n.st.some z)
        · rw [n.kp q o e z] at hqH'; cases hqH'
    have qD : q ≠ D := fun z => by rw [z, hDl] at hqH'; cases hqH'
    have qes : q ∉ es.map (·.1) := fun z => by
      obtain ⟨e, he, ee⟩ := List.mem_map.mp z
      have := (hin e he).some
      rw [ee] at this
      exact this hqH'
    have hqH4 : H4 q ≠ none := by
      cases ry with
      | own _ h _ => intro z; rw [h] at z; cases z
      | ownK h _ => intro z; rw [h] at z; cases z
      | _ => cases hm
    have RQ := (R.hideNew n34 hqH' hqH4).permX (X' := (es ++ [(q, m)]).map (·.1) ++ D :: X) fun b => by
      simp only [List.map_append, List.map_cons, List.map_nil, List.mem_append, List.mem_cons, List.not_mem_nil, or_false]
      constructor
      · rintro (z | z | z | z)
        · exact .inl (.inr z)
        · exact .inl (.inl z)
        · exact .inr (.inl z)
        · exact .inr (.inr z)
      · rintro ((z | z) | z | z)
        · exact .inr (.inl z)
        · exact .inl z
        · exact .inr (.inr (.inl z))
        · exact .inr (.inr (.inr z))
    have Din : D ∈ (es ++ [(q, m)]).map (·.1) ++ D :: X := List.mem_append_right _ List.mem_cons_self
    have e2 : ∀ o, hid g ((es ++ [(q, m)]).map (·.1) ++ D :: X) σ ρ (upd H4 D o) = hid g ((es ++ [(q, m)]).map (·.1) ++ D :: X) σ ρ H4 := fun o => hide_upd_in (List.mem_append_left _ Din)
    have RQ2 := RQ.updX (o := .lst (es.map (fun e => V.ref e.1) ++ [.ref q])) Din npr (R0.yn hD)
    refine ⟨es ++ [(q, m)], by rw [List.map_append]; exact hI', RQ2, ⟨fun b o e nb => ?_, RQ2.st⟩, by rw [upd_same, List.map_append]; rfl, ?_, fun e he => ?_, fun e he => ?_⟩
    · rw [upd_ne (ne_of_none e hD)]
      exact (n.trans n34).kp b o e nb
    · rw [List.map_append, ← List.cons_append, List.nodup_append]
      refine ⟨nd, by simp, fun a ha b hb ab => ?_⟩
      rw [List.mem_singleton.mp (show b ∈ [q] from hb)] at ab
      rcases List.mem_cons.mp ha with z | z
      · exact qD (ab ▸ z)
      · exact qes (ab ▸ z)
    · rcases List.mem_append.mp he with z | z
      · exact hnew e z
      · rw [List.mem_singleton.mp z]; exact hq1
    · rw [e2]
      rcases List.mem_append.mp he with z | z
      · have zD : e.1 ≠ D := fun w => (List.nodup_cons.mp nd).1 (w ▸ List.mem_map.mpr ⟨e, z, rfl⟩)
        refine (hin e z).mono (fun b o eb => ?_) fun o ho => ?_
        · obtain ⟨k1, k2⟩ := hide_some eb
          refine (hide_out fun w => ?_).trans (n34.kp b o k2 fun w => k1 (pr_sub w))
          rcases List.mem_append.mp w with w | w
          · rcases List.mem_append.mp w with w | w
            · rw [List.map_append] at w
              rcases List.mem_append.mp w with w | w
              · exact k1 (List.mem_append_left _ (List.mem_append_left _ w))
              · rw [List.mem_singleton.mp (show b ∈ [q] from w), hqH'] at k2; cases k2
            · exact k1 (List.mem_append_left _ (List.mem_append_right _ w))
          · exact k1 (List.mem_append_right _ w)
        · rw [upd_ne zD]
          exact n34.kp _ _ ho fun w => R0.st.some w (hnew e z)
      · rw [List.mem_singleton.mp z]
        have own2 : ∀ b, b ∈ owned σ ρ → b ∈ owned ((wipe σ [v]).set v (some x)) (ρ.set v (.dat d)) ∨ True := fun _ _ => .inr trivial
        have eS : Same (hide (ownA (some (.ref q)) s ++ ((es.map (·.1) ++ D :: X) ++ (g.pr ++ owned ((wipe σ [v]).set v (some x)) (ρ.set v (.dat d))))) H4) (hid g ((es ++ [(q, m)]).map (·.1) ++ D :: X) σ ρ H4) := hide_mono fun b hb => by
          rcases List.mem_append.mp hb with w | w
          · rcases List.mem_append.mp w with w | w
            · rw [List.map_append] at w
              rcases List.mem_append.mp w with w | w
              · exact List.mem_append_right _ (List.mem_append_left _ (List.mem_append_left _ w))
              · refine List.mem_append_left _ ?_
                rw [hqo]
                exact w
            · exact List.mem_append_right _ (List.mem_append_left _ (List.mem_append_right _ w))
          · rcases List.mem_append.mp w with w | w
            · exact List.mem_append_right _ (pr_sub w)
            · refine List.mem_append_right _ (List.mem_append_right _ (List.mem_append_right _ (owned_keep hv ?_)))
              have z2 := owned_keep (i := v) (x := none) (s := .no) hv w
              rw [set_no hv] at z2
              exact z2
        cases ry with
        | own _ h r =>
          cases hm
          exact ⟨_, by rw [upd_ne qD]; exact h, r.mn eS⟩
        | ownK h r =>
          cases hm
          exact ⟨_, by rw [upd_ne qD]; exact h, r.mn eS⟩
        | _ => cases hm
theorem LtP.stop {H1 : Hp} (R : RS g X Y σ H ρ) (n1 : Nx g H H1) {D : Addr} {Inv : Nat → List Inn → Prop} {Φ : Sl → Prop} {n : Nat} {Q : VK} (hD : H1 D = none) (hf : ∀ es, Inv n (es.map (·.2)) → Φ (.trL D es))
    (k : ∀ s v H', Φ s → Nx g H H' → (∀ q ∈ ownA (some v) s, H q = none) → (ownA (some v) s).Nodup → SlOk g (hide (ownA (some v) s ++ (X ++ (g.pr ++ owned σ ρ))) H') H' (some v) s → Q v H') (p : LtP g X Y σ ρ H1 D Inv n H') : Q (.ref D) H' := by
  obtain ⟨es, hI, _, nn, hDl, nd, hnew, hin⟩ := p
  refine k (.trL D es) (.ref D) H' (hf es hI) (n1.trans nn) (fun q hq => ?_) nd (.trL hDl fun e he => (hin e he).mono (hide_mono fun b hb => ?_) fun _ z => z)
  · rcases List.mem_cons.mp hq with z | z
    · rw [z]; exact nx_none R n1 hD
    · obtain ⟨e, he, rfl⟩ := List.mem_map.mp z
      exact nx_none R n1 (hnew e he)
  · rcases List.mem_append.mp hb with w | w
    · rcases List.mem_cons.mp w with w | w
      · exact List.mem_append_left _ (List.mem_append_right _ (w ▸ List.mem_cons_self))
      · exact List.mem_append_left _ (List.mem_append_left _ w)
    · rcases List.mem_append.mp w with w | w
      · exact List.mem_append_left _ (List.mem_append_right _ (List.mem_cons_of_mem _ w))
      · exact List.mem_append_right _ w
theorem ey_lcQ {v : Nat} {tl : TE} {tt : TT} {Φ : Sl → Prop} (hv : ρ[v]? = some .no) (h : EvS g tl ρ fun d => ∃ ds, (d = .lst ds ∨ d = .tup ds) ∧ ∃ Inv : Nat → List Inn → Prop, Inv 0 [] ∧
    (∀ i d acc, ds[i]? = some d → Inv i acc → EvT g tt (ρ.set v (.dat d)) fun b => if b = true then EvY g te (ρ.set v (.dat d)) fun s => ∃ n, innS s = some n ∧ acc.length < sizeLine ∧ Inv (i + 1) (acc ++ [n]) else Inv (i + 1) acc) ∧ ∀ D es, Inv ds.length (es.map (·.2)) → Φ (.trL D es)) :
    EvY g (tLc (iSeq g.K tl) (gName v) tt te [v]) ρ Φ := fun X Y σ H Q R k => h X Y σ H _ R fun d w H1 hd n1 r1 => by
  obtain ⟨ds, rfl | rfl, Inv, h0, hs, hf⟩ := hd
  · obtain ⟨a, xs, rfl, ha, r⟩ := r1.lst_inv hid_p
    have ha2 := hide_some ha
    refine ⟨a, rfl, .inl ⟨⟨xs, SqL.of ha2.2⟩, fun D hD => ?_⟩⟩
    refine lc_list (K := g.K) (a := a) (xs := xs) (LtP g X Y σ ρ H1 D Inv) (LtP.start (R.nx n1) hD h0) (fun i H' _ p => by obtain ⟨_, _, _, nn, _⟩ := p; exact SqL.of (nn.kp a _ ha2.2 ha2.1)) (fun i x H' hi p => ?_) fun H' p => LtP.stop R n1 hD (n := xs.length) (fun es hI => hf D es (by rw [← r.length]; exact hI)) k p
    obtain ⟨d, hd, rd⟩ := r.get' hi
    exact LtP.turn (R.nx n1) hD hv p rd fun acc hI => hs i d acc hd hI
  · obtain ⟨a, xs, rfl, ha, r⟩ := r1.tup_inv hid_p
    refine ⟨a, rfl, .inr ⟨⟨xs, Same.sqT hide_same ha⟩, fun D hD => ?_⟩⟩
    refine lc_tup (K := g.K) (a := a) (xs := xs) (LtP g X Y σ ρ H1 D Inv) (LtP.start (R.nx n1) hD h0) (fun i H' _ p => by obtain ⟨_, _, _, nn, _⟩ := p; exact Same.sqT (fun b o e => nn.kp b o (hide_some e).2 (hide_some e).1) ha) (fun i x H' hi p => ?_) fun H' p => LtP.stop R n1 hD (n := xs.length) (fun es hI => hf D es (by rw [← r.length]; exact hI)) k p
    obtain ⟨d, hd, rd⟩ := r.get' hi
    exact LtP.turn (R.nx n1) hD hv p rd fun acc hI => hs i d acc hd hI
end
end NW

/-! NwO: circuits of balanced arrows: a web that is balanced falls into circuits; the greatest split. -/
namespace NW
open PySem PySem.Spec PyProof.Rows L2
/-! ### bits -/
theorem selB_bit (i k : Nat) : selB (i : Int) k = i.testBit k := by
  unfold selB
  rw [PyProof.Rows.bitAnd_m1, Nat.testBit_eq_decide_div_mod_eq, show (2 : Int) ^ k = ((2 ^ k : Nat) : Int) by rw [Int.natCast_pow]; rfl]
  exact decide_eq_decide.mpr (by
    rw [← Int.natCast_ediv]
    omega)
theorem sub_bit : ∀ (k i p : Nat), i &&& p = p → (i - p).testBit k = (i.testBit k && !p.testBit k)
  | 0, i, p, h => by
    have h3 : p % 2 ≤ i % 2 := by
      rcases Nat.mod_two_eq_zero_or_one p with z | z
      · omega
      · have := (Nat.and_mod_two_eq_one (a := i) (b := p)).mp (by rw [h]; exact z)
        omega
    have h2 : p ≤ i := by rw [← h]; exact Nat.and_le_left
    rw [Nat.testBit_zero, Nat.testBit_zero, Nat.testBit_zero]
    by_cases a : i % 2 = 1 <;> by_cases b : p % 2 = 1
    · rw [decide_eq_true a, decide_eq_true b, decide_eq_false (by omega)]; rfl
    · rw [decide_eq_true a, decide_eq_false b, decide_eq_true (by omega)]; rfl
    · omega
    · rw [decide_eq_false a, decide_eq_false b, decide_eq_false (by omega)]; rfl
  | k + 1, i, p, h => by
    have h1 : (i / 2) &&& (p / 2) = p / 2 := by rw [← Nat.and_div_two, h]
    have h2 : p / 2 ≤ i / 2 := by rw [← h1]; exact Nat.and_le_left
    have h3 : p % 2 ≤ i % 2 := by
      rcases Nat.mod_two_eq_zero_or_one p with z | z
      · omega
      · have := (Nat.and_mod_two_eq_one (a := i) (b := p)).mp (by rw [h]; exact z)
        omega
    rw [Nat.testBit_succ, Nat.testBit_succ, Nat.testBit_succ, show (i - p) / 2 = i / 2 - p / 2 by omega]
    exact sub_bit k (i / 2) (p / 2) h1
theorem inB_bits {i p n : Nat} (hp : p < 2 ^ n) (h : ∀ k, k < n → p.testBit k = true → i.testBit k = true) : inB (i : Int) (p : Int) = true := by
  refine decide_eq_true ?_
  rw [band]
  have : i &&& p = p := Nat.eq_of_testBit_eq fun k => by
    rw [Nat.testBit_and]
    by_cases q : k < n
    · cases e : p.testBit k with
      | true => rw [h k q e]; rfl
      | false => rw [Bool.and_false]
    · rw [Nat.testBit_lt_two_pow (Nat.lt_of_lt_of_le hp (Nat.pow_le_pow_right (by decide) (by omega))), Bool.and_false]
  rw [this]
/-- the index of a set of places -/
def maskOf (f : Nat → Bool) : Nat → Nat
  | 0 => 0
  | n + 1 => maskOf f n + (if f n = true then 2 ^ n else 0)
theorem maskOf_lt (f : Nat → Bool) : ∀ n, maskOf f n < 2 ^ n
  | 0 => by show 0 < 1; decide
  | n + 1 => by
    have := maskOf_lt f n
    show maskOf f n + (if f n = true then 2 ^ n else 0) < 2 ^ (n + 1)
    rw [Nat.pow_succ]
    split <;> omega
theorem maskOf_bit (f : Nat → Bool) : ∀ n k, k < n → (maskOf f n).testBit k = f k
  | n + 1, k, h => by
    show (maskOf f n + (if f n = true then 2 ^ n else 0)).testBit k = f k
    have hl := maskOf_lt f n
    by_cases q : k = n
    · subst q
      by_cases e : f k = true
      · rw [if_pos e, e, Nat.add_comm, Nat.testBit_two_pow_add_eq, Nat.testBit_lt_two_pow hl]; rfl
      · rw [if_neg e, Nat.add_zero, Nat.testBit_lt_two_pow hl]
        simpa using e
    · by_cases e : f n = true
      · rw [if_pos e, Nat.add_comm, Nat.testBit_two_pow_add_gt (by omega)]
        exact maskOf_bit f n k (by omega)
      · rw [if_neg e, Nat.add_zero]
        exact maskOf_bit f n k (by omega)
/-! ### what an index selects -/
theorem selTo_split {rows : List Arr} {i p : Nat} (h : i &&& p = p) : ∀ k, (selTo rows i k).Perm (selTo rows p k ++ selTo rows ((i - p : Nat) : Int) k)
  | 0 => List.Perm.refl _
  | k + 1 => by
    have ih := selTo_split (rows := rows) h k
    have b := sub_bit k i p h
    have c : p.testBit k = true → i.testBit k = true := fun e => by
      have := congrArg (fun z => Nat.testBit z k) h
      simp only [Nat.testBit_and] at this
      rw [e] at this
      simpa using this
    unfold selTo
    rw [selB_bit, selB_bit, selB_bit, b]
    cases e1 : i.testBit k with
    | false =>
      have e2 : p.testBit k = false := by
        cases z : p.testBit k with
        | false => rfl
        | true => rw [c z] at e1; cases e1
      rw [e2]
      simpa using ih
    | true =>
      cases e2 : p.testBit k with
      | true =>
        simp only [if_true, Bool.not_true, Bool.and_false, Bool.false_eq_true, if_false, List.append_nil]
        refine (ih.append_right _).trans ?_
        rw [List.append_assoc, List.append_assoc]
        exact (List.perm_append_comm).append_left _
      | false =>
        simp only [if_true, Bool.not_false, Bool.and_true, Bool.false_eq_true, if_false, List.append_nil]
        rw [← List.append_assoc]
        exact ih.append_right _
theorem sel_split {rows : List Arr} {i p : Nat} (h : i &&& p = p) : (sel rows i).Perm (sel rows p ++ sel rows ((i - p : Nat) : Int)) := selTo_split h _
theorem selTo_mem {rows : List Arr} {i j : Nat} {a : Arr} (h : rows[j]? = some a) (hb : i.testBit j = true) : ∀ k, j < k → a ∈ selTo rows i k
  | k + 1, hk => by
    unfold selTo
    by_cases q : j = k
    · subst q
      rw [selB_bit, hb, if_pos rfl, h]
      exact List.mem_append_right _ (List.mem_singleton.mpr rfl)
    · exact List.mem_append_left _ (selTo_mem h hb k (by omega))
theorem sel_full {rows : List Arr} : sel rows ((2 ^ rows.length - 1 : Nat) : Int) = rows := by
  have key : ∀ k, k ≤ rows.length → selTo rows ((2 ^ rows.length - 1 : Nat) : Int) k = rows.take k := by
    intro k
    induction k with
    | zero => intro _; rfl
    | succ k ih =>
      intro hk
      unfold selTo
      rw [ih (by omega), selB_bit, Nat.testBit_two_pow_sub_one, decide_eq_true (by omega : k < rows.length), if_pos rfl, List.getElem?_eq_getElem (by omega), List.take_add_one, List.getElem?_eq_getElem (by omega)]
  have := key rows.length (Nat.le_refl _)
  rw [List.take_length] at this
  exact this
/-! ### balance -/
def Bal (S : List Arr) : Prop := ∀ p, begs S p = ends S p
theorem Bal.perm {S T : List Arr} (h : Bal S) (p : T.Perm S) : Bal T := fun q => by
  unfold begs ends
  rw [p.countP_eq, p.countP_eq]
  exact h q
theorem TrailP.ends {S r : List Arr} {b : Bool} (h : TrailP S b r) : (r.map (·.2.2)).Perm (r.map (·.2.1)) := by
  have h0 : 0 < r.length := List.length_pos_iff.mpr h.ne
  have e : r.map (·.2.1) = (r.map (·.2.2)).drop (r.length - 1) ++ (r.map (·.2.2)).take (r.length - 1) := by
    apply List.ext_getElem?
    intro i
    by_cases hi : i < r.length
    · have e1 := List.getElem?_eq_getElem hi
      by_cases z : i = 0
      · subst z
        rw [List.getElem?_append_left (by rw [List.length_drop, List.length_map]; omega), List.getElem?_drop, Nat.add_zero, List.getElem?_map, List.getElem?_map, e1, List.getElem?_eq_getElem (by omega)]
        have := h.ln 0 _ _ e1 (by rw [if_pos rfl]; exact List.getElem?_eq_getElem (by omega))
        exact congrArg some this.symm
      · rw [List.getElem?_append_right (by rw [List.length_drop, List.length_map]; omega), List.length_drop, List.length_map, List.getElem?_take_of_lt (by omega), List.getElem?_map, List.getElem?_map, e1, show i - (r.length - (r.length - 1)) = i - 1 by omega, List.getElem?_eq_getElem (by omega)]
        have := h.ln i _ _ e1 (by rw [if_neg z]; exact List.getElem?_eq_getElem (by omega))
        exact congrArg some this.symm
    · rw [List.getElem?_eq_none_iff.mpr (by rw [List.length_map]; omega), List.getElem?_eq_none_iff.mpr (by rw [List.length_append, List.length_drop, List.length_take, List.length_map]; omega)]
  rw [e]
  exact (List.perm_append_comm (l₁ := (r.map (·.2.2)).drop (r.length - 1)).trans (by rw [List.take_append_drop])).symm
theorem bal_of {S : List Arr} (h : (S.map (·.2.2)).Perm (S.map (·.2.1))) : Bal S := fun p => by
  rw [begs_map, ends_map]
  exact (h.countP_eq _).symm
theorem Ring.bal {S r : List Arr} (h : Ring S r) (nd : (S.map (·.1)).Nodup) (ne : S ≠ []) : Bal S := (bal_of (h.trail nd ne).ends).perm h.perm.symm
theorem Bal.cancel {S A B : List Arr} (h : Bal S) (p : S.Perm (A ++ B)) (ha : Bal A) : Bal B := fun q => by
  have h1 := (h.perm p.symm) q
  rw [begs_app, ends_app, ha q] at h1
  omega
/-! ### rows turned -/
theorem TrailP.rot1 {S t : List Arr} {x : Arr} {b : Bool} (h : TrailP S b (x :: t)) : TrailP S b (t ++ [x]) := by
  have pm : (t ++ [x]).Perm (x :: t) := List.perm_append_singleton x t
  refine ⟨fun a ha => h.sub a (pm.mem_iff.mp ha), (pm.map (·.1)).nodup_iff.mpr h.nd, fun i a c h1 h2 => ?_, fun e => (pm.map (·.2.1)).nodup_iff.mpr (h.bg e), by simp⟩
  have hi := (List.getElem?_eq_some_iff.mp h1).1
  rw [List.length_append, List.length_singleton] at hi
  rw [List.length_append, List.length_singleton, Nat.add_sub_cancel] at h2
  by_cases q : i < t.length
  · rw [List.getElem?_append_left q] at h1
    by_cases z : i = 0
    · subst z
      rw [if_pos rfl, List.getElem?_append_right (Nat.le_refl _), Nat.sub_self] at h2
      cases (show some x = some c from h2)
      exact h.ln 1 a x h1 (by rw [if_neg (by decide)]; rfl)
    · rw [if_neg z, List.getElem?_append_left (by omega)] at h2
      exact h.ln (i + 1) a c h1 (by rw [if_neg (by omega), Nat.add_sub_cancel, show i = (i - 1) + 1 by omega]; exact h2)
  · have e : i = t.length := by omega
    subst e
    rw [List.getElem?_append_right (Nat.le_refl _), Nat.sub_self] at h1
    cases (show some x = some a from h1)
    refine h.ln 0 x c rfl ?_
    rw [if_pos rfl, List.length_cons, Nat.add_sub_cancel]
    by_cases z : t.length = 0
    · rw [if_pos z, z] at h2
      rw [z]
      have : t = [] := List.eq_nil_of_length_eq_zero z
      subst this
      exact h2
    · rw [if_neg z, List.getElem?_append_left (by omega)] at h2
      rw [show t.length = (t.length - 1) + 1 by omega]
      exact h2
theorem TrailP.rot {S r : List Arr} {b : Bool} : ∀ {j : Nat}, j ≤ r.length → TrailP S b r → TrailP S b (r.drop j ++ r.take j)
  | 0, _, h => by rw [List.drop_zero, List.take_zero, List.append_nil]; exact h
  | j + 1, hj, h => by
    have ih := TrailP.rot (j := j) (by omega) h
    have e : r.drop j = r[j] :: r.drop (j + 1) := List.drop_eq_getElem_cons (by omega)
    rw [e, List.cons_append] at ih
    have := ih.rot1
    rw [List.append_assoc] at this
    rw [List.take_succ, List.getElem?_eq_getElem (by omega)]
    exact this
theorem TrailP.more {S T r : List Arr} {b : Bool} (h : TrailP S b r) (s : ∀ a ∈ S, a ∈ T) : TrailP T b r := ⟨fun a ha => s a (h.sub a ha), h.nd, h.ln, h.bg, h.ne⟩
/-! ### a balanced set has a circuit -/
theorem nodup_le {α : Type} [DecidableEq α] : ∀ {l m : List α}, l.Nodup → (∀ a ∈ l, a ∈ m) → l.length ≤ m.length
  | [], m, _, _ => Nat.zero_le _
  | a :: l, m, nd, h => by
    have h1 := List.nodup_cons.mp nd
    have hm := h a List.mem_cons_self
    have := nodup_le (l := l) (m := m.erase a) h1.2 fun b hb => (List.mem_erase_of_ne (fun e => h1.1 (by rw [← e]; exact hb))).mpr (h b (List.mem_cons_of_mem _ hb))
    rw [List.length_erase_of_mem hm] at this
    have := List.length_pos_of_mem hm
    rw [List.length_cons]
    omega
theorem walk_go {S : List Arr} (bal : Bal S) (nd : (S.map (·.1)).Nodup) (w : List Arr) (ne : w ≠ []) (sub : ∀ a ∈ w, a ∈ S) (bg : (w.map (·.2.1)).Nodup) (ln : ∀ (i : Nat) (a b : Arr), w[i]? = some a → w[i + 1]? = some b → a.2.2 = b.2.1)
    (more : ∀ b ∈ S, b.2.1 ∉ w.map (·.2.1) → (∀ x, w[w.length - 1]? = some x → x.2.2 = b.2.1) → ∃ r, TrailP S true r) : ∃ r, TrailP S true r := by
  have h0 : 0 < w.length := List.length_pos_iff.mpr ne
  have el := List.getElem?_eq_getElem (show w.length - 1 < w.length by omega)
  generalize w[w.length - 1] = l at el
  have hl := sub l (List.mem_of_getElem? el)
  by_cases q : l.2.2 ∈ w.map (·.2.1)
  · obtain ⟨a, ha, e⟩ := List.mem_map.mp q
    obtain ⟨j, hj, ej⟩ := List.mem_iff_getElem.mp ha
    have ej' := List.getElem?_eq_getElem hj
    rw [ej] at ej'
    refine ⟨w.drop j, fun b hb => sub b (List.mem_of_mem_drop hb), ?_, fun i x y hx hy => ?_, fun _ => ?_, fun z => by have := congrArg List.length z; rw [List.length_drop] at this; simp at this; omega⟩
    · have : (w.drop j).Nodup := (nodup_of_beg bg).sublist (List.drop_sublist _ _)
      rw [List.nodup_iff_pairwise_ne] at this
      refine List.Pairwise.map _ ?_ (this.imp_of_mem fun {x y} hx hy hne => (show x ≠ y ∧ x ∈ S ∧ y ∈ S from ⟨hne, sub x (List.mem_of_mem_drop hx), sub y (List.mem_of_mem_drop hy)⟩))
      rintro x y ⟨hne, hx, hy⟩ e
      obtain ⟨i1, h1, e1⟩ := List.mem_iff_getElem.mp hx
      obtain ⟨i2, h2, e2⟩ := List.mem_iff_getElem.mp hy
      have := nodup_at (f := fun x : Arr => x.1) nd (List.getElem?_eq_getElem h1) (List.getElem?_eq_getElem h2) (by rw [e1, e2]; exact e)
      subst this
      exact hne (e1.symm.trans e2)
    · rw [List.length_drop] at hy
      rw [List.getElem?_drop] at hx hy
      by_cases z : i = 0
      · subst z
        rw [if_pos rfl, show j + (w.length - j - 1) = w.length - 1 by omega, el] at hy
        cases hy
        rw [Nat.add_zero, ej'] at hx
        cases hx
        exact e.symm
      · rw [if_neg z] at hy
        exact ln (j + (i - 1)) y x hy (by rw [show j + (i - 1) + 1 = j + i by omega]; exact hx)
    · rw [List.map_drop]
      exact bg.sublist (List.drop_sublist _ _)
  · have h1 : 0 < ends S l.2.2 := List.countP_pos_iff.mpr ⟨l, hl, decide_eq_true rfl⟩
    rw [← bal] at h1
    obtain ⟨b, hb, hd⟩ := List.countP_pos_iff.mp h1
    have hb2 : b.2.1 = l.2.2 := of_decide_eq_true hd
    exact more b hb (by rw [hb2]; exact q) fun x hx => by
      rw [el] at hx
      cases hx
      exact hb2.symm
theorem walk_closes {S : List Arr} (bal : Bal S) (nd : (S.map (·.1)).Nodup) : ∀ (n : Nat) (w : List Arr), S.length ≤ w.length + n → w ≠ [] → (∀ a ∈ w, a ∈ S) → (w.map (·.2.1)).Nodup → (∀ (i : Nat) (a b : Arr), w[i]? = some a → w[i + 1]? = some b → a.2.2 = b.2.1) → ∃ r, TrailP S true r := by
  intro n
  induction n with
  | zero =>
    intro w hl ne sub bg ln
    exact walk_go bal nd w ne sub bg ln fun b hb hnew => by
      have h1 : ((w ++ [b]).map (·.2.1)).Nodup := by
        rw [List.map_append, List.nodup_append]
        exact ⟨bg, by simp, fun x hx y hy e => hnew (by rw [List.mem_singleton.mp (show y ∈ [b.2.1] from hy)] at e; exact e ▸ hx)⟩
      have := nodup_le (nodup_of_beg h1) fun a ha => by
        rcases List.mem_append.mp ha with z | z
        · exact sub a z
        · rw [List.mem_singleton.mp z]; exact hb
      rw [List.length_append, List.length_singleton] at this
      omega
  | succ n ih =>
    intro w hl ne sub bg ln
    refine walk_go bal nd w ne sub bg ln fun b hb hnew he => ?_
    refine ih (w ++ [b]) (by rw [List.length_append, List.length_singleton]; omega) (by simp) (fun a ha => ?_) ?_ fun i x y hx hy => ?_
    · rcases List.mem_append.mp ha with z | z
      · exact sub a z
      · rw [List.mem_singleton.mp z]; exact hb
    · rw [List.map_append, List.nodup_append]
      exact ⟨bg, by simp, fun x hx y hy e => hnew (by rw [List.mem_singleton.mp (show y ∈ [b.2.1] from hy)] at e; exact e ▸ hx)⟩
    · by_cases q : i + 1 < w.length
      · rw [List.getElem?_append_left (by omega)] at hx hy
        exact ln i x y hx hy
      · have hi := (List.getElem?_eq_some_iff.mp hy).1
        rw [List.length_append, List.length_singleton] at hi
        have e : i + 1 = w.length := by omega
        rw [List.getElem?_append_right (by omega), e, Nat.sub_self] at hy
        cases (show some b = some y from hy)
        rw [List.getElem?_append_left (by omega)] at hx
        exact he x (by rw [← e, Nat.add_sub_cancel]; exact hx)
theorem has_trail {S : List Arr} (bal : Bal S) (nd : (S.map (·.1)).Nodup) (ne : S ≠ []) : ∃ r, TrailP S true r := by
  cases S with
  | nil => exact absurd rfl ne
  | cons a S =>
    refine walk_closes bal nd (a :: S).length [a] (by simp) (by simp) (fun b hb => ?_) (by simp) fun i x y hx hy => by simp at hy
    rw [List.mem_singleton.mp hb]
    exact List.mem_cons_self
theorem circs_of {rows : List Arr} : ∀ {N : Nat} {p : Nat}, 1 ≤ p → p ≤ N → ringB rows p = true → (p : Int) ∈ circsTo rows N
  | 0, p, h1, h2, _ => by omega
  | N + 1, p, h1, h2, h => by
    unfold circsTo
    by_cases q : p = N + 1
    · subst q
      have e : (1 : Int) + (N : Int) = ((N + 1 : Nat) : Int) := by omega
      rw [e, if_pos h]
      exact List.mem_append_right _ (List.mem_singleton.mpr rfl)
    · exact List.mem_append_left _ (circs_of h1 (by omega) h)
/-- the places of a row of arrows -/
def inF (rows r : List Arr) (k : Nat) : Bool := match rows[k]? with
  | some a => decide (a ∈ r)
  | none => false
theorem inF_iff {rows r : List Arr} {k : Nat} : inF rows r k = true ↔ ∃ a, rows[k]? = some a ∧ a ∈ r := by
  unfold inF
  cases e : rows[k]? with
  | none => simp
  | some a => simp
theorem selTo_nd {rows : List Arr} (nd : (rows.map (·.1)).Nodup) {idx : Int} (k : Nat) : (selTo rows idx k).Nodup :=
  List.Pairwise.of_map (fun a : Arr => a.1) (fun a b hne e => hne (by rw [e])) (selTo_nodup nd k)
theorem TrailP.nodup {S r : List Arr} {b : Bool} (h : TrailP S b r) : r.Nodup := List.Pairwise.of_map (fun a : Arr => a.1) (fun a b hne e => hne (by rw [e])) h.nd
theorem mask_ring {rows r : List Arr} (nd : (rows.map (·.1)).Nodup) (h : TrailP rows true r) : ∃ p : Nat, (p : Int) ∈ circs rows ∧ p < 2 ^ rows.length ∧ (sel rows p).Perm r ∧ ∀ k, p.testBit k = true → ∃ a, rows[k]? = some a ∧ a ∈ r := by
  have hb : ∀ k, k < rows.length → (maskOf (inF rows r) rows.length).testBit k = inF rows r k := maskOf_bit _ _
  have hl := maskOf_lt (inF rows r) rows.length
  generalize maskOf (inF rows r) rows.length = p at hb hl
  have hbit : ∀ k, p.testBit k = true → ∃ a, rows[k]? = some a ∧ a ∈ r := fun k hk => by
    by_cases q : k < rows.length
    · rw [hb k q] at hk
      exact inF_iff.mp hk
    · rw [Nat.testBit_lt_two_pow (Nat.lt_of_lt_of_le hl (Nat.pow_le_pow_right (by decide) (by omega)))] at hk
      cases hk
  have pm : (sel rows p).Perm r := by
    refine perm_of_nodup (selTo_nd nd _) (fun a ha => ?_) (nodup_le h.nodup fun a ha => ?_)
    · obtain ⟨j, hj, h1, h2⟩ := selTo_sub a ha
      rw [selB_bit] at h2
      obtain ⟨b, h3, h4⟩ := hbit j h2
      rw [h1] at h3
      cases h3
      exact h4
    · obtain ⟨j, hj, e⟩ := List.mem_iff_getElem.mp (h.sub a ha)
      have e' := List.getElem?_eq_getElem hj
      rw [e] at e'
      exact selTo_mem e' (by rw [hb j hj]; exact inF_iff.mpr ⟨a, e', ha⟩) _ hj
  have ne : sel rows p ≠ [] := fun z => h.ne (by rw [z] at pm; exact pm.symm.eq_nil)
  have h0 : 0 < (sel rows p).length := List.length_pos_iff.mpr ne
  have hp1 : 1 ≤ p := by
    by_cases q : p = 0
    · subst q
      exfalso
      obtain ⟨j, hj, h1, h2⟩ := selTo_sub _ (List.getElem_mem h0)
      rw [selB_bit, Nat.zero_testBit] at h2
      cases h2
    · omega
  have hs0 : (sel rows p)[0] ∈ r := pm.mem_iff.mp (List.getElem_mem h0)
  obtain ⟨j, hj, ej⟩ := List.mem_iff_getElem.mp hs0
  have hr := h.rot (j := j) (by omega)
  have pr : (r.drop j ++ r.take j).Perm r := (List.perm_append_comm).trans (by rw [List.take_append_drop])
  have tp : TrailP (sel rows p) true (r.drop j ++ r.take j) := ⟨fun a ha => pm.mem_iff.mpr (pr.mem_iff.mp ha), hr.nd, hr.ln, hr.bg, hr.ne⟩
  have rg : Ring (sel rows p) (r.drop j ++ r.take j) := tp.ring (by rw [pr.length_eq, pm.length_eq]) (by
    rw [List.getElem?_append_left (by rw [List.length_drop]; omega), List.getElem?_drop, Nat.add_zero, List.getElem?_eq_getElem hj, ej, List.getElem?_eq_getElem h0])
  exact ⟨p, circs_of hp1 (by omega) (ringB_t rg), hl, pm, hbit⟩
theorem sel_nodup {rows : List Arr} (nd : (rows.map (·.1)).Nodup) (i : Int) : ((sel rows i).map (·.1)).Nodup := selTo_nodup nd _
theorem sel_neN {rows : List Arr} {i : Nat} (h1 : 1 ≤ i) (h2 : i < 2 ^ rows.length) : sel rows i ≠ [] := sel_ne (by omega) (by
  have : (2 : Int) ^ rows.length = ((2 ^ rows.length : Nat) : Int) := by rw [Int.natCast_pow]; rfl
  omega)
theorem has_circ {rows : List Arr} (nd : (rows.map (·.1)).Nodup) {i : Nat} (h1 : 1 ≤ i) (h2 : i < 2 ^ rows.length) (bal : Bal (sel rows i)) : ∃ p : Nat, (p : Int) ∈ circs rows ∧ inB i p = true := by
  obtain ⟨r, hr⟩ := has_trail bal (sel_nodup nd i) (sel_neN h1 h2)
  obtain ⟨p, hp, hl, pm, hbit⟩ := mask_ring nd (hr.more fun a ha => sel_sub a ha)
  refine ⟨p, hp, inB_bits hl fun k hk hb => ?_⟩
  obtain ⟨a, ha, har⟩ := hbit k hb
  obtain ⟨j, hj, h3, h4⟩ := selTo_sub a (hr.sub a har)
  rw [selB_bit] at h4
  have := nodup_at (f := fun x : Arr => x.1) nd ha h3 rfl
  rw [this]
  exact h4
/-! ### the greatest split -/
theorem Ring.uniq {S r q : List Arr} (h : Ring S r) (k : Ring S q) : r = q := by
  have key : ∀ i : Nat, r[i]? = q[i]? := by
    intro i
    induction i with
    | zero => rw [h.hd, k.hd]
    | succ i ih =>
      by_cases z : i + 1 < r.length
      · have z2 : i + 1 < q.length := by rw [k.len, ← h.len]; exact z
        have a1 := List.getElem?_eq_getElem (show i < r.length by omega)
        have a2 := List.getElem?_eq_getElem z
        have b1 := List.getElem?_eq_getElem (show i < q.length by omega)
        have b2 := List.getElem?_eq_getElem z2
        have r0 := List.getElem?_eq_getElem (show 0 < r.length by omega)
        have q0 := List.getElem?_eq_getElem (show 0 < q.length by omega)
        have e1 := (h.ln _ r0).st i _ _ a1 a2
        have e2 := (k.ln _ q0).st i _ _ b1 b2
        rw [a1, b1] at ih
        rw [Option.some.inj ih, e2] at e1
        rw [a2, b2, beg_eq h.begS (h.sub _ (List.getElem_mem _)) (k.sub _ (List.getElem_mem _)) e1.symm]
      · rw [List.getElem?_eq_none_iff.mpr (by omega), List.getElem?_eq_none_iff.mpr (by rw [k.len, ← h.len]; omega)]
  exact List.ext_getElem? key
open Classical in
noncomputable def ringIn (rows : List Arr) (p : Int) : List Arr := if h : ∃ r, Ring (sel rows p) r then h.choose else []
theorem ringIn_of {rows : List Arr} {p : Int} {r : List Arr} (h : Ring (sel rows p) r) : ringIn rows p = r := by
  have e : ∃ r, Ring (sel rows p) r := ⟨r, h⟩
  unfold ringIn
  rw [dif_pos e]
  exact Ring.uniq e.choose_spec h
noncomputable def ringsL (rows : List Arr) : List (Int × List Arr) := (circs rows).map fun p => (p, ringIn rows p)
theorem ringsL_of {rows : List Arr} {prs : List (Int × List Arr)} (hm : prs.map (·.1) = circs rows) (hr : ∀ p ∈ prs, Ring (sel rows p.1) p.2) : prs = ringsL rows := by
  unfold ringsL
  rw [← hm, List.map_map]
  have : prs.map ((fun p => (p, ringIn rows p)) ∘ fun x => x.1) = prs.map id := List.map_congr_left fun p hp => by
    show (p.1, ringIn rows p.1) = p
    rw [ringIn_of (hr p hp)]
  rw [this, List.map_id]
def bestG (prs : List (Int × List Arr)) (tab : List Int) : Nat → Int → List (List Arr)
  | 0, _ => []
  | n + 1, i => if 0 < (tab[i.toNat]?).getD 0 then match (prs.filter fun p => inB i p.1 && decide ((tab[(i - p.1).toNat]?).getD 0 + 1 = (tab[i.toNat]?).getD 0)) with
    | [] => []
    | p :: _ => p.2 :: bestG prs tab n (i - p.1)
    else []
theorem ringsL_mem {rows : List Arr} {p : Int × List Arr} (h : p ∈ ringsL rows) : p.1 ∈ circs rows ∧ Ring (sel rows p.1) p.2 := by
  obtain ⟨q, hq, rfl⟩ := List.mem_map.mp h
  refine ⟨hq, ?_⟩
  obtain ⟨r, hr⟩ := circs_ring _ hq
  show Ring (sel rows q) (ringIn rows q)
  rw [ringIn_of hr]
  exact hr
theorem best_ok {rows : List Arr} (nd : (rows.map (·.1)).Nodup) : ∀ (m i : Nat), i < 2 ^ rows.length → Bal (sel rows i) → ((tabN (circs rows) (2 ^ rows.length - 1))[i]?).getD 0 ≤ m →
    ((bestG (ringsL rows) (tabN (circs rows) (2 ^ rows.length - 1)) m i).length : Int) = ((tabN (circs rows) (2 ^ rows.length - 1))[i]?).getD 0 ∧ (∀ r ∈ bestG (ringsL rows) (tabN (circs rows) (2 ^ rows.length - 1)) m i, TrailP rows true r) ∧ (bestG (ringsL rows) (tabN (circs rows) (2 ^ rows.length - 1)) m i).flatten.Perm (sel rows i) := by
  have hb := bndI_iff.mp (bnd_tab (rs := circs rows) (fun p h => (circsTo_mem p h).1) (2 ^ rows.length - 1))
  have hlen := tabN_len (rs := circs rows) (2 ^ rows.length - 1)
  have hat := fun (i : Nat) (h1 : 1 ≤ i) (h2 : i ≤ 2 ^ rows.length - 1) => tabN_at (rs := circs rows) h1 h2
  have hpre := fun (j k : Nat) (hj : j ≤ k) (hk : k ≤ 2 ^ rows.length - 1) => tabN_pre (rs := circs rows) hj _ hk
  have hz := tabN_zero (rs := circs rows) (2 ^ rows.length - 1)
  have hnn := tabN_nn (rs := circs rows) (2 ^ rows.length - 1)
  generalize tabN (circs rows) (2 ^ rows.length - 1) = tab at hb hlen hat hpre hz hnn
  have nn : ∀ i : Nat, i < tab.length → 0 ≤ (tab[i]?).getD 0 := fun i hi => by
    rw [List.getElem?_eq_getElem hi]
    exact hnn _ (List.getElem_mem hi)
  have p1 : 1 ≤ 2 ^ rows.length := Nat.one_le_two_pow
  have zero : ∀ i : Nat, i < 2 ^ rows.length → Bal (sel rows i) → (tab[i]?).getD 0 ≤ 0 → i = 0 := fun i hi bal ht => by
    by_cases q : i = 0
    · exact q
    · obtain ⟨p, hp, hpb⟩ := has_circ nd (by omega) hi bal
      have h1 := hb p hp i (by omega) hpb
      have h2 := inB_le (by omega) (by omega) (inB_of hpb)
      have h3 := nn ((i : Int) - p).toNat (by omega)
      omega
  have sel0 : sel rows ((0 : Nat) : Int) = [] := by
    cases e : sel rows ((0 : Nat) : Int) with
    | nil => rfl
    | cons a l =>
      obtain ⟨j, _, _, h2⟩ := selTo_sub a (show a ∈ selTo rows ((0 : Nat) : Int) rows.length by rw [show selTo rows ((0 : Nat) : Int) rows.length = sel rows ((0 : Nat) : Int) from rfl, e]; exact List.mem_cons_self)
      rw [selB_bit, Nat.zero_testBit] at h2
      cases h2
  intro m
  induction m with
  | zero =>
    intro i hi bal ht
    have := zero i hi bal (by omega)
    subst this
    rw [hz, sel0]
    exact ⟨rfl, (fun r hr => by cases hr), List.Perm.refl _⟩
  | succ m ih =>
    intro i hi bal ht
    by_cases q : 0 < (tab[i]?).getD 0
    · have hi1 : 1 ≤ i := by
        by_cases z : i = 0
        · subst z; rw [hz] at q; exact absurd q (by decide)
        · omega
      have he := hat i hi1 (by omega)
      have hne : ((ringsL rows).filter fun p => inB (i : Int) p.1 && decide ((tab[((i : Int) - p.1).toNat]?).getD 0 + 1 = (tab[(i : Int).toNat]?).getD 0)) ≠ [] := by
        rcases maxL_mem (xs := ((circs rows).filter (inB (i : Int))).map fun p => 1 + ((tabN (circs rows) (i - 1))[((i : Int) - p).toNat]?).getD 0) with z | z
        · exfalso
          rw [he] at q
          exact absurd z (by have : entry (circs rows) (tabN (circs rows) (i - 1)) i = maxL _ := rfl
                             intro w; rw [this, w] at q; exact absurd q (by decide))
        · obtain ⟨p, hp, ep⟩ := List.mem_map.mp z
          obtain ⟨hp1, hp2⟩ := List.mem_filter.mp hp
          obtain ⟨c1, c2⟩ := circsTo_mem p hp1
          have c3 := inB_le (by omega) (by omega) (inB_of hp2)
          intro w
          have : (p, ringIn rows p) ∈ ((ringsL rows).filter fun p => inB (i : Int) p.1 && decide ((tab[((i : Int) - p.1).toNat]?).getD 0 + 1 = (tab[(i : Int).toNat]?).getD 0)) := by
            refine List.mem_filter.mpr ⟨List.mem_map.mpr ⟨p, hp1, rfl⟩, ?_⟩
            rw [show inB (i : Int) p = true from hp2, Bool.true_and]
            refine decide_eq_true ?_
            rw [Int.toNat_natCast, he]
            rw [hpre ((i : Int) - p).toNat (i - 1) (by omega) (by omega)]
            show _ = entry (circs rows) (tabN (circs rows) (i - 1)) i
            show _ = maxL _
            rw [← ep]
            omega
          rw [w] at this
          cases this
      unfold bestG
      rw [if_pos (by rw [Int.toNat_natCast]; exact q)]
      cases ef : ((ringsL rows).filter fun p => inB (i : Int) p.1 && decide ((tab[((i : Int) - p.1).toNat]?).getD 0 + 1 = (tab[(i : Int).toNat]?).getD 0)) with
      | nil => exact absurd ef hne
      | cons p ps =>
        have hpm : p ∈ ((ringsL rows).filter fun p => inB (i : Int) p.1 && decide ((tab[((i : Int) - p.1).toNat]?).getD 0 + 1 = (tab[(i : Int).toNat]?).getD 0)) := by rw [ef]; exact List.mem_cons_self
        obtain ⟨h1, h2⟩ := List.mem_filter.mp hpm
        rw [Bool.and_eq_true] at h2
        have h3 := of_decide_eq_true h2.2
        obtain ⟨h4, h5⟩ := ringsL_mem h1
        obtain ⟨c1, c2⟩ := circsTo_mem p.1 h4
        have c3 := inB_le (by omega) (by omega) (inB_of h2.1)
        obtain ⟨k, hk⟩ : ∃ k : Nat, p.1 = k := ⟨p.1.toNat, by omega⟩
        have h6 : i &&& k = k := inB_nat (by rw [← hk]; exact h2.1)
        have ne : sel rows p.1 ≠ [] := by rw [hk]; exact sel_neN (by omega) (by omega)
        have ps' := sel_split (rows := rows) h6
        rw [← hk] at ps'
        have eI : (i : Int) - p.1 = ((i - k : Nat) : Int) := by omega
        rw [Int.toNat_natCast, eI, Int.toNat_natCast] at h3
        have bal' : Bal (sel rows ((i - k : Nat) : Int)) := bal.cancel ps' (h5.bal (sel_nodup nd _) ne)
        obtain ⟨i1, i2, i3⟩ := ih (i - k) (by omega) bal' (by omega)
        show (((p.2 :: bestG (ringsL rows) tab m (i - p.1)).length : Nat) : Int) = _ ∧ (∀ r ∈ p.2 :: bestG (ringsL rows) tab m (i - p.1), TrailP rows true r) ∧ (p.2 :: bestG (ringsL rows) tab m (i - p.1)).flatten.Perm _
        rw [eI]
        refine ⟨by rw [List.length_cons]; omega, fun r hr => ?_, ?_⟩
        · rcases List.mem_cons.mp hr with z | z
          · rw [z]
            exact (h5.trail (sel_nodup nd _) ne).more fun a ha => sel_sub a ha
          · exact i2 r z
        · rw [List.flatten_cons]
          exact (h5.perm.append i3).trans ps'.symm
    · have := zero i hi bal (by omega)
      subst this
      unfold bestG
      rw [if_neg (by rw [Int.toNat_natCast]; exact q), hz, sel0]
      exact ⟨rfl, (fun r hr => by cases hr), List.Perm.refl _⟩
noncomputable def bestL (rows : List Arr) : List (List Arr) := bestG (ringsL rows) (tabN (circs rows) (2 ^ rows.length - 1)) (((tabN (circs rows) (2 ^ rows.length - 1))[2 ^ rows.length - 1]?).getD 0).toNat ((2 ^ rows.length - 1 : Nat) : Int)
theorem bestL_ok {rows : List Arr} (h : WebOk rows) : ((bestL rows).length : Int) = ((tabN (circs rows) (2 ^ rows.length - 1))[2 ^ rows.length - 1]?).getD 0 ∧ (∀ r ∈ bestL rows, TrailP rows true r) ∧ (bestL rows).flatten.Perm rows := by
  have p1 : 1 ≤ 2 ^ rows.length := Nat.one_le_two_pow
  have hnn : (0 : Int) ≤ ((tabN (circs rows) (2 ^ rows.length - 1))[2 ^ rows.length - 1]?).getD 0 := by
    rw [List.getElem?_eq_getElem (by rw [tabN_len]; omega)]
    exact tabN_nn _ _ (List.getElem_mem _)
  have := best_ok h.nd (((tabN (circs rows) (2 ^ rows.length - 1))[2 ^ rows.length - 1]?).getD 0).toNat (2 ^ rows.length - 1) (by omega) (by rw [sel_full]; exact h.bal) (by omega)
  rw [sel_full] at this
  exact this
end NW

/-! NwY2: len({..}), {k: v for x in a tuple}, del d[k], loops over a list of own lists, == of lists of texts. -/
namespace NW
open PySem PySem.Spec PyProof.Rows L2
theorem n_lenSK {X : Cx} : CallR X (.builtin "len") (rLenSK X.prog X.w) := cr_lenSK
section
variable {P : Program} {w : World} {g : Gm} {X : List Addr} {Y : Hp} {σ : L2.St} {ρ : List Sl} {H H' : Hp} {te ta tb tc tl td ty : TE} {tr : TA} {t u : TS} {E : DE} {D : Ends} {Ex : XK}
def ScP (P : Program) (w : World) (g : Gm) (X : List Addr) (Y : Hp) (σ : L2.St) (ρ : List Sl) (H1 : Hp) (D : Addr) (ks : List Key) (i : Nat) (H' : Hp) : Prop :=
  RS g (D :: X) Y σ H' ρ ∧ Nx g H1 H' ∧ ∃ S n, H' D = some (SetK P w D S n) ∧ (∀ j, S j = (ks.take i).any fun z => decide (z = j)) ∧ n ≤ i ∧ (n = i ↔ (ks.take i).Nodup)
theorem ScP.turn {H1 : Hp} (R0 : RS g X Y σ H1 ρ) {D : Addr} {ks : List Key} {i v : Nat} {x : V} {d : Dat} {c : Key} (hD : H1 D = none) (hv : ρ[v]? = some .no) (p : ScP P w g X Y σ ρ H1 D ks i H') (rx : Rp g.K (hid g X σ ρ H1) x d) (hc : ks[i]? = some c) (hz : ks.length ≤ 1000)
    (h : EvC g te (ρ.set v (.dat d)) fun y => keyD y = some c) :
    gName v x (wipe σ [v]) H' fun σ2 H2 => wipe σ2 [v] = wipe σ [v] ∧ tYes σ2 H2 fun b H3 =>
      if b = true then te σ2 H3 fun y H4 => ∃ (c : Key) (S : Key → Bool) (n : Nat), y = kV c ∧ H4 D = some (SetK P w D S n) ∧ n + 1 < scanBound ∧ ScP P w g X Y σ ρ H1 D ks (i + 1) (upd H4 D (plusK P w D S n c)) else ScP P w g X Y σ ρ H1 D ks (i + 1) H3 := by
  obtain ⟨R, n, S, m, hDl, hS, hm, hnd⟩ := p
  have npr : D ∉ g.pr := fun z => R0.st.some z hD
  have R1 := R.forget (i := v) none
  rw [set_no hv] at R1
  have e0 : Same (hid g X σ ρ H1) (hid g (D :: X) σ ρ H') := fun b o e => by
    obtain ⟨h1, h2⟩ := hide_some e
    refine (hide_out fun z => ?_).trans (n.kp b o h2 fun z => h1 (pr_sub z))
    rcases List.mem_cons.mp z with z | z
    · rw [z, hD] at h2; cases h2
    · exact h1 z
  have e1 : Same (hid g (D :: X) σ ρ H') (hid g (D :: X) (wipe σ [v]) ρ H') := hide_mono fun b hb => by
    have hb' : b ∈ (D :: X) ++ (g.pr ++ owned (σ.set v none) ρ) := hb
    rcases List.mem_append.mp hb' with z | z
    · exact List.mem_append_left _ z
    · rcases List.mem_append.mp z with z | z
      · exact pr_sub z
      · have z2 : b ∈ owned (σ.set v none) (ρ.set v .no) := by rw [set_no hv]; exact z
        rcases owned_set b z2 with w | w
        · cases w
        · exact List.mem_append_right _ (List.mem_append_right _ w)
  have R2 := RS.setD (σ := wipe σ [v]) R1 (i := v) ((rx.mn e0).mn e1)
  refine ⟨wipe1, iteT (B := ScP P w g X Y σ ρ H1 D ks (i + 1) H') ?_⟩
  refine h _ _ _ H' _ R2 fun y yv H4 hy n4 ry => ?_
  have hD4 := n4.kp _ _ hDl npr
  have hi := getL hc
  refine ⟨c, S, m, keyD_V (.of ry : RpW g.K _ H4 yv y) hy, hD4, by have : scanBound = 4096 := rfl; omega, ?_⟩
  have R4 := (R.nx n4).updX (o := plusK P w D S m c) List.mem_cons_self npr (R0.yn hD)
  refine ⟨R4, ⟨fun b o e nb => ?_, R4.st⟩, _, _, upd_same, fun j => ?_, ?_, ?_⟩
  · rw [upd_ne (ne_of_none e hD)]
    exact (n.trans n4).kp b o e nb
  · rw [hS, take_next hc, List.any_append]
    by_cases b : j = c
    · subst b; simp
    · have b2 : ¬ c = j := fun z => b z.symm
      simp [b, b2]
  · split <;> omega
  · rw [take_next hc]
    have hSc := hS c
    by_cases a : c ∈ ks.take i
    · rw [if_pos (by rw [hSc]; exact List.any_eq_true.mpr ⟨c, a, decide_eq_true rfl⟩)]
      constructor
      · intro z; omega
      · intro z
        rw [List.nodup_append] at z
        exact absurd rfl (z.2.2 c a c (List.mem_singleton.mpr rfl))
    · rw [if_neg (fun w => by
        rw [hSc] at w
        obtain ⟨z, hz, e⟩ := List.any_eq_true.mp w
        exact a ((of_decide_eq_true e) ▸ hz))]
      constructor
      · intro z
        rw [List.nodup_append]
        exact ⟨hnd.mp (by omega), by simp, fun p hp q hq e => a (by rw [List.mem_singleton.mp hq] at e; exact e ▸ hp)⟩
      · intro z
        rw [List.nodup_append] at z
        have := hnd.mpr z.1
        omega
/-- len({te for x in xs}), xs a list, te an int or a text -/
theorem ev_lenSc {v : Nat} {Φ : Dat → Prop} (hv : ρ[v]? = some .no) (h : EvS g tl ρ fun d => ∃ ds, d = .lst ds ∧ ds.length ≤ 1000 ∧ ∃ k : Dat → Key, (∀ d ∈ ds, EvC g te (ρ.set v (.dat d)) fun y => keyD y = some (k d)) ∧ ∀ n : Nat, (n = ds.length ↔ (ds.map k).Nodup) → Φ (.int n)) :
    EvC g (tCB (rLenSK P w) (tCons (tScK P w (iList g.K tl) (gName v) tYes te [v]) tNil)) ρ Φ := fun X Y σ H Q R k => h X Y σ H _ R fun d x H1 hd n1 r1 => by
  obtain ⟨ds, rfl, hz, ke, hs, hf⟩ := hd
  obtain ⟨a, xs, rfl, ha, r⟩ := r1.lst_inv hid_p
  have ha2 := hide_some ha
  have hlen := r.length
  refine ⟨a, rfl, ⟨xs, SqL.of ha2.2⟩, fun D hD => ?_⟩
  have R1 := R.nx n1
  refine ⟨fun i m HW => m = xs.length - i ∧ i ≤ xs.length ∧ ScP P w g X Y σ ρ H1 D (ds.map ke) i HW, ⟨xs.length, by simp, Nat.zero_le _, R1.addX hD, R1.same (upd_new hD), fun _ => false, 0, upd_same, fun j => by simp, Nat.le_refl _, by simp⟩, ?_⟩
  rintro i m HW ⟨rfl, hi, p⟩
  have q : SqL g.K HW a xs := by
    obtain ⟨_, nn, _⟩ := p
    exact SqL.of (nn.kp a _ ha2.2 ha2.1)
  by_cases hlt : i < xs.length
  · refine .inr ⟨⟨xs, xs[i], q, by simp [hlt]⟩, ScP P w g X Y σ ρ H1 D (ds.map ke) (i + 1), fun HZ z => ⟨xs.length - (i + 1), by omega, rfl, hlt, z⟩, fun x Hx y => ?_⟩
    obtain ⟨e, y⟩ := y
    subst e
    obtain ⟨d, hd, rd⟩ := r.get' (y xs q)
    exact ScP.turn R1 hD hv p rd (by rw [List.getElem?_map, hd]; rfl) (by rw [List.length_map]; omega) (hs d (List.mem_of_getElem? hd))
  · have e : i = xs.length := by omega
    subst e
    refine .inl ⟨⟨xs, q, Nat.le_refl _⟩, D, ?_⟩
    obtain ⟨_, nn, S, n, hDl, _, _, hnd⟩ := p
    refine ⟨S, n, rfl, hDl, k _ _ HW (hf n ?_) (n1.trans nn) (.int _)⟩
    rw [List.take_of_length_le (by rw [List.length_map]; omega)] at hnd
    rw [← hlen]
    exact hnd
/-! ### dicts over a tuple, del -/
theorem ek_dcT {v : Nat} {tk tv : TE} {tt : TT} {Φ : List (Key × Dat) → Prop} (hv : ρ[v]? = some .no) (h : EvS g tl ρ fun d => ∃ ds, d = .tup ds ∧ ∃ Inv : Nat → List (Key × Dat) → Prop, Inv 0 [] ∧
    (∀ i d acc, ds[i]? = some d → Inv i acc → EvT g tt (ρ.set v (.dat d)) fun b => if b = true then EvC g tk (ρ.set v (.dat d)) fun y => EvC g tv (ρ.set v (.dat d)) fun z => ∃ ke, keyD y = some ke ∧ acc.length < sizeLine ∧ Inv (i + 1) (putD acc ke z) else Inv (i + 1) acc) ∧ ∀ acc, Inv ds.length acc → Φ acc) :
    EvK g (tDc (iTup g.K tl) (gName v) tt tk tv [v]) ρ Φ := fun X Y σ H Q R k => h X Y σ H _ R fun d w H1 hd n1 r1 => by
  obtain ⟨ds, rfl, Inv, h0, hs, hf⟩ := hd
  obtain ⟨a, xs, rfl, ha, r⟩ := r1.tup_inv hid_p
  refine ⟨a, rfl, ⟨xs, Same.sqT hide_same ha⟩, fun D hD => ?_⟩
  refine ⟨fun i m HW => m = xs.length - i ∧ i ≤ xs.length ∧ DcP g X Y σ ρ H1 D Inv i HW, ⟨xs.length, by simp, Nat.zero_le _, DcP.start (R.nx n1) hD h0⟩, ?_⟩
  rintro i m HW ⟨rfl, hi, p⟩
  have q : SqT g.K HW a xs := Same.sqT (fun b o e => p.nx.kp b o (hide_some e).2 (hide_some e).1) ha
  by_cases hlt : i < xs.length
  · refine .inr ⟨⟨xs, xs[i], q, by simp [hlt]⟩, DcP g X Y σ ρ H1 D Inv (i + 1), fun HZ z => ⟨xs.length - (i + 1), by omega, rfl, hlt, z⟩, fun x Hx y => ?_⟩
    obtain ⟨e, y⟩ := y
    subst e
    obtain ⟨d, hd, rd⟩ := r.get' (y xs q)
    exact DcP.turn (R.nx n1) hD hv p (rd.mn (p.seen hD)) fun acc hI => hs i d acc hd hI
  · have e : i = xs.length := by omega
    subst e
    exact .inl ⟨⟨xs, q, Nat.le_refl _⟩, DcP.stop R n1 hD (n := xs.length) (fun acc hI => hf acc (by rw [← r.length]; exact hI)) k p⟩
theorem ds_ddel {i : Nat} {kvs : List (Key × Dat)} (e : ρ[i]? = some (.ownK kvs)) (h : EvS g ty ρ fun y => ∃ k, keyD y = some k ∧ (valD kvs k).isSome = true ∧ E.nx (ρ.set i (.ownK (dropD kvs k)))) : DSt g (sDDel (tVar i) ty) ρ E := fun X Y σ H D R M => by
  obtain ⟨p, xs, h1, h2, r⟩ := R.ownK e
  refine ⟨_, h1, h X Y σ H _ R fun y v H1 hy n1 r1 => ?_⟩
  obtain ⟨k, hk, hs, hn⟩ := hy
  have h2' := nx_own R n1 h1 e rfl h2
  refine ⟨p, xs, k, rfl, h2', keyD_V r1 hk, by rw [r.isSome]; exact hs, ?_⟩
  exact M.nx _ _ _ hn ((R.nx n1).write h1 e rfl rfl (.ownK upd_same ((RpK.drop (r.mn n1.hid)))))
/-! ### for y in x: x a list of own lists -/
theorem ds_forTr {i j : Nat} {p : Addr} {es : List (Addr × Inn)} (e : ρ[i]? = some (.trL p es)) (Inv : Nat → List Sl → Prop) (h0 : Inv 0 ρ) (hI : ∀ k ρ', Inv k ρ' → ∃ es', ρ'[i]? = some (.trL p es') ∧ es'.map (·.1) = es.map (·.1))
    (hs : ∀ k a ρ', (es.map (·.1))[k]? = some a → Inv k ρ' → DSt g tb' (ρ'.set j (.at_ a)) { E with nx := Inv (k + 1), ct := Inv (k + 1), bk := E.nx }) (hd : ∀ ρ', Inv es.length ρ' → E.nx ρ') : DSt g (tFor (iList g.K (tVar i)) (gName j) tb') ρ E := fun X Y σ H D R M => by
  obtain ⟨h1, h2, r⟩ := R.trL e
  have er : ∀ es' : List (Addr × Inn), es'.map (·.1) = es.map (·.1) → (es'.map fun e => V.ref e.1) = es.map fun e => V.ref e.1 := fun es' h => by
    have := congrArg (List.map V.ref) h
    rwa [List.map_map, List.map_map] at this
  refine ⟨_, h1, p, rfl, ⟨_, SqL.of h2⟩, for_list (K := g.K) (a := p) (xs := es.map fun e => V.ref e.1) (fun k σ' H' => ∃ ρ', Inv k ρ' ∧ RS g X Y σ' H' ρ') ⟨ρ, h0, R⟩ (fun k σ' H' _ ⟨ρ', hi, R'⟩ => ?_) (fun k x σ' H' hx ⟨ρ', hi, R'⟩ => ?_) fun σ' H' ⟨ρ', hi, R'⟩ => M.nx σ' H' ρ' (hd ρ' (by rw [List.length_map] at hi; exact hi)) R'⟩
  · obtain ⟨es', e', em⟩ := hI k ρ' hi
    obtain ⟨_, h2', _⟩ := R'.trL e'
    rw [er es' em] at h2'
    exact SqL.of h2'
  · rw [List.getElem?_map] at hx
    obtain ⟨a, ha, rfl⟩ := Option.map_eq_some_iff.mp hx
    refine hs k a.1 ρ' (by rw [List.getElem?_map, ha]; rfl) hi X Y _ H' _ (R'.set0 (x := some (.ref a.1)) (s := .at_ a.1) rfl .at_) (M.loop (fun _ _ z => z) fun σ H ρ hi R => ⟨ρ, hi, R⟩)
/-- y.append(e), y one of the lists -/
theorem ds_appAt {i j : Nat} {p a : Addr} {es : List (Addr × Inn)} {k : Nat} {ds : List Dat} (e : ρ[i]? = some (.trL p es)) (ej : ρ[j]? = some (.at_ a)) (hk : es[k]? = some (a, .l ds)) (h : EvC g te ρ fun d => ds.length < sizeLine ∧ E.nx (ρ.set i (.trL p (es.set k (a, .l (ds ++ [d])))))) :
    DSt g (tDrop (tBM g.K "list" rAppend (tVar j) (tCons te tNil))) ρ E := fun X Y σ H D R M => by
  obtain ⟨h1, h2, r⟩ := R.trL e
  obtain ⟨xj, hj1, hj2⟩ := R.sl.get ej
  cases hj2
  obtain ⟨xs, hx, rx⟩ := r _ (List.mem_of_getElem? hk)
  refine ⟨_, hj1, .inl ⟨rfl, xs, SqL.of hx⟩, ?_⟩
  refine h X Y σ H _ R fun d v H1 hd n1 r1 => ?_
  have R1 := R.nx n1
  have am : a ∈ ownA (some (.ref p)) (.trL p es) := List.mem_cons_of_mem _ (List.mem_map.mpr ⟨_, List.mem_of_getElem? hk, rfl⟩)
  have ao := own_mem h1 e am
  have hx1 := n1.kp _ _ hx (R.nw a ao).2
  obtain ⟨_, h2', r'⟩ := R1.trL e
  have ek : (es.set k (a, .l (ds ++ [d]))).map (·.1) = es.map (·.1) := by
    rw [List.map_set]
    exact set_self (by rw [List.getElem?_map, hk]; rfl)
  have ek2 : ((es.set k (a, Inn.l (ds ++ [d]))).map fun e => V.ref e.1) = es.map fun e => V.ref e.1 := by
    have := congrArg (List.map V.ref) ek
    rwa [List.map_map, List.map_map] at this
  have nd0 : (p :: es.map (·.1)).Nodup := by
    have key : ∀ {σ : L2.St} {ρ : List Sl} {i : Nat}, σ[i]? = some (some (.ref p)) → ρ[i]? = some (.trL p es) → (owned σ ρ).Nodup → (p :: es.map (·.1)).Nodup := by
      intro σ
      induction σ with
      | nil => intro ρ i h; simp at h
      | cons y σ ih =>
        intro ρ i h1 h2 nd
        cases ρ with
        | nil => simp at h2
        | cons t ρ =>
          have nd' : (ownA y t ++ owned σ ρ).Nodup := nd
          rw [List.nodup_append] at nd'
          cases i with
          | zero => cases h1; cases h2; exact nd'.1
          | succ i => exact ih (by simpa using h1) (by simpa using h2) nd'.2.1
    exact key h1 e R.nd
  have pa : p ≠ a := fun z => (List.nodup_cons.mp nd0).1 (z ▸ List.mem_map.mpr ⟨_, List.mem_of_getElem? hk, rfl⟩)
  refine ⟨a, xs, v, rfl, rfl, hx1, by rw [rx.length]; exact hd.1, ?_⟩
  refine M.nx _ _ _ hd.2 (R1.writeM (x := some (.ref p)) (s := .trL p es) (t := .trL p (es.set k (a, .l (ds ++ [d])))) h1 e am (by show p :: (es.set k _).map (·.1) = p :: es.map (·.1); rw [ek]) (.trL (by rw [upd_ne pa, h2', ek2]) fun z hz => ?_))
  obtain ⟨m, hm, em⟩ := List.mem_iff_getElem.mp hz
  rw [List.getElem_set] at em
  by_cases q : k = m
  · rw [if_pos q] at em
    rw [← em]
    exact ⟨_, upd_same, (rx.mn n1.hid).append (.cons r1 .nil)⟩
  · rw [if_neg q] at em
    rw [List.length_set] at hm
    have za : z.1 ≠ a := fun w => by
      have := nodup_at (f := fun e : Addr × Inn => e.1) (List.nodup_cons.mp nd0).2 hk (List.getElem?_eq_getElem hm) (by rw [em]; exact w.symm)
      exact q this
    exact (r' z (by rw [← em]; exact List.getElem_mem hm)).mono (fun _ _ z => z) fun o ho => by rw [upd_ne za]; exact ho
end
/-! ### lists of texts compared -/
theorem strs_lay : ∀ ss : List Str, (∀ z ∈ ss, NameS z) → PyData.canLayAll0 (pyA (ss.map Dat.str)) = true ∧ PyData.depthAll (pyA (ss.map Dat.str)) ≤ 1 ∧ eqA (ss.map Dat.str) = true
  | [], _ => by simp [pyA, PyData.canLayAll0, PyData.depthAll, eqA]
  | a :: ss, h => by
    obtain ⟨h1, h2, h3⟩ := strs_lay ss fun b hb => h b (List.mem_cons_of_mem _ hb)
    have ha := (h a List.mem_cons_self).strOk
    rw [List.map_cons, pyA, pyD]
    simp [PyData.canLay0, PyData.canLayAll0, PyData.depth, PyData.depthAll, h1, ha, eqA, eqD, h3]
    omega
theorem shD_strs {ss : List Str} (h : ∀ z ∈ ss, NameS z) : shD (.lst (ss.map Dat.str)) := by
  obtain ⟨h1, h2, h3⟩ := strs_lay ss h
  refine ⟨h3, ?_⟩
  show (PyData.canLay0 (pyD (.lst (ss.map Dat.str))) && decide (PyData.depth (pyD (.lst (ss.map Dat.str))) ≤ 64)) = true
  rw [pyD]
  have h4 : PyData.depth (.list (pyA (ss.map Dat.str))) ≤ 64 := by
    rw [PyData.depth]; omega
  have h5 : PyData.canLay0 (.list (pyA (ss.map Dat.str))) = true := by
    rw [PyData.canLay0]; exact h1
  rw [h5, decide_eq_true h4]
  rfl
theorem eqvA_str : ∀ (xs ys : List Str), PyData.eqvAll (pyA (xs.map Dat.str)) (pyA (ys.map Dat.str)) = decide (xs = ys)
  | [], [] => by simp [pyA, PyData.eqvAll]
  | [], b :: ys => by simp [pyA, PyData.eqvAll]
  | a :: xs, [] => by simp [pyA, PyData.eqvAll]
  | a :: xs, b :: ys => by
    rw [List.map_cons, List.map_cons, pyA, pyA, PyData.eqvAll, eqvA_str xs ys, pyD, pyD, PyData.eqv]
    by_cases h1 : a = b
    · by_cases h2 : xs = ys
      · simp [h1, h2]
      · simp [h2]
    · simp [h1]
theorem dEqD_strs {xs ys : List Str} {Φ : Dat → Prop} (hx : ∀ z ∈ xs, NameS z) (hy : ∀ z ∈ ys, NameS z) (h : Φ (.bl (decide (xs = ys)))) : dEqD false (.lst (xs.map Dat.str)) (.lst (ys.map Dat.str)) Φ := ⟨shD_strs hx, shD_strs hy, by
  have e : PyData.eqv (pyD (.lst (xs.map Dat.str))) (pyD (.lst (ys.map Dat.str))) = decide (xs = ys) := by
    rw [pyD, pyD, PyData.eqv, eqvA_str]
  rw [e]
  exact h⟩
end NW

/-! NwK1: what is asked of the defs that judge circuits, trails, splits. -/
namespace NW
open PySem PySem.Spec PyProof.Rows L2
theorem namesR {rows : List Arr} (h : ArrsOk rows) : ∀ z ∈ rows.map (·.1), NameS z := fun z hz => by
  obtain ⟨a, ha, rfl⟩ := List.mem_map.mp hz
  exact (h a ha).n1
/-! ### the boxes that are not used yet -/
structure UseD (rows : List Arr) (used : List Str) (kvs : List (Key × Dat)) : Prop where
  in_ : ∀ a ∈ rows, a.1 ∉ used → valD kvs (.inr a.1) = some (arrD a)
  us : ∀ x ∈ used, valD kvs (.inr x) = none
  out : ∀ x, x ∉ rows.map (·.1) → valD kvs (.inr x) = none
theorem UseD.start {rows : List Arr} (nd : (rows.map (·.1)).Nodup) : UseD rows [] (knD rows) := ⟨fun a ha _ => valD_some nd ha, (fun x hx => by cases hx), fun x hx => valD_none.mpr hx⟩
theorem valD_dropD {kvs : List (Key × Dat)} {k k' : Key} : valD (dropD kvs k) k' = if k' = k then none else valD kvs k' := by
  unfold valD dropD
  induction kvs with
  | nil => simp
  | cons p kvs ih =>
    by_cases h1 : p.1 = k
    · rw [List.filter_cons_of_neg (by simp [h1]), ih]
      by_cases h2 : k' = k
      · rw [if_pos h2, if_pos h2]
      · rw [if_neg h2, if_neg h2, List.find?_cons_of_neg (by simp [h1]; exact fun z => h2 z.symm)]
    · rw [List.filter_cons_of_pos (by simp [h1])]
      by_cases h2 : k' = k
      · rw [if_pos h2] at ih ⊢
        rw [List.find?_cons_of_neg (by simp [h2, h1])]
        exact ih
      · rw [if_neg h2] at ih ⊢
        by_cases h3 : p.1 = k'
        · rw [List.find?_cons_of_pos (by simp [h3]), List.find?_cons_of_pos (by simp [h3])]
        · rw [List.find?_cons_of_neg (by simp [h3]), List.find?_cons_of_neg (by simp [h3])]
          exact ih
theorem UseD.drop {rows : List Arr} {used : List Str} {kvs : List (Key × Dat)} (h : UseD rows used kvs) (x : Str) : UseD rows (used ++ [x]) (dropD kvs (.inr x)) := by
  refine ⟨fun a ha hn => ?_, fun y hy => ?_, fun y hy => ?_⟩
  · rw [valD_dropD, if_neg (fun z => hn (List.mem_append_right _ (by rw [Sum.inr.inj z]; exact List.mem_singleton.mpr rfl)))]
    exact h.in_ a ha fun z => hn (List.mem_append_left _ z)
  · rw [valD_dropD]
    split
    · rfl
    · rename_i q
      rcases List.mem_append.mp hy with z | z
      · exact h.us y z
      · exact absurd (by rw [List.mem_singleton.mp z]) q
  · rw [valD_dropD]
    split
    · rfl
    · exact h.out y hy
/-- the arrows of these boxes, each once -/
def AlongP (rows : List Arr) (bs : List Str) (r : List Arr) : Prop := r.map (·.1) = bs ∧ (∀ a ∈ r, a ∈ rows) ∧ bs.Nodup
def T_along : DT := fun ρ Φ => ∃ (rows : List Arr) (bs : List Str), (ρ = [.dat (.tup (rows.map arrD)), .dat (.lst (bs.map Dat.str))] ∨ ρ = [.dat (.tup (rows.map arrD)), .dat (.tup (bs.map Dat.str))]) ∧ (rows.map (·.1)).Nodup ∧ rows.length ≤ 12 ∧ bs.length ≤ 1000 ∧
  (∀ r, AlongP rows bs r → Φ (.lst (r.map arrD))) ∧ ((∀ r, ¬ AlongP rows bs r) → Φ .non)
def Closed (r : List Arr) : Prop := r ≠ [] ∧ r.map (·.2.2) = (r.map (·.2.1)).drop 1 ++ (r.map (·.2.1)).take 1
def T_closes : DT := fun ρ Φ => ∃ r : List Arr, ρ = [.dat (.lst (r.map arrD))] ∧ ArrsOk r ∧ r.length ≤ 1000 ∧ (Closed r → Φ (.bl true)) ∧ (¬ Closed r → Φ (.bl false))
theorem closed_iff {r : List Arr} (ne : r ≠ []) : Closed r ↔ ∀ (i : Nat) (a b : Arr), r[i]? = some a → r[if i = 0 then r.length - 1 else i - 1]? = some b → b.2.2 = a.2.1 := by
  have h0 : 0 < r.length := List.length_pos_iff.mpr ne
  have rhs : ∀ i, i < r.length → ((r.map (·.2.1)).drop 1 ++ (r.map (·.2.1)).take 1)[i]? = (r.map (·.2.1))[if i + 1 = r.length then 0 else i + 1]? := fun i hi => by
    by_cases q : i + 1 = r.length
    · rw [if_pos q, List.getElem?_append_right (by rw [List.length_drop, List.length_map]; omega), List.length_drop, List.length_map, show i - (r.length - 1) = 0 by omega, List.getElem?_take_of_lt (by decide)]
    · rw [if_neg q, List.getElem?_append_left (by rw [List.length_drop, List.length_map]; omega), List.getElem?_drop, Nat.add_comm]
  constructor
  · rintro ⟨_, h⟩ i a b ha hb
    have hi := getL ha
    have hj := getL hb
    have e := rhs _ hj
    rw [← h, List.getElem?_map, hb] at e
    by_cases q : i = 0
    · subst q
      rw [if_pos rfl] at e hj hb
      rw [if_pos (by omega), List.getElem?_map, ha] at e
      exact Option.some.inj e
    · rw [if_neg q] at e
      rw [if_neg (by omega), show i - 1 + 1 = i by omega, List.getElem?_map, ha] at e
      exact Option.some.inj e
  · intro h
    refine ⟨ne, List.ext_getElem? fun i => ?_⟩
    by_cases hi : i < r.length
    · rw [rhs i hi, List.getElem?_map, List.getElem?_map]
      by_cases q : i + 1 = r.length
      · rw [if_pos q, List.getElem?_eq_getElem hi, List.getElem?_eq_getElem h0]
        have := h 0 _ _ (List.getElem?_eq_getElem h0) (by rw [if_pos rfl, show r.length - 1 = i by omega]; exact List.getElem?_eq_getElem hi)
        exact congrArg some this
      · rw [if_neg q, List.getElem?_eq_getElem hi, List.getElem?_eq_getElem (by omega)]
        have := h (i + 1) _ _ (List.getElem?_eq_getElem (by omega)) (by rw [if_neg (by omega), Nat.add_sub_cancel]; exact List.getElem?_eq_getElem hi)
        exact congrArg some this
    · rw [List.getElem?_eq_none_iff.mpr (by rw [List.length_map]; omega), List.getElem?_eq_none_iff.mpr (by rw [List.length_append, List.length_drop, List.length_take, List.length_map]; omega)]
/-- the row of boxes is a trail (plain: a circuit) of the web -/
def IsTr (rows : List Arr) (plain : Bool) (bs : List Str) : Prop := ∃ r, r.map (·.1) = bs ∧ TrailP rows plain r
theorem isTr_iff {rows : List Arr} {plain : Bool} {bs : List Str} : IsTr rows plain bs ↔ ∃ r, AlongP rows bs r ∧ Closed r ∧ (plain = true → (r.map (·.2.1)).Nodup) := by
  constructor
  · rintro ⟨r, e, h⟩
    exact ⟨r, ⟨e, h.sub, by rw [← e]; exact h.nd⟩, (closed_iff h.ne).mpr h.ln, h.bg⟩
  · rintro ⟨r, ⟨e, h1, h2⟩, h3, h4⟩
    exact ⟨r, e, h1, by rw [e]; exact h2, (closed_iff h3.1).mp h3, h4, h3.1⟩
theorem along_uniq {rows : List Arr} (nd : (rows.map (·.1)).Nodup) {bs : List Str} {r q : List Arr} (h : AlongP rows bs r) (k : AlongP rows bs q) : r = q := by
  have e : r.map (·.1) = q.map (·.1) := h.1.trans k.1.symm
  have hl : r.length = q.length := by
    have := congrArg List.length e
    rwa [List.length_map, List.length_map] at this
  refine List.ext_getElem? fun i => ?_
  by_cases hi : i < r.length
  · have e1 := List.getElem?_eq_getElem hi
    have e2 := List.getElem?_eq_getElem (show i < q.length by omega)
    rw [e1, e2]
    have e3 : (r.map (·.1))[i]? = (q.map (·.1))[i]? := by rw [e]
    rw [List.getElem?_map, List.getElem?_map, e1, e2] at e3
    have e4 : r[i].1 = q[i].1 := Option.some.inj e3
    obtain ⟨j1, h1, f1⟩ := List.mem_iff_getElem.mp (h.2.1 _ (List.getElem_mem hi))
    obtain ⟨j2, h2, f2⟩ := List.mem_iff_getElem.mp (k.2.1 _ (List.getElem_mem (show i < q.length by omega)))
    have := nodup_at (f := fun x : Arr => x.1) nd (List.getElem?_eq_getElem h1) (List.getElem?_eq_getElem h2) (by rw [f1, f2]; exact e4)
    subst this
    rw [← f1, ← f2]
  · rw [List.getElem?_eq_none_iff.mpr (by omega), List.getElem?_eq_none_iff.mpr (by omega)]
def T_is_tr (C : Addr) (plain : Bool) : DT := fun ρ Φ => ∃ (rows : List Arr) (bs : List Str), (ρ = [.dat (webD C rows), .dat (.lst (bs.map Dat.str))] ∨ ρ = [.dat (webD C rows), .dat (.tup (bs.map Dat.str))]) ∧ WebS rows ∧ bs.length ≤ 1000 ∧ (IsTr rows plain bs → Φ (.bl true)) ∧ (¬ IsTr rows plain bs → Φ (.bl false))
/-! ### splits -/
/-- a row of boxes as a list, as a tuple -/
def qD (c : Bool × List Str) : Dat := if c.1 = true then .tup (c.2.map Dat.str) else .lst (c.2.map Dat.str)
def SplitP (rows : List Arr) (cs : List (List Str)) : Prop := (∀ bs ∈ cs, IsTr rows true bs) ∧ cs.flatten.Perm (rows.map (·.1))
def T_is_split (C : Addr) : DT := fun ρ Φ => ∃ (rows : List Arr) (cs : List (Bool × List Str)), (ρ = [.dat (webD C rows), .dat (.lst (cs.map qD))] ∨ ρ = [.dat (webD C rows), .dat (.tup (cs.map qD))]) ∧ WebS rows ∧ cs.length ≤ 1000 ∧ (cs.map (·.2)).flatten.length ≤ 60 ∧
  (SplitP rows (cs.map (·.2)) → Φ (.bl true)) ∧ (¬ SplitP rows (cs.map (·.2)) → Φ (.bl false))
theorem strs_uniq : ∀ {xs ys : List Str}, xs.Perm ys → xs.Pairwise leS → ys.Pairwise leS → xs = ys := fun {xs ys} p hx hy => by
  have anti : ∀ a b : Str, leS a b → leS b a → a = b := fun a b h1 h2 => by
    rcases ltK_tot (a := (.inr b : Key)) (b := .inr a) h2 with z | z
    · exact (Sum.inr.inj z).symm
    · rw [show ltK (.inr b) (.inr a) = false from h1] at z; cases z
  induction xs generalizing ys with
  | nil => exact p.symm.eq_nil.symm
  | cons x xs ih =>
    cases ys with
    | nil => exact absurd p.eq_nil (by simp)
    | cons y ys =>
      have hx' := List.pairwise_cons.mp hx
      have hy' := List.pairwise_cons.mp hy
      have e : x = y := by
        rcases List.mem_cons.mp (p.mem_iff.mp (List.mem_cons_self (a := x) (l := xs))) with z | z
        · exact z
        · rcases List.mem_cons.mp (p.mem_iff.mpr (List.mem_cons_self (a := y) (l := ys))) with w | w
          · exact w.symm
          · exact anti x y (hx'.1 y w) (hy'.1 x z)
      subst e
      rw [ih (List.Perm.cons_inv p) hx'.2 hy'.2]
/-! ### the greatest split, as data -/
abbrev boxL (r : List Arr) : List Str := r.map (·.1)
abbrev ringD (r : List Arr) : Dat := .lst ((boxL r).map Dat.str)
theorem flatten_boxes (rs : List (List Arr)) : (rs.map boxL).flatten = rs.flatten.map (·.1) := by
  induction rs with
  | nil => rfl
  | cons r rs ih => rw [List.map_cons, List.flatten_cons, List.flatten_cons, List.map_append, ih]
theorem split_of {rows : List Arr} {rs : List (List Arr)} (h1 : ∀ r ∈ rs, TrailP rows true r) (h2 : rs.flatten.Perm rows) : SplitP rows (rs.map boxL) := by
  refine ⟨fun bs hb => ?_, by rw [flatten_boxes]; exact h2.map _⟩
  obtain ⟨r, hr, rfl⟩ := List.mem_map.mp hb
  exact ⟨r, rfl, h1 r hr⟩
def T_best : ST := fun ρ Φ => ∃ rows : List Arr, ρ = [.dat (.lst ((ringsL rows).map prD)), .dat (.int rows.length)] ∧ WebOk rows ∧ rows.length ≤ 6 ∧ ∀ D es, es.map (·.2) = (bestL rows).map (fun r => Inn.l ((boxL r).map Dat.str)) → Φ (.trL D es)
def T_circuits (C : Addr) : ST := fun ρ Φ => ∃ rows : List Arr, ρ = [.dat (webD C rows)] ∧ WebS rows ∧ rows.length ≤ 6 ∧ ∀ D es, es.map (·.2) = (bestL rows).map (fun r => Inn.l ((boxL r).map Dat.str)) → Φ (.trL D es)
def T_law_split : DT := fun ρ Φ => ∃ (rows : List Arr) (rs : List (List Arr)), ρ = [.dat (.lst (rows.map arrD)), .dat (.lst (rs.map ringD))] ∧ ArrsOk rows ∧ (rows.map (·.1)).Nodup ∧ rows.length ≤ 12 ∧ (∀ r ∈ rs, TrailP rows true r) ∧ rs.flatten.Perm rows ∧ Φ (.bl true)
def T_are_lists : DT := fun ρ Φ => ∃ rs : List (List Str), ρ = [.dat (.lst (rs.map fun r => .lst (r.map Dat.str)))] ∧ Φ (.bl true)
def T_halves : NT := fun ρ Φ => ∃ n : Nat, ρ = [.dat (.int n)] ∧ n ≤ 6 ∧ Φ (((List.range (2 ^ n)).map fun i => ((cnt n i / 2 : Nat) : Int)).map Dat.int)
def T_judged (C : Addr) : DT := fun ρ Φ => ∃ (rows s : List Arr) (x : Int), ρ = [.dat (webD C s), .dat (.lst (rows.map arrD)), .dat (.lst ((bestL s).map ringD)), .dat (.int x)] ∧ WebS s ∧ s.Perm rows ∧ s.length ≤ 6 ∧ 0 ≤ x ∧ Φ (.bl true)
def T_shown (C : Addr) : DT := fun ρ Φ => ∃ (rows s : List Arr) (x : Int), ρ = [.dat (webD C s), .dat (.lst (rows.map arrD)), .dat (.int x)] ∧ WebS s ∧ s.Perm rows ∧ s.length ≤ 6 ∧ 0 ≤ x ∧ Φ (.bl true)
/-- _law_copy of a text, a list of texts, a list of such -/
def T_cp : Nat → ST
  | 0, _, _ => False
  | n + 1, ρ, Φ => (∃ z : Str, ρ = [.dat (.str z)] ∧ Φ (.dat (.str z))) ∨ (∃ zs : List Str, ρ = [.dat (.lst (zs.map Dat.str))] ∧ 1 ≤ n ∧ zs.length ≤ 1000 ∧ Φ (.own none (zs.map Dat.str))) ∨
    (∃ rs : List (List Str), ρ = [.dat (.lst (rs.map fun r => .lst (r.map Dat.str)))] ∧ 2 ≤ n ∧ rs.length ≤ 1000 ∧ (∀ r ∈ rs, r.length ≤ 1000) ∧ ∀ D es, es.map (·.2) = rs.map (fun r => Inn.l (r.map Dat.str)) → Φ (.trL D es))
theorem flatten_len {α : Type} : ∀ {L : List (List α)}, (∀ r ∈ L, r ≠ []) → L.length ≤ L.flatten.length
  | [], _ => Nat.le_refl _
  | r :: L, h => by
    have h1 := flatten_len fun q hq => h q (List.mem_cons_of_mem _ hq)
    have h2 := List.length_pos_iff.mpr (h r List.mem_cons_self)
    rw [List.flatten_cons, List.length_append, List.length_cons]
    omega
theorem bestL_len {rows : List Arr} (h : WebOk rows) : (bestL rows).length ≤ rows.length := by
  obtain ⟨_, h1, h2⟩ := bestL_ok h
  have := flatten_len fun r hr => (h1 r hr).ne
  rw [h2.length_eq] at this
  exact this
theorem bestL_rle {rows : List Arr} (h : WebOk rows) {r : List Arr} (hr : r ∈ bestL rows) : r.length ≤ rows.length := by
  obtain ⟨_, h1, h2⟩ := bestL_ok h
  rw [← h2.length_eq]
  exact (List.sublist_flatten_of_mem hr).length_le
section
variable {g : Gm} {ρ : List Sl} {tr : TA} {E : DE} {Φ : List Sl → Prop}
theorem ds_retTr {i : Nat} {p : Addr} {es : List (Addr × Inn)} (e : ρ[i]? = some (.trL p es)) (h : E.rs (.trL p es) ρ) : DSt g (tRet (tVar i)) ρ E := ds_retV (H := fun _ => none) e (fun _ _ _ => trivial) (fun z => nomatch z) h
theorem eg_tr {i : Nat} {p : Addr} {es : List (Addr × Inn)} (e : ρ[i]? = some (.trL p es)) (h : EvG g tr ρ fun ds => Φ (.dat (.lst (es.map fun e => e.2.d)) :: ds)) : EvG g (tCons (tVar i) tr) ρ Φ := eg_m e rfl h
theorem id_EvG (h : EvG g tr ρ Φ) : EvG g tr ρ Φ := h
end
/-! ### what is asked of the greatest split -/
abbrev rotL (r : List Arr) : List Arr := r.drop 1 ++ r.take 1
theorem rot_trail {S r : List Arr} {b : Bool} (h : TrailP S b r) : TrailP S b (rotL r) := h.rot (List.length_pos_iff.mpr h.ne)
theorem rot_perm (r : List Arr) : (rotL r).Perm r := (List.perm_append_comm).trans (by rw [List.take_append_drop])
theorem flatten_rot : ∀ rs : List (List Arr), (rs.map rotL).flatten.Perm rs.flatten
  | [] => List.Perm.refl _
  | r :: rs => by
    rw [List.map_cons, List.flatten_cons, List.flatten_cons]
    exact (rot_perm r).append (flatten_rot rs)
theorem split_best {s : List Arr} (h : WebOk s) : SplitP s ((bestL s).map boxL) := split_of (bestL_ok h).2.1 (bestL_ok h).2.2
theorem split_turned {s : List Arr} (h : WebOk s) : SplitP s (((bestL s).map rotL).map boxL) := split_of (fun r hr => by
  obtain ⟨q, hq, rfl⟩ := List.mem_map.mp hr
  exact rot_trail ((bestL_ok h).2.1 q hq)) ((flatten_rot _).trans (bestL_ok h).2.2)
theorem isTr_ne {rows : List Arr} {p : Bool} {bs : List Str} (h : IsTr rows p bs) : bs ≠ [] := by
  obtain ⟨r, rfl, hr⟩ := h
  intro z
  exact hr.ne (List.map_eq_nil_iff.mp z)
theorem split_empty {s : List Arr} {cs : List (List Str)} : ¬ SplitP s (cs ++ [[]]) := fun h => isTr_ne (h.1 [] (List.mem_append_right _ (List.mem_singleton.mpr rfl))) rfl
theorem split_nil {s : List Arr} : SplitP s [] ↔ s = [] := by
  constructor
  · intro h
    exact List.map_eq_nil_iff.mp h.2.symm.eq_nil
  · rintro rfl
    exact ⟨fun _ h => (by cases h), List.Perm.refl _⟩
theorem split_less {s : List Arr} {cs : List (List Str)} (h : SplitP s cs) (ne : cs ≠ []) : ¬ SplitP s (cs.drop 1) := fun k => by
  cases cs with
  | nil => exact ne rfl
  | cons c cs =>
    have h1 := h.2.length_eq
    have h2 := k.2.length_eq
    have h3 := List.length_pos_iff.mpr (isTr_ne (h.1 c List.mem_cons_self))
    rw [List.flatten_cons, List.length_append] at h1
    rw [List.drop_one, List.tail_cons] at h2
    omega
theorem cnt_full {s : List Arr} : cnt s.length (2 ^ s.length - 1) = s.length := by
  have h := congrArg List.length (sel_full (rows := s))
  rw [show sel s ((2 ^ s.length - 1 : Nat) : Int) = selTo s ((2 ^ s.length - 1 : Nat) : Int) s.length from rfl, selTo_length _ (Nat.le_refl _), cnt_fil] at h
  exact h
theorem qD_f (cs : List (List Str)) : (cs.map fun c => (false, c)).map qD = cs.map fun c => Dat.lst (c.map Dat.str) := by rw [List.map_map]; rfl
theorem qD_t (cs : List (List Str)) : (cs.map fun c => (true, c)).map qD = cs.map fun c => Dat.tup (c.map Dat.str) := by rw [List.map_map]; rfl
theorem snd_q (b : Bool) (cs : List (List Str)) : (cs.map fun c => (b, c)).map (·.2) = cs := by rw [List.map_map]; exact List.map_id _
/-- is_split of lists -/
theorem T_split_l {C : Addr} {s : List Arr} {cs : List (List Str)} {Φ : Dat → Prop} (hS : WebS s) (h1 : cs.length ≤ 1000) (h2 : cs.flatten.length ≤ 60) (hy : SplitP s cs → Φ (.bl true)) (hn : ¬ SplitP s cs → Φ (.bl false)) : T_is_split C [.dat (webD C s), .dat (.lst (cs.map fun c => .lst (c.map Dat.str)))] Φ :=
  ⟨s, cs.map fun c => (false, c), .inl (by rw [qD_f]), hS, by rw [List.length_map]; exact h1, by rw [snd_q]; exact h2, by rw [snd_q]; exact hy, by rw [snd_q]; exact hn⟩
/-- of a tuple of tuples -/
theorem T_split_t {C : Addr} {s : List Arr} {cs : List (List Str)} {Φ : Dat → Prop} (hS : WebS s) (h1 : cs.length ≤ 1000) (h2 : cs.flatten.length ≤ 60) (hy : SplitP s cs → Φ (.bl true)) (hn : ¬ SplitP s cs → Φ (.bl false)) : T_is_split C [.dat (webD C s), .dat (.tup (cs.map fun c => .tup (c.map Dat.str)))] Φ :=
  ⟨s, cs.map fun c => (true, c), .inr (by rw [qD_t]), hS, by rw [List.length_map]; exact h1, by rw [snd_q]; exact h2, by rw [snd_q]; exact hy, by rw [snd_q]; exact hn⟩
theorem best_flat {s : List Arr} (h : WebOk s) : ((bestL s).map boxL).flatten.length = s.length := by
  have := (split_best h).2.length_eq
  rwa [List.length_map] at this
theorem best_nil {s : List Arr} (h : WebOk s) : bestL s = [] ↔ s = [] := by
  have h1 := (bestL_ok h).2.2
  constructor
  · intro e
    rw [e] at h1
    exact h1.symm.eq_nil
  · rintro rfl
    have := bestL_len h
    exact List.length_eq_zero_iff.mp (by simpa using this)
theorem T_split_n {C : Addr} {s : List Arr} {Φ : Dat → Prop} (hS : WebS s) (h : Φ (.bl (decide ((s.length : Int) = 0)))) : T_is_split C [.dat (webD C s), .dat (.lst [])] Φ := by
  refine T_split_l (cs := []) hS (Nat.zero_le _) (Nat.zero_le _) (fun k => ?_) (fun k => ?_)
  · rw [decide_eq_true (by rw [split_nil.mp k]; rfl)] at h
    exact h
  · rw [decide_eq_false (fun z => k (split_nil.mpr (List.length_eq_zero_iff.mp (by omega))))] at h
    exact h
end NW

/-! NwK2: owned trees as answers of calls that read owned things; new trees read. -/
namespace NW
open PySem PySem.Spec PyProof.Rows L2
def noLI : Inn → Bool
  | .l ds => noLA ds
  | .k _ => false
def noS : Sl → Bool
  | .dat d => noL d
  | .own none ds => noLA ds
  | .trL _ es => es.all fun e => noLI e.2
  | _ => false
section
variable {g : Gm} {X : List Addr} {Y : Hp} {σ : L2.St} {ρ : List Sl} {H H' : Hp} {te ta tb tc : TE} {tr : TA} {t u : TS} {E : DE} {D : Ends} {Ex : XK}
theorem InnOk.free {K : PySem.W.Frag} {P : List Addr} {G : Hp} (h : LsAt P G) {a : Addr} {n : Inn} (e : noLI n = true) (r : InnOk K G H a n) : InnOk K (hide P G) H a n := by
  cases n with
  | l ds =>
    obtain ⟨xs, h1, h2⟩ := r
    exact ⟨xs, h1, RpA.free h ds xs e h2⟩
  | k ds => cases e
theorem SlOk.free {P : List Addr} {G : Hp} (h : LsAt P G) {x : Option V} {s : Sl} (e : noS s = true) (r : SlOk g G H x s) : SlOk g (hide P G) H x s := by
  cases r with
  | dat r => exact .dat (Rp.free h _ _ e r)
  | own q hp r =>
    rename_i p a xs ds
    cases a with
    | none => exact .own q hp (RpA.free h _ _ e r)
    | some a => cases e
  | trL hp r => exact .trL hp fun z hz => (r z hz).free h (List.all_eq_true.mp e z hz)
  | _ => cases e
theorem LsAt.out {P O : List Addr} {G : Hp} (h : LsAt P G) (ho : ∀ p ∈ P, p ∉ O) : LsAt P (hide O G) := fun p hp => by
  rw [hide_out (ho p hp)]
  exact h p hp
theorem ey_callG {T : ST} {Φ : Sl → Prop} (h : EvG g tr ρ fun πs => T πs fun s => noS s = true ∧ Φ s) : EvY g (tCall (spS g.K T) [] Ex tr) ρ Φ := fun X Y σ H Q R k =>
  h X Y σ H _ R fun πs vs H1 hT n1 r1 => by
    show spS g.K T (vs ++ []) H1 Q Ex
    rw [List.append_nil]
    have R1 := R.nx n1
    refine ⟨g.st, X ++ notLs H1 (owned σ ρ), πs, _, call_rsG R1 r1, hT, fun s v H' hd n2 hn nd r2 => k s v H' hd.2 (n1.trans n2) (fun q hq => nx_none R n1 (hn q hq)) nd ?_⟩
    have ho : ∀ p ∈ (owned σ ρ).filter fun p => lsB H1 p, p ∉ ownA (some v) s := fun p hp z => R1.new (hn p z) (List.mem_append_right _ (List.mem_append_right _ (List.mem_filter.mp hp).1))
    rw [show hide (ownA (some v) s ++ ((X ++ notLs H1 (owned σ ρ)) ++ Gm.pr ⟨g.K, g.st⟩)) H' = hide (ownA (some v) s) (hide ((X ++ notLs H1 (owned σ ρ)) ++ g.pr) H') from (hide_app ..).symm] at r2
    have r3 := SlOk.free ((LsAt.back n2 R1).out ho) hd.1 r2
    refine r3.mn ?_
    rw [hide_app, hide_app]
    refine hide_mono fun b hb => ?_
    rcases List.mem_append.mp hb with z | z
    · exact List.mem_append_left _ (List.mem_append_right _ z)
    rcases List.mem_append.mp z with z | z
    · exact List.mem_append_right _ (List.mem_append_left _ (List.mem_append_left _ z))
    rcases List.mem_append.mp z with z | z
    · exact List.mem_append_right _ (List.mem_append_right _ z)
    by_cases q : lsB H1 b = true
    · exact List.mem_append_left _ (List.mem_append_left _ (List.mem_filter.mpr ⟨z, q⟩))
    · refine List.mem_append_right _ (List.mem_append_left _ (List.mem_append_right _ (List.mem_filter.mpr ⟨z, ?_⟩)))
      simpa using q
/-- a new tree, read -/
theorem ev_of_yM {Φ : Dat → Prop} (h : EvY g te ρ fun s => ∃ d, momD s = some d ∧ Φ d) : EvC g te ρ Φ := fun X Y σ H Q R k => h X Y σ H Q R fun s v H' hs n hn nd r => by
  obtain ⟨d, hm, hd⟩ := hs
  have out : ∀ q ∈ ownA (some v) s, ∀ o, H' q = some o → hid g X σ ρ H' q = some o := fun q hq o ho => (hide_out (R.new (hn q hq))).trans ho
  have sub : Same (hide (ownA (some v) s ++ (X ++ (g.pr ++ owned σ ρ))) H') (hid g X σ ρ H') := hide_mono fun b hb => List.mem_append_right _ hb
  have inn : ∀ (a : Addr) (n : Inn), a ∈ ownA (some v) s → InnOk g.K (hide (ownA (some v) s ++ (X ++ (g.pr ++ owned σ ρ))) H') H' a n → Rp g.K (hid g X σ ρ H') (.ref a) n.d := fun a m ha h => by
    cases m with
    | l ds => obtain ⟨xs, h1, h2⟩ := h; exact .lst (out a ha _ h1) (h2.mn sub)
    | k ds => obtain ⟨xs, h1, h2⟩ := h; exact .dic (out a ha _ h1) (h2.mn sub)
  refine k d v H' hd n ?_
  cases r with
  | dat r => cases hm; exact r.mn sub
  | own q h r => cases hm; exact .lst (out _ (List.mem_singleton.mpr rfl) _ h) (r.mn sub)
  | ownK h r => cases hm; exact .dic (out _ (List.mem_singleton.mpr rfl) _ h) (r.mn sub)
  | trL h r => cases hm; exact .lst (out _ List.mem_cons_self _ h) (RpA.of_map fun e he => inn e.1 e.2 (List.mem_cons_of_mem _ (List.mem_map.mpr ⟨e, he, rfl⟩)) (r e he))
  | trK h r => cases hm; exact .dic (out _ List.mem_cons_self _ h) (RpK.of_map fun e he => inn e.2.1 e.2.2 (List.mem_cons_of_mem _ (List.mem_map.mpr ⟨e, he, rfl⟩)) (r e he))
  | _ => cases hm
end
theorem noLA_strs : ∀ zs : List Str, noLA (zs.map Dat.str) = true
  | [] => rfl
  | z :: zs => by rw [List.map_cons, noLA, noLA_strs zs]; rfl
theorem okD_strL {cs : List (List Str)} (h1 : cs.length ≤ 1000) (h2 : ∀ c ∈ cs, c.length ≤ 1000) : okD (.lst (cs.map fun c => Dat.lst (c.map Dat.str))) = true := by
  have sl : sizeLine = 16777216 := sizeLine_eq
  show (decide (_ ≤ sizeLine) && okA _) = true
  rw [Bool.and_eq_true]
  refine ⟨decide_eq_true (by rw [List.length_map]; omega), okA_of fun d hd => ?_⟩
  obtain ⟨c, hc, rfl⟩ := List.mem_map.mp hd
  show (decide (_ ≤ sizeLine) && okA _) = true
  rw [Bool.and_eq_true]
  refine ⟨decide_eq_true (by rw [List.length_map]; have := h2 c hc; omega), okA_of fun d hd => ?_⟩
  obtain ⟨z, _, rfl⟩ := List.mem_map.mp hd
  rfl
theorem dpt_strL (cs : List (List Str)) : dpt (.lst (cs.map fun c => Dat.lst (c.map Dat.str))) ≤ 2 := by
  show dptA _ + 1 ≤ 2
  refine Nat.succ_le_succ (dptA_of fun d hd => ?_)
  obtain ⟨c, hc, rfl⟩ := List.mem_map.mp hd
  show dptA _ + 1 ≤ 1
  refine Nat.succ_le_succ (dptA_of fun d hd => ?_)
  obtain ⟨z, _, rfl⟩ := List.mem_map.mp hd
  exact Nat.le_refl _
/-- two webs of the same arrows are the same -/
theorem webS_uniq {r s : List Arr} (hr : WebS r) (hs : WebS s) (p : r.Perm s) : r = s := by
  have f : ∀ {q : List Arr}, WebS q → q.Pairwise (fun a b => leS a.1 b.1) := fun h => by
    have := sortedS_pair h.srt
    rwa [List.pairwise_map] at this
  exact rows_uniq p hr.ok.nd (f hr) (f hs)
end NW

/-! NwSA: sorted of alike data of any shape. -/
namespace NW
open PySem PySem.Spec PyProof.Rows L2
theorem each_rel {β : Type} {R : Value → β → Prop} {zs : List β} {us : List Value} {f : β → V} (hr : ∀ u z, RelV (f z) u → R u z) : Vals (zs.map f) us → PySem.W.EachIs R us zs := by
  induction zs generalizing us with
  | nil => intro r; cases r; exact .nil
  | cons z zs ih => intro r; cases r with | cons r t => exact .cons (hr _ _ r) (ih t)
/-- sorted(l), l a list of data that < can compare -/
def rSortedA (K : PySem.W.Frag) : List V → Hp → VK → Prop := fun vs H Q => ∃ (a : Addr) (zs : List (V × PyData)), vs = [V.ref a] ∧ SqL K H a (zs.map (·.1)) ∧ (∀ z ∈ zs, Dp K H z.1 z.2) ∧ PySem.W.AllAlike (zs.map (·.2)) ∧ PySem.W.Sortable (zs.map (·.2)) ∧ (∀ z ∈ zs, z.2.depth ≤ 32) ∧
  ∀ ys : List (V × PyData), ys.Perm zs → ys.Pairwise (fun x y => PySem.W.dataLt y.2 x.2 = false) → ∀ p, H p = none → Q (.ref p) (upd H p (.lst (ys.map (·.1))))
theorem cr_sortedA {X : Cx} (hu : X.A.units + 64 < cLine) : CallR X (.builtin "sorted") (rSortedA X.K) := by
  intro pins s σ H vs us Q I r h
  obtain ⟨a, zs, rfl, hs, hd, hal, hk, hdp, q⟩ := h
  obtain ⟨its, rv, hl, hz⟩ := I.list hs
  rw [Vals.ref1 r]
  rw [List.length_map] at hz
  have e : PySem.W.EachIs (fun (u : Value) (z : V × PyData) => RelV z.1 u) its zs := each_rel (fun _ _ h => h) rv
  have er : PySem.W.EachIs (fun (u : Value) (z : V × PyData) => ∃ as, Reads s.heap u z.2 as) its zs := (PySem.W.each_mem e).mono fun u z ⟨h, hm⟩ => Dp.reads I _ _ _ (hd z hm) h
  refine PySem.W.sorted_data (enc := fun z : V × PyData => z.2) hl.isList e er hal hk (by omega) (fun b hb => by have := hdp b hb; omega) fun out ho eo => ?_
  have pm : (zs.mergeSort (PySem.W.dataLe false fun z : V × PyData => z.2)).Perm zs := List.mergeSort_perm ..
  have srt : (zs.mergeSort (PySem.W.dataLe false fun z : V × PyData => z.2)).Pairwise (fun x y => PySem.W.dataLt y.2 x.2 = false) := by
    have := PySem.W.sort_pairwise (PySem.W.sortLe_total (listOrd itemOrd) false fun z : V × PyData => PySem.W.keyToks z.2) zs
    refine List.Pairwise.imp (fun {x y} h => ?_) this
    have h' : (!PySem.W.dataLt y.2 x.2) = true := h
    simpa using h'
  generalize zs.mergeSort (PySem.W.dataLe false fun z : V × PyData => z.2) = ys at pm srt eo
  obtain ⟨ep, he'⟩ := PyProof.Rows.sortedAll_at s.heap its out.toArray
  have vo : Vals (ys.map (·.1)) out := by
    clear pm srt he' ho
    induction eo with
    | nil => exact .nil
    | cons h _ ih => exact .cons h ih
  have hlo : (ys.map (·.1)).length ≤ sizeLine := by rw [List.length_map, pm.length_eq]; omega
  exact ⟨.ref _, upd H (s.heap.objs.size + 1) (.lst (ys.map (·.1))), I.laid (t' := s.toks) (fun _ _ => PyProof.Rows.sortedAll_old) (Nat.le_succ _) ⟨hlo, out, ep, vo, he'⟩, rfl, q ys pm srt _ (I.hok.fresh (Nat.le_succ _))⟩
theorem n_sortedA {K : PySem.W.Frag} {X : Cx} (hK : X.K = K) (hu : X.A.units + 64 < cLine) : CallR X (.builtin "sorted") (rSortedA K) := hK ▸ cr_sortedA hu
/-! ### over data -/
theorem zip_fst {α β : Type} : ∀ {xs : List α} {ys : List β}, xs.length = ys.length → (xs.zip ys).map (·.1) = xs
  | [], [], _ => rfl
  | x :: xs, y :: ys, h => by rw [List.zip_cons_cons, List.map_cons, zip_fst (Nat.succ.inj h)]
theorem zip_snd {α β : Type} : ∀ {xs : List α} {ys : List β}, xs.length = ys.length → (xs.zip ys).map (·.2) = ys
  | [], [], _ => rfl
  | x :: xs, y :: ys, h => by rw [List.zip_cons_cons, List.map_cons, zip_snd (Nat.succ.inj h)]
theorem RpA.zip {K : PySem.W.Frag} {G : Hp} : ∀ {vs : List V} {ds : List Dat}, RpA K G vs ds → ∀ p ∈ vs.zip ds, Rp K G p.1 p.2
  | _, _, .nil, p, h => by cases h
  | _, _, .cons r t, p, h => by
    rw [List.zip_cons_cons] at h
    rcases List.mem_cons.mp h with z | z
    · rw [z]; exact r
    · exact RpA.zip t p z
def dSortedA : List Dat → (List Dat → Prop) → Prop
  | [.lst ds], Φ => (∀ d ∈ ds, eqD d = true) ∧ PySem.W.AllAlike (ds.map pyD) ∧ PySem.W.Sortable (ds.map pyD) ∧ (∀ d ∈ ds, (pyD d).depth ≤ 32) ∧ ∀ es : List Dat, es.Perm ds → es.Pairwise (fun x y => PySem.W.dataLt (pyD y) (pyD x) = false) → Φ es
  | _, _ => False
theorem cn_sortedA {K : PySem.W.Frag} : CbN K (rSortedA K) dSortedA := fun O pr H xs dx Φ Q s1 s2 rx h k => by
  match dx, rx, h with
  | [.lst ds], .cons r .nil, h =>
    obtain ⟨h1, h2, h3, h4, h⟩ := h
    obtain ⟨a, ys, rfl, q1, q2⟩ := r.lst_inv (hide_mono s1)
    have hl := q2.length
    have ez : ((ys.zip ds).map fun p => (p.1, pyD p.2)).map (·.2) = ds.map pyD := by
      rw [List.map_map]
      show (ys.zip ds).map (pyD ∘ fun p => p.2) = _
      rw [← List.map_map, zip_snd hl]
    have rz := RpA.zip q2
    have md : ∀ p ∈ ys.zip ds, p.2 ∈ ds := fun p hp => by
      have : p.2 ∈ (ys.zip ds).map (·.2) := List.mem_map.mpr ⟨p, hp, rfl⟩
      rwa [zip_snd hl] at this
    refine ⟨a, (ys.zip ds).map fun p => (p.1, pyD p.2), rfl, ?_, fun z hz => ?_, by rw [ez]; exact h2, by rw [ez]; exact h3, fun z hz => ?_, fun ws pw hs p hn => ?_⟩
    · rw [List.map_map]
      show SqL K H a ((ys.zip ds).map fun p => p.1)
      rw [zip_fst hl]
      exact SqL.of (hide_same _ _ q1)
    · obtain ⟨p, hp, rfl⟩ := List.mem_map.mp hz
      exact Rp.dp hide_same _ _ (h1 _ (md p hp)) (rz p hp)
    · obtain ⟨p, hp, rfl⟩ := List.mem_map.mp hz
      exact h4 _ (md p hp)
    · obtain ⟨ps, pp, rfl⟩ := perm_map_inv pw
      have pm : (ps.map (·.2)).Perm ds := by
        have := pp.map (fun p : V × Dat => p.2)
        rwa [zip_snd hl] at this
      have srt : (ps.map (·.2)).Pairwise (fun x y => PySem.W.dataLt (pyD y) (pyD x) = false) := by
        rw [List.pairwise_map] at hs ⊢
        exact hs
      have hr : RpA K (hide O H) (ps.map (·.1)) (ps.map (·.2)) := RpA.of_map fun p hp => rz p (pp.mem_iff.mp hp)
      have e1 : (ps.map fun p => (p.1, pyD p.2)).map (·.1) = ps.map (·.1) := by rw [List.map_map]; rfl
      rw [e1]
      exact k _ p _ _ (h _ pm srt) (upd_new hn) hn upd_same (hr.mn (hide_cons_upd hn))
end NW

/-! NwE1: closed trails: mathematics. -/
namespace NW
open PySem PySem.Spec PyProof.Rows L2
/-- the first arrow that begins at p -/
def fromA (l : List Arr) (p : Str) : Option Arr := l.find? fun a => decide (a.2.1 = p)
theorem fromA_some {l : List Arr} {p : Str} {a : Arr} (h : fromA l p = some a) : a ∈ l ∧ a.2.1 = p := ⟨List.mem_of_find?_eq_some h, by have := List.find?_some h; exact of_decide_eq_true this⟩
theorem fromA_none {l : List Arr} {p : Str} (h : fromA l p = none) : ∀ a ∈ l, a.2.1 ≠ p := fun a ha e => by
  have := List.find?_eq_none.mp h a ha
  exact this (decide_eq_true e)
theorem fromA_is {l : List Arr} {a : Arr} (h : a ∈ l) : (fromA l a.2.1).isSome = true := by
  cases e : fromA l a.2.1 with
  | none => exact absurd rfl (fromA_none e a h)
  | some b => rfl
def took : Nat → List Arr → Str → List Arr × List Arr
  | 0, l, _ => ([], l)
  | n + 1, l, p => match fromA l p with
    | none => ([], l)
    | some a => (a :: (took n (l.erase a) a.2.2).1, (took n (l.erase a) a.2.2).2)
def Path : Str → List Arr → Str → Prop
  | p, [], q => p = q
  | p, a :: t, q => a.2.1 = p ∧ Path a.2.2 t q
theorem Path.app : ∀ {s t : List Arr} {p x q : Str}, Path p s x → Path x t q → Path p (s ++ t) q
  | [], t, p, x, q, h, k => by cases (show p = x from h); exact k
  | a :: s, t, p, x, q, h, k => ⟨h.1, Path.app h.2 k⟩
theorem Path.split : ∀ {s t : List Arr} {p q : Str}, Path p (s ++ t) q → ∃ x, Path p s x ∧ Path x t q
  | [], t, p, q, h => ⟨p, rfl, h⟩
  | a :: s, t, p, q, h => by
    obtain ⟨x, h1, h2⟩ := Path.split (s := s) h.2
    exact ⟨x, ⟨h.1, h1⟩, h2⟩
theorem took_ok : ∀ (n : Nat) (l : List Arr) (p : Str), l.length ≤ n → ∃ q, Path p (took n l p).1 q ∧ fromA (took n l p).2 q = none ∧ ((took n l p).1 ++ (took n l p).2).Perm l
  | 0, l, p, h => by
    have : l = [] := List.length_eq_zero_iff.mp (by omega)
    subst this
    exact ⟨p, rfl, rfl, List.Perm.refl _⟩
  | n + 1, l, p, h => by
    unfold took
    cases e : fromA l p with
    | none => exact ⟨p, rfl, e, List.Perm.refl _⟩
    | some a =>
      obtain ⟨h1, h2⟩ := fromA_some e
      have hl := List.length_erase_of_mem h1
      have hp := List.length_pos_of_mem h1
      obtain ⟨q, k1, k2, k3⟩ := took_ok n (l.erase a) a.2.2 (by omega)
      exact ⟨q, ⟨h2, k1⟩, k2, (k3.cons a).trans (List.perm_cons_erase h1).symm⟩
theorem begs_cons (a : Arr) (t : List Arr) (x : Str) : begs (a :: t) x = begs t x + (if a.2.1 = x then 1 else 0) := by
  unfold begs
  rw [List.countP_cons]
  by_cases h : a.2.1 = x
  · rw [if_pos h, if_pos (decide_eq_true h)]
  · rw [if_neg h, if_neg (by rw [decide_eq_false h]; exact Bool.false_ne_true)]
theorem ends_cons (a : Arr) (t : List Arr) (x : Str) : ends (a :: t) x = ends t x + (if a.2.2 = x then 1 else 0) := by
  unfold ends
  rw [List.countP_cons]
  by_cases h : a.2.2 = x
  · rw [if_pos h, if_pos (decide_eq_true h)]
  · rw [if_neg h, if_neg (by rw [decide_eq_false h]; exact Bool.false_ne_true)]
theorem begs_pos {t : List Arr} {x : Str} (h : 0 < begs t x) : ∃ a ∈ t, a.2.1 = x := by
  obtain ⟨a, h1, h2⟩ := List.countP_pos_iff.mp h
  exact ⟨a, h1, of_decide_eq_true h2⟩
theorem begs_mem {t : List Arr} {a : Arr} (h : a ∈ t) : 0 < begs t a.2.1 := List.countP_pos_iff.mpr ⟨a, h, decide_eq_true rfl⟩
theorem ends_mem {t : List Arr} {a : Arr} (h : a ∈ t) : 0 < ends t a.2.2 := List.countP_pos_iff.mpr ⟨a, h, decide_eq_true rfl⟩
theorem Path.count : ∀ {t : List Arr} {p q : Str} (h : Path p t q) (x : Str), begs t x + (if q = x then 1 else 0) = ends t x + (if p = x then 1 else 0)
  | [], p, q, h, x => by cases (show p = q from h); rfl
  | a :: t, p, q, h, x => by
    have ih := Path.count h.2 x
    rw [begs_cons, ends_cons, h.1]
    omega
/-- taken round: closed; what is left is balanced -/
theorem took_round {n : Nat} {l : List Arr} {p : Str} (hn : l.length ≤ n) (bal : Bal l) : Path p (took n l p).1 p ∧ Bal (took n l p).2 ∧ ((took n l p).1 ++ (took n l p).2).Perm l ∧ fromA (took n l p).2 p = none := by
  obtain ⟨q, h1, h2, h3⟩ := took_ok n l p hn
  generalize took n l p = r at h1 h2 h3
  have bl := fun x => (bal.perm h3) x
  have key : q = p := by
    by_cases e : p = q
    · exact e.symm
    · have c := h1.count q
      have b := bl q
      rw [begs_app, ends_app] at b
      rw [if_pos rfl, if_neg e] at c
      obtain ⟨a, ha, e2⟩ := begs_pos (t := r.2) (x := q) (by omega)
      exact absurd e2 (fromA_none h2 a ha)
  subst key
  refine ⟨h1, fun x => ?_, h3, h2⟩
  have c := h1.count x
  have b := bl x
  rw [begs_app, ends_app] at b
  omega
/-- a first arrow is taken when there is one -/
theorem took_ne {n : Nat} {l : List Arr} {p : Str} (hn : l.length ≤ n) (h : (fromA l p).isSome = true) : (took n l p).1 ≠ [] := by
  cases n with
  | zero =>
    have : l = [] := List.length_eq_zero_iff.mp (by omega)
    subst this
    cases h
  | succ n =>
    unfold took
    cases e : fromA l p with
    | none => rw [e] at h; cases h
    | some a => exact fun z => nomatch z
/-- the first arrow of the trail where one of l begins -/
def openA (t l : List Arr) : Nat := (t.findIdx? fun a => (fromA l a.2.1).isSome).getD 0
def trailG : Nat → List Arr → List Arr → List Arr
  | 0, t, _ => t
  | n + 1, t, l => if l.length = 0 then t else
    trailG n (t.take (openA t l) ++ (took l.length l ((t[openA t l]?).map (·.2.1)).get!).1 ++ t.drop (openA t l)) (took l.length l ((t[openA t l]?).map (·.2.1)).get!).2
/-- the arrows share a place -/
def touchA (a b : Arr) : Prop := a.2.1 = b.2.1 ∨ a.2.1 = b.2.2 ∨ a.2.2 = b.2.1 ∨ a.2.2 = b.2.2
def Conn (P : List Arr) : Prop := ∀ A B : List Arr, (A ++ B).Perm P → A ≠ [] → B ≠ [] → ∃ a ∈ A, ∃ b ∈ B, touchA a b
theorem Path.begs {t : List Arr} {p : Str} (h : Path p t p) (ne : t ≠ []) {a : Arr} (ha : a ∈ t) {x : Str} (hx : a.2.1 = x ∨ a.2.2 = x) : ∃ b ∈ t, b.2.1 = x := by
  rcases hx with e | e
  · exact ⟨a, ha, e⟩
  · have c := h.count x
    have := ends_mem ha
    rw [e] at this
    exact begs_pos (by omega)
theorem Bal.begs {l : List Arr} (h : Bal l) {a : Arr} (ha : a ∈ l) {x : Str} (hx : a.2.1 = x ∨ a.2.2 = x) : (fromA l x).isSome = true := by
  have : ∃ b ∈ l, b.2.1 = x := by
    rcases hx with e | e
    · exact ⟨a, ha, e⟩
    · have := ends_mem ha
      rw [e, ← h x] at this
      exact begs_pos this
  obtain ⟨b, hb, rfl⟩ := this
  exact fromA_is hb
theorem open_hit {P t l : List Arr} {p : Str} (cn : Conn P) (pm : (t ++ l).Perm P) (bal : Bal l) (h : Path p t p) (nt : t ≠ []) (nl : l ≠ []) :
    ∃ a, t[openA t l]? = some a ∧ (fromA l a.2.1).isSome = true := by
  obtain ⟨a, ha, b, hb, tch⟩ := cn t l pm nt nl
  obtain ⟨x, h1, h2⟩ : ∃ x, (a.2.1 = x ∨ a.2.2 = x) ∧ (b.2.1 = x ∨ b.2.2 = x) := by
    rcases tch with e | e | e | e
    · exact ⟨_, .inl e, .inl rfl⟩
    · exact ⟨_, .inl e, .inr rfl⟩
    · exact ⟨_, .inr e, .inl rfl⟩
    · exact ⟨_, .inr e, .inr rfl⟩
  obtain ⟨c, hc, e⟩ := h.begs nt ha h1
  have hs := bal.begs hb h2
  have hex : ∃ c ∈ t, (fun a : Arr => (fromA l a.2.1).isSome) c = true := ⟨c, hc, by show (fromA l c.2.1).isSome = true; rw [e]; exact hs⟩
  unfold openA
  cases q : t.findIdx? fun a => (fromA l a.2.1).isSome with
  | none =>
    obtain ⟨c, hc, e⟩ := hex
    have := List.findIdx?_eq_none_iff.mp q c hc
    exact absurd (e.symm.trans this) (by decide)
  | some i =>
    obtain ⟨h1, h2⟩ := List.findIdx?_eq_some_iff_getElem.mp q
    exact ⟨t[i], List.getElem?_eq_getElem h1, h2.1⟩
theorem trailG_ok {P : List Arr} (cn : Conn P) {p : Str} : ∀ (n : Nat) (t l : List Arr), l.length ≤ n → (t ++ l).Perm P → Bal l → Path p t p → t ≠ [] → Path p (trailG n t l) p ∧ (trailG n t l).Perm P
  | 0, t, l, hn, pm, _, h, _ => by
    have : l = [] := List.length_eq_zero_iff.mp (by omega)
    subst this
    rw [List.append_nil] at pm
    exact ⟨h, pm⟩
  | n + 1, t, l, hn, pm, bal, h, nt => by
    unfold trailG
    by_cases e : l.length = 0
    · rw [if_pos e]
      have : l = [] := List.length_eq_zero_iff.mp e
      subst this
      rw [List.append_nil] at pm
      exact ⟨h, pm⟩
    · rw [if_neg e]
      have nl : l ≠ [] := fun z => e (by rw [z]; rfl)
      obtain ⟨a, h1, h2⟩ := open_hit cn pm bal h nt nl
      rw [h1]
      show Path p (trailG n (t.take (openA t l) ++ (took l.length l a.2.1).1 ++ t.drop (openA t l)) (took l.length l a.2.1).2) p ∧ (trailG n (t.take (openA t l) ++ (took l.length l a.2.1).1 ++ t.drop (openA t l)) (took l.length l a.2.1).2).Perm P
      obtain ⟨k1, k2, k3, _⟩ := took_round (Nat.le_refl l.length) (p := a.2.1) bal
      have k4 := took_ne (Nat.le_refl l.length) h2
      generalize took l.length l a.2.1 = r at k1 k2 k3 k4
      generalize openA t l = i at h1
      have hl := k3.length_eq
      rw [List.length_append] at hl
      have hr := List.length_pos_iff.mpr k4
      have ht : t.take i ++ t.drop i = t := List.take_append_drop i t
      have hd : t.drop i = a :: t.drop (i + 1) := by
        obtain ⟨hi, e⟩ := List.getElem?_eq_some_iff.mp h1
        rw [← e]
        exact List.drop_eq_getElem_cons hi
      have hp := h
      rw [← ht] at hp
      obtain ⟨x, p1, p2⟩ := hp.split
      have hx : a.2.1 = x := by rw [hd] at p2; exact p2.1
      subst hx
      refine trailG_ok cn n _ _ (by omega) ?_ k2 ((p1.app k1).app p2) fun z => ?_
      · have q1 : (t.take i ++ r.1 ++ t.drop i ++ r.2).Perm ((t.take i ++ t.drop i) ++ (r.1 ++ r.2)) := by
          rw [List.append_assoc, List.append_assoc, List.append_assoc]
          refine List.Perm.append_left _ ?_
          rw [← List.append_assoc, ← List.append_assoc]
          exact List.Perm.append_right _ List.perm_append_comm
        rw [ht] at q1
        exact q1.trans ((List.Perm.append_left t k3).trans pm)
      · have := congrArg List.length z
        rw [List.length_append, List.length_append] at this
        simp only [List.length_nil] at this
        omega
theorem Path.ends : ∀ {t : List Arr} {a : Arr} {p q : Str}, Path p (a :: t) q → (a :: t).map (·.2.2) = t.map (·.2.1) ++ [q]
  | [], a, p, q, h => by
    have : a.2.2 = q := h.2
    rw [List.map_cons, this]; rfl
  | b :: t, a, p, q, h => by
    have ih := Path.ends h.2
    have e : b.2.1 = a.2.2 := h.2.1
    rw [List.map_cons, ih, List.map_cons, e]; rfl
theorem Path.closed {t : List Arr} {p : Str} (h : Path p t p) (ne : t ≠ []) : Closed t := by
  refine ⟨ne, ?_⟩
  cases t with
  | nil => exact absurd rfl ne
  | cons a t =>
    rw [h.ends, List.map_cons, List.drop_succ_cons, List.drop_zero, List.take_succ_cons, List.take_zero, show a.2.1 = p from h.1]
theorem Path.trail {rows t : List Arr} {p : Str} (h : Path p t p) (ne : t ≠ []) (sub : ∀ a ∈ t, a ∈ rows) (nd : (t.map (·.1)).Nodup) : TrailP rows false t :=
  ⟨sub, nd, (closed_iff ne).mp (h.closed ne), (fun z => nomatch z), ne⟩
/-- the trail of a part -/
def trailOf (P : List Arr) : List Arr := match P with
  | [] => []
  | a :: P' => trailG (a :: P').length (took (a :: P').length (a :: P') a.2.1).1 (took (a :: P').length (a :: P') a.2.1).2
theorem trailOf_ok {P : List Arr} (cn : Conn P) (bal : Bal P) (ne : P ≠ []) (nd : (P.map (·.1)).Nodup) : TrailP P false (trailOf P) ∧ (trailOf P).Perm P := by
  cases P with
  | nil => exact absurd rfl ne
  | cons a P' =>
    show TrailP _ false (trailG _ _ _) ∧ (trailG _ _ _).Perm _
    generalize hP : a :: P' = P at *
    obtain ⟨k1, k2, k3, _⟩ := took_round (Nat.le_refl P.length) (p := a.2.1) bal
    have k4 := took_ne (Nat.le_refl P.length) (p := a.2.1) (fromA_is (by rw [← hP]; exact List.mem_cons_self))
    have hl := k3.length_eq
    rw [List.length_append] at hl
    obtain ⟨h1, h2⟩ := trailG_ok cn P.length _ _ (by omega) k3 k2 k1 k4
    generalize trailG P.length _ _ = t at h1 h2
    refine ⟨h1.trail (fun z => ?_) (fun b hb => h2.mem_iff.mp hb) ((h2.map (·.1)).nodup_iff.mpr nd), h2⟩
    rw [z] at h2
    exact ne h2.symm.eq_nil
/-! ### parts -/
structure PartsP (rows : List Arr) (gs : List (List Arr)) : Prop where
  perm : gs.flatten.Perm rows
  conn : ∀ g ∈ gs, Conn g ∧ g ≠ []
  apart : gs.Pairwise (fun g h => ∀ a ∈ g, ∀ b ∈ h, ¬ touchA a b)
  srt : ∀ g ∈ gs, g.Pairwise (fun a b => leS a.1 b.1)
  ord : gs.Pairwise (fun g h => ∀ a b, g.head? = some a → h.head? = some b → leS a.1 b.1)
theorem touchA.symm {a b : Arr} (h : touchA a b) : touchA b a := by
  rcases h with e | e | e | e
  · exact .inl e.symm
  · exact .inr (.inr (.inl e.symm))
  · exact .inr (.inl e.symm)
  · exact .inr (.inr (.inr e.symm))
theorem touchA.refl (a : Arr) : touchA a a := .inl rfl
theorem PartsP.far {rows : List Arr} {gs : List (List Arr)} (h : PartsP rows gs) {g k : List Arr} (hg : g ∈ gs) (hk : k ∈ gs) {a b : Arr} (ha : a ∈ g) (hb : b ∈ k) (t : touchA a b) : g = k := by
  obtain ⟨i, hi, rfl⟩ := List.mem_iff_getElem.mp hg
  obtain ⟨j, hj, rfl⟩ := List.mem_iff_getElem.mp hk
  have ap := List.pairwise_iff_getElem.mp h.apart
  by_cases q : i = j
  · subst q; rfl
  · rcases Nat.lt_or_gt_of_ne q with z | z
    · exact absurd t (ap i j hi hj z a ha b hb)
    · exact absurd t.symm (ap j i hj hi z b hb a ha)
theorem Conn.within {g : List Arr} (cn : Conn g) (S : List Arr) {a : Arr} (ha : a ∈ g) (hs : a ∈ S) (h : ∀ x ∈ g, ∀ y ∈ g, x ∈ S → touchA x y → y ∈ S) : ∀ y ∈ g, y ∈ S := fun y hy => by
  by_cases q : y ∈ S
  · exact q
  · have pm := List.filter_append_perm (fun x => decide (x ∈ S)) g
    obtain ⟨u, hu, v, hv, t⟩ := cn _ _ pm (fun z => by
      have : a ∈ g.filter (fun x => decide (x ∈ S)) := List.mem_filter.mpr ⟨ha, decide_eq_true hs⟩
      rw [z] at this; cases this) (fun z => by
      have : y ∈ g.filter (fun x => !decide (x ∈ S)) := List.mem_filter.mpr ⟨hy, by rw [decide_eq_false q]; rfl⟩
      rw [z] at this; cases this)
    obtain ⟨u1, u2⟩ := List.mem_filter.mp hu
    obtain ⟨v1, v2⟩ := List.mem_filter.mp hv
    have := h u u1 v v1 (of_decide_eq_true u2) t
    rw [decide_eq_true this] at v2
    cases v2
theorem PartsP.sub {rows : List Arr} {gs ks : List (List Arr)} (h : PartsP rows gs) (k : PartsP rows ks) {g m : List Arr} (hg : g ∈ gs) (hm : m ∈ ks) {a : Arr} (ha : a ∈ g) (hb : a ∈ m) : ∀ y ∈ g, y ∈ m :=
  (h.conn g hg).1.within m ha hb fun x hx y hy hxm t => by
    have : y ∈ ks.flatten := k.perm.mem_iff.mpr (h.perm.mem_iff.mp (List.mem_flatten.mpr ⟨g, hg, hy⟩))
    obtain ⟨n, hn, hyn⟩ := List.mem_flatten.mp this
    rw [k.far hm hn hxm hyn t]
    exact hyn
theorem uniq_by {α : Type} {le : α → α → Prop} : ∀ {xs ys : List α}, xs.Perm ys → xs.Pairwise le → ys.Pairwise le → (∀ a ∈ xs, ∀ b ∈ xs, le a b → le b a → a = b) → xs = ys
  | [], ys, p, _, _, _ => p.symm.eq_nil.symm
  | x :: xs, [], p, _, _, _ => absurd p.eq_nil (by simp)
  | x :: xs, y :: ys, p, hx, hy, anti => by
    have hx' := List.pairwise_cons.mp hx
    have hy' := List.pairwise_cons.mp hy
    have e : x = y := by
      rcases List.mem_cons.mp (p.mem_iff.mp (List.mem_cons_self (a := x) (l := xs))) with z | z
      · exact z
      · rcases List.mem_cons.mp (p.mem_iff.mpr (List.mem_cons_self (a := y) (l := ys))) with w | w
        · exact w.symm
        · exact anti x List.mem_cons_self y (List.mem_cons_of_mem _ w) (hx'.1 y w) (hy'.1 x z)
    subst e
    rw [uniq_by (List.Perm.cons_inv p) hx'.2 hy'.2 fun a ha b hb => anti a (List.mem_cons_of_mem _ ha) b (List.mem_cons_of_mem _ hb)]
theorem leS_anti {a b : Str} (h1 : leS a b) (h2 : leS b a) : a = b := by
  rcases ltK_tot (a := (.inr b : Key)) (b := .inr a) h2 with z | z
  · exact (Sum.inr.inj z).symm
  · rw [show ltK (.inr b) (.inr a) = false from h1] at z; cases z
theorem nodup_of_flatten {α : Type} {gs : List (List α)} (h : gs.flatten.Nodup) (ne : ∀ g ∈ gs, g ≠ []) : gs.Nodup ∧ ∀ g ∈ gs, g.Nodup := by
  induction gs with
  | nil => exact ⟨List.nodup_nil, fun _ h => by cases h⟩
  | cons g gs ih =>
    rw [List.flatten_cons, List.nodup_append] at h
    obtain ⟨h1, h2, h3⟩ := h
    obtain ⟨i1, i2⟩ := ih h2 fun k hk => ne k (List.mem_cons_of_mem _ hk)
    refine ⟨List.nodup_cons.mpr ⟨fun z => ?_, i1⟩, fun k hk => ?_⟩
    · obtain ⟨a, ha⟩ := List.exists_mem_of_ne_nil g (ne g List.mem_cons_self)
      exact h3 a ha a (List.mem_flatten.mpr ⟨g, z, ha⟩) rfl
    · rcases List.mem_cons.mp hk with z | z
      · rw [z]; exact h1
      · exact i2 k z
theorem parts_uniq {rows : List Arr} (nd : (rows.map (·.1)).Nodup) {gs ks : List (List Arr)} (h : PartsP rows gs) (k : PartsP rows ks) : gs = ks := by
  have ndr : rows.Nodup := List.Pairwise.of_map _ (fun a b h e => h (by rw [e])) nd
  have one : ∀ {gs ks : List (List Arr)}, PartsP rows gs → PartsP rows ks → ∀ g ∈ gs, g ∈ ks := fun {gs ks} h k g hg => by
    obtain ⟨a, ha⟩ := List.exists_mem_of_ne_nil g (h.conn g hg).2
    have : a ∈ ks.flatten := k.perm.mem_iff.mpr (h.perm.mem_iff.mp (List.mem_flatten.mpr ⟨g, hg, ha⟩))
    obtain ⟨m, hm, hb⟩ := List.mem_flatten.mp this
    have s1 := h.sub k hg hm ha hb
    have s2 := k.sub h hm hg hb ha
    have n1 := (nodup_of_flatten (h.perm.nodup_iff.mpr ndr) fun g hg => (h.conn g hg).2).2 g hg
    have n2 := (nodup_of_flatten (k.perm.nodup_iff.mpr ndr) fun g hg => (k.conn g hg).2).2 m hm
    have pm : g.Perm m := (List.perm_ext_iff_of_nodup n1 n2).mpr fun x => ⟨s1 x, s2 x⟩
    have sub : ∀ x ∈ g, x ∈ rows := fun x hx => h.perm.mem_iff.mp (List.mem_flatten.mpr ⟨g, hg, hx⟩)
    have : g = m := uniq_by pm (h.srt g hg) (k.srt m hm) fun a ha b hb l1 l2 => by
      have e := leS_anti l1 l2
      obtain ⟨i, hi, e1⟩ := List.mem_iff_getElem.mp (sub a ha)
      obtain ⟨j, hj, e2⟩ := List.mem_iff_getElem.mp (sub b hb)
      have := nodup_at (f := fun x : Arr => x.1) nd (List.getElem?_eq_getElem hi) (List.getElem?_eq_getElem hj) (by rw [e1, e2]; exact e)
      subst this
      rw [← e1, ← e2]
    rw [this]; exact hm
  have n1 := (nodup_of_flatten (h.perm.nodup_iff.mpr ndr) fun g hg => (h.conn g hg).2).1
  have n2 := (nodup_of_flatten (k.perm.nodup_iff.mpr ndr) fun g hg => (k.conn g hg).2).1
  refine uniq_by ((List.perm_ext_iff_of_nodup n1 n2).mpr fun g => ⟨one h k g, one k h g⟩) h.ord k.ord fun g hg m hm l1 l2 => ?_
  obtain ⟨a, ha⟩ : ∃ a, g.head? = some a := by
    cases g with
    | nil => exact absurd rfl (h.conn _ hg).2
    | cons a g => exact ⟨a, rfl⟩
  obtain ⟨b, hb⟩ : ∃ b, m.head? = some b := by
    cases m with
    | nil => exact absurd rfl (h.conn _ hm).2
    | cons a g => exact ⟨a, rfl⟩
  have e := leS_anti (l1 a b ha hb) (l2 b a hb ha)
  have ma := List.mem_of_mem_head? (by rw [ha]; rfl : a ∈ g.head?)
  have mb := List.mem_of_mem_head? (by rw [hb]; rfl : b ∈ m.head?)
  obtain ⟨i, hi, e1⟩ := List.mem_iff_getElem.mp (h.perm.mem_iff.mp (List.mem_flatten.mpr ⟨g, hg, ma⟩))
  obtain ⟨j, hj, e2⟩ := List.mem_iff_getElem.mp (h.perm.mem_iff.mp (List.mem_flatten.mpr ⟨m, hm, mb⟩))
  have := nodup_at (f := fun x : Arr => x.1) nd (List.getElem?_eq_getElem hi) (List.getElem?_eq_getElem hj) (by rw [e1, e2]; exact e)
  subst this
  have eab : a = b := by rw [← e1, ← e2]
  subst eab
  exact h.far hg hm ma mb (touchA.refl a)
theorem Conn.perm {P Q : List Arr} (h : Conn P) (p : Q.Perm P) : Conn Q := fun A B pm => h A B (pm.trans p)
theorem conn_one (a : Arr) : Conn [a] := fun A B pm na nb => by
  have := pm.length_eq
  have h1 := List.length_pos_iff.mpr na
  have h2 := List.length_pos_iff.mpr nb
  rw [List.length_append, List.length_singleton] at this
  omega
theorem conn_merge {a : Arr} {gs : List (List Arr)} (h : ∀ g ∈ gs, Conn g ∧ ∃ b ∈ g, touchA a b) : Conn (a :: gs.flatten) := fun A B pm na nb => by
  apply Classical.byContradiction
  intro no
  have far : ∀ x ∈ A, ∀ y ∈ B, ¬ touchA x y := fun x hx y hy t => no ⟨x, hx, y, hy, t⟩
  have split : ∀ y, y ∈ a :: gs.flatten → y ∈ A ∨ y ∈ B := fun y hy => List.mem_append.mp (pm.mem_iff.mpr hy)
  have key : ∀ S T : List Arr, (∀ y, y ∈ a :: gs.flatten → y ∈ S ∨ y ∈ T) → (∀ x ∈ S, ∀ y ∈ T, ¬ touchA x y) → a ∈ S → ∀ y ∈ T, y ∈ a :: gs.flatten → False := fun S T sp fr haS y hyT hy => by
    rcases List.mem_cons.mp hy with z | z
    · subst z
      exact fr _ haS _ hyT (touchA.refl _)
    · obtain ⟨g, hg, hyg⟩ := List.mem_flatten.mp z
      obtain ⟨cn, b, hb, t⟩ := h g hg
      have mem : ∀ x ∈ g, x ∈ a :: gs.flatten := fun x hx => List.mem_cons_of_mem _ (List.mem_flatten.mpr ⟨g, hg, hx⟩)
      have hbS : b ∈ S := by
        rcases sp b (mem b hb) with w | w
        · exact w
        · exact absurd t (fr a haS b w)
      have := cn.within S hb hbS (fun x hx y hy hxs t => by
        rcases sp y (mem y hy) with w | w
        · exact w
        · exact absurd t (fr x hxs y w)) y hyg
      exact fr y this y hyT (touchA.refl y)
  rcases split a List.mem_cons_self with z | z
  · obtain ⟨y, hy⟩ := List.exists_mem_of_ne_nil B nb
    exact key A B split far z y hy (pm.mem_iff.mp (List.mem_append_right _ hy))
  · obtain ⟨y, hy⟩ := List.exists_mem_of_ne_nil A na
    exact key B A (fun y hy => (split y hy).symm) (fun x hx y hy t => far y hy x hx t.symm) z y hy (pm.mem_iff.mp (List.mem_append_left _ hy))
/-! ### groups, made one row after the other -/
structure GroupsP (rows : List Arr) (gs : List (List Arr)) : Prop where
  perm : gs.flatten.Perm rows
  conn : ∀ g ∈ gs, Conn g ∧ g ≠ []
  apart : gs.Pairwise fun g h => ∀ a ∈ g, ∀ b ∈ h, ¬ touchA a b
def touchD (a b : Arr) : Bool := decide (a.2.1 = b.2.1) || decide (a.2.1 = b.2.2) || (decide (a.2.2 = b.2.1) || decide (a.2.2 = b.2.2))
theorem touchD_iff {a b : Arr} : touchD a b = true ↔ touchA a b := by
  unfold touchD touchA
  simp only [Bool.or_eq_true, decide_eq_true_eq, or_assoc]
/-- the group touches the row -/
def touchG (g : List Arr) (a : Arr) : Bool := g.any fun b => touchD a b
theorem touchG_iff {g : List Arr} {a : Arr} : touchG g a = true ↔ ∃ b ∈ g, touchA a b := by
  unfold touchG
  rw [List.any_eq_true]
  constructor
  · rintro ⟨b, h1, h2⟩; exact ⟨b, h1, touchD_iff.mp h2⟩
  · rintro ⟨b, h1, h2⟩; exact ⟨b, h1, touchD_iff.mpr h2⟩
theorem perm_filter_split {α : Type} (p : α → Bool) : ∀ l : List (List α), ∀ q : List α → Bool, ((l.filter fun g => !q g).flatten ++ (l.filter q).flatten).Perm l.flatten
  | [], _ => List.Perm.refl _
  | g :: l, q => by
    have ih := perm_filter_split p l q
    cases h : q g with
    | true =>
      rw [List.filter_cons_of_neg (by rw [h]; decide), List.filter_cons_of_pos h, List.flatten_cons, List.flatten_cons]
      refine List.Perm.trans ?_ (List.Perm.append_left g ih)
      rw [← List.append_assoc, ← List.append_assoc]
      exact List.Perm.append_right _ List.perm_append_comm
    | false =>
      rw [List.filter_cons_of_pos (by rw [h]; rfl), List.filter_cons_of_neg (by rw [h]; decide), List.flatten_cons, List.flatten_cons, List.append_assoc]
      exact List.Perm.append_left g ih
theorem GroupsP.step {rows : List Arr} {gs : List (List Arr)} (h : GroupsP rows gs) (a : Arr) : GroupsP (rows ++ [a]) ((gs.filter fun g => !touchG g a) ++ [a :: (gs.filter fun g => touchG g a).flatten]) := by
  refine ⟨?_, fun g hg => ?_, ?_⟩
  · rw [List.flatten_append, List.flatten_cons, List.flatten_nil, List.append_nil]
    have h1 := (perm_filter_split (fun _ : Arr => true) gs fun g => touchG g a).trans h.perm
    refine List.Perm.trans List.perm_middle ?_
    exact (h1.cons a).trans (List.perm_append_singleton a rows).symm
  · rcases List.mem_append.mp hg with z | z
    · exact h.conn g (List.mem_filter.mp z).1
    · rw [List.mem_singleton.mp z]
      exact ⟨conn_merge fun k hk => ⟨(h.conn k (List.mem_filter.mp hk).1).1, touchG_iff.mp (List.mem_filter.mp hk).2⟩, fun z => nomatch z⟩
  · rw [List.pairwise_append]
    refine ⟨h.apart.sublist List.filter_sublist, List.pairwise_singleton _ _, fun g hg m hm x hx y hy t => ?_⟩
    rw [List.mem_singleton.mp hm] at hy
    obtain ⟨g1, g2⟩ := List.mem_filter.mp hg
    have g3 : touchG g a = false := by simpa using g2
    rcases List.mem_cons.mp hy with z | z
    · subst z
      rw [touchG_iff.mpr ⟨x, hx, t.symm⟩] at g3
      cases g3
    · obtain ⟨k, hk, hyk⟩ := List.mem_flatten.mp z
      obtain ⟨k1, k2⟩ := List.mem_filter.mp hk
      have ne : g ≠ k := fun e => by rw [e, k2] at g3; cases g3
      obtain ⟨i, hi, e1⟩ := List.mem_iff_getElem.mp g1
      obtain ⟨j, hj, e2⟩ := List.mem_iff_getElem.mp k1
      have ap := List.pairwise_iff_getElem.mp h.apart
      rcases Nat.lt_trichotomy i j with q | q | q
      · exact ap i j hi hj q x (by rw [e1]; exact hx) y (by rw [e2]; exact hyk) t
      · subst q; exact ne (e1.symm.trans e2)
      · exact ap j i hj hi q y (by rw [e2]; exact hyk) x (by rw [e1]; exact hx) t.symm
end NW

/-! NwRm: list.remove of data. -/
namespace PySem.SeqAt
open AutoSeq1 (wpAny_loadPart')
open MeetsSeq MeetsSeq2 MeetsSeq3 SeqRoads2 PySem.F
theorem remove_loopAt (l : Addr) (items : Array Value) (n : Nat) (x : Value) (e : Value → Bool) (j : Nat) (hj : j < items.size) (hit : e items[j] = true) (k : Nat) (hs1 : items.size ≤ sizeLine) :
    ∀ i : Nat, j - i = k → i ≤ j → (∀ m (hm : m < items.size), i ≤ m → m < j → e items[m] = false) → Meets (Builtin.«list.remove.loop» ⟨[.ref l, x, rawInt i], []⟩)
      (fun A R s => s.heap.get? l = some { cls := .type "list", dict := none, data := .seq items n, slots := #[] } ∧ (∀ y, y ∈ items → EqAt A.in1 s y x (e y)) ∧ R (.ok (.ret .none)) { s with heap := s.heap.update l (Obj.mapSeq fun xs => xs.eraseIdxIfInBounds j) }) := by
  induction k with
  | zero =>
    intro i hk hij hno prog w A R s h
    obtain ⟨hp, g, d, tk, os⟩ := s; obtain ⟨hl, he, h⟩ := h
    have hij' : i = j := by omega
    subst hij'
    wp_walk using wpAny_loadPart' hl
    have hi : items[((i : Nat) : Int).toNat]? = some items[i] := by simp [hj]
    rw [hi]
    refine wpAny_bind (he _ (Array.getElem_mem hj) prog w _ _ ?_)
    rw [hit]
    have hz' : (items.eraseIdxIfInBounds i).size ≤ sizeLine + 1 := Nat.le_trans (size_erased items _) (Nat.le_succ_of_le hs1)
    wp_walk using (wpAny_updateSeq hl rfl (hz := hs1) (_hz' := hz')), wpAny_loadPart' hl
    simpa using h
  | succ k ih =>
    intro i hk hij hno prog w A R s h
    obtain ⟨hp, g, d, tk, os⟩ := s; obtain ⟨hl, he, h⟩ := h
    have hlt : i < items.size := by omega
    wp_walk using wpAny_loadPart' hl
    have hi : items[((i : Nat) : Int).toNat]? = some items[i] := by simp [hlt]
    have hc : ((i : Int) + 1) = ((i + 1 : Nat) : Int) := by push_cast; rfl
    rw [hi]
    refine wpAny_bind (he _ (Array.getElem_mem hlt) prog w _ _ ?_)
    rw [hno i hlt (Nat.le_refl _) (by omega)]
    wp_walk
    rw [hc]
    exact ⟨plainId_quiet plain_remove_loop _, codeAny_builtin entry_remove_loop (by
      rw [Around.under_plainId plain_remove_loop _]
      exact ih (i + 1) (by omega) (by omega) (fun m hm h1 h2 => hno m hm (by omega) h2) prog w A R _ ⟨hl, he, h⟩)⟩
theorem list_removeAt (l : Addr) (items : Array Value) (n : Nat) (x : Value) (e : Value → Bool) (j : Nat) (hj : j < items.size) (hit : e items[j] = true) (hno : ∀ m (hm : m < items.size), m < j → e items[m] = false) (hs1 : items.size ≤ sizeLine) :
    Meets (Builtin.«list.remove» ⟨[.ref l, x], []⟩)
      (fun A R s => s.heap.get? l = some { cls := .type "list", dict := none, data := .seq items n, slots := #[] } ∧ (∀ y, y ∈ items → EqAt A.in1 s y x (e y)) ∧ R (.ok (.ret .none)) { s with heap := s.heap.update l (Obj.mapSeq fun xs => xs.eraseIdxIfInBounds j) }) := by
  intro prog w A R s h
  obtain ⟨hp, g, d, tk, os⟩ := s; obtain ⟨hl, he, h⟩ := h
  wp_walk using wpAny_loadPart' hl
  exact ⟨plainId_quiet plain_remove_loop _, codeAny_builtin entry_remove_loop (by
    rw [Around.under_plainId plain_remove_loop _]
    exact remove_loopAt l items n x e j hj hit _ hs1 0 rfl (Nat.zero_le _) (fun m hm _ h2 => hno m hm h2) prog w A R _ ⟨hl, he, h⟩)⟩
end PySem.SeqAt
namespace NW
open PySem PySem.Spec PyProof.Rows L2
/-- l.remove(x): the first equal one goes -/
def rRemoveD (K : PySem.W.Frag) : V → List V → Hp → VK → Prop := fun x xs H Q => ∃ (a : Addr) (y : V) (d : PyData) (vs : List V) (ds : List PyData) (j : Nat) (z : PyData), x = V.ref a ∧ xs = [y] ∧ H a = some (.lst vs) ∧ DpAll K H vs ds ∧ Dp K H y d ∧
  SeqAt.shaped (.list ds) = true ∧ SeqAt.shaped d = true ∧ ds[j]? = some z ∧ PyData.eqv z d = true ∧ (∀ (m : Nat) (z' : PyData), m < j → ds[m]? = some z' → PyData.eqv z' d = false) ∧ Q .non (upd H a (.lst (vs.eraseIdx j)))
theorem mt_removeD {X : Cx} (hu : X.A.units + 65 < cLine) : MtM X "list.remove" (rRemoveD X.K) := by
  intro pins s σ H x xs v us Q I rx rxs h
  obtain ⟨a, y, d, vs, ds, j, z, rfl, rfl, hH, ha, hy, sl, sd, hz, hzj, hno, q⟩ := h
  cases rx
  obtain ⟨uy, rfl, ry⟩ := rxs.one
  obtain ⟨bs, r1⟩ := Dp.reads I d y uy hy ry
  have hxs : PyData.canLayAll0 ds = true := SeqAt.canLay_of_shaped sl
  have hroom : X.A.units + 1 + min (PyData.depthAll ds) d.depth < cLine := room_in_shaped sd hu
  obtain ⟨zz, its, n, rv, hl, e⟩ := I.lstM hH
  obtain ⟨as, h4⟩ := Dp.readsAll I ds _ its ha rv
  have hn : its.length = ds.length := SeqAt.ReadsAll.length ds its as h4
  have hmap : its.map (SeqAt.readOf s.heap) = ds := SeqAt.readsAll_map ds its as hxs h4
  have hvl := rv.length
  have hsl := sizeLine_eq
  obtain ⟨hjd, _⟩ := List.getElem?_eq_some_iff.mp hz
  have hjl : j < its.length := by omega
  have hj : j < its.toArray.size := by simpa using hjl
  have at_ : ∀ (m : Nat) (hm : m < its.toArray.size) (z' : PyData), ds[m]? = some z' → SeqAt.readOf s.heap its.toArray[m] = z' := by
    intro m hm z' hz'
    have hml : m < its.length := by simpa using hm
    rw [← hmap, List.getElem?_map, List.getElem?_eq_getElem hml] at hz'
    have e1 : SeqAt.readOf s.heap its[m] = z' := Option.some.inj (show some (SeqAt.readOf s.heap its[m]) = some z' from hz')
    simpa using e1
  refine call_meets PySem.F.slot_list_remove ⟨_, e, rfl⟩ PySem.F.entry_list_remove (PySem.F.args_list_remove_2 _ _)
    (SeqAt.list_removeAt a its.toArray n uy (fun u => PyData.eqv (SeqAt.readOf s.heap u) d) j hj ?_ ?_ (by rw [List.size_toArray]; omega)) ⟨e, SeqAt.items_eqAt (vs := its.toArray) (show ReadsAll s.heap its.toArray.toList ds as from h4) r1 hxs (SeqAt.canLay_of_shaped sd) hroom, ?_⟩
  · show PyData.eqv (SeqAt.readOf s.heap its.toArray[j]) d = true
    rw [at_ j hj z hz]
    exact hzj
  · intro m hm hmj
    have hmd : m < ds.length := by omega
    have hz' : ds[m]? = some ds[m] := List.getElem?_eq_getElem hmd
    show PyData.eqv (SeqAt.readOf s.heap its.toArray[m]) d = false
    rw [at_ m hm _ hz']
    exact hno m _ hmj hz'
  · refine ⟨.non, _, I.lset (its' := its.eraseIdx j) hH e ?_ (rv.eraseIdx j) ?_, rfl, q⟩
    · show its.toArray.eraseIdxIfInBounds j = (its.eraseIdx j).toArray
      rw [List.eraseIdxIfInBounds_toArray]
    · have := len_erase vs j
      omega
theorem first_in {α : Type} [BEq α] [LawfulBEq α] {x : α} : ∀ {l : List α}, x ∈ l → ∃ j, l[j]? = some x ∧ (∀ m, m < j → l[m]? ≠ some x) ∧ l.eraseIdx j = l.erase x
  | [], h => by cases h
  | y :: l, h => by
    by_cases e : y = x
    · subst e
      exact ⟨0, rfl, fun m hm => absurd hm (Nat.not_lt_zero m), by rw [List.erase_cons_head]; rfl⟩
    · have h' : x ∈ l := by
        rcases List.mem_cons.mp h with z | z
        · exact absurd z.symm e
        · exact z
      obtain ⟨j, h1, h2, h3⟩ := first_in h'
      refine ⟨j + 1, h1, fun m hm => ?_, ?_⟩
      · cases m with
        | zero => exact fun z => e (Option.some.inj z)
        | succ m => exact h2 m (by omega)
      · rw [List.erase_cons_tail (by simpa using e)]
        show y :: l.eraseIdx j = _
        rw [h3]
theorem eraseIdx_mapA {α β : Type} (f : α → β) : ∀ (l : List α) (j : Nat), (l.map f).eraseIdx j = (l.eraseIdx j).map f
  | [], j => by simp
  | a :: r, 0 => by simp
  | a :: r, j + 1 => by simp [eraseIdx_mapA f r j]
theorem pyA_map (l : List Arr) : pyA (l.map arrD) = l.map fun a => pyD (arrD a) := by
  induction l with
  | nil => rfl
  | cons a l ih => rw [List.map_cons, pyA, ih, List.map_cons]
section
variable {g : Gm} {X : List Addr} {Y : Hp} {σ : L2.St} {ρ : List Sl} {H H' : Hp} {te : TE} {E : DE}
theorem ds_remA {i : Nat} {a : Option Addr} {rows : List Arr} (e : ρ[i]? = some (.own a (rows.map arrD))) (ok : ArrsOk rows) (hz : rows.length ≤ 1000) (h : EvC g te ρ fun d => ∃ x : Arr, d = arrD x ∧ x ∈ rows ∧ E.nx (ρ.set i (.own a ((rows.erase x).map arrD)))) :
    DSt g (tDrop (tBM g.K "list" (rRemoveD g.K) (tVar i) (tCons te tNil))) ρ E := fun X Y σ H D R M => by
  obtain ⟨p, xs, h1, h2, r, ha⟩ := R.own e
  have sl : sizeLine = 16777216 := sizeLine_eq
  have rl := r.length
  rw [List.length_map] at rl
  refine ⟨_, h1, .inl ⟨rfl, xs, SqL.of h2⟩, ?_⟩
  refine h X Y σ H _ R fun d v H1 hd n1 r1 => ?_
  obtain ⟨x, rfl, hx, hn⟩ := hd
  have h2' := nx_own R n1 h1 e rfl h2
  have r2 := r.mn n1.hid
  obtain ⟨j, j1, j2, j3⟩ := first_in hx
  have so := shD_arrs ok
  have sx := shD_arr (ok x hx)
  have so1 : eqA (rows.map arrD) = true := by have := so.1; unfold eqD at this; exact this
  refine ⟨p, v, pyD (arrD x), xs, pyA (rows.map arrD), j, pyD (arrD x), rfl, rfl, h2', RpA.dp hide_same _ _ so1 r2, Rp.dp hide_same _ _ sx.1 r1, so.2, sx.2, ?_, ?_, fun m z' hm hz' => ?_, ?_⟩
  · rw [pyA_map, List.getElem?_map, j1]; rfl
  · rw [eqv_arr]; exact decide_eq_true rfl
  · rw [pyA_map, List.getElem?_map] at hz'
    obtain ⟨b, hb, rfl⟩ := Option.map_eq_some_iff.mp hz'
    rw [eqv_arr]
    exact decide_eq_false fun z => j2 m hm (by rw [hb, z])
  · have := (R.nx n1).write h1 e rfl rfl (.own ha upd_same (r2.erase j)) (o := .lst (xs.eraseIdx j))
    rw [eraseIdx_mapA, j3] at this
    exact M.nx _ _ _ hn this
end
end NW

/-! NwMu: a def changes the list that it is handed (its first argument) and tells a new list. -/
namespace NW
open PySem PySem.Spec PyProof.Rows L2
/-- T ds πs Φ: from a list ds, further arguments πs; Φ es ans: what the list is then, what is told -/
abbrev UT := List Dat → List Sl → (List Dat → List Dat → Prop) → Prop
/-- all that was tracked but p, the stores -/
structure NxU (g : Gm) (p : Addr) (H H' : Hp) : Prop where
  kp : ∀ b o, H b = some o → b ∉ g.pr → b ≠ p → H' b = some o
  st : StOk g H'
def spU (K : PySem.W.Frag) (T : UT) : Sp := fun vs H Q E => ∃ (st : List (Addr × Addr)) (X : List Addr) (p : Addr) (vs' : List V) (ds : List Dat) (πs : List Sl) (Φ : List Dat → List Dat → Prop), vs = .ref p :: vs' ∧
  RS ⟨K, st⟩ X (hide (p :: Gm.pr ⟨K, st⟩) H) (vs.map some) H (.own (some p) ds :: πs) ∧ T ds πs Φ ∧
  ∀ es ans q xs ys H', Φ es ans → NxU ⟨K, st⟩ p H H' → H q = none → H' p = some (.lst xs) → RpA K (hide (q :: p :: (X ++ Gm.pr ⟨K, st⟩)) H') xs es → H' q = some (.lst ys) → RpA K (hide (q :: p :: (X ++ Gm.pr ⟨K, st⟩)) H') ys ans → Q (.ref q) H'
section
variable {P : Program} {w : World} {K : PySem.W.Frag} {mg : Str → Option Value} {base : Heap} {x qual : Str} {params : Arguments} {body : List Stmt} {scope : Scope} {f : Addr} {fd : FuncData} {N ps : List Str} {k : Nat}
theorem fn_U {T : UT} (F : FunD K x qual params body scope [] [] f fd) (S : FnScope N ps scope) (hl : ∀ ds πs Φ, T ds πs Φ → πs.length + 1 = ps.length)
    (hb : ∀ (cdv : Value) (A : Around) (outer : List Env) (s : Shared) (H : Hp) (E : XK), Room k (A.deeper (envOfC qual scope s.heap.objs.size f cdv)) →
      ∃ t, PSs (cxOf CX0 P w K mg base N qual scope f cdv A outer s H E).nox body t ∧ ∀ st p ds πs Φ, T ds πs Φ → DSt ⟨K, st⟩ t (.own (some p) ds :: πs ++ List.replicate (N.length - ps.length) .no) { nx := fun _ => False, rt := fun d _ => False, rn := fun ans ρ' => noLA ans = true ∧ ∃ es, ρ'[0]? = some (.own (some p) es) ∧ noLA es = true ∧ Φ es ans }) :
    FnOk P w K mg base CX0 (k + 1) f fd ps (spU K T) := by
  have len : ∀ vs H Q E, spU K T vs H Q E → vs.length = ps.length := fun vs H Q E h => by
    obtain ⟨st, X, p, vs', ds, πs, Φ, _, R, hT, _⟩ := h
    rw [← hl _ _ _ hT]
    have := R.sl.len
    rw [List.length_map, List.length_cons] at this
    exact this
  refine F.ok S len fun cdv A outer s H vs Q E hr h => ?_
  obtain ⟨t, ht, hd⟩ := hb cdv A outer s H E hr
  refine ⟨t, PSs.nox ht, ?_⟩
  have lv := len vs H Q E h
  obtain ⟨st, X, p, vs', ds, πs, Φ, rfl, R, hT, hQ⟩ := h
  have R1 := R.pad (n := N.length - ps.length)
  rw [start_eq, lv]
  refine hd st p ds πs Φ hT X _ _ H _ R1 ⟨fun σ H' ρ' e R' => e.elim, fun d v σ H' ρ' e R' r => e.elim, fun ans q ys σ H' ρ' e R' hq nq hx r fx => ?_, fun _ _ _ e => e.elim, fun _ _ _ e => e.elim, fun s v σ H' ρ' e R' hn nd r => e.elim⟩
  obtain ⟨na, es, e0, ne, hΦ⟩ := e
  obtain ⟨p', xs, s0, hp, rx, ha⟩ := R'.own e0
  have ep := ha p rfl
  subst ep
  have qp : q ≠ p' := fx p' es (List.mem_of_getElem? e0)
  have qpr : q ∉ Gm.pr ⟨K, st⟩ := fun z => nq (List.mem_append_right _ z)
  have hq0 : H q = none := by
    rwa [hide_out (fun z => by
      rcases List.mem_cons.mp z with w | w
      · exact qp w
      · exact qpr w)] at hq
  have po := own_mem s0 e0 (p := p') (List.mem_singleton.mpr rfl)
  refine hQ es ans q xs ys H' hΦ ⟨fun b o eb nb nbp => R'.sy b o ((hide_out fun z => ?_).trans eb), R'.st⟩ hq0 hp ?_ hx ?_
  · rcases List.mem_cons.mp z with w | w
    · exact nbp w
    · exact nb w
  · have r1 : RpA K (hide (p' :: (X ++ Gm.pr ⟨K, st⟩)) H') xs es := rx.mn (hide_mono fun b hb => by
      rcases List.mem_cons.mp hb with w | w
      · exact List.mem_append_right _ (List.mem_append_right _ (w ▸ po))
      · rcases List.mem_append.mp w with w | w
        · exact List.mem_append_left _ w
        · exact List.mem_append_right _ (List.mem_append_left _ w))
    have L : LsAt [q] (hide (p' :: (X ++ Gm.pr ⟨K, st⟩)) H') := fun b hb => by
      rw [List.mem_singleton.mp hb, hide_out (fun z => by
        rcases List.mem_cons.mp z with w | w
        · exact qp w
        · exact nq w)]
      exact .inl ⟨ys, hx⟩
    have r2 := RpA.free L _ _ ne r1
    rw [hide_app] at r2
    exact r2
  · have L : LsAt [p'] (hide (q :: (X ++ Gm.pr ⟨K, st⟩)) H') := fun b hb => by
      rw [List.mem_singleton.mp hb, hide_out (fun z => by
        rcases List.mem_cons.mp z with w | w
        · exact qp w.symm
        · rcases List.mem_append.mp w with w | w
          · exact (R'.xd _ w).2 po
          · exact (R'.nw _ po).2 w)]
      exact .inl ⟨xs, hp⟩
    have r2 := RpA.free L _ _ na r
    rw [hide_app] at r2
    exact r2.mn (hide_mono fun b hb => by
      rcases List.mem_cons.mp hb with w | w
      · exact List.mem_cons_of_mem _ (w ▸ List.mem_cons_self)
      · rcases List.mem_cons.mp w with w | w
        · exact w ▸ List.mem_cons_self
        · exact List.mem_cons_of_mem _ (List.mem_cons_of_mem _ w))
end
section
variable {g : Gm} {X : List Addr} {Y : Hp} {σ : L2.St} {ρ : List Sl} {H H' : Hp} {te : TE} {tr : TA} {E : DE} {Ex : XK}
theorem call_rsU (R : RS g X Y σ H ρ) {i : Nat} {a : Option Addr} {ds : List Dat} {p : Addr} {xs : List V} (e : ρ[i]? = some (.own a ds)) (h1 : σ[i]? = some (some (.ref p))) (h2 : H p = some (.lst xs)) (rx : RpA g.K (hid g X σ ρ H) xs ds) {vs : List V} {πs : List Sl} (r : ArgOk g (hid g X σ ρ H) vs πs) :
    RS g (X ++ (owned σ ρ).filter fun b => !decide (b = p)) (hide (p :: g.pr) H) ((V.ref p :: vs).map some) H (.own (some p) ds :: πs) := by
  have po := own_mem h1 e (p := p) (List.mem_singleton.mpr rfl)
  have pw := R.nw p po
  have sub : ∀ b ∈ X ++ (owned σ ρ).filter (fun b => !decide (b = p)), b ∈ X ++ (g.pr ++ owned σ ρ) := fun b hb => by
    rcases List.mem_append.mp hb with z | z
    · exact List.mem_append_left _ z
    · exact List.mem_append_right _ (List.mem_append_right _ (List.mem_filter.mp z).1)
  have hO : ∀ b ∈ p :: (X ++ (owned σ ρ).filter fun b => !decide (b = p)), H b ≠ none := fun b hb => by
    rcases List.mem_cons.mp hb with z | z
    · rw [z, h2]; intro w; cases w
    · exact R.hd b (sub b z)
  have e0 : Same (hid g X σ ρ H) (hide ((p :: (X ++ (owned σ ρ).filter fun b => !decide (b = p))) ++ g.pr) H) := hide_mono fun b hb => by
    rcases List.mem_append.mp hb with z | z
    · rcases List.mem_cons.mp z with w | w
      · exact List.mem_append_right _ (List.mem_append_right _ (w ▸ po))
      · exact sub b w
    · exact pr_sub z
  obtain ⟨o1, o2⟩ := args_rs hO R.st (r.mn e0)
  have ow : owned ((V.ref p :: vs).map some) (.own (some p) ds :: πs) = [p] := by
    show [p] ++ owned (vs.map some) πs = [p]
    rw [o1]; rfl
  have e1 : Same (hid g X σ ρ H) (hid g (X ++ (owned σ ρ).filter fun b => !decide (b = p)) ((V.ref p :: vs).map some) (.own (some p) ds :: πs) H) := by
    show Same _ (hide (_ ++ (g.pr ++ owned _ _)) H)
    rw [ow]
    exact hide_mono fun b hb => by
      rcases List.mem_append.mp hb with z | z
      · exact sub b z
      · rcases List.mem_append.mp z with z | z
        · exact pr_sub z
        · rw [List.mem_singleton.mp z]; exact List.mem_append_right _ (List.mem_append_right _ po)
  have e2 : Same (hide ((p :: (X ++ (owned σ ρ).filter fun b => !decide (b = p))) ++ g.pr) H) (hid g (X ++ (owned σ ρ).filter fun b => !decide (b = p)) ((V.ref p :: vs).map some) (.own (some p) ds :: πs) H) := by
    show Same _ (hide (_ ++ (g.pr ++ owned _ _)) H)
    rw [ow]
    exact hide_mono fun b hb => by
      rcases List.mem_append.mp hb with z | z
      · exact List.mem_append_left _ (List.mem_cons_of_mem _ z)
      · rcases List.mem_append.mp z with z | z
        · exact List.mem_append_right _ z
        · rw [List.mem_singleton.mp z]; exact List.mem_append_left _ List.mem_cons_self
  refine ⟨by rw [ow]; exact List.nodup_cons.mpr ⟨(fun z => by cases z), List.nodup_nil⟩, .cons (.own (fun b hb => Option.some.inj hb) h2 (rx.mn e1)) (o2.mono e2 fun _ _ _ z => z), fun b o q => ⟨(hide_some q).2, fun z => (hide_some q).1 (List.mem_cons_of_mem _ z)⟩, fun q hq => ?_, fun b hb => ⟨hO b (List.mem_cons_of_mem _ hb), fun z => ?_⟩, R.st⟩
  · rw [ow] at hq
    rw [List.mem_singleton.mp hq]
    exact ⟨if_pos List.mem_cons_self, pw.2⟩
  · rw [ow] at z
    have := List.mem_singleton.mp z
    subst this
    rcases List.mem_append.mp hb with w | w
    · exact (R.xd _ w).2 po
    · have := (List.mem_filter.mp w).2
      simp at this
theorem ds_asgU {i j : Nat} {T : UT} {a : Option Addr} {ds : List Dat} (e : ρ[i]? = some (.own a ds)) (hij : j ≠ i) (h : EvP g tr ρ fun πs => T ds πs fun es ans => E.nx ((ρ.set j (.own none ans)).set i (.own a es))) :
    DSt g (tAsg (tCall (spU g.K T) [] Ex (tCons (tVar i) tr)) (gName j)) ρ E := fun X Y σ H D R M => by
  obtain ⟨p, xs, h1, h2, r, ha⟩ := R.own e
  refine ⟨_, h1, h X Y σ H _ R fun πs vs H1 hT n1 r1 => ?_⟩
  show spU g.K T ((V.ref p :: vs) ++ []) H1 _ Ex
  rw [List.append_nil]
  have R1 := R.nx n1
  have h2' := nx_own R n1 h1 e rfl h2
  have po := own_mem h1 e (p := p) (List.mem_singleton.mpr rfl)
  have pw := R.nw p po
  refine ⟨g.st, _, p, vs, ds, πs, _, rfl, call_rsU R1 e h1 h2' (r.mn n1.hid) r1, hT, fun es ans q xs2 ys H' hΦ nu hq hp rx hqx ry => ?_⟩
  have qn := R1.new hq
  have qp : q ≠ p := fun z => by rw [z, h2'] at hq; cases hq
  have big : ∀ b, b ∈ X ++ (g.pr ++ owned σ ρ) → b ∈ q :: p :: ((X ++ (owned σ ρ).filter fun b => !decide (b = p)) ++ g.pr) := fun b hb => by
    by_cases z : b = p
    · rw [z]; exact List.mem_cons_of_mem _ List.mem_cons_self
    · refine List.mem_cons_of_mem _ (List.mem_cons_of_mem _ ?_)
      rcases List.mem_append.mp hb with w | w
      · exact List.mem_append_left _ (List.mem_append_left _ w)
      · rcases List.mem_append.mp w with w | w
        · exact List.mem_append_right _ w
        · exact List.mem_append_left _ (List.mem_append_right _ (List.mem_filter.mpr ⟨w, by rw [decide_eq_false z]; rfl⟩))
  have ep : (X ++ (g.pr ++ owned σ ρ)) = X ++ (g.pr ++ owned σ ρ) := rfl
  have nx : Nx g H1 (upd H' p (.lst xs)) := ⟨fun b o eb nb => by
    by_cases z : b = p
    · rw [z] at eb ⊢
      rw [h2'] at eb
      rw [upd_same, ← eb]
    · rw [upd_ne z]
      exact nu.kp b o eb nb z, fun z hz => by
    obtain ⟨cs, i, lf, sm, seed, turn, k1, k2, k3⟩ := nu.st z hz
    exact ⟨cs, i, lf, sm, seed, turn, by rw [upd_ne (fun w => pw.2 (pr_mem.mpr ⟨z, hz, .inl w.symm⟩))]; exact k1, by rw [upd_ne (fun w => pw.2 (pr_mem.mpr ⟨z, hz, .inr w.symm⟩))]; exact k2, k3⟩⟩
  have sm1 : Same (hide (q :: p :: ((X ++ (owned σ ρ).filter fun b => !decide (b = p)) ++ g.pr)) H') (hide ([q] ++ (X ++ (g.pr ++ owned σ ρ))) (upd H' p (.lst xs))) := fun b o eb => by
    obtain ⟨k1, k2⟩ := hide_some eb
    have bp : b ≠ p := fun z => k1 (z ▸ List.mem_cons_of_mem _ List.mem_cons_self)
    rw [hide_out (fun z => by
      rcases List.mem_append.mp z with w | w
      · exact k1 (List.mem_singleton.mp w ▸ List.mem_cons_self)
      · exact k1 (big b w)), upd_ne bp]
    exact k2
  have R3 : RS g X Y (σ.set j (some (.ref q))) (upd H' p (.lst xs)) (ρ.set j (.own none ans)) := R1.setM [q] (fun z hz => by rw [List.mem_singleton.mp hz]; exact ⟨R1.yn hq, qn⟩) (fun _ z => z) (List.nodup_cons.mpr ⟨(fun z => by cases z), List.nodup_nil⟩) nx (.own (fun _ z => nomatch z) (by rw [upd_ne qp]; exact hqx) (ry.mn sm1)) fun b o eb => by
    obtain ⟨k1, k2⟩ := hide_some eb
    have bp : b ≠ p := fun z => k1 (List.mem_append_right _ (List.mem_append_right _ (z ▸ po)))
    have bq : b ≠ q := fun z => by rw [z, hq] at k2; cases k2
    rw [hide_out (fun z => by
      rcases List.mem_append.mp z with w | w
      · exact bq (List.mem_singleton.mp w)
      · exact k1 w), upd_ne bp]
    exact nu.kp b o k2 (fun z => k1 (pr_sub0 z)) bp
  have s3 : (σ.set j (some (V.ref q)))[i]? = some (some (.ref p)) := by rw [List.getElem?_set_ne hij]; exact h1
  have e3 : (ρ.set j (Sl.own none ans))[i]? = some (.own a ds) := by rw [List.getElem?_set_ne hij]; exact e
  refine M.nx _ H' _ hΦ (R3.regrow (x := some (.ref p)) (s := .own a ds) (t := .own a es) [] s3 e3 (fun _ z => nomatch z) (fun b o eb nb no => ?_) nu.st (fun z hz => .inr hz) (List.nodup_cons.mpr ⟨(fun z => by cases z), List.nodup_nil⟩) (.own ha hp (rx.mn (hide_mono fun b hb => ?_))))
  · rwa [upd_ne (fun z : b = p => no (by rw [z]; exact List.mem_singleton.mpr rfl))] at eb
  · rcases List.mem_append.mp hb with z | z
    · exact big b (List.mem_append_left _ z)
    · rcases List.mem_append.mp z with z | z
      · exact big b (List.mem_append_right _ (List.mem_append_left _ z))
      · rw [← set_self s3] at z
        rcases owned_set b z with w | w
        · rw [List.mem_singleton.mp w]; exact List.mem_cons_of_mem _ List.mem_cons_self
        · rcases owned_set b w with w | w
          · rw [List.mem_singleton.mp w]; exact List.mem_cons_self
          · exact big b (List.mem_append_right _ (List.mem_append_right _ w))
end
theorem n_removeD {K : PySem.W.Frag} {X : Cx} (hK : X.K = K) (hu : X.A.units + 65 < cLine) : MtM X "list.remove" (rRemoveD K) := hK ▸ mt_removeD hu
/-! ### what is asked of the defs of closed trails -/
def T_arrow_from : DT := fun ρ Φ => ∃ (l : List Arr) (p : Str), ρ = [.dat (.lst (l.map arrD)), .dat (.str p)] ∧ (∀ a, fromA l p = some a → Φ (arrD a)) ∧ (fromA l p = none → Φ .non)
def T_taken_round : UT := fun ds πs Φ => ∃ (l : List Arr) (p : Str), ds = l.map arrD ∧ πs = [.dat (.str p)] ∧ ArrsOk l ∧ l.length ≤ 12 ∧ Φ ((took l.length l p).2.map arrD) ((took l.length l p).1.map arrD)
theorem noL_arr (a : Arr) : noL (arrD a) = true := by simp [arrD, noL, noLA]
end NW

/-! NwEn: for i, x in enumerate(l). -/
namespace NW
open PySem PySem.Spec PyProof.Rows L2
section
variable {g : Gm} {X : List Addr} {Y : Hp} {σ : L2.St} {ρ : List Sl} {H H' : Hp} {tl : TE} {tb : TS} {E : DE}
theorem ds_forEn {j1 j2 : Nat} (h : EvC g tl ρ fun d => ∃ ds, d = .lst ds ∧ ∃ Inv : Nat → List Sl → Prop, Inv 0 ρ ∧ (∀ (i : Nat) d ρ', ds[i]? = some d → Inv i ρ' → DSt g tb (putS [j1, j2] [.int (i : Nat), d] ρ') { E with nx := Inv (i + 1), ct := Inv (i + 1), bk := E.nx }) ∧ ∀ ρ', Inv ds.length ρ' → E.nx ρ') :
    DSt g (tFor (iEnum g.K (tCons tl tNil)) (gTup g.K 2 (gNames [j1, j2])) tb) ρ E := fun X Y σ H D R M => h X Y σ H _ R fun d v H1 hd n1 r1 => by
  obtain ⟨ds, rfl, Inv, h0, hs, hf⟩ := hd
  cases r1 with
  | lst ha r =>
    rename_i a xs
    have R1 := R.nx n1
    have ha' : hide (g.pr ++ owned σ ρ) H1 a = some (.lst xs) := (hide_out fun z => (hide_some ha).1 (List.mem_append_right _ z)).trans (hide_some ha).2
    refine ⟨a, xs, rfl, SqL.of (hide_some ha).2, fun i m σ' H' => m = xs.length - i ∧ i ≤ xs.length ∧ ∃ ρ', Inv i ρ' ∧ RS g X (hide (g.pr ++ owned σ ρ) H1) σ' H' ρ', ⟨xs.length, by omega, Nat.zero_le _, ρ, h0, R1.fix⟩, ?_⟩
    rintro i m σ' H' ⟨rfl, hi, ρ', hI, R'⟩
    have q := (R'.fr a _ ha').1
    by_cases hlt : i < xs.length
    · refine .inr ⟨⟨xs, xs[i], SqL.of q, List.getElem?_eq_getElem hlt⟩, fun σ2 H2 => ∃ ρ2, Inv (i + 1) ρ2 ∧ RS g X (hide (g.pr ++ owned σ ρ) H1) σ2 H2 ρ2, fun σ2 H2 hp => ⟨xs.length - (i + 1), by omega, rfl, hlt, hp⟩, fun x H2 y => ?_⟩
      obtain ⟨T, x', rfl, hT, rfl, hx⟩ := y
      have hx' := hx xs (SqL.of q)
      obtain ⟨d, hd, rd⟩ := r.get' hx'
      have nT : Nx g H' (upd H' T (.tup [.int (i : Nat), x'])) := R'.same (upd_new hT)
      refine ⟨T, [.int (i : Nat), x'], rfl, .inl (.inl upd_same), rfl, gNames_ok rfl (R'.nx nT) (.cons (.int _) (.cons ((rd.mn R'.seen).mn nT.hid) .nil)) fun σ3 R3 => ?_⟩
      exact hs i d ρ' hd hI X _ _ _ _ R3 (M.loop R1.fixY fun σ H ρ hI R => ⟨ρ, hI, R⟩)
    · refine .inl ⟨⟨xs, SqL.of q, by omega⟩, M.nx σ' H' ρ' (hf ρ' (by rw [← r.length, show xs.length = i by omega]; exact hI)) (R'.weak R1.fixY)⟩
end
theorem n_penum {K : PySem.W.Frag} {X : Cx} {e : Expr} {ta : TA} {p pos tpos : Pos} {elts : List Expr} {kk : Nat} (hK : X.K = K) (hg : Gl X "enumerate") (hm : X.mg "enumerate" = none) (ha : PA X [e] ta) (hs : starEach [e] X.env = [(false, eval e X.env)] := by rfl) :
    PI X (.Tuple elts kk tpos) (.Call (.Name "enumerate" p) [e] [] pos) (iEnum K ta) := hK ▸ pi_enum hg hm ha hs
def T_open_at : DT := fun ρ Φ => ∃ t l : List Arr, ρ = [.dat (.lst (t.map arrD)), .dat (.lst (l.map arrD))] ∧ Φ (.int (openA t l : Nat))
def T_trail_of : NT := fun ρ Φ => ∃ P : List Arr, ρ = [.dat (.lst (P.map arrD))] ∧ ArrsOk P ∧ P.length ≤ 12 ∧ Conn P ∧ Bal P ∧ P ≠ [] ∧ Φ ((trailOf P).map arrD)
theorem trailG_nil (n : Nat) (t : List Arr) : trailG n t [] = t := by
  cases n with
  | zero => rfl
  | succ n => unfold trailG; exact if_pos (show ([] : List Arr).length = 0 from rfl)
theorem splice_ok {P t l m l2 : List Arr} {p : Str} {i : Nat} {a : Arr} (h1 : t[i]? = some a) (pm : (t ++ l).Perm P) (h : Path p t p) (k1 : Path a.2.1 m a.2.1) (k3 : (m ++ l2).Perm l) : Path p (t.take i ++ m ++ t.drop i) p ∧ (t.take i ++ m ++ t.drop i ++ l2).Perm P := by
  have ht : t.take i ++ t.drop i = t := List.take_append_drop i t
  have hd : t.drop i = a :: t.drop (i + 1) := by
    obtain ⟨hi, e⟩ := List.getElem?_eq_some_iff.mp h1
    rw [← e]
    exact List.drop_eq_getElem_cons hi
  have hp := h
  rw [← ht] at hp
  obtain ⟨x, p1, p2⟩ := hp.split
  have hx : a.2.1 = x := by rw [hd] at p2; exact p2.1
  subst hx
  refine ⟨(p1.app k1).app p2, ?_⟩
  have q1 : (t.take i ++ m ++ t.drop i ++ l2).Perm ((t.take i ++ t.drop i) ++ (m ++ l2)) := by
    rw [List.append_assoc, List.append_assoc, List.append_assoc]
    refine List.Perm.append_left _ ?_
    rw [← List.append_assoc, ← List.append_assoc]
    exact List.Perm.append_right _ List.perm_append_comm
  rw [ht] at q1
  exact q1.trans ((List.Perm.append_left t k3).trans pm)
def T_touches : DT := fun ρ Φ => ∃ (g : List Arr) (a : Arr), ρ = [.dat (.lst (g.map arrD)), .dat (arrD a)] ∧ g.length ≤ 1000 ∧ Φ (.bl (touchG g a))
/-! ### t[lo:hi] of a tuple, not the whole -/
theorem n_slT {K : PySem.W.Frag} {X : Cx} (hK : X.K = K) : SlR X (rSlT K) := hK ▸ sl_tup
def dSlT : Dat → Option Int → Option Int → (Dat → Prop) → Prop
  | .tup xs, lo, hi, Φ => ¬ (HT.sIx xs.length 0 lo = 0 ∧ HT.sIx xs.length xs.length hi = xs.length) ∧ Φ (.tup ((xs.drop (HT.sIx xs.length 0 lo)).take (HT.sIx xs.length xs.length hi - HT.sIx xs.length 0 lo)))
  | _, _, _, _ => False
section
variable {g : Gm} {X : List Addr} {Y : Hp} {σ : L2.St} {ρ : List Sl} {H H' : Hp} {te : TE}
theorem ev_slT {tl th : TO} {Φ : Dat → Prop} (h : EvS g te ρ fun d => EvO g tl ρ fun lo => EvO g th ρ fun hi => dSlT d lo hi Φ) : EvC g (tSl (rSlT g.K) te tl th) ρ Φ := fun X Y σ H Q R k =>
  h X Y σ H _ R fun d v H1 h1 n1 r1 => h1 X Y σ H1 _ (R.nx n1) fun lo H2 h2 n2 => h2 X Y σ H2 _ ((R.nx n1).nx n2) fun hi H3 h3 n3 => by
    have n := n1.trans (n2.trans n3)
    have r3 := r1.mn (n2.trans n3).hid (n2.trans n3).hidp
    cases d with
    | tup ds =>
      obtain ⟨a, xs, rfl, q1, q2⟩ := r3.tup_inv hid_p
      have e := q2.length
      refine ⟨a, xs, rfl, Same.sqT hide_same q1, by rw [e]; exact h3.1, fun p hp => ?_⟩
      refine k _ _ _ h3.2 (n.trans ((R.nx n).same (upd_new hp))) ?_
      have hpn := nx_none R n hp
      refine .tup (.inl (.inl (hid_upd (R.nx n) hp))) ?_
      unfold cutV
      rw [e]
      exact ((q2.drop _).take _).mn ((R.nx n).same (upd_new hp)).hid
    | _ => cases h3
end
theorem dSlT_1 {a : Arr} {Φ : Dat → Prop} (h : Φ (.tup [.str a.2.1, .str a.2.2])) : dSlT (arrD a) (some 1) none Φ := ⟨by show ¬ ((1 : Nat) = 0 ∧ _); simp, h⟩
theorem dIn_t2 {x y z : Str} {Φ : Dat → Prop} (h : Φ (.bl (decide (x = y) || decide (x = z)))) : dIn false (.str x) (.tup [.str y, .str z]) Φ := by
  refine ⟨rfl, rfl, ?_⟩
  have e := any_str (x := x) (ss := [y, z])
  have e2 : decide (x ∈ [y, z]) = (decide (x = y) || decide (x = z)) := by
    by_cases h1 : x = y <;> by_cases h2 : x = z <;> simp [h1, h2]
  rw [e2] at e
  show Φ (.bl (if false = true then _ else ([y, z].map Dat.str).any fun w => eqF w (.str x)))
  rw [e]
  exact h
abbrev grpD (g : List Arr) : Dat := .lst (g.map arrD)
def T_parted : NT := fun ρ Φ => ∃ rows : List Arr, ρ = [.dat (.tup (rows.map arrD))] ∧ ArrsOk rows ∧ (rows.map (·.1)).Nodup ∧ rows.length ≤ 12 ∧ ∀ gs, PartsP rows gs → Φ (gs.map grpD)
/-- touches, of data -/
def touchDt (a : Arr) : Dat → Bool
  | .lst ds => ds.any fun e => match e with
    | .tup [_, .str x, .str y] => decide (a.2.1 = x) || decide (a.2.1 = y) || (decide (a.2.2 = x) || decide (a.2.2 = y))
    | _ => false
  | _ => false
theorem touchDt_grp (a : Arr) (g : List Arr) : touchDt a (grpD g) = touchG g a := by
  show (g.map arrD).any _ = _
  rw [List.any_map]
  rfl
theorem filter_grp (a : Arr) (gs : List (List Arr)) (q : Bool → Bool) : (gs.map grpD).filter (fun d => q (touchDt a d)) = (gs.filter fun g => q (touchG g a)).map grpD := by
  rw [List.filter_map]
  congr 1
  exact List.filter_congr fun g _ => by show q (touchDt a (grpD g)) = _; rw [touchDt_grp]
theorem flat_sub {α : Type} {xs ys : List (List α)} (h : xs.Sublist ys) : xs.flatten.length ≤ ys.flatten.length := by
  induction h with
  | slnil => exact Nat.le_refl _
  | cons a _ ih => rw [List.flatten_cons, List.length_append]; omega
  | cons_cons a _ ih => rw [List.flatten_cons, List.flatten_cons, List.length_append, List.length_append]; omega
/-- sorted(g), arrows by their boxes -/
theorem dSortedT_rows {g : List Arr} {Φ : List Dat → Prop} (nd : (g.map (·.1)).Nodup) (k : ∀ ys : List Arr, ys.Perm g → ys.Pairwise (fun a b => leS a.1 b.1) → Φ (ys.map arrD)) : dSortedT [.lst (g.map arrD)] Φ := by
  refine ⟨g.map rowK, false, [false, false], rowD_arr g, fun r hr => ?_, fun rows' p' hs => ?_⟩
  · obtain ⟨a, _, rfl⟩ := List.mem_map.mp hr; rfl
  · obtain ⟨ys, p2, rfl⟩ := perm_map_inv p'
    have nd' : (ys.map (·.1)).Nodup := (p2.map (·.1)).nodup_iff.mpr nd
    rw [← rowD_arr]
    refine k ys p2 ?_
    rw [List.pairwise_map] at hs
    refine List.Pairwise.imp_of_mem (fun {a b} ha hb hab => ?_) (List.pairwise_map.mp (show (ys.map (·.1)).Pairwise (· ≠ ·) from nd') |>.and hs)
    obtain ⟨hne, hl⟩ := hab
    unfold lexK at hl
    rw [if_neg (fun z => hne (Sum.inr.inj z).symm)] at hl
    exact hl
theorem alike_arr (a b : Arr) : PySem.W.alike (pyD (arrD a)) (pyD (arrD b)) = true := by simp [arrD, pyD, pyA, PySem.W.alike, PySem.W.alikeAll]
theorem alike_grpA : ∀ g h : List Arr, PySem.W.alikeAll (pyA (g.map arrD)) (pyA (h.map arrD)) = true
  | [], h => by rw [List.map_nil, pyA, PySem.W.alikeAll]
  | a :: g, [] => by rw [List.map_cons, List.map_nil, pyA, pyA, PySem.W.alikeAll]
  | a :: g, b :: h => by rw [List.map_cons, List.map_cons, pyA, pyA, PySem.W.alikeAll, alike_arr, alike_grpA g h]; rfl
theorem lt_grp {a b : Arr} {g h : List Arr} (ne : a.1 ≠ b.1) (k : PySem.W.dataLt (pyD (grpD (b :: h))) (pyD (grpD (a :: g))) = false) : leS a.1 b.1 := by
  have e1 : PyData.eqv (pyD (arrD b)) (pyD (arrD a)) = false := by
    rw [eqv_arr]
    exact decide_eq_false fun z => ne (by rw [z])
  have e2 : PyData.eqv (.str b.1) (.str a.1) = false := by
    have := fun z => ne (PySem.W.str_of_cps z).symm
    simp [PyData.eqv]
    exact fun z => ne z.symm
  have k1 : PySem.W.dataLt (pyD (arrD b)) (pyD (arrD a)) = false := (PySem.W.dataLt_all_no (xs := pyA (h.map arrD)) (ys := pyA (g.map arrD)) (alike_arr b a) e1).symm.trans k
  have k2 : PySem.W.dataLt (.str b.1) (.str a.1) = false := (PySem.W.dataLt_all_no (xs := [.str b.2.1, .str b.2.2]) (ys := [.str a.2.1, .str a.2.2]) rfl e2).symm.trans k1
  rw [PySem.W.dataLt_str] at k2
  exact k2
end NW

/-! NwPa: the parts of a web, sorted; closed trails; what is asked of them. -/
namespace NW
open PySem PySem.Spec PyProof.Rows L2
/-- the groups, each sorted -/
structure SortedG (rows : List Arr) (hs : List (List Arr)) : Prop where
  grp : GroupsP rows hs
  srt : ∀ g ∈ hs, g.Pairwise (fun a b => leS a.1 b.1)
theorem flatten_each {α : Type} : ∀ {gs hs : List (List α)}, hs.length = gs.length → (∀ (j : Nat) (g h : List α), gs[j]? = some g → hs[j]? = some h → h.Perm g) → hs.flatten.Perm gs.flatten
  | [], [], _, _ => List.Perm.refl _
  | [], _ :: _, h, _ => by cases h
  | _ :: _, [], h, _ => by cases h
  | g :: gs, h :: hs, hl, k => by
    rw [List.flatten_cons, List.flatten_cons]
    exact (k 0 g h rfl rfl).append (flatten_each (by simpa using hl) fun j g' h' e1 e2 => k (j + 1) g' h' e1 e2)
theorem sorted_groups {rows : List Arr} {gs hs : List (List Arr)} (hg : GroupsP rows gs) (hl : hs.length = gs.length) (hh : ∀ (j : Nat) (g h : List Arr), gs[j]? = some g → hs[j]? = some h → h.Perm g ∧ h.Pairwise (fun a b => leS a.1 b.1)) : SortedG rows hs := by
  have at_ : ∀ (j : Nat) (hj : j < hs.length), ∃ hj' : j < gs.length, hs[j].Perm gs[j] ∧ hs[j].Pairwise (fun a b => leS a.1 b.1) := fun j hj => ⟨by omega, hh j _ _ (List.getElem?_eq_getElem (by omega)) (List.getElem?_eq_getElem hj)⟩
  refine ⟨⟨(flatten_each hl fun j g h e1 e2 => (hh j g h e1 e2).1).trans hg.perm, fun g hm => ?_, ?_⟩, fun g hm => ?_⟩
  · obtain ⟨j, hj, rfl⟩ := List.mem_iff_getElem.mp hm
    obtain ⟨hj', p, _⟩ := at_ j hj
    have := hg.conn _ (List.getElem_mem hj')
    refine ⟨this.1.perm p, fun z => ?_⟩
    rw [z] at p
    exact this.2 p.symm.eq_nil
  · rw [List.pairwise_iff_getElem]
    intro i j hi hj hij a ha b hb
    obtain ⟨hi', p, _⟩ := at_ i hi
    obtain ⟨hj', q, _⟩ := at_ j hj
    exact List.pairwise_iff_getElem.mp hg.apart i j hi' hj' hij a (p.mem_iff.mp ha) b (q.mem_iff.mp hb)
  · obtain ⟨j, hj, rfl⟩ := List.mem_iff_getElem.mp hm
    exact (at_ j hj).2.2
theorem alike_grps (hs : List (List Arr)) : PySem.W.AllAlike ((hs.map grpD).map pyD) := fun d hd d' hd' => by
  obtain ⟨x, hx, rfl⟩ := List.mem_map.mp hd
  obtain ⟨y, hy, rfl⟩ := List.mem_map.mp hd'
  obtain ⟨g, _, rfl⟩ := List.mem_map.mp hx
  obtain ⟨h, _, rfl⟩ := List.mem_map.mp hy
  show PySem.W.alike (pyD (.lst (g.map arrD))) (pyD (.lst (h.map arrD))) = true
  rw [pyD, pyD, PySem.W.alike]
  exact alike_grpA g h
theorem sortable_grps (hs : List (List Arr)) : PySem.W.Sortable ((hs.map grpD).map pyD) := .inr fun d hd => by
  obtain ⟨x, hx, rfl⟩ := List.mem_map.mp hd
  obtain ⟨g, _, rfl⟩ := List.mem_map.mp hx
  show pyD (.lst (g.map arrD)) ≠ .none ∧ ∀ xs, pyD (.lst (g.map arrD)) ≠ .tuple xs
  rw [pyD]
  constructor
  · intro z
    cases z
  · intro xs z
    cases z
theorem depth_grp {h : List Arr} (ok : ArrsOk h) : (pyD (grpD h)).depth ≤ 32 := by
  show PyData.depth (pyD (.lst (h.map arrD))) ≤ 32
  rw [pyD, PyData.depth]
  have := (layA_arrs h ok).2
  omega
theorem name_inj {rows : List Arr} (nd : (rows.map (·.1)).Nodup) {a b : Arr} (ha : a ∈ rows) (hb : b ∈ rows) (e : a.1 = b.1) : a = b := by
  obtain ⟨i, hi, e1⟩ := List.mem_iff_getElem.mp ha
  obtain ⟨j, hj, e2⟩ := List.mem_iff_getElem.mp hb
  have := nodup_at (f := fun x : Arr => x.1) nd (List.getElem?_eq_getElem hi) (List.getElem?_eq_getElem hj) (by rw [e1, e2]; exact e)
  subst this
  rw [← e1, ← e2]
theorem parts_of_sorted {rows : List Arr} {hs ks : List (List Arr)} (nd : (rows.map (·.1)).Nodup) (hg : SortedG rows hs) (pk : ks.Perm hs) (he : (ks.map grpD).Pairwise (fun x y => PySem.W.dataLt (pyD y) (pyD x) = false)) : PartsP rows ks := by
  have pf : ks.flatten.Perm hs.flatten := pk.flatten
  have ap : ks.Pairwise fun g h => ∀ a ∈ g, ∀ b ∈ h, ¬ touchA a b := hg.grp.apart.perm pk.symm fun h a ha b hb t => h b hb a ha t.symm
  refine ⟨pf.trans hg.grp.perm, fun g hm => hg.grp.conn g (pk.mem_iff.mp hm), ap, fun g hm => hg.srt g (pk.mem_iff.mp hm), ?_⟩
  rw [List.pairwise_map] at he
  refine List.Pairwise.imp_of_mem (fun {g h} hg1 hh1 hab => ?_) (ap.and he)
  obtain ⟨h1, h2⟩ := hab
  intro a b ea eb
  cases g with
  | nil => cases ea
  | cons a' g =>
    cases h with
    | nil => cases eb
    | cons b' h =>
      cases ea
      cases eb
      have mem : ∀ {k : List Arr} {x : Arr}, k ∈ ks → x ∈ k → x ∈ rows := fun {k x} hk hx => (pf.trans hg.grp.perm).mem_iff.mp (List.mem_flatten.mpr ⟨k, hk, hx⟩)
      refine lt_grp (fun e => ?_) h2
      have := name_inj nd (mem hg1 List.mem_cons_self) (mem hh1 List.mem_cons_self) e
      subst this
      exact h1 a List.mem_cons_self a List.mem_cons_self (touchA.refl a)
/-! ### what is asked -/
def T_parts (C : Addr) : ST := fun ρ Φ => ∃ rows : List Arr, ρ = [.dat (webD C rows)] ∧ WebS rows ∧ ∀ gs, PartsP rows gs → ∀ D es, es.map (·.2) = gs.map (fun g => Inn.l ((boxL g).map Dat.str)) → Φ (.trL D es)
def T_closed (C : Addr) : ST := fun ρ Φ => ∃ rows : List Arr, ρ = [.dat (webD C rows)] ∧ WebS rows ∧ ∀ gs, PartsP rows gs → ∀ D es, es.map (·.2) = gs.map (fun g => Inn.l ((boxL (trailOf g)).map Dat.str)) → Φ (.trL D es)
theorem touch_bal {rows : List Arr} {gs : List (List Arr)} (h : PartsP rows gs) (bal : Bal rows) : ∀ g ∈ gs, Bal g := fun g hg x => by
  obtain ⟨A, B, e⟩ := List.append_of_mem hg
  have hb := bal.perm h.perm x
  have ap := h.apart
  rw [e] at hb ap
  rw [List.flatten_append, List.flatten_cons, begs_app, begs_app, ends_app, ends_app] at hb
  by_cases q : ∃ a ∈ g, a.2.1 = x ∨ a.2.2 = x
  · obtain ⟨a, ha, hx⟩ := q
    have zero : ∀ k, (k ∈ A ∨ k ∈ B) → ∀ b ∈ k, b.2.1 ≠ x ∧ b.2.2 ≠ x := fun k hk b hb => by
      have no : ¬ touchA a b := by
        rcases hk with z | z
        · intro t
          exact (List.pairwise_append.mp ap).2.2 k z g List.mem_cons_self b hb a ha t.symm
        · exact (List.pairwise_cons.mp (List.pairwise_append.mp ap).2.1).1 k z a ha b hb
      constructor
      · intro e1
        rcases hx with e2 | e2
        · exact no (.inl (e2.trans e1.symm))
        · exact no (.inr (.inr (.inl (e2.trans e1.symm))))
      · intro e1
        rcases hx with e2 | e2
        · exact no (.inr (.inl (e2.trans e1.symm)))
        · exact no (.inr (.inr (.inr (e2.trans e1.symm))))
    have z0 : ∀ L : List (List Arr), (∀ k ∈ L, k ∈ A ∨ k ∈ B) → begs L.flatten x = 0 ∧ ends L.flatten x = 0 := fun L hL => by
      constructor
      · refine List.countP_eq_zero.mpr fun b hb => ?_
        obtain ⟨k, hk, hbk⟩ := List.mem_flatten.mp hb
        rw [decide_eq_false (zero k (hL k hk) b hbk).1]
        exact Bool.false_ne_true
      · refine List.countP_eq_zero.mpr fun b hb => ?_
        obtain ⟨k, hk, hbk⟩ := List.mem_flatten.mp hb
        rw [decide_eq_false (zero k (hL k hk) b hbk).2]
        exact Bool.false_ne_true
    have zA := z0 A fun k hk => .inl hk
    have zB := z0 B fun k hk => .inr hk
    omega
  · have b0 : begs g x = 0 := List.countP_eq_zero.mpr fun b hb => by
      rw [decide_eq_false fun e => q ⟨b, hb, .inl e⟩]; exact Bool.false_ne_true
    have e0 : ends g x = 0 := List.countP_eq_zero.mpr fun b hb => by
      rw [decide_eq_false fun e => q ⟨b, hb, .inr e⟩]; exact Bool.false_ne_true
    rw [b0, e0]
structure PartOk (rows g : List Arr) : Prop where
  cn : Conn g
  bal : Bal g
  ne : g ≠ []
  sub : ∀ a ∈ g, a ∈ rows
  nd : (g.map (·.1)).Nodup
  le : g.length ≤ rows.length
theorem part_ok {rows : List Arr} {gs : List (List Arr)} (h : PartsP rows gs) (hw : WebOk rows) : ∀ g ∈ gs, PartOk rows g := fun g hg =>
  ⟨(h.conn g hg).1, touch_bal h hw.bal g hg, (h.conn g hg).2, fun a ha => h.perm.mem_iff.mp (List.mem_flatten.mpr ⟨g, hg, ha⟩), ((List.sublist_flatten_of_mem hg).map (·.1)).nodup ((h.perm.map (·.1)).nodup_iff.mpr hw.nd), by
    have := (List.sublist_flatten_of_mem hg).length_le
    rwa [h.perm.length_eq] at this⟩
theorem parts_len {rows : List Arr} {gs : List (List Arr)} (h : PartsP rows gs) : gs.length ≤ rows.length := by
  have h1 := flatten_len fun g hg => (h.conn g hg).2
  rwa [h.perm.length_eq] at h1
/-! ### the law's parts -/
theorem Conn.grow {P E : List Arr} (cn : Conn P) (ne : P ≠ []) (h : ∀ x ∈ E, ∃ y ∈ P, touchA x y) : Conn (P ++ E) := fun A B pm na nb => by
  apply Classical.byContradiction
  intro no
  have far : ∀ x ∈ A, ∀ y ∈ B, ¬ touchA x y := fun x hx y hy t => no ⟨x, hx, y, hy, t⟩
  have split : ∀ y, y ∈ P ++ E → y ∈ A ∨ y ∈ B := fun y hy => List.mem_append.mp (pm.mem_iff.mpr hy)
  obtain ⟨a, ha⟩ := List.exists_mem_of_ne_nil P ne
  have key : ∀ S T : List Arr, (∀ y, y ∈ P ++ E → y ∈ S ∨ y ∈ T) → (∀ x ∈ S, ∀ y ∈ T, ¬ touchA x y) → a ∈ S → ∀ y ∈ T, y ∈ P ++ E → False := fun S T sp fr haS y hyT hy => by
    have sub := cn.within S ha haS fun x hx y hy hxs t => by
      rcases sp y (List.mem_append_left _ hy) with w | w
      · exact w
      · exact absurd t (fr x hxs y w)
    rcases List.mem_append.mp hy with z | z
    · exact fr y (sub y z) y hyT (touchA.refl y)
    · obtain ⟨u, hu, t⟩ := h y z
      exact fr u (sub u hu) y hyT t.symm
  rcases split a (List.mem_append_left _ ha) with z | z
  · obtain ⟨y, hy⟩ := List.exists_mem_of_ne_nil B nb
    exact key A B split far z y hy (pm.mem_iff.mp (List.mem_append_right _ hy))
  · obtain ⟨y, hy⟩ := List.exists_mem_of_ne_nil A na
    exact key B A (fun y hy => (split y hy).symm) (fun x hx y hy t => far y hy x hx t.symm) z y hy (pm.mem_iff.mp (List.mem_append_left _ hy))
/-- parts made so far, what is left -/
structure PartsTo (rows : List Arr) (gs : List (List Arr)) (left : List Arr) : Prop where
  perm : (gs.flatten ++ left).Perm rows
  conn : ∀ g ∈ gs, Conn g ∧ g ≠ []
  apart : gs.Pairwise (fun g h => ∀ a ∈ g, ∀ b ∈ h, ¬ touchA a b)
  off : ∀ g ∈ gs, ∀ a ∈ g, ∀ b ∈ left, ¬ touchA a b
  srt : ∀ g ∈ gs, g.Pairwise (fun a b => leS a.1 b.1)
  ord : gs.Pairwise (fun g h => ∀ a b, g.head? = some a → h.head? = some b → leS a.1 b.1)
  hds : ∀ g ∈ gs, ∀ a, g.head? = some a → ∀ b ∈ left, leS a.1 b.1
  lsr : left.Pairwise (fun a b => leS a.1 b.1)
theorem PartsTo.done {rows : List Arr} {gs : List (List Arr)} (h : PartsTo rows gs []) : PartsP rows gs := ⟨by have := h.perm; rwa [List.append_nil] at this, h.conn, h.apart, h.srt, h.ord⟩
theorem PartsTo.start {rows left : List Arr} (p : left.Perm rows) (s : left.Pairwise (fun a b => leS a.1 b.1)) : PartsTo rows [] left := ⟨p, (fun _ h => by cases h), List.Pairwise.nil, (fun _ h => by cases h), (fun _ h => by cases h), List.Pairwise.nil, (fun _ h => by cases h), s⟩
/-- the part that a is in: what the law joins -/
structure Grown (left part : List Arr) (a : Arr) : Prop where
  cn : Conn part
  hd : a ∈ part
  sub : ∀ x ∈ part, x ∈ left
  nd : part.Nodup
def ClosedIn (left part : List Arr) : Prop := ∀ x ∈ left, ∀ y ∈ part, touchA x y → x ∈ part
theorem PartsTo.step {rows left part : List Arr} {gs : List (List Arr)} {a : Arr} (ndr : rows.Nodup) (h : PartsTo rows gs left) (ha : left.head? = some a) (g : Grown left part a) (cl : ClosedIn left part) :
    PartsTo rows (gs ++ [left.filter fun x => decide (x ∈ part)]) (left.filter fun x => !decide (x ∈ part)) ∧ (left.filter fun x => decide (x ∈ part)).Perm part := by
  have hl : left = a :: left.tail := by
    cases left with
    | nil => cases ha
    | cons b l => cases ha; rfl
  have hal : a ∈ left := by rw [hl]; exact List.mem_cons_self
  have m1 : ∀ x, x ∈ left.filter (fun x => decide (x ∈ part)) ↔ x ∈ part := fun x => by
    rw [List.mem_filter, decide_eq_true_iff]
    exact ⟨fun z => z.2, fun z => ⟨g.sub x z, z⟩⟩
  have m2 : ∀ x, x ∈ left.filter (fun x => !decide (x ∈ part)) ↔ x ∈ left ∧ x ∉ part := fun x => by
    rw [List.mem_filter, Bool.not_eq_true', decide_eq_false_iff_not]
  have hd1 : (left.filter fun x => decide (x ∈ part)).head? = some a := by
    rw [hl, List.filter_cons_of_pos (p := fun x => decide (x ∈ part)) (decide_eq_true g.hd)]; rfl
  have la : ∀ b ∈ left, leS a.1 b.1 := fun b hb => by
    have hs := h.lsr
    rw [hl] at hs hb
    rcases List.mem_cons.mp hb with z | z
    · rw [z]
      show decide (a.1.cps.toList < a.1.cps.toList) = false
      exact decide_eq_false (List.lt_irrefl _)
    · exact (List.pairwise_cons.mp hs).1 b z
  have ndl : left.Nodup := by
    have : (gs.flatten ++ left).Nodup := h.perm.nodup_iff.mpr ndr
    exact (List.nodup_append.mp this).2.1
  have pf : (left.filter fun x => decide (x ∈ part)).Perm part := (List.perm_ext_iff_of_nodup (ndl.sublist List.filter_sublist) g.nd).mpr m1
  refine ⟨⟨?_, fun k hk => ?_, ?_, fun k hk x hx y hy t => ?_, fun k hk => ?_, ?_, fun k hk x hx y hy => ?_, h.lsr.sublist List.filter_sublist⟩, pf⟩
  · rw [List.flatten_append, List.flatten_cons, List.flatten_nil, List.append_nil, List.append_assoc]
    exact ((List.filter_append_perm (fun x => decide (x ∈ part)) left).append_left _).trans h.perm
  · rcases List.mem_append.mp hk with z | z
    · exact h.conn k z
    · rw [List.mem_singleton.mp z]
      refine ⟨g.cn.perm pf, fun w => ?_⟩
      have := (m1 a).mpr g.hd
      rw [w] at this
      cases this
  · rw [List.pairwise_append]
    refine ⟨h.apart, List.pairwise_singleton _ _, fun k hk m hm x hx y hy t => ?_⟩
    rw [List.mem_singleton.mp hm] at hy
    exact h.off k hk x hx y (g.sub y ((m1 y).mp hy)) t
  · obtain ⟨y1, y2⟩ := (m2 y).mp hy
    rcases List.mem_append.mp hk with z | z
    · exact h.off k z x hx y y1 t
    · rw [List.mem_singleton.mp z] at hx
      exact y2 (cl y y1 x ((m1 x).mp hx) t.symm)
  · rcases List.mem_append.mp hk with z | z
    · exact h.srt k z
    · rw [List.mem_singleton.mp z]
      exact h.lsr.sublist List.filter_sublist
  · rw [List.pairwise_append]
    refine ⟨h.ord, List.pairwise_singleton _ _, fun k hk m hm x y hx hy => ?_⟩
    rw [List.mem_singleton.mp hm, hd1] at hy
    cases hy
    exact h.hds k hk x hx a hal
  · obtain ⟨y1, y2⟩ := (m2 y).mp hy
    rcases List.mem_append.mp hk with z | z
    · exact h.hds k z x hx y y1
    · rw [List.mem_singleton.mp z, hd1] at hx
      cases hx
      exact la y y1
def nbL (part : List Arr) : List Str := part.map (·.2.1) ++ part.map (·.2.2)
theorem nbL_iff {part : List Arr} {x : Arr} : (x.2.1 ∈ nbL part ∨ x.2.2 ∈ nbL part) ↔ ∃ y ∈ part, touchA x y := by
  unfold nbL touchA
  simp only [List.mem_append, List.mem_map]
  constructor
  · rintro ((⟨y, hy, e⟩ | ⟨y, hy, e⟩) | (⟨y, hy, e⟩ | ⟨y, hy, e⟩))
    · exact ⟨y, hy, .inl e.symm⟩
    · exact ⟨y, hy, .inr (.inl e.symm)⟩
    · exact ⟨y, hy, .inr (.inr (.inl e.symm))⟩
    · exact ⟨y, hy, .inr (.inr (.inr e.symm))⟩
  · rintro ⟨y, hy, e | e | e | e⟩
    · exact .inl (.inl ⟨y, hy, e.symm⟩)
    · exact .inl (.inr ⟨y, hy, e.symm⟩)
    · exact .inr (.inl ⟨y, hy, e.symm⟩)
    · exact .inr (.inr ⟨y, hy, e.symm⟩)
/-- what of left touches the part and is not in it -/
def newIn (left part : List Arr) : List Arr := left.filter fun x => !decide (x ∈ part) && (decide (x.2.1 ∈ nbL part) || decide (x.2.2 ∈ nbL part))
theorem newIn_mem {left part : List Arr} {x : Arr} : x ∈ newIn left part ↔ x ∈ left ∧ x ∉ part ∧ ∃ y ∈ part, touchA x y := by
  unfold newIn
  rw [List.mem_filter, Bool.and_eq_true, Bool.or_eq_true, Bool.not_eq_true', decide_eq_false_iff_not, decide_eq_true_iff, decide_eq_true_iff, nbL_iff]
theorem newIn_nil {left part : List Arr} : newIn left part = [] ↔ ClosedIn left part := by
  constructor
  · intro h x hx y hy t
    by_cases q : x ∈ part
    · exact q
    · have : x ∈ newIn left part := newIn_mem.mpr ⟨hx, q, y, hy, t⟩
      rw [h] at this
      cases this
  · intro h
    refine List.eq_nil_iff_forall_not_mem.mpr fun x hx => ?_
    obtain ⟨h1, h2, y, hy, t⟩ := newIn_mem.mp hx
    exact h2 (h x h1 y hy t)
theorem Grown.start {left : List Arr} {a : Arr} (h : a ∈ left) : Grown left [a] a := ⟨conn_one a, List.mem_singleton.mpr rfl, fun x hx => by rw [List.mem_singleton.mp hx]; exact h, by simp⟩
theorem Grown.step {left part : List Arr} {a : Arr} (ndl : left.Nodup) (g : Grown left part a) : Grown left (part ++ newIn left part) a := by
  refine ⟨g.cn.grow (fun z => ?_) fun x hx => (newIn_mem.mp hx).2.2, List.mem_append_left _ g.hd, fun x hx => ?_, ?_⟩
  · have := g.hd
    rw [z] at this
    cases this
  · rcases List.mem_append.mp hx with z | z
    · exact g.sub x z
    · exact (newIn_mem.mp z).1
  · rw [List.nodup_append]
    refine ⟨g.nd, ndl.sublist List.filter_sublist, fun x hx y hy e => ?_⟩
    subst e
    exact (newIn_mem.mp hy).2.1 hx
theorem Grown.len {left part : List Arr} {a : Arr} (g : Grown left part a) : part.length ≤ left.length := nodup_le g.nd g.sub
/-- a turn: closed, or longer -/
theorem grow_turn {left part : List Arr} {k : Nat} (h : ClosedIn left part ∨ k ≤ part.length) : ClosedIn left (part ++ newIn left part) ∨ k + 1 ≤ (part ++ newIn left part).length := by
  by_cases q : newIn left part = []
  · rw [q, List.append_nil]
    exact .inl (newIn_nil.mp q)
  · rcases h with z | z
    · exact absurd (newIn_nil.mpr z) q
    · right
      have := List.length_pos_iff.mpr q
      rw [List.length_append]
      omega
def T_law_parts : NT := fun ρ Φ => ∃ rows : List Arr, ρ = [.dat (.lst (rows.map arrD))] ∧ ArrsOk rows ∧ (rows.map (·.1)).Nodup ∧ rows.length ≤ 12 ∧ ∀ gs, PartsP rows gs → Φ (gs.map fun g => .lst ((boxL g).map Dat.str))
def T_are_trails (C : Addr) : DT := fun ρ Φ => ∃ (rows s : List Arr) (gs : List (List Arr)), ρ = [.dat (webD C s), .dat (.lst (rows.map arrD)), .dat (.lst (gs.map fun g => .lst ((boxL (trailOf g)).map Dat.str))), .dat (.lst (gs.map fun g => .lst ((boxL g).map Dat.str)))] ∧ WebS s ∧ s.Perm rows ∧ PartsP s gs ∧ Φ (.bl true)
def T_asked_p (C : Addr) : DT := fun ρ Φ => ∃ rows rs : List Arr, ρ = [.dat (webD C rs), .dat (.lst (rows.map arrD))] ∧ rs.Perm rows ∧ WebS rs ∧ Φ (.bl true)
theorem PartsP.rows {rows rows' : List Arr} {gs : List (List Arr)} (h : PartsP rows gs) (p : rows.Perm rows') : PartsP rows' gs := ⟨h.perm.trans p, h.conn, h.apart, h.srt, h.ord⟩
theorem dNeD_strs {xs ys : List Str} {Φ : Dat → Prop} (hx : ∀ z ∈ xs, NameS z) (hy : ∀ z ∈ ys, NameS z) (h : Φ (.bl (!decide (xs = ys)))) : dEqD true (.lst (xs.map Dat.str)) (.lst (ys.map Dat.str)) Φ := ⟨shD_strs hx, shD_strs hy, by
  have e : PyData.eqv (pyD (.lst (xs.map Dat.str))) (pyD (.lst (ys.map Dat.str))) = decide (xs = ys) := by
    rw [pyD, pyD, PyData.eqv, eqvA_str]
  rw [e]
  exact h⟩
/-- trails of two parts aren't one trail -/
theorem two_trails {s : List Arr} {gs : List (List Arr)} (nd : (s.map (·.1)).Nodup) (h : PartsP s gs) {g k : List Arr} (ne : g ≠ k) (hg : g ∈ gs) (hk : k ∈ gs) {t u : List Arr} (ht : t.Perm g) (hu : u.Perm k) : ¬ IsTr s false (boxL t ++ boxL u) := by
  rintro ⟨r, e, hr⟩
  have sub : ∀ x ∈ t ++ u, x ∈ s := fun x hx => by
    rcases List.mem_append.mp hx with z | z
    · exact h.perm.mem_iff.mp (List.mem_flatten.mpr ⟨g, hg, ht.mem_iff.mp z⟩)
    · exact h.perm.mem_iff.mp (List.mem_flatten.mpr ⟨k, hk, hu.mem_iff.mp z⟩)
  have er : r = t ++ u := along_uniq nd (bs := boxL t ++ boxL u) ⟨e, hr.sub, by rw [← e]; exact hr.nd⟩ ⟨by rw [List.map_append], sub, by rw [← e]; exact hr.nd⟩
  subst er
  have nt : t ≠ [] := fun z => by rw [z] at ht; exact (h.conn g hg).2 ht.symm.eq_nil
  have nu : u ≠ [] := fun z => by rw [z] at hu; exact (h.conn k hk).2 hu.symm.eq_nil
  have l1 := List.length_pos_iff.mpr nt
  have l2 := List.length_pos_iff.mpr nu
  have e1 : (t ++ u)[t.length]? = some u[0] := by rw [List.getElem?_append_right (Nat.le_refl _), Nat.sub_self]; exact List.getElem?_eq_getElem l2
  have e2 : (t ++ u)[t.length - 1]? = some t[t.length - 1] := by rw [List.getElem?_append_left (by omega)]; exact List.getElem?_eq_getElem (by omega)
  have := hr.ln t.length _ _ e1 (by rw [if_neg (by omega)]; exact e2)
  exact ne (h.far hg hk (ht.mem_iff.mp (List.getElem_mem _)) (hu.mem_iff.mp (List.getElem_mem _)) (.inr (.inr (.inl this))))
/-! ### for y in x + z: lists of own lists -/
section
variable {g : Gm} {X : List Addr} {Y : Hp} {σ : L2.St} {ρ : List Sl} {H H' : Hp} {tb' : TS} {E : DE}
theorem ds_forTr2 {i1 i2 j : Nat} {p1 p2 : Addr} {es1 es2 : List (Addr × Inn)} (e1 : ρ[i1]? = some (.trL p1 es1)) (e2 : ρ[i2]? = some (.trL p2 es2)) (hz : es1.length + es2.length ≤ sizeLine) (Inv : Nat → List Sl → Prop) (h0 : Inv 0 ρ)
    (hs : ∀ k a ρ', (es1.map (·.1) ++ es2.map (·.1))[k]? = some a → Inv k ρ' → DSt g tb' (ρ'.set j (.at_ a)) { E with nx := Inv (k + 1), ct := Inv (k + 1), bk := E.nx }) (hd : ∀ ρ', Inv (es1.length + es2.length) ρ' → E.nx ρ') :
    DSt g (tFor (iList g.K (tOp rCat (tVar i1) (tVar i2))) (gName j) tb') ρ E := fun X Y σ H D R M => by
  obtain ⟨a1, a2, _⟩ := R.trL e1
  obtain ⟨b1, b2, _⟩ := R.trL e2
  refine ⟨_, a1, _, b1, p1, p2, _, _, rfl, rfl, a2, b2, by rw [List.length_map, List.length_map]; exact hz, fun q hq => ⟨q, rfl, ⟨_, SqL.of upd_same⟩, ?_⟩⟩
  have n1 : Nx g H (upd H q (.lst ((es1.map fun e => V.ref e.1) ++ es2.map fun e => V.ref e.1))) := R.same (upd_new hq)
  have R1 := R.nx n1
  have hq1 := R.new hq
  generalize hH1 : upd H q (.lst ((es1.map fun e => V.ref e.1) ++ es2.map fun e => V.ref e.1)) = H1 at *
  have hqs : H1 q = some (.lst ((es1.map fun e => V.ref e.1) ++ es2.map fun e => V.ref e.1)) := by rw [← hH1]; exact upd_same
  have ha' : hide (g.pr ++ owned σ ρ) H1 q = some (.lst ((es1.map fun e => V.ref e.1) ++ es2.map fun e => V.ref e.1)) := (hide_out fun z => hq1 (List.mem_append_right _ z)).trans hqs
  refine for_list (K := g.K) (a := q) (xs := (es1.map fun e => V.ref e.1) ++ es2.map fun e => V.ref e.1) (fun k σ' H' => ∃ ρ', Inv k ρ' ∧ RS g X (hide (g.pr ++ owned σ ρ) H1) σ' H' ρ') ⟨ρ, h0, R1.fix⟩ (fun i σ' H' _ ⟨ρ', _, R'⟩ => SqL.of (R'.fr q _ ha').1)
    (fun k x σ' H' hx ⟨ρ', hi, R'⟩ => ?_) fun σ' H' ⟨ρ', hi, R'⟩ => M.nx σ' H' ρ' (hd ρ' (by rw [List.length_append, List.length_map, List.length_map] at hi; exact hi)) (R'.weak R1.fixY)
  have hx2 : ((es1.map (·.1) ++ es2.map (·.1)).map V.ref)[k]? = some x := by
    rw [List.map_append, List.map_map, List.map_map]
    exact hx
  rw [List.getElem?_map] at hx2
  obtain ⟨a, ha, rfl⟩ := Option.map_eq_some_iff.mp hx2
  exact hs k a ρ' ha hi X _ _ H' _ (R'.set0 (x := some (.ref a)) (s := .at_ a) rfl .at_) (M.loop R1.fixY fun σ H ρ hI R => ⟨ρ, hI, R⟩)
end
end NW

namespace NW
open PySem PySem.Spec PyProof.Rows L2
local macro_rules | `(tactic| walk_at "cond") => `(tactic| first | assumption | (refine And.intro ?_ (And.intro ?_ ?_) <;> decide) | (refine cmul_r ⟨?_, ?_⟩ <;> omega) | (refine cmul_l ⟨?_, ?_⟩ <;> omega) | (refine cdiv_w ⟨?_, ?_⟩ <;> omega) | (show (0 : Int) < _; omega) | decide | omega)
local macro_rules | `(tactic| walk_at "nwN") => `(tactic| first
  | refine en_lst ?_
  | refine en_call ?_
  | refine en_slL ?_
  | refine en_op on_cat ?_
  | refine en_cb cn_list ?_
  | refine en_vals ?_
  | refine en_cb cn_sortedS ?_
  | refine en_cb cn_sortedD ?_
  | refine en_cb cn_sortedT ?_)
local macro_rules | `(tactic| walk_at "isN") => `(tactic| first
  | refine ds_asgN (en_lst ?_)
  | refine ds_asgN (en_slL ?_)
  | refine ds_asgN (en_op on_cat ?_)
  | refine ds_asgN (en_cb cn_list ?_)
  | refine ds_asgN (en_call ?_)
  | refine ds_asgE ?_
  | refine ds_asgN (en_lc1 ?_ ?_)
  | refine ds_asgN (en_lcL ?_ ?_)
  | refine ds_asgN (en_lcT ?_ ?_))
local macro_rules | `(tactic| walk_at "isR") => `(tactic| first
  | refine ds_retN (en_lst ?_)
  | refine ds_retN (en_slL ?_)
  | refine ds_retN (en_op on_cat ?_)
  | refine ds_retN (en_cb cn_list ?_)
  | refine ds_retN (en_call ?_)
  | refine ds_retN (en_lc1 ?_ ?_)
  | refine ds_retN (en_lcL ?_ ?_)
  | refine ds_retN (en_lcT ?_ ?_)
  | refine ds_retO (by with_unfolding_all rfl) ?_)
local macro_rules | `(tactic| walk_at "nwD") => `(tactic| first
  | refine ds_seq ?_
  | refine ds_if ?_
  | refine ds_next ?_
  | refine ds_asgNewK ?_
  | (refine id_asg ?_; (fail_if_success walk_at "isN"); refine ds_asg ?_)
  | (refine id_ret ?_; (fail_if_success walk_at "isR"); refine ds_ret ?_)
  | refine ds_append (by with_unfolding_all rfl) ?_
  | refine ds_drop ?_
  | refine ds_asgT ?_
  | refine ds_dput (by with_unfolding_all rfl) ?_
  | refine ds_retNone ?_
  | refine ds_break ?_
  | refine ds_cont ?_)
local macro_rules | `(tactic| walk_at "nwO") => `(tactic| first
  | refine ev_op od_I0 ?_
  | refine ev_op od_eq ?_
  | refine ev_op od_I ?_
  | refine ev_op od_B0 ?_
  | refine ev_op od_ix ?_
  | refine ev_op od_ne ?_
  | refine ev_op od_is ?_
  | refine ev_op od_isnot ?_
  | refine ev_op od_in ?_
  | refine ev_op od_addS ?_
  | refine ev_op od_inC ?_
  | refine ev_op od_niC ?_
  | refine ev_op od_eqD ?_
  | refine ev_op od_neD ?_
  | refine ev_op od_inD ?_
  | refine ev_op od_niD ?_
  | refine ev_of_n (en_op on_cat ?_))
local macro_rules | `(tactic| walk_at "nwB") => `(tactic| first
  | refine ev_cb cd_len ?_
  | refine ev_cb cd_int ?_
  | refine ev_cb cd_lenD ?_
  | refine ev_isi kb_bool ?_
  | refine ev_isi kb_int ?_
  | refine ev_isi kb_str ?_
  | refine ev_isi kb_list ?_
  | refine ev_isi kb_tuple ?_
  | refine ev_isi kb_dict ?_
  | refine ev_isiT kb_list kb_tuple ?_
  | refine ev_cb cd_abs ?_
  | refine ev_cb cd_max2 ?_
  | refine ev_cb cd_min2 ?_
  | refine ev_cb cd_min3 ?_
  | refine ev_cb cd_max ?_
  | refine ev_cb cd_sum ?_
  | refine ev_cb cd_strI ?_
  | refine ev_cb cd_tuple ?_
  | refine ev_of_n (en_cb cn_sortedS ?_)
  | refine ev_of_n (en_cb cn_sortedD ?_)
  | refine ev_of_n (en_cb cn_sortedT ?_)
  | refine ev_of_n (en_cb cn_list ?_))
local macro_rules | `(tactic| walk_at "nwF") => `(tactic| first
  | refine ev_callF (ef_own (by with_unfolding_all rfl) ?_)
  | refine ev_callF (ef_ownK (by with_unfolding_all rfl) ?_)
  | refine ev_callF (ef_cons (ev_var (by with_unfolding_all rfl) (ef_own (by with_unfolding_all rfl) ?_)))
  | refine ev_callF (ef_cons (ev_var (by with_unfolding_all rfl) (ef_ownK (by with_unfolding_all rfl) ?_)))
  | refine ev_call ?_)
local macro_rules | `(tactic| walk_at "nwC") => `(tactic| first
  | refine ev_var (by with_unfolding_all rfl) ?_
  | refine ev_int ?_
  | (refine id_op ?_; walk_at "nwO")
  | (refine id_cb ?_; walk_at "nwB")
  | walk_at "nwF"
  | refine ev_str ?_
  | refine ev_bl ?_
  | refine ev_non ?_
  | refine ev_tup ?_
  | refine ev_un ud_neg ?_
  | refine ev_slS ?_
  | refine ev_if ?_
  | refine ev_andV ?_
  | refine ev_orV ?_
  | refine ev_notV ?_
  | refine ev_din ?_
  | refine ev_dnotin ?_
  | refine ev_dget ?_
  | refine ev_dget2 ?_
  | refine ev_indexS ?_
  | refine ev_chain ?_
  | refine ev_of_n (en_vals ?_)
  | refine ev_of_n (en_lst ?_)
  | refine ev_of_n (en_slL ?_)
  | refine ev_of_n (en_call ?_))
local macro_rules | `(tactic| walk_at "nwS") => `(tactic| first
  | refine evs_var (by with_unfolding_all rfl) ?_
  | refine evs_own (by with_unfolding_all rfl) ?_
  | refine evs_ownK (by with_unfolding_all rfl) ?_
  | refine evs_of ?_)
local macro_rules | `(tactic| walk_at "nwT") => `(tactic| first
  | refine et_test ?_
  | refine et_B ?_
  | refine et_and ?_
  | refine et_or ?_
  | refine et_not ?_
  | refine et_yes ?_
  | refine et_tru ?_)
local macro_rules | `(tactic| walk_at "nwV") => `(tactic| first
  | refine dBl_mk ?_
  | refine dII0_mk ?_
  | refine dEq_i ?_
  | refine dEq_s ?_
  | refine iteT ?_
  | refine iteF ?_
  | refine iteN0 ?_
  | refine iteN1 ?_
  | refine dII_mk (by with_unfolding_all walk_at "cond") ?_
  | refine dIx_t (by with_unfolding_all rfl) ?_
  | refine dLen_l ?_
  | refine dI1_mk ?_
  | refine dNe_i ?_
  | refine dNe_s ?_
  | refine dIn_s ?_
  | refine dIn_i ?_
  | refine dIs_f ?_
  | refine dIs_t ?_
  | refine dLen_t ?_
  | refine dList_l ?_
  | refine dList_t ?_
  | refine T_sign_mk ?_
  | refine isi_mk (by first | with_unfolding_all rfl | assumption) ?_
  | refine dI2_mk ?_
  | refine dI3_mk ?_
  | refine dInC_f ?_
  | refine dInC_t ?_
  | refine dTuple_l ?_
  | refine dTuple_t ?_
  | refine dNeg_mk ?_
  | refine dInK_s ?_
  | refine dLenD_mk ?_
  | refine dNiK_s ?_
  | refine dInt_mk ?_)
local macro_rules | `(tactic| walk_at "nw1") => `(tactic| with_reducible first
  | (refine id_EvC ?_; walk_at "nwC")
  | (refine id_EvS ?_; walk_at "nwS")
  | (refine id_DSt ?_; walk_at "nwD")
  | (refine id_EvT ?_; walk_at "nwT")
  | (refine id_EvP ?_; first | refine ep_nil ?_ | refine ep_sto (by with_unfolding_all rfl) ?_ | refine ep_cons ?_)
  | (refine id_EvW ?_; first | refine ew_nil ?_ | refine ew_cons ?_)
  | (refine id_EvA ?_; first | refine ea_nil ?_ | refine ea_cons ?_)
  | (refine id_EvO ?_; first | refine eo_none ?_ | refine eo_some ?_)
  | (refine id_EvN ?_; walk_at "nwN")
  | (refine id_EvF ?_; first | refine ef_nil ?_ | refine ef_sto (by with_unfolding_all rfl) ?_ | refine ef_own (by with_unfolding_all rfl) ?_ | refine ef_ownK (by with_unfolding_all rfl) ?_ | refine ef_cons ?_)
  | walk_at "nwV")
local macro_rules | `(tactic| walk_at "nw") => `(tactic| repeat walk_at "nw1")
local macro_rules | `(tactic| walk_at "condz") => `(tactic| first | assumption | (refine And.intro ?_ (And.intro ?_ ?_) <;> decide) | (refine cmul_r ⟨?_, ?_⟩ <;> omega) | (refine cmul_l ⟨?_, ?_⟩ <;> omega) | (refine cdiv_w ⟨?_, ?_⟩ <;> omega) | (show (0 : Int) < _; omega) | decide | omega)
local macro_rules | `(tactic| walk_at "nzN") => `(tactic| first
  | refine en_lst ?_
  | refine en_call ?_
  | refine en_meth ?_
  | refine en_slL ?_
  | refine en_op on_cat ?_
  | refine en_op on_rep ?_
  | refine en_cb cn_list ?_
  | refine en_vals ?_
  | refine en_cb cn_sortedS ?_
  | refine en_cb cn_sortedD ?_
  | refine en_cb cn_sortedT ?_)
local macro_rules | `(tactic| walk_at "isNz") => `(tactic| first
  | refine ds_asgN (en_lst ?_)
  | refine ds_asgN (en_slL ?_)
  | refine ds_asgN (en_op on_cat ?_)
  | refine ds_asgN (en_op on_rep ?_)
  | refine ds_asgN (en_cb cn_list ?_)
  | refine ds_asgN (en_call ?_)
  | refine ds_asgN (en_meth ?_)
  | refine ds_asgE ?_
  | refine ds_asgN (en_lc1 ?_ ?_)
  | refine ds_asgN (en_lcL ?_ ?_)
  | refine ds_asgN (en_lcT ?_ ?_)
  | refine ds_asgU (by with_unfolding_all rfl) (by decide) ?_
  | refine ds_asgY (ey_call ?_)
  | refine ds_asgY (ey_meth ?_))
local macro_rules | `(tactic| walk_at "isRz") => `(tactic| first
  | refine ds_retN (en_lst ?_)
  | refine ds_retN (en_slL ?_)
  | refine ds_retN (en_op on_cat ?_)
  | refine ds_retN (en_cb cn_list ?_)
  | refine ds_retN (en_call ?_)
  | refine ds_retN (en_meth ?_)
  | refine ds_retN (en_lc1 ?_ ?_)
  | refine ds_retN (en_lcL ?_ ?_)
  | refine ds_retN (en_lcQ ?_ ?_)
  | refine ds_retN (en_lcT ?_ ?_)
  | refine ds_retO (by with_unfolding_all rfl) ?_
  | refine ds_retTr (by with_unfolding_all rfl) ?_
  | refine ds_retY (ey_call ?_)
  | refine ds_retY (ey_meth ?_))
local macro_rules | `(tactic| walk_at "nzD") => `(tactic| first
  | refine ds_seq ?_
  | refine ds_if ?_
  | refine ds_next ?_
  | refine ds_asgNewK ?_
  | (refine id_asg ?_; (fail_if_success walk_at "isNz"); refine ds_asg ?_)
  | (refine id_ret ?_; (fail_if_success walk_at "isRz"); refine ds_ret ?_)
  | refine ds_append (by with_unfolding_all rfl) ?_
  | refine ds_extend (by with_unfolding_all rfl) ?_
  | refine ds_popAt (by with_unfolding_all rfl) ?_
  | refine ds_appT (by with_unfolding_all rfl) ?_
  | refine ds_remA (by with_unfolding_all rfl) (by assumption) (by omega) ?_
  | refine ds_drop ?_
  | refine ds_asgT ?_
  | refine ds_dput (by with_unfolding_all rfl) ?_
  | refine ds_retNone ?_
  | refine ds_setL (by with_unfolding_all rfl) ?_
  | refine ds_break ?_
  | refine ds_cont ?_)
local macro_rules | `(tactic| walk_at "nzO") => `(tactic| first
  | refine ev_op od_I0 ?_
  | refine ev_op od_eq ?_
  | refine ev_op od_I ?_
  | refine ev_op od_B0 ?_
  | refine ev_op od_ix ?_
  | refine ev_op od_ne ?_
  | refine ev_op od_is ?_
  | refine ev_op od_isnot ?_
  | refine ev_op od_in ?_
  | refine ev_op od_addS ?_
  | refine ev_op od_inC ?_
  | refine ev_op od_niC ?_
  | refine ev_op od_eqD ?_
  | refine ev_op od_neD ?_
  | refine ev_op od_inD ?_
  | refine ev_op od_niD ?_
  | refine ev_op od_isB ?_
  | refine ev_op od_isnotB ?_
  | refine ev_of_n (en_op on_cat ?_)
  | refine ev_of_n (en_op on_rep ?_))
local macro_rules | `(tactic| walk_at "nzB") => `(tactic| first
  | refine ev_lenT (by with_unfolding_all rfl) ?_
  | refine ev_cb cd_len ?_
  | refine ev_cb cd_int ?_
  | refine ev_cb cd_lenD ?_
  | refine ev_isi kb_bool ?_
  | refine ev_isi kb_int ?_
  | refine ev_isi kb_str ?_
  | refine ev_isi kb_list ?_
  | refine ev_isi kb_tuple ?_
  | refine ev_isi kb_dict ?_
  | refine ev_isiT kb_list kb_tuple ?_
  | refine ev_cb cd_abs ?_
  | refine ev_cb cd_max2 ?_
  | refine ev_cb cd_min2 ?_
  | refine ev_cb cd_min3 ?_
  | refine ev_cb cd_max ?_
  | refine ev_cb cd_sum ?_
  | refine ev_cb cd_any ?_
  | refine ev_cb cd_all ?_
  | refine ev_cb cd_strI ?_
  | refine ev_cb cd_tuple ?_
  | refine ev_of_n (en_cb cn_sortedS ?_)
  | refine ev_of_n (en_cb cn_sortedD ?_)
  | refine ev_of_n (en_cb cn_sortedT ?_)
  | refine ev_of_n (en_cb cn_list ?_))
local macro_rules | `(tactic| walk_at "nzF") => `(tactic| first
  | refine ev_callF (ef_own (by with_unfolding_all rfl) ?_)
  | refine ev_callF (ef_ownK (by with_unfolding_all rfl) ?_)
  | refine ev_callF (ef_cons (ev_var (by with_unfolding_all rfl) (ef_own (by with_unfolding_all rfl) ?_)))
  | refine ev_callF (ef_cons (ev_var (by with_unfolding_all rfl) (ef_ownK (by with_unfolding_all rfl) ?_)))
  | refine ev_callF (ef_sto (by with_unfolding_all rfl) (ef_own (by with_unfolding_all rfl) ?_))
  | refine ev_callF (ef_sto (by with_unfolding_all rfl) (ef_ownK (by with_unfolding_all rfl) ?_))
  | refine ev_callG (eg_tr (by with_unfolding_all rfl) ?_)
  | refine ev_callG (eg_cons (ev_var (by with_unfolding_all rfl) (eg_tr (by with_unfolding_all rfl) ?_)))
  | refine ev_callG (eg_cons (ev_var (by with_unfolding_all rfl) (eg_cons (ev_var (by with_unfolding_all rfl) (eg_tr (by with_unfolding_all rfl) ?_)))))
  | refine ev_callF (ef_cons (ev_of_n (en_cb cn_sortedT ?_)))
  | refine ev_callG (eg_cons (ev_of_yM (ey_meth ?_)))
  | refine ev_call ?_)
local macro_rules | `(tactic| walk_at "nzC") => `(tactic| first
  | refine ev_var (by with_unfolding_all rfl) ?_
  | refine ev_int ?_
  | (refine id_op ?_; walk_at "nzO")
  | (refine id_cb ?_; walk_at "nzB")
  | walk_at "nzF"
  | refine ev_str ?_
  | refine ev_bl ?_
  | refine ev_non ?_
  | refine ev_tup ?_
  | refine ev_un ud_neg ?_
  | refine ev_slS ?_
  | refine ev_slT ?_
  | refine ev_if ?_
  | refine ev_andV ?_
  | refine ev_orV ?_
  | refine ev_notV ?_
  | refine ev_din ?_
  | refine ev_dnotin ?_
  | refine ev_dget ?_
  | refine ev_dget2 ?_
  | refine ev_indexS ?_
  | refine ev_chain ?_
  | refine ev_of_n (en_vals ?_)
  | refine ev_of_n (en_lst ?_)
  | refine ev_of_n (en_slL ?_)
  | refine ev_of_n (en_call ?_)
  | refine ev_fldA (by assumption) (by assumption) ?_
  | refine ev_methG (ev_var (by with_unfolding_all rfl) ⟨_, rfl, by with_unfolding_all rfl, eg_tr (by with_unfolding_all rfl) ?_⟩)
  | refine ev_meth ?_
  | refine ev_of_n (en_meth ?_)
  | refine ev_make ?_
  | refine ev_of_yM (ey_meth ?_)
  | refine ev_of_yM (ey_call ?_)
  | refine ev_callE ?_)
local macro_rules | `(tactic| walk_at "nzS") => `(tactic| first
  | refine evs_var (by with_unfolding_all rfl) ?_
  | refine evs_own (by with_unfolding_all rfl) ?_
  | refine evs_ownK (by with_unfolding_all rfl) ?_
  | refine evs_of ?_)
local macro_rules | `(tactic| walk_at "nzT") => `(tactic| first
  | refine et_test ?_
  | refine et_B ?_
  | refine et_and ?_
  | refine et_or ?_
  | refine et_not ?_
  | refine et_yes ?_
  | refine et_tru ?_)
local macro_rules | `(tactic| walk_at "nzV") => `(tactic| first
  | refine dBl_mk ?_
  | refine dII0_mk ?_
  | refine dEq_i ?_
  | refine dEq_s ?_
  | refine iteT ?_
  | refine iteF ?_
  | refine iteN0 ?_
  | refine iteN1 ?_
  | refine dII_mk (by with_unfolding_all walk_at "condz") ?_
  | refine dIx_t (by with_unfolding_all rfl) ?_
  | refine dLen_l ?_
  | refine dI1_mk ?_
  | refine dNe_i ?_
  | refine dNe_s ?_
  | refine dIn_s ?_
  | refine dIn_i ?_
  | refine dIs_f ?_
  | refine dIs_t ?_
  | refine dLen_t ?_
  | refine dList_l ?_
  | refine dList_t ?_
  | refine T_sign_mk ?_
  | refine isi_mk (by first | with_unfolding_all rfl | assumption) ?_
  | refine dI2_mk ?_
  | refine dI3_mk ?_
  | refine dInC_f ?_
  | refine dInC_t ?_
  | refine dTuple_l ?_
  | refine dTuple_t ?_
  | refine dNeg_mk ?_
  | refine dInK_s ?_
  | refine dLenD_mk ?_
  | refine dNiK_s ?_
  | refine dInt_mk ?_
  | refine dIsB_t ?_
  | refine dIsB_f ?_
  | refine dNotB_t ?_
  | refine dNotB_f ?_
  | refine fldI_mk (by with_unfolding_all rfl) ?_
  | refine methI_mk (by with_unfolding_all rfl) ?_
  | refine sz1 ?_
  | refine sz2 ?_
  | refine sz3 ?_
  | refine sz0 ?_
  | refine sz4 ?_)
local macro_rules | `(tactic| walk_at "nz1") => `(tactic| with_reducible first
  | (refine id_EvC ?_; walk_at "nzC")
  | (refine id_EvS ?_; walk_at "nzS")
  | (refine id_DSt ?_; walk_at "nzD")
  | (refine id_EvT ?_; walk_at "nzT")
  | (refine id_EvP ?_; first | refine ep_nil ?_ | refine ep_sto (by with_unfolding_all rfl) ?_ | refine ep_cons ?_)
  | (refine id_EvW ?_; first | refine ew_nil ?_ | refine ew_cons ?_)
  | (refine id_EvA ?_; first | refine ea_nil ?_ | refine ea_cons ?_)
  | (refine id_EvO ?_; first | refine eo_none ?_ | refine eo_some ?_)
  | (refine id_EvN ?_; walk_at "nzN")
  | (refine id_EvG ?_; first | refine eg_nil ?_ | refine eg_sto (by with_unfolding_all rfl) ?_ | refine eg_tr (by with_unfolding_all rfl) ?_ | refine eg_cons ?_)
  | (refine id_EvF ?_; first | refine ef_nil ?_ | refine ef_sto (by with_unfolding_all rfl) ?_ | refine ef_own (by with_unfolding_all rfl) ?_ | refine ef_ownK (by with_unfolding_all rfl) ?_ | refine ef_cons ?_)
  | walk_at "nzV")
local macro_rules | `(tactic| walk_at "nz") => `(tactic| repeat walk_at "nz1")
def top (i : Nat) : Stmt := PySem.Challenge.pw_nestweigh_k53_parts_and_closed_trails.main.body.getD i (.Pass ⟨0, 0, 0, 0⟩)
section
variable {C_Web C_TooMany C_NestError C_BadCount C_BadNumber C_Refusal : Addr} {u_ms : Value}
variable {P : Program} {w : World} {K : PySem.W.Frag} {mg : Str → Option Value} {base : Heap}
abbrev s__law_store : Stmt := (top 29)
theorem sc__law_store : FnScope ["_law_script"] ["_law_script"] (defScope s__law_store) := ⟨rfl, rfl, rfl, by decide +kernel, rfl, by decide +kernel, by decide +kernel⟩
theorem ok__law_store {f : Addr} {fd : FuncData} (B : Bi mg) (F : FnP K "_law_store" s__law_store f fd) : FnOk P w K mg base CX0 1 f fd ["_law_script"] (spStore K) := by
  have nd := sc__law_store.nd

  have len : ∀ vs H Q E, spStore K vs H Q E → vs.length = ["_law_script"].length := fun vs H Q E h => by
    obtain ⟨a, ns, rfl, _⟩ := h
    rfl
  refine F.ok sc__law_store len fun cdv A outer s H vs Q E hr h => ⟨_, PSs.nox
(pss_one (ps_ret (pe_lst (pa_cons (pe_callTy (n_list (K := K) rfl) rfl B.list bb_list (pa_cons (pv 0) pa_nil)) (pa_cons pe_int (pa_cons pe_int (pa_cons pe_int (pa_cons pe_int (pa_cons pe_int pa_nil))))))))), ?_⟩
  obtain ⟨a, ns, rfl, hs, k⟩ := h
  refine ⟨_, rfl, a, _, rfl, .inl hs, fun l hl => ?_⟩
  refine ⟨by show 6 ≤ sizeLine; decide, fun p hp => ?_⟩
  have npl : p ≠ l := fun z => by rw [z, upd_same] at hp; cases hp
  have hp' : H p = none := by rw [upd_ne npl] at hp; exact hp
  refine k l p _ hl hp' npl (fun b o e => ?_) ?_ upd_same
  · rw [upd_ne (ne_of_none e hp'), upd_ne (ne_of_none e hl)]; exact e
  · rw [upd_ne npl.symm, upd_same]
abbrev s__law_mix : Stmt := (top 30)
theorem sc__law_mix : FnScope ["_law_seed", "_law_turn", "_law_one", "_law_two"] ["_law_seed", "_law_turn"] (defScope s__law_mix) := ⟨rfl, rfl, rfl, by decide +kernel, rfl, by decide +kernel, by decide +kernel⟩
theorem ok__law_mix {f : Addr} {fd : FuncData} (B : Bi mg) (F : FnP K "_law_mix" s__law_mix f fd) : FnOk P w K mg base CX0 1 f fd ["_law_seed", "_law_turn"] (spD K T_mix) := by
  have nd := sc__law_mix.nd
  refine fn_D F sc__law_mix (fun ρ Φ h => by rcases h with ⟨a, b, rfl, hq⟩ <;> rfl) fun cdv A outer s H E hr => ⟨_,
(pss_cons (ps_set (i := 2) nd rfl (by first | exact Or.inl rfl | exact Or.inr rfl) (pe_op op_mod (pe_op op_add (pe_op op_add (pe_op op_mul (pe_callTy n_int rfl B.int bb_int (pa_cons (pv 0) pa_nil)) pe_int) (pe_op op_mul (pe_callTy n_int rfl B.int bb_int (pa_cons (pv 1) pa_nil)) pe_int)) pe_int) pe_int))
(pss_cons (ps_set (i := 3) nd rfl (by first | exact Or.inl rfl | exact Or.inr rfl) (pe_op op_mod (pe_op op_add (pe_op op_add (pe_op op_add (pe_op op_mul (pv 2) (pv 2)) (pv 2)) (pe_callTy n_int rfl B.int bb_int (pa_cons (pv 0) pa_nil))) (pe_callTy n_int rfl B.int bb_int (pa_cons (pv 1) pa_nil))) pe_int))
(pss_one (ps_ret (pe_op op_mod (pe_op op_add (pe_op op_add (pe_op op_mul (pv 3) (pv 3)) (pe_op op_mul pe_int (pv 3))) (pv 2)) pe_int))))),
  fun st ρ Φ h => ?_⟩
  rcases h with ⟨a, b, rfl, hq⟩
  walk_at "nw"
  exact hq _ (by omega) (by omega)
abbrev s__law_take : Stmt := (top 31)
theorem sc__law_take : FnScope ["_law_store_here", "_law_many", "_law_number_here", "_law_room", "_law_k", "_law_cell", "_law_digits"] ["_law_store_here", "_law_many"] (defScope s__law_take) := ⟨rfl, rfl, rfl, by decide +kernel, rfl, by decide +kernel, by decide +kernel⟩
theorem ok__law_take {f : Addr} {fd : FuncData} (B : Bi mg) (c__law_mix : Cal P w K mg base 1 "_law_mix" ["_law_seed", "_law_turn"] (spD K T_mix)) (F : FnP K "_law_take" s__law_take f fd) : FnOk P w K mg base CX0 2 f fd ["_law_store_here", "_law_many"] (spD K T_take) := by
  have nd := sc__law_take.nd

  have len : ∀ vs H Q E, spD K T_take vs H Q E → vs.length = ["_law_store_here", "_law_many"].length := fun vs H Q E h => by
    obtain ⟨st, X, ρ, Φ, R, ⟨n, rfl, _⟩, _⟩ := h
    have := R.sl.len
    rw [List.length_map] at this
    exact this
  refine F.ok sc__law_take len fun cdv A outer s H vs Q E hr h => ⟨_, PSs.nox
(pss_cons (ps_if (pt_cmpR op_lt (pv 1) pe_int (nomark _))
(pss_one (ps_ret pe_int))
pss_nil)
(Evl.pss_cut (ps_if (PW.pt (pw_and (pt_cmpR op_eq (pe_ix (n_ix (K := K) rfl) (pv 0) pe_int (fun _ _ => rfl)) pe_int (nomark _)) (pw_and (pt_cmpR op_eq (pe_ix (n_ix (K := K) rfl) (pv 0) pe_int (fun _ _ => rfl)) pe_int (nomark _)) (pw_and1 (pt_cmpR op_lt (pe_ix (n_ix (K := K) rfl) (pv 0) pe_int (fun _ _ => rfl)) (pe_callB (n_len (K := K) rfl) rfl B.len bb_len (pa_cons (pe_ix (n_ix (K := K) rfl) (pv 0) pe_int (fun _ _ => rfl)) pa_nil)) (nomark _))))))
(pss_cons (ps_set (i := 5) nd rfl (by first | exact Or.inl rfl | exact Or.inr rfl) (pe_callTy n_int rfl B.int bb_int (pa_cons (pe_ix (n_ix (K := K) rfl) (pe_ix (n_ix (K := K) rfl) (pv 0) pe_int (fun _ _ => rfl)) (pe_ix (n_ix (K := K) rfl) (pv 0) pe_int (fun _ _ => rfl)) (fun _ _ => rfl)) pa_nil)))
(pss_cons (ps_augS (pv 0) pe_int (n_getL (K := K) rfl) pe_int ip_add set_list)
(pss_cons (ps_asg (pe_op op_mod (pe_callTy n_int rfl B.int bb_int (pa_cons (pe_op op_add (pe_op op_mul (pe_ix (n_ix (K := K) rfl) (pv 0) pe_int (fun _ _ => rfl)) pe_int) (pv 5)) pa_nil)) pe_int) (pg_sub (pv 0) pe_int set_list))
(pss_one (ps_if (pt_cmpR op_ge (pe_callB n_abs rfl B.abs bb_abs (pa_cons (pv 5) pa_nil)) (pe_op op_pow pe_int pe_int) (nomark _))
(pss_one (ps_asg (pe_callB n_abs rfl B.abs bb_abs (pa_cons (pv 5) pa_nil)) (pg_sub (pv 0) pe_int set_list)))
(pss_one (ps_asg pe_int (pg_sub (pv 0) pe_int set_list))))))))
pss_nil)
(pss_cons (ps_augS (pv 0) pe_int (n_getL (K := K) rfl) pe_int ip_add set_list)
(pss_cons (ps_if (pt_cmpR op_gt (pe_ix (n_ix (K := K) rfl) (pv 0) pe_int (fun _ _ => rfl)) pe_int (nomark _))
(pss_cons (ps_set (i := 6) nd rfl (by first | exact Or.inl rfl | exact Or.inr rfl) (pe_callTy n_int rfl B.int bb_int (pa_cons (pe_ix (n_ix (K := K) rfl) (pv 0) pe_int (fun _ _ => rfl)) pa_nil)))
(pss_cons (ps_asg (pe_op op_fdivW (pv 6) (pv 1)) (pg_sub (pv 0) pe_int set_list))
(pss_one (ps_ret (pe_op op_mod (pv 6) (pv 1))))))
pss_nil)
(pss_cons (ps_asg (pe_callB (n_max2 rfl) rfl B.max bb_max (pa_cons pe_int (pa_cons (pe_op op_sub (pe_ix (n_ix (K := K) rfl) (pv 0) pe_int (fun _ _ => rfl)) pe_int) pa_nil))) (pg_sub (pv 0) pe_int set_list))
(pss_cons (ps_set (i := 2) nd rfl (by first | exact Or.inl rfl | exact Or.inr rfl) pe_int)
(pss_cons (ps_set (i := 3) nd rfl (by first | exact Or.inl rfl | exact Or.inr rfl) pe_int)
(pss_cons (ps_for PassesOwn.never rfl (pi_range1 rfl B.range (pa_cons pe_int pa_nil)) (pg_name (i := 4) nd rfl (Or.inl rfl))
(pss_cons (ps_if (pt_cmpR op_ge (pv 3) (pv 1) (nomark _))
(pss_one ps_break)
pss_nil)
(pss_cons (ps_set (i := 2) nd rfl (by first | exact Or.inl rfl | exact Or.inr rfl) (pe_op op_add (pe_op op_mul (pv 2) pe_int) (pe_cal c__law_mix (hr.mono (by decide)) rfl (pa_cons (pe_ix (n_ix (K := K) rfl) (pv 0) pe_int (fun _ _ => rfl)) (pa_cons (pe_op op_add (pe_ix (n_ix (K := K) rfl) (pv 0) pe_int (fun _ _ => rfl)) (pe_op op_mul pe_int (pv 4))) pa_nil)))))
(pss_one (ps_set (i := 3) nd rfl (by first | exact Or.inl rfl | exact Or.inr rfl) (pe_op op_mul (pv 3) pe_int))))))
(pss_one (ps_ret (pe_op op_mod (pe_callTy n_int rfl B.int bb_int (pa_cons (pv 2) pa_nil)) (pv 1)))))))))))), ?_⟩
  obtain ⟨st, X, ρ, Φ, R, ⟨n, rfl, hn, hT⟩, hQ⟩ := h
  -- the store and the number
  obtain ⟨pa, ha, hpa⟩ := R.sto (i := 0) rfl
  obtain ⟨vn, hvn, rn⟩ := R.dat (i := 1) rfl
  cases rn
  obtain ⟨a, l⟩ := pa
  have hl2 : vs.length = 2 := by
    have := R.sl.len
    rw [List.length_map] at this
    exact this
  obtain ⟨v0, v1, rfl⟩ : ∃ v0 v1, vs = [v0, v1] := by
    match vs, hl2 with
    | [v0, v1], _ => exact ⟨v0, v1, rfl⟩
  cases (show v0 = .ref a by simpa using ha)
  cases (show v1 = .int n by simpa using hvn)
  obtain ⟨cs, i, lf, sm, seed, turn, hA, hL, h1, h2, h3, h4, h5, h6⟩ := R.st _ hpa
  have hA : H a = some (.lst (stL l i lf sm seed turn)) := hA
  have hL : H l = some (.lst (cs.map V.int)) := hL
  have al : l ≠ a := fun z => by
    rw [z, hA] at hL
    have q := Option.some.inj hL
    cases cs with
    | nil => cases q
    | cons c cs => cases q
  -- what is left of the heap is what was wanted
  have fin : ∀ (r : Int) (H' : Hp) (i lf sm seed turn : Int), 0 ≤ r → (r < n ∨ r = 0) → (∀ b o, b ≠ a → H b = some o → H' b = some o) → H' a = some (.lst (stL l i lf sm seed turn)) → 0 ≤ i → 0 ≤ lf → 0 ≤ sm → 0 ≤ seed → seed < 100000007 → 0 ≤ turn → Q (.int r) H' := by
    intro r H' i lf sm seed turn r0 r1 hk hA' g1 g2 g3 g4 g5 g6
    refine hQ (.int r) (.int r) H' (hT r r0 r1) ⟨fun b o e nb => hk b o (fun z => nb (pr_mem.mpr ⟨_, hpa, .inl z⟩)) e, fun q hq => ?_⟩ (.int r)
    obtain ⟨cs2, i2, lf2, sm2, seed2, turn2, k1, k2, k3⟩ := R.st q hq
    by_cases e : q.1 = a
    · rw [e, hA] at k1
      have k1' := Option.some.inj k1
      have e2 : q.2 = l := by injection k1' with z; injection z with z1 z2; injection z1 with z3; exact z3.symm
      exact ⟨cs, i, lf, sm, seed, turn, by rw [e, e2]; exact hA', by rw [e2]; exact hk l _ al hL, g1, g2, g3, g4, g5, g6⟩
    · refine ⟨cs2, i2, lf2, sm2, seed2, turn2, hk _ _ e k1, hk _ _ (fun z => ?_) k2, k3⟩
      rw [z, hA] at k2
      have q' := Option.some.inj k2
      cases cs2 with
      | nil => cases q'
      | cons c cs2 => cases q'
  refine ⟨_, rfl, _, _, rfl, rfl, _, rfl, ?_⟩
  refine ite2 (fun c => ?_) (fun c => ?_)
  · exact fin 0 H i lf sm seed turn (Int.le_refl _) (.inr rfl) (fun _ _ _ e => e) hA h1 h2 h3 h4 h5 h6
  have c2 : 2 ≤ n := by
    have : ¬ n < 2 := fun z => c (decide_eq_true z)
    omega
  -- the joint behind the second if
  refine ⟨fun σ' H' => ∃ (cell : Option V) (i lf sm seed turn : Int), σ' = [some (.ref a), some (.int n), none, none, none, cell, none] ∧ (∀ b o, b ≠ a → H b = some o → H' b = some o) ∧ H' a = some (.lst (stL l i lf sm seed turn)) ∧ 0 ≤ i ∧ 0 ≤ lf ∧ 0 ≤ sm ∧ 0 ≤ seed ∧ seed < 100000007 ∧ 0 ≤ turn, ?_, ?_⟩
  · refine ⟨_, rfl, idx_st hA rfl ⟨rfl, _, rfl, ?_⟩⟩
    refine ite2 (fun c => ?_) (fun c => iteF ?_)
    rotate_left
    · exact ⟨none, i, lf, sm, seed, turn, rfl, fun _ _ _ e => e, hA, h1, h2, h3, h4, h5, h6⟩
    refine ⟨_, rfl, idx_st hA rfl ⟨rfl, _, rfl, ?_⟩⟩
    refine ite2 (fun c => ?_) (fun c => iteF ?_)
    rotate_left
    · exact ⟨none, i, lf, sm, seed, turn, rfl, fun _ _ _ e => e, hA, h1, h2, h3, h4, h5, h6⟩
    refine ⟨_, rfl, idx_st hA rfl ?_⟩
    refine ⟨_, rfl, idx_st hA rfl ⟨_, _, rfl, .inl ⟨_, SqL.of hL, rfl⟩, i, _, rfl, rfl, _, rfl, ?_⟩⟩
    refine ite2 (fun c => ?_) (fun c => ?_)
    rotate_left
    · exact ⟨none, i, lf, sm, seed, turn, rfl, fun _ _ _ e => e, hA, h1, h2, h3, h4, h5, h6⟩
    have ci : i < ((cs.map V.int).length : Int) := of_decide_eq_true c
    obtain ⟨j, rfl⟩ : ∃ j : Nat, i = j := ⟨i.toNat, by omega⟩
    have cj : j < cs.length := by rw [List.length_map] at ci; omega
    have ej : (cs.map V.int)[j]? = some (.int cs[j]) := by
      rw [List.getElem?_map, List.getElem?_eq_getElem cj]; rfl
    refine ⟨_, rfl, idx_st hA rfl ?_⟩
    refine ⟨_, rfl, idx_st hA rfl (.inl ⟨l, _, (j : Int), _, rfl, rfl, SqL.of hL, atI_nat ej, .inl ⟨_, rfl, ?_⟩⟩)⟩
    generalize cs[j] = cell
    -- store[1] += 1
    refine ⟨_, rfl, ?_⟩
    dsimp only [tC]
    refine idxL_st (k := 1) hA rfl ?_
    refine ⟨_, _, rfl, rfl, a, _, 1, 1, rfl, rfl, hA, rfl, ?_⟩
    have hA1 : (upd H a (.lst (stL l (j + 1) lf sm seed turn))) a = some (.lst (stL l (j + 1) lf sm seed turn)) := upd_same
    -- store[4] = int(store[4] * 31 + cell) % 100000007
    refine ⟨_, rfl, idx_st hA1 rfl ⟨_, _, rfl, rfl, .inr ⟨by decide, by decide⟩, _, rfl, _, _, rfl, rfl, .inl ⟨_, rfl, _, _, rfl, rfl, (show (0 : Int) < 100000007 by decide), ?_⟩⟩⟩
    refine ⟨_, rfl, a, _, 4, 4, rfl, rfl, hA1, rfl, ?_⟩
    have g1 : 0 ≤ (seed * 31 + cell) % 100000007 := Int.emod_nonneg _ (by decide)
    have g2 : (seed * 31 + cell) % 100000007 < 100000007 := Int.emod_lt_of_pos _ (by decide)
    -- abs(cell) >= 10 ** 18
    refine ⟨_, rfl, _, rfl, ⟨_, _, rfl, rfl, ⟨by decide, by decide, by decide⟩, _, _, rfl, rfl, _, rfl, ?_⟩⟩
    have ab : 0 ≤ (if cell < 0 then -cell else cell) := by split <;> omega
    refine ite2 (fun c => ?_) (fun c => ?_)
    · refine ⟨_, rfl, _, rfl, _, rfl, a, _, 2, 2, rfl, rfl, upd_same, rfl, ?_⟩
      refine ⟨_, _, _, _, _, _, rfl, fun b o nb e => ?_, upd_same, by omega, ab, h3, g1, g2, h6⟩
      rw [upd_ne nb, upd_ne nb, upd_ne nb]
      exact e
    · refine ⟨_, rfl, a, _, 3, 3, rfl, rfl, upd_same, rfl, ?_⟩
      refine ⟨_, _, _, _, _, _, rfl, fun b o nb e => ?_, upd_same, by omega, h2, (by decide : (0 : Int) ≤ 2), g1, g2, h6⟩
      rw [upd_ne nb, upd_ne nb, upd_ne nb]
      exact e
  rintro σ' H1 ⟨cell, i, lf, sm, seed, turn, rfl, hk, hA, h1, h2, h3, h4, h5, h6⟩
  -- store[5] += 1
  refine ⟨_, rfl, ?_⟩
  dsimp only [tC]
  refine idxL_st (k := 5) hA rfl ?_
  refine ⟨_, _, rfl, rfl, a, _, 5, 5, rfl, rfl, hA, rfl, ?_⟩
  have hA1 : (upd H1 a (.lst (stL l i lf sm seed (turn + 1)))) a = some (.lst (stL l i lf sm seed (turn + 1))) := upd_same
  refine ⟨_, rfl, idx_st hA1 rfl ⟨_, _, rfl, rfl, _, rfl, ?_⟩⟩
  refine ite2 (fun c => ?_) (fun c => ?_)
  · have c0 : 0 < lf := of_decide_eq_true c
    refine ⟨_, rfl, idx_st hA1 rfl (.inl ⟨_, rfl, ?_⟩)⟩
    refine ⟨_, rfl, _, rfl, _, _, rfl, rfl, wide_div (b := 400) (by omega) (by omega) (by decide) (by decide), ?_⟩
    refine ⟨_, rfl, a, _, 2, 2, rfl, rfl, hA1, rfl, ?_⟩
    refine ⟨_, rfl, _, rfl, _, _, rfl, rfl, (show 0 < n by omega), ?_⟩
    refine fin _ _ i (lf / n) sm seed (turn + 1) (Int.emod_nonneg _ (by omega)) (.inl (Int.emod_lt_of_pos _ (by omega))) (fun b o nb e => ?_) upd_same h1 (Int.ediv_nonneg h2 (by omega)) h3 h4 h5 (by omega)
    rw [upd_upd, upd_ne nb]
    exact hk b o nb e
  · refine ⟨_, rfl, idx_st hA1 rfl ⟨_, _, rfl, rfl, _, _, rfl, ?_⟩⟩
    refine ⟨_, rfl, a, _, 3, 3, rfl, rfl, hA1, rfl, ?_⟩
    have sm0 : 0 ≤ (if sm - 1 > 0 then sm - 1 else 0) := by split <;> omega
    rw [upd_upd]
    generalize (if sm - 1 > 0 then sm - 1 else 0) = sm' at *
    have hk2 : ∀ b o, b ≠ a → H b = some o → (upd H1 a (.lst (stL l i lf sm' seed (turn + 1)))) b = some o := fun b o nb e => by
      rw [upd_ne nb]; exact hk b o nb e
    have hA2 : (upd H1 a (.lst (stL l i lf sm' seed (turn + 1)))) a = some (.lst (stL l i lf sm' seed (turn + 1))) := upd_same
    refine ⟨60, rfl, by decide, by decide, for_range (lo := 0) (n := 60) (fun _ σ' H' => ∃ (num room : Int) (k : Option V), σ' = [some (.ref a), some (.int n), some (.int num), some (.int room), k, cell, none] ∧ 0 ≤ num ∧ Same (upd H1 a (.lst (stL l i lf sm' seed (turn + 1)))) H')
      ⟨0, 1, none, rfl, Int.le_refl _, Same.refl _⟩ ?_ ?_⟩
    · rintro k σ' H' hk' ⟨num, room, kk, rfl, hnum, e⟩
      refine ⟨_, rfl, _, rfl, _, _, rfl, rfl, _, rfl, ?_⟩
      have exit : ∀ (σ' : L2.St) (H' : Hp), (∃ (num room : Int) (k : Option V), σ' = [some (.ref a), some (.int n), some (.int num), some (.int room), k, cell, none] ∧ 0 ≤ num ∧ Same (upd H1 a (.lst (stL l i lf sm' seed (turn + 1)))) H') →
          (tRet (tOp (rI (fun _ j => 0 < j) fun i j => .int (i % j)) (tCB rInt1 (tCons (tVar 2) tNil)) (tVar 1))) { nx := fun _ H' => Q .non H', rt := Q } σ' H' := by
        rintro σ' H' ⟨num, room, kk, rfl, hnum, e⟩
        refine ⟨_, rfl, .inl ⟨_, rfl, _, rfl, _, _, rfl, rfl, (show 0 < n by omega), ?_⟩⟩
        exact fin _ _ i lf sm' seed (turn + 1) (Int.emod_nonneg _ (by omega)) (.inl (Int.emod_lt_of_pos _ (by omega))) (fun b o nb q => e _ _ (hk2 b o nb q)) (e _ _ hA2) h1 h2 sm0 h4 h5 (by omega)
      refine ite2 (fun c => ?_) (fun c => ?_)
      · exact exit _ _ ⟨num, room, _, rfl, hnum, e⟩
      · refine ⟨_, rfl, _, _, rfl, rfl, .inr ⟨by decide, by decide⟩, ?_⟩
        refine ⟨_, rfl, idx_st (e _ _ hA2) rfl ⟨_, rfl, idx_st (e _ _ hA2) rfl ⟨_, rfl, _, _, rfl, rfl, .inl ⟨by decide, by decide⟩, _, _, rfl, rfl, ?_⟩⟩⟩
        refine sp_plain (E := E0) (fun d => ∃ r : Int, d = .int r ∧ 0 ≤ r) (.dat (.int _) (.dat (.int _) .nil)) ⟨_, _, rfl, fun r r0 _ => ⟨r, rfl, r0⟩⟩ ?_
        rintro d v H'' ⟨r, rfl, r0⟩ e2 rr
        cases rr
        refine ⟨_, _, rfl, rfl, ?_⟩
        refine ⟨_, rfl, _, _, rfl, rfl, .inr ⟨by decide, by decide⟩, ?_⟩
        exact ⟨_, _, _, rfl, by omega, e.trans e2⟩
    · rintro σ' H' ⟨num, room, kk, rfl, hnum, e⟩
      refine ⟨_, rfl, .inl ⟨_, rfl, _, rfl, _, _, rfl, rfl, (show 0 < n by omega), ?_⟩⟩
      exact fin _ _ i lf sm' seed (turn + 1) (Int.emod_nonneg _ (by omega)) (.inl (Int.emod_lt_of_pos _ (by omega))) (fun b o nb q => e _ _ (hk2 b o nb q)) (e _ _ hA2) h1 h2 sm0 h4 h5 (by omega)
abbrev s__law_number : Stmt := (top 32)
theorem sc__law_number : FnScope ["_law_store_here", "_law_low", "_law_high", "_law_manner"] ["_law_store_here", "_law_low", "_law_high"] (defScope s__law_number) := ⟨rfl, rfl, rfl, by decide +kernel, rfl, by decide +kernel, by decide +kernel⟩
theorem ok__law_number {f : Addr} {fd : FuncData} (B : Bi mg) (c__law_take : Cal P w K mg base 2 "_law_take" ["_law_store_here", "_law_many"] (spD K T_take)) (F : FnP K "_law_number" s__law_number f fd) : FnOk P w K mg base CX0 3 f fd ["_law_store_here", "_law_low", "_law_high"] (spD K T_number) := by
  have nd := sc__law_number.nd
  refine fn_D F sc__law_number (fun ρ Φ h => by rcases h with ⟨lo, hi, rfl, hb, hq⟩ <;> rfl) fun cdv A outer s H E hr => ⟨_,
(pss_cons (ps_set (i := 3) nd rfl (by first | exact Or.inl rfl | exact Or.inr rfl) (pe_cal c__law_take (hr.mono (by decide)) rfl (pa_cons (pv 0) (pa_cons pe_int pa_nil))))
(pss_cons (ps_if (PW.pt (pw_or (pt_cmpR op_eq (pv 3) pe_int (nomark _)) (pw_or1 (pt_cmpR op_le (pv 2) (pv 1) (nomark _)))))
(pss_one (ps_ret (pv 1)))
pss_nil)
(pss_cons (ps_if (pt_cmpR op_eq (pv 3) pe_int (nomark _))
(pss_one (ps_ret (pv 2)))
pss_nil)
(pss_cons (ps_if (pt_cmpR op_eq (pv 3) pe_int (nomark _))
(pss_one (ps_ret (pe_callB (n_min2 rfl) rfl B.min bb_min (pa_cons (pv 2) (pa_cons (pe_op op_add (pe_op op_add (pv 1) pe_int) (pe_cal c__law_take (hr.mono (by decide)) rfl (pa_cons (pv 0) (pa_cons pe_int pa_nil)))) pa_nil)))))
pss_nil)
(pss_cons (ps_if (pt_cmpR op_eq (pv 3) pe_int (nomark _))
(pss_one (ps_ret (pe_callB (n_max2 rfl) rfl B.max bb_max (pa_cons (pv 1) (pa_cons (pe_op op_sub (pe_op op_sub (pv 2) pe_int) (pe_cal c__law_take (hr.mono (by decide)) rfl (pa_cons (pv 0) (pa_cons pe_int pa_nil)))) pa_nil)))))
pss_nil)
(pss_one (ps_ret (pe_op op_add (pv 1) (pe_cal c__law_take (hr.mono (by decide)) rfl (pa_cons (pv 0) (pa_cons (pe_op op_add (pe_op op_sub (pv 2) (pv 1)) pe_int) pa_nil))))))))))),
  fun st ρ Φ h => ?_⟩
  rcases h with ⟨lo, hi, rfl, hb, hq⟩
  walk_at "nw"
  refine T_take_mk (by omega) (fun m hm0 hm => ?_)
  walk_at "nw"
  refine br (fun c => ?_) (fun c => ?_)
  · walk_at "nw"
    exact hq _ (by omega) (.inr rfl)
  walk_at "nw"
  refine br (fun c2 => ?_) (fun c2 => ?_)
  · walk_at "nw"
    exact hq _ (by omega) (.inr rfl)
  walk_at "nw"
  refine br (fun c3 => ?_) (fun c3 => ?_)
  · walk_at "nw"
    exact hq _ (by omega) (.inl (by omega))
  walk_at "nw"
  refine br (fun c4 => ?_) (fun c4 => ?_)
  · walk_at "nw"
    refine T_take_mk (by omega) (fun r h0 h1 => ?_)
    walk_at "nw"
    exact hq _ (by omega) (.inl (by omega))
  walk_at "nw"
  refine br (fun c5 => ?_) (fun c5 => ?_)
  · walk_at "nw"
    refine T_take_mk (by omega) (fun r h0 h1 => ?_)
    walk_at "nw"
    exact hq _ (by omega) (.inl (by omega))
  walk_at "nw"
  refine T_take_mk (by omega) (fun r h0 h1 => ?_)
  walk_at "nw"
  exact hq _ (by omega) (.inl (by omega))
abbrev s__law_sign : Stmt := (top 36)
theorem sc__law_sign : FnScope ["_law_number_here"] ["_law_number_here"] (defScope s__law_sign) := ⟨rfl, rfl, rfl, by decide +kernel, rfl, by decide +kernel, by decide +kernel⟩
theorem ok__law_sign {f : Addr} {fd : FuncData} (B : Bi mg) (F : FnP K "_law_sign" s__law_sign f fd) : FnOk P w K mg base CX0 1 f fd ["_law_number_here"] (spD K T_sign) := by
  have nd := sc__law_sign.nd
  refine fn_D F sc__law_sign (fun ρ Φ h => by rcases h with ⟨n, rfl, hq⟩ <;> rfl) fun cdv A outer s H E hr => ⟨_,
(pss_one (ps_ret (pe_ix (n_ix (K := K) rfl) pe_str (pe_op op_mod (pe_callTy n_int rfl B.int bb_int (pa_cons (pv 0) pa_nil)) pe_int) (fun _ _ => rfl)))),
  fun st ρ Φ h => ?_⟩
  rcases h with ⟨n, rfl, hq⟩
  walk_at "nw"
  refine dIx_s (by decide +kernel) (abc_at (by omega) (by omega)) ?_
  exact hq
abbrev s__law_name_of : Stmt := (top 37)
theorem sc__law_name_of : FnScope ["_law_number_here", "_law_size", "_law_rest", "_law_name_here", "_law_k"] ["_law_number_here"] (defScope s__law_name_of) := ⟨rfl, rfl, rfl, by decide +kernel, rfl, by decide +kernel, by decide +kernel⟩
theorem ok__law_name_of {f : Addr} {fd : FuncData} (B : Bi mg) (c__law_sign : Cal P w K mg base 1 "_law_sign" ["_law_number_here"] (spD K T_sign)) (F : FnP K "_law_name_of" s__law_name_of f fd) : FnOk P w K mg base CX0 2 f fd ["_law_number_here"] (spD K T_name_of) := by
  have nd := sc__law_name_of.nd
  refine fn_D F sc__law_name_of (fun ρ Φ h => by rcases h with ⟨n, rfl, h0, hq⟩ <;> rfl) fun cdv A outer s H E hr => ⟨_,
(pss_cons (ps_set (i := 1) nd rfl (by first | exact Or.inl rfl | exact Or.inr rfl) (pe_op op_mod (pe_callTy n_int rfl B.int bb_int (pa_cons (pv 0) pa_nil)) pe_int))
(pss_cons (ps_set (i := 2) nd rfl (by first | exact Or.inl rfl | exact Or.inr rfl) (pe_op op_fdivW (pe_callTy n_int rfl B.int bb_int (pa_cons (pv 0) pa_nil)) pe_int))
(pss_cons (ps_set (i := 3) nd rfl (by first | exact Or.inl rfl | exact Or.inr rfl) (pe_cal c__law_sign (hr.mono (by decide)) rfl (pa_cons (pe_op op_mod (pv 2) pe_int) pa_nil)))
(pss_cons (ps_set (i := 2) nd rfl (by first | exact Or.inl rfl | exact Or.inr rfl) (pe_op op_fdivW (pv 2) pe_int))
(pss_cons (ps_for PassesOwn.never rfl (pi_range1 rfl B.range (pa_cons (pv 1) pa_nil)) (pg_name (i := 4) nd rfl (by first | exact Or.inl rfl | exact Or.inr rfl))
(pss_cons (ps_set (i := 3) nd rfl (by first | exact Or.inl rfl | exact Or.inr rfl) (pe_op n_addS (pv 3) (pe_cal c__law_sign (hr.mono (by decide)) rfl (pa_cons (pe_op op_mod (pv 2) pe_int) pa_nil))))
(pss_one (ps_set (i := 2) nd rfl (by first | exact Or.inl rfl | exact Or.inr rfl) (pe_op op_fdivW (pv 2) pe_int)))))
(pss_one (ps_ret (pv 3)))))))),
  fun st ρ Φ h => ?_⟩
  rcases h with ⟨n, rfl, h0, hq⟩
  walk_at "nw"
  refine ds_for1 ?_
  walk_at "nw"
  refine ⟨_, rfl, by omega, by omega, fun i ρ' => ∃ (r : Int) (z : Str) (x : Sl), ρ' = [.dat (.int n), .dat (.int (n % 8)), .dat (.int r), .dat (.str z), x] ∧ 0 ≤ r ∧ NameS z ∧ z.length ≤ i + 1, ?_, ?_, ?_⟩
  · refine ⟨_, _, _, rfl, by omega, ⟨_, [], rfl, signC_low (by omega) (by omega), by decide, fun c hc => by cases hc⟩, Nat.le_refl _⟩
  · rintro i ρ' hi ⟨r, z, x, rfl, hr0, hz, hzl⟩
    walk_at "nw"
    refine dSS_mk ?_ ?_
    · have := hz.len
      show z.length + 1 ≤ sizeLine
      rw [sizeLine_eq]; omega
    walk_at "nw"
    refine ⟨_, _, _, rfl, by omega, ?_, ?_⟩
    · unfold NameS
      rw [l_app]
      refine NameL.app hz (fun c hc => ?_) ?_
      · rw [l_one] at hc
        rw [List.mem_singleton.mp hc]
        exact signC_sgn (by omega) (by omega)
      · rw [← l_len, l_one]
        show z.length + 1 ≤ 8
        omega
    · rw [l_len, l_app, List.length_append, ← l_len, l_one]
      show z.length + 1 ≤ i + 1 + 1
      omega
  · rintro ρ' ⟨r, z, x, rfl, hr0, hz, hzl⟩
    walk_at "nw"
    exact hq z hz
abbrev s__law_name : Stmt := (top 38)
theorem sc__law_name : FnScope ["_law_store_here"] ["_law_store_here"] (defScope s__law_name) := ⟨rfl, rfl, rfl, by decide +kernel, rfl, by decide +kernel, by decide +kernel⟩
theorem ok__law_name {f : Addr} {fd : FuncData} (B : Bi mg) (c__law_take : Cal P w K mg base 2 "_law_take" ["_law_store_here", "_law_many"] (spD K T_take)) (c__law_name_of : Cal P w K mg base 2 "_law_name_of" ["_law_number_here"] (spD K T_name_of)) (F : FnP K "_law_name" s__law_name f fd) : FnOk P w K mg base CX0 3 f fd ["_law_store_here"] (spD K T_name) := by
  have nd := sc__law_name.nd
  refine fn_D F sc__law_name (fun ρ Φ h => by rcases h with ⟨rfl, hq⟩ <;> rfl) fun cdv A outer s H E hr => ⟨_,
(pss_one (ps_ret (pe_cal c__law_name_of (hr.mono (by decide)) rfl (pa_cons (pe_cal c__law_take (hr.mono (by decide)) rfl (pa_cons (pv 0) (pa_cons (pe_op op_mul (pe_op op_mul pe_int pe_int) (pe_op op_pow pe_int pe_int)) pa_nil))) pa_nil)))),
  fun st ρ Φ h => ?_⟩
  rcases h with ⟨rfl, hq⟩
  walk_at "nw"
  refine T_take_mk ?_ (fun r h0 h1 => ?_)
  · decide
  walk_at "nw"
  exact ⟨r, rfl, h0, hq⟩
abbrev s__law_pick : Stmt := (top 33)
theorem sc__law_pick : FnScope ["_law_store_here", "_law_row"] ["_law_store_here", "_law_row"] (defScope s__law_pick) := ⟨rfl, rfl, rfl, by decide +kernel, rfl, by decide +kernel, by decide +kernel⟩
theorem ok__law_pick {f : Addr} {fd : FuncData} (B : Bi mg) (c__law_take : Cal P w K mg base 2 "_law_take" ["_law_store_here", "_law_many"] (spD K T_take)) (F : FnP K "_law_pick" s__law_pick f fd) : FnOk P w K mg base CX0 3 f fd ["_law_store_here", "_law_row"] (spD K T_pick) := by
  have nd := sc__law_pick.nd
  refine fn_D F sc__law_pick (fun ρ Φ h => by rcases h with ⟨ds, rfl | rfl, h1, h2, hq⟩ | ⟨z, rfl, h1, h2, hq⟩ <;> rfl) fun cdv A outer s H E hr => ⟨_,
(pss_one (ps_ret (pe_ix (n_ix (K := K) rfl) (pv 1) (pe_cal c__law_take (hr.mono (by decide)) rfl (pa_cons (pv 0) (pa_cons (pe_callB (n_len (K := K) rfl) rfl B.len bb_len (pa_cons (pv 1) pa_nil)) pa_nil))) (fun _ _ => rfl)))),
  fun st ρ Φ h => ?_⟩
  rcases h with ⟨ds, rfl | rfl, h1, h2, hq⟩ | ⟨z, rfl, h1, h2, hq⟩
  · have hl : 0 < ds.length := List.length_pos_iff.mpr h1
    have h2' : ds.length ≤ 16777216 := h2
    walk_at "nw"
    refine T_take_mk (by omega) (fun r h0 h3 => ?_)
    obtain ⟨j, rfl⟩ : ∃ j : Nat, r = j := ⟨r.toNat, by omega⟩
    have hj : j < ds.length := by omega
    exact dIx_l (atI_nat (List.getElem?_eq_getElem hj)) (hq _ (List.getElem_mem hj))
  · have hl : 0 < ds.length := List.length_pos_iff.mpr h1
    have h2' : ds.length ≤ 16777216 := h2
    walk_at "nw"
    refine T_take_mk (by omega) (fun r h0 h3 => ?_)
    obtain ⟨j, rfl⟩ : ∃ j : Nat, r = j := ⟨r.toNat, by omega⟩
    have hj : j < ds.length := by omega
    exact ⟨_, atI_nat (List.getElem?_eq_getElem hj), hq _ (List.getElem_mem hj)⟩
  · have h1' : z.length ≤ 16777216 := h1
    walk_at "nw"
    refine dLen_s h1 ?_
    walk_at "nw"
    refine T_take_mk (by omega) (fun r h0 h3 => ?_)
    obtain ⟨j, rfl⟩ : ∃ j : Nat, r = j := ⟨r.toNat, by omega⟩
    have hj : j < (Str.l z).length := by rw [← l_len]; omega
    exact dIx_s h1 (atI_nat (List.getElem?_eq_getElem hj)) (hq _ (List.getElem_mem hj))
abbrev s__law_name_like : Stmt := (top 40)
theorem sc__law_name_like : FnScope ["_law_store_here", "_law_manner", "_law_stem", "_law_at", "_law_words"] ["_law_store_here", "_law_manner", "_law_stem"] (defScope s__law_name_like) := ⟨rfl, rfl, rfl, by decide +kernel, rfl, by decide +kernel, by decide +kernel⟩
theorem ok__law_name_like {f : Addr} {fd : FuncData} (B : Bi mg) (c__law_take : Cal P w K mg base 2 "_law_take" ["_law_store_here", "_law_many"] (spD K T_take)) (c__law_sign : Cal P w K mg base 1 "_law_sign" ["_law_number_here"] (spD K T_sign)) (c__law_pick : Cal P w K mg base 3 "_law_pick" ["_law_store_here", "_law_row"] (spD K T_pick)) (c__law_name : Cal P w K mg base 3 "_law_name" ["_law_store_here"] (spD K T_name)) (F : FnP K "_law_name_like" s__law_name_like f fd) : FnOk P w K mg base CX0 4 f fd ["_law_store_here", "_law_manner", "_law_stem"] (spD K T_name_like) := by
  have nd := sc__law_name_like.nd
  refine fn_D F sc__law_name_like (fun ρ Φ h => by rcases h with ⟨m, z, rfl, hz, hq⟩ <;> rfl) fun cdv A outer s H E hr => ⟨_,
(pss_cons (ps_if (pt_cmpR op_eq (pv 1) pe_int (nomark _))
(pss_cons (ps_set (i := 3) nd rfl (by first | exact Or.inl rfl | exact Or.inr rfl) (pe_cal c__law_take (hr.mono (by decide)) rfl (pa_cons (pv 0) (pa_cons (pe_callB (n_len (K := K) rfl) rfl B.len bb_len (pa_cons (pv 2) pa_nil)) pa_nil))))
(pss_cons (ps_if (pt_cmpR op_eq (pv 3) pe_int (nomark _))
(pss_one (ps_ret (pe_op n_addS (pe_cal c__law_sign (hr.mono (by decide)) rfl (pa_cons (pe_cal c__law_take (hr.mono (by decide)) rfl (pa_cons (pv 0) (pa_cons pe_int pa_nil))) pa_nil)) (pe_slice sl_str (pv 2) (po_some pe_int) po_none))))
pss_nil)
(pss_one (ps_ret (pe_op n_addS (pe_op n_addS (pe_slice sl_str (pv 2) po_none (po_some (pv 3))) (pe_cal c__law_sign (hr.mono (by decide)) rfl (pa_cons (pe_cal c__law_take (hr.mono (by decide)) rfl (pa_cons (pv 0) (pa_cons pe_int pa_nil))) pa_nil))) (pe_slice sl_str (pv 2) (po_some (pe_op op_add (pv 3) pe_int)) po_none))))))
pss_nil)
(pss_cons (ps_if (pt_cmpR op_eq (pv 1) pe_int (nomark _))
(pss_one (ps_ret (pe_slice sl_str (pv 2) po_none (po_some (pe_op op_add pe_int (pe_cal c__law_take (hr.mono (by decide)) rfl (pa_cons (pv 0) (pa_cons (pe_callB (n_len (K := K) rfl) rfl B.len bb_len (pa_cons (pv 2) pa_nil)) pa_nil))))))))
pss_nil)
(pss_cons (ps_if (pt_cmpR op_eq (pv 1) pe_int (nomark _))
(pss_one (ps_ret (pe_op n_addS (pe_slice sl_str (pv 2) po_none (po_some pe_int)) (pe_callTy n_strI rfl B.str bb_str (pa_cons (pe_cal c__law_take (hr.mono (by decide)) rfl (pa_cons (pv 0) (pa_cons pe_int pa_nil))) pa_nil)))))
pss_nil)
(pss_cons (ps_if (pt_cmpR op_eq (pv 1) pe_int (nomark _))
(pss_one (ps_ret (pe_cal c__law_sign (hr.mono (by decide)) rfl (pa_cons (pe_cal c__law_take (hr.mono (by decide)) rfl (pa_cons (pv 0) (pa_cons pe_int pa_nil))) pa_nil))))
pss_nil)
(pss_cons (ps_if (pt_cmpR op_eq (pv 1) pe_int (nomark _))
(pss_cons (ps_set (i := 4) nd rfl (by first | exact Or.inl rfl | exact Or.inr rfl) (pe_lst (pa_cons pe_str (pa_cons pe_str (pa_cons pe_str (pa_cons pe_str (pa_cons pe_str (pa_cons pe_str (pa_cons pe_str (pa_cons pe_str (pa_cons pe_str (pa_cons pe_str (pa_cons pe_str (pa_cons pe_str (pa_cons pe_str pa_nil)))))))))))))))
(pss_one (ps_ret (pe_cal c__law_pick (hr.mono (by decide)) rfl (pa_cons (pv 0) (pa_cons (pv 4) pa_nil))))))
pss_nil)
(pss_one (ps_ret (pe_cal c__law_name (hr.mono (by decide)) rfl (pa_cons (pv 0) pa_nil))))))))),
  fun st ρ Φ h => ?_⟩
  rcases h with ⟨m, z, rfl, hz, hq⟩
  have zl := hz.len
  have sg1 : ∀ {r : Int}, 0 ≤ r → (r < 36 ∨ r = 0) → sgn (signC (r % 36)) := fun h0 h1 => signC_sgn (by omega) (by omega)
  have lw1 : ∀ {r : Int}, 0 ≤ r → (r < 26 ∨ r = 0) → low (signC (r % 36)) := fun h0 h1 => signC_low (by omega) (by omega)
  walk_at "nw"
  refine br (fun c => ?_) (fun c => ?_)
  · walk_at "nw"
    refine dLen_s hz.line ?_
    walk_at "nw"
    refine T_take_mk (by omega) (fun r h0 h1 => ?_)
    obtain ⟨j, rfl⟩ : ∃ j : Nat, r = j := ⟨r.toNat, by omega⟩
    walk_at "nw"
    refine br (fun c => ?_) (fun c => ?_)
    · walk_at "nw"
      refine T_take_mk (by omega) (fun r h0 h1 => ?_)
      walk_at "nw"
      refine ⟨hz.line, ?_⟩
      refine dSS_mk ?_ ?_
      · show 1 + (cutS z (some ((1 : Nat) : Int)) none).length ≤ sizeLine
        rw [l_len, l_cutFrom, List.length_drop, ← l_len, sizeLine_eq]; omega
      refine hq _ ?_
      unfold NameS
      rw [l_app, l_one, show (1 : Int) = ((1 : Nat) : Int) from rfl, l_cutFrom]
      refine ⟨_, (Str.l z).drop 1, rfl, lw1 h0 h1, by rw [List.length_drop, ← l_len]; omega, fun c hc => hz.all c (List.mem_of_mem_drop hc)⟩
    · walk_at "nw"
      refine ⟨hz.line, ?_⟩
      walk_at "nw"
      refine T_take_mk (by omega) (fun r h0 h1 => ?_)
      walk_at "nw"
      have e1 : (cutS z none (some (j : Int))).length ≤ j := by rw [l_len, l_cutTo, List.length_take]; omega
      refine dSS_mk ?_ ?_
      · show _ + 1 ≤ sizeLine
        rw [sizeLine_eq]; omega
      walk_at "nw"
      refine ⟨hz.line, ?_⟩
      have e2 : (cutS z (some ((j : Int) + 1)) none) = cutS z (some ((j + 1 : Nat) : Int)) none := rfl
      rw [e2]
      have hl : (Str.l z).length = z.length := (l_len z).symm
      refine dSS_mk ?_ ?_
      · rw [l_len, l_app, List.length_append, ← l_len, l_one, l_len (cutS z (some ((j + 1 : Nat) : Int)) none), l_cutFrom, List.length_drop, sizeLine_eq]
        show _ + 1 + _ ≤ _
        omega
      refine hq _ ?_
      unfold NameS
      rw [l_app, l_app, l_cutTo, l_cutFrom, l_one, List.append_assoc]
      refine NameL.app (NameL.take hz (by omega)) (fun c hc => ?_) ?_
      · rcases List.mem_append.mp hc with q | q
        · rw [List.mem_singleton.mp q]; exact sg1 h0 h1
        · exact hz.all c (List.mem_of_mem_drop q)
      · rw [List.length_take, List.length_append, List.length_drop]
        show _ + (1 + _) ≤ 8
        omega
  walk_at "nw"
  refine br (fun c => ?_) (fun c => ?_)
  · walk_at "nw"
    refine dLen_s hz.line ?_
    walk_at "nw"
    refine T_take_mk (by omega) (fun r h0 h1 => ?_)
    obtain ⟨j, rfl⟩ : ∃ j : Nat, r = j := ⟨r.toNat, by omega⟩
    walk_at "nw"
    refine ⟨hz.line, ?_⟩
    refine hq _ ?_
    unfold NameS
    rw [show (1 : Int) + (j : Int) = ((1 + j : Nat) : Int) by omega, l_cutTo]
    exact NameL.take hz (by omega)
  walk_at "nw"
  refine br (fun c => ?_) (fun c => ?_)
  · walk_at "nw"
    refine ⟨hz.line, ?_⟩
    walk_at "nw"
    refine T_take_mk (by omega) (fun r h0 h1 => ?_)
    have q := num130 h0 (by omega)
    walk_at "nw"
    refine ⟨?_, ?_⟩
    · have : r.natAbs < 2 ^ 1920 := Nat.lt_of_lt_of_le (by omega : r.natAbs < 130) (by decide)
      exact PySem.Flt.log2_lt_of (by decide) this
    have e1 : (cutS z none (some (4 : Int))).length ≤ 4 := by rw [l_len, show (4 : Int) = ((4 : Nat) : Int) from rfl, l_cutTo, List.length_take]; omega
    refine dSS_mk ?_ ?_
    · rw [l_len ((toString r : String) : Str), sizeLine_eq]; omega
    refine hq _ ?_
    unfold NameS
    rw [l_app, show (4 : Int) = ((4 : Nat) : Int) from rfl, l_cutTo]
    exact NameL.app (NameL.take hz (by decide)) q.1 (by rw [List.length_take]; omega)
  walk_at "nw"
  refine br (fun c => ?_) (fun c => ?_)
  · walk_at "nw"
    refine T_take_mk (by omega) (fun r h0 h1 => ?_)
    walk_at "nw"
    refine hq _ ?_
    unfold NameS
    rw [l_one]
    exact ⟨_, [], rfl, lw1 h0 h1, by decide, fun c hc => by cases hc⟩
  walk_at "nw"
  refine br (fun c => ?_) (fun c => ?_)
  · walk_at "nw"
    refine ds_asg (ev_of_n ?_)
    walk_at "nw"
    refine ⟨by decide, ?_⟩
    walk_at "nw"
    refine .inl ⟨_, .inl rfl, List.cons_ne_nil _ _, by decide, fun d hd => ?_⟩
    have key : ∀ s ∈ ([("in" : Str), "box", "shelf", "nailed", "sealed", "then", "into", "not", "end", "else", "like", "within", "claim"] : List Str), NameS s := by
      intro s hs
      have q : ∀ s ∈ ([("in" : Str), "box", "shelf", "nailed", "sealed", "then", "into", "not", "end", "else", "like", "within", "claim"] : List Str), Str.l s ≠ [] ∧ (Str.l s).length ≤ 8 ∧ (∀ c ∈ Str.l s, 97 ≤ c ∧ c ≤ 122) := by decide +kernel
      obtain ⟨q1, q2, q3⟩ := q s hs
      exact NameL.mk q1 q2 (fun c hc => q3 c (List.mem_of_mem_head? hc)) fun c hc => .inl (q3 c hc)
    have hd' : d ∈ ([("in" : Str), "box", "shelf", "nailed", "sealed", "then", "into", "not", "end", "else", "like", "within", "claim"] : List Str).map Dat.str := hd
    obtain ⟨s, hs, rfl⟩ := List.mem_map.mp hd'
    exact hq s (key s hs)
  · walk_at "nw"
    exact ⟨rfl, hq⟩
abbrev s__law_unlike : Stmt := (top 39)
theorem sc__law_unlike : FnScope ["_law_name_here", "_law_taken", "_law_k", "_law_other"] ["_law_name_here", "_law_taken"] (defScope s__law_unlike) := ⟨rfl, rfl, rfl, by decide +kernel, rfl, by decide +kernel, by decide +kernel⟩
theorem ok__law_unlike {f : Addr} {fd : FuncData} (B : Bi mg) (c__law_sign : Cal P w K mg base 1 "_law_sign" ["_law_number_here"] (spD K T_sign)) (F : FnP K "_law_unlike" s__law_unlike f fd) : FnOk P w K mg base CX0 2 f fd ["_law_name_here", "_law_taken"] (spD K T_unlike) := by
  have nd := sc__law_unlike.nd
  refine fn_D F sc__law_unlike (fun ρ Φ h => by rcases h with ⟨z, ss, rfl, hz, hs, hq⟩ <;> rfl) fun cdv A outer s H E hr => ⟨_,
(pss_cons (ps_if (pt_cmpR (n_ni (K := K) rfl) (pv 0) (pv 1) rfl)
(pss_one (ps_ret (pv 0)))
pss_nil)
(pss_cons (ps_for PassesOwn.never rfl (pi_range1 rfl B.range (pa_cons (pe_op op_add (pe_callB (n_len (K := K) rfl) rfl B.len bb_len (pa_cons (pv 1) pa_nil)) pe_int) pa_nil)) (pg_name (i := 2) nd rfl (by first | exact Or.inl rfl | exact Or.inr rfl))
(pss_cons (ps_set (i := 3) nd rfl (by first | exact Or.inl rfl | exact Or.inr rfl) (pe_op n_addS (pe_op n_addS (pe_slice sl_str (pv 0) po_none (po_some pe_int)) (pe_cal c__law_sign (hr.mono (by decide)) rfl (pa_cons (pe_op op_mod (pe_op op_fdivW (pv 2) pe_int) pe_int) pa_nil))) (pe_cal c__law_sign (hr.mono (by decide)) rfl (pa_cons (pe_op op_mod (pv 2) pe_int) pa_nil))))
(pss_one (ps_if (pt_cmpR (n_ni (K := K) rfl) (pv 3) (pv 1) rfl)
(pss_one (ps_ret (pv 3)))
pss_nil))))
(pss_one (ps_ret (pv 0))))),
  fun st ρ Φ h => ?_⟩
  rcases h with ⟨z, ss, rfl, hz, hs, hq⟩
  have zl := hz.len
  walk_at "nw"
  refine br_not (fun c => ?_) (fun c => ?_)
  · walk_at "nw"
    exact hq z hz c
  walk_at "nw"
  refine ds_for1 ?_
  walk_at "nw"
  rw [List.length_map]
  refine ⟨_, rfl, by omega, by omega, fun i ρ' => ∃ (x y : Sl), ρ' = [.dat (.str z), .dat (.lst (ss.map Dat.str)), x, y] ∧ ∀ j, j < i → cand z j ∈ ss, ?_, ?_, ?_⟩
  · exact ⟨_, _, rfl, fun j hj => by omega⟩
  · rintro i ρ' hi ⟨x, y, rfl, hc⟩
    walk_at "nw"
    refine ⟨hz.line, ?_⟩
    walk_at "nw"
    have l6 : (cutS z none (some 6)).length ≤ 6 := by
      rw [l_len, show (6 : Int) = ((6 : Nat) : Int) from rfl, l_cutTo, List.length_take]; omega
    refine dSS_mk ?_ ?_
    · show _ + 1 ≤ sizeLine
      rw [sizeLine_eq]; omega
    walk_at "nw"
    refine dSS_mk ?_ ?_
    · rw [l_len, l_app, List.length_append, ← l_len, l_one]
      show _ + 1 + 1 ≤ sizeLine
      rw [sizeLine_eq]; omega
    have e : cutS z none (some 6) ++ ⟨#[signC ((i : Int) / 26 % 26 % 36)]⟩ ++ ⟨#[signC ((i : Int) % 26 % 36)]⟩ = cand z i := by
      apply l_ext
      rw [cand_l, l_app, l_app, show (6 : Int) = ((6 : Nat) : Int) from rfl, l_cutTo, l_one, l_one, List.append_assoc,
        show (i : Int) / 26 % 26 % 36 = (i : Int) / 26 % 26 by omega, show (i : Int) % 26 % 36 = (i : Int) % 26 by omega]
      rfl
    rw [e]
    walk_at "nw"
    refine br_not (fun c => ?_) (fun c => ?_)
    · walk_at "nw"
      exact hq _ (cand_name hz i) c
    · walk_at "nw"
      refine ⟨_, _, rfl, fun j hj => ?_⟩
      by_cases q : j = i
      · rw [q]; exact c
      · exact hc j (by omega)
  · rintro ρ' ⟨x, y, rfl, hc⟩
    obtain ⟨k, hk, hn⟩ := cand_new (z := z) hs
    exact absurd (hc k (by omega)) hn
abbrev s__law_names : Stmt := (top 41)
theorem sc__law_names : FnScope ["_law_store_here", "_law_many", "_law_taken", "_law_manner", "_law_stem", "_law_found", "_law_k"] ["_law_store_here", "_law_many", "_law_taken"] (defScope s__law_names) := ⟨rfl, rfl, rfl, by decide +kernel, rfl, by decide +kernel, by decide +kernel⟩
theorem ok__law_names {f : Addr} {fd : FuncData} (B : Bi mg) (c__law_take : Cal P w K mg base 2 "_law_take" ["_law_store_here", "_law_many"] (spD K T_take)) (c__law_name : Cal P w K mg base 3 "_law_name" ["_law_store_here"] (spD K T_name)) (c__law_name_like : Cal P w K mg base 4 "_law_name_like" ["_law_store_here", "_law_manner", "_law_stem"] (spD K T_name_like)) (c__law_unlike : Cal P w K mg base 2 "_law_unlike" ["_law_name_here", "_law_taken"] (spD K T_unlike)) (F : FnP K "_law_names" s__law_names f fd) : FnOk P w K mg base CX0 5 f fd ["_law_store_here", "_law_many", "_law_taken"] (spN K T_names) := by
  have nd := sc__law_names.nd
  refine fn_N F sc__law_names (fun ρ Φ h => by rcases h with ⟨n, ss, rfl, h0, hs, hq⟩ <;> rfl) fun cdv A outer s H E hr => ⟨_,
(pss_cons (ps_set (i := 3) nd rfl (by first | exact Or.inl rfl | exact Or.inr rfl) (pe_cal c__law_take (hr.mono (by decide)) rfl (pa_cons (pv 0) (pa_cons pe_int pa_nil))))
(pss_cons (ps_set (i := 4) nd rfl (by first | exact Or.inl rfl | exact Or.inr rfl) (pe_cal c__law_name (hr.mono (by decide)) rfl (pa_cons (pv 0) pa_nil)))
(pss_cons (ps_set (i := 5) nd rfl (by first | exact Or.inl rfl | exact Or.inr rfl) (pe_lst pa_nil))
(pss_cons (ps_for PassesOwn.never rfl (pi_range1 rfl B.range (pa_cons (pv 1) pa_nil)) (pg_name (i := 6) nd rfl (by first | exact Or.inl rfl | exact Or.inr rfl))
(pss_one (ps_expr (n_bm (K := K) rfl PySem.F.plainAttrs_list PySem.F.slot_list_append PySem.F.type_list_append mt_append (pv 5) (pa_cons (pe_cal c__law_unlike (hr.mono (by decide)) rfl (pa_cons (pe_cal c__law_name_like (hr.mono (by decide)) rfl (pa_cons (pv 0) (pa_cons (pv 3) (pa_cons (pv 4) pa_nil)))) (pa_cons (pe_op op_cat (pe_callTy (n_list (K := K) rfl) rfl B.list bb_list (pa_cons (pv 2) pa_nil)) (pv 5)) pa_nil))) pa_nil)))))
(pss_one (ps_ret (pv 5))))))),
  fun st ρ Φ h => ?_⟩
  rcases h with ⟨n, ss, rfl, h0, hs, hq⟩
  walk_at "nw"
  refine T_take_mk (by omega) (fun m hm0 hm => ?_)
  walk_at "nw"
  refine ⟨rfl, fun z hz => ?_⟩
  walk_at "nw"
  refine ds_asgN ?_
  walk_at "nw"
  refine ⟨by decide, ?_⟩
  walk_at "nw"
  refine ds_for1 ?_
  walk_at "nw"
  refine ⟨_, rfl, by omega, by omega, fun i ρ' => ∃ (zs : List Str) (x : Sl), ρ' = [.sto, .dat (.int n), .dat (.lst (ss.map Dat.str)), .dat (.int m), .dat (.str z), .own none (zs.map Dat.str), x] ∧ zs.length = i ∧ zs.Nodup ∧ ∀ z ∈ zs, NameS z ∧ z ∉ ss, ?_, ?_, ?_⟩
  · exact ⟨[], _, rfl, rfl, List.nodup_nil, fun z hz => by cases hz⟩
  · rintro i ρ' hi ⟨zs, x, rfl, hl, nd, ha⟩
    walk_at "nw"
    refine ⟨m, z, rfl, hz, fun y hy => ?_⟩
    walk_at "nw"
    refine dCat_mk ?_ ?_
    · rw [List.length_map, List.length_map, sizeLine_eq]; omega
    walk_at "nw"
    refine ⟨y, ss ++ zs, by rw [List.map_append], hy, by rw [List.length_append]; omega, fun y' hy' hn => ?_⟩
    refine ⟨by rw [List.length_map, sizeLine_eq]; omega, ?_⟩
    refine ⟨zs ++ [y'], _, by rw [List.map_append]; rfl, by rw [List.length_append]; simp [hl], ?_, ?_⟩
    · rw [List.nodup_append]
      refine ⟨nd, by simp, fun a ha b hb e => ?_⟩
      rw [List.mem_singleton.mp hb] at e
      exact hn (List.mem_append_right _ (e ▸ ha))
    · intro a ha'
      rcases List.mem_append.mp ha' with q | q
      · exact ha a q
      · rw [List.mem_singleton.mp q]
        exact ⟨hy', fun z => hn (List.mem_append_left _ z)⟩
  · rintro ρ' ⟨zs, x, rfl, hl, nd, ha⟩
    exact ds_retO rfl (hq zs (by omega) nd ha)
abbrev s__law_shuffled : Stmt := (top 34)
theorem sc__law_shuffled : FnScope ["_law_store_here", "_law_row", "_law_rest", "_law_found", "_law_k"] ["_law_store_here", "_law_row"] (defScope s__law_shuffled) := ⟨rfl, rfl, rfl, by decide +kernel, rfl, by decide +kernel, by decide +kernel⟩
theorem ok__law_shuffled {f : Addr} {fd : FuncData} (B : Bi mg) (c__law_take : Cal P w K mg base 2 "_law_take" ["_law_store_here", "_law_many"] (spD K T_take)) (F : FnP K "_law_shuffled" s__law_shuffled f fd) : FnOk P w K mg base CX0 3 f fd ["_law_store_here", "_law_row"] (spN K T_shuffled) := by
  have nd := sc__law_shuffled.nd
  refine fn_N F sc__law_shuffled (fun ρ Φ h => by rcases h with ⟨ds, rfl | rfl, hl, hq⟩ <;> rfl) fun cdv A outer s H E hr => ⟨_,
(pss_cons (ps_set (i := 2) nd rfl (by first | exact Or.inl rfl | exact Or.inr rfl) (pe_callTy (n_list (K := K) rfl) rfl B.list bb_list (pa_cons (pv 1) pa_nil)))
(pss_cons (ps_set (i := 3) nd rfl (by first | exact Or.inl rfl | exact Or.inr rfl) (pe_lst pa_nil))
(pss_cons (ps_for PassesOwn.never rfl (pi_range1 rfl B.range (pa_cons (pe_callB (n_len (K := K) rfl) rfl B.len bb_len (pa_cons (pv 1) pa_nil)) pa_nil)) (pg_name (i := 4) nd rfl (by first | exact Or.inl rfl | exact Or.inr rfl))
(pss_one (ps_expr (n_bm (K := K) rfl PySem.F.plainAttrs_list PySem.F.slot_list_append PySem.F.type_list_append mt_append (pv 3) (pa_cons (n_bm (K := K) rfl PySem.F.plainAttrs_list PySem.F.slot_list_pop PySem.F.type_list_pop mt_popAt (pv 2) (pa_cons (pe_cal c__law_take (hr.mono (by decide)) rfl (pa_cons (pv 0) (pa_cons (pe_callB (n_len (K := K) rfl) rfl B.len bb_len (pa_cons (pv 2) pa_nil)) pa_nil))) pa_nil)) pa_nil)))))
(pss_one (ps_ret (pv 3)))))),
  fun st ρ Φ h => ?_⟩
  rcases h with ⟨ds, rfl | rfl, hl, hq⟩
  · walk_at "nw"
    refine ds_asgN ?_
    walk_at "nw"
    refine ds_asgN ?_
    walk_at "nw"
    refine ⟨by decide, ?_⟩
    walk_at "nw"
    refine ds_for1 ?_
    walk_at "nw"
    refine ⟨_, rfl, by omega, by omega, fun i ρ' => ∃ (rest found : List Dat) (x : Sl), ρ' = [.sto, .dat (.lst ds), .own none rest, .own none found, x] ∧ (found ++ rest).Perm ds ∧ found.length = i, ?_, ?_, ?_⟩
    · exact ⟨ds, [], _, rfl, List.Perm.refl _, rfl⟩
    · rintro i ρ' hi ⟨rest, found, x, rfl, hp, hf⟩
      have hlen := hp.length_eq
      rw [List.length_append] at hlen
      refine ds_appPop (by decide) rfl rfl ?_
      walk_at "nw"
      refine T_take_mk (by omega) (fun r h0 h3 => ?_)
      obtain ⟨j, rfl⟩ : ∃ j : Nat, r = j := ⟨r.toNat, by omega⟩
      have hj : j < rest.length := by omega
      refine ⟨j, rest[j], by omega, rfl, List.getElem?_eq_getElem hj, by rw [sizeLine_eq]; omega, by rw [sizeLine_eq]; omega, ?_⟩
      refine ⟨_, _, _, rfl, ?_, by simp [hf]⟩
      refine List.Perm.trans ?_ hp
      rw [List.append_assoc]
      refine List.Perm.append_left _ ?_
      exact perm_erase hj
    · rintro ρ' ⟨rest, found, x, rfl, hp, hf⟩
      have hlen := hp.length_eq
      rw [List.length_append] at hlen
      refine ds_retO rfl ?_
      have e : rest = [] := List.eq_nil_of_length_eq_zero (by omega)
      subst e
      rw [List.append_nil] at hp
      exact hq _ hp
  · walk_at "nw"
    refine ds_asgN ?_
    walk_at "nw"
    refine ds_asgN ?_
    walk_at "nw"
    refine ⟨by decide, ?_⟩
    walk_at "nw"
    refine ds_for1 ?_
    walk_at "nw"
    refine ⟨_, rfl, by omega, by omega, fun i ρ' => ∃ (rest found : List Dat) (x : Sl), ρ' = [.sto, .dat (.tup ds), .own none rest, .own none found, x] ∧ (found ++ rest).Perm ds ∧ found.length = i, ?_, ?_, ?_⟩
    · exact ⟨ds, [], _, rfl, List.Perm.refl _, rfl⟩
    · rintro i ρ' hi ⟨rest, found, x, rfl, hp, hf⟩
      have hlen := hp.length_eq
      rw [List.length_append] at hlen
      refine ds_appPop (by decide) rfl rfl ?_
      walk_at "nw"
      refine T_take_mk (by omega) (fun r h0 h3 => ?_)
      obtain ⟨j, rfl⟩ : ∃ j : Nat, r = j := ⟨r.toNat, by omega⟩
      have hj : j < rest.length := by omega
      refine ⟨j, rest[j], by omega, rfl, List.getElem?_eq_getElem hj, by rw [sizeLine_eq]; omega, by rw [sizeLine_eq]; omega, ?_⟩
      refine ⟨_, _, _, rfl, ?_, by simp [hf]⟩
      refine List.Perm.trans ?_ hp
      rw [List.append_assoc]
      refine List.Perm.append_left _ ?_
      exact perm_erase hj
    · rintro ρ' ⟨rest, found, x, rfl, hp, hf⟩
      have hlen := hp.length_eq
      rw [List.length_append] at hlen
      refine ds_retO rfl ?_
      have e : rest = [] := List.eq_nil_of_length_eq_zero (by omega)
      subst e
      rw [List.append_nil] at hp
      exact hq _ hp
abbrev s__law_arrows : Stmt := (top 44)
theorem sc__law_arrows : FnScope ["_law_store_here", "_law_most", "_law_many", "_law_several", "_law_both", "_law_boxes", "_law_places", "_law_found", "_law_k", "_law_size", "_law_ring", "_law_j"] ["_law_store_here", "_law_most"] (defScope s__law_arrows) := ⟨rfl, rfl, rfl, by decide +kernel, rfl, by decide +kernel, by decide +kernel⟩
theorem ok__law_arrows {f : Addr} {fd : FuncData} (B : Bi mg) (c__law_number : Cal P w K mg base 3 "_law_number" ["_law_store_here", "_law_low", "_law_high"] (spD K T_number)) (c__law_take : Cal P w K mg base 2 "_law_take" ["_law_store_here", "_law_many"] (spD K T_take)) (c__law_names : Cal P w K mg base 5 "_law_names" ["_law_store_here", "_law_many", "_law_taken"] (spN K T_names)) (c__law_shuffled : Cal P w K mg base 3 "_law_shuffled" ["_law_store_here", "_law_row"] (spN K T_shuffled)) (F : FnP K "_law_arrows" s__law_arrows f fd) : FnOk P w K mg base CX0 6 f fd ["_law_store_here", "_law_most"] (spN K T_arrows) := by
  have nd := sc__law_arrows.nd
  refine fn_N F sc__law_arrows (fun ρ Φ h => by rcases h with ⟨m, rfl, hm0, hm, hq⟩ <;> rfl) fun cdv A outer s H E hr => ⟨_,
(pss_cons (ps_set (i := 2) nd rfl (by first | exact Or.inl rfl | exact Or.inr rfl) (pe_cal c__law_number (hr.mono (by decide)) rfl (pa_cons (pv 0) (pa_cons pe_int (pa_cons (pv 1) pa_nil)))))
(pss_cons (ps_set (i := 3) nd rfl (by first | exact Or.inl rfl | exact Or.inr rfl) (pe_op op_add pe_int (pe_cal c__law_take (hr.mono (by decide)) rfl (pa_cons (pv 0) (pa_cons pe_int pa_nil)))))
(pss_cons (ps_set (i := 4) nd rfl (by first | exact Or.inl rfl | exact Or.inr rfl) (pe_cal c__law_names (hr.mono (by decide)) rfl (pa_cons (pv 0) (pa_cons (pe_op op_add (pv 2) (pv 3)) (pa_cons (pe_lst pa_nil) pa_nil)))))
(pss_cons (ps_set (i := 5) nd rfl (by first | exact Or.inl rfl | exact Or.inr rfl) (pe_slice (n_slL (K := K) rfl) (pv 4) po_none (po_some (pv 2))))
(pss_cons (ps_set (i := 6) nd rfl (by first | exact Or.inl rfl | exact Or.inr rfl) (pe_slice (n_slL (K := K) rfl) (pv 4) (po_some (pv 2)) po_none))
(pss_cons (ps_if (pt_cmpR op_eq (pe_cal c__law_take (hr.mono (by decide)) rfl (pa_cons (pv 0) (pa_cons pe_int pa_nil))) pe_int (nomark _))
(pss_one (ps_set (i := 6) nd rfl (by first | exact Or.inl rfl | exact Or.inr rfl) (pe_slice (n_slL (K := K) rfl) (pe_cal c__law_shuffled (hr.mono (by decide)) rfl (pa_cons (pv 0) (pa_cons (pv 4) pa_nil))) po_none (po_some (pv 3)))))
pss_nil)
(pss_cons (ps_set (i := 7) nd rfl (by first | exact Or.inl rfl | exact Or.inr rfl) (pe_lst pa_nil))
(pss_cons (ps_for PassesOwn.never rfl (pi_range1 rfl B.range (pa_cons (pv 2) pa_nil)) (pg_name (i := 8) nd rfl (by first | exact Or.inl rfl | exact Or.inr rfl))
(pss_cons (ps_set (i := 9) nd rfl (by first | exact Or.inl rfl | exact Or.inr rfl) (pe_callB (call_min3Nu rfl) rfl B.min bb_min (pa_cons (pe_op op_sub (pv 2) (pe_callB (n_len (K := K) rfl) rfl B.len bb_len (pa_cons (pv 7) pa_nil))) (pa_cons (pv 3) (pa_cons (pe_op op_add pe_int (pe_cal c__law_take (hr.mono (by decide)) rfl (pa_cons (pv 0) (pa_cons pe_int pa_nil)))) pa_nil)))))
(pss_cons (ps_if (pt_cmpR op_lt (pv 9) pe_int (nomark _))
(pss_one ps_break)
pss_nil)
(pss_cons (ps_set (i := 10) nd rfl (by first | exact Or.inl rfl | exact Or.inr rfl) (pe_slice (n_slL (K := K) rfl) (pe_cal c__law_shuffled (hr.mono (by decide)) rfl (pa_cons (pv 0) (pa_cons (pv 6) pa_nil))) po_none (po_some (pv 9))))
(pss_one (ps_for PassesOwn.never rfl (pi_range1 rfl B.range (pa_cons (pv 9) pa_nil)) (pg_name (i := 11) nd rfl (by first | exact Or.inl rfl | exact Or.inr rfl))
(pss_one (ps_expr (n_bm (K := K) rfl PySem.F.plainAttrs_list PySem.F.slot_list_append PySem.F.type_list_append mt_append (pv 7) (pa_cons (pe_tup (pa_cons (pe_ix (n_ix (K := K) rfl) (pv 5) (pe_callB (n_len (K := K) rfl) rfl B.len bb_len (pa_cons (pv 7) pa_nil)) (fun _ _ => rfl)) (pa_cons (pe_ix (n_ix (K := K) rfl) (pv 10) (pv 11) (fun _ _ => rfl)) (pa_cons (pe_ix (n_ix (K := K) rfl) (pv 10) (pe_op op_mod (pe_callTy n_int rfl B.int bb_int (pa_cons (pe_op op_add (pv 11) pe_int) pa_nil)) (pv 9)) (fun _ _ => rfl)) pa_nil)))) pa_nil))))))))))
(pss_one (ps_ret (pe_cal c__law_shuffled (hr.mono (by decide)) rfl (pa_cons (pv 0) (pa_cons (pv 7) pa_nil))))))))))))),
  fun st ρ Φ h => ?_⟩
  rcases h with ⟨m, rfl, hm0, hm, hq⟩
  have sl : sizeLine = 16777216 := sizeLine_eq
  walk_at "nw"
  refine T_number_mk (by omega) (fun many h0 h1 => ?_)
  obtain ⟨mn, rfl⟩ : ∃ k : Nat, many = k := ⟨many.toNat, by omega⟩
  have hmn : (mn : Int) ≤ m := by omega
  walk_at "nw"
  refine T_take_mk (by omega) (fun r h2 h3 => ?_)
  obtain ⟨sv, hsv⟩ : ∃ k : Nat, 2 + r = k := ⟨(2 + r).toNat, by omega⟩
  have hs2 : 2 ≤ sv ∧ sv ≤ 5 := by omega
  walk_at "nw"
  rw [hsv]
  walk_at "nw"
  refine ds_asg ?_
  walk_at "nw"
  refine ⟨by show 0 ≤ sizeLine; omega, ?_⟩
  walk_at "nw"
  refine ⟨_, [], rfl, by omega, by show (mn : Int) + sv + 0 ≤ 600; omega, fun zs hz nd hn => ?_⟩
  have hzl : zs.length = mn + sv := by omega
  have nz : ∀ z ∈ zs, NameS z := fun z h => (hn z h).1
  walk_at "nw"
  refine ds_asg ?_
  walk_at "nw"
  refine dSlL_to ?_
  rw [← List.map_take]
  walk_at "nw"
  refine ds_asg ?_
  walk_at "nw"
  refine dSlL_from ?_
  rw [← List.map_drop]
  -- what comes behind the choice of places
  have rest : ∀ ps : List Str, ps.length = sv → ps.Nodup → (∀ z ∈ ps, NameS z) → DSt ⟨K, st⟩ (tSeq (tAsg (tLst tNil) (gName 7)) (tSeq (tFor (iRng1 (tCons (tVar 2) tNil)) (gName 8)
      (tSeq (tAsg (tCB (rNuC3 nuMin3) (tCons (tOp (rI0 fun i j => .int (i - j)) (tVar 2) (tCB (rLenK K) (tCons (tVar 7) tNil))) (tCons (tVar 3) (tCons (tOp (rI0 fun i j => .int (i + j)) (tC (.int 2)) (tCall (spD K T_take) [] E0 (tCons (tVar 0) (tCons (tC (.int 4)) tNil)))) tNil)))) (gName 9))
        (tSeq (tIfS (tTest (tOp (rI0 fun i j => .bl (decide (i < j))) (tVar 9) (tC (.int 2)))) tBreak tNext)
          (tSeq (tAsg (tSl (rSlL K) (tCall (spN K T_shuffled) [] E0 (tCons (tVar 0) (tCons (tVar 6) tNil))) tNoPart (tPart (tVar 9))) (gName 10))
            (tFor (iRng1 (tCons (tVar 9) tNil)) (gName 11) (tDrop (tBM K "list" rAppend (tVar 7) (tCons (tTup (tCons (tOp (rIx K) (tVar 5) (tCB (rLenK K) (tCons (tVar 7) tNil))) (tCons (tOp (rIx K) (tVar 10) (tVar 11)) (tCons (tOp (rIx K) (tVar 10) (tOp (rI (fun _ j => 0 < j) fun i j => .int (i % j)) (tCB rInt1 (tCons (tOp (rI0 fun i j => .int (i + j)) (tVar 11) (tC (.int 1))) tNil)) (tVar 9))) tNil)))) tNil))))))))
        (tRet (tCall (spN K T_shuffled) [] E0 (tCons (tVar 0) (tCons (tVar 7) tNil))))))
      [.sto, .dat (.int m), .dat (.int mn), .dat (.int sv), .dat (.lst (zs.map Dat.str)), .dat (.lst ((zs.take mn).map Dat.str)), .dat (.lst (ps.map Dat.str)), .no, .no, .no, .no, .no]
      { nx := fun _ => False, rt := fun _ _ => False, rn := fun ds _ => Φ ds } := by
    intro ps hps ndp np
    have fin : ∀ (rows : List Arr) (x y z w : Sl), DrawnOk zs mn rows → DSt ⟨K, st⟩ (tRet (tCall (spN K T_shuffled) [] E0 (tCons (tVar 0) (tCons (tVar 7) tNil))))
        [.sto, .dat (.int m), .dat (.int mn), .dat (.int sv), .dat (.lst (zs.map Dat.str)), .dat (.lst ((zs.take mn).map Dat.str)), .dat (.lst (ps.map Dat.str)), .own none (rows.map arrD), x, y, z, w]
        { nx := fun _ => False, rt := fun _ _ => False, rn := fun ds _ => Φ ds } := by
      intro rows x y z w hd
      have hle := hd.le
      refine ds_freeze (i := 7) rfl ?_
      refine ds_retN ?_
      walk_at "nw"
      refine ⟨_, .inl rfl, by rw [List.length_map]; omega, fun es hp => ?_⟩
      obtain ⟨rows', p', rfl⟩ := perm_map_inv hp
      exact hq rows' ((hd.web nd).perm p') (by rw [p'.length_eq]; omega)
    refine ds_seq ?_
    refine ds_asgN ?_
    walk_at "nw"
    refine ⟨by show 0 ≤ sizeLine; omega, ?_⟩
    walk_at "nw"
    refine ds_for1 ?_
    walk_at "nw"
    refine ⟨_, rfl, by omega, by omega, fun i ρ' => ∃ (rows : List Arr) (x y z w : Sl), ρ' = [.sto, .dat (.int m), .dat (.int mn), .dat (.int sv), .dat (.lst (zs.map Dat.str)), .dat (.lst ((zs.take mn).map Dat.str)), .dat (.lst (ps.map Dat.str)), .own none (rows.map arrD), x, y, z, w] ∧ DrawnOk zs mn rows, ?_, ?_, ?_⟩
    · exact ⟨[], _, _, _, _, rfl, ⟨fun a ha => (by cases ha), rfl, fun p => rfl, Nat.zero_le _⟩⟩
    · rintro i ρ' hi ⟨rows, x, y, z, w, rfl, hd⟩
      have hle := hd.le
      walk_at "nw"
      rw [List.length_map]
      refine T_take_mk (by omega) (fun r2 h4 h5 => ?_)
      walk_at "nw"
      generalize hsz : min (min ((mn : Int) - rows.length) (sv : Int)) (2 + r2) = size
      refine br (fun c => ?_) (fun c => ?_)
      · walk_at "nw"
        exact fin rows _ _ _ _ hd
      obtain ⟨sz, rfl⟩ : ∃ k : Nat, size = k := ⟨size.toNat, by omega⟩
      have z2 : 2 ≤ sz := by omega
      have z3 : sz ≤ sv := by omega
      have z4 : rows.length + sz ≤ mn := by omega
      walk_at "nw"
      refine ds_asg ?_
      walk_at "nw"
      refine ⟨_, .inl rfl, by rw [List.length_map]; omega, fun es hp => ?_⟩
      obtain ⟨qs, p', rfl⟩ := perm_map_inv hp
      walk_at "nw"
      refine dSlL_to ?_
      rw [← List.map_take]
      have hr : (qs.take sz).length = sz := by rw [List.length_take, p'.length_eq, hps]; omega
      have ndr : (qs.take sz).Nodup := (p'.nodup_iff.mpr ndp).sublist (List.take_sublist _ _)
      have nr : ∀ z ∈ qs.take sz, NameS z := fun z hz => np z (p'.mem_iff.mp (List.mem_of_mem_take hz))
      generalize qs.take sz = rg at *
      walk_at "nw"
      refine ds_for1 ?_
      walk_at "nw"
      refine ⟨_, rfl, by omega, by omega, fun j ρ' => ∃ (x y w : Sl), ρ' = [.sto, .dat (.int m), .dat (.int mn), .dat (.int sv), .dat (.lst (zs.map Dat.str)), .dat (.lst ((zs.take mn).map Dat.str)), .dat (.lst (ps.map Dat.str)), .own none ((rows ++ rgL zs rg rows.length j).map arrD), x, .dat (.int sz), .dat (.lst (rg.map Dat.str)), w], ?_, ?_, ?_⟩
      · show ∃ (x y w : Sl), _ = [.sto, .dat (.int m), .dat (.int mn), .dat (.int sv), .dat (.lst (zs.map Dat.str)), .dat (.lst ((zs.take mn).map Dat.str)), .dat (.lst (ps.map Dat.str)), Sl.own none ((rows ++ []).map arrD), x, .dat (.int sz), .dat (.lst (rg.map Dat.str)), w]
        rw [List.append_nil]
        exact ⟨_, .no, _, rfl⟩
      · rintro j ρ' hj ⟨x, y, w, rfl⟩
        have hj' : j < rg.length := by omega
        have hlen : (rows ++ rgL zs rg rows.length j).length = rows.length + j := by rw [List.length_append, rgL_len]
        have hbx : (zs.take mn)[rows.length + j]? = some (nth zs (rows.length + j)) := by
          rw [List.getElem?_take, if_pos (by omega)]
          exact nth_at (by omega)
        walk_at "nw"
        rw [List.length_map, hlen]
        refine dIx_l (show atI _ ((rows.length + j : Nat) : Int) = some (.str (nth zs (rows.length + j))) from atI_nat (by rw [List.getElem?_map, hbx]; rfl)) ?_
        walk_at "nw"
        refine dIx_l (atI_nat (by rw [List.getElem?_map, nth_at hj']; rfl)) ?_
        walk_at "nw"
        have hmod : ((j : Int) + 1) % (sz : Int) = (((j + 1) % rg.length : Nat) : Int) := by
          rw [hr, Int.natCast_emod]; rfl
        have hmr : (j + 1) % rg.length < rg.length := Nat.mod_lt _ (by omega)
        rw [hmod]
        refine dIx_l (atI_nat (by rw [List.getElem?_map, nth_at hmr]; rfl)) ?_
        walk_at "nw"
        refine ⟨by show 3 ≤ sizeLine; omega, by omega, ?_⟩
        show ∃ (x y w : Sl), _ = [.sto, .dat (.int m), .dat (.int mn), .dat (.int sv), .dat (.lst (zs.map Dat.str)), .dat (.lst ((zs.take mn).map Dat.str)), .dat (.lst (ps.map Dat.str)), Sl.own none ((rows ++ (rgL zs rg rows.length j ++ [rgF zs rg rows.length j])).map arrD), x, .dat (.int sz), .dat (.lst (rg.map Dat.str)), w]
        have eL : ∀ (L : List Arr) (a : Arr), (rows ++ (L ++ [a])).map arrD = (rows ++ L).map arrD ++ [arrD a] := fun L a => by
          rw [← List.append_assoc, List.map_append]; rfl
        rw [eL]
        exact ⟨_, .no, _, rfl⟩
      · rintro ρ' ⟨x, y, w, rfl⟩
        rw [Int.toNat_natCast]
        have hd' := hd.ring (r := rg) (by omega) nz nr ndr (by omega) (by omega)
        rw [hr] at hd'
        exact ⟨_, _, _, _, _, rfl, hd'⟩
    · rintro ρ' ⟨rows, x, y, z, w, rfl, hd⟩
      exact fin rows _ _ _ _ hd
  walk_at "nw"
  refine T_take_mk (by omega) (fun r2 h4 h5 => ?_)
  walk_at "nw"
  refine br (fun c => ?_) (fun c => ?_)
  · refine ds_asg ?_
    walk_at "nw"
    refine ⟨_, .inl rfl, by rw [List.length_map]; omega, fun es hp => ?_⟩
    obtain ⟨qs, p', rfl⟩ := perm_map_inv hp
    walk_at "nw"
    refine dSlL_to ?_
    rw [← List.map_take]
    exact rest (qs.take sv) (by rw [List.length_take, p'.length_eq]; omega) ((p'.nodup_iff.mpr nd).sublist (List.take_sublist _ _)) (fun z hz => nz z (p'.mem_iff.mp (List.mem_of_mem_take hz)))
  · refine ds_next ?_
    exact rest (zs.drop mn) (by rw [List.length_drop]; omega) (nd.sublist (List.drop_sublist _ _)) (fun z hz => nz z (List.mem_of_mem_drop hz))
abbrev s__law_rows : Stmt := (top 46)
theorem sc__law_rows : FnScope ["_law_store_here", "_law_most", "_law_many", "_law_places", "_law_boxes", "_law_begins", "_law_ends", "_law_rows_here", "_law_k", "_law_row"] ["_law_store_here", "_law_most"] (defScope s__law_rows) := ⟨rfl, rfl, rfl, by decide +kernel, rfl, by decide +kernel, by decide +kernel⟩
theorem ok__law_rows {f : Addr} {fd : FuncData} (B : Bi mg) (c__law_take : Cal P w K mg base 2 "_law_take" ["_law_store_here", "_law_many"] (spD K T_take)) (c__law_arrows : Cal P w K mg base 6 "_law_arrows" ["_law_store_here", "_law_most"] (spN K T_arrows)) (c__law_number : Cal P w K mg base 3 "_law_number" ["_law_store_here", "_law_low", "_law_high"] (spD K T_number)) (c__law_names : Cal P w K mg base 5 "_law_names" ["_law_store_here", "_law_many", "_law_taken"] (spN K T_names)) (c__law_pick : Cal P w K mg base 3 "_law_pick" ["_law_store_here", "_law_row"] (spD K T_pick)) (c__law_shuffled : Cal P w K mg base 3 "_law_shuffled" ["_law_store_here", "_law_row"] (spN K T_shuffled)) (F : FnP K "_law_rows" s__law_rows f fd) : FnOk P w K mg base CX0 7 f fd ["_law_store_here", "_law_most"] (spN K T_rows) := by
  have nd := sc__law_rows.nd
  refine fn_N F sc__law_rows (fun ρ Φ h => by rcases h with ⟨m, rfl, hm0, hm, hq⟩ <;> rfl) fun cdv A outer s H E hr => ⟨_,
(pss_cons (ps_if (pt_cmpR op_eq (pe_cal c__law_take (hr.mono (by decide)) rfl (pa_cons (pv 0) (pa_cons pe_int pa_nil))) pe_int (nomark _))
(pss_one (ps_ret (pe_cal c__law_arrows (hr.mono (by decide)) rfl (pa_cons (pv 0) (pa_cons (pv 1) pa_nil)))))
pss_nil)
(pss_cons (ps_set (i := 2) nd rfl (by first | exact Or.inl rfl | exact Or.inr rfl) (pe_cal c__law_number (hr.mono (by decide)) rfl (pa_cons (pv 0) (pa_cons pe_int (pa_cons (pv 1) pa_nil)))))
(pss_cons (ps_set (i := 3) nd rfl (by first | exact Or.inl rfl | exact Or.inr rfl) (pe_cal c__law_names (hr.mono (by decide)) rfl (pa_cons (pv 0) (pa_cons (pe_op op_add pe_int (pe_cal c__law_take (hr.mono (by decide)) rfl (pa_cons (pv 0) (pa_cons (pv 1) pa_nil)))) (pa_cons (pe_lst pa_nil) pa_nil)))))
(pss_cons (ps_set (i := 4) nd rfl (by first | exact Or.inl rfl | exact Or.inr rfl) (pe_cal c__law_names (hr.mono (by decide)) rfl (pa_cons (pv 0) (pa_cons (pv 2) (pa_cons (pe_lst pa_nil) pa_nil)))))
(pss_cons (ps_set (i := 5) nd rfl (by first | exact Or.inl rfl | exact Or.inr rfl) (pe_lc (own := [("_law_k", 8)]) (g := (gName 8)) rfl nd (pi_range1 rfl B.range (pa_cons (pv 2) pa_nil)) (blkOk_by (own := [("_law_k", 8)]) (N := ["_law_store_here", "_law_most", "_law_many", "_law_places", "_law_boxes", "_law_begins", "_law_ends", "_law_rows_here", "_law_k", "_law_row"]) (sc := (defScope s__law_rows)) (by decide +kernel)) (fun _ _ _ _ _ => (pg_name (i := 8) nd rfl (by first | exact Or.inl rfl | exact Or.inr rfl))) (fun _ _ _ _ _ => pts_nil) (fun _ _ _ _ _ => (pe_cal c__law_pick (hr.mono (by decide)) rfl (pa_cons (pv 0) (pa_cons (pv 3) pa_nil))))))
(pss_cons (ps_set (i := 6) nd rfl (by first | exact Or.inl rfl | exact Or.inr rfl) (pe_cal c__law_shuffled (hr.mono (by decide)) rfl (pa_cons (pv 0) (pa_cons (pv 5) pa_nil))))
(pss_cons (ps_setLc (i := 7) (own := [("_law_k", 8)]) (g := (gName 8)) rfl nd rfl rfl (sw_true rfl rfl rfl (by decide +kernel)) (pi_range1 rfl B.range (pa_cons (pv 2) pa_nil)) (blkOk_by (own := [("_law_k", 8)]) (N := ["_law_store_here", "_law_most", "_law_many", "_law_places", "_law_boxes", "_law_begins", "_law_ends", "_law_rows_here", "_law_k", "_law_row"]) (sc := (defScope s__law_rows)) (by decide +kernel)) (fun _ _ _ _ _ => (pg_name (i := 8) nd rfl (by first | exact Or.inl rfl | exact Or.inr rfl))) (fun _ _ _ _ _ => pts_nil) (fun _ _ _ _ _ => (pe_tup (pa_cons (pe_ix (n_ix (K := K) rfl) (pv 4) (pv 8) (fun _ _ => rfl)) (pa_cons (pe_ix (n_ix (K := K) rfl) (pv 5) (pv 8) (fun _ _ => rfl)) (pa_cons (pe_ix (n_ix (K := K) rfl) (pv 6) (pv 8) (fun _ _ => rfl)) pa_nil))))))
(pss_one (ps_ret (pe_lc (own := [("_law_row", 9)]) (g := (gName 9)) rfl nd (n_pil (K := K) rfl (pv 7)) (blkOk_by (own := [("_law_row", 9)]) (N := ["_law_store_here", "_law_most", "_law_many", "_law_places", "_law_boxes", "_law_begins", "_law_ends", "_law_rows_here", "_law_k", "_law_row"]) (sc := (defScope s__law_rows)) (by decide +kernel)) (fun _ _ _ _ _ => (pg_name (i := 9) nd rfl (by first | exact Or.inl rfl | exact Or.inr rfl))) (fun _ _ _ _ _ => (pts_one (pt_cmpR op_ne (pe_ix (n_ix (K := K) rfl) (pv 9) pe_int (fun _ _ => rfl)) (pe_ix (n_ix (K := K) rfl) (pv 9) pe_int (fun _ _ => rfl)) (nomark _)))) (fun _ _ _ _ _ => (pv 9)))))))))))),
  fun st ρ Φ h => ?_⟩
  rcases h with ⟨m, rfl, hm0, hm, hq⟩
  have sl : sizeLine = 16777216 := sizeLine_eq
  walk_at "nw"
  refine T_take_mk (by omega) (fun r h0 h1 => ?_)
  walk_at "nw"
  refine br (fun c => ?_) (fun c => ?_)
  · refine ds_retN ?_
    walk_at "nw"
    exact ⟨m, rfl, hm0, hm, hq⟩
  walk_at "nw"
  refine T_number_mk (by omega) (fun many h2 h3 => ?_)
  obtain ⟨mn, rfl⟩ : ∃ k : Nat, many = k := ⟨many.toNat, by omega⟩
  have hmn : (mn : Int) ≤ m := by omega
  walk_at "nw"
  refine ds_asg ?_
  walk_at "nw"
  refine T_take_mk (by omega) (fun r2 h4 h5 => ?_)
  walk_at "nw"
  refine ⟨by show 0 ≤ sizeLine; omega, ?_⟩
  walk_at "nw"
  refine ⟨_, [], rfl, by omega, by show (2 : Int) + r2 + 0 ≤ 600; omega, fun ps hps ndp hnp => ?_⟩
  walk_at "nw"
  refine ds_asg ?_
  walk_at "nw"
  refine ⟨by show 0 ≤ sizeLine; omega, ?_⟩
  walk_at "nw"
  refine ⟨_, [], rfl, by omega, by show (mn : Int) + 0 ≤ 600; omega, fun zs hzs ndz hnz => ?_⟩
  have hzl : zs.length = mn := by omega
  walk_at "nw"
  refine ds_asg (ev_of_n (en_lc1 rfl ?_))
  walk_at "nw"
  refine ⟨_, rfl, by omega, by omega, fun i acc => ∃ bs : List Str, acc = bs.map Dat.str ∧ bs.length = i ∧ ∀ b ∈ bs, NameS b, ⟨[], rfl, rfl, fun b hb => by cases hb⟩, ?_, ?_⟩
  · rintro i acc hi ⟨bs, rfl, hl, hb⟩
    walk_at "nw"
    refine .inl ⟨ps.map Dat.str, .inl rfl, ?_, by rw [List.length_map]; omega, ?_⟩
    · intro z
      have := congrArg List.length z
      rw [List.length_map] at this
      have h0 : ([] : List Dat).length = 0 := rfl
      omega
    · intro d hd
      obtain ⟨z, hz, rfl⟩ := List.mem_map.mp hd
      refine ⟨by rw [List.length_map]; omega, bs ++ [z], by rw [List.map_append]; rfl, by rw [List.length_append]; show _ + 1 = _; omega, fun b hb' => ?_⟩
      rcases List.mem_append.mp hb' with q | q
      · exact hb b q
      · rw [List.mem_singleton.mp q]; exact (hnp z hz).1
  rintro acc ⟨bs, rfl, hbl, hb⟩
  have hbl' : bs.length = mn := by omega
  walk_at "nw"
  refine ds_asg ?_
  walk_at "nw"
  refine ⟨_, .inl rfl, by rw [List.length_map]; omega, fun es hp => ?_⟩
  obtain ⟨cs, p', rfl⟩ := perm_map_inv hp
  have hcl : cs.length = mn := by rw [p'.length_eq]; exact hbl'
  walk_at "nw"
  refine ds_asg (ev_of_n (en_lc1 rfl ?_))
  walk_at "nw"
  refine ⟨_, rfl, by omega, by omega, fun i acc => acc = ((List.range i).map fun t => (nth zs t, nth bs t, nth cs t)).map arrD, rfl, ?_, ?_⟩
  · rintro i acc hi rfl
    have hi' : i < mn := by omega
    walk_at "nw"
    refine dIx_l (atI_nat (by rw [List.getElem?_map, nth_at (show i < zs.length by omega)]; rfl)) ?_
    walk_at "nw"
    refine dIx_l (atI_nat (by rw [List.getElem?_map, nth_at (show i < bs.length by omega)]; rfl)) ?_
    walk_at "nw"
    refine dIx_l (atI_nat (by rw [List.getElem?_map, nth_at (show i < cs.length by omega)]; rfl)) ?_
    walk_at "nw"
    refine ⟨by show 3 ≤ sizeLine; omega, by rw [List.length_map, List.length_map, List.length_range]; omega, ?_⟩
    show _ = ((List.range (i + 1)).map fun t => (nth zs t, nth bs t, nth cs t)).map arrD
    rw [List.range_succ, List.map_append, List.map_append]
    rfl
  rintro acc rfl
  rw [Int.toNat_natCast]
  generalize hrows : (List.range mn).map (fun t => (nth zs t, nth bs t, nth cs t)) = rows
  have rl : rows.length = mn := by rw [← hrows, List.length_map, List.length_range]
  have e1 : rows.map (·.1) = zs := by
    rw [← hrows, List.map_map]
    refine List.ext_getElem (by rw [List.length_map, List.length_range]; omega) fun i h1 h2 => ?_
    rw [List.getElem_map, List.getElem_range]
    show nth zs i = _
    unfold nth
    rw [List.getElem?_eq_getElem h2]; rfl
  have e2 : rows.map (·.2.1) = bs := by
    rw [← hrows, List.map_map]
    refine List.ext_getElem (by rw [List.length_map, List.length_range]; omega) fun i h1 h2 => ?_
    rw [List.getElem_map, List.getElem_range]
    show nth bs i = _
    unfold nth
    rw [List.getElem?_eq_getElem h2]; rfl
  have e3 : rows.map (·.2.2) = cs := by
    rw [← hrows, List.map_map]
    refine List.ext_getElem (by rw [List.length_map, List.length_range]; omega) fun i h1 h2 => ?_
    rw [List.getElem_map, List.getElem_range]
    show nth cs i = _
    unfold nth
    rw [List.getElem?_eq_getElem h2]; rfl
  walk_at "nw"
  refine ds_retN ?_
  refine en_lcL rfl ?_
  walk_at "nw"
  refine ⟨_, rfl, fun j acc => acc = ((rows.take j).filter fun a => !decide (a.2.1 = a.2.2)).map arrD, rfl, ?_, ?_⟩
  · rintro j d acc hd rfl
    obtain ⟨a, ha, rfl⟩ := map_get hd
    have hj : j < rows.length := (List.getElem?_eq_some_iff.mp ha).1
    have hfl : ((rows.take j).filter fun a => !decide (a.2.1 = a.2.2)).length ≤ j := Nat.le_trans (List.length_filter_le _ _) (by rw [List.length_take]; omega)
    walk_at "nw"
    refine br_not (fun c => ?_) (fun c => ?_)
    · walk_at "nw"
      refine ⟨by rw [List.length_map]; omega, ?_⟩
      show _ = ((rows.take (j + 1)).filter fun a => !decide (a.2.1 = a.2.2)).map arrD
      rw [fil_t ha (by rw [decide_eq_false c]; rfl), List.map_append]
      rfl
    · show _ = ((rows.take (j + 1)).filter fun a => !decide (a.2.1 = a.2.2)).map arrD
      rw [fil_f ha (by rw [decide_eq_true c]; exact Bool.false_ne_true)]
  rintro acc rfl
  rw [List.length_map, List.take_length]
  have hfl : (rows.filter fun a => !decide (a.2.1 = a.2.2)).length ≤ rows.length := List.length_filter_le _ _
  refine hq _ (filter_web ?_ ?_ ?_) (by omega)
  · intro a ha
    refine ⟨(hnz _ (by rw [← e1]; exact List.mem_map.mpr ⟨a, ha, rfl⟩)).1, hb _ (by rw [← e2]; exact List.mem_map.mpr ⟨a, ha, rfl⟩), hb _ (p'.mem_iff.mp (by rw [← e3]; exact List.mem_map.mpr ⟨a, ha, rfl⟩))⟩
  · rw [e1]; exact ndz
  · rw [e2, e3]; exact p'.symm
abbrev s__law_row_of : Stmt := (top 35)
theorem sc__law_row_of : FnScope ["_law_store_here", "_law_row"] ["_law_store_here", "_law_row"] (defScope s__law_row_of) := ⟨rfl, rfl, rfl, by decide +kernel, rfl, by decide +kernel, by decide +kernel⟩
theorem ok__law_row_of {f : Addr} {fd : FuncData} (B : Bi mg) (c__law_take : Cal P w K mg base 2 "_law_take" ["_law_store_here", "_law_many"] (spD K T_take)) (F : FnP K "_law_row_of" s__law_row_of f fd) : FnOk P w K mg base CX0 3 f fd ["_law_store_here", "_law_row"] (spE K T_row_of) := by
  have nd := sc__law_row_of.nd
  refine fn_E F sc__law_row_of (fun ρ Φ Ψ h => by rcases h with ⟨ds, rfl | rfl, hN, hD⟩ <;> rfl) fun cdv A outer s H E hr => ⟨_,
(pss_cons (ps_if (pt_cmpR op_eq (pe_cal c__law_take (hr.mono (by decide)) rfl (pa_cons (pv 0) (pa_cons pe_int pa_nil))) pe_int (nomark _))
(pss_one (ps_ret (pe_callTy (n_list (K := K) rfl) rfl B.list bb_list (pa_cons (pv 1) pa_nil))))
pss_nil)
(pss_one (ps_ret (pe_callTy (n_tuple (K := K) rfl) rfl B.tuple bb_tuple (pa_cons (pv 1) pa_nil))))),
  fun st ρ Φ Ψ h => ?_⟩
  rcases h with ⟨ds, rfl | rfl, hN, hD⟩
  · walk_at "nw"
    refine T_take_mk (by omega) (fun r h0 h3 => ?_)
    walk_at "nw"
    refine br (fun c => ?_) (fun c => ?_)
    · refine ds_retN ?_
      walk_at "nw"
      exact hN
    · walk_at "nw"
      exact hD
  · walk_at "nw"
    refine T_take_mk (by omega) (fun r h0 h3 => ?_)
    walk_at "nw"
    refine br (fun c => ?_) (fun c => ?_)
    · refine ds_retN ?_
      walk_at "nw"
      exact hN
    · walk_at "nw"
      exact hD
abbrev s_is_name : Stmt := (top 13)
theorem sc_is_name : FnScope ["text", "sign"] ["text"] (defScope s_is_name) := ⟨rfl, rfl, rfl, by decide +kernel, rfl, by decide +kernel, by decide +kernel⟩
theorem ok_is_name {f : Addr} {fd : FuncData} (B : Bi mg) (k_LETTERS : ∃ t, mg "LETTERS" = some (.str ("abcdefghijklmnopqrstuvwxyz" : Str) t)) (k_SIGNS : ∃ t, mg "SIGNS" = some (.str ("abcdefghijklmnopqrstuvwxyz0123456789" : Str) t)) (k_MOST_SIGNS : ∃ t, mg "MOST_SIGNS" = some (.int 8 t)) (F : FnP K "is_name" s_is_name f fd) : FnOk P w K mg base CX0 1 f fd ["text"] (spD K T_is_name) := by
  have nd := sc_is_name.nd
  obtain ⟨t_LETTERS, g_LETTERS⟩ := k_LETTERS
  obtain ⟨t_SIGNS, g_SIGNS⟩ := k_SIGNS
  obtain ⟨t_MOST_SIGNS, g_MOST_SIGNS⟩ := k_MOST_SIGNS
  refine fn_D F sc_is_name (fun ρ Φ h => by rcases h with ⟨z, rfl, hz, hy, hn⟩ <;> rfl) fun cdv A outer s H E hr => ⟨_,
(pss_cons (ps_if (PW.pt (pw_or (pt_not (pt_val (pe_callB (n_isi (K := K) rfl) rfl B.isinstance bb_isinstance (pa_cons (pv 0) (pa_cons (pe_bltn rfl B.str bb_str (v := .ty "str") rfl) pa_nil))))) (pw_or1 (pt_not (pt_chain op_le op_le pe_int (pe_callB (n_len (K := K) rfl) rfl B.len bb_len (pa_cons (pv 0) pa_nil)) (pe_glob (v := .int 8) rfl g_MOST_SIGNS ⟨_, rfl⟩))))))
(pss_one (ps_ret pe_bl))
pss_nil)
(pss_cons (ps_if (pt_cmpR n_niC (pe_ix (n_ix (K := K) rfl) (pv 0) pe_int (fun _ _ => rfl)) (pe_glob (v := .str ("abcdefghijklmnopqrstuvwxyz" : Str)) rfl g_LETTERS ⟨_, rfl⟩) rfl)
(pss_one (ps_ret pe_bl))
pss_nil)
(pss_cons (ps_for PassesOwn.never rfl (pi_str (pv 0)) (pg_name (i := 1) nd rfl (by first | exact Or.inl rfl | exact Or.inr rfl))
(pss_one (ps_if (pt_cmpR n_niC (pv 1) (pe_glob (v := .str ("abcdefghijklmnopqrstuvwxyz0123456789" : Str)) rfl g_SIGNS ⟨_, rfl⟩) rfl)
(pss_one (ps_ret pe_bl))
pss_nil)))
(pss_one (ps_ret pe_bl))))),
  fun st ρ Φ h => ?_⟩
  rcases h with ⟨z, rfl, hz, hy, hn⟩
  have hz' : z.length ≤ 16777216 := hz
  walk_at "nw"
  refine dLen_s hz ?_
  walk_at "nw"
  have el := l_len z
  refine br (fun c1 => ?_) (fun c1 => ?_)
  rotate_left
  · walk_at "nw"
    exact hn fun q => by have := q.len; omega
  walk_at "nw"
  refine br_not (fun c2 => ?_) (fun c2 => ?_)
  · walk_at "nw"
    exact hn fun q => by have := q.len; omega
  walk_at "nw"
  obtain ⟨c, t, ez⟩ : ∃ c t, Str.l z = c :: t := by
    cases e : Str.l z with
    | nil => rw [e] at el; simp at el; omega
    | cons c t => exact ⟨c, t, rfl⟩
  refine dIx_s hz (show atI (Str.l z) ((0 : Nat) : Int) = some c from atI_nat (by rw [ez]; rfl)) ?_
  walk_at "nw"
  refine br_not (fun c3 => ?_) (fun c3 => ?_)
  · walk_at "nw"
    refine hn fun q => c3 (mem_letters.mpr ?_)
    obtain ⟨h, t', e, hl, _⟩ := q
    rw [ez] at e
    cases e
    exact hl
  walk_at "nw"
  refine ds_forS ?_
  walk_at "nw"
  refine ⟨z, rfl, fun i ρ' => (∃ x, ρ' = [.dat (.str z), x]) ∧ ∀ (j d : Nat), j < i → (Str.l z)[j]? = some d → sgn d, ⟨⟨_, rfl⟩, fun j d hj => by omega⟩, ?_, ?_⟩
  · rintro i d ρ' hd ⟨⟨x, rfl⟩, ha⟩
    walk_at "nw"
    refine br_not (fun c4 => ?_) (fun c4 => ?_)
    · walk_at "nw"
      refine hn fun q => c4 (mem_signs.mpr ?_)
      exact NameL.all q d (List.mem_of_getElem? hd)
    · walk_at "nw"
      refine ⟨⟨_, rfl⟩, fun j e hj he => ?_⟩
      by_cases q : j = i
      · subst q
        have hd' : (Str.l z)[j]? = some d := hd
        rw [hd'] at he
        cases he
        exact mem_signs.mp c4
      · exact ha j e (by omega) he
  · rintro ρ' ⟨⟨x, rfl⟩, ha⟩
    walk_at "nw"
    refine hy (NameL.mk (by rw [ez]; intro z; cases z) (by omega) (fun d hd => ?_) fun d hd => ?_)
    · rw [ez] at hd
      cases hd
      exact mem_letters.mp c3
    · obtain ⟨j, hj, e⟩ := List.mem_iff_getElem.mp hd
      exact ha j d (by omega) (by rw [List.getElem?_eq_getElem hj, e])
abbrev s_valid_name : Stmt := (top 14)
theorem sc_valid_name : FnScope ["name"] ["name"] (defScope s_valid_name) := ⟨rfl, rfl, rfl, by decide +kernel, rfl, by decide +kernel, by decide +kernel⟩
theorem ok_valid_name {f : Addr} {fd : FuncData} (B : Bi mg) (c_is_name : Cal P w K mg base 1 "is_name" ["text"] (spD K T_is_name)) (F : FnP K "valid_name" s_valid_name f fd) : FnOk P w K mg base CX0 2 f fd ["name"] (spD K T_valid_name) := by
  have nd := sc_valid_name.nd
  refine fn_D F sc_valid_name (fun ρ Φ h => by rcases h with ⟨z, rfl, hz, hq⟩ <;> rfl) fun cdv A outer s H E hr => ⟨_,
(pss_cons (ps_if (pt_not (pt_val (pe_cal c_is_name (hr.mono (by decide)) rfl (pa_cons (pv 0) pa_nil))))
(pss_one ps_never)
pss_nil)
(pss_one (ps_ret (pv 0)))),
  fun st ρ Φ h => ?_⟩
  rcases h with ⟨z, rfl, hz, hq⟩
  walk_at "nw"
  refine T_is_name_mk hz ?_
  walk_at "nw"
  exact hq
abbrev s_require_arrow : Stmt := (top 17)
theorem sc_require_arrow : FnScope ["arrow", "known", "box", "begin", "end"] ["arrow", "known"] (defScope s_require_arrow) := ⟨rfl, rfl, rfl, by decide +kernel, rfl, by decide +kernel, by decide +kernel⟩
theorem ok_require_arrow {f : Addr} {fd : FuncData} (B : Bi mg) (c_valid_name : Cal P w K mg base 2 "valid_name" ["name"] (spD K T_valid_name)) (F : FnP K "require_arrow" s_require_arrow f fd) : FnOk P w K mg base CX0 3 f fd ["arrow", "known"] (spD K T_require_arrow) := by
  have nd := sc_require_arrow.nd
  refine fn_D F sc_require_arrow (fun ρ Φ h => by rcases h with ⟨a, rows, rfl, ha, hn, hq⟩ <;> rfl) fun cdv A outer s H E hr => ⟨_,
(pss_cons (ps_asg (pv 0) (n_gtup (K := K) (n := 3) (t := gNames [2, 3, 4]) rfl rfl (pgs_cons (pg_name (i := 2) nd rfl (by first | exact Or.inl rfl | exact Or.inr rfl)) (pgs_cons (pg_name (i := 3) nd rfl (by first | exact Or.inl rfl | exact Or.inr rfl)) (pgs_cons (pg_name (i := 4) nd rfl (by first | exact Or.inl rfl | exact Or.inr rfl)) pgs_nil)))))
(pss_cons (ps_expr (pe_cal c_valid_name (hr.mono (by decide)) rfl (pa_cons (pv 2) pa_nil)))
(pss_cons (ps_expr (pe_cal c_valid_name (hr.mono (by decide)) rfl (pa_cons (pv 3) pa_nil)))
(pss_cons (ps_expr (pe_cal c_valid_name (hr.mono (by decide)) rfl (pa_cons (pv 4) pa_nil)))
(pss_cons (ps_if (pt_cmp (pc_din hr.u1 (pv 2) (pv 1)) rfl)
(pss_one ps_never)
pss_nil)
(pss_one (ps_if (pt_cmpR op_eq (pv 3) (pv 4) (nomark _))
(pss_one ps_never)
pss_nil))))))),
  fun st ρ Φ h => ?_⟩
  rcases h with ⟨a, rows, rfl, ha, hn, hq⟩
  walk_at "nw"
  refine ⟨rfl, rfl, ?_⟩
  walk_at "nw"
  refine T_valid_name_mk ha.n1 ?_
  walk_at "nw"
  refine T_valid_name_mk ha.n2 ?_
  walk_at "nw"
  refine T_valid_name_mk ha.n3 ?_
  walk_at "nw"
  rw [valD_none.mpr hn]
  refine iteF ?_
  walk_at "nw"
  refine br (fun c => absurd c ha.ne) (fun c => ?_)
  walk_at "nw"
  exact hq
abbrev s_require_balance : Stmt := (top 18)
theorem sc_require_balance : FnScope ["rows", "surplus", "row", "place"] ["rows"] (defScope s_require_balance) := ⟨rfl, rfl, rfl, by decide +kernel, rfl, by decide +kernel, by decide +kernel⟩
theorem ok_require_balance {f : Addr} {fd : FuncData} (B : Bi mg) (F : FnP K "require_balance" s_require_balance f fd) : FnOk P w K mg base CX0 1 f fd ["rows"] (spD K T_require_balance) := by
  have nd := sc_require_balance.nd
  refine fn_D F sc_require_balance (fun ρ Φ h => by rcases h with ⟨rows, rfl, hw, hl, hq⟩ <;> rfl) fun cdv A outer s H E hr => ⟨_,
(pss_cons (ps_set (i := 1) nd rfl (by first | exact Or.inl rfl | exact Or.inr rfl) pe_dnewK)
(pss_cons (ps_for PassesOwn.never rfl (n_pil (K := K) rfl (pv 0)) (pg_name (i := 2) nd rfl (by first | exact Or.inl rfl | exact Or.inr rfl))
(pss_cons (ps_dput hr.u1 (pv 1) (pe_ix (n_ix (K := K) rfl) (pv 2) pe_int (fun _ _ => rfl)) (pe_op op_add (pe_dget2 hr.u1 (pv 1) (pe_ix (n_ix (K := K) rfl) (pv 2) pe_int (fun _ _ => rfl)) pe_int ⟨rfl, rfl, rfl, rfl⟩) pe_int) rfl)
(pss_one (ps_dput hr.u1 (pv 1) (pe_ix (n_ix (K := K) rfl) (pv 2) pe_int (fun _ _ => rfl)) (pe_op op_sub (pe_dget2 hr.u1 (pv 1) (pe_ix (n_ix (K := K) rfl) (pv 2) pe_int (fun _ _ => rfl)) pe_int ⟨rfl, rfl, rfl, rfl⟩) pe_int) rfl))))
(pss_one (ps_for PassesOwn.never rfl (n_pil (K := K) rfl (pe_callB (n_sortedD rfl) rfl B.sorted bb_sorted (pa_cons (pv 1) pa_nil))) (pg_name (i := 3) nd rfl (by first | exact Or.inl rfl | exact Or.inr rfl))
(pss_one (ps_if (pt_cmpR op_ne (n_dget (K := K) rfl hr.u1 (pv 1) (pv 3)) pe_int (nomark _))
(pss_one ps_never)
pss_nil)))))),
  fun st ρ Φ h => ?_⟩
  rcases h with ⟨rows, rfl, hw, hl, hq⟩
  walk_at "nw"
  refine ds_forL ?_
  walk_at "nw"
  refine ⟨_, rfl, fun i ρ' => ∃ (kvs : List (Key × Dat)) (x : Sl) (f : Str → Int), ρ' = [.dat (.lst (rows.map arrD)), .ownK kvs, x, .no] ∧ IntD kvs f ∧ kvs.length ≤ 2 * i ∧ ∀ p, f p = begs (rows.take i) p - ends (rows.take i) p, ?_, ?_, ?_⟩
  · exact ⟨[], _, _, rfl, IntD.nil, Nat.le_refl _, fun p => rfl⟩
  · rintro i d ρ' hd ⟨kvs, x, f, rfl, hk, hz, hf⟩
    obtain ⟨a, ha, rfl⟩ := map_get hd
    have hi : i < rows.length := (List.getElem?_eq_some_iff.mp ha).1
    walk_at "nw"
    refine ⟨_, rfl, ?_⟩
    walk_at "nw"
    refine ⟨_, rfl, ?_⟩
    rw [hk.val]
    walk_at "nw"
    refine ⟨_, rfl, by rw [sizeLine_eq]; omega, ?_⟩
    have hk1 := hk.put a.2.1 (f a.2.1 + 1)
    have l1 := putD_len (kvs := kvs) (k := .inr a.2.1) (v := .int (f a.2.1 + 1))
    walk_at "nw"
    refine ⟨_, rfl, ?_⟩
    walk_at "nw"
    refine ⟨_, rfl, ?_⟩
    rw [hk1.val]
    walk_at "nw"
    refine ⟨_, rfl, by rw [sizeLine_eq]; omega, ?_⟩
    have l2 := putD_len (kvs := putD kvs (.inr a.2.1) (.int (f a.2.1 + 1))) (k := .inr a.2.2) (v := .int ((if a.2.2 = a.2.1 then f a.2.1 + 1 else f a.2.2) - 1))
    refine ⟨_, _, _, rfl, hk1.put a.2.2 _, by omega, fun p => ?_⟩
    rw [begs_take ha, ends_take ha]
    have q := hf p
    by_cases e2 : p = a.2.2
    · by_cases e1 : p = a.2.1
      · subst e1
        rw [if_pos e2, if_pos e2.symm, if_pos rfl, if_pos e2]; omega
      · subst e2
        rw [if_pos rfl, if_neg e1, if_neg e1, if_pos rfl]; omega
    · rw [if_neg e2, if_neg e2]
      by_cases e1 : p = a.2.1
      · subst e1
        rw [if_pos rfl, if_pos rfl]; omega
      · rw [if_neg e1, if_neg e1]; omega
  · rintro ρ' ⟨kvs, x, f, rfl, hk, hz, hf⟩
    rw [List.length_map] at hf hz
    obtain ⟨zs, ek, nd⟩ := hk.ks
    have lz : zs.length = kvs.length := by
      have := congrArg List.length ek
      rw [List.length_map, List.length_map] at this
      exact this.symm
    walk_at "nw"
    refine ds_forL ?_
    walk_at "nw"
    refine ⟨zs, ek, by omega, fun ys hp _ => ⟨_, rfl, fun i ρ' => ∃ x y, ρ' = [.dat (.lst (rows.map arrD)), .ownK kvs, x, y], ⟨_, _, rfl⟩, ?_, ?_⟩⟩
    · rintro i d ρ' hd ⟨x, y, rfl⟩
      obtain ⟨p, hpi, rfl⟩ := map_get hd
      have hm : (Sum.inr p : Key) ∈ kvs.map (·.1) := by
        rw [ek]
        exact List.mem_map.mpr ⟨p, hp.mem_iff.mp (List.mem_of_getElem? hpi), rfl⟩
      have e := hf p
      rw [List.take_length] at e
      have b := hw.bal p
      have e0 : f p = 0 := by omega
      walk_at "nw"
      refine dGetK_s (hk.has hm) ?_
      walk_at "nw"
      refine br_not (fun c => absurd e0 c) (fun c => ?_)
      walk_at "nw"
      exact ⟨_, _, rfl⟩
    · rintro ρ' ⟨x, y, rfl⟩
      walk_at "nw"
      exact hq
abbrev s_Web___init__ : Stmt := (inClass (top 27) 1)
theorem sc_Web___init__ : FnScope ["self", "arrows", "known", "arrow", "box"] ["self", "arrows"] (defScope s_Web___init__) := ⟨rfl, rfl, rfl, by decide +kernel, rfl, by decide +kernel, by decide +kernel⟩
theorem ok_Web___init__ {f : Addr} {fd : FuncData} (B : Bi mg) (k_MOST_ARROWS : ∃ t, mg "MOST_ARROWS" = some (.int 12 t)) (c_require_arrow : Cal P w K mg base 3 "require_arrow" ["arrow", "known"] (spD K T_require_arrow)) (c_require_balance : Cal P w K mg base 1 "require_balance" ["rows"] (spD K T_require_balance)) (cl_Web : Cls K C_Web) (na_Web_web_rows : NoAttr K C_Web "web_rows") (F : FunD K "__init__" "Web.__init__" (defArgs s_Web___init__) (defBody s_Web___init__) (defScope s_Web___init__) [] [] f fd) : FnOk P w K mg base CX0 4 f fd ["self", "arrows"] (spI K C_Web T_web_init) := by
  have nd := sc_Web___init__.nd
  obtain ⟨t_MOST_ARROWS, g_MOST_ARROWS⟩ := k_MOST_ARROWS
  refine fn_I F sc_Web___init__ (fun ρ Φ h => by rcases h with ⟨rows, rfl | rfl, hw, hl, hq⟩ <;> rfl) fun cdv A outer s H E hr => ⟨_,
(pss_cons (ps_if (pt_cmpR op_gt (pe_callB (n_len (K := K) rfl) rfl B.len bb_len (pa_cons (pv 1) pa_nil)) (pe_glob (v := .int 12) rfl g_MOST_ARROWS ⟨_, rfl⟩) (nomark _))
(pss_one ps_never)
pss_nil)
(pss_cons (ps_set (i := 2) nd rfl (by first | exact Or.inl rfl | exact Or.inr rfl) pe_dnewK)
(pss_cons (ps_for PassesOwn.never rfl (n_piq (K := K) rfl (pv 1)) (pg_name (i := 3) nd rfl (by first | exact Or.inl rfl | exact Or.inr rfl))
(pss_cons (ps_expr (pe_cal c_require_arrow (hr.mono (by decide)) rfl (pa_cons (pv 3) (pa_cons (pv 2) pa_nil))))
(pss_one (ps_dput hr.u1 (pv 2) (pe_ix (n_ix (K := K) rfl) (pv 3) pe_int (fun _ _ => rfl)) (pe_tup (pa_cons (pe_ix (n_ix (K := K) rfl) (pv 3) pe_int (fun _ _ => rfl)) (pa_cons (pe_ix (n_ix (K := K) rfl) (pv 3) pe_int (fun _ _ => rfl)) (pa_cons (pe_ix (n_ix (K := K) rfl) (pv 3) pe_int (fun _ _ => rfl)) pa_nil)))) rfl))))
(pss_cons (ps_expr (pe_cal c_require_balance (hr.mono (by decide)) rfl (pa_cons (pe_listVals rfl (pv 2) rfl B.list bb_list) pa_nil)))
(pss_one (n_sfld (K := K) rfl (pv 0) (pe_callTy (n_tuple (K := K) rfl) rfl B.tuple bb_tuple (pa_cons (pe_lc (own := [("box", 4)]) (g := (gName 4)) rfl nd (n_pil (K := K) rfl (pe_callB (n_sortedD rfl) rfl B.sorted bb_sorted (pa_cons (pv 2) pa_nil))) (blkOk_by (own := [("box", 4)]) (N := ["self", "arrows", "known", "arrow", "box"]) (sc := (defScope s_Web___init__)) (by decide +kernel)) (fun _ _ _ _ _ => (pg_name (i := 4) nd rfl (by first | exact Or.inl rfl | exact Or.inr rfl))) (fun _ _ _ _ _ => pts_nil) (fun _ _ _ _ _ => (n_dget (K := K) rfl hr.u1 (pv 2) (pv 4)))) pa_nil)) rfl)))))),
  fun st p ρ Φ h => ?_⟩
  rcases h with ⟨rows, rfl | rfl, hw, hl, hq⟩
  all_goals
    have sl : sizeLine = 16777216 := sizeLine_eq
    walk_at "nw"
    rw [List.length_map]
    refine br (fun c => ?_) (fun c => ?_)
    · omega
    walk_at "nw"
    refine ds_forQ ?_
    walk_at "nw"
    refine ⟨_, (by first | exact .inl rfl | exact .inr rfl), fun i ρ' => ∃ x, ρ' = [.obj p C_Web [], _, .ownK (knD (rows.take i)), x, .no], ⟨_, rfl⟩, ?_, ?_⟩
    · rintro i d ρ' hd ⟨x, rfl⟩
      obtain ⟨a, ha, rfl⟩ := map_get hd
      have hi : i < rows.length := (List.getElem?_eq_some_iff.mp ha).1
      have e1 : (rows.map (·.1))[i]? = some a.1 := by rw [List.getElem?_map, ha]; rfl
      have hnew : a.1 ∉ (rows.take i).map (·.1) := fun z => nodup_not e1 (by rw [← List.map_take]; exact z) hw.nd
      walk_at "nw"
      refine ⟨a, rows.take i, rfl, hw.ok a (List.mem_of_getElem? ha), hnew, rfl, ?_⟩
      walk_at "nw"
      refine ⟨by show 3 ≤ sizeLine; omega, ?_⟩
      walk_at "nw"
      refine ⟨_, rfl, by rw [List.length_map, List.length_take]; omega, ?_⟩
      show ∃ x, _ = [Sl.obj p C_Web [], _, .ownK (knD (rows.take (i + 1))), x, .no]
      rw [take_next ha, ← putD_new hnew]
      exact ⟨_, rfl⟩
    rintro ρ' ⟨x, rfl⟩
    rw [List.length_map, List.take_length]
    walk_at "nw"
    refine ⟨_, rfl, ?_⟩
    rw [vals_kn]
    walk_at "nw"
    refine ⟨rows, rfl, hw, hl, ?_⟩
    refine ds_sfld cl_Web na_Web_web_rows rfl ?_
    refine ev_cb cd_tuple ?_
    refine ew_cons (evs_of (ev_of_n (en_lcL rfl ?_)))
    walk_at "nw"
    refine ⟨rows.map (·.1), keys_kn rows, by rw [List.length_map]; omega, fun ys hp hs => ?_⟩
    obtain ⟨rs, p1, rfl⟩ := rows_of_boxes hp
    have hrl := p1.length_eq
    refine ⟨_, rfl, fun j acc => acc = (rs.take j).map arrD, rfl, ?_, ?_⟩
    · rintro j d acc hd rfl
      obtain ⟨z, hz, rfl⟩ := map_get hd
      obtain ⟨a, ha, rfl⟩ := map_get hz
      have hj : j < rs.length := (List.getElem?_eq_some_iff.mp ha).1
      walk_at "nw"
      refine dGetK_s (valD_some hw.nd (p1.mem_iff.mp (List.mem_of_getElem? ha))) ?_
      refine ⟨by rw [List.length_map, List.length_take]; omega, ?_⟩
      show _ = (rs.take (j + 1)).map arrD
      rw [take_next ha, List.map_append]
      rfl
    rintro acc rfl
    rw [List.length_map, List.length_map, List.take_length]
    walk_at "nw"
    refine ⟨Nat.zero_lt_succ _, _, rfl, ?_⟩
    exact hq rs p1 ⟨hw.perm p1, hs, by omega⟩
abbrev s__law_web : Stmt := (top 47)
theorem sc__law_web : FnScope ["_law_store_here", "_law_arrows_here", "_law_given", "_law_web_here"] ["_law_store_here", "_law_arrows_here"] (defScope s__law_web) := ⟨rfl, rfl, rfl, by decide +kernel, rfl, by decide +kernel, by decide +kernel⟩
theorem ok__law_web {f : Addr} {fd : FuncData} (B : Bi mg) (c__law_row_of : Cal P w K mg base 3 "_law_row_of" ["_law_store_here", "_law_row"] (spE K T_row_of)) (i_Web : CalI P w K mg base 4 "Web" C_Web ["self", "arrows"] (spI K C_Web T_web_init)) (F : FnP K "_law_web" s__law_web f fd) : FnOk P w K mg base CX0 6 f fd ["_law_store_here", "_law_arrows_here"] (spD K (T_law_web C_Web)) := by
  have nd := sc__law_web.nd
  refine fn_D F sc__law_web (fun ρ Φ h => by rcases h with ⟨rows, rfl, hw, hl, hq⟩ <;> rfl) fun cdv A outer s H E hr => ⟨_,
(pss_cons (ps_set (i := 2) nd rfl (by first | exact Or.inl rfl | exact Or.inr rfl) (pe_cal c__law_row_of (hr.mono (by decide)) rfl (pa_cons (pv 0) (pa_cons (pv 1) pa_nil))))
(pss_cons (ps_set (i := 3) nd rfl (by first | exact Or.inl rfl | exact Or.inr rfl) (n_make i_Web (hr.mono (by decide)) rfl (pa_cons (pv 2) pa_nil)))
(pss_cons (ps_if (pt_cmpR (n_neD (K := K) rfl hr.units) (pe_callTy (n_list (K := K) rfl) rfl B.list bb_list (pa_cons (pv 2) pa_nil)) (pv 1) (nomark _))
(pss_one (ps_ret pe_non))
pss_nil)
(pss_cons (ps_if (pt_val (pe_callB (n_isi (K := K) rfl) rfl B.isinstance bb_isinstance (pa_cons (pv 2) (pa_cons (pe_bltn rfl B.list bb_list (v := .ty "list") rfl) pa_nil))))
(pss_one (ps_expr (n_bm (K := K) rfl PySem.F.plainAttrs_list PySem.F.slot_list_append PySem.F.type_list_append mt_append (pv 2) (pa_cons (pe_tup (pa_cons pe_str (pa_cons pe_str (pa_cons pe_str pa_nil)))) pa_nil))))
pss_nil)
(pss_one (ps_ret (pv 3))))))),
  fun st ρ Φ h => ?_⟩
  rcases h with ⟨rows, rfl, hw, hl, hq⟩
  have sl : sizeLine = 16777216 := sizeLine_eq
  walk_at "nw"
  refine ds_asgE ?_
  walk_at "nw"
  refine ⟨_, .inl rfl, ?_, ?_⟩
  · walk_at "nw"
    refine ev_makeF (ef_own (by with_unfolding_all rfl) ?_)
    walk_at "nw"
    refine ⟨rows, .inl rfl, hw, hl, fun rs p h => ⟨noLF_web rs, ?_⟩⟩
    walk_at "nw"
    refine dNeD_arrs hw.ok hw.ok ?_
    walk_at "nw"
    refine br_not (fun c => absurd rfl c) (fun c => ?_)
    walk_at "nw"
    refine ⟨by show 3 ≤ sizeLine; omega, by rw [List.length_map]; omega, ?_⟩
    walk_at "nw"
    exact hq rs p h
  · walk_at "nw"
    refine ev_make ?_
    walk_at "nw"
    refine ⟨rows, .inr rfl, hw, hl, fun rs p h => ?_⟩
    walk_at "nw"
    refine dNeD_arrs hw.ok hw.ok ?_
    walk_at "nw"
    refine br_not (fun c => absurd rfl c) (fun c => ?_)
    walk_at "nw"
    exact hq rs p h
abbrev s__law_parts : Stmt := (top 49)
theorem sc__law_parts : FnScope ["_law_arrows_here", "_law_found", "_law_left", "_law_k", "_law_part", "_law_j", "_law_places", "_law_row"] ["_law_arrows_here"] (defScope s__law_parts) := ⟨rfl, rfl, rfl, by decide +kernel, rfl, by decide +kernel, by decide +kernel⟩
theorem ok__law_parts {f : Addr} {fd : FuncData} (B : Bi mg) (F : FnP K "_law_parts" s__law_parts f fd) : FnOk P w K mg base CX0 1 f fd ["_law_arrows_here"] (spN K T_law_parts) := by
  have nd := sc__law_parts.nd
  refine fn_N F sc__law_parts (fun ρ Φ h => by rcases h with ⟨rows, rfl, ok, nd, hz, hq⟩ <;> rfl) fun cdv A outer s H E hr => ⟨_,
(pss_cons (ps_set (i := 1) nd rfl (by first | exact Or.inl rfl | exact Or.inr rfl) (pe_lst pa_nil))
(pss_cons (ps_set (i := 2) nd rfl (by first | exact Or.inl rfl | exact Or.inr rfl) (pe_callB (n_sortedT (K := K) rfl) rfl B.sorted bb_sorted (pa_cons (pv 0) pa_nil)))
(pss_cons (ps_for PassesOwn.never rfl (pi_range1 rfl B.range (pa_cons (pe_callB (n_len (K := K) rfl) rfl B.len bb_len (pa_cons (pv 0) pa_nil)) pa_nil)) (pg_name (i := 3) nd rfl (by first | exact Or.inl rfl | exact Or.inr rfl))
(pss_cons (ps_if (pt_not (n_pt (K := K) rfl (pv 2)))
(pss_one ps_break)
pss_nil)
(pss_cons (ps_set (i := 4) nd rfl (by first | exact Or.inl rfl | exact Or.inr rfl) (pe_lst (pa_cons (pe_ix (n_ix (K := K) rfl) (pv 2) pe_int (fun _ _ => rfl)) pa_nil)))
(pss_cons (ps_for PassesOwn.never rfl (pi_range1 rfl B.range (pa_cons (pe_callB (n_len (K := K) rfl) rfl B.len bb_len (pa_cons (pv 0) pa_nil)) pa_nil)) (pg_name (i := 5) nd rfl (by first | exact Or.inl rfl | exact Or.inr rfl))
(pss_cons (ps_set (i := 6) nd rfl (by first | exact Or.inl rfl | exact Or.inr rfl) (pe_op op_cat (pe_lc (own := [("_law_row", 7)]) (g := (gName 7)) rfl nd (n_pil (K := K) rfl (pv 4)) (blkOk_by (own := [("_law_row", 7)]) (N := ["_law_arrows_here", "_law_found", "_law_left", "_law_k", "_law_part", "_law_j", "_law_places", "_law_row"]) (sc := (defScope s__law_parts)) (by decide +kernel)) (fun _ _ _ _ _ => (pg_name (i := 7) nd rfl (by first | exact Or.inl rfl | exact Or.inr rfl))) (fun _ _ _ _ _ => pts_nil) (fun _ _ _ _ _ => (pe_ix (n_ix (K := K) rfl) (pv 7) pe_int (fun _ _ => rfl)))) (pe_lc (own := [("_law_row", 7)]) (g := (gName 7)) rfl nd (n_pil (K := K) rfl (pv 4)) (blkOk_by (own := [("_law_row", 7)]) (N := ["_law_arrows_here", "_law_found", "_law_left", "_law_k", "_law_part", "_law_j", "_law_places", "_law_row"]) (sc := (defScope s__law_parts)) (by decide +kernel)) (fun _ _ _ _ _ => (pg_name (i := 7) nd rfl (by first | exact Or.inl rfl | exact Or.inr rfl))) (fun _ _ _ _ _ => pts_nil) (fun _ _ _ _ _ => (pe_ix (n_ix (K := K) rfl) (pv 7) pe_int (fun _ _ => rfl))))))
(pss_one (ps_set (i := 4) nd rfl (by first | exact Or.inl rfl | exact Or.inr rfl) (pe_op op_cat (pv 4) (pe_lc (own := [("_law_row", 7)]) (g := (gName 7)) rfl nd (n_pil (K := K) rfl (pv 2)) (blkOk_by (own := [("_law_row", 7)]) (N := ["_law_arrows_here", "_law_found", "_law_left", "_law_k", "_law_part", "_law_j", "_law_places", "_law_row"]) (sc := (defScope s__law_parts)) (by decide +kernel)) (fun _ _ _ _ _ => (pg_name (i := 7) nd rfl (by first | exact Or.inl rfl | exact Or.inr rfl))) (fun _ _ _ _ _ => (pts_one (PW.pt (pw_and (pt_cmpR (n_niD (K := K) rfl hr.u65) (pv 7) (pv 4) rfl) (pw_and1 (PW.pt (pw_or (pt_cmpR (n_in (K := K) rfl) (pe_ix (n_ix (K := K) rfl) (pv 7) pe_int (fun _ _ => rfl)) (pv 6) rfl) (pw_or1 (pt_cmpR (n_in (K := K) rfl) (pe_ix (n_ix (K := K) rfl) (pv 7) pe_int (fun _ _ => rfl)) (pv 6) rfl))))))))) (fun _ _ _ _ _ => (pv 7))))))))
(pss_cons (ps_expr (n_bm (K := K) rfl PySem.F.plainAttrs_list PySem.F.slot_list_append PySem.F.type_list_append mt_append (pv 1) (pa_cons (pe_callB (n_sortedS (K := K) rfl) rfl B.sorted bb_sorted (pa_cons (pe_lc (own := [("_law_row", 7)]) (g := (gName 7)) rfl nd (n_pil (K := K) rfl (pv 4)) (blkOk_by (own := [("_law_row", 7)]) (N := ["_law_arrows_here", "_law_found", "_law_left", "_law_k", "_law_part", "_law_j", "_law_places", "_law_row"]) (sc := (defScope s__law_parts)) (by decide +kernel)) (fun _ _ _ _ _ => (pg_name (i := 7) nd rfl (by first | exact Or.inl rfl | exact Or.inr rfl))) (fun _ _ _ _ _ => pts_nil) (fun _ _ _ _ _ => (pe_ix (n_ix (K := K) rfl) (pv 7) pe_int (fun _ _ => rfl)))) pa_nil)) pa_nil)))
(pss_one (ps_setLc (i := 2) (own := [("_law_row", 7)]) (g := (gName 7)) rfl nd rfl rfl (sw_true rfl rfl rfl (by decide +kernel)) (n_pil (K := K) rfl (pv 2)) (blkOk_by (own := [("_law_row", 7)]) (N := ["_law_arrows_here", "_law_found", "_law_left", "_law_k", "_law_part", "_law_j", "_law_places", "_law_row"]) (sc := (defScope s__law_parts)) (by decide +kernel)) (fun _ _ _ _ _ => (pg_name (i := 7) nd rfl (by first | exact Or.inl rfl | exact Or.inr rfl))) (fun _ _ _ _ _ => (pts_one (pt_cmpR (n_niD (K := K) rfl hr.u65) (pv 7) (pv 4) rfl))) (fun _ _ _ _ _ => (pv 7)))))))))
(pss_one (ps_ret (pv 1)))))),
  fun st ρ Φ h => ?_⟩
  rcases h with ⟨rows, rfl, ok, nd, hz, hq⟩
  have sl : sizeLine = 16777216 := sizeLine_eq
  have ndr : rows.Nodup := List.Pairwise.of_map _ (fun a b h e => h (by rw [e])) nd
  walk_at "nz"
  refine ds_asgN ?_
  walk_at "nz"
  refine dSortedT_rows nd fun ys p1 p2 => ?_
  refine ds_seq ?_
  refine ds_for1 ?_
  walk_at "nz"
  rw [List.length_map]
  refine ⟨_, rfl, by omega, by omega, fun i ρ' => ∃ (gs : List (List Arr)) (left : List Arr) (x y z u : Sl), ρ' = [.dat (.lst (rows.map arrD)), .own none (gs.map fun g => .lst ((boxL g).map Dat.str)), .dat (.lst (left.map arrD)), x, y, z, u, .no] ∧ PartsTo rows gs left ∧ left.length + i ≤ rows.length, ⟨[], ys, .no, .no, .no, .no, rfl, .start p1 p2, by rw [p1.length_eq]; omega⟩, ?_, ?_⟩
  · rintro i ρ' hi ⟨gs, left, x, y, z, u, rfl, hP, hL⟩
    have hgl : gs.length ≤ 12 := by
      have h1 := flatten_len fun g hg => (hP.conn g hg).2
      have h2 := hP.perm.length_eq
      rw [List.length_append] at h2
      omega
    have ndl : left.Nodup := by
      have : (gs.flatten ++ left).Nodup := hP.perm.nodup_iff.mpr ndr
      exact (List.nodup_append.mp this).2.1
    have okl : ArrsOk left := fun b hb => ok b (hP.perm.mem_iff.mp (List.mem_append_right _ hb))
    walk_at "nz"
    refine dTru_l ?_
    cases left with
    | nil =>
      refine iteT ?_
      walk_at "nz"
      refine id_DSt ?_
      exact ds_retO rfl (hq gs hP.done)
    | cons a l =>
      have iL : atI ((a :: l).map arrD) ((0 : Nat) : Int) = some (arrD a) := atI_nat rfl
      have hhd : (a :: l).head? = some a := rfl
      have hpos : 1 ≤ (a :: l).length := by rw [List.length_cons]; omega
      have ham : a ∈ a :: l := List.mem_cons_self
      refine iteF ?_
      generalize a :: l = left at *
      walk_at "nz"
      refine ds_asg (ev_of_n (en_lst ?_))
      walk_at "nz"
      refine dIx_l iL ?_
      walk_at "nz"
      refine ds_for1 ?_
      walk_at "nz"
      rw [List.length_map]
      refine ⟨_, rfl, by omega, by omega, fun j ρ' => ∃ (part : List Arr) (z u : Sl), ρ' = [.dat (.lst (rows.map arrD)), .own none (gs.map fun g => .lst ((boxL g).map Dat.str)), .dat (.lst (left.map arrD)), .dat (.int i), .dat (.lst (part.map arrD)), z, u, .no] ∧ Grown left part a ∧ (ClosedIn left part ∨ j + 1 ≤ part.length), ⟨[a], z, u, rfl, .start ham, .inr (Nat.le_refl _)⟩, ?_, ?_⟩
      · rintro j ρ' hj ⟨part, z, u, rfl, hG, hC⟩
        have hpl := hG.len
        have okp : ArrsOk part := fun b hb => okl b (hG.sub b hb)
        walk_at "nz"
        refine ds_asg (ev_of_n (en_op on_cat ?_))
        walk_at "nz"
        refine ev_of_n (en_lcLp (fun _ => true) (fun d => match d with | .tup [_, x, _] => x | _ => .non) rfl ?_)
        walk_at "nz"
        refine ⟨_, rfl, by rw [List.length_map]; omega, fun d hd => pure_yes ?_, ?_⟩
        · obtain ⟨b, hb, rfl⟩ := List.mem_map.mp hd
          walk_at "nz"
          rfl
        rw [filter_yes, List.map_map]
        walk_at "nz"
        refine ev_of_n (en_lcLp (fun _ => true) (fun d => match d with | .tup [_, _, x] => x | _ => .non) rfl ?_)
        walk_at "nz"
        refine ⟨_, rfl, by rw [List.length_map]; omega, fun d hd => pure_yes ?_, ?_⟩
        · obtain ⟨b, hb, rfl⟩ := List.mem_map.mp hd
          walk_at "nz"
          rfl
        rw [filter_yes, List.map_map]
        refine dCat_mk (by rw [List.length_map, List.length_map]; omega) ?_
        have eP : part.map ((fun d => match d with | .tup [_, x, _] => x | _ => Dat.non) ∘ arrD) ++ part.map ((fun d => match d with | .tup [_, _, x] => x | _ => Dat.non) ∘ arrD) = (nbL part).map Dat.str := by
          unfold nbL
          rw [List.map_append, List.map_map, List.map_map]
          rfl
        rw [eP]
        refine id_DSt ?_
        refine ds_asg (ev_of_n (en_op on_cat ?_))
        walk_at "nz"
        refine ev_of_n (en_lcLp (fun d => match d with | .tup [.str x, .str y, .str z] => !decide ((x, y, z) ∈ part) && (decide (y ∈ nbL part) || decide (z ∈ nbL part)) | _ => false) id rfl ?_)
        walk_at "nz"
        refine ⟨_, rfl, by rw [List.length_map]; omega, fun d hd => pure_mk ?_, ?_⟩
        · obtain ⟨b, hb, rfl⟩ := List.mem_map.mp hd
          show EvT _ _ _ fun c => c = (!decide (b ∈ part) && (decide (b.2.1 ∈ nbL part) || decide (b.2.2 ∈ nbL part))) ∧ _
          walk_at "nz"
          refine dNiD_arr (okl b hb) okp ?_
          walk_at "nz"
          cases h1 : decide (b ∈ part) with
          | true =>
            refine iteF ?_
            exact ⟨rfl, fun z => absurd (of_decide_eq_true h1) (by simp at z; exact z.1)⟩
          | false =>
            refine iteT ?_
            walk_at "nz"
            cases h2 : decide (b.2.1 ∈ nbL part) with
            | true =>
              refine iteT ?_
              refine ⟨rfl, fun _ => ?_⟩
              walk_at "nz"
              rfl
            | false =>
              refine iteF ?_
              walk_at "nz"
              refine ⟨rfl, fun _ => ?_⟩
              walk_at "nz"
              rfl
        have eN : (left.map arrD).filter (fun d => match d with | .tup [.str x, .str y, .str z] => !decide ((x, y, z) ∈ part) && (decide (y ∈ nbL part) || decide (z ∈ nbL part)) | _ => false) = (newIn left part).map arrD := by
          rw [List.filter_map]
          rfl
        rw [eN, List.map_id]
        have hnl : (newIn left part).length ≤ 12 := by
          have : (newIn left part).length ≤ left.length := List.length_filter_le _ _
          omega
        refine dCat_mk (by rw [List.length_map, List.length_map]; omega) ?_
        rw [← List.map_append]
        exact ⟨_, _, _, rfl, hG.step ndl, grow_turn hC⟩
      rintro ρ' ⟨part, z, u, rfl, hG, hC⟩
      have hpl := hG.len
      have okp : ArrsOk part := fun b hb => okl b (hG.sub b hb)
      have hcl : ClosedIn left part := by
        rcases hC with h | h
        · exact h
        · omega
      obtain ⟨s1, s2⟩ := hP.step ndr hhd hG hcl
      walk_at "nz"
      refine ev_of_n (en_lcLp (fun _ => true) (fun d => match d with | .tup [x, _, _] => x | _ => .non) rfl ?_)
      walk_at "nz"
      refine ⟨_, rfl, by rw [List.length_map]; omega, fun d hd => pure_yes ?_, ?_⟩
      · obtain ⟨b, hb, rfl⟩ := List.mem_map.mp hd
        walk_at "nz"
        rfl
      rw [filter_yes, List.map_map]
      walk_at "nz"
      refine ⟨part.map (·.1), by rw [List.map_map]; rfl, by rw [List.length_map]; omega, fun zs q1 q2 => ⟨by rw [List.length_map]; omega, ?_⟩⟩
      have ez : zs = boxL (left.filter fun x => decide (x ∈ part)) := by
        refine strs_uniq (q1.trans ((s2.map (·.1)).symm)) (sortedS_pair q2) ?_
        have := s1.srt (left.filter fun x => decide (x ∈ part)) (List.mem_append_right _ (List.mem_singleton.mpr rfl))
        exact List.pairwise_map.mpr this
      subst ez
      refine id_DSt ?_
      refine ds_asg (ev_of_n (en_lcLp (fun d => match d with | .tup [.str x, .str y, .str z] => !decide ((x, y, z) ∈ part) | _ => false) id rfl ?_))
      walk_at "nz"
      refine ⟨_, rfl, by rw [List.length_map]; omega, fun d hd => pure_mk ?_, ?_⟩
      · obtain ⟨b, hb, rfl⟩ := List.mem_map.mp hd
        walk_at "nz"
        refine dNiD_arr (okl b hb) okp ?_
        walk_at "nz"
        refine ⟨rfl, fun _ => ?_⟩
        walk_at "nz"
        rfl
      have eN : (left.map arrD).filter (fun d => match d with | .tup [.str x, .str y, .str z] => !decide ((x, y, z) ∈ part) | _ => false) = (left.filter fun x => !decide (x ∈ part)).map arrD := by
        rw [List.filter_map]
        rfl
      rw [eN, List.map_id]
      refine ⟨gs ++ [left.filter fun x => decide (x ∈ part)], _, _, _, _, _, by rw [List.map_append]; rfl, s1, ?_⟩
      have h1 := (List.filter_append_perm (fun x => decide (x ∈ part)) left).length_eq
      rw [List.length_append, s2.length_eq] at h1
      have h2 := List.length_pos_of_mem hG.hd
      omega
  · rintro ρ' ⟨gs, left, x, y, z, u, rfl, hP, hL⟩
    have : left = [] := List.length_eq_zero_iff.mp (by omega)
    subst this
    walk_at "nz"
    refine id_DSt ?_
    exact ds_retO rfl (hq gs hP.done)
abbrev s_touches : Stmt := (top 21)
theorem sc_touches : FnScope ["part", "row", "other"] ["part", "row"] (defScope s_touches) := ⟨rfl, rfl, rfl, by decide +kernel, rfl, by decide +kernel, by decide +kernel⟩
theorem ok_touches {f : Addr} {fd : FuncData} (B : Bi mg) (F : FnP K "touches" s_touches f fd) : FnOk P w K mg base CX0 1 f fd ["part", "row"] (spD K T_touches) := by
  have nd := sc_touches.nd
  refine fn_D F sc_touches (fun ρ Φ h => by rcases h with ⟨g, a, rfl, hz, hq⟩ <;> rfl) fun cdv A outer s H E hr => ⟨_,
(pss_one (ps_ret (pe_callB (n_any rfl (K := K) rfl) rfl B.any bb_any (pa_cons (pe_lc (own := [("other", 2)]) (g := (gName 2)) rfl nd (n_pil (K := K) rfl (pv 0)) (blkOk_by (own := [("other", 2)]) (N := ["part", "row", "other"]) (sc := (defScope s_touches)) (by decide +kernel)) (fun _ _ _ _ _ => (pg_name (i := 2) nd rfl (by first | exact Or.inl rfl | exact Or.inr rfl))) (fun _ _ _ _ _ => pts_nil) (fun _ _ _ _ _ => (pe_or (pe_cmpR (n_in (K := K) rfl) (pe_ix (n_ix (K := K) rfl) (pv 1) pe_int (fun _ _ => rfl)) (pe_slice (n_slT (K := K) rfl) (pv 2) (po_some pe_int) po_none) rfl) (pe_one (pe_cmpR (n_in (K := K) rfl) (pe_ix (n_ix (K := K) rfl) (pv 1) pe_int (fun _ _ => rfl)) (pe_slice (n_slT (K := K) rfl) (pv 2) (po_some pe_int) po_none) rfl))))) pa_nil)))),
  fun st ρ Φ h => ?_⟩
  rcases h with ⟨g, a, rfl, hz, hq⟩
  have sl : sizeLine = 16777216 := sizeLine_eq
  walk_at "nz"
  refine ev_of_n (en_lcLp (fun _ => true) (fun d => match d with | .tup [_, .str x, .str y] => .bl (decide (a.2.1 = x) || decide (a.2.1 = y) || (decide (a.2.2 = x) || decide (a.2.2 = y))) | _ => .non) rfl ?_)
  walk_at "nz"
  refine ⟨_, rfl, by rw [List.length_map]; omega, fun d hd => pure_yes ?_, ?_⟩
  · obtain ⟨b, hb, rfl⟩ := List.mem_map.mp hd
    walk_at "nz"
    refine dSlT_1 ?_
    refine dIn_t2 ?_
    refine dBl_mk ?_
    cases hc : (decide (a.2.1 = b.2.1) || decide (a.2.1 = b.2.2)) with
    | true =>
      refine iteT ?_
      show Dat.bl true = Dat.bl ((decide (a.2.1 = b.2.1) || decide (a.2.1 = b.2.2)) || _)
      rw [hc]; rfl
    | false =>
      refine iteF ?_
      walk_at "nz"
      refine dSlT_1 ?_
      refine dIn_t2 ?_
      show Dat.bl _ = Dat.bl ((decide (a.2.1 = b.2.1) || decide (a.2.1 = b.2.2)) || _)
      rw [hc, Bool.false_or]
  rw [filter_yes, List.map_map]
  walk_at "nz"
  refine ⟨g.map fun b => touchD a b, by rw [List.map_map]; rfl, ?_⟩
  have e : (g.map fun b => touchD a b).any id = touchG g a := by rw [List.any_map]; rfl
  rw [← e] at hq
  exact hq
abbrev s_parted : Stmt := (top 22)
theorem sc_parted : FnScope ["rows", "groups", "row", "apart", "merged", "group"] ["rows"] (defScope s_parted) := ⟨rfl, rfl, rfl, by decide +kernel, rfl, by decide +kernel, by decide +kernel⟩
theorem ok_parted {f : Addr} {fd : FuncData} (B : Bi mg) (c_touches : Cal P w K mg base 1 "touches" ["part", "row"] (spD K T_touches)) (F : FnP K "parted" s_parted f fd) : FnOk P w K mg base CX0 2 f fd ["rows"] (spN K T_parted) := by
  have nd := sc_parted.nd
  refine fn_N F sc_parted (fun ρ Φ h => by rcases h with ⟨rows, rfl, ok, nd, hz, hq⟩ <;> rfl) fun cdv A outer s H E hr => ⟨_,
(pss_cons (ps_set (i := 1) nd rfl (by first | exact Or.inl rfl | exact Or.inr rfl) (pe_lst pa_nil))
(pss_cons (ps_for PassesOwn.never rfl (n_pit (K := K) rfl (pv 0)) (pg_name (i := 2) nd rfl (by first | exact Or.inl rfl | exact Or.inr rfl))
(pss_cons (ps_setLc (i := 3) (own := [("group", 5)]) (g := (gName 5)) rfl nd rfl rfl (sw_true rfl rfl rfl (by decide +kernel)) (n_pil (K := K) rfl (pv 1)) (blkOk_by (own := [("group", 5)]) (N := ["rows", "groups", "row", "apart", "merged", "group"]) (sc := (defScope s_parted)) (by decide +kernel)) (fun _ _ _ _ _ => (pg_name (i := 5) nd rfl (by first | exact Or.inl rfl | exact Or.inr rfl))) (fun _ _ _ _ _ => (pts_one (pt_not (pt_val (pe_cal c_touches (hr.mono (by decide)) rfl (pa_cons (pv 5) (pa_cons (pv 2) pa_nil))))))) (fun _ _ _ _ _ => (pv 5)))
(pss_cons (ps_set (i := 4) nd rfl (by first | exact Or.inl rfl | exact Or.inr rfl) (pe_lst (pa_cons (pv 2) pa_nil)))
(pss_cons (ps_for PassesOwn.never rfl (n_pil (K := K) rfl (pv 1)) (pg_name (i := 5) nd rfl (by first | exact Or.inl rfl | exact Or.inr rfl))
(pss_one (ps_if (pt_val (pe_cal c_touches (hr.mono (by decide)) rfl (pa_cons (pv 5) (pa_cons (pv 2) pa_nil))))
(pss_one (ps_expr (n_bm (K := K) rfl PySem.F.plainAttrs_list PySem.F.slot_list_extend PySem.F.type_list_extend mt_extend (pv 4) (pa_cons (pv 5) pa_nil))))
pss_nil)))
(pss_one (ps_set (i := 1) nd rfl (by first | exact Or.inl rfl | exact Or.inr rfl) (pe_op op_cat (pv 3) (pe_lst (pa_cons (pv 4) pa_nil)))))))))
(pss_one (ps_ret (pe_callB (n_sortedA (K := K) rfl hr.units) rfl B.sorted bb_sorted (pa_cons (pe_lc (own := [("group", 5)]) (g := (gName 5)) rfl nd (n_pil (K := K) rfl (pv 1)) (blkOk_by (own := [("group", 5)]) (N := ["rows", "groups", "row", "apart", "merged", "group"]) (sc := (defScope s_parted)) (by decide +kernel)) (fun _ _ _ _ _ => (pg_name (i := 5) nd rfl (by first | exact Or.inl rfl | exact Or.inr rfl))) (fun _ _ _ _ _ => pts_nil) (fun _ _ _ _ _ => (pe_callB (n_sortedT (K := K) rfl) rfl B.sorted bb_sorted (pa_cons (pv 5) pa_nil)))) pa_nil)))))),
  fun st ρ Φ h => ?_⟩
  rcases h with ⟨rows, rfl, ok, nd, hz, hq⟩
  have sl : sizeLine = 16777216 := sizeLine_eq
  walk_at "nz"
  refine ds_asgN ?_
  walk_at "nz"
  refine id_DSt ?_
  refine ds_freeze (i := 1) (by with_unfolding_all rfl) ?_
  refine ds_forT ?_
  walk_at "nz"
  refine ⟨fun i ρ' => ∃ (gs : List (List Arr)) (x y z u : Sl), ρ' = [.dat (.tup (rows.map arrD)), .dat (.lst (gs.map grpD)), x, y, z, u] ∧ (u = .no ∨ ∃ d, u = .dat d) ∧ GroupsP (rows.take i) gs, ⟨[], .no, .no, .no, .no, rfl, .inl rfl, List.Perm.refl _, (fun _ h => by cases h), List.Pairwise.nil⟩, ?_, ?_⟩
  · rintro i d ρ' hd ⟨gs, x, y, z, u, rfl, hu, hg⟩
    obtain ⟨a, ha, rfl⟩ := map_get hd
    have hgl : gs.length ≤ 12 := by
      have h1 := flatten_len fun g h => (hg.conn g h).2
      rw [hg.perm.length_eq, List.length_take] at h1
      omega
    suffices body : DSt ⟨K, st⟩ _ [.dat (.tup (rows.map arrD)), .dat (.lst (gs.map grpD)), .dat (arrD a), y, z, .no] _ by
      rcases hu with rfl | ⟨d, rfl⟩
      · exact body
      · exact ds_forget 5 rfl body
    refine ds_seq ?_
    refine ds_asg (ev_of_n (en_lcLp (fun d => !touchDt a d) id rfl ?_))
    walk_at "nz"
    have hgm : ∀ g ∈ gs, g.length ≤ 12 := fun g h => by
      have h1 := (List.sublist_flatten_of_mem h).length_le
      rw [hg.perm.length_eq, List.length_take] at h1
      omega
    refine ⟨_, rfl, by rw [List.length_map]; omega, fun d hd => pure_mk ?_, ?_⟩
    · obtain ⟨g, hgg, rfl⟩ := List.mem_map.mp hd
      rw [touchDt_grp]
      walk_at "nz"
      refine ⟨g, a, rfl, by have := hgm g hgg; omega, ?_⟩
      walk_at "nz"
      refine ⟨rfl, fun _ => ?_⟩
      walk_at "nz"
      rfl
    rw [filter_grp a gs (fun b => !b), List.map_id]
    walk_at "nz"
    refine ds_asgN ?_
    walk_at "nz"
    refine ds_forL ?_
    walk_at "nz"
    refine ⟨_, rfl, fun k ρ' => ∃ v : Sl, ρ' = [.dat (.tup (rows.map arrD)), .dat (.lst (gs.map grpD)), .dat (arrD a), .dat (.lst ((gs.filter fun g => !touchG g a).map grpD)), .own none ((a :: ((gs.take k).filter fun g => touchG g a).flatten).map arrD), v] ∧ (v = .no ∨ ∃ d, v = .dat d), ⟨.no, rfl, .inl rfl⟩, ?_, ?_⟩
    · rintro k d ρ' hd ⟨v, rfl, hv⟩
      obtain ⟨g, hgg, rfl⟩ := map_get hd
      have hgl2 := hgm g (List.mem_of_getElem? hgg)
      walk_at "nz"
      refine ⟨g, a, rfl, by omega, ?_⟩
      walk_at "nz"
      have ef : ∀ (p : List Arr → Bool), (gs.take (k + 1)).filter p = (gs.take k).filter p ++ (if p g = true then [g] else []) := fun p => by
        rw [take_next hgg, List.filter_append]
        congr 1
        cases hp : p g with
        | true => rw [List.filter_cons_of_pos hp]; rfl
        | false => rw [List.filter_cons_of_neg (by rw [hp]; exact Bool.false_ne_true)]; rfl
      have hfl : ((gs.take k).filter fun g => touchG g a).flatten.length ≤ 12 := by
        have h1 := flat_sub ((List.filter_sublist (p := fun g => touchG g a) (l := gs.take k)).trans (List.take_sublist k gs))
        rw [hg.perm.length_eq, List.length_take] at h1
        omega
      refine br_b (fun c => ?_) (fun c => ?_)
      · walk_at "nz"
        refine ⟨g.map arrD, rfl, by rw [List.length_map, List.length_map, List.length_cons]; omega, ?_⟩
        refine ⟨_, by rw [ef, if_pos c, List.flatten_append, ← List.cons_append, List.map_append, List.flatten_cons, List.flatten_nil, List.append_nil]; rfl, .inr ⟨_, rfl⟩⟩
      · walk_at "nz"
        refine ⟨_, by rw [ef, if_neg (by rw [c]; exact Bool.false_ne_true), List.append_nil]; rfl, .inr ⟨_, rfl⟩⟩
    · rintro ρ' ⟨v, rfl, hv⟩
      rw [List.length_map, List.take_length]
      refine id_DSt ?_
      refine ds_freeze (i := 4) (by with_unfolding_all rfl) ?_
      walk_at "nz"
      refine ds_asg (ev_of_n (en_op on_cat ?_))
      walk_at "nz"
      refine dCat_mk (by rw [List.length_map]; have := List.length_filter_le (fun g => !touchG g a) gs; show _ + 1 ≤ _; omega) ?_
      refine ⟨(gs.filter fun g => !touchG g a) ++ [a :: (gs.filter fun g => touchG g a).flatten], _, _, _, _, by rw [List.map_append]; rfl, hv, ?_⟩
      rw [take_next ha]
      exact hg.step a
  · rintro ρ' ⟨gs, x, y, z, u, rfl, hu, hg⟩
    rw [List.length_map, List.take_length] at hg
    suffices body : DSt ⟨K, st⟩ _ [.dat (.tup (rows.map arrD)), .dat (.lst (gs.map grpD)), x, y, z, .no] _ by
      rcases hu with rfl | ⟨d, rfl⟩
      · exact body
      · exact ds_forget 5 rfl body
    refine ds_retN (en_cb cn_sortedA ?_)
    walk_at "nz"
    refine ev_of_n (en_lcL rfl ?_)
    walk_at "nz"
    have ndr : ∀ {g : List Arr}, g ∈ gs → (g.map (·.1)).Nodup := fun {g} hm => ((List.sublist_flatten_of_mem hm).map (·.1)).nodup ((hg.perm.map (·.1)).nodup_iff.mpr nd)
    have hgl : gs.length ≤ 12 := by
      have h1 := flatten_len fun g h => (hg.conn g h).2
      rw [hg.perm.length_eq] at h1
      omega
    have hgm : ∀ g ∈ gs, g.length ≤ 12 := fun g h => by
      have h1 := (List.sublist_flatten_of_mem h).length_le
      rw [hg.perm.length_eq] at h1
      omega
    refine ⟨_, rfl, fun k acc => ∃ hs : List (List Arr), acc = hs.map grpD ∧ hs.length = k ∧ ∀ (j : Nat) (g h : List Arr), gs[j]? = some g → hs[j]? = some h → h.Perm g ∧ h.Pairwise (fun a b => leS a.1 b.1), ⟨[], rfl, rfl, fun j g h _ e => by simp at e⟩, ?_, ?_⟩
    · rintro k d acc hd ⟨hs, rfl, hl, hh⟩
      obtain ⟨g, hgg, rfl⟩ := map_get hd
      have hk := getL hgg
      walk_at "nz"
      refine dSortedT_rows (ndr (List.mem_of_getElem? hgg)) fun ys p1 p2 => ?_
      refine ⟨by rw [List.length_map]; omega, hs ++ [ys], by rw [List.map_append]; rfl, by rw [List.length_append, hl]; rfl, fun j g' h' e1 e2 => ?_⟩
      by_cases q : j < hs.length
      · rw [List.getElem?_append_left q] at e2
        exact hh j g' h' e1 e2
      · have hj := getL e2
        rw [List.length_append] at hj
        have hj' : j < hs.length + 1 := hj
        have e : j = k := by omega
        subst e
        rw [List.getElem?_append_right (by omega), show j - hs.length = 0 by omega] at e2
        cases (show some ys = some h' from e2)
        rw [hgg] at e1
        cases e1
        exact ⟨p1, p2⟩
    rintro acc ⟨hs, rfl, hl, hh⟩
    rw [List.length_map] at hl
    have gd := sorted_groups hg hl hh
    have okh : ∀ h ∈ hs, ArrsOk h ∧ h.length ≤ 12 := fun h hm => by
      have h1 := (List.sublist_flatten_of_mem hm).length_le
      rw [gd.grp.perm.length_eq] at h1
      exact ⟨fun a ha => ok a (gd.grp.perm.mem_iff.mp (List.mem_flatten.mpr ⟨h, hm, ha⟩)), by omega⟩
    walk_at "nz"
    refine ⟨fun d hd => ?_, alike_grps hs, sortable_grps hs, fun d hd => ?_, fun es pe he => ?_⟩
    · obtain ⟨h, hm, rfl⟩ := List.mem_map.mp hd
      exact eqA_arrs h
    · obtain ⟨h, hm, rfl⟩ := List.mem_map.mp hd
      exact depth_grp (okh h hm).1
    · obtain ⟨ks, pk, rfl⟩ := perm_map_inv pe
      exact hq ks (parts_of_sorted nd gd pk he)
abbrev s_Web_parts : Stmt := (inClass (top 27) 13)
theorem sc_Web_parts : FnScope ["self", "part", "row"] ["self"] (defScope s_Web_parts) := ⟨rfl, rfl, rfl, by decide +kernel, rfl, by decide +kernel, by decide +kernel⟩
theorem ok_Web_parts {f : Addr} {fd : FuncData} (B : Bi mg) (c_parted : Cal P w K mg base 2 "parted" ["rows"] (spN K T_parted)) (cl_Web : Cls K C_Web) (na_Web_web_rows : NoAttr K C_Web "web_rows") (F : FunD K "parts" "Web.parts" (defArgs s_Web_parts) (defBody s_Web_parts) (defScope s_Web_parts) [] [] f fd) : FnOk P w K mg base CX0 3 f fd ["self"] (spS K (T_parts C_Web)) := by
  have nd := sc_Web_parts.nd
  refine fn_S F sc_Web_parts (fun ρ Φ h => by rcases h with ⟨rows, rfl, hw, hq⟩ <;> rfl) fun cdv A outer s H E hr => ⟨_,
(pss_one (ps_ret (pe_lc (own := [("part", 1)]) (g := (gName 1)) rfl nd (n_piq (K := K) rfl (pe_cal c_parted (hr.mono (by decide)) rfl (pa_cons (n_fld (K := K) rfl (pv 0)) pa_nil))) (blkOk_by (own := [("part", 1)]) (N := ["self", "part", "row"]) (sc := (defScope s_Web_parts)) (by decide +kernel)) (fun _ _ _ _ _ => (pg_name (i := 1) nd rfl (by first | exact Or.inl rfl | exact Or.inr rfl))) (fun _ _ _ _ _ => pts_nil) (fun _ _ _ _ _ => (pe_lc (own := [("row", 2)]) (g := (gName 2)) rfl nd (n_pil (K := K) rfl (pv 1)) (blkOk_by (own := [("row", 2)]) (N := ["self", "part", "row"]) (by kernel_rfl)) (fun _ _ _ _ _ => (pg_name (i := 2) nd rfl (by first | exact Or.inl rfl | exact Or.inr rfl))) (fun _ _ _ _ _ => pts_nil) (fun _ _ _ _ _ => (pe_ix (n_ix (K := K) rfl) (pv 2) pe_int (fun _ _ => rfl)))))))),
  fun st ρ Φ h => ?_⟩
  rcases h with ⟨rows, rfl, hw, hq⟩
  have sl : sizeLine = 16777216 := sizeLine_eq
  refine id_DSt ?_
  refine ds_retY (ey_lcQ rfl ?_)
  walk_at "nz"
  refine ⟨rows, rfl, hw.ok.ok, hw.ok.nd, hw.le, fun gs hg => ?_⟩
  have hgl := parts_len hg
  have hwl := hw.le
  refine ⟨_, .inl rfl, fun i acc => acc = (gs.take i).map (fun g => Inn.l ((boxL g).map Dat.str)), rfl, ?_, ?_⟩
  · rintro i d acc hd rfl
    obtain ⟨g, hgg, rfl⟩ := map_get hd
    have gl := (part_ok hg hw.ok g (List.mem_of_getElem? hgg)).le
    walk_at "nz"
    refine ey_of_n (en_lcLp (fun _ => true) (fun d => match d with | .tup (x :: _) => x | _ => .non) rfl ?_)
    walk_at "nz"
    refine ⟨_, rfl, by rw [List.length_map]; omega, fun d hd => pure_yes ?_, ?_⟩
    · obtain ⟨b, hb, rfl⟩ := List.mem_map.mp hd
      walk_at "nz"
      rfl
    rw [filter_yes, List.map_map]
    refine ⟨.l _, rfl, by rw [List.length_map, List.length_take]; omega, ?_⟩
    show _ = (gs.take (i + 1)).map _
    rw [take_next hgg, List.map_append]
    show _ ++ _ = _ ++ [Inn.l ((g.map (·.1)).map Dat.str)]
    rw [List.map_map]
    rfl
  · intro D es he
    rw [List.length_map, List.take_length] at he
    exact hq gs hg D es he
abbrev s_arrow_from : Stmt := (top 23)
theorem sc_arrow_from : FnScope ["rows", "place", "row"] ["rows", "place"] (defScope s_arrow_from) := ⟨rfl, rfl, rfl, by decide +kernel, rfl, by decide +kernel, by decide +kernel⟩
theorem ok_arrow_from {f : Addr} {fd : FuncData} (B : Bi mg) (F : FnP K "arrow_from" s_arrow_from f fd) : FnOk P w K mg base CX0 1 f fd ["rows", "place"] (spD K T_arrow_from) := by
  have nd := sc_arrow_from.nd
  refine fn_D F sc_arrow_from (fun ρ Φ h => by rcases h with ⟨l, p, rfl, hy, hn⟩ <;> rfl) fun cdv A outer s H E hr => ⟨_,
(pss_cons (ps_for PassesOwn.never rfl (n_pil (K := K) rfl (pv 0)) (pg_name (i := 2) nd rfl (by first | exact Or.inl rfl | exact Or.inr rfl))
(pss_one (ps_if (pt_cmpR op_eq (pe_ix (n_ix (K := K) rfl) (pv 2) pe_int (fun _ _ => rfl)) (pv 1) (nomark _))
(pss_one (ps_ret (pv 2)))
pss_nil)))
(pss_one (ps_ret pe_non))),
  fun st ρ Φ h => ?_⟩
  rcases h with ⟨l, p, rfl, hy, hn⟩
  walk_at "nz"
  refine ds_forL ?_
  walk_at "nz"
  refine ⟨_, rfl, fun i ρ' => ∃ x : Sl, ρ' = [.dat (.lst (l.map arrD)), .dat (.str p), x] ∧ ∀ a ∈ l.take i, a.2.1 ≠ p, ⟨.no, rfl, fun _ h => by cases h⟩, ?_, ?_⟩
  · rintro i d ρ' hd ⟨x, rfl, ha⟩
    obtain ⟨a, ha', rfl⟩ := map_get hd
    walk_at "nz"
    refine br (fun c => ?_) (fun c => ?_)
    · walk_at "nz"
      refine hy a ?_
      obtain ⟨hi, e⟩ := List.getElem?_eq_some_iff.mp ha'
      unfold fromA
      rw [← List.take_append_drop i l, List.find?_append, List.find?_eq_none.mpr (fun b hb => by rw [decide_eq_false (ha b hb)]; exact Bool.false_ne_true), List.drop_eq_getElem_cons hi, e]
      rw [List.find?_cons, show decide (a.2.1 = p) = true from decide_eq_true c]
      rfl
    · walk_at "nz"
      refine ⟨_, rfl, fun b hb => ?_⟩
      rw [take_next ha'] at hb
      rcases List.mem_append.mp hb with z | z
      · exact ha b z
      · rw [List.mem_singleton.mp z]; exact c
  · rintro ρ' ⟨x, rfl, ha⟩
    rw [List.length_map, List.take_length] at ha
    walk_at "nz"
    refine hn ?_
    unfold fromA
    exact List.find?_eq_none.mpr fun b hb => by rw [decide_eq_false (ha b hb)]; exact Bool.false_ne_true
abbrev s_taken_round : Stmt := (top 24)
theorem sc_taken_round : FnScope ["left", "place", "taken", "arrow"] ["left", "place"] (defScope s_taken_round) := ⟨rfl, rfl, rfl, by decide +kernel, rfl, by decide +kernel, by decide +kernel⟩
theorem ok_taken_round {f : Addr} {fd : FuncData} (B : Bi mg) (c_arrow_from : Cal P w K mg base 1 "arrow_from" ["rows", "place"] (spD K T_arrow_from)) (F : FnP K "taken_round" s_taken_round f fd) : FnOk P w K mg base CX0 2 f fd ["left", "place"] (spU K T_taken_round) := by
  have nd := sc_taken_round.nd
  refine fn_U F sc_taken_round (fun ds πs Φ h => by rcases h with ⟨l, p, rfl, rfl, ok, hz, hq⟩ <;> rfl) fun cdv A outer s H E hr => ⟨_,
(pss_cons (ps_set (i := 2) nd rfl (by first | exact Or.inl rfl | exact Or.inr rfl) (pe_lst pa_nil))
(pss_cons (ps_set (i := 3) nd rfl (by first | exact Or.inl rfl | exact Or.inr rfl) (pe_cal c_arrow_from (hr.mono (by decide)) rfl (pa_cons (pv 0) (pa_cons (pv 1) pa_nil))))
(pss_cons (ps_while PassesOwn.never (pt_cmpR n_isnot (pv 3) pe_non (nomark _))
(pss_cons (ps_expr (n_bm (K := K) rfl PySem.F.plainAttrs_list PySem.F.slot_list_remove PySem.F.type_list_remove (n_removeD (K := K) rfl hr.u65) (pv 0) (pa_cons (pv 3) pa_nil)))
(pss_cons (ps_expr (n_bm (K := K) rfl PySem.F.plainAttrs_list PySem.F.slot_list_append PySem.F.type_list_append mt_append (pv 2) (pa_cons (pv 3) pa_nil)))
(pss_one (ps_set (i := 3) nd rfl (by first | exact Or.inl rfl | exact Or.inr rfl) (pe_cal c_arrow_from (hr.mono (by decide)) rfl (pa_cons (pv 0) (pa_cons (pe_ix (n_ix (K := K) rfl) (pv 3) pe_int (fun _ _ => rfl)) pa_nil))))))))
(pss_one (ps_ret (pv 2)))))),
  fun st p0 ds πs Φ h => ?_⟩
  rcases h with ⟨l, p, rfl, rfl, ok, hz, hq⟩
  have sl : sizeLine = 16777216 := sizeLine_eq
  walk_at "nz"
  refine ds_asgN ?_
  walk_at "nz"
  suffices W : ∀ d, (match fromA l p with | some a => d = arrD a | none => d = .non) → DSt ⟨K, st⟩ _ [.own (some p0) (l.map arrD), .dat (.str p), .own none [], .dat d] _ by
    refine ⟨l, p, rfl, fun a ha => ⟨noL_arr a, ?_⟩, fun hn => ⟨rfl, ?_⟩⟩
    · exact W (arrD a) (by rw [ha])
    · exact W .non (by rw [hn])
  intro d hd
  refine ds_seq ?_
  refine ds_while (fun ρ' => ∃ (m : Nat) (l' t : List Arr) (pl : Str) (d : Dat), ρ' = [.own (some p0) (l'.map arrD), .dat (.str p), .own none (t.map arrD), .dat d] ∧ l'.length ≤ m ∧ (∀ a ∈ l', a ∈ l) ∧ t.length + l'.length ≤ 12 ∧ (match fromA l' pl with | some a => d = arrD a | none => d = .non) ∧
    took l.length l p = (t ++ (took m l' pl).1, (took m l' pl).2)) (fun ρ' => match ρ' with | Sl.own _ ds :: _ => ds.length | _ => 0) ⟨l.length, l, [], p, d, rfl, Nat.le_refl _, fun _ h => h, by simpa using hz, hd, rfl⟩ ?_
  rintro ρ' ⟨m, l', t, pl, d, rfl, hm, hsub, hlen, hd, ht⟩
  have ok' : ArrsOk l' := fun a ha => ok a (hsub a ha)
  cases hf : fromA l' pl with
  | none =>
    rw [hf] at hd
    cases hd
    have e : took m l' pl = ([], l') := by
      cases m with
      | zero => rfl
      | succ m => unfold took; rw [hf]
    rw [e, List.append_nil] at ht
    rw [ht] at hq
    walk_at "nz"
    refine id_DSt ?_
    exact ds_retO rfl ⟨noLA_arrs _, _, rfl, noLA_arrs _, hq⟩
  | some a =>
    rw [hf] at hd
    cases hd
    obtain ⟨ha, hb⟩ := fromA_some hf
    walk_at "nz"
    have hel := List.length_erase_of_mem ha
    have hpos := List.length_pos_of_mem ha
    obtain ⟨m, rfl⟩ : ∃ k, m = k + 1 := ⟨m - 1, by omega⟩
    have ht' : took l.length l p = (t ++ [a] ++ (took m (l'.erase a) a.2.2).1, (took m (l'.erase a) a.2.2).2) := by
      rw [ht]
      have e : took (m + 1) l' pl = (a :: (took m (l'.erase a) a.2.2).1, (took m (l'.erase a) a.2.2).2) := by
        show (match fromA l' pl with | none => ([], l') | some a => _) = _
        rw [hf]
      rw [e, List.append_assoc]; rfl
    refine ⟨a, rfl, ha, ?_⟩
    walk_at "nz"
    refine ⟨by rw [List.length_map]; omega, ?_⟩
    walk_at "nz"
    have fin : ∀ d, (match fromA (l'.erase a) a.2.2 with | some b => d = arrD b | none => d = .non) → ∃ (m' : Nat) (l2 t2 : List Arr) (pl2 : Str) (d2 : Dat), [Sl.own (some p0) ((l'.erase a).map arrD), .dat (.str p), .own none (t.map arrD ++ [arrD a]), .dat d] = [.own (some p0) (l2.map arrD), .dat (.str p), .own none (t2.map arrD), .dat d2] ∧ l2.length ≤ m' ∧ (∀ a ∈ l2, a ∈ l) ∧ t2.length + l2.length ≤ 12 ∧ (match fromA l2 pl2 with | some a => d2 = arrD a | none => d2 = .non) ∧
        took l.length l p = (t2 ++ (took m' l2 pl2).1, (took m' l2 pl2).2) := fun d hd => ⟨m, l'.erase a, t ++ [a], a.2.2, d, by rw [List.map_append]; rfl, by omega, fun b hb => hsub b (List.mem_of_mem_erase hb), by rw [List.length_append, List.length_singleton]; omega, hd, ht'⟩
    have less : ((l'.erase a).map arrD).length < (l'.map arrD).length := by rw [List.length_map, List.length_map]; omega
    refine ⟨_, _, rfl, fun b hb => ⟨noL_arr b, ?_⟩, fun hn => ⟨rfl, ?_⟩⟩
    · exact ⟨fin (arrD b) (by rw [hb]), less⟩
    · exact ⟨fin .non (by rw [hn]), less⟩
abbrev s_open_at : Stmt := (top 25)
theorem sc_open_at : FnScope ["trail", "left", "at", "row"] ["trail", "left"] (defScope s_open_at) := ⟨rfl, rfl, rfl, by decide +kernel, rfl, by decide +kernel, by decide +kernel⟩
theorem ok_open_at {f : Addr} {fd : FuncData} (B : Bi mg) (c_arrow_from : Cal P w K mg base 1 "arrow_from" ["rows", "place"] (spD K T_arrow_from)) (F : FnP K "open_at" s_open_at f fd) : FnOk P w K mg base CX0 2 f fd ["trail", "left"] (spD K T_open_at) := by
  have nd := sc_open_at.nd
  refine fn_D F sc_open_at (fun ρ Φ h => by rcases h with ⟨t, l, rfl, hq⟩ <;> rfl) fun cdv A outer s H E hr => ⟨_,
(pss_cons (ps_for PassesOwn.never rfl (n_penum (K := K) rfl rfl B.enumerate (pa_cons (pv 0) pa_nil)) (n_gtup (K := K) (n := 2) (t := gNames [2, 3]) rfl rfl (pgs_cons (pg_name (i := 2) nd rfl (by first | exact Or.inl rfl | exact Or.inr rfl)) (pgs_cons (pg_name (i := 3) nd rfl (by first | exact Or.inl rfl | exact Or.inr rfl)) pgs_nil)))
(pss_one (ps_if (pt_cmpR n_isnot (pe_cal c_arrow_from (hr.mono (by decide)) rfl (pa_cons (pv 1) (pa_cons (pe_ix (n_ix (K := K) rfl) (pv 3) pe_int (fun _ _ => rfl)) pa_nil))) pe_non (nomark _))
(pss_one (ps_ret (pv 2)))
pss_nil)))
(pss_one (ps_ret pe_int))),
  fun st ρ Φ h => ?_⟩
  rcases h with ⟨t, l, rfl, hq⟩
  walk_at "nz"
  refine ds_forEn ?_
  walk_at "nz"
  refine ⟨_, rfl, fun i ρ' => ∃ x y : Sl, ρ' = [.dat (.lst (t.map arrD)), .dat (.lst (l.map arrD)), x, y] ∧ ∀ a ∈ t.take i, (fromA l a.2.1).isSome = false, ⟨.no, .no, rfl, fun _ h => by cases h⟩, ?_, ?_⟩
  · rintro i d ρ' hd ⟨x, y, rfl, ha⟩
    obtain ⟨a, ha', rfl⟩ := map_get hd
    walk_at "nz"
    refine ⟨_, _, rfl, fun b hb => ?_, fun hn => ?_⟩
    · walk_at "nz"
      have e : openA t l = i := by
        unfold openA
        obtain ⟨hi, e⟩ := List.getElem?_eq_some_iff.mp ha'
        rw [List.findIdx?_eq_some_iff_getElem.mpr ⟨hi, by rw [e, hb]; rfl, fun j hj => by
          rw [ha _ (List.mem_iff_getElem.mpr ⟨j, by rw [List.length_take]; omega, by rw [List.getElem_take]⟩)]; exact Bool.false_ne_true⟩]
        rfl
      rw [e] at hq
      exact hq
    · walk_at "nz"
      refine ⟨_, _, rfl, fun b hb => ?_⟩
      rw [take_next ha'] at hb
      rcases List.mem_append.mp hb with z | z
      · exact ha b z
      · rw [List.mem_singleton.mp z, hn]; rfl
  · rintro ρ' ⟨x, y, rfl, ha⟩
    rw [List.length_map, List.take_length] at ha
    have e : openA t l = 0 := by
      unfold openA
      rw [List.findIdx?_eq_none_iff.mpr fun a h => ha a h]
      rfl
    rw [e] at hq
    walk_at "nz"
    exact hq
abbrev s_trail_of : Stmt := (top 26)
theorem sc_trail_of : FnScope ["part", "left", "trail", "at", "more"] ["part"] (defScope s_trail_of) := ⟨rfl, rfl, rfl, by decide +kernel, rfl, by decide +kernel, by decide +kernel⟩
theorem ok_trail_of {f : Addr} {fd : FuncData} (B : Bi mg) (c_taken_round : Cal P w K mg base 2 "taken_round" ["left", "place"] (spU K T_taken_round)) (c_open_at : Cal P w K mg base 2 "open_at" ["trail", "left"] (spD K T_open_at)) (F : FnP K "trail_of" s_trail_of f fd) : FnOk P w K mg base CX0 3 f fd ["part"] (spN K T_trail_of) := by
  have nd := sc_trail_of.nd
  refine fn_N F sc_trail_of (fun ρ Φ h => by rcases h with ⟨P, rfl, ok, hz, cn, bal, ne, hq⟩ <;> rfl) fun cdv A outer s H E hr => ⟨_,
(pss_cons (ps_set (i := 1) nd rfl (by first | exact Or.inl rfl | exact Or.inr rfl) (pe_callTy (n_list (K := K) rfl) rfl B.list bb_list (pa_cons (pv 0) pa_nil)))
(pss_cons (ps_set (i := 2) nd rfl (by first | exact Or.inl rfl | exact Or.inr rfl) (pe_cal c_taken_round (hr.mono (by decide)) rfl (pa_cons (pv 1) (pa_cons (pe_ix (n_ix (K := K) rfl) (pe_ix (n_ix (K := K) rfl) (pv 0) pe_int (fun _ _ => rfl)) pe_int (fun _ _ => rfl)) pa_nil))))
(pss_cons (ps_while PassesOwn.never (pt_cmpR op_gt (pe_callB (n_len (K := K) rfl) rfl B.len bb_len (pa_cons (pv 1) pa_nil)) pe_int (nomark _))
(pss_cons (ps_set (i := 3) nd rfl (by first | exact Or.inl rfl | exact Or.inr rfl) (pe_cal c_open_at (hr.mono (by decide)) rfl (pa_cons (pv 2) (pa_cons (pv 1) pa_nil))))
(pss_cons (ps_set (i := 4) nd rfl (by first | exact Or.inl rfl | exact Or.inr rfl) (pe_cal c_taken_round (hr.mono (by decide)) rfl (pa_cons (pv 1) (pa_cons (pe_ix (n_ix (K := K) rfl) (pe_ix (n_ix (K := K) rfl) (pv 2) (pv 3) (fun _ _ => rfl)) pe_int (fun _ _ => rfl)) pa_nil))))
(pss_one (ps_set (i := 2) nd rfl (by first | exact Or.inl rfl | exact Or.inr rfl) (pe_op op_cat (pe_op op_cat (pe_slice (n_slL (K := K) rfl) (pv 2) po_none (po_some (pv 3))) (pv 4)) (pe_slice (n_slL (K := K) rfl) (pv 2) (po_some (pv 3)) po_none)))))))
(pss_one (ps_ret (pv 2)))))),
  fun st ρ Φ h => ?_⟩
  rcases h with ⟨P, rfl, ok, hz, cn, bal, ne, hq⟩
  have sl : sizeLine = 16777216 := sizeLine_eq
  cases P with
  | nil => exact absurd rfl ne
  | cons a P' =>
    replace hq : Φ ((trailG (a :: P').length (took (a :: P').length (a :: P') a.2.1).1 (took (a :: P').length (a :: P') a.2.1).2).map arrD) := hq
    have i0 : atI ((a :: P').map arrD) ((0 : Nat) : Int) = some (arrD a) := atI_nat rfl
    have hfa := fromA_is (List.mem_cons_self (a := a) (l := P'))
    generalize a :: P' = P at *
    obtain ⟨k1, k2, k3, _⟩ := took_round (Nat.le_refl P.length) (p := a.2.1) bal
    have k4 := took_ne (Nat.le_refl P.length) (p := a.2.1) hfa
    walk_at "nz"
    refine ds_asgN ?_
    walk_at "nz"
    refine id_DSt ?_
    refine ds_asgU (i := 1) (j := 2) (by with_unfolding_all rfl) (by decide) ?_
    walk_at "nz"
    refine dIx_l i0 ?_
    walk_at "nz"
    refine ⟨P, _, rfl, rfl, ok, hz, ?_⟩
    have hsz := k3.length_eq
    rw [List.length_append] at hsz
    refine ds_seq ?_
    refine ds_while (fun ρ' => ∃ (n : Nat) (t l : List Arr) (x y : Sl), ρ' = [.dat (.lst (P.map arrD)), .own none (l.map arrD), .own none (t.map arrD), x, y] ∧ l.length ≤ n ∧ trailG n t l = trailG P.length (took P.length P a.2.1).1 (took P.length P a.2.1).2 ∧ (t ++ l).Perm P ∧ Bal l ∧ Path a.2.1 t a.2.1 ∧ t ≠ []) (fun ρ' => match ρ' with | _ :: Sl.own _ ds :: _ => ds.length | _ => 0) ⟨P.length, _, _, .no, .no, rfl, by omega, rfl, k3, k2, k1, k4⟩ ?_
    rintro ρ' ⟨n, t, l, x, y, rfl, hn, hg, hpm, hbl, hpa, hne⟩
    rw [← hg] at hq
    have hlen := hpm.length_eq
    rw [List.length_append] at hlen
    have okl : ArrsOk l := fun b hb => ok b (hpm.mem_iff.mp (List.mem_append_right _ hb))
    walk_at "nz"
    rw [List.length_map]
    refine br (fun c => ?_) (fun c => ?_)
    rotate_left
    · have e : l = [] := List.length_eq_zero_iff.mp (by omega)
      subst e
      rw [trailG_nil] at hq
      walk_at "nz"
      refine id_DSt ?_
      exact ds_retO rfl hq
    have nl : l ≠ [] := fun z => by rw [z] at c; simp at c
    obtain ⟨b, h1, h2⟩ := open_hit cn hpm hbl hpa hne nl
    walk_at "nz"
    refine ⟨t, l, rfl, ?_⟩
    refine ⟨rfl, ?_⟩
    walk_at "nz"
    refine ds_asgU (i := 1) (j := 4) (by with_unfolding_all rfl) (by decide) ?_
    walk_at "nz"
    refine dIx_l (atI_nat (by rw [List.getElem?_map, h1]; rfl)) ?_
    walk_at "nz"
    refine ⟨l, _, rfl, rfl, okl, by omega, ?_⟩
    obtain ⟨m1, m2, m3, _⟩ := took_round (Nat.le_refl l.length) (p := b.2.1) hbl
    have m4 := took_ne (Nat.le_refl l.length) h2
    have m5 := List.length_pos_iff.mpr m4
    obtain ⟨n, rfl⟩ : ∃ k, n = k + 1 := ⟨n - 1, by omega⟩
    have hstep : trailG (n + 1) t l = trailG n (t.take (openA t l) ++ (took l.length l b.2.1).1 ++ t.drop (openA t l)) (took l.length l b.2.1).2 := by
      have e : trailG (n + 1) t l = if l.length = 0 then t else trailG n (t.take (openA t l) ++ (took l.length l ((t[openA t l]?).map (·.2.1)).get!).1 ++ t.drop (openA t l)) (took l.length l ((t[openA t l]?).map (·.2.1)).get!).2 := rfl
      rw [e, if_neg (by omega), h1]; rfl
    generalize took l.length l b.2.1 = r at m1 m2 m3 m4 m5 hstep
    generalize openA t l = o at h1 hstep
    have hl3 := m3.length_eq
    rw [List.length_append] at hl3
    have hol := (List.getElem?_eq_some_iff.mp h1).1
    refine id_DSt ?_
    refine ds_asgN ?_
    walk_at "nz"
    obtain ⟨s1, s2⟩ := splice_ok h1 hpm hpa m1 m3
    refine dSlL_to (k := o) ?_
    walk_at "nz"
    refine dCat_mk (by rw [List.length_take, List.length_map, List.length_map]; omega) ?_
    walk_at "nz"
    refine dSlL_from (k := o) ?_
    refine dCat_mk (by rw [List.length_append, List.length_take, List.length_drop, List.length_map, List.length_map]; omega) ?_
    rw [← List.map_take, ← List.map_drop, ← List.map_append, ← List.map_append]
    refine ⟨⟨n, _, _, _, _, rfl, by omega, by rw [← hstep]; exact hg, s2, m2, s1, fun z => ?_⟩, ?_⟩
    · have := congrArg List.length z
      rw [List.length_append, List.length_append] at this
      simp only [List.length_nil] at this
      omega
    · show (r.2.map arrD).length < (l.map arrD).length
      rw [List.length_map, List.length_map]
      omega
abbrev s_Web_closed_trails : Stmt := (inClass (top 27) 14)
theorem sc_Web_closed_trails : FnScope ["self", "part", "row"] ["self"] (defScope s_Web_closed_trails) := ⟨rfl, rfl, rfl, by decide +kernel, rfl, by decide +kernel, by decide +kernel⟩
theorem ok_Web_closed_trails {f : Addr} {fd : FuncData} (B : Bi mg) (c_parted : Cal P w K mg base 2 "parted" ["rows"] (spN K T_parted)) (c_trail_of : Cal P w K mg base 3 "trail_of" ["part"] (spN K T_trail_of)) (cl_Web : Cls K C_Web) (na_Web_web_rows : NoAttr K C_Web "web_rows") (F : FunD K "closed_trails" "Web.closed_trails" (defArgs s_Web_closed_trails) (defBody s_Web_closed_trails) (defScope s_Web_closed_trails) [] [] f fd) : FnOk P w K mg base CX0 4 f fd ["self"] (spS K (T_closed C_Web)) := by
  have nd := sc_Web_closed_trails.nd
  refine fn_S F sc_Web_closed_trails (fun ρ Φ h => by rcases h with ⟨rows, rfl, hw, hq⟩ <;> rfl) fun cdv A outer s H E hr => ⟨_,
(pss_one (ps_ret (pe_lc (own := [("part", 1)]) (g := (gName 1)) rfl nd (n_piq (K := K) rfl (pe_cal c_parted (hr.mono (by decide)) rfl (pa_cons (n_fld (K := K) rfl (pv 0)) pa_nil))) (blkOk_by (own := [("part", 1)]) (N := ["self", "part", "row"]) (sc := (defScope s_Web_closed_trails)) (by decide +kernel)) (fun _ _ _ _ _ => (pg_name (i := 1) nd rfl (by first | exact Or.inl rfl | exact Or.inr rfl))) (fun _ _ _ _ _ => pts_nil) (fun _ _ _ _ _ => (pe_lc (own := [("row", 2)]) (g := (gName 2)) rfl nd (n_pil (K := K) rfl (pe_cal c_trail_of (hr.mono (by decide)) rfl (pa_cons (pv 1) pa_nil))) (blkOk_by (own := [("row", 2)]) (N := ["self", "part", "row"]) (by kernel_rfl)) (fun _ _ _ _ _ => (pg_name (i := 2) nd rfl (by first | exact Or.inl rfl | exact Or.inr rfl))) (fun _ _ _ _ _ => pts_nil) (fun _ _ _ _ _ => (pe_ix (n_ix (K := K) rfl) (pv 2) pe_int (fun _ _ => rfl)))))))),
  fun st ρ Φ h => ?_⟩
  rcases h with ⟨rows, rfl, hw, hq⟩
  have sl : sizeLine = 16777216 := sizeLine_eq
  refine id_DSt ?_
  refine ds_retY (ey_lcQ rfl ?_)
  walk_at "nz"
  refine ⟨rows, rfl, hw.ok.ok, hw.ok.nd, hw.le, fun gs hg => ?_⟩
  have hgl := parts_len hg
  have hwl := hw.le
  refine ⟨_, .inl rfl, fun i acc => acc = (gs.take i).map (fun g => Inn.l ((boxL (trailOf g)).map Dat.str)), rfl, ?_, ?_⟩
  · rintro i d acc hd rfl
    obtain ⟨g, hgg, rfl⟩ := map_get hd
    have go := part_ok hg hw.ok g (List.mem_of_getElem? hgg)
    have gl := go.le
    have tl := (trailOf_ok go.cn go.bal go.ne go.nd).2.length_eq
    walk_at "nz"
    refine ey_of_n (en_lcLp (fun _ => true) (fun d => match d with | .tup (x :: _) => x | _ => .non) rfl ?_)
    walk_at "nz"
    refine ⟨g, rfl, fun a ha => hw.ok.ok a (go.sub a ha), by omega, go.cn, go.bal, go.ne, ?_⟩
    refine ⟨_, rfl, by rw [List.length_map]; omega, fun d hd => pure_yes ?_, ?_⟩
    · obtain ⟨b, hb, rfl⟩ := List.mem_map.mp hd
      walk_at "nz"
      rfl
    rw [filter_yes, List.map_map]
    refine ⟨.l _, rfl, by rw [List.length_map, List.length_take]; omega, ?_⟩
    show _ = (gs.take (i + 1)).map _
    rw [take_next hgg, List.map_append]
    show _ ++ _ = _ ++ [Inn.l (((trailOf g).map (·.1)).map Dat.str)]
    rw [List.map_map]
    rfl
  · intro D es he
    rw [List.length_map, List.take_length] at he
    exact hq gs hg D es he
abbrev s__law_copy : Stmt := (top 43)
theorem sc__law_copy : FnScope ["_law_thing", "_law_found", "_law_key", "_law_one"] ["_law_thing"] (defScope s__law_copy) := ⟨rfl, rfl, rfl, by decide +kernel, rfl, by decide +kernel, by decide +kernel⟩
theorem ok_copy_n {f : Addr} {fd : FuncData} (B : Bi mg) (F : FnP K "_law_copy" s__law_copy f fd) (hg : mg "_law_copy" = some (.ref f)) (bs : Binds K fd ["_law_thing"] []) : ∀ n : Nat, FnOk P w K mg base CX0 (n + 1) f fd ["_law_thing"] (spS K (T_cp n)) := by
  have nd := sc__law_copy.nd
  intro n
  induction n with
  | zero =>
    refine ⟨fun vs H Q E h => ?_, fun A outer s H args us vs Q E _ _ _ _ h => ?_⟩
    · obtain ⟨_, _, _, _, _, h, _⟩ := h
      exact h.elim
    · obtain ⟨_, _, _, _, _, h, _⟩ := h
      exact h.elim
  | succ n ih =>
    have sl : sizeLine = 16777216 := sizeLine_eq
    have c__law_copy : Cal P w K mg base (n + 1) "_law_copy" ["_law_thing"] (spS K (T_cp n)) := ⟨f, fd, hg, F.kp, bs, ih⟩
    refine fn_S F sc__law_copy (fun ρ Φ h => by rcases h with ⟨_, rfl, _⟩ | ⟨_, rfl, _⟩ | ⟨_, rfl, _⟩ <;> rfl) fun cdv A outer s H E hr => ⟨_,
(pss_cons (ps_if (pt_val (pe_callB (n_isi (K := K) rfl) rfl B.isinstance bb_isinstance (pa_cons (pv 0) (pa_cons (pe_bltn rfl B.list bb_list (v := .ty "list") rfl) pa_nil))))
(pss_one (ps_ret (pe_lc (own := [("_law_one", 3)]) (g := (gName 3)) rfl nd (n_piq (K := K) rfl (pv 0)) (blkOk_by (own := [("_law_one", 3)]) (N := ["_law_thing", "_law_found", "_law_key", "_law_one"]) (sc := (defScope s__law_copy)) (by decide +kernel)) (fun _ _ _ _ _ => (pg_name (i := 3) nd rfl (by first | exact Or.inl rfl | exact Or.inr rfl))) (fun _ _ _ _ _ => pts_nil) (fun _ _ _ _ _ => (pe_cal c__law_copy hr rfl (pa_cons (pv 3) pa_nil))))))
pss_nil)
(pss_cons (ps_if (pt_val (pe_callB (n_isi (K := K) rfl) rfl B.isinstance bb_isinstance (pa_cons (pv 0) (pa_cons (pe_bltn rfl B.tuple bb_tuple (v := .ty "tuple") rfl) pa_nil))))
(pss_one (ps_ret (pe_callTy (n_tuple (K := K) rfl) rfl B.tuple bb_tuple (pa_cons (pe_lc (own := [("_law_one", 3)]) (g := (gName 3)) rfl nd (n_piq (K := K) rfl (pv 0)) (blkOk_by (own := [("_law_one", 3)]) (N := ["_law_thing", "_law_found", "_law_key", "_law_one"]) (sc := (defScope s__law_copy)) (by decide +kernel)) (fun _ _ _ _ _ => (pg_name (i := 3) nd rfl (by first | exact Or.inl rfl | exact Or.inr rfl))) (fun _ _ _ _ _ => pts_nil) (fun _ _ _ _ _ => (pe_cal c__law_copy hr rfl (pa_cons (pv 3) pa_nil)))) pa_nil))))
pss_nil)
(pss_cons (ps_if (pt_val (pe_callB (n_isi (K := K) rfl) rfl B.isinstance bb_isinstance (pa_cons (pv 0) (pa_cons (pe_bltn rfl B.dict bb_dict (v := .ty "dict") rfl) pa_nil))))
(pss_cons (ps_set (i := 1) nd rfl (by first | exact Or.inl rfl | exact Or.inr rfl) pe_dnewK)
(pss_cons (ps_for PassesOwn.never rfl (n_piq (K := K) rfl (pv 0)) (pg_name (i := 2) nd rfl (by first | exact Or.inl rfl | exact Or.inr rfl))
(pss_one (ps_dput hr.u1 (pv 1) (pv 2) (pe_cal c__law_copy hr rfl (pa_cons (pe_ix (n_ix (K := K) rfl) (pv 0) (pv 2) (fun _ _ => rfl)) pa_nil)) rfl)))
(pss_one (ps_ret (pv 1)))))
pss_nil)
(pss_one (ps_ret (pv 0)))))), fun st ρ Φ h => ?_⟩
    rcases h with ⟨z, rfl, hq⟩ | ⟨zs, rfl, hn, hz, hq⟩ | ⟨rs, rfl, hn, hz, hz2, hq⟩
    · walk_at "nz"
      exact hq
    · obtain ⟨n, rfl⟩ : ∃ k, n = k + 1 := ⟨n - 1, by omega⟩
      walk_at "nz"
      refine ds_retN (en_lcQp (fun _ => true) (fun d => d) rfl ?_)
      walk_at "nz"
      refine ⟨_, .inl rfl, by rw [List.length_map]; omega, fun d hd => pure_yes ?_, ?_⟩
      · obtain ⟨z, hz, rfl⟩ := List.mem_map.mp hd
        refine ev_of_y (ey_call ?_)
        walk_at "nz"
        exact .inl ⟨z, rfl, _, rfl, rfl⟩
      rw [filter_yes, List.map_id']
      exact hq
    · obtain ⟨n, rfl⟩ : ∃ k, n = k + 2 := ⟨n - 2, by omega⟩
      walk_at "nz"
      refine ds_retY (ey_lcQ rfl ?_)
      walk_at "nz"
      refine ⟨_, .inl rfl, fun i acc => acc = (rs.take i).map (fun r => Inn.l (r.map Dat.str)), rfl, ?_, ?_⟩
      · rintro i d acc hd rfl
        obtain ⟨r, hr, rfl⟩ := map_get hd
        walk_at "nz"
        refine ey_call ?_
        walk_at "nz"
        refine .inr (.inl ⟨r, rfl, by omega, hz2 r (List.mem_of_getElem? hr), _, rfl, by rw [List.length_map, List.length_take]; omega, ?_⟩)
        show _ = (rs.take (i + 1)).map (fun r => Inn.l (r.map Dat.str))
        rw [take_next hr, List.map_append]
        rfl
      · intro D es he
        refine hq D es ?_
        rw [he, List.length_map, List.take_length]
theorem ok__law_copy {f : Addr} {fd : FuncData} (B : Bi mg) (hg : mg "_law_copy" = some (.ref f)) (bs : Binds K fd ["_law_thing"] []) (F : FnP K "_law_copy" s__law_copy f fd) : FnOk P w K mg base CX0 4 f fd ["_law_thing"] (spS K (T_cp 3)) := ok_copy_n B F hg bs 3
abbrev s__law_are_lists : Stmt := (top 48)
theorem sc__law_are_lists : FnScope ["_law_circuits", "_law_one", "_law_name_here"] ["_law_circuits"] (defScope s__law_are_lists) := ⟨rfl, rfl, rfl, by decide +kernel, rfl, by decide +kernel, by decide +kernel⟩
theorem ok__law_are_lists {f : Addr} {fd : FuncData} (B : Bi mg) (F : FnP K "_law_are_lists" s__law_are_lists f fd) : FnOk P w K mg base CX0 1 f fd ["_law_circuits"] (spD K T_are_lists) := by
  have nd := sc__law_are_lists.nd
  refine fn_D F sc__law_are_lists (fun ρ Φ h => by rcases h with ⟨rs, rfl, hq⟩ <;> rfl) fun cdv A outer s H E hr => ⟨_,
(pss_cons (ps_if (pt_not (pt_val (pe_callB (n_isi (K := K) rfl) rfl B.isinstance bb_isinstance (pa_cons (pv 0) (pa_cons (pe_bltn rfl B.list bb_list (v := .ty "list") rfl) pa_nil)))))
(pss_one (ps_ret pe_bl))
pss_nil)
(pss_cons (ps_for PassesOwn.never rfl (n_pil (K := K) rfl (pv 0)) (pg_name (i := 1) nd rfl (by first | exact Or.inl rfl | exact Or.inr rfl))
(pss_cons (ps_if (pt_not (pt_val (pe_callB (n_isi (K := K) rfl) rfl B.isinstance bb_isinstance (pa_cons (pv 1) (pa_cons (pe_bltn rfl B.list bb_list (v := .ty "list") rfl) pa_nil)))))
(pss_one (ps_ret pe_bl))
pss_nil)
(pss_one (ps_for PassesOwn.never rfl (n_pil (K := K) rfl (pv 1)) (pg_name (i := 2) nd rfl (by first | exact Or.inl rfl | exact Or.inr rfl))
(pss_one (ps_if (pt_not (pt_val (pe_callB (n_isi (K := K) rfl) rfl B.isinstance bb_isinstance (pa_cons (pv 2) (pa_cons (pe_bltn rfl B.str bb_str (v := .ty "str") rfl) pa_nil)))))
(pss_one (ps_ret pe_bl))
pss_nil))))))
(pss_one (ps_ret pe_bl)))),
  fun st ρ Φ h => ?_⟩
  rcases h with ⟨rs, rfl, hq⟩
  walk_at "nz"
  refine ds_forL ?_
  walk_at "nz"
  refine ⟨_, rfl, fun i ρ' => ∃ x y, ρ' = [_, x, y], ⟨_, _, rfl⟩, ?_, ?_⟩
  · rintro i d ρ' hd ⟨x, y, rfl⟩
    obtain ⟨r, hr, rfl⟩ := map_get hd
    walk_at "nz"
    refine ds_forL ?_
    walk_at "nz"
    refine ⟨_, rfl, fun i ρ' => ∃ x y, ρ' = [_, x, y], ⟨_, _, rfl⟩, ?_, ?_⟩
    · rintro j d ρ' hd ⟨x, y, rfl⟩
      obtain ⟨z, hz, rfl⟩ := map_get hd
      walk_at "nz"
      exact ⟨_, _, rfl⟩
    · rintro ρ' ⟨x, y, rfl⟩
      exact ⟨_, _, rfl⟩
  · rintro ρ' ⟨x, y, rfl⟩
    walk_at "nz"
    exact hq
abbrev s__law_is_trail : Stmt := (top 45)
theorem sc__law_is_trail : FnScope ["_law_arrows_here", "_law_boxes", "_law_plain", "_law_names_here", "_law_k", "_law_begins", "_law_row"] ["_law_arrows_here", "_law_boxes", "_law_plain"] (defScope s__law_is_trail) := ⟨rfl, rfl, rfl, by decide +kernel, rfl, by decide +kernel, by decide +kernel⟩
theorem ok__law_is_trail {f : Addr} {fd : FuncData} (B : Bi mg) (F : FnP K "_law_is_trail" s__law_is_trail f fd) : FnOk P w K mg base CX0 1 f fd ["_law_arrows_here", "_law_boxes", "_law_plain"] (spD K T_is_trail) := by
  have nd := sc__law_is_trail.nd
  refine fn_D F sc__law_is_trail (fun ρ Φ h => by rcases h with ⟨rows, r, plain, rfl, nd, hz, hz2, hsub, hy, hn⟩ <;> rfl) fun cdv A outer s H E hr => ⟨_,
(pss_cons (ps_setLc (i := 3) (own := [("_law_row", 6)]) (g := (gName 6)) rfl nd rfl rfl (sw_true rfl rfl rfl (by decide +kernel)) (n_pil (K := K) rfl (pv 0)) (blkOk_by (own := [("_law_row", 6)]) (N := ["_law_arrows_here", "_law_boxes", "_law_plain", "_law_names_here", "_law_k", "_law_begins", "_law_row"]) (sc := (defScope s__law_is_trail)) (by decide +kernel)) (fun _ _ _ _ _ => (pg_name (i := 6) nd rfl (by first | exact Or.inl rfl | exact Or.inr rfl))) (fun _ _ _ _ _ => pts_nil) (fun _ _ _ _ _ => (pe_ix (n_ix (K := K) rfl) (pv 6) pe_int (fun _ _ => rfl))))
(pss_cons (ps_for PassesOwn.never rfl (pi_range1 rfl B.range (pa_cons (pe_callB (n_len (K := K) rfl) rfl B.len bb_len (pa_cons (pv 1) pa_nil)) pa_nil)) (pg_name (i := 4) nd rfl (by first | exact Or.inl rfl | exact Or.inr rfl))
(pss_one (ps_if (PW.pt (pw_or (pt_cmpR (n_ni (K := K) rfl) (pe_ix (n_ix (K := K) rfl) (pv 1) (pv 4) (fun _ _ => rfl)) (pv 3) rfl) (pw_or1 (pt_cmpR (n_in (K := K) rfl) (pe_ix (n_ix (K := K) rfl) (pv 1) (pv 4) (fun _ _ => rfl)) (pe_slice (n_slL (K := K) rfl) (pv 1) po_none (po_some (pv 4))) rfl))))
(pss_one (ps_ret pe_bl))
pss_nil)))
(pss_cons (ps_set (i := 5) nd rfl (by first | exact Or.inl rfl | exact Or.inr rfl) (pe_lst pa_nil))
(pss_cons (ps_for PassesOwn.never rfl (pi_range1 rfl B.range (pa_cons (pe_callB (n_len (K := K) rfl) rfl B.len bb_len (pa_cons (pv 1) pa_nil)) pa_nil)) (pg_name (i := 4) nd rfl (by first | exact Or.inl rfl | exact Or.inr rfl))
(pss_cons (ps_set (i := 6) nd rfl (by first | exact Or.inl rfl | exact Or.inr rfl) (pe_ix (n_ix (K := K) rfl) (pv 0) (n_bm (K := K) rfl PySem.F.plainAttrs_list PySem.F.slot_list_index PySem.F.type_list_index (n_index (K := K) rfl) (pv 3) (pa_cons (pe_ix (n_ix (K := K) rfl) (pv 1) (pv 4) (fun _ _ => rfl)) pa_nil)) (fun _ _ => rfl)))
(pss_cons (ps_if (PW.pt (pw_or (pt_cmpR op_ne (pe_ix (n_ix (K := K) rfl) (pe_ix (n_ix (K := K) rfl) (pv 0) (n_bm (K := K) rfl PySem.F.plainAttrs_list PySem.F.slot_list_index PySem.F.type_list_index (n_index (K := K) rfl) (pv 3) (pa_cons (pe_ix (n_ix (K := K) rfl) (pv 1) (pe_op op_sub (pv 4) pe_int) (fun _ _ => rfl)) pa_nil)) (fun _ _ => rfl)) pe_int (fun _ _ => rfl)) (pe_ix (n_ix (K := K) rfl) (pv 6) pe_int (fun _ _ => rfl)) (nomark _)) (pw_or1 (PW.pt (pw_and (pt_val (pv 2)) (pw_and1 (pt_cmpR (n_in (K := K) rfl) (pe_ix (n_ix (K := K) rfl) (pv 6) pe_int (fun _ _ => rfl)) (pv 5) rfl)))))))
(pss_one (ps_ret pe_bl))
pss_nil)
(pss_one (ps_expr (n_bm (K := K) rfl PySem.F.plainAttrs_list PySem.F.slot_list_append PySem.F.type_list_append mt_append (pv 5) (pa_cons (pe_ix (n_ix (K := K) rfl) (pv 6) pe_int (fun _ _ => rfl)) pa_nil)))))))
(pss_one (ps_ret (pe_cmpR op_gt (pe_callB (n_len (K := K) rfl) rfl B.len bb_len (pa_cons (pv 1) pa_nil)) pe_int (nomark _)))))))),
  fun st ρ Φ h => ?_⟩
  rcases h with ⟨rows, r, plain, rfl, nd, hz, hz2, hsub, hy, hn⟩
  have sl : sizeLine = 16777216 := sizeLine_eq
  refine ds_seq ?_
  refine ds_asg (ev_of_n (en_lcL rfl ?_))
  walk_at "nw"
  refine ⟨_, rfl, fun j acc => acc = (rows.take j).map (fun a => Dat.str a.1), rfl, ?_, ?_⟩
  · rintro j d acc hd rfl
    obtain ⟨a, ha, rfl⟩ := map_get hd
    have hj : j < rows.length := (List.getElem?_eq_some_iff.mp ha).1
    walk_at "nw"
    refine ⟨by rw [List.length_map, List.length_take]; omega, ?_⟩
    show _ = (rows.take (j + 1)).map _
    rw [take_next ha, List.map_append]
    rfl
  rintro acc rfl
  rw [List.length_map, List.take_length]
  have en : rows.map (fun a => Dat.str a.1) = (rows.map (·.1)).map Dat.str := by rw [List.map_map]; rfl
  have er : r.map (fun a => Dat.str a.1) = (r.map (·.1)).map Dat.str := by rw [List.map_map]; rfl
  walk_at "nw"
  refine ds_for1 ?_
  walk_at "nw"
  rw [List.length_map]
  refine ⟨_, rfl, by omega, by omega, fun i ρ' => ∃ x, ρ' = [.dat (.lst (rows.map arrD)), .dat (.lst (r.map fun a => .str a.1)), .dat (.bl plain), .dat (.lst (rows.map fun a => .str a.1)), x, .no, .no] ∧ ((r.map (·.1)).take i).Nodup, ?_, ?_, ?_⟩
  · exact ⟨_, rfl, List.nodup_nil⟩
  · rintro i ρ' hi ⟨x, rfl, hnd⟩
    have hi' : i < r.length := by omega
    have ei := List.getElem?_eq_getElem hi'
    have e1 : (r.map fun a => Dat.str a.1)[i]? = some (.str r[i].1) := by rw [List.getElem?_map, ei]; rfl
    have e2 : (r.map (·.1))[i]? = some r[i].1 := by rw [List.getElem?_map, ei]; rfl
    walk_at "nw"
    refine dIx_l (atI_nat e1) ?_
    walk_at "nw"
    rw [en]
    refine dIn_s ?_
    walk_at "nw"
    refine br_not (fun c => absurd (List.mem_map.mpr ⟨_, hsub _ (List.getElem_mem hi'), rfl⟩) c) (fun c => ?_)
    walk_at "nw"
    refine dIx_l (atI_nat e1) ?_
    walk_at "nw"
    refine dSlL_to ?_
    rw [er, ← List.map_take]
    walk_at "nw"
    refine br (fun c => ?_) (fun c => ?_)
    · walk_at "nw"
      exact hn fun z => nodup_not e2 c z.nd
    · walk_at "nw"
      exact ⟨_, rfl, nodup_next e2 hnd c⟩
  rintro ρ' ⟨x, rfl, hnd⟩
  have hnd' : (r.map (·.1)).Nodup := by
    rw [Int.toNat_natCast, List.take_of_length_le (by rw [List.length_map]; exact Nat.le_refl _)] at hnd
    exact hnd
  refine ds_seq ?_
  refine ds_asgN ?_
  walk_at "nw"
  refine ⟨by show 0 ≤ sizeLine; omega, ?_⟩
  walk_at "nw"
  refine ds_for1 ?_
  walk_at "nw"
  rw [List.length_map]
  refine ⟨_, rfl, by omega, by omega, fun i ρ' => ∃ x y, ρ' = [.dat (.lst (rows.map arrD)), .dat (.lst (r.map fun a => .str a.1)), .dat (.bl plain), .dat (.lst (rows.map fun a => .str a.1)), x, .own none (((r.map (·.2.1)).take i).map Dat.str), y] ∧
    (∀ (j : Nat) (a b : Arr), j < i → r[j]? = some a → r[if j = 0 then r.length - 1 else j - 1]? = some b → b.2.2 = a.2.1) ∧ (plain = true → ((r.map (·.2.1)).take i).Nodup), ?_, ?_, ?_⟩
  · exact ⟨_, _, rfl, fun j a b hj => by omega, fun _ => List.nodup_nil⟩
  · rintro i ρ' hi ⟨x, y, rfl, hl, hb⟩
    have hi' : i < r.length := by omega
    have ei := List.getElem?_eq_getElem hi'
    have e1 : (r.map fun a => Dat.str a.1)[i]? = some (.str r[i].1) := by rw [List.getElem?_map, ei]; rfl
    obtain ⟨j, j1, j2, j3⟩ := index_of nd (hsub _ (List.getElem_mem hi'))
    have hk : (if i = 0 then r.length - 1 else i - 1) < r.length := by split <;> omega
    have ek := List.getElem?_eq_getElem hk
    obtain ⟨m, m1, m2, m3⟩ := index_of nd (hsub _ (List.getElem_mem hk))
    have e3 : (r.map (·.2.1))[i]? = some r[i].2.1 := by rw [List.getElem?_map, ei]; rfl
    walk_at "nw"
    refine ⟨_, by rw [en], ?_⟩
    walk_at "nw"
    refine dIx_l (atI_nat e1) ?_
    walk_at "nw"
    refine ⟨_, j, rfl, j2, j3, ?_⟩
    refine dIx_l (atI_nat (by rw [List.getElem?_map, j1]; rfl)) ?_
    walk_at "nw"
    refine ⟨_, by rw [en], ?_⟩
    walk_at "nw"
    refine dIx_l (atI_back (by rw [List.length_map]; exact hi') (v := .str (r[if i = 0 then r.length - 1 else i - 1]'hk).1) (by rw [List.length_map, List.getElem?_map, ek]; rfl)) ?_
    walk_at "nw"
    refine ⟨_, m, rfl, m2, m3, ?_⟩
    refine dIx_l (atI_nat (by rw [List.getElem?_map, m1]; rfl)) ?_
    walk_at "nw"
    refine br_not (fun c => ?_) (fun c => ?_)
    · walk_at "nw"
      exact hn fun z => c (z.ln i _ _ ei ek)
    have hl' : ∀ (j : Nat) (a b : Arr), j < i + 1 → r[j]? = some a → r[if j = 0 then r.length - 1 else j - 1]? = some b → b.2.2 = a.2.1 := fun j a b hj h1 h2 => by
      by_cases q : j = i
      · subst q
        rw [ei] at h1
        rw [ek] at h2
        cases h1
        cases h2
        exact c
      · exact hl j a b (by omega) h1 h2
    have fin : ∀ (hb' : plain = true → ((r.map (·.2.1)).take (i + 1)).Nodup), ∃ x y, [.dat (.lst (rows.map arrD)), .dat (.lst (r.map fun a => .str a.1)), .dat (.bl plain), .dat (.lst (rows.map fun a => .str a.1)), Sl.dat (.int i), .own none (((r.map (·.2.1)).take i).map Dat.str ++ [.str r[i].2.1]), Sl.dat (arrD r[i])] =
        [.dat (.lst (rows.map arrD)), .dat (.lst (r.map fun a => .str a.1)), .dat (.bl plain), .dat (.lst (rows.map fun a => .str a.1)), x, .own none (((r.map (·.2.1)).take (i + 1)).map Dat.str), y] ∧
        (∀ (j : Nat) (a b : Arr), j < i + 1 → r[j]? = some a → r[if j = 0 then r.length - 1 else j - 1]? = some b → b.2.2 = a.2.1) ∧ (plain = true → ((r.map (·.2.1)).take (i + 1)).Nodup) := fun hb' => by
      rw [take_next e3, List.map_append] at *
      exact ⟨_, _, rfl, hl', hb'⟩
    walk_at "nw"
    refine br_b (fun cp => ?_) (fun cp => ?_)
    · walk_at "nw"
      refine br (fun c2 => ?_) (fun c2 => ?_)
      · walk_at "nw"
        exact hn fun z => nodup_not e3 c2 (z.bg cp)
      · walk_at "nw"
        exact ⟨by rw [List.length_map, List.length_take]; omega, fin fun q => nodup_next e3 (hb q) c2⟩
    · walk_at "nw"
      exact ⟨by rw [List.length_map, List.length_take]; omega, fin fun q => by rw [cp] at q; cases q⟩
  rintro ρ' ⟨x, y, rfl, hl, hb⟩
  rw [Int.toNat_natCast] at hl hb
  walk_at "nw"
  rw [List.length_map]
  by_cases q : r = []
  · subst q
    exact hn fun z => z.ne rfl
  · have h0 : 0 < r.length := List.length_pos_iff.mpr q
    rw [decide_eq_true (show (0 : Int) < r.length by omega)]
    refine hy ⟨hsub, hnd', fun i a b h1 h2 => hl i a b (List.getElem?_eq_some_iff.mp h1).1 h1 h2, fun p => ?_, q⟩
    have := hb p
    rwa [List.take_of_length_le (by rw [List.length_map]; exact Nat.le_refl _)] at this
abbrev s_arrows_along : Stmt := (top 19)
theorem sc_arrows_along : FnScope ["rows", "boxes", "unused", "found", "box", "row"] ["rows", "boxes"] (defScope s_arrows_along) := ⟨rfl, rfl, rfl, by decide +kernel, rfl, by decide +kernel, by decide +kernel⟩
theorem ok_arrows_along {f : Addr} {fd : FuncData} (B : Bi mg) (F : FnP K "arrows_along" s_arrows_along f fd) : FnOk P w K mg base CX0 1 f fd ["rows", "boxes"] (spD K T_along) := by
  have nd := sc_arrows_along.nd
  refine fn_D F sc_arrows_along (fun ρ Φ h => by rcases h with ⟨rows, bs, rfl | rfl, nd, hl, hz, hy, hn⟩ <;> rfl) fun cdv A outer s H E hr => ⟨_,
(pss_cons (ps_setDc (i := 2) (own := [("row", 5)]) (g := (gName 5)) rfl nd rfl rfl (sw_trueD rfl rfl rfl (by decide +kernel)) (n_pit (K := K) rfl (pv 0)) (blkOk_by (own := [("row", 5)]) (N := ["rows", "boxes", "unused", "found", "box", "row"]) (sc := (defScope s_arrows_along)) (by decide +kernel)) (fun _ _ _ _ _ => (pg_name (i := 5) nd rfl (by first | exact Or.inl rfl | exact Or.inr rfl))) (fun _ _ _ _ _ => pts_nil) (fun _ _ _ _ _ => (pe_ix (n_ix (K := K) rfl) (pv 5) pe_int (fun _ _ => rfl))) (fun _ _ _ _ _ => (pv 5)))
(pss_cons (ps_set (i := 3) nd rfl (by first | exact Or.inl rfl | exact Or.inr rfl) (pe_lst pa_nil))
(pss_cons (ps_for PassesOwn.never rfl (n_piq (K := K) rfl (pv 1)) (pg_name (i := 4) nd rfl (by first | exact Or.inl rfl | exact Or.inr rfl))
(pss_cons (ps_if (PW.pt (pw_or (pt_not (pt_val (pe_callB (n_isi (K := K) rfl) rfl B.isinstance bb_isinstance (pa_cons (pv 4) (pa_cons (pe_bltn rfl B.str bb_str (v := .ty "str") rfl) pa_nil))))) (pw_or1 (pt_cmp (pc_dnotin hr.u1 (pv 4) (pv 2)) rfl))))
(pss_one (ps_ret pe_non))
pss_nil)
(pss_cons (ps_expr (n_bm (K := K) rfl PySem.F.plainAttrs_list PySem.F.slot_list_append PySem.F.type_list_append mt_append (pv 3) (pa_cons (n_dget (K := K) rfl hr.u1 (pv 2) (pv 4)) pa_nil)))
(pss_one (ps_ddel (pv 2) (pv 4))))))
(pss_one (ps_ret (pv 3)))))),
  fun st ρ Φ h => ?_⟩
  rcases h with ⟨rows, bs, rfl | rfl, nd, hl, hz, hy, hn⟩
  all_goals
    have sl : sizeLine = 16777216 := sizeLine_eq
    refine ds_seq ?_
    refine ds_asgK (ek_dcT (by rfl) ?_)
    walk_at "nz"
    refine ⟨_, rfl, fun i acc => acc = knD (rows.take i), rfl, ?_, ?_⟩
    · rintro i d acc hd rfl
      obtain ⟨a, ha, rfl⟩ := map_get hd
      have hi := getL ha
      have e1 : (rows.map (·.1))[i]? = some a.1 := by rw [List.getElem?_map, ha]; rfl
      have hnew : a.1 ∉ (rows.take i).map (·.1) := fun z => nodup_not e1 (by rw [← List.map_take]; exact z) nd
      walk_at "nz"
      refine ⟨_, rfl, by rw [List.length_map, List.length_take]; omega, ?_⟩
      show _ = knD (rows.take (i + 1))
      rw [take_next ha]
      exact putD_new hnew
    rintro acc rfl
    rw [List.length_map, List.take_length]
    walk_at "nz"
    refine ds_asgN ?_
    walk_at "nz"
    refine ds_forQ ?_
    walk_at "nz"
    refine ⟨_, by first | exact .inl rfl | exact .inr rfl, fun i ρ' => ∃ x kvs r, ρ' = [_, _, .ownK kvs, .own none (r.map arrD), x, .no] ∧ AlongP rows (bs.take i) r ∧ UseD rows (bs.take i) kvs ∧ kvs.length ≤ 12, ⟨_, _, [], rfl, ⟨rfl, (fun _ h => by cases h), List.nodup_nil⟩, UseD.start nd, by rw [List.length_map]; exact hl⟩, ?_, ?_⟩
    · rintro i d ρ' hd ⟨x, kvs, r, rfl, ha, hu, hk⟩
      obtain ⟨z, hz', rfl⟩ := map_get hd
      have hi := getL hz'
      have rl : r.length = i := by
        have := congrArg List.length ha.1
        rw [List.length_map, List.length_take] at this
        omega
      walk_at "nz"
      refine br_nb (fun c => ?_) (fun c => ?_)
      · walk_at "nz"
        refine hn fun q hq => ?_
        obtain ⟨a, ha', e⟩ := List.mem_map.mp (show z ∈ q.map (·.1) by rw [hq.1]; exact List.mem_of_getElem? hz')
        have h1 := hu.in_ a (hq.2.1 a ha') (by rw [e]; exact fun w => nodup_not hz' w hq.2.2)
        rw [e] at h1
        rw [h1] at c
        cases c
      have hzr : z ∈ rows.map (·.1) := by
        by_cases q : z ∈ rows.map (·.1)
        · exact q
        · rw [hu.out z q] at c; cases c
      have hzu : z ∉ bs.take i := fun q => by
        rw [hu.us z q] at c
        cases c
      obtain ⟨a, har, rfl⟩ := List.mem_map.mp hzr
      have hv := hu.in_ a har hzu
      walk_at "nz"
      refine dGetK_s hv ?_
      refine ⟨by rw [List.length_map]; omega, ?_⟩
      refine ds_ddel (by rfl) ?_
      walk_at "nz"
      refine ⟨_, rfl, c, ?_⟩
      refine ⟨_, _, r ++ [a], by rw [List.map_append]; rfl, ⟨?_, fun b hb => ?_, ?_⟩, ?_, ?_⟩
      · rw [take_next hz', List.map_append, ha.1]; rfl
      · rcases List.mem_append.mp hb with w | w
        · exact ha.2.1 b w
        · rw [List.mem_singleton.mp w]; exact har
      · rw [take_next hz', List.nodup_append]
        exact ⟨ha.2.2, by simp, fun p hp q hq e => hzu (by rw [List.mem_singleton.mp hq] at e; exact e ▸ hp)⟩
      · rw [take_next hz']
        exact hu.drop a.1
      · exact Nat.le_trans (List.length_filter_le _ _) hk
    · rintro ρ' ⟨x, kvs, r, rfl, ha, hu, hk⟩
      rw [List.length_map, List.take_length] at ha
      walk_at "nz"
      exact ds_retO (by rfl) (hy r ha)
abbrev s_closes : Stmt := (top 20)
theorem sc_closes : FnScope ["rows", "begins", "ends", "row"] ["rows"] (defScope s_closes) := ⟨rfl, rfl, rfl, by decide +kernel, rfl, by decide +kernel, by decide +kernel⟩
theorem ok_closes {f : Addr} {fd : FuncData} (B : Bi mg) (F : FnP K "closes" s_closes f fd) : FnOk P w K mg base CX0 1 f fd ["rows"] (spD K T_closes) := by
  have nd := sc_closes.nd
  refine fn_D F sc_closes (fun ρ Φ h => by rcases h with ⟨r, rfl, ok, hz, hy, hn⟩ <;> rfl) fun cdv A outer s H E hr => ⟨_,
(pss_cons (ps_setLc (i := 1) (own := [("row", 3)]) (g := (gName 3)) rfl nd rfl rfl (sw_true rfl rfl rfl (by decide +kernel)) (n_pil (K := K) rfl (pv 0)) (blkOk_by (own := [("row", 3)]) (N := ["rows", "begins", "ends", "row"]) (sc := (defScope s_closes)) (by decide +kernel)) (fun _ _ _ _ _ => (pg_name (i := 3) nd rfl (by first | exact Or.inl rfl | exact Or.inr rfl))) (fun _ _ _ _ _ => pts_nil) (fun _ _ _ _ _ => (pe_ix (n_ix (K := K) rfl) (pv 3) pe_int (fun _ _ => rfl))))
(pss_cons (ps_setLc (i := 2) (own := [("row", 3)]) (g := (gName 3)) rfl nd rfl rfl (sw_true rfl rfl rfl (by decide +kernel)) (n_pil (K := K) rfl (pv 0)) (blkOk_by (own := [("row", 3)]) (N := ["rows", "begins", "ends", "row"]) (sc := (defScope s_closes)) (by decide +kernel)) (fun _ _ _ _ _ => (pg_name (i := 3) nd rfl (by first | exact Or.inl rfl | exact Or.inr rfl))) (fun _ _ _ _ _ => pts_nil) (fun _ _ _ _ _ => (pe_ix (n_ix (K := K) rfl) (pv 3) pe_int (fun _ _ => rfl))))
(pss_one (ps_ret (pe_and (pe_cmpR op_gt (pe_callB (n_len (K := K) rfl) rfl B.len bb_len (pa_cons (pv 0) pa_nil)) pe_int (nomark _)) (pe_one (pe_cmpR (n_eqD (K := K) rfl hr.units) (pv 2) (pe_op op_cat (pe_slice (n_slL (K := K) rfl) (pv 1) (po_some pe_int) po_none) (pe_slice (n_slL (K := K) rfl) (pv 1) po_none (po_some pe_int))) (nomark _)))))))),
  fun st ρ Φ h => ?_⟩
  rcases h with ⟨r, rfl, ok, hz, hy, hn⟩
  have sl : sizeLine = 16777216 := sizeLine_eq
  refine ds_seq ?_
  refine ds_asgN (en_lcLp (fun _ => true) (fun d => match d with | .tup [_, b, _] => b | _ => .non) (by rfl) ?_)
  walk_at "nz"
  refine ⟨_, rfl, by rw [List.length_map]; omega, fun d hd => pure_yes ?_, ?_⟩
  · obtain ⟨a, ha, rfl⟩ := List.mem_map.mp hd
    walk_at "nz"
    rfl
  rw [filter_yes, List.map_map]
  refine ds_seq ?_
  refine ds_asgN (en_lcLp (fun _ => true) (fun d => match d with | .tup [_, _, b] => b | _ => .non) (by rfl) ?_)
  walk_at "nz"
  refine ⟨_, rfl, by rw [List.length_map]; omega, fun d hd => pure_yes ?_, ?_⟩
  · obtain ⟨a, ha, rfl⟩ := List.mem_map.mp hd
    walk_at "nz"
    rfl
  rw [filter_yes, List.map_map]
  have eb : (r.map ((fun d => match d with | .tup [_, b, _] => b | _ => Dat.non) ∘ arrD)) = (r.map (·.2.1)).map Dat.str := by rw [List.map_map]; rfl
  have ee : (r.map ((fun d => match d with | .tup [_, _, b] => b | _ => Dat.non) ∘ arrD)) = (r.map (·.2.2)).map Dat.str := by rw [List.map_map]; rfl
  have nb : ∀ z ∈ r.map (·.2.1), NameS z := fun z hz => by
    obtain ⟨a, ha, rfl⟩ := List.mem_map.mp hz
    exact (ok a ha).n2
  have ne : ∀ z ∈ r.map (·.2.2), NameS z := fun z hz => by
    obtain ⟨a, ha, rfl⟩ := List.mem_map.mp hz
    exact (ok a ha).n3
  rw [eb, ee]
  walk_at "nz"
  rw [List.length_map]
  refine br (fun c => ?_) (fun c => ?_)
  rotate_left
  · exact hn fun h => c (by have := List.length_pos_iff.mpr h.1; omega)
  walk_at "nz"
  refine dSlL_from (k := 1) ?_
  walk_at "nz"
  refine dSlL_to (k := 1) ?_
  refine dCat_mk (by rw [List.length_drop, List.length_take, List.length_map, List.length_map]; omega) ?_
  rw [← List.map_drop, ← List.map_take, ← List.map_append]
  refine dEqD_strs ne (fun z hz => ?_) ?_
  · rcases List.mem_append.mp hz with w | w
    · exact nb z (List.mem_of_mem_drop w)
    · exact nb z (List.mem_of_mem_take w)
  have hr : r ≠ [] := fun z => by rw [z] at c; simp at c
  by_cases q : r.map (·.2.2) = (r.map (·.2.1)).drop 1 ++ (r.map (·.2.1)).take 1
  · rw [decide_eq_true q]
    exact hy ⟨hr, q⟩
  · rw [decide_eq_false q]
    exact hn fun h => q h.2
abbrev s_Web_is_trail : Stmt := (inClass (top 27) 10)
theorem sc_Web_is_trail : FnScope ["self", "boxes", "rows"] ["self", "boxes"] (defScope s_Web_is_trail) := ⟨rfl, rfl, rfl, by decide +kernel, rfl, by decide +kernel, by decide +kernel⟩
theorem ok_Web_is_trail {f : Addr} {fd : FuncData} (B : Bi mg) (c_arrows_along : Cal P w K mg base 1 "arrows_along" ["rows", "boxes"] (spD K T_along)) (c_closes : Cal P w K mg base 1 "closes" ["rows"] (spD K T_closes)) (cl_Web : Cls K C_Web) (na_Web_web_rows : NoAttr K C_Web "web_rows") (F : FunD K "is_trail" "Web.is_trail" (defArgs s_Web_is_trail) (defBody s_Web_is_trail) (defScope s_Web_is_trail) [] [] f fd) : FnOk P w K mg base CX0 2 f fd ["self", "boxes"] (spD K (T_is_tr C_Web false)) := by
  have nd := sc_Web_is_trail.nd
  refine fn_D F sc_Web_is_trail (fun ρ Φ h => by rcases h with ⟨rows, bs, rfl | rfl, hw, hz, hy, hn⟩ <;> rfl) fun cdv A outer s H E hr => ⟨_,
(pss_cons (ps_set (i := 2) nd rfl (by first | exact Or.inl rfl | exact Or.inr rfl) (pe_cal c_arrows_along (hr.mono (by decide)) rfl (pa_cons (n_fld (K := K) rfl (pv 0)) (pa_cons (pv 1) pa_nil))))
(pss_one (ps_ret (pe_and (pe_cmpR n_isnot (pv 2) pe_non (nomark _)) (pe_one (pe_cal c_closes (hr.mono (by decide)) rfl (pa_cons (pv 2) pa_nil))))))),
  fun st ρ Φ h => ?_⟩
  rcases h with ⟨rows, bs, rfl | rfl, hw, hz, hy, hn⟩
  all_goals
    have sl : sizeLine = 16777216 := sizeLine_eq
    walk_at "nz"
    refine ⟨rows, bs, by first | exact .inl rfl | exact .inr rfl, hw.ok.nd, hw.le, hz, fun r hr => ?_, fun hno => ?_⟩
    rotate_left
    · walk_at "nz"
      exact hn fun h => by
        obtain ⟨r, hr, _⟩ := isTr_iff.mp h
        exact hno r hr
    have hl : r.length = bs.length := by
      have := congrArg List.length hr.1
      rwa [List.length_map] at this
    walk_at "nz"
    refine ⟨r, rfl, fun a ha => hw.ok.ok a (hr.2.1 a ha), by omega, fun hc => ?_, fun hc => ?_⟩
    · exact hy (isTr_iff.mpr ⟨r, hr, hc, fun z => nomatch z⟩)
    · exact hn fun h => by
        obtain ⟨q, hq, h1, _⟩ := isTr_iff.mp h
        rw [along_uniq hw.ok.nd hq hr] at h1
        exact hc h1
abbrev s_Web_is_circuit : Stmt := (inClass (top 27) 9)
theorem sc_Web_is_circuit : FnScope ["self", "boxes", "rows", "row"] ["self", "boxes"] (defScope s_Web_is_circuit) := ⟨rfl, rfl, rfl, by decide +kernel, rfl, by decide +kernel, by decide +kernel⟩
theorem ok_Web_is_circuit {f : Addr} {fd : FuncData} (B : Bi mg) (c_arrows_along : Cal P w K mg base 1 "arrows_along" ["rows", "boxes"] (spD K T_along)) (c_closes : Cal P w K mg base 1 "closes" ["rows"] (spD K T_closes)) (cl_Web : Cls K C_Web) (na_Web_web_rows : NoAttr K C_Web "web_rows") (F : FunD K "is_circuit" "Web.is_circuit" (defArgs s_Web_is_circuit) (defBody s_Web_is_circuit) (defScope s_Web_is_circuit) [] [] f fd) : FnOk P w K mg base CX0 2 f fd ["self", "boxes"] (spD K (T_is_tr C_Web true)) := by
  have nd := sc_Web_is_circuit.nd
  refine fn_D F sc_Web_is_circuit (fun ρ Φ h => by rcases h with ⟨rows, bs, rfl | rfl, hw, hz, hy, hn⟩ <;> rfl) fun cdv A outer s H E hr => ⟨_,
(pss_cons (ps_set (i := 2) nd rfl (by first | exact Or.inl rfl | exact Or.inr rfl) (pe_cal c_arrows_along (hr.mono (by decide)) rfl (pa_cons (n_fld (K := K) rfl (pv 0)) (pa_cons (pv 1) pa_nil))))
(pss_one (ps_ret (pe_and (pe_cmpR n_isnot (pv 2) pe_non (nomark _)) (pe_and (pe_cal c_closes (hr.mono (by decide)) rfl (pa_cons (pv 2) pa_nil)) (pe_one (pe_cmpR op_eq (pe_callB n_lenSK rfl B.len bb_len (pa_cons (pe_scK (own := [("row", 3)]) (g := (gName 3)) rfl nd (n_pil (K := K) rfl (pv 2)) (blkOk_by (own := [("row", 3)]) (N := ["self", "boxes", "rows", "row"]) (sc := (defScope s_Web_is_circuit)) (by decide +kernel)) (fun _ _ _ _ _ => (pg_name (i := 3) nd rfl (by first | exact Or.inl rfl | exact Or.inr rfl))) (fun _ _ _ _ _ => pts_nil) (fun _ _ _ _ _ => (pe_ix (n_ix (K := K) rfl) (pv 3) pe_int (fun _ _ => rfl)))) pa_nil)) (pe_callB (n_len (K := K) rfl) rfl B.len bb_len (pa_cons (pv 2) pa_nil)) (nomark _)))))))),
  fun st ρ Φ h => ?_⟩
  rcases h with ⟨rows, bs, rfl | rfl, hw, hz, hy, hn⟩
  all_goals
    have sl : sizeLine = 16777216 := sizeLine_eq
    walk_at "nz"
    refine ⟨rows, bs, by first | exact .inl rfl | exact .inr rfl, hw.ok.nd, hw.le, hz, fun r hr => ?_, fun hno => ?_⟩
    rotate_left
    · walk_at "nz"
      exact hn fun h => by
        obtain ⟨r, hr, _⟩ := isTr_iff.mp h
        exact hno r hr
    have hl : r.length = bs.length := by
      have := congrArg List.length hr.1
      rwa [List.length_map] at this
    walk_at "nz"
    refine ⟨r, rfl, fun a ha => hw.ok.ok a (hr.2.1 a ha), by omega, fun hc => ?_, fun hc => ?_⟩
    rotate_left
    · walk_at "nz"
      exact hn fun h => by
        obtain ⟨q, hq, h1, _⟩ := isTr_iff.mp h
        rw [along_uniq hw.ok.nd hq hr] at h1
        exact hc h1
    walk_at "nz"
    refine ev_lenSc (by rfl) ?_
    walk_at "nz"
    refine ⟨_, rfl, by rw [List.length_map]; omega, fun d => match d with | .tup [_, .str b, _] => .inr b | _ => .inl 0, fun d hd => ?_, fun n hnd => ?_⟩
    · obtain ⟨a, ha, rfl⟩ := List.mem_map.mp hd
      walk_at "nz"
      rfl
    have e1 : (r.map arrD).map (fun d => match d with | .tup [_, .str b, _] => (.inr b : Key) | _ => .inl 0) = (r.map (·.2.1)).map Sum.inr := by rw [List.map_map, List.map_map]; rfl
    rw [e1, List.length_map] at hnd
    have e2 : ((r.map (·.2.1)).map (Sum.inr : Str → Key)).Nodup ↔ (r.map (·.2.1)).Nodup := by
      constructor
      · intro h
        exact List.Pairwise.of_map _ (fun a b h e => h (by rw [e])) h
      · intro h
        exact List.Pairwise.map _ (fun a b h e => h (Sum.inr.inj e)) h
    rw [e2] at hnd
    walk_at "nz"
    by_cases q : (r.map (·.2.1)).Nodup
    · rw [List.length_map, decide_eq_true (show (n : Int) = r.length by rw [hnd.mpr q])]
      exact hy (isTr_iff.mpr ⟨r, hr, hc, fun _ => q⟩)
    · rw [List.length_map, decide_eq_false (show ¬ (n : Int) = r.length from fun z => q (hnd.mp (by omega)))]
      exact hn fun h => by
        obtain ⟨p, hp, _, h2⟩ := isTr_iff.mp h
        rw [along_uniq hw.ok.nd hp hr] at h2
        exact q (h2 rfl)
abbrev s__law_same : Stmt := (top 42)
theorem sc__law_same : FnScope ["_law_one", "_law_other", "_law_k"] ["_law_one", "_law_other"] (defScope s__law_same) := ⟨rfl, rfl, rfl, by decide +kernel, rfl, by decide +kernel, by decide +kernel⟩
theorem ok_same_n {f : Addr} {fd : FuncData} (B : Bi mg) (F : FnP K "_law_same" s__law_same f fd) (hg : mg "_law_same" = some (.ref f)) (bs : Binds K fd ["_law_one", "_law_other"] []) : ∀ n : Nat, FnOk P w K mg base CX0 (n + 1) f fd ["_law_one", "_law_other"] (spD K (T_same n)) := by
  have nd := sc__law_same.nd
  intro n
  induction n with
  | zero =>
    refine ⟨fun vs H Q E h => ?_, fun A outer s H args us vs Q E _ _ _ _ h => ?_⟩
    · obtain ⟨_, _, _, _, _, h, _⟩ := h
      exact h.elim
    · obtain ⟨_, _, _, _, _, h, _⟩ := h
      exact h.elim
  | succ n ih =>
    have c__law_same : Cal P w K mg base (n + 1) "_law_same" ["_law_one", "_law_other"] (spD K (T_same n)) := ⟨f, fd, hg, F.kp, bs, ih⟩
    refine fn_D F sc__law_same (fun ρ Φ h => by obtain ⟨d, e, rfl, _⟩ := h; rfl) fun cdv A outer s H E hr => ⟨_,
(pss_cons (ps_if (PW.pt (pw_or (pt_cmpR n_is (pv 0) pe_non (nomark _)) (pw_or1 (pt_cmpR n_is (pv 1) pe_non (nomark _)))))
(pss_one (ps_ret (pe_and (pe_cmpR n_is (pv 0) pe_non (nomark _)) (pe_one (pe_cmpR n_is (pv 1) pe_non (nomark _))))))
pss_nil)
(pss_cons (ps_if (PW.pt (pw_or (pt_val (pe_callB (n_isi (K := K) rfl) rfl B.isinstance bb_isinstance (pa_cons (pv 0) (pa_cons (pe_bltn rfl B.bool bb_bool (v := .ty "bool") rfl) pa_nil)))) (pw_or1 (pt_val (pe_callB (n_isi (K := K) rfl) rfl B.isinstance bb_isinstance (pa_cons (pv 1) (pa_cons (pe_bltn rfl B.bool bb_bool (v := .ty "bool") rfl) pa_nil)))))))
(pss_one (ps_ret (pe_and (pe_callB (n_isi (K := K) rfl) rfl B.isinstance bb_isinstance (pa_cons (pv 0) (pa_cons (pe_bltn rfl B.bool bb_bool (v := .ty "bool") rfl) pa_nil))) (pe_and (pe_callB (n_isi (K := K) rfl) rfl B.isinstance bb_isinstance (pa_cons (pv 1) (pa_cons (pe_bltn rfl B.bool bb_bool (v := .ty "bool") rfl) pa_nil))) (pe_one (pe_cmpR op_eq (pv 0) (pv 1) (nomark _)))))))
pss_nil)
(pss_cons (ps_if (pt_val (pe_callB (n_isi (K := K) rfl) rfl B.isinstance bb_isinstance (pa_cons (pv 0) (pa_cons (pe_bltn rfl B.int bb_int (v := .ty "int") rfl) pa_nil))))
(pss_one (ps_ret (pe_and (pe_callB (n_isi (K := K) rfl) rfl B.isinstance bb_isinstance (pa_cons (pv 1) (pa_cons (pe_bltn rfl B.int bb_int (v := .ty "int") rfl) pa_nil))) (pe_one (pe_cmpR op_eq (pv 0) (pv 1) (nomark _))))))
pss_nil)
(pss_cons (ps_if (pt_val (pe_callB (n_isi (K := K) rfl) rfl B.isinstance bb_isinstance (pa_cons (pv 0) (pa_cons (pe_bltn rfl B.str bb_str (v := .ty "str") rfl) pa_nil))))
(pss_one (ps_ret (pe_and (pe_callB (n_isi (K := K) rfl) rfl B.isinstance bb_isinstance (pa_cons (pv 1) (pa_cons (pe_bltn rfl B.str bb_str (v := .ty "str") rfl) pa_nil))) (pe_one (pe_cmpR op_eq (pv 0) (pv 1) (nomark _))))))
pss_nil)
(pss_cons (ps_if (pt_val (pe_callB (n_isi (K := K) rfl) rfl B.isinstance bb_isinstance (pa_cons (pv 0) (pa_cons (pe_bltn rfl B.dict bb_dict (v := .ty "dict") rfl) pa_nil))))
(pss_one ps_never)
pss_nil)
(pss_cons (ps_if (PW.pt (pw_and (pt_val (pe_callB (n_isi (K := K) rfl) rfl B.isinstance bb_isinstance (pa_cons (pv 0) (pa_cons (pe_bltn rfl B.list bb_list (v := .ty "list") rfl) pa_nil)))) (pw_and1 (pt_not (pt_val (pe_callB (n_isi (K := K) rfl) rfl B.isinstance bb_isinstance (pa_cons (pv 1) (pa_cons (pe_bltn rfl B.list bb_list (v := .ty "list") rfl) pa_nil))))))))
(pss_one (ps_ret pe_bl))
pss_nil)
(pss_cons (ps_if (PW.pt (pw_and (pt_val (pe_callB (n_isi (K := K) rfl) rfl B.isinstance bb_isinstance (pa_cons (pv 0) (pa_cons (pe_bltn rfl B.tuple bb_tuple (v := .ty "tuple") rfl) pa_nil)))) (pw_and1 (pt_not (pt_val (pe_callB (n_isi (K := K) rfl) rfl B.isinstance bb_isinstance (pa_cons (pv 1) (pa_cons (pe_bltn rfl B.tuple bb_tuple (v := .ty "tuple") rfl) pa_nil))))))))
(pss_one (ps_ret pe_bl))
pss_nil)
(pss_cons (ps_if (PW.pt (pw_or (pt_not (pt_val (pe_callB (n_isiT (K := K) rfl) rfl B.isinstance bb_isinstance (pa_cons (pv 0) (pa_cons (pe_tup (pa_cons (pe_bltn rfl B.list bb_list (v := .ty "list") rfl) (pa_cons (pe_bltn rfl B.tuple bb_tuple (v := .ty "tuple") rfl) pa_nil))) pa_nil))))) (pw_or1 (pt_cmpR op_ne (pe_callB (n_len (K := K) rfl) rfl B.len bb_len (pa_cons (pv 0) pa_nil)) (pe_callB (n_len (K := K) rfl) rfl B.len bb_len (pa_cons (pv 1) pa_nil)) (nomark _)))))
(pss_one (ps_ret pe_bl))
pss_nil)
(pss_cons (ps_for PassesOwn.never rfl (pi_range1 rfl B.range (pa_cons (pe_callB (n_len (K := K) rfl) rfl B.len bb_len (pa_cons (pv 0) pa_nil)) pa_nil)) (pg_name (i := 2) nd rfl (by first | exact Or.inl rfl | exact Or.inr rfl))
(pss_one (ps_if (pt_not (pt_val (pe_cal c__law_same hr rfl (pa_cons (pe_ix (n_ix (K := K) rfl) (pv 0) (pv 2) (fun _ _ => rfl)) (pa_cons (pe_ix (n_ix (K := K) rfl) (pv 1) (pv 2) (fun _ _ => rfl)) pa_nil)))))
(pss_one (ps_ret pe_bl))
pss_nil)))
(pss_one (ps_ret pe_bl))))))))))), fun st ρ Φ h => ?_⟩
    obtain ⟨d, e, hρ, hdp, hd, he, hq⟩ := h
    subst hρ
    have pd := okD_plain hd
    have pe := okD_plain he
    -- the last part: two lists, two tuples
    have fin : ∀ (xs ys : List Dat) (x y : Dat), (x = .lst xs ∧ y = .lst ys ∨ x = .tup xs ∧ y = .tup ys) → xs.length ≤ sizeLine → ys.length ≤ sizeLine → okA xs = true → okA ys = true → dptA xs + 1 ≤ n → xs.length = ys.length → Φ (.bl (sameA xs ys)) →
        DSt ⟨K, st⟩ (tSeq (tFor (iRng1 (tCons (tCB (rLenK K) (tCons (tVar 0) tNil)) tNil)) (gName 2) (tIfS (tNot (tB (tCall (spD K (T_same n)) [] E0 (tCons (tOp (rIx K) (tVar 0) (tVar 2)) (tCons (tOp (rIx K) (tVar 1) (tVar 2)) tNil))))) (tRet (tC (.bl false))) tNext)) (tRet (tC (.bl true)))) [.dat x, .dat y, .no]
          { nx := fun _ => Φ .non, rt := fun d _ => Φ d, rn := fun ds _ => Φ (.lst ds) } := by
      intro xs ys x y hxy lx ly ox oy hdp hl hq
      have lx' : xs.length ≤ 16777216 := lx
      obtain ⟨n, rfl⟩ : ∃ k, n = k + 1 := ⟨n - 1, by omega⟩
      refine ds_seq (ds_for1 ?_)
      rcases hxy with ⟨rfl, rfl⟩ | ⟨rfl, rfl⟩
      · walk_at "nw"
        refine ⟨_, rfl, by omega, by omega, fun i ρ' => ∃ x, ρ' = [.dat (.lst xs), .dat (.lst ys), x] ∧ ∀ (j : Nat) (d e : Dat), j < i → xs[j]? = some d → ys[j]? = some e → sameD d e = true, ?_, ?_, ?_⟩
        · exact ⟨_, rfl, fun j _ _ hj => by omega⟩
        · rintro i ρ' hi ⟨x, rfl, ha⟩
          have hi1 : i < xs.length := by omega
          have hi2 : i < ys.length := by omega
          walk_at "nw"
          refine dIx_l (atI_nat (List.getElem?_eq_getElem hi1)) ?_
          walk_at "nw"
          refine dIx_l (atI_nat (List.getElem?_eq_getElem hi2)) ?_
          walk_at "nw"
          refine T_same_mk (by have := dptA_get (List.getElem?_eq_getElem hi1); omega) (okA_get ox (List.getElem?_eq_getElem hi1)) (okA_get oy (List.getElem?_eq_getElem hi2)) ?_
          walk_at "nw"
          refine br_nb (fun c => ?_) (fun c => ?_)
          · walk_at "nw"
            have := sameA_no (List.getElem?_eq_getElem hi1) (List.getElem?_eq_getElem hi2) c
            rw [this] at hq
            exact hq
          · walk_at "nw"
            refine ⟨_, rfl, fun j d e hj h1 h2 => ?_⟩
            by_cases q : j = i
            · subst q
              rw [List.getElem?_eq_getElem hi1] at h1
              rw [List.getElem?_eq_getElem hi2] at h2
              cases h1
              cases h2
              exact c
            · exact ha j d e (by omega) h1 h2
        · rintro ρ' ⟨x, rfl, ha⟩
          walk_at "nw"
          have : sameA xs ys = true := sameA_all hl fun j d e h1 h2 => ha j d e (by
            have := (List.getElem?_eq_some_iff.mp h1).1
            omega) h1 h2
          rw [this] at hq
          exact hq
      · walk_at "nw"
        refine ⟨_, rfl, by omega, by omega, fun i ρ' => ∃ x, ρ' = [.dat (.tup xs), .dat (.tup ys), x] ∧ ∀ (j : Nat) (d e : Dat), j < i → xs[j]? = some d → ys[j]? = some e → sameD d e = true, ?_, ?_, ?_⟩
        · exact ⟨_, rfl, fun j _ _ hj => by omega⟩
        · rintro i ρ' hi ⟨x, rfl, ha⟩
          have hi1 : i < xs.length := by omega
          have hi2 : i < ys.length := by omega
          walk_at "nw"
          refine dIx_t (atI_nat (List.getElem?_eq_getElem hi1)) ?_
          walk_at "nw"
          refine dIx_t (atI_nat (List.getElem?_eq_getElem hi2)) ?_
          walk_at "nw"
          refine T_same_mk (by have := dptA_get (List.getElem?_eq_getElem hi1); omega) (okA_get ox (List.getElem?_eq_getElem hi1)) (okA_get oy (List.getElem?_eq_getElem hi2)) ?_
          walk_at "nw"
          refine br_nb (fun c => ?_) (fun c => ?_)
          · walk_at "nw"
            have := sameA_no (List.getElem?_eq_getElem hi1) (List.getElem?_eq_getElem hi2) c
            rw [this] at hq
            exact hq
          · walk_at "nw"
            refine ⟨_, rfl, fun j d e hj h1 h2 => ?_⟩
            by_cases q : j = i
            · subst q
              rw [List.getElem?_eq_getElem hi1] at h1
              rw [List.getElem?_eq_getElem hi2] at h2
              cases h1
              cases h2
              exact c
            · exact ha j d e (by omega) h1 h2
        · rintro ρ' ⟨x, rfl, ha⟩
          walk_at "nw"
          have : sameA xs ys = true := sameA_all hl fun j d e h1 h2 => ha j d e (by
            have := (List.getElem?_eq_some_iff.mp h1).1
            omega) h1 h2
          rw [this] at hq
          exact hq
    walk_at "nw"
    refine br_b (fun c1 => ?_) (fun c1 => ?_)
    · obtain rfl := isN_inv c1
      walk_at "nw"
      have e1 : sameD .non e = isN e := by cases e <;> simp [sameD, isN]
      rw [e1] at hq
      exact hq
    walk_at "nw"
    refine br_b (fun c2 => ?_) (fun c2 => ?_)
    · obtain rfl := isN_inv c2
      walk_at "nw"
      refine br_b (fun q => absurd q (by rw [c1]; exact Bool.false_ne_true)) (fun _ => ?_)
      have e1 : sameD d .non = false := by cases d <;> first | exact Bool.noConfusion (show true = false from c1) | simp [sameD]
      rw [e1] at hq
      exact hq
    walk_at "nw"
    refine br_b (fun c3 => ?_) (fun c3 => ?_)
    · obtain ⟨a, rfl⟩ := isBl_inv c3
      walk_at "nw"
      refine br_b (fun c4 => ?_) (fun c4 => ?_)
      · obtain ⟨b, rfl⟩ := isBl_inv c4
        walk_at "nw"
        refine dEq_b ?_
        have e1 : sameD (.bl a) (.bl b) = decide (a = b) := by simp [sameD]
        rw [e1] at hq
        exact hq
      · have e1 : sameD (.bl a) e = false := by cases e <;> first | exact Bool.noConfusion (show true = false from c4) | simp [sameD]
        rw [e1] at hq
        exact hq
    walk_at "nw"
    refine br_b (fun c4 => ?_) (fun c4 => ?_)
    · obtain ⟨b, rfl⟩ := isBl_inv c4
      walk_at "nw"
      refine br_b (fun q => absurd q (by rw [c3]; exact Bool.false_ne_true)) (fun _ => ?_)
      have e1 : sameD d (.bl b) = false := by cases d <;> first | exact Bool.noConfusion (show true = false from c3) | simp [sameD]
      rw [e1] at hq
      exact hq
    walk_at "nw"
    refine br_b (fun c5 => ?_) (fun c5 => ?_)
    · obtain ⟨a, rfl⟩ := isInt_inv c5 c3
      walk_at "nw"
      refine br_b (fun c6 => ?_) (fun c6 => ?_)
      · obtain ⟨b, rfl⟩ := isInt_inv c6 c4
        walk_at "nw"
        have e1 : sameD (.int a) (.int b) = decide (a = b) := by simp [sameD]
        rw [e1] at hq
        exact hq
      · have e1 : sameD (.int a) e = false := by cases e <;> first | exact Bool.noConfusion (show true = false from c6) | simp [sameD]
        rw [e1] at hq
        exact hq
    walk_at "nw"
    refine br_b (fun c6 => ?_) (fun c6 => ?_)
    · obtain ⟨a, rfl⟩ := isStr_inv c6
      walk_at "nw"
      refine br_b (fun c7 => ?_) (fun c7 => ?_)
      · obtain ⟨b, rfl⟩ := isStr_inv c7
        walk_at "nw"
        have e1 : sameD (.str a) (.str b) = decide (a = b) := by simp [sameD]
        rw [e1] at hq
        exact hq
      · have e1 : sameD (.str a) e = false := by cases e <;> first | exact Bool.noConfusion (show true = false from c7) | simp [sameD]
        rw [e1] at hq
        exact hq
    walk_at "nw"
    refine br_b (fun c7 => ?_) (fun c7 => ?_)
    · cases d <;> first | exact Bool.noConfusion (show false = true from c7) | (unfold okD at hd; cases hd)
    walk_at "nw"
    refine br_b (fun c8 => ?_) (fun c8 => ?_)
    · obtain ⟨xs, rfl⟩ := isLst_inv c8
      unfold okD at hd
      rw [Bool.and_eq_true] at hd
      unfold dpt at hdp
      walk_at "nw"
      refine br_nb (fun c9 => ?_) (fun c9 => ?_)
      · walk_at "nw"
        have e1 : sameD (.lst xs) e = false := by cases e <;> first | exact Bool.noConfusion (show true = false from c9) | simp [sameD]
        rw [e1] at hq
        exact hq
      · obtain ⟨ys, rfl⟩ := isLst_inv c9
        unfold okD at he
        rw [Bool.and_eq_true] at he
        walk_at "nw"
        refine iteO1 ?_
        walk_at "nw"
        refine br_not (fun c => ?_) (fun c => ?_)
        · walk_at "nw"
          have e : sameD (.lst xs) (.lst ys) = false := by
            unfold sameD
            cases q : sameA xs ys with
            | false => rfl
            | true => exact absurd (by rw [sameA_len q]) c
          rw [e] at hq
          exact hq
        · refine ds_next ?_
          exact fin xs ys _ _ (.inl ⟨rfl, rfl⟩) (of_decide_eq_true hd.1) (of_decide_eq_true he.1) hd.2 he.2 hdp (by omega) (by unfold sameD at hq; exact hq)
    walk_at "nw"
    refine br_b (fun c9 => ?_) (fun c9 => ?_)
    · obtain ⟨xs, rfl⟩ := isTup_inv c9
      unfold okD at hd
      rw [Bool.and_eq_true] at hd
      unfold dpt at hdp
      walk_at "nw"
      refine br_nb (fun c10 => ?_) (fun c10 => ?_)
      · walk_at "nw"
        have e1 : sameD (.tup xs) e = false := by cases e <;> first | exact Bool.noConfusion (show true = false from c10) | simp [sameD]
        rw [e1] at hq
        exact hq
      · obtain ⟨ys, rfl⟩ := isTup_inv c10
        unfold okD at he
        rw [Bool.and_eq_true] at he
        walk_at "nw"
        refine iteO2 ?_
        walk_at "nw"
        refine br_not (fun c => ?_) (fun c => ?_)
        · walk_at "nw"
          have e : sameD (.tup xs) (.tup ys) = false := by
            unfold sameD
            cases q : sameA xs ys with
            | false => rfl
            | true => exact absurd (by rw [sameA_len q]) c
          rw [e] at hq
          exact hq
        · refine ds_next ?_
          exact fin xs ys _ _ (.inr ⟨rfl, rfl⟩) (of_decide_eq_true hd.1) (of_decide_eq_true he.1) hd.2 he.2 hdp (by omega) (by unfold sameD at hq; exact hq)
    · exfalso
      cases d <;> first | exact Bool.noConfusion (show true = false from c1) | exact Bool.noConfusion (show true = false from c3) | exact Bool.noConfusion (show true = false from c5) | exact Bool.noConfusion (show true = false from c6) | exact Bool.noConfusion (show true = false from c7) | exact Bool.noConfusion (show true = false from c8) | exact Bool.noConfusion (show true = false from c9) | (unfold okD at hd; cases hd)
theorem ok__law_same {f : Addr} {fd : FuncData} (B : Bi mg) (hg : mg "_law_same" = some (.ref f)) (bs : Binds K fd ["_law_one", "_law_other"] []) (F : FnP K "_law_same" s__law_same f fd) : FnOk P w K mg base CX0 7 f fd ["_law_one", "_law_other"] (spD K (T_same 6)) := ok_same_n B F hg bs 6
abbrev s__law_are_trails : Stmt := (top 50)
theorem sc__law_are_trails : FnScope ["_law_web_here", "_law_arrows_here", "_law_trails", "_law_parts_here", "_law_k", "_law_trail", "_law_j"] ["_law_web_here", "_law_arrows_here", "_law_trails", "_law_parts_here"] (defScope s__law_are_trails) := ⟨rfl, rfl, rfl, by decide +kernel, rfl, by decide +kernel, by decide +kernel⟩
theorem ok__law_are_trails {f : Addr} {fd : FuncData} (B : Bi mg) (c__law_are_lists : Cal P w K mg base 1 "_law_are_lists" ["_law_circuits"] (spD K T_are_lists)) (c__law_is_trail : Cal P w K mg base 1 "_law_is_trail" ["_law_arrows_here", "_law_boxes", "_law_plain"] (spD K T_is_trail)) (m_Web_is_trail : CalM P w K mg base 2 C_Web "is_trail" ["self", "boxes"] (spD K (T_is_tr C_Web false))) (m_Web_is_circuit : CalM P w K mg base 2 C_Web "is_circuit" ["self", "boxes"] (spD K (T_is_tr C_Web true))) (c__law_same : Cal P w K mg base 7 "_law_same" ["_law_one", "_law_other"] (spD K (T_same 6))) (F : FnP K "_law_are_trails" s__law_are_trails f fd) : FnOk P w K mg base CX0 8 f fd ["_law_web_here", "_law_arrows_here", "_law_trails", "_law_parts_here"] (spD K (T_are_trails C_Web)) := by
  have nd := sc__law_are_trails.nd
  refine fn_D F sc__law_are_trails (fun ρ Φ h => by rcases h with ⟨rows, s, gs, rfl, hS, hp, hg, hq⟩ <;> rfl) fun cdv A outer s H E hr => ⟨_,
(pss_cons (ps_if (PW.pt (pw_or (pt_not (pt_val (pe_cal c__law_are_lists (hr.mono (by decide)) rfl (pa_cons (pv 2) pa_nil)))) (pw_or1 (pt_cmpR op_ne (pe_callB (n_len (K := K) rfl) rfl B.len bb_len (pa_cons (pv 2) pa_nil)) (pe_callB (n_len (K := K) rfl) rfl B.len bb_len (pa_cons (pv 3) pa_nil)) (nomark _)))))
(pss_one (ps_ret pe_bl))
pss_nil)
(pss_cons (ps_for PassesOwn.never rfl (pi_range1 rfl B.range (pa_cons (pe_callB (n_len (K := K) rfl) rfl B.len bb_len (pa_cons (pv 3) pa_nil)) pa_nil)) (pg_name (i := 4) nd rfl (by first | exact Or.inl rfl | exact Or.inr rfl))
(pss_cons (ps_set (i := 5) nd rfl (by first | exact Or.inl rfl | exact Or.inr rfl) (pe_ix (n_ix (K := K) rfl) (pv 2) (pv 4) (fun _ _ => rfl)))
(pss_cons (ps_if (PW.pt (pw_or (pt_cmpR (n_neD (K := K) rfl hr.units) (pe_callB (n_sortedS (K := K) rfl) rfl B.sorted bb_sorted (pa_cons (pv 5) pa_nil)) (pe_ix (n_ix (K := K) rfl) (pv 3) (pv 4) (fun _ _ => rfl)) (nomark _)) (pw_or1 (pt_not (pt_val (pe_cal c__law_is_trail (hr.mono (by decide)) rfl (pa_cons (pv 1) (pa_cons (pv 5) (pa_cons pe_bl pa_nil)))))))))
(pss_one (ps_ret pe_bl))
pss_nil)
(pss_cons (ps_for PassesOwn.never rfl (pi_range1 rfl B.range (pa_cons (pe_callB (n_len (K := K) rfl) rfl B.len bb_len (pa_cons (pv 5) pa_nil)) pa_nil)) (pg_name (i := 6) nd rfl (by first | exact Or.inl rfl | exact Or.inr rfl))
(pss_one (ps_if (pt_cmpR n_isnotB (n_meth m_Web_is_trail (hr.mono (by decide)) (pv 0) (pa_cons (pe_op op_cat (pe_slice (n_slL (K := K) rfl) (pv 5) (po_some (pv 6)) po_none) (pe_slice (n_slL (K := K) rfl) (pv 5) po_none (po_some (pv 6)))) pa_nil)) pe_bl (nomark _))
(pss_one (ps_ret pe_bl))
pss_nil)))
(pss_cons (ps_if (pt_cmpR n_isnotB (n_meth m_Web_is_trail (hr.mono (by decide)) (pv 0) (pa_cons (pe_callTy (n_tuple (K := K) rfl) rfl B.tuple bb_tuple (pa_cons (pv 5) pa_nil)) pa_nil)) pe_bl (nomark _))
(pss_one (ps_ret pe_bl))
pss_nil)
(pss_cons (ps_if (pt_not (pt_val (pe_cal c__law_same (hr.mono (by decide)) rfl (pa_cons (n_meth m_Web_is_circuit (hr.mono (by decide)) (pv 0) (pa_cons (pv 5) pa_nil)) (pa_cons (pe_cal c__law_is_trail (hr.mono (by decide)) rfl (pa_cons (pv 1) (pa_cons (pv 5) (pa_cons pe_bl pa_nil)))) pa_nil)))))
(pss_one (ps_ret pe_bl))
pss_nil)
(pss_one (ps_if (PW.pt (pw_and (pt_cmpR op_gt (pv 4) pe_int (nomark _)) (pw_and1 (pt_cmpR n_isnotB (n_meth m_Web_is_trail (hr.mono (by decide)) (pv 0) (pa_cons (pe_op op_cat (pe_ix (n_ix (K := K) rfl) (pv 2) (pe_op op_sub (pv 4) pe_int) (fun _ _ => rfl)) (pv 5)) pa_nil)) pe_bl (nomark _)))))
(pss_one (ps_ret pe_bl))
pss_nil))))))))
(pss_one (ps_ret pe_bl)))),
  fun st ρ Φ h => ?_⟩
  rcases h with ⟨rows, s, gs, rfl, hS, hp, hg, hq⟩
  have sl : sizeLine = 16777216 := sizeLine_eq
  have hgl := parts_len hg
  have hle := hS.le
  have hw := hS.ok.perm hp.symm
  have gk : ∀ g ∈ gs, TrailP s false (trailOf g) ∧ (trailOf g).Perm g ∧ g.length ≤ 12 ∧ (trailOf g).length = g.length ∧ g ≠ [] := fun g h => by
    have go := part_ok hg hS.ok g h
    have h1 := trailOf_ok go.cn go.bal go.ne go.nd
    have h2 := go.le
    exact ⟨h1.1.more go.sub, h1.2, by omega, h1.2.length_eq, go.ne⟩
  have nm : ∀ t : List Arr, (∀ a ∈ t, a ∈ s) → ∀ z ∈ boxL t, NameS z := fun t h => namesR fun a ha => hS.ok.ok a (h a ha)
  walk_at "nz"
  refine ⟨gs.map fun g => boxL (trailOf g), by rw [List.map_map]; rfl, ?_⟩
  walk_at "nz"
  rw [List.length_map, List.length_map, decide_eq_true rfl]
  walk_at "nz"
  refine ds_for1 ?_
  walk_at "nz"
  rw [List.length_map]
  refine ⟨_, rfl, by omega, by omega, fun i ρ' => ∃ x y z : Sl, ρ' = [.dat (webD C_Web s), .dat (.lst (rows.map arrD)), .dat (.lst (gs.map fun g => .lst ((boxL (trailOf g)).map Dat.str))), .dat (.lst (gs.map fun g => .lst ((boxL g).map Dat.str))), x, y, z], ⟨_, _, _, rfl⟩, ?_, ?_⟩
  · rintro i ρ' hi ⟨x, y, z, rfl⟩
    have hi' : i < gs.length := by omega
    have eg := List.getElem?_eq_getElem hi'
    have hgm := List.getElem_mem hi'
    generalize gs[i] = g at eg hgm
    obtain ⟨g1, g2, g3, g4, g5⟩ := gk g hgm
    have iT : atI (gs.map fun g => Dat.lst ((boxL (trailOf g)).map Dat.str)) (i : Int) = some (.lst ((boxL (trailOf g)).map Dat.str)) := atI_nat (by rw [List.getElem?_map, eg]; rfl)
    have iG : atI (gs.map fun g => Dat.lst ((boxL g).map Dat.str)) (i : Int) = some (.lst ((boxL g).map Dat.str)) := atI_nat (by rw [List.getElem?_map, eg]; rfl)
    have eT : (boxL (trailOf g)).map Dat.str = (trailOf g).map fun a => Dat.str a.1 := by rw [List.map_map]; rfl
    have tA : ∀ (p : Bool) (Φ : Dat → Prop), (TrailP rows p (trailOf g) → Φ (.bl true)) → (¬ TrailP rows p (trailOf g) → Φ (.bl false)) → T_is_trail [.dat (.lst (rows.map arrD)), .dat (.lst ((boxL (trailOf g)).map Dat.str)), .dat (.bl p)] Φ := fun p Φ h1 h2 => ⟨rows, trailOf g, p, by rw [eT], hw.nd, by rw [← hp.length_eq]; omega, by omega, fun a ha => hp.mem_iff.mp (g1.sub a ha), h1, h2⟩
    have it : IsTr s false (boxL (trailOf g)) := ⟨_, rfl, g1⟩
    walk_at "nz"
    refine dIx_l iT ?_
    walk_at "nz"
    refine ⟨boxL (trailOf g), rfl, by rw [List.length_map]; omega, fun zs q1 q2 => ?_⟩
    have ez : zs = boxL g := strs_uniq (q1.trans (g2.map (·.1))) (sortedS_pair q2) (List.pairwise_map.mpr (hg.srt g hgm))
    subst ez
    walk_at "nz"
    refine dIx_l iG ?_
    have nmg := nm g fun a ha => g1.sub a (g2.mem_iff.mpr ha)
    refine dNeD_strs nmg nmg ?_
    rw [decide_eq_true rfl]
    walk_at "nz"
    refine tA false _ (fun _ => ?_) (fun h => absurd (g1.more fun a ha => hp.mem_iff.mp ha) h)
    walk_at "nz"
    refine ds_for1 ?_
    walk_at "nz"
    refine ⟨_, rfl, by rw [List.length_map, List.length_map]; omega, by rw [List.length_map, List.length_map]; omega, fun j ρ' => ∃ z : Sl, ρ' = [.dat (webD C_Web s), .dat (.lst (rows.map arrD)), .dat (.lst (gs.map fun g => .lst ((boxL (trailOf g)).map Dat.str))), .dat (.lst (gs.map fun g => .lst ((boxL g).map Dat.str))), .dat (.int i), .dat (.lst ((boxL (trailOf g)).map Dat.str)), z], ⟨_, rfl⟩, ?_, ?_⟩
    · rintro j ρ' hj ⟨z, rfl⟩
      rw [List.length_map] at hj
      walk_at "nz"
      refine dSlL_from (k := j) ?_
      walk_at "nz"
      refine dSlL_to (k := j) ?_
      refine dCat_mk (by rw [List.length_take, List.length_drop, List.length_map, List.length_map]; omega) ?_
      rw [← List.map_take, ← List.map_drop, ← List.map_append]
      walk_at "nz"
      refine ⟨s, _, .inl rfl, hS, by rw [List.length_append, List.length_take, List.length_drop, List.length_map]; omega, fun _ => ?_, fun h => absurd ⟨_, by rw [boxL, List.map_append, List.map_drop, List.map_take], g1.rot (j := j) (by rw [List.length_map] at hj; omega)⟩ h⟩
      walk_at "nz"
      exact ⟨_, rfl⟩
    rintro ρ' ⟨z, rfl⟩
    walk_at "nz"
    refine ⟨s, _, .inr rfl, hS, by rw [List.length_map]; omega, fun _ => ?_, fun h => absurd it h⟩
    walk_at "nz"
    have ic : IsTr s true (boxL (trailOf g)) ↔ TrailP rows true (trailOf g) := by
      constructor
      · rintro ⟨r, h1, h2⟩
        have : r = trailOf g := along_uniq hS.ok.nd (bs := boxL (trailOf g)) ⟨h1, h2.sub, by rw [← h1]; exact h2.nd⟩ ⟨rfl, g1.sub, g1.nd⟩
        subst this
        exact h2.more fun a ha => hp.mem_iff.mp ha
      · intro h
        exact ⟨_, rfl, h.more fun a ha => hp.mem_iff.mpr ha⟩
    refine ⟨s, _, .inl rfl, hS, by rw [List.length_map]; omega, fun hc => ?_, fun hc => ?_⟩
    all_goals
      walk_at "nz"
      refine tA true _ (fun hd => ?_) (fun hd => ?_)
    rotate_left
    · exact absurd (ic.mp hc) hd
    · exact absurd (ic.mpr hd) hc
    all_goals
      walk_at "nz"
      refine T_same_mk (Nat.zero_le _) rfl rfl ?_
      rw [sameD_refl _ rfl]
      walk_at "nz"
      refine br (fun c => ?_) (fun c => ?_)
      rotate_left
      · walk_at "nz"
        exact ⟨_, _, _, rfl⟩
      have c' : 0 < i := by omega
      have eg' := List.getElem?_eq_getElem (show i - 1 < gs.length by omega)
      have hgm' := List.getElem_mem (show i - 1 < gs.length by omega)
      have ne' : gs[i - 1] ≠ g := fun z => by
        obtain ⟨hi2, e2⟩ := List.getElem?_eq_some_iff.mp eg
        have := List.pairwise_iff_getElem.mp hg.apart (i - 1) i (by omega) hi2 (by omega)
        rw [e2, z] at this
        obtain ⟨a, ha⟩ := List.exists_mem_of_ne_nil g g5
        exact this a ha a ha (touchA.refl a)
      generalize gs[i - 1] = g' at eg' hgm' ne'
      obtain ⟨k1, k2, k3, k4, k5⟩ := gk g' hgm'
      walk_at "nz"
      refine dIx_l (atI_int (by omega) (by rw [List.getElem?_map, show ((i : Int) - 1).toNat = i - 1 by omega, eg']; rfl)) ?_
      walk_at "nz"
      refine dCat_mk (by rw [List.length_map, List.length_map, List.length_map, List.length_map]; omega) ?_
      rw [← List.map_append]
      walk_at "nz"
      refine ⟨s, _, .inl rfl, hS, by rw [List.length_append, List.length_map, List.length_map]; omega, fun h => absurd h (two_trails hS.ok.nd hg ne' hgm' hgm k2 g2), fun _ => ?_⟩
      walk_at "nz"
      exact ⟨_, _, _, rfl⟩
  rintro ρ' ⟨x, y, z, rfl⟩
  walk_at "nz"
  exact hq
abbrev s__law_asked : Stmt := (top 51)
theorem sc__law_asked : FnScope ["_law_web_here", "_law_arrows_here", "_law_due", "_law_parts_here", "_law_trails", "_law_kept", "_law_row"] ["_law_web_here", "_law_arrows_here"] (defScope s__law_asked) := ⟨rfl, rfl, rfl, by decide +kernel, rfl, by decide +kernel, by decide +kernel⟩
theorem ok__law_asked {f : Addr} {fd : FuncData} (B : Bi mg) (c__law_parts : Cal P w K mg base 1 "_law_parts" ["_law_arrows_here"] (spN K T_law_parts)) (m_Web_parts : CalM P w K mg base 3 C_Web "parts" ["self"] (spS K (T_parts C_Web))) (m_Web_closed_trails : CalM P w K mg base 4 C_Web "closed_trails" ["self"] (spS K (T_closed C_Web))) (c__law_copy : Cal P w K mg base 4 "_law_copy" ["_law_thing"] (spS K (T_cp 3))) (c__law_are_trails : Cal P w K mg base 8 "_law_are_trails" ["_law_web_here", "_law_arrows_here", "_law_trails", "_law_parts_here"] (spD K (T_are_trails C_Web))) (c__law_same : Cal P w K mg base 7 "_law_same" ["_law_one", "_law_other"] (spD K (T_same 6))) (F : FnP K "_law_asked" s__law_asked f fd) : FnOk P w K mg base CX0 9 f fd ["_law_web_here", "_law_arrows_here"] (spD K (T_asked_p C_Web)) := by
  have nd := sc__law_asked.nd
  refine fn_D F sc__law_asked (fun ρ Φ h => by rcases h with ⟨rows, s, rfl, hp, hS, hq⟩ <;> rfl) fun cdv A outer s H E hr => ⟨_,
(pss_cons (ps_set (i := 2) nd rfl (by first | exact Or.inl rfl | exact Or.inr rfl) (pe_cal c__law_parts (hr.mono (by decide)) rfl (pa_cons (pv 1) pa_nil)))
(pss_cons (ps_set (i := 3) nd rfl (by first | exact Or.inl rfl | exact Or.inr rfl) (n_meth0 m_Web_parts (hr.mono (by decide)) (pv 0)))
(pss_cons (ps_set (i := 4) nd rfl (by first | exact Or.inl rfl | exact Or.inr rfl) (n_meth0 m_Web_closed_trails (hr.mono (by decide)) (pv 0)))
(pss_cons (ps_set (i := 5) nd rfl (by first | exact Or.inl rfl | exact Or.inr rfl) (pe_cal c__law_copy (hr.mono (by decide)) rfl (pa_cons (pv 4) pa_nil)))
(pss_cons (ps_if (PW.pt (pw_or (pt_not (pt_val (pe_cal c__law_same (hr.mono (by decide)) rfl (pa_cons (pv 3) (pa_cons (pv 2) pa_nil))))) (pw_or1 (pt_not (pt_val (pe_cal c__law_are_trails (hr.mono (by decide)) rfl (pa_cons (pv 0) (pa_cons (pv 1) (pa_cons (pv 4) (pa_cons (pv 2) pa_nil))))))))))
(pss_one (ps_ret pe_bl))
pss_nil)
(pss_cons (ps_for PassesOwn.never rfl (n_pil (K := K) rfl (pe_op op_cat (pv 3) (pv 4))) (pg_name (i := 6) nd rfl (by first | exact Or.inl rfl | exact Or.inr rfl))
(pss_one (ps_expr (n_bm (K := K) rfl PySem.F.plainAttrs_list PySem.F.slot_list_append PySem.F.type_list_append mt_append (pv 6) (pa_cons pe_str pa_nil)))))
(pss_cons (ps_expr (n_bm (K := K) rfl PySem.F.plainAttrs_list PySem.F.slot_list_append PySem.F.type_list_append mt_append (pv 3) (pa_cons (pe_lst pa_nil) pa_nil)))
(pss_cons (ps_expr (n_bm (K := K) rfl PySem.F.plainAttrs_list PySem.F.slot_list_append PySem.F.type_list_append mt_append (pv 4) (pa_cons (pe_lst pa_nil) pa_nil)))
(pss_one (ps_ret (pe_and (pe_cal c__law_same (hr.mono (by decide)) rfl (pa_cons (n_meth0 m_Web_parts (hr.mono (by decide)) (pv 0)) (pa_cons (pv 2) pa_nil))) (pe_one (pe_cal c__law_same (hr.mono (by decide)) rfl (pa_cons (n_meth0 m_Web_closed_trails (hr.mono (by decide)) (pv 0)) (pa_cons (pv 5) pa_nil))))))))))))))),
  fun st ρ Φ h => ?_⟩
  rcases h with ⟨rows, s, rfl, hp, hS, hq⟩
  have sl : sizeLine = 16777216 := sizeLine_eq
  have hle := hS.le
  have hw := hS.ok.perm hp.symm
  walk_at "nz"
  refine ds_asg (ev_of_n (en_call ?_))
  walk_at "nz"
  refine ⟨rows, rfl, hw.ok, hw.nd, by rw [← hp.length_eq]; omega, fun gs hg0 => ?_⟩
  have hg := hg0.rows hp.symm
  have hgl := parts_len hg
  have gk : ∀ g ∈ gs, g.length ≤ 12 ∧ (trailOf g).length = g.length := fun g h => by
    have go := part_ok hg hS.ok g h
    have h1 := trailOf_ok go.cn go.bal go.ne go.nd
    have h2 := go.le
    exact ⟨by omega, h1.2.length_eq⟩
  walk_at "nz"
  refine ds_asgY (ey_meth ?_)
  walk_at "nz"
  refine ⟨s, rfl, hS, fun gs' hg' D1 es1 he1 => ?_⟩
  cases parts_uniq hS.ok.nd hg' hg
  refine id_DSt ?_
  refine ds_seq ?_
  refine ds_asgY (ey_meth ?_)
  walk_at "nz"
  refine ⟨s, rfl, hS, fun gs' hg' D2 es2 he2 => ?_⟩
  cases parts_uniq hS.ok.nd hg' hg
  have eP : (gs.map fun g => Dat.lst ((boxL g).map Dat.str)) = (gs.map boxL).map fun c => Dat.lst (c.map Dat.str) := by rw [List.map_map]; rfl
  have eQ : (gs.map fun g => Dat.lst ((boxL (trailOf g)).map Dat.str)) = (gs.map fun g => boxL (trailOf g)).map fun c => Dat.lst (c.map Dat.str) := by rw [List.map_map]; rfl
  have eD : ∀ es : List (Addr × Inn), es.map (·.2) = gs.map (fun g => Inn.l ((boxL g).map Dat.str)) → es.map (fun e => e.2.d) = gs.map fun g => Dat.lst ((boxL g).map Dat.str) := fun es he => by
    have := congrArg (List.map Inn.d) he
    rw [List.map_map, List.map_map] at this
    exact this
  have eD2 : ∀ es : List (Addr × Inn), es.map (·.2) = gs.map (fun g => Inn.l ((boxL (trailOf g)).map Dat.str)) → es.map (fun e => e.2.d) = gs.map fun g => Dat.lst ((boxL (trailOf g)).map Dat.str) := fun es he => by
    have := congrArg (List.map Inn.d) he
    rw [List.map_map, List.map_map] at this
    exact this
  have ok1 := okD_strL (cs := gs.map boxL) (by rw [List.length_map]; omega) (fun c hc => by
    obtain ⟨q, hq, rfl⟩ := List.mem_map.mp hc
    have := (gk q hq).1
    rw [List.length_map]
    omega)
  have ok2 := okD_strL (cs := gs.map fun g => boxL (trailOf g)) (by rw [List.length_map]; omega) (fun c hc => by
    obtain ⟨q, hq, rfl⟩ := List.mem_map.mp hc
    have := gk q hq
    rw [List.length_map]
    omega)
  have el1 : es1.length = gs.length := by
    have := congrArg List.length he1
    rwa [List.length_map, List.length_map] at this
  have el2 : es2.length = gs.length := by
    have := congrArg List.length he2
    rwa [List.length_map, List.length_map] at this
  refine id_DSt ?_
  refine ds_seq ?_
  refine ds_asgY (ey_callG (eg_tr (by with_unfolding_all rfl) ?_))
  walk_at "nz"
  refine .inr (.inr ⟨gs.map fun g => boxL (trailOf g), by rw [eD2 _ he2, eQ], by decide, by rw [List.length_map]; omega, fun r hr => ?_, fun D3 es3 he3 => ⟨?_, ?_⟩⟩)
  · obtain ⟨q, hq, rfl⟩ := List.mem_map.mp hr
    have := gk q hq
    rw [List.length_map]
    omega
  · refine List.all_eq_true.mpr fun e hm => ?_
    have : e.2 ∈ es3.map (·.2) := List.mem_map.mpr ⟨e, hm, rfl⟩
    rw [he3] at this
    obtain ⟨r, _, e'⟩ := List.mem_map.mp this
    rw [← e']
    show noLA (r.map Dat.str) = true
    exact noLA_strs r
  rw [List.map_map] at he3
  walk_at "nz"
  rw [eD _ he1, eP]
  refine T_same_mk (Nat.le_trans (dpt_strL _) (by decide)) ok1 ok1 ⟨rfl, ?_⟩
  rw [sameD_refl _ ok1]
  walk_at "nz"
  refine ⟨rows, s, gs, by rw [eD2 _ he2, eP], hS, hp, hg, rfl, ?_⟩
  walk_at "nz"
  have hes : ∀ es : List (Addr × Inn), ∀ f : List Arr → List Arr, (∀ g ∈ gs, (f g).length ≤ 12) → es.map (·.2) = gs.map (fun g => Inn.l ((boxL (f g)).map Dat.str)) → ∀ e ∈ es, ∃ ds : List Dat, e.2 = .l ds ∧ ds.length ≤ 12 := fun es f hf he e hm => by
    have : e.2 ∈ es.map (·.2) := List.mem_map.mpr ⟨e, hm, rfl⟩
    rw [he] at this
    obtain ⟨r, hr, e'⟩ := List.mem_map.mp this
    refine ⟨_, e'.symm, ?_⟩
    rw [List.length_map, List.length_map]
    exact hf r hr
  have hes1 := hes es1 id (fun g hg => (gk g hg).1) he1
  have hes2 := hes es2 trailOf (fun g hg => by have := gk g hg; omega) he2
  refine ds_forTr2 (i1 := 3) (i2 := 4) (j := 6) (by with_unfolding_all rfl) (by with_unfolding_all rfl) (by omega) (fun k ρ' => ∃ (es1' es2' : List (Addr × Inn)) (y : Sl), ρ' = [.dat (webD C_Web s), .dat (.lst (rows.map arrD)), .dat (.lst ((gs.map boxL).map fun c => Dat.lst (c.map Dat.str))), .trL D1 es1', .trL D2 es2', .trL D3 es3, y] ∧ es1'.map (·.1) = es1.map (·.1) ∧ es2'.map (·.1) = es2.map (·.1) ∧ (∀ e ∈ es1', ∃ ds : List Dat, e.2 = .l ds ∧ ds.length ≤ 12 + k) ∧ ∀ e ∈ es2', ∃ ds : List Dat, e.2 = .l ds ∧ ds.length ≤ 12 + k) ⟨es1, es2, _, rfl, rfl, rfl, hes1, hes2⟩ ?_ ?_
  · rintro k a ρ' hk ⟨es1', es2', y, rfl, h1, h2, h3, h4⟩
    have hkl : k < es1.length + es2.length := by
      have := (List.getElem?_eq_some_iff.mp hk).1
      rwa [List.length_append, List.length_map, List.length_map] at this
    by_cases q : k < es1.length
    · rw [List.getElem?_append_left (by rw [List.length_map]; exact q), ← h1, List.getElem?_map] at hk
      obtain ⟨⟨a', n⟩, he', rfl⟩ := Option.map_eq_some_iff.mp hk
      obtain ⟨ds, hn, hdl⟩ := h3 _ (List.mem_of_getElem? he')
      cases hn
      refine ds_appAt (i := 3) (by with_unfolding_all rfl) (by with_unfolding_all rfl) he' ?_
      walk_at "nz"
      refine ⟨by omega, _, _, _, rfl, ?_, h2, fun e hm => ?_, fun e hm => ?_⟩
      · rw [← h1, List.map_set]
        exact set_self (by rw [List.getElem?_map, he']; rfl)
      · rcases List.mem_or_eq_of_mem_set hm with z | z
        · obtain ⟨ds, e1, e2⟩ := h3 e z
          exact ⟨ds, e1, by omega⟩
        · exact ⟨_, by rw [z], by rw [List.length_append, List.length_singleton]; omega⟩
      · obtain ⟨ds, e1, e2⟩ := h4 e hm
        exact ⟨ds, e1, by omega⟩
    · rw [List.getElem?_append_right (by rw [List.length_map]; omega), ← h2, List.getElem?_map] at hk
      obtain ⟨⟨a', n⟩, he', rfl⟩ := Option.map_eq_some_iff.mp hk
      obtain ⟨ds, hn, hdl⟩ := h4 _ (List.mem_of_getElem? he')
      cases hn
      refine ds_appAt (i := 4) (by with_unfolding_all rfl) (by with_unfolding_all rfl) he' ?_
      walk_at "nz"
      refine ⟨by omega, _, _, _, rfl, h1, ?_, fun e hm => ?_, fun e hm => ?_⟩
      · rw [← h2, List.map_set]
        exact set_self (by rw [List.getElem?_map, he']; rfl)
      · obtain ⟨ds, e1, e2⟩ := h3 e hm
        exact ⟨ds, e1, by omega⟩
      · rcases List.mem_or_eq_of_mem_set hm with z | z
        · obtain ⟨ds, e1, e2⟩ := h4 e z
          exact ⟨ds, e1, by omega⟩
        · exact ⟨_, by rw [z], by rw [List.length_append, List.length_singleton]; omega⟩
  rintro ρ' ⟨es1', es2', y, rfl, h1, h2, h3, h4⟩
  have l1 : es1'.length = es1.length := by
    have := congrArg List.length h1
    rwa [List.length_map, List.length_map] at this
  have l2 : es2'.length = es2.length := by
    have := congrArg List.length h2
    rwa [List.length_map, List.length_map] at this
  walk_at "nz"
  refine ⟨by omega, fun q1 => ?_⟩
  walk_at "nz"
  refine ⟨by omega, fun q2 => ?_⟩
  walk_at "nz"
  refine ⟨s, rfl, hS, fun gs' hg' D4 es4 he4 => ⟨_, rfl, ?_⟩⟩
  cases parts_uniq hS.ok.nd hg' hg
  walk_at "nz"
  rw [eD _ he4, eP]
  refine T_same_mk (Nat.le_trans (dpt_strL _) (by decide)) ok1 ok1 ⟨rfl, ?_⟩
  rw [sameD_refl _ ok1]
  walk_at "nz"
  refine ⟨s, rfl, hS, fun gs' hg' D5 es5 he5 => ⟨_, rfl, ?_⟩⟩
  cases parts_uniq hS.ok.nd hg' hg
  walk_at "nz"
  rw [eD2 _ he5, eD2 _ he3, eQ]
  refine T_same_mk (Nat.le_trans (dpt_strL _) (by decide)) ok2 ok2 ⟨rfl, ?_⟩
  rw [sameD_refl _ ok2]
  exact hq
abbrev s_law : Stmt := (top 52)
theorem sc_law : FnScope ["_law_script", "_law_store_here", "_law_rows_here", "_law_made", "_law_k", "_law_again", "_law_arrows_here"] ["_law_script"] (defScope s_law) := ⟨rfl, rfl, rfl, by decide +kernel, rfl, by decide +kernel, by decide +kernel⟩
theorem ok_law {f : Addr} {fd : FuncData} (B : Bi mg) (c__law_store : Cal P w K mg base 1 "_law_store" ["_law_script"] (spStore K)) (c__law_rows : Cal P w K mg base 7 "_law_rows" ["_law_store_here", "_law_most"] (spN K T_rows)) (c__law_web : Cal P w K mg base 6 "_law_web" ["_law_store_here", "_law_arrows_here"] (spD K (T_law_web C_Web))) (c__law_asked : Cal P w K mg base 9 "_law_asked" ["_law_web_here", "_law_arrows_here"] (spD K (T_asked_p C_Web))) (c__law_shuffled : Cal P w K mg base 3 "_law_shuffled" ["_law_store_here", "_law_row"] (spN K T_shuffled)) (m_Web_closed_trails : CalM P w K mg base 4 C_Web "closed_trails" ["self"] (spS K (T_closed C_Web))) (c__law_same : Cal P w K mg base 7 "_law_same" ["_law_one", "_law_other"] (spD K (T_same 6))) (F : FnP K "law" s_law f fd) : FnOk P w K mg base CX0 10 f fd ["_law_script"] (spLaw K) := by
  have nd := sc_law.nd

  have len : ∀ vs H Q E, spLaw K vs H Q E → vs.length = ["_law_script"].length := fun vs H Q E h => by
    obtain ⟨a, ns, rfl, _⟩ := h
    rfl
  refine F.ok sc_law len fun cdv A outer s H vs Q E hr h => ⟨_, PSs.nox
(pss_cons (ps_set (i := 1) nd rfl (by first | exact Or.inl rfl | exact Or.inr rfl) (pe_cal c__law_store (hr.mono (by decide)) rfl (pa_cons (pv 0) pa_nil)))
(pss_cons (ps_set (i := 2) nd rfl (by first | exact Or.inl rfl | exact Or.inr rfl) (pe_lst (pa_cons (pe_cal c__law_rows (hr.mono (by decide)) rfl (pa_cons (pv 1) (pa_cons pe_int pa_nil))) (pa_cons (pe_cal c__law_rows (hr.mono (by decide)) rfl (pa_cons (pv 1) (pa_cons pe_int pa_nil))) pa_nil))))
(pss_cons (ps_setLc (i := 3) (own := [("_law_arrows_here", 6)]) (g := (gName 6)) rfl nd rfl rfl (sw_true rfl rfl rfl (by decide +kernel)) (n_pil (K := K) rfl (pv 2)) (blkOk_by (own := [("_law_arrows_here", 6)]) (N := ["_law_script", "_law_store_here", "_law_rows_here", "_law_made", "_law_k", "_law_again", "_law_arrows_here"]) (sc := (defScope s_law)) (by decide +kernel)) (fun _ _ _ _ _ => (pg_name (i := 6) nd rfl (by first | exact Or.inl rfl | exact Or.inr rfl))) (fun _ _ _ _ _ => pts_nil) (fun _ _ _ _ _ => (pe_cal c__law_web (hr.mono (by decide)) rfl (pa_cons (pv 1) (pa_cons (pv 6) pa_nil)))))
(pss_cons (ps_for PassesOwn.never rfl (n_pil (K := K) rfl (pe_lst (pa_cons pe_int (pa_cons pe_int (pa_cons pe_int pa_nil))))) (pg_name (i := 4) nd rfl (by first | exact Or.inl rfl | exact Or.inr rfl))
(pss_one (ps_if (PW.pt (pw_or (pt_cmpR n_is (pe_ix (n_ix (K := K) rfl) (pv 3) (pv 4) (fun _ _ => rfl)) pe_non (nomark _)) (pw_or1 (pt_not (pt_val (pe_cal c__law_asked (hr.mono (by decide)) rfl (pa_cons (pe_ix (n_ix (K := K) rfl) (pv 3) (pv 4) (fun _ _ => rfl)) (pa_cons (pe_ix (n_ix (K := K) rfl) (pv 2) (pv 4) (fun _ _ => rfl)) pa_nil))))))))
(pss_one (ps_ret pe_bl))
pss_nil)))
(pss_cons (ps_for PassesOwn.never rfl (pi_range1 rfl B.range (pa_cons pe_int pa_nil)) (pg_name (i := 4) nd rfl (by first | exact Or.inl rfl | exact Or.inr rfl))
(pss_cons (ps_set (i := 5) nd rfl (by first | exact Or.inl rfl | exact Or.inr rfl) (pe_cal c__law_web (hr.mono (by decide)) rfl (pa_cons (pv 1) (pa_cons (pe_cal c__law_shuffled (hr.mono (by decide)) rfl (pa_cons (pv 1) (pa_cons (pe_ix (n_ix (K := K) rfl) (pv 2) (pv 4) (fun _ _ => rfl)) pa_nil))) pa_nil))))
(pss_one (ps_if (PW.pt (pw_or (pt_cmpR n_is (pv 5) pe_non (nomark _)) (pw_or1 (pt_not (pt_val (pe_cal c__law_same (hr.mono (by decide)) rfl (pa_cons (n_meth0 m_Web_closed_trails (hr.mono (by decide)) (pv 5)) (pa_cons (n_meth0 m_Web_closed_trails (hr.mono (by decide)) (pe_ix (n_ix (K := K) rfl) (pv 3) (pv 4) (fun _ _ => rfl))) pa_nil))))))))
(pss_one (ps_ret pe_bl))
pss_nil))))
(pss_one (ps_ret pe_bl))))))), ?_⟩
  obtain ⟨a, ns, rfl, hs, k⟩ := h
  refine ⟨_, rfl, a, ns, rfl, hs, fun l p H' hl hp hne e hL hP => ?_⟩
  dsimp only [gName]
  have sl : sizeLine = 16777216 := sizeLine_eq
  suffices key : DSt ⟨K, [(p, l)]⟩ _ [.no, .sto, .no, .no, .no, .no, .no] { nx := fun _ => False, rt := fun d _ => d = .bl true, rn := fun _ _ => False } by
    refine key [] (fun _ => none) _ H' _ (rs_store hP hL (.ref a) 5) ⟨fun σ H ρ e => e.elim, fun d v σ H2 ρ e R r => ?_, fun _ _ _ _ _ _ e => e.elim, fun _ _ _ e => e.elim, fun _ _ _ e => e.elim, fun _ _ _ _ _ e => e.elim⟩
    cases e
    cases r
    exact k H2
  refine ds_seq ?_
  refine ds_asg (ev_of_n (en_lst ?_))
  walk_at "nz"
  refine ⟨12, rfl, by decide, by decide, fun r0 w0 l0 => ?_⟩
  walk_at "nz"
  refine ⟨12, rfl, by decide, by decide, fun r1 w1 l1 => ?_⟩
  walk_at "nz"
  have hR : ∀ r ∈ [r0, r1], WebOk r ∧ r.length ≤ 12 := fun r hr => by
    rcases List.mem_cons.mp hr with z | hr
    · rw [z]; exact ⟨w0, by omega⟩
    rw [List.mem_singleton.mp hr]; exact ⟨w1, by omega⟩
  have hRl : [r0, r1].length = 2 := rfl
  have hRe : ([.lst (r0.map arrD), .lst (r1.map arrD)] : List Dat) = [r0, r1].map fun r => .lst (r.map arrD) := rfl
  rw [hRe]
  generalize [r0, r1] = RL at hR hRl
  walk_at "nz"
  refine id_DSt ?_
  refine ds_asg (ev_of_n (en_lcL rfl ?_))
  walk_at "nz"
  refine ⟨_, rfl, fun i acc => ∃ WL : List (List Arr), acc = WL.map (webD C_Web) ∧ WL.length = i ∧ ∀ (j : Nat) (r s : List Arr), RL[j]? = some r → WL[j]? = some s → s.Perm r ∧ WebS s, ⟨[], rfl, rfl, fun j r s _ h => by simp at h⟩, ?_, ?_⟩
  · rintro i d acc hd ⟨WL, rfl, hwl, hw⟩
    obtain ⟨r, hr', rfl⟩ := map_get hd
    have hri := hR r (List.mem_of_getElem? hr')
    have hi : i < RL.length := (List.getElem?_eq_some_iff.mp hr').1
    walk_at "nz"
    refine ⟨r, rfl, hri.1, by omega, fun rs p' hS => ⟨by rw [List.length_map, sizeLine_eq]; omega, WL ++ [rs], by rw [List.map_append]; rfl, by rw [List.length_append]; show _ + 1 = _; omega, fun j r' s' h1 h2 => ?_⟩⟩
    by_cases q : j < WL.length
    · rw [List.getElem?_append_left q] at h2
      exact hw j r' s' h1 h2
    · have hj := (List.getElem?_eq_some_iff.mp h2).1
      rw [List.length_append] at hj
      have hj' : j < WL.length + 1 := hj
      have e : j = i := by omega
      subst e
      rw [List.getElem?_append_right (by omega), show j - WL.length = 0 by omega] at h2
      cases (show some rs = some s' from h2)
      rw [hr'] at h1
      cases h1
      exact ⟨p', hS⟩
  rintro acc ⟨WL, rfl, hwl, hw⟩
  rw [List.length_map, hRl] at hwl
  have atj : ∀ j : Nat, j < 2 → ∃ r s : List Arr, RL[j]? = some r ∧ WL[j]? = some s ∧ s.Perm r ∧ WebS s ∧ WebOk r ∧ r.length ≤ 12 ∧ atI (RL.map fun r => Dat.lst (r.map arrD)) (j : Int) = some (.lst (r.map arrD)) ∧ atI (WL.map (webD C_Web)) (j : Int) = some (webD C_Web s) := fun j hj => by
    have e1 := List.getElem?_eq_getElem (show j < RL.length by omega)
    have e2 := List.getElem?_eq_getElem (show j < WL.length by omega)
    obtain ⟨hp1, hS⟩ := hw j _ _ e1 e2
    have hri := hR _ (List.mem_of_getElem? e1)
    exact ⟨_, _, e1, e2, hp1, hS, hri.1, hri.2, atI_nat (by rw [List.getElem?_map, e1]; rfl), atI_nat (by rw [List.getElem?_map, e2]; rfl)⟩
  walk_at "nz"
  refine ds_forL ?_
  walk_at "nz"
  refine ⟨_, rfl, fun i ρ' => ∃ y, ρ' = [.no, .sto, .dat (.lst (RL.map fun r => .lst (r.map arrD))), .dat (.lst (WL.map (webD C_Web))), y, .no, .no], ⟨_, rfl⟩, ?_, ?_⟩
  · rintro i d ρ' hd ⟨y, rfl⟩
    obtain ⟨j, hj, rfl⟩ : ∃ j : Nat, j < 2 ∧ d = .int j := by
      match i, hd with
      | 0, hd => cases hd; exact ⟨0, by decide, rfl⟩
      | 1, hd => cases hd; exact ⟨1, by decide, rfl⟩
      | 2, hd => cases hd; exact ⟨0, by decide, rfl⟩
    obtain ⟨r, s, e1, e2, hp1, hS, hr1, hr2, iR, iW⟩ := atj j hj
    have hlen := hp1.length_eq
    walk_at "nz"
    refine dIx_l iW ?_
    walk_at "nz"
    refine dIx_l iW ?_
    walk_at "nz"
    refine dIx_l iR ?_
    walk_at "nz"
    refine ⟨r, s, rfl, hp1, hS, ?_⟩
    walk_at "nz"
    exact ⟨_, rfl⟩
  rintro ρ' ⟨y, rfl⟩
  walk_at "nz"
  refine ds_for1 ?_
  walk_at "nz"
  refine ⟨2, rfl, by decide, by decide, fun i ρ' => ∃ y z, ρ' = [.no, .sto, .dat (.lst (RL.map fun r => .lst (r.map arrD))), .dat (.lst (WL.map (webD C_Web))), y, z, .no], ⟨_, _, rfl⟩, ?_, ?_⟩
  · rintro j ρ' hj ⟨y, z, rfl⟩
    obtain ⟨r, s, e1, e2, hp1, hS, hr1, hr2, iR, iW⟩ := atj j hj
    have hlen := hp1.length_eq
    walk_at "nz"
    refine dIx_l iR ?_
    walk_at "nz"
    refine ⟨_, .inl rfl, by rw [List.length_map]; omega, fun es hes => ?_⟩
    obtain ⟨r', hp2, rfl⟩ := perm_map_inv hes
    walk_at "nz"
    refine ⟨r', rfl, hr1.perm hp2, by rw [hp2.length_eq]; omega, fun s' hp3 hS' => ?_⟩
    have es' : s' = s := webS_uniq hS' hS ((hp3.trans hp2).trans hp1.symm)
    subst es'
    have eD : ∀ gs : List (List Arr), ∀ es : List (Addr × Inn), es.map (·.2) = gs.map (fun g => Inn.l ((boxL (trailOf g)).map Dat.str)) → es.map (fun e => e.2.d) = (gs.map fun g => boxL (trailOf g)).map fun c => Dat.lst (c.map Dat.str) := fun gs es he => by
      have := congrArg (List.map Inn.d) he
      rw [List.map_map, List.map_map] at this
      rw [List.map_map]
      exact this
    walk_at "nz"
    refine ⟨s', rfl, hS', fun gs hg D1 es1 he1 => ⟨_, rfl, ?_⟩⟩
    walk_at "nz"
    refine dIx_l iW ?_
    walk_at "nz"
    refine ⟨s', rfl, hS', fun gs' hg' D2 es2 he2 => ⟨_, rfl, ?_⟩⟩
    cases parts_uniq hS.ok.nd hg' hg
    have hgl := parts_len hg
    have hle := hS.le
    have ok0 := okD_strL (cs := gs.map fun g => boxL (trailOf g)) (by rw [List.length_map]; omega) (fun c hc => by
      obtain ⟨q, hq, rfl⟩ := List.mem_map.mp hc
      have go := part_ok hg hS.ok q hq
      have h1 := (trailOf_ok go.cn go.bal go.ne go.nd).2.length_eq
      have h2 := go.le
      rw [List.length_map]
      omega)
    walk_at "nz"
    rw [eD _ _ he1, eD _ _ he2]
    refine T_same_mk (Nat.le_trans (dpt_strL _) (by decide)) ok0 ok0 ?_
    rw [sameD_refl _ ok0]
    refine ⟨rfl, ?_⟩
    walk_at "nz"
    exact ⟨_, _, rfl⟩
  · rintro ρ' ⟨y, z, rfl⟩
    walk_at "nz"
    rfl
end
abbrev dD__law_store : He.DefD := ⟨("_law_store", none), "_law_store", "_law_store", defArgs s__law_store, defBody s__law_store, defScope s__law_store, [], []⟩
abbrev dD__law_mix : He.DefD := ⟨("_law_mix", none), "_law_mix", "_law_mix", defArgs s__law_mix, defBody s__law_mix, defScope s__law_mix, [], []⟩
abbrev dD__law_take : He.DefD := ⟨("_law_take", none), "_law_take", "_law_take", defArgs s__law_take, defBody s__law_take, defScope s__law_take, [], []⟩
abbrev dD__law_number : He.DefD := ⟨("_law_number", none), "_law_number", "_law_number", defArgs s__law_number, defBody s__law_number, defScope s__law_number, [], []⟩
abbrev dD__law_sign : He.DefD := ⟨("_law_sign", none), "_law_sign", "_law_sign", defArgs s__law_sign, defBody s__law_sign, defScope s__law_sign, [], []⟩
abbrev dD__law_name_of : He.DefD := ⟨("_law_name_of", none), "_law_name_of", "_law_name_of", defArgs s__law_name_of, defBody s__law_name_of, defScope s__law_name_of, [], []⟩
abbrev dD__law_name : He.DefD := ⟨("_law_name", none), "_law_name", "_law_name", defArgs s__law_name, defBody s__law_name, defScope s__law_name, [], []⟩
abbrev dD__law_pick : He.DefD := ⟨("_law_pick", none), "_law_pick", "_law_pick", defArgs s__law_pick, defBody s__law_pick, defScope s__law_pick, [], []⟩
abbrev dD__law_name_like : He.DefD := ⟨("_law_name_like", none), "_law_name_like", "_law_name_like", defArgs s__law_name_like, defBody s__law_name_like, defScope s__law_name_like, [], []⟩
abbrev dD__law_unlike : He.DefD := ⟨("_law_unlike", none), "_law_unlike", "_law_unlike", defArgs s__law_unlike, defBody s__law_unlike, defScope s__law_unlike, [], []⟩
abbrev dD__law_names : He.DefD := ⟨("_law_names", none), "_law_names", "_law_names", defArgs s__law_names, defBody s__law_names, defScope s__law_names, [], []⟩
abbrev dD__law_shuffled : He.DefD := ⟨("_law_shuffled", none), "_law_shuffled", "_law_shuffled", defArgs s__law_shuffled, defBody s__law_shuffled, defScope s__law_shuffled, [], []⟩
abbrev dD__law_arrows : He.DefD := ⟨("_law_arrows", none), "_law_arrows", "_law_arrows", defArgs s__law_arrows, defBody s__law_arrows, defScope s__law_arrows, [], []⟩
abbrev dD__law_rows : He.DefD := ⟨("_law_rows", none), "_law_rows", "_law_rows", defArgs s__law_rows, defBody s__law_rows, defScope s__law_rows, [], []⟩
abbrev dD__law_row_of : He.DefD := ⟨("_law_row_of", none), "_law_row_of", "_law_row_of", defArgs s__law_row_of, defBody s__law_row_of, defScope s__law_row_of, [], []⟩
abbrev dD_is_name : He.DefD := ⟨("is_name", none), "is_name", "is_name", defArgs s_is_name, defBody s_is_name, defScope s_is_name, [], []⟩
abbrev dD_valid_name : He.DefD := ⟨("valid_name", none), "valid_name", "valid_name", defArgs s_valid_name, defBody s_valid_name, defScope s_valid_name, [], []⟩
abbrev dD_require_arrow : He.DefD := ⟨("require_arrow", none), "require_arrow", "require_arrow", defArgs s_require_arrow, defBody s_require_arrow, defScope s_require_arrow, [], []⟩
abbrev dD_require_balance : He.DefD := ⟨("require_balance", none), "require_balance", "require_balance", defArgs s_require_balance, defBody s_require_balance, defScope s_require_balance, [], []⟩
abbrev dD_Web___init__ : He.DefD := ⟨("Web", some "__init__"), "__init__", "Web.__init__", defArgs s_Web___init__, defBody s_Web___init__, defScope s_Web___init__, [], []⟩
abbrev dD__law_web : He.DefD := ⟨("_law_web", none), "_law_web", "_law_web", defArgs s__law_web, defBody s__law_web, defScope s__law_web, [], []⟩
abbrev dD__law_parts : He.DefD := ⟨("_law_parts", none), "_law_parts", "_law_parts", defArgs s__law_parts, defBody s__law_parts, defScope s__law_parts, [], []⟩
abbrev dD_touches : He.DefD := ⟨("touches", none), "touches", "touches", defArgs s_touches, defBody s_touches, defScope s_touches, [], []⟩
abbrev dD_parted : He.DefD := ⟨("parted", none), "parted", "parted", defArgs s_parted, defBody s_parted, defScope s_parted, [], []⟩
abbrev dD_Web_parts : He.DefD := ⟨("Web", some "parts"), "parts", "Web.parts", defArgs s_Web_parts, defBody s_Web_parts, defScope s_Web_parts, [], []⟩
abbrev dD_arrow_from : He.DefD := ⟨("arrow_from", none), "arrow_from", "arrow_from", defArgs s_arrow_from, defBody s_arrow_from, defScope s_arrow_from, [], []⟩
abbrev dD_taken_round : He.DefD := ⟨("taken_round", none), "taken_round", "taken_round", defArgs s_taken_round, defBody s_taken_round, defScope s_taken_round, [], []⟩
abbrev dD_open_at : He.DefD := ⟨("open_at", none), "open_at", "open_at", defArgs s_open_at, defBody s_open_at, defScope s_open_at, [], []⟩
abbrev dD_trail_of : He.DefD := ⟨("trail_of", none), "trail_of", "trail_of", defArgs s_trail_of, defBody s_trail_of, defScope s_trail_of, [], []⟩
abbrev dD_Web_closed_trails : He.DefD := ⟨("Web", some "closed_trails"), "closed_trails", "Web.closed_trails", defArgs s_Web_closed_trails, defBody s_Web_closed_trails, defScope s_Web_closed_trails, [], []⟩
abbrev dD__law_copy : He.DefD := ⟨("_law_copy", none), "_law_copy", "_law_copy", defArgs s__law_copy, defBody s__law_copy, defScope s__law_copy, [], []⟩
abbrev dD__law_are_lists : He.DefD := ⟨("_law_are_lists", none), "_law_are_lists", "_law_are_lists", defArgs s__law_are_lists, defBody s__law_are_lists, defScope s__law_are_lists, [], []⟩
abbrev dD__law_is_trail : He.DefD := ⟨("_law_is_trail", none), "_law_is_trail", "_law_is_trail", defArgs s__law_is_trail, defBody s__law_is_trail, defScope s__law_is_trail, [], []⟩
abbrev dD_arrows_along : He.DefD := ⟨("arrows_along", none), "arrows_along", "arrows_along", defArgs s_arrows_along, defBody s_arrows_along, defScope s_arrows_along, [], []⟩
abbrev dD_closes : He.DefD := ⟨("closes", none), "closes", "closes", defArgs s_closes, defBody s_closes, defScope s_closes, [], []⟩
abbrev dD_Web_is_trail : He.DefD := ⟨("Web", some "is_trail"), "is_trail", "Web.is_trail", defArgs s_Web_is_trail, defBody s_Web_is_trail, defScope s_Web_is_trail, [], []⟩
abbrev dD_Web_is_circuit : He.DefD := ⟨("Web", some "is_circuit"), "is_circuit", "Web.is_circuit", defArgs s_Web_is_circuit, defBody s_Web_is_circuit, defScope s_Web_is_circuit, [], []⟩
abbrev dD__law_same : He.DefD := ⟨("_law_same", none), "_law_same", "_law_same", defArgs s__law_same, defBody s__law_same, defScope s__law_same, [], []⟩
abbrev dD__law_are_trails : He.DefD := ⟨("_law_are_trails", none), "_law_are_trails", "_law_are_trails", defArgs s__law_are_trails, defBody s__law_are_trails, defScope s__law_are_trails, [], []⟩
abbrev dD__law_asked : He.DefD := ⟨("_law_asked", none), "_law_asked", "_law_asked", defArgs s__law_asked, defBody s__law_asked, defScope s__law_asked, [], []⟩
abbrev dD_law : He.DefD := ⟨("law", none), "law", "law", defArgs s_law, defBody s_law, defScope s_law, [], []⟩
def fnL : List He.DefD := [dD__law_store, dD__law_mix, dD__law_take, dD__law_number, dD__law_sign, dD__law_name_of, dD__law_name, dD__law_pick, dD__law_name_like, dD__law_unlike, dD__law_names, dD__law_shuffled, dD__law_arrows, dD__law_rows, dD__law_row_of, dD_is_name, dD_valid_name, dD_require_arrow, dD_require_balance, dD_Web___init__, dD__law_web, dD__law_parts, dD_touches, dD_parted, dD_Web_parts, dD_arrow_from, dD_taken_round, dD_open_at, dD_trail_of, dD_Web_closed_trails, dD__law_copy, dD__law_are_lists, dD__law_is_trail, dD_arrows_along, dD_closes, dD_Web_is_trail, dD_Web_is_circuit, dD__law_same, dD__law_are_trails, dD__law_asked, dD_law]
def faL : List He.Fa := [.free "len", .free "range", .free "int", .free "str", .free "bool", .free "list", .free "tuple", .free "dict", .free "set", .free "isinstance", .free "min", .free "max", .free "abs", .free "sum", .free "sorted", .free "any", .free "all", .free "enumerate", .free "zip", .free "reversed", .free "repr", .free "iter", .free "type", .glo "_law_store", .glo "_law_mix", .glo "_law_take", .glo "_law_number", .glo "_law_sign", .glo "_law_name_of", .glo "_law_name", .glo "_law_pick", .glo "_law_name_like", .glo "_law_unlike", .glo "_law_names", .glo "_law_shuffled", .glo "_law_arrows", .glo "_law_rows", .glo "_law_row_of", .glo "is_name", .glo "valid_name", .glo "require_arrow", .glo "require_balance", .glo "_law_web", .glo "_law_parts", .glo "touches", .glo "parted", .glo "arrow_from", .glo "taken_round", .glo "open_at", .glo "trail_of", .glo "_law_copy", .glo "_law_are_lists", .glo "_law_is_trail", .glo "arrows_along", .glo "closes", .glo "_law_same", .glo "_law_are_trails", .glo "_law_asked", .glo "law", .glo "Web", .str "LETTERS" "abcdefghijklmnopqrstuvwxyz", .str "SIGNS" "abcdefghijklmnopqrstuvwxyz0123456789", .int "MOST_SIGNS" 8, .int "MOST_ARROWS" 12, .cls "Web", .noat "Web" "web_rows", .mkr "Web", .meth "Web" "parts", .meth "Web" "closed_trails", .meth "Web" "is_trail", .meth "Web" "is_circuit"]
def exL (K : PySem.W.Frag) : List Bool := [(decide (PySem.W.typeIn K (.ref (He.ma K (He.ga K "Web") "parts")) = some (.type "function"))),
  (decide (PySem.W.typeIn K (.ref (He.ma K (He.ga K "Web") "closed_trails")) = some (.type "function"))),
  (decide (PySem.W.typeIn K (.ref (He.ma K (He.ga K "Web") "is_trail")) = some (.type "function"))),
  (decide (PySem.W.typeIn K (.ref (He.ma K (He.ga K "Web") "is_circuit")) = some (.type "function")))]
def exK (K : PySem.W.Frag) : Bool := (exL K).all id
theorem facts {P : Program} {w : World} {K : PySem.W.Frag} {h : Heap} {mg : Str → Option Value} {f : Addr} (X : K.In h) (G : h.Ns mainGlobals mg) (hfa : mg ("law" : Str) = some (.ref f)) (cx : SaysW faL fnL exK K) :
    ∃ fd : FuncData, (∀ (s : Shared) (v : Value), BindsTo s fd ⟨[v], []⟩ [("_law_script", v)]) ∧ ∀ base : Heap, K.In base → base.Ns mainGlobals mg → FnOk P w K mg base CX0 10 f fd ["_law_script"] (spLaw K) := by
  have cd := cx.d
  have ce : (exL K).all id = true := cx.more
  have e0 := hfa.symm.trans (He.glo_ok X G (cd.fact 58 (f := .glo "law") rfl))
  cases e0
  have B : Bi mg := ⟨He.free_ok X G (cd.fact 0 (f := .free "len") rfl), He.free_ok X G (cd.fact 1 (f := .free "range") rfl), He.free_ok X G (cd.fact 2 (f := .free "int") rfl), He.free_ok X G (cd.fact 3 (f := .free "str") rfl), He.free_ok X G (cd.fact 4 (f := .free "bool") rfl), He.free_ok X G (cd.fact 5 (f := .free "list") rfl), He.free_ok X G (cd.fact 6 (f := .free "tuple") rfl), He.free_ok X G (cd.fact 7 (f := .free "dict") rfl), He.free_ok X G (cd.fact 8 (f := .free "set") rfl), He.free_ok X G (cd.fact 9 (f := .free "isinstance") rfl), He.free_ok X G (cd.fact 10 (f := .free "min") rfl), He.free_ok X G (cd.fact 11 (f := .free "max") rfl), He.free_ok X G (cd.fact 12 (f := .free "abs") rfl), He.free_ok X G (cd.fact 13 (f := .free "sum") rfl), He.free_ok X G (cd.fact 14 (f := .free "sorted") rfl), He.free_ok X G (cd.fact 15 (f := .free "any") rfl), He.free_ok X G (cd.fact 16 (f := .free "all") rfl), He.free_ok X G (cd.fact 17 (f := .free "enumerate") rfl), He.free_ok X G (cd.fact 18 (f := .free "zip") rfl), He.free_ok X G (cd.fact 19 (f := .free "reversed") rfl), He.free_ok X G (cd.fact 20 (f := .free "repr") rfl), He.free_ok X G (cd.fact 21 (f := .free "iter") rfl), He.free_ok X G (cd.fact 22 (f := .free "type") rfl)⟩
  have g__law_store : mg "_law_store" = some (.ref (He.ga K "_law_store")) := He.glo_ok X G (cd.fact 23 (f := .glo "_law_store") rfl)
  have g__law_mix : mg "_law_mix" = some (.ref (He.ga K "_law_mix")) := He.glo_ok X G (cd.fact 24 (f := .glo "_law_mix") rfl)
  have g__law_take : mg "_law_take" = some (.ref (He.ga K "_law_take")) := He.glo_ok X G (cd.fact 25 (f := .glo "_law_take") rfl)
  have g__law_number : mg "_law_number" = some (.ref (He.ga K "_law_number")) := He.glo_ok X G (cd.fact 26 (f := .glo "_law_number") rfl)
  have g__law_sign : mg "_law_sign" = some (.ref (He.ga K "_law_sign")) := He.glo_ok X G (cd.fact 27 (f := .glo "_law_sign") rfl)
  have g__law_name_of : mg "_law_name_of" = some (.ref (He.ga K "_law_name_of")) := He.glo_ok X G (cd.fact 28 (f := .glo "_law_name_of") rfl)
  have g__law_name : mg "_law_name" = some (.ref (He.ga K "_law_name")) := He.glo_ok X G (cd.fact 29 (f := .glo "_law_name") rfl)
  have g__law_pick : mg "_law_pick" = some (.ref (He.ga K "_law_pick")) := He.glo_ok X G (cd.fact 30 (f := .glo "_law_pick") rfl)
  have g__law_name_like : mg "_law_name_like" = some (.ref (He.ga K "_law_name_like")) := He.glo_ok X G (cd.fact 31 (f := .glo "_law_name_like") rfl)
  have g__law_unlike : mg "_law_unlike" = some (.ref (He.ga K "_law_unlike")) := He.glo_ok X G (cd.fact 32 (f := .glo "_law_unlike") rfl)
  have g__law_names : mg "_law_names" = some (.ref (He.ga K "_law_names")) := He.glo_ok X G (cd.fact 33 (f := .glo "_law_names") rfl)
  have g__law_shuffled : mg "_law_shuffled" = some (.ref (He.ga K "_law_shuffled")) := He.glo_ok X G (cd.fact 34 (f := .glo "_law_shuffled") rfl)
  have g__law_arrows : mg "_law_arrows" = some (.ref (He.ga K "_law_arrows")) := He.glo_ok X G (cd.fact 35 (f := .glo "_law_arrows") rfl)
  have g__law_rows : mg "_law_rows" = some (.ref (He.ga K "_law_rows")) := He.glo_ok X G (cd.fact 36 (f := .glo "_law_rows") rfl)
  have g__law_row_of : mg "_law_row_of" = some (.ref (He.ga K "_law_row_of")) := He.glo_ok X G (cd.fact 37 (f := .glo "_law_row_of") rfl)
  have g_is_name : mg "is_name" = some (.ref (He.ga K "is_name")) := He.glo_ok X G (cd.fact 38 (f := .glo "is_name") rfl)
  have g_valid_name : mg "valid_name" = some (.ref (He.ga K "valid_name")) := He.glo_ok X G (cd.fact 39 (f := .glo "valid_name") rfl)
  have g_require_arrow : mg "require_arrow" = some (.ref (He.ga K "require_arrow")) := He.glo_ok X G (cd.fact 40 (f := .glo "require_arrow") rfl)
  have g_require_balance : mg "require_balance" = some (.ref (He.ga K "require_balance")) := He.glo_ok X G (cd.fact 41 (f := .glo "require_balance") rfl)
  have g__law_web : mg "_law_web" = some (.ref (He.ga K "_law_web")) := He.glo_ok X G (cd.fact 42 (f := .glo "_law_web") rfl)
  have g__law_parts : mg "_law_parts" = some (.ref (He.ga K "_law_parts")) := He.glo_ok X G (cd.fact 43 (f := .glo "_law_parts") rfl)
  have g_touches : mg "touches" = some (.ref (He.ga K "touches")) := He.glo_ok X G (cd.fact 44 (f := .glo "touches") rfl)
  have g_parted : mg "parted" = some (.ref (He.ga K "parted")) := He.glo_ok X G (cd.fact 45 (f := .glo "parted") rfl)
  have g_arrow_from : mg "arrow_from" = some (.ref (He.ga K "arrow_from")) := He.glo_ok X G (cd.fact 46 (f := .glo "arrow_from") rfl)
  have g_taken_round : mg "taken_round" = some (.ref (He.ga K "taken_round")) := He.glo_ok X G (cd.fact 47 (f := .glo "taken_round") rfl)
  have g_open_at : mg "open_at" = some (.ref (He.ga K "open_at")) := He.glo_ok X G (cd.fact 48 (f := .glo "open_at") rfl)
  have g_trail_of : mg "trail_of" = some (.ref (He.ga K "trail_of")) := He.glo_ok X G (cd.fact 49 (f := .glo "trail_of") rfl)
  have g__law_copy : mg "_law_copy" = some (.ref (He.ga K "_law_copy")) := He.glo_ok X G (cd.fact 50 (f := .glo "_law_copy") rfl)
  have g__law_are_lists : mg "_law_are_lists" = some (.ref (He.ga K "_law_are_lists")) := He.glo_ok X G (cd.fact 51 (f := .glo "_law_are_lists") rfl)
  have g__law_is_trail : mg "_law_is_trail" = some (.ref (He.ga K "_law_is_trail")) := He.glo_ok X G (cd.fact 52 (f := .glo "_law_is_trail") rfl)
  have g_arrows_along : mg "arrows_along" = some (.ref (He.ga K "arrows_along")) := He.glo_ok X G (cd.fact 53 (f := .glo "arrows_along") rfl)
  have g_closes : mg "closes" = some (.ref (He.ga K "closes")) := He.glo_ok X G (cd.fact 54 (f := .glo "closes") rfl)
  have g__law_same : mg "_law_same" = some (.ref (He.ga K "_law_same")) := He.glo_ok X G (cd.fact 55 (f := .glo "_law_same") rfl)
  have g__law_are_trails : mg "_law_are_trails" = some (.ref (He.ga K "_law_are_trails")) := He.glo_ok X G (cd.fact 56 (f := .glo "_law_are_trails") rfl)
  have g__law_asked : mg "_law_asked" = some (.ref (He.ga K "_law_asked")) := He.glo_ok X G (cd.fact 57 (f := .glo "_law_asked") rfl)
  have g_law : mg "law" = some (.ref (He.ga K "law")) := He.glo_ok X G (cd.fact 58 (f := .glo "law") rfl)
  have g_Web : mg "Web" = some (.ref (He.ga K "Web")) := He.glo_ok X G (cd.fact 59 (f := .glo "Web") rfl)
  have k_LETTERS := He.str_ok X G (cd.fact 60 (f := .str "LETTERS" "abcdefghijklmnopqrstuvwxyz") rfl)
  have k_SIGNS := He.str_ok X G (cd.fact 61 (f := .str "SIGNS" "abcdefghijklmnopqrstuvwxyz0123456789") rfl)
  have k_MOST_SIGNS := He.int_ok X G (cd.fact 62 (f := .int "MOST_SIGNS" 8) rfl)
  have k_MOST_ARROWS := He.int_ok X G (cd.fact 63 (f := .int "MOST_ARROWS" 12) rfl)
  obtain ⟨fd__law_store, F__law_store⟩ := cd.def_ 0 (d := dD__law_store) rfl
  have b__law_store : Binds K fd__law_store ["_law_script"] [] := F__law_store.bindsN fun _ _ _ _ _ _ us hl => match us, hl with | [_], _ => rfl
  obtain ⟨fd__law_mix, F__law_mix⟩ := cd.def_ 1 (d := dD__law_mix) rfl
  have b__law_mix : Binds K fd__law_mix ["_law_seed", "_law_turn"] [] := F__law_mix.bindsN fun _ _ _ _ _ _ us hl => match us, hl with | [_, _], _ => rfl
  obtain ⟨fd__law_take, F__law_take⟩ := cd.def_ 2 (d := dD__law_take) rfl
  have b__law_take : Binds K fd__law_take ["_law_store_here", "_law_many"] [] := F__law_take.bindsN fun _ _ _ _ _ _ us hl => match us, hl with | [_, _], _ => rfl
  obtain ⟨fd__law_number, F__law_number⟩ := cd.def_ 3 (d := dD__law_number) rfl
  have b__law_number : Binds K fd__law_number ["_law_store_here", "_law_low", "_law_high"] [] := F__law_number.bindsN fun _ _ _ _ _ _ us hl => match us, hl with | [_, _, _], _ => rfl
  obtain ⟨fd__law_sign, F__law_sign⟩ := cd.def_ 4 (d := dD__law_sign) rfl
  have b__law_sign : Binds K fd__law_sign ["_law_number_here"] [] := F__law_sign.bindsN fun _ _ _ _ _ _ us hl => match us, hl with | [_], _ => rfl
  obtain ⟨fd__law_name_of, F__law_name_of⟩ := cd.def_ 5 (d := dD__law_name_of) rfl
  have b__law_name_of : Binds K fd__law_name_of ["_law_number_here"] [] := F__law_name_of.bindsN fun _ _ _ _ _ _ us hl => match us, hl with | [_], _ => rfl
  obtain ⟨fd__law_name, F__law_name⟩ := cd.def_ 6 (d := dD__law_name) rfl
  have b__law_name : Binds K fd__law_name ["_law_store_here"] [] := F__law_name.bindsN fun _ _ _ _ _ _ us hl => match us, hl with | [_], _ => rfl
  obtain ⟨fd__law_pick, F__law_pick⟩ := cd.def_ 7 (d := dD__law_pick) rfl
  have b__law_pick : Binds K fd__law_pick ["_law_store_here", "_law_row"] [] := F__law_pick.bindsN fun _ _ _ _ _ _ us hl => match us, hl with | [_, _], _ => rfl
  obtain ⟨fd__law_name_like, F__law_name_like⟩ := cd.def_ 8 (d := dD__law_name_like) rfl
  have b__law_name_like : Binds K fd__law_name_like ["_law_store_here", "_law_manner", "_law_stem"] [] := F__law_name_like.bindsN fun _ _ _ _ _ _ us hl => match us, hl with | [_, _, _], _ => rfl
  obtain ⟨fd__law_unlike, F__law_unlike⟩ := cd.def_ 9 (d := dD__law_unlike) rfl
  have b__law_unlike : Binds K fd__law_unlike ["_law_name_here", "_law_taken"] [] := F__law_unlike.bindsN fun _ _ _ _ _ _ us hl => match us, hl with | [_, _], _ => rfl
  obtain ⟨fd__law_names, F__law_names⟩ := cd.def_ 10 (d := dD__law_names) rfl
  have b__law_names : Binds K fd__law_names ["_law_store_here", "_law_many", "_law_taken"] [] := F__law_names.bindsN fun _ _ _ _ _ _ us hl => match us, hl with | [_, _, _], _ => rfl
  obtain ⟨fd__law_shuffled, F__law_shuffled⟩ := cd.def_ 11 (d := dD__law_shuffled) rfl
  have b__law_shuffled : Binds K fd__law_shuffled ["_law_store_here", "_law_row"] [] := F__law_shuffled.bindsN fun _ _ _ _ _ _ us hl => match us, hl with | [_, _], _ => rfl
  obtain ⟨fd__law_arrows, F__law_arrows⟩ := cd.def_ 12 (d := dD__law_arrows) rfl
  have b__law_arrows : Binds K fd__law_arrows ["_law_store_here", "_law_most"] [] := F__law_arrows.bindsN fun _ _ _ _ _ _ us hl => match us, hl with | [_, _], _ => rfl
  obtain ⟨fd__law_rows, F__law_rows⟩ := cd.def_ 13 (d := dD__law_rows) rfl
  have b__law_rows : Binds K fd__law_rows ["_law_store_here", "_law_most"] [] := F__law_rows.bindsN fun _ _ _ _ _ _ us hl => match us, hl with | [_, _], _ => rfl
  obtain ⟨fd__law_row_of, F__law_row_of⟩ := cd.def_ 14 (d := dD__law_row_of) rfl
  have b__law_row_of : Binds K fd__law_row_of ["_law_store_here", "_law_row"] [] := F__law_row_of.bindsN fun _ _ _ _ _ _ us hl => match us, hl with | [_, _], _ => rfl
  obtain ⟨fd_is_name, F_is_name⟩ := cd.def_ 15 (d := dD_is_name) rfl
  have b_is_name : Binds K fd_is_name ["text"] [] := F_is_name.bindsN fun _ _ _ _ _ _ us hl => match us, hl with | [_], _ => rfl
  obtain ⟨fd_valid_name, F_valid_name⟩ := cd.def_ 16 (d := dD_valid_name) rfl
  have b_valid_name : Binds K fd_valid_name ["name"] [] := F_valid_name.bindsN fun _ _ _ _ _ _ us hl => match us, hl with | [_], _ => rfl
  obtain ⟨fd_require_arrow, F_require_arrow⟩ := cd.def_ 17 (d := dD_require_arrow) rfl
  have b_require_arrow : Binds K fd_require_arrow ["arrow", "known"] [] := F_require_arrow.bindsN fun _ _ _ _ _ _ us hl => match us, hl with | [_, _], _ => rfl
  obtain ⟨fd_require_balance, F_require_balance⟩ := cd.def_ 18 (d := dD_require_balance) rfl
  have b_require_balance : Binds K fd_require_balance ["rows"] [] := F_require_balance.bindsN fun _ _ _ _ _ _ us hl => match us, hl with | [_], _ => rfl
  obtain ⟨fd_Web___init__, F_Web___init__⟩ := cd.def_ 19 (d := dD_Web___init__) rfl
  have b_Web___init__ : Binds K fd_Web___init__ ["self", "arrows"] [] := F_Web___init__.bindsN fun _ _ _ _ _ _ us hl => match us, hl with | [_, _], _ => rfl
  obtain ⟨fd__law_web, F__law_web⟩ := cd.def_ 20 (d := dD__law_web) rfl
  have b__law_web : Binds K fd__law_web ["_law_store_here", "_law_arrows_here"] [] := F__law_web.bindsN fun _ _ _ _ _ _ us hl => match us, hl with | [_, _], _ => rfl
  obtain ⟨fd__law_parts, F__law_parts⟩ := cd.def_ 21 (d := dD__law_parts) rfl
  have b__law_parts : Binds K fd__law_parts ["_law_arrows_here"] [] := F__law_parts.bindsN fun _ _ _ _ _ _ us hl => match us, hl with | [_], _ => rfl
  obtain ⟨fd_touches, F_touches⟩ := cd.def_ 22 (d := dD_touches) rfl
  have b_touches : Binds K fd_touches ["part", "row"] [] := F_touches.bindsN fun _ _ _ _ _ _ us hl => match us, hl with | [_, _], _ => rfl
  obtain ⟨fd_parted, F_parted⟩ := cd.def_ 23 (d := dD_parted) rfl
  have b_parted : Binds K fd_parted ["rows"] [] := F_parted.bindsN fun _ _ _ _ _ _ us hl => match us, hl with | [_], _ => rfl
  obtain ⟨fd_Web_parts, F_Web_parts⟩ := cd.def_ 24 (d := dD_Web_parts) rfl
  have b_Web_parts : Binds K fd_Web_parts ["self"] [] := F_Web_parts.bindsN fun _ _ _ _ _ _ us hl => match us, hl with | [_], _ => rfl
  obtain ⟨fd_arrow_from, F_arrow_from⟩ := cd.def_ 25 (d := dD_arrow_from) rfl
  have b_arrow_from : Binds K fd_arrow_from ["rows", "place"] [] := F_arrow_from.bindsN fun _ _ _ _ _ _ us hl => match us, hl with | [_, _], _ => rfl
  obtain ⟨fd_taken_round, F_taken_round⟩ := cd.def_ 26 (d := dD_taken_round) rfl
  have b_taken_round : Binds K fd_taken_round ["left", "place"] [] := F_taken_round.bindsN fun _ _ _ _ _ _ us hl => match us, hl with | [_, _], _ => rfl
  obtain ⟨fd_open_at, F_open_at⟩ := cd.def_ 27 (d := dD_open_at) rfl
  have b_open_at : Binds K fd_open_at ["trail", "left"] [] := F_open_at.bindsN fun _ _ _ _ _ _ us hl => match us, hl with | [_, _], _ => rfl
  obtain ⟨fd_trail_of, F_trail_of⟩ := cd.def_ 28 (d := dD_trail_of) rfl
  have b_trail_of : Binds K fd_trail_of ["part"] [] := F_trail_of.bindsN fun _ _ _ _ _ _ us hl => match us, hl with | [_], _ => rfl
  obtain ⟨fd_Web_closed_trails, F_Web_closed_trails⟩ := cd.def_ 29 (d := dD_Web_closed_trails) rfl
  have b_Web_closed_trails : Binds K fd_Web_closed_trails ["self"] [] := F_Web_closed_trails.bindsN fun _ _ _ _ _ _ us hl => match us, hl with | [_], _ => rfl
  obtain ⟨fd__law_copy, F__law_copy⟩ := cd.def_ 30 (d := dD__law_copy) rfl
  have b__law_copy : Binds K fd__law_copy ["_law_thing"] [] := F__law_copy.bindsN fun _ _ _ _ _ _ us hl => match us, hl with | [_], _ => rfl
  obtain ⟨fd__law_are_lists, F__law_are_lists⟩ := cd.def_ 31 (d := dD__law_are_lists) rfl
  have b__law_are_lists : Binds K fd__law_are_lists ["_law_circuits"] [] := F__law_are_lists.bindsN fun _ _ _ _ _ _ us hl => match us, hl with | [_], _ => rfl
  obtain ⟨fd__law_is_trail, F__law_is_trail⟩ := cd.def_ 32 (d := dD__law_is_trail) rfl
  have b__law_is_trail : Binds K fd__law_is_trail ["_law_arrows_here", "_law_boxes", "_law_plain"] [] := F__law_is_trail.bindsN fun _ _ _ _ _ _ us hl => match us, hl with | [_, _, _], _ => rfl
  obtain ⟨fd_arrows_along, F_arrows_along⟩ := cd.def_ 33 (d := dD_arrows_along) rfl
  have b_arrows_along : Binds K fd_arrows_along ["rows", "boxes"] [] := F_arrows_along.bindsN fun _ _ _ _ _ _ us hl => match us, hl with | [_, _], _ => rfl
  obtain ⟨fd_closes, F_closes⟩ := cd.def_ 34 (d := dD_closes) rfl
  have b_closes : Binds K fd_closes ["rows"] [] := F_closes.bindsN fun _ _ _ _ _ _ us hl => match us, hl with | [_], _ => rfl
  obtain ⟨fd_Web_is_trail, F_Web_is_trail⟩ := cd.def_ 35 (d := dD_Web_is_trail) rfl
  have b_Web_is_trail : Binds K fd_Web_is_trail ["self", "boxes"] [] := F_Web_is_trail.bindsN fun _ _ _ _ _ _ us hl => match us, hl with | [_, _], _ => rfl
  obtain ⟨fd_Web_is_circuit, F_Web_is_circuit⟩ := cd.def_ 36 (d := dD_Web_is_circuit) rfl
  have b_Web_is_circuit : Binds K fd_Web_is_circuit ["self", "boxes"] [] := F_Web_is_circuit.bindsN fun _ _ _ _ _ _ us hl => match us, hl with | [_, _], _ => rfl
  obtain ⟨fd__law_same, F__law_same⟩ := cd.def_ 37 (d := dD__law_same) rfl
  have b__law_same : Binds K fd__law_same ["_law_one", "_law_other"] [] := F__law_same.bindsN fun _ _ _ _ _ _ us hl => match us, hl with | [_, _], _ => rfl
  obtain ⟨fd__law_are_trails, F__law_are_trails⟩ := cd.def_ 38 (d := dD__law_are_trails) rfl
  have b__law_are_trails : Binds K fd__law_are_trails ["_law_web_here", "_law_arrows_here", "_law_trails", "_law_parts_here"] [] := F__law_are_trails.bindsN fun _ _ _ _ _ _ us hl => match us, hl with | [_, _, _, _], _ => rfl
  obtain ⟨fd__law_asked, F__law_asked⟩ := cd.def_ 39 (d := dD__law_asked) rfl
  have b__law_asked : Binds K fd__law_asked ["_law_web_here", "_law_arrows_here"] [] := F__law_asked.bindsN fun _ _ _ _ _ _ us hl => match us, hl with | [_, _], _ => rfl
  obtain ⟨fd_law, F_law⟩ := cd.def_ 40 (d := dD_law) rfl
  have b_law : Binds K fd_law ["_law_script"] [] := F_law.bindsN fun _ _ _ _ _ _ us hl => match us, hl with | [_], _ => rfl
  have cl_Web := He.cls_ok (cd.fact 64 (f := .cls "Web") rfl)
  have na_Web_web_rows := He.noat_ok (cd.fact 65 (f := .noat "Web" "web_rows") rfl)
  have bb := FunD.bindsA (ps := ["_law_script"]) F_law fun _ _ _ _ _ _ us hl => match us, hl with | [_], _ => rfl
  refine ⟨fd_law, fun s v => bb s [v] rfl, fun base _ _ => ?_⟩
  have o__law_store := ok__law_store (P := P) (w := w) (base := base) B F__law_store
  have c__law_store : Cal P w K mg base 1 "_law_store" ["_law_script"] (spStore K) := ⟨_, _, g__law_store, F__law_store.kp, b__law_store, o__law_store⟩
  have o__law_mix := ok__law_mix (P := P) (w := w) (base := base) B F__law_mix
  have c__law_mix : Cal P w K mg base 1 "_law_mix" ["_law_seed", "_law_turn"] (spD K T_mix) := ⟨_, _, g__law_mix, F__law_mix.kp, b__law_mix, o__law_mix⟩
  have o__law_take := ok__law_take (P := P) (w := w) (base := base) B c__law_mix F__law_take
  have c__law_take : Cal P w K mg base 2 "_law_take" ["_law_store_here", "_law_many"] (spD K T_take) := ⟨_, _, g__law_take, F__law_take.kp, b__law_take, o__law_take⟩
  have o__law_number := ok__law_number (P := P) (w := w) (base := base) B c__law_take F__law_number
  have c__law_number : Cal P w K mg base 3 "_law_number" ["_law_store_here", "_law_low", "_law_high"] (spD K T_number) := ⟨_, _, g__law_number, F__law_number.kp, b__law_number, o__law_number⟩
  have o__law_sign := ok__law_sign (P := P) (w := w) (base := base) B F__law_sign
  have c__law_sign : Cal P w K mg base 1 "_law_sign" ["_law_number_here"] (spD K T_sign) := ⟨_, _, g__law_sign, F__law_sign.kp, b__law_sign, o__law_sign⟩
  have o__law_name_of := ok__law_name_of (P := P) (w := w) (base := base) B c__law_sign F__law_name_of
  have c__law_name_of : Cal P w K mg base 2 "_law_name_of" ["_law_number_here"] (spD K T_name_of) := ⟨_, _, g__law_name_of, F__law_name_of.kp, b__law_name_of, o__law_name_of⟩
  have o__law_name := ok__law_name (P := P) (w := w) (base := base) B c__law_take c__law_name_of F__law_name
  have c__law_name : Cal P w K mg base 3 "_law_name" ["_law_store_here"] (spD K T_name) := ⟨_, _, g__law_name, F__law_name.kp, b__law_name, o__law_name⟩
  have o__law_pick := ok__law_pick (P := P) (w := w) (base := base) B c__law_take F__law_pick
  have c__law_pick : Cal P w K mg base 3 "_law_pick" ["_law_store_here", "_law_row"] (spD K T_pick) := ⟨_, _, g__law_pick, F__law_pick.kp, b__law_pick, o__law_pick⟩
  have o__law_name_like := ok__law_name_like (P := P) (w := w) (base := base) B c__law_take c__law_sign c__law_pick c__law_name F__law_name_like
  have c__law_name_like : Cal P w K mg base 4 "_law_name_like" ["_law_store_here", "_law_manner", "_law_stem"] (spD K T_name_like) := ⟨_, _, g__law_name_like, F__law_name_like.kp, b__law_name_like, o__law_name_like⟩
  have o__law_unlike := ok__law_unlike (P := P) (w := w) (base := base) B c__law_sign F__law_unlike
  have c__law_unlike : Cal P w K mg base 2 "_law_unlike" ["_law_name_here", "_law_taken"] (spD K T_unlike) := ⟨_, _, g__law_unlike, F__law_unlike.kp, b__law_unlike, o__law_unlike⟩
  have o__law_names := ok__law_names (P := P) (w := w) (base := base) B c__law_take c__law_name c__law_name_like c__law_unlike F__law_names
  have c__law_names : Cal P w K mg base 5 "_law_names" ["_law_store_here", "_law_many", "_law_taken"] (spN K T_names) := ⟨_, _, g__law_names, F__law_names.kp, b__law_names, o__law_names⟩
  have o__law_shuffled := ok__law_shuffled (P := P) (w := w) (base := base) B c__law_take F__law_shuffled
  have c__law_shuffled : Cal P w K mg base 3 "_law_shuffled" ["_law_store_here", "_law_row"] (spN K T_shuffled) := ⟨_, _, g__law_shuffled, F__law_shuffled.kp, b__law_shuffled, o__law_shuffled⟩
  have o__law_arrows := ok__law_arrows (P := P) (w := w) (base := base) B c__law_number c__law_take c__law_names c__law_shuffled F__law_arrows
  have c__law_arrows : Cal P w K mg base 6 "_law_arrows" ["_law_store_here", "_law_most"] (spN K T_arrows) := ⟨_, _, g__law_arrows, F__law_arrows.kp, b__law_arrows, o__law_arrows⟩
  have o__law_rows := ok__law_rows (P := P) (w := w) (base := base) B c__law_take c__law_arrows c__law_number c__law_names c__law_pick c__law_shuffled F__law_rows
  have c__law_rows : Cal P w K mg base 7 "_law_rows" ["_law_store_here", "_law_most"] (spN K T_rows) := ⟨_, _, g__law_rows, F__law_rows.kp, b__law_rows, o__law_rows⟩
  have o__law_row_of := ok__law_row_of (P := P) (w := w) (base := base) B c__law_take F__law_row_of
  have c__law_row_of : Cal P w K mg base 3 "_law_row_of" ["_law_store_here", "_law_row"] (spE K T_row_of) := ⟨_, _, g__law_row_of, F__law_row_of.kp, b__law_row_of, o__law_row_of⟩
  have o_is_name := ok_is_name (P := P) (w := w) (base := base) B k_LETTERS k_SIGNS k_MOST_SIGNS F_is_name
  have c_is_name : Cal P w K mg base 1 "is_name" ["text"] (spD K T_is_name) := ⟨_, _, g_is_name, F_is_name.kp, b_is_name, o_is_name⟩
  have o_valid_name := ok_valid_name (P := P) (w := w) (base := base) B c_is_name F_valid_name
  have c_valid_name : Cal P w K mg base 2 "valid_name" ["name"] (spD K T_valid_name) := ⟨_, _, g_valid_name, F_valid_name.kp, b_valid_name, o_valid_name⟩
  have o_require_arrow := ok_require_arrow (P := P) (w := w) (base := base) B c_valid_name F_require_arrow
  have c_require_arrow : Cal P w K mg base 3 "require_arrow" ["arrow", "known"] (spD K T_require_arrow) := ⟨_, _, g_require_arrow, F_require_arrow.kp, b_require_arrow, o_require_arrow⟩
  have o_require_balance := ok_require_balance (P := P) (w := w) (base := base) B F_require_balance
  have c_require_balance : Cal P w K mg base 1 "require_balance" ["rows"] (spD K T_require_balance) := ⟨_, _, g_require_balance, F_require_balance.kp, b_require_balance, o_require_balance⟩
  have o_Web___init__ := ok_Web___init__ (P := P) (w := w) (base := base) B k_MOST_ARROWS c_require_arrow c_require_balance cl_Web na_Web_web_rows F_Web___init__
  have i_Web : CalI P w K mg base 4 "Web" (He.ga K "Web") ["self", "arrows"] (spI K (He.ga K "Web") T_web_init) := ⟨_, _, g_Web, He.mkr_ok (cd.fact 66 (f := .mkr "Web") rfl), b_Web___init__, o_Web___init__⟩
  have o__law_web := ok__law_web (P := P) (w := w) (base := base) B c__law_row_of i_Web F__law_web
  have c__law_web : Cal P w K mg base 6 "_law_web" ["_law_store_here", "_law_arrows_here"] (spD K (T_law_web (He.ga K "Web"))) := ⟨_, _, g__law_web, F__law_web.kp, b__law_web, o__law_web⟩
  have o__law_parts := ok__law_parts (P := P) (w := w) (base := base) B F__law_parts
  have c__law_parts : Cal P w K mg base 1 "_law_parts" ["_law_arrows_here"] (spN K T_law_parts) := ⟨_, _, g__law_parts, F__law_parts.kp, b__law_parts, o__law_parts⟩
  have o_touches := ok_touches (P := P) (w := w) (base := base) B F_touches
  have c_touches : Cal P w K mg base 1 "touches" ["part", "row"] (spD K T_touches) := ⟨_, _, g_touches, F_touches.kp, b_touches, o_touches⟩
  have o_parted := ok_parted (P := P) (w := w) (base := base) B c_touches F_parted
  have c_parted : Cal P w K mg base 2 "parted" ["rows"] (spN K T_parted) := ⟨_, _, g_parted, F_parted.kp, b_parted, o_parted⟩
  have o_Web_parts := ok_Web_parts (P := P) (w := w) (base := base) B c_parted cl_Web na_Web_web_rows F_Web_parts
  have m_Web_parts : CalM P w K mg base 3 (He.ga K "Web") "parts" ["self"] (spS K (T_parts (He.ga K "Web"))) := ⟨cl_Web, _, _, He.meth_ok (cd.fact 67 (f := .meth "Web" "parts") rfl), (He.meth_ok (cd.fact 67 (f := .meth "Web" "parts") rfl)).at_, of_decide_eq_true (ex_at ce 0 (b := (decide (PySem.W.typeIn K (.ref (He.ma K (He.ga K "Web") "parts")) = some (.type "function")))) rfl), b_Web_parts, o_Web_parts⟩
  have o_arrow_from := ok_arrow_from (P := P) (w := w) (base := base) B F_arrow_from
  have c_arrow_from : Cal P w K mg base 1 "arrow_from" ["rows", "place"] (spD K T_arrow_from) := ⟨_, _, g_arrow_from, F_arrow_from.kp, b_arrow_from, o_arrow_from⟩
  have o_taken_round := ok_taken_round (P := P) (w := w) (base := base) B c_arrow_from F_taken_round
  have c_taken_round : Cal P w K mg base 2 "taken_round" ["left", "place"] (spU K T_taken_round) := ⟨_, _, g_taken_round, F_taken_round.kp, b_taken_round, o_taken_round⟩
  have o_open_at := ok_open_at (P := P) (w := w) (base := base) B c_arrow_from F_open_at
  have c_open_at : Cal P w K mg base 2 "open_at" ["trail", "left"] (spD K T_open_at) := ⟨_, _, g_open_at, F_open_at.kp, b_open_at, o_open_at⟩
  have o_trail_of := ok_trail_of (P := P) (w := w) (base := base) B c_taken_round c_open_at F_trail_of
  have c_trail_of : Cal P w K mg base 3 "trail_of" ["part"] (spN K T_trail_of) := ⟨_, _, g_trail_of, F_trail_of.kp, b_trail_of, o_trail_of⟩
  have o_Web_closed_trails := ok_Web_closed_trails (P := P) (w := w) (base := base) B c_parted c_trail_of cl_Web na_Web_web_rows F_Web_closed_trails
  have m_Web_closed_trails : CalM P w K mg base 4 (He.ga K "Web") "closed_trails" ["self"] (spS K (T_closed (He.ga K "Web"))) := ⟨cl_Web, _, _, He.meth_ok (cd.fact 68 (f := .meth "Web" "closed_trails") rfl), (He.meth_ok (cd.fact 68 (f := .meth "Web" "closed_trails") rfl)).at_, of_decide_eq_true (ex_at ce 1 (b := (decide (PySem.W.typeIn K (.ref (He.ma K (He.ga K "Web") "closed_trails")) = some (.type "function")))) rfl), b_Web_closed_trails, o_Web_closed_trails⟩
  have o__law_copy := ok__law_copy (P := P) (w := w) (base := base) B g__law_copy b__law_copy F__law_copy
  have c__law_copy : Cal P w K mg base 4 "_law_copy" ["_law_thing"] (spS K (T_cp 3)) := ⟨_, _, g__law_copy, F__law_copy.kp, b__law_copy, o__law_copy⟩
  have o__law_are_lists := ok__law_are_lists (P := P) (w := w) (base := base) B F__law_are_lists
  have c__law_are_lists : Cal P w K mg base 1 "_law_are_lists" ["_law_circuits"] (spD K T_are_lists) := ⟨_, _, g__law_are_lists, F__law_are_lists.kp, b__law_are_lists, o__law_are_lists⟩
  have o__law_is_trail := ok__law_is_trail (P := P) (w := w) (base := base) B F__law_is_trail
  have c__law_is_trail : Cal P w K mg base 1 "_law_is_trail" ["_law_arrows_here", "_law_boxes", "_law_plain"] (spD K T_is_trail) := ⟨_, _, g__law_is_trail, F__law_is_trail.kp, b__law_is_trail, o__law_is_trail⟩
  have o_arrows_along := ok_arrows_along (P := P) (w := w) (base := base) B F_arrows_along
  have c_arrows_along : Cal P w K mg base 1 "arrows_along" ["rows", "boxes"] (spD K T_along) := ⟨_, _, g_arrows_along, F_arrows_along.kp, b_arrows_along, o_arrows_along⟩
  have o_closes := ok_closes (P := P) (w := w) (base := base) B F_closes
  have c_closes : Cal P w K mg base 1 "closes" ["rows"] (spD K T_closes) := ⟨_, _, g_closes, F_closes.kp, b_closes, o_closes⟩
  have o_Web_is_trail := ok_Web_is_trail (P := P) (w := w) (base := base) B c_arrows_along c_closes cl_Web na_Web_web_rows F_Web_is_trail
  have m_Web_is_trail : CalM P w K mg base 2 (He.ga K "Web") "is_trail" ["self", "boxes"] (spD K (T_is_tr (He.ga K "Web") false)) := ⟨cl_Web, _, _, He.meth_ok (cd.fact 69 (f := .meth "Web" "is_trail") rfl), (He.meth_ok (cd.fact 69 (f := .meth "Web" "is_trail") rfl)).at_, of_decide_eq_true (ex_at ce 2 (b := (decide (PySem.W.typeIn K (.ref (He.ma K (He.ga K "Web") "is_trail")) = some (.type "function")))) rfl), b_Web_is_trail, o_Web_is_trail⟩
  have o_Web_is_circuit := ok_Web_is_circuit (P := P) (w := w) (base := base) B c_arrows_along c_closes cl_Web na_Web_web_rows F_Web_is_circuit
  have m_Web_is_circuit : CalM P w K mg base 2 (He.ga K "Web") "is_circuit" ["self", "boxes"] (spD K (T_is_tr (He.ga K "Web") true)) := ⟨cl_Web, _, _, He.meth_ok (cd.fact 70 (f := .meth "Web" "is_circuit") rfl), (He.meth_ok (cd.fact 70 (f := .meth "Web" "is_circuit") rfl)).at_, of_decide_eq_true (ex_at ce 3 (b := (decide (PySem.W.typeIn K (.ref (He.ma K (He.ga K "Web") "is_circuit")) = some (.type "function")))) rfl), b_Web_is_circuit, o_Web_is_circuit⟩
  have o__law_same := ok__law_same (P := P) (w := w) (base := base) B g__law_same b__law_same F__law_same
  have c__law_same : Cal P w K mg base 7 "_law_same" ["_law_one", "_law_other"] (spD K (T_same 6)) := ⟨_, _, g__law_same, F__law_same.kp, b__law_same, o__law_same⟩
  have o__law_are_trails := ok__law_are_trails (P := P) (w := w) (base := base) B c__law_are_lists c__law_is_trail m_Web_is_trail m_Web_is_circuit c__law_same F__law_are_trails
  have c__law_are_trails : Cal P w K mg base 8 "_law_are_trails" ["_law_web_here", "_law_arrows_here", "_law_trails", "_law_parts_here"] (spD K (T_are_trails (He.ga K "Web"))) := ⟨_, _, g__law_are_trails, F__law_are_trails.kp, b__law_are_trails, o__law_are_trails⟩
  have o__law_asked := ok__law_asked (P := P) (w := w) (base := base) B c__law_parts m_Web_parts m_Web_closed_trails c__law_copy c__law_are_trails c__law_same F__law_asked
  have c__law_asked : Cal P w K mg base 9 "_law_asked" ["_law_web_here", "_law_arrows_here"] (spD K (T_asked_p (He.ga K "Web"))) := ⟨_, _, g__law_asked, F__law_asked.kp, b__law_asked, o__law_asked⟩
  have o_law := ok_law (P := P) (w := w) (base := base) B c__law_store c__law_rows c__law_web c__law_asked c__law_shuffled m_Web_closed_trails c__law_same F_law
  exact o_law
def loose0 : List Str := ["_wall", "NestError", "BadName", "BadCount", "Twice", "Refusal", "Idle", "Unbalanced", "MOST_SIGNS", "LETTERS", "SIGNS", "is_name", "valid_name", "MOST_ARROWS", "require_arrow", "require_balance", "arrows_along", "closes", "touches", "parted"]
def loose1 : List Str := ["arrow_from", "taken_round", "open_at", "trail_of", "Web", "_law_store", "_law_mix", "_law_take", "_law_number", "_law_pick", "_law_shuffled", "_law_row_of", "_law_sign", "_law_name_of", "_law_name", "_law_unlike", "_law_name_like", "_law_names", "_law_same", "_law_copy"]
def loose2 : List Str := ["_law_arrows", "_law_is_trail", "_law_rows", "_law_web", "_law_are_lists", "_law_parts", "_law_are_trails", "_law_asked"]
def looseL : List Str := loose0 ++ loose1 ++ loose2
abbrev RwR : PySem.W.OpenRow := PySem.W.OpenLaw.row PySem.Challenge.rw_nestweigh_k53_parts_and_closed_trails
abbrev hkX : PySem.W.Hook := hookW 4 faL fnL exK
def obX (s : PySem.W.SharedT) : He.AlD × Bool := obsW 4 faL fnL exK (HandSHeadRun.getT s)
theorem obX_eq (s : PySem.W.SharedT) : obX s = hkX.obs s.abs := obsW_eq (HandSHeadRun.getT_eq s)
theorem runX (w : World) : HandSHeadRun.RunEq RwR (PySem.W.view RwR.prog [52]) hkX obX 20000 looseL w := by
  intro os
  kernel_rfl
end NW
open PySem PySem.W PySem.Calls PyProof.Rows
set_option maxRecDepth 100000 in
set_option maxHeartbeats 8000000 in
theorem PySem.Challenge.cw_nestweigh_k53_parts_and_closed_trails_holds : PySem.Challenge.rw_nestweigh_k53_parts_and_closed_trails.Holds := by
  w_on; o_law
  refine HandSHeadRun.head_any (r := OpenLaw.row PySem.Challenge.rw_nestweigh_k53_parts_and_closed_trails) (q := view (OpenLaw.row PySem.Challenge.rw_nestweigh_k53_parts_and_closed_trails).prog [52]) (H := NW.hkX) (ob := NW.obX) (M := 20000) (loose := NW.looseL) (d := HandSHeadRun.topDef (OpenLaw.row PySem.Challenge.rw_nestweigh_k53_parts_and_closed_trails).prog 52) (kwd := []) NW.obX_eq
    (by kernel_rfl) (fun s => by kernel_rfl) NW.runX (by kernel_rfl) (by kernel_rfl) (by kernel_rfl) (by rfl) (by first | assumption | decide +kernel) (by decide +kernel) ⟨rfl, rfl, rfl, rfl, rfl, by decide +kernel⟩ ?hw ?hc
  case hw => w_witness2
  case hc =>
    refine L2.walk_ofE (l := PySem.Challenge.rw_nestweigh_k53_parts_and_closed_trails) (n := 63) (k := 10) (x := "_law_script") (CX := L2.CX0) rfl (by decide) (by kernel_rfl) ⟨rfl, by decide, by decide⟩ ?F (fun _ _ _ _ z => z)
    intro w mg fa h Y G hmg0
    obtain ⟨K, KX, c⟩ := Y
    have hmg : mg ("law" : PySem.Str) = some (.ref fa) := by
      have e : (HandSHeadRun.topDef (OpenLaw.row PySem.Challenge.rw_nestweigh_k53_parts_and_closed_trails).prog 52).name = ("law" : PySem.Str) := by kernel_rfl
      rw [← e]
      exact hmg0
    obtain ⟨fd, hb, hF⟩ := NW.facts (P := (PySem.Challenge.rw_nestweigh_k53_parts_and_closed_trails).prog) (w := w) KX G hmg c
    exact ⟨K, fd, NW.spLaw K, KX, hb, fun H a ns hl _ hS => ⟨a, ns, rfl, hS, fun _ => rfl⟩, hF⟩
