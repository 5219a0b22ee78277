import PyProof.Rows.All
import Wide.All
import OpenK.AllK
import Wide.FinOn
import HandS.ForMost
import HandS.ForExc
import HandS.Defaults
import HandS.DictComp
import HandS.Conv
import HandS.IsInst
import HandS.Star
import HandS.Property
import HandS.ClsMeth
import HandS.ExcInit
import HandS.ExcField
import HandS.ExcIs
import HandS.TryMany
import HandS.FStr
import HandS.Deep
import HandS.OwnEq
import HandS.SortRule
import HandS.SortKw
import HandS.Codes
import HandS.Head2
import HandS.HeadEnd
import HandS.HeadHook4
import KE.SortKeyHeap
import HandS.Style
import HandS.Flow
import HandS.Small
import HandS.RaiseMore
import HandS.ExcCtx
import HandS.HotCalls
import HandS.SuiteRaise
import HandS.RaiseFrom
import HandS.TryOnly
import HandS.Finally
import HandS.CallSlots
import KE.KCallOwn
import HandS.Text
import HandS.StrSplit
import KE.KOpsOwn
import PyProof.Draws
import PyProof.EnumMake
import HandS.Iter
import KE.KExcIs
import PyProof.StrOps2
import HandS.Nested
import KE.KSuper
import PyProof.CollectStr
import HandS.ExcValue
import HandS.MakeKwOnly
import PySem.Challenge.RW_smalti_k14_whole_holes_never_hurt
set_option Elab.async false
set_option linter.all false
set_option maxRecDepth 100000
set_option maxHeartbeats 2000000
/-! The data layer: what a value stands for, as plain data (D); objects that may still change are kept by address in a store (Sto). -/
namespace SM
open PySem PySem.Spec PyProof.Rows L2

/-- a text that may stand -/
abbrev okS (s : Str) : Prop := s.length ≤ sizeLine ∧ PyData.strOk s = true
inductive D where
  | non | bl (b : Bool) | int (i : Int) | str (s : Str) | ty (n : String) | adr (a : Addr)
  | tup (ds : List D) | lst (ds : List D) | dT (kvs : List (List Key × D)) | ins (c : Nat) (ds : List D) | cls (c : Nat) | exn (a : Addr) (d : Option Addr) (c : Nat) (ds : List D)

/-- an object that may still change -/
inductive OO where
  | lst (ds : List D) | dT (kvs : List (List Key × D)) | ins (c : Nat) (ds : List D)
abbrev Sto := Addr → Option OO
@[irreducible] def su (S : Sto) (a : Addr) (o : OO) : Sto := fun b => if b = a then some o else S b
@[irreducible] def sd (S : Sto) (a : Addr) : Sto := fun b => if b = a then none else S b
theorem su_same {S : Sto} {a : Addr} {o : OO} : su S a o a = some o := by unfold su; exact if_pos rfl
theorem su_ne {S : Sto} {a b : Addr} {o : OO} (h : b ≠ a) : su S a o b = S b := by unfold su; exact if_neg h
theorem sd_same {S : Sto} {a : Addr} : sd S a a = none := by unfold sd; exact if_pos rfl
theorem sd_ne {S : Sto} {a b : Addr} (h : b ≠ a) : sd S a b = S b := by unfold sd; exact if_neg h
theorem su_su {S : Sto} {a : Addr} {o u : OO} : su (su S a o) a u = su S a u := by funext b; unfold su; by_cases h : b = a <;> simp [h]
theorem sd_su {S : Sto} {a : Addr} {o : OO} : sd (su S a o) a = sd S a := by funext b; unfold su sd; by_cases h : b = a <;> simp [h]
theorem sd_none {S : Sto} {a : Addr} (h : S a = none) : sd S a = S := by
  funext b; unfold sd; split
  · rename_i e; rw [e, h]
  · rfl
theorem sd_su_new {S : Sto} {a : Addr} {o : OO} (h : S a = none) : sd (su S a o) a = S := by rw [sd_su, sd_none h]
theorem su_comm {S : Sto} {a b : Addr} {o u : OO} (h : a ≠ b) : su (su S a o) b u = su (su S b u) a o := by
  funext c; unfold su
  by_cases h1 : c = a
  · subst h1; simp [h]
  · simp [h1]
theorem su_self {S : Sto} {a : Addr} {o : OO} (h : S a = some o) : su S a o = S := by
  funext b; unfold su; split
  · rename_i e; rw [e, h]
  · rfl
theorem st_ne {S : Sto} {a b : Addr} {o : OO} (h : S a = some o) (h' : S b = none) : a ≠ b := by
  intro e; subst e; rw [h] at h'; cases h'

/-- the classes of the program: name, fields in the order of their first store -/
def cnm : Nat → Str
  | 0 => "Region" | 1 => "Picture" | 2 => "Rule" | 3 => "CountRule" | 4 => "SameRule" | 5 => "Book" | 6 => "Sketch" | 7 => "Mender" | 8 => "Site" | 9 => "History" | 10 => "Clash" | 11 => "Case" | 12 => "State" | 13 => "Inquiry" | 14 => "Chronicle"
  | 20 => "SmaltiError" | 21 => "InvalidPicture" | 22 => "InvalidRule" | 23 => "InvalidBook" | 24 => "InvalidSketch" | 25 => "InvalidHistory" | 26 => "InvalidSign" | 27 => "InvalidSigns" | 28 => "InvalidLimit"
  | 30 => "OutOfPicture" | 31 => "NoStone" | 32 => "NoHole" | 33 => "EmptyCell" | 34 => "Opposed" | 35 => "NotOld" | 36 => "NotNew" | 37 => "SurelyOld" | 38 => "SurelyNew" | 39 => "SurelyAfter"
  | 40 => "NoRule" | 41 => "NoPhotograph" | 42 => "WrongStone" | 43 => "RuleClash" | 44 => "BadDeed" | 45 => "Impossible" | 46 => "TooManyCases" | 47 => "UnknownOption" | 48 => "UnequalSize" | 49 => "NothingToUndo" | 50 => "StillPossible"
  | _ => "?"
def cfs : Nat → List Str
  | 0 => ["found", "row"] | 1 => ["grid", "width", "height"] | 2 => ["stone", "parts"] | 3 => ["stone", "parts", "need"] | 4 => ["stone", "parts", "need"] | 5 => ["rules"] | 6 => ["width", "height", "table"] | 7 => ["known", "laid", "refused"] | 8 => ["book", "now", "past"]
  | 9 => ["first", "deeds"] | 10 => ["region", "refusals"] | 11 => ["book", "view", "solid", "held", "needed"] | 12 => ["view", "never", "certain", "needed", "loosened", "lacking"] | 13 => ["book", "sketch", "most", "past", "state"] | 14 => ["book", "sketch", "shots"]
  | 21 => ["line"] | 22 => ["part"] | 23 => ["line"] | 24 => ["line"] | 25 => ["line"] | 26 => ["sign"] | 27 => ["signs"] | 28 => ["value"]
  | 30 => ["x", "y"] | 31 => ["x", "y"] | 32 => ["x", "y"] | 33 => ["x", "y"] | 34 => ["x", "y"] | 35 => ["x", "y"] | 36 => ["x", "y"] | 37 => ["x", "y"] | 38 => ["x", "y"] | 39 => ["x", "y"]
  | 40 => ["number"] | 41 => ["number"] | 42 => ["stone"] | 43 => ["places"] | 44 => ["index"] | 45 => ["lacking"] | 46 => ["cases"] | 47 => ["name"]
  | _ => []
def cad (K : PySem.W.Frag) (c : Nat) : Addr := He.ga K (cnm c)

/-! ### what stands for what -/
mutual
inductive Rp (K : PySem.W.Frag) (G : Hp) : V → D → Prop
  | non : Rp K G .non .non
  | bl (b : Bool) : Rp K G (.bl b) (.bl b)
  | int (i : Int) : Rp K G (.int i) (.int i)
  | str {s : Str} (h : okS s) : Rp K G (.str s) (.str s)
  | ty (n : String) : Rp K G (.ty n) (.ty n)
  | adr (a : Addr) : Rp K G (.ref a) (.adr a)
  | tup {a : Addr} {vs : List V} {ds : List D} : G a = some (.tup vs) → Rps K G vs ds → ds.length ≤ sizeLine → Rp K G (.ref a) (.tup ds)
  | lst {a : Addr} {vs : List V} {ds : List D} : G a = some (.lst vs) → Rps K G vs ds → ds.length ≤ sizeLine → Rp K G (.ref a) (.lst ds)
  | dT {a : Addr} {ws : List (List Key × V)} {kvs : List (List Key × D)} : G a = some (.dT ws) → Rkv K G ws kvs → Rp K G (.ref a) (.dT kvs)
  | ins {a dx : Addr} {c : Nat} {vs : List V} {ds : List D} : G a = some (.ins (cad K c) dx ((cfs c).zip vs)) → Rps K G vs ds → ds.length ≤ (cfs c).length → Rp K G (.ref a) (.ins c ds)
  | cls {a : Addr} (c : Nat) : a = cad K c → Rp K G (.ref a) (.cls c)
  | exn0 {a : Addr} (c : Nat) : Rp K G (.ref a) (.exn a none c [])
  | exn {a dd : Addr} {fs : List (Str × V)} {vs : List V} {c : Nat} {ds : List D} : G dd = some (.xd fs) → Rps K G vs ds → ds.length = (cfs c).length → (∀ (j : Nat) (fl : Str) (v : V), (cfs c)[j]? = some fl → vs[j]? = some v → fs.lookup fl = some v) → Rp K G (.ref a) (.exn a (some dd) c ds)
inductive Rps (K : PySem.W.Frag) (G : Hp) : List V → List D → Prop
  | nil : Rps K G [] []
  | cons {v : V} {d : D} {vs : List V} {ds : List D} : Rp K G v d → Rps K G vs ds → Rps K G (v :: vs) (d :: ds)
inductive Rkv (K : PySem.W.Frag) (G : Hp) : List (List Key × V) → List (List Key × D) → Prop
  | nil : Rkv K G [] []
  | cons {k : List Key} {v : V} {d : D} {ws : List (List Key × V)} {kvs : List (List Key × D)} : Rp K G v d → Rkv K G ws kvs → Rkv K G ((k, v) :: ws) ((k, d) :: kvs)
end
variable {K : PySem.W.Frag} {G G' G2 H H' H2 : Hp} {S S' S2 : Sto}
theorem Same.seqT {H H' : Hp} {a : Addr} {xs : List V} (e : Same H H') (h : SqT K H a xs) : SqT K H' a xs := by
  rcases h with (h | ⟨o, h⟩) | h
  · exact .inl (.inl (e _ _ h))
  · exact .inl (.inr ⟨o, e _ _ h⟩)
  · exact .inr h
mutual
theorem Rp.mono (s : Same G G') : ∀ {v : V} {d : D}, Rp K G v d → Rp K G' v d
  | _, _, .non => .non
  | _, _, .bl b => .bl b
  | _, _, .int i => .int i
  | _, _, .str h => .str h
  | _, _, .ty n => .ty n
  | _, _, .adr a => .adr a
  | _, _, .tup h r l => .tup (s _ _ h) (Rps.mono s r) l
  | _, _, .lst h r l => .lst (s _ _ h) (Rps.mono s r) l
  | _, _, .dT h r => .dT (s _ _ h) (Rkv.mono s r)
  | _, _, .ins h r l => .ins (s _ _ h) (Rps.mono s r) l
  | _, _, .cls c h => .cls c h
  | _, _, .exn0 c => .exn0 c
  | _, _, .exn h r l q => .exn (s _ _ h) (Rps.mono s r) l q
theorem Rps.mono (s : Same G G') : ∀ {vs : List V} {ds : List D}, Rps K G vs ds → Rps K G' vs ds
  | _, _, .nil => .nil
  | _, _, .cons h r => .cons (Rp.mono s h) (Rps.mono s r)
theorem Rkv.mono (s : Same G G') : ∀ {vs : List (List Key × V)} {ds : List (List Key × D)}, Rkv K G vs ds → Rkv K G' vs ds
  | _, _, .nil => .nil
  | _, _, .cons h r => .cons (Rp.mono s h) (Rkv.mono s r)
end
theorem Rps.length : ∀ {vs : List V} {ds : List D}, Rps K G vs ds → vs.length = ds.length
  | _, _, .nil => rfl
  | _, _, .cons _ r => congrArg Nat.succ (Rps.length r)
theorem Rps.get : ∀ {vs : List V} {ds : List D} {i : Nat} {d : D}, Rps K G vs ds → ds[i]? = some d → ∃ v, vs[i]? = some v ∧ Rp K G v d
  | _, _, _, _, .nil, e => by simp at e
  | _, _, 0, _, .cons h _, e => by simp at e; subst e; exact ⟨_, rfl, h⟩
  | _, _, i + 1, d, .cons _ r, e => by
    obtain ⟨v, h1, h2⟩ := Rps.get (i := i) r (by simpa using e)
    exact ⟨v, by simpa using h1, h2⟩
theorem Rps.getV : ∀ {vs : List V} {ds : List D} {i : Nat} {v : V}, Rps K G vs ds → vs[i]? = some v → ∃ d, ds[i]? = some d ∧ Rp K G v d
  | _, _, _, _, .nil, e => by simp at e
  | _, _, 0, _, .cons h _, e => by simp at e; subst e; exact ⟨_, rfl, h⟩
  | _, _, i + 1, d, .cons _ r, e => by
    obtain ⟨v, h1, h2⟩ := Rps.getV (i := i) r (by simpa using e)
    exact ⟨v, by simpa using h1, h2⟩
theorem Rps.append : ∀ {vs ws : List V} {ds es : List D}, Rps K G vs ds → Rps K G ws es → Rps K G (vs ++ ws) (ds ++ es)
  | _, _, _, _, .nil, s => s
  | _, _, _, _, .cons r t, s => .cons r (Rps.append t s)
theorem Rps.set {v : V} {d : D} (r : Rp K G v d) : ∀ {vs : List V} {ds : List D} (i : Nat), Rps K G vs ds → Rps K G (vs.set i v) (ds.set i d)
  | _, _, _, .nil => .nil
  | _, _, 0, .cons _ t => .cons r t
  | _, _, i + 1, .cons q t => .cons q (Rps.set r i t)
theorem Rps.take : ∀ {vs : List V} {ds : List D} (n : Nat), Rps K G vs ds → Rps K G (vs.take n) (ds.take n)
  | _, _, 0, _ => .nil
  | _, _, _ + 1, .nil => .nil
  | _, _, n + 1, .cons r t => .cons r (Rps.take n t)
theorem Rps.drop : ∀ {vs : List V} {ds : List D} (n : Nat), Rps K G vs ds → Rps K G (vs.drop n) (ds.drop n)
  | _, _, 0, r => r
  | _, _, _ + 1, .nil => .nil
  | _, _, n + 1, .cons _ t => Rps.drop n t
theorem Rps.reverse {vs : List V} {ds : List D} (r : Rps K G vs ds) : Rps K G vs.reverse ds.reverse := by
  induction r using Rps.rec (motive_1 := fun _ _ _ => True) (motive_3 := fun _ _ _ => True) with
  | nil => exact .nil
  | cons h _ _ ih => simp only [List.reverse_cons]; exact ih.append (.cons h .nil)
  | _ => trivial

/-! ### the abstract heap H, its frozen part G, the store S -/
def isD : HO → Bool
  | .dT _ => true
  | .dK _ => true
  | _ => false
def Le (G H : Hp) : Prop := ∀ a u, G a = some u → H a = some u ∨ (isD u = true ∧ ∃ o, H a = some (.frz o u))
def RO (K : PySem.W.Frag) (G : Hp) (h : Option HO) : OO → Prop
  | .lst ds => ∃ vs, h = some (.lst vs) ∧ Rps K G vs ds ∧ ds.length ≤ sizeLine
  | .dT kvs => ∃ ws, h = some (.dT ws) ∧ Rkv K G ws kvs
  | .ins c ds => ∃ dx vs, h = some (.ins (cad K c) dx ((cfs c).zip vs)) ∧ Rps K G vs ds ∧ ds.length ≤ (cfs c).length
theorem RO.mono (s : Same G G') {h : Option HO} : ∀ {o : OO}, RO K G h o → RO K G' h o
  | .lst _, ⟨vs, e, r, l⟩ => ⟨vs, e, r.mono s, l⟩
  | .dT _, ⟨vs, e, r⟩ => ⟨vs, e, r.mono s⟩
  | .ins _ _, ⟨dx, vs, e, r, l⟩ => ⟨dx, vs, e, r.mono s, l⟩
theorem RO.some {h : Option HO} : ∀ {o : OO}, RO K G h o → ∃ u, h = Option.some u
  | .lst _, ⟨vs, e, r⟩ => ⟨_, e⟩
  | .dT _, ⟨vs, e, r⟩ => ⟨_, e⟩
  | .ins _ _, ⟨dx, vs, e, r, l⟩ => ⟨_, e⟩
theorem RO.ntup {h : Option HO} {vs : List V} : ∀ {o : OO}, RO K G h o → h ≠ Option.some (.tup vs)
  | .lst _, ⟨_, e, _⟩, z => by rw [e] at z; cases z
  | .dT _, ⟨_, e, _⟩, z => by rw [e] at z; cases z
  | .ins _ _, ⟨_, _, e, _⟩, z => by rw [e] at z; cases z
structure Rel (K : PySem.W.Frag) (G H : Hp) (S : Sto) : Prop where
  le : Le G H
  own : ∀ a o, S a = some o → G a = none ∧ RO K G (H a) o
theorem Rel.at (r : Rel K G H S) {a : Addr} {u : HO} (h : G a = some u) (n : isD u = false) : H a = some u := by
  rcases r.le a u h with q | ⟨q, _⟩
  · exact q
  · rw [n] at q; cases q
theorem Rel.rd (r : Rel K G H S) {a : Addr} {u : HO} (h : G a = some u) : Rd H a u := by
  rcases r.le a u h with q | ⟨_, o, q⟩
  · exact .inl q
  · exact .inr ⟨o, q⟩
theorem Rel.free (r : Rel K G H S) {a : Addr} (h : H a = none) : G a = none ∧ S a = none := by
  constructor
  · cases q : G a with
    | none => rfl
    | some u => rcases r.le a u q with z | ⟨_, o, z⟩ <;> (rw [h] at z; cases z)
  · cases q : S a with
    | none => rfl
    | some u =>
      obtain ⟨w, e⟩ := (r.own a u q).2.some
      rw [h] at e; cases e
theorem Rel.sq (r : Rel K G H S) {a : Addr} {vs : List V} (h : SqL K G a vs) : SqL K H a vs := by
  rcases h with (h | ⟨o, h⟩) | h
  · exact .inl (.inl (r.at h rfl))
  · exact .inl (.inr ⟨o, r.at h rfl⟩)
  · exact .inr h
theorem Rel.sqT (r : Rel K G H S) {a : Addr} {vs : List V} (h : SqT K G a vs) : SqT K H a vs := by
  rcases h with (h | ⟨o, h⟩) | h
  · exact .inl (.inl (r.at h rfl))
  · exact .inl (.inr ⟨o, r.at h rfl⟩)
  · exact .inr h

/-- a step: the frozen part grows, what is hidden from both stays -/
structure Stp (K : PySem.W.Frag) (G H : Hp) (S : Sto) (G' H' : Hp) (S' : Sto) : Prop where
  sg : Same G G'
  rel : Rel K G' H' S'
  fr : ∀ b o, H b = some o → G b = none → S b = none → H' b = some o ∧ S' b = none ∧ (G' b = none ∨ ∃ vs, o = .tup vs)
theorem Stp.refl (r : Rel K G H S) : Stp K G H S G H S := ⟨fun _ _ h => h, r, fun b o h g s => ⟨h, s, .inl g⟩⟩
theorem Stp.trans (a : Stp K G H S G' H' S') (b : Stp K G' H' S' G2 H2 S2) : Stp K G H S G2 H2 S2 where
  sg := a.sg.trans b.sg
  rel := b.rel
  fr := fun c o h g s => by
    obtain ⟨h1, s1, g1⟩ := a.fr c o h g s
    cases q : G' c with
    | none => exact b.fr c o h1 q s1
    | some u =>
      rcases g1 with g1 | ⟨vs, rfl⟩
      · rw [q] at g1; cases g1
      · have q2 := b.sg c u q
        have eu : u = .tup vs := by
          rcases a.rel.le c u q with z | ⟨_, o, z⟩
          · rw [h1] at z; exact (Option.some.inj z).symm
          · rw [h1] at z; cases z
        subst eu
        refine ⟨b.rel.at q2 rfl, ?_, .inr ⟨vs, rfl⟩⟩
        cases z : S2 c with
        | none => rfl
        | some w => rw [(b.rel.own c w z).1] at q2; cases q2
/-- a new object, frozen at once -/
theorem Stp.newF (r : Rel K G H S) {p : Addr} {o : HO} (h : H p = none) : Stp K G H S (upd G p o) (upd H p o) S where
  sg := fun b u e => by rw [upd_ne (ne_of_none e (r.free h).1)]; exact e
  rel := {
    le := fun b u e => by
      by_cases hb : b = p
      · subst hb; rw [upd_same] at e ⊢; exact .inl e
      · rw [upd_ne hb] at e ⊢; exact r.le b u e
    own := fun b u e => by
      have hb : b ≠ p := st_ne e (r.free h).2
      rw [upd_ne hb, upd_ne hb]
      refine ⟨(r.own b u e).1, (r.own b u e).2.mono fun c w q => ?_⟩
      rw [upd_ne (ne_of_none q (r.free h).1)]; exact q }
  fr := fun b u e g s => by
    have hb : b ≠ p := ne_of_none e h
    rw [upd_ne hb, upd_ne hb]; exact ⟨e, s, .inl g⟩
/-- a new object that may change -/
theorem Stp.newO (r : Rel K G H S) {p : Addr} {u : HO} {o : OO} (h : H p = none) (ro : RO K G (some u) o) : Stp K G H S G (upd H p u) (su S p o) where
  sg := fun _ _ e => e
  rel := {
    le := fun b w e => by
      have hb : b ≠ p := ne_of_none e (r.free h).1
      rw [upd_ne hb]; exact r.le b w e
    own := fun b w e => by
      by_cases hb : b = p
      · subst hb; rw [su_same] at e; cases e; rw [upd_same]; exact ⟨(r.free h).1, ro⟩
      · rw [su_ne hb] at e; rw [upd_ne hb]; exact r.own b w e }
  fr := fun b w e g s => by
    have hb : b ≠ p := ne_of_none e h
    rw [upd_ne hb, su_ne hb]; exact ⟨e, s, .inl g⟩
/-- a change of an object of the store -/
theorem Stp.mut (r : Rel K G H S) {p : Addr} {u : HO} {o o' : OO} (h : S p = some o) (ro : RO K G (some u) o') : Stp K G H S G (upd H p u) (su S p o') where
  sg := fun _ _ e => e
  rel := {
    le := fun b w e => by
      have hb : b ≠ p := fun z => by subst z; rw [(r.own _ _ h).1] at e; cases e
      rw [upd_ne hb]; exact r.le b w e
    own := fun b w e => by
      by_cases hb : b = p
      · subst hb; rw [su_same] at e; cases e; rw [upd_same]; exact ⟨(r.own _ _ h).1, ro⟩
      · rw [su_ne hb] at e; rw [upd_ne hb]; exact r.own b w e }
  fr := fun b w e g s => by
    have hb : b ≠ p := fun z => by subst z; rw [h] at s; cases s
    rw [upd_ne hb, su_ne hb]; exact ⟨e, s, .inl g⟩
/-- an object of the store is frozen -/
theorem Stp.frz (r : Rel K G H S) {p : Addr} {u : HO} {o : OO} (h : S p = some o) (hu : H p = some u) : Stp K G H S (upd G p u) H (sd S p) where
  sg := fun b w e => by
    have hb : b ≠ p := fun z => by subst z; rw [(r.own _ _ h).1] at e; cases e
    rw [upd_ne hb]; exact e
  rel := {
    le := fun b w e => by
      by_cases hb : b = p
      · subst hb; rw [upd_same] at e; cases e; exact .inl hu
      · rw [upd_ne hb] at e; exact r.le b w e
    own := fun b w e => by
      by_cases hb : b = p
      · subst hb; rw [sd_same] at e; cases e
      · rw [sd_ne hb] at e; rw [upd_ne hb]
        refine ⟨(r.own b w e).1, (r.own b w e).2.mono fun c w q => ?_⟩
        have hc : c ≠ p := fun z => by subst z; rw [(r.own _ _ h).1] at q; cases q
        rw [upd_ne hc]; exact q }
  fr := fun b w e g s => by
    have hb : b ≠ p := fun z => by subst z; rw [h] at s; cases s
    rw [upd_ne hb, sd_ne hb]; exact ⟨e, s, .inl g⟩
/-- an object of the store is forgotten -/
theorem Stp.drop (r : Rel K G H S) {p : Addr} : Stp K G H S G H (sd S p) where
  sg := fun b w e => e
  rel := {
    le := r.le
    own := fun b w e => by
      by_cases hb : b = p
      · subst hb; rw [sd_same] at e; cases e
      · rw [sd_ne hb] at e; exact r.own b w e }
  fr := fun b w e g s => by
    refine ⟨e, ?_, .inl g⟩
    by_cases hb : b = p
    · subst hb; exact sd_same
    · rw [sd_ne hb]; exact s
/-- a tuple that stands is frozen -/
theorem Stp.addT (r : Rel K G H S) {b : Addr} {vs : List V} (h : H b = some (.tup vs)) : ∃ G', Stp K G H S G' H S ∧ G' b = some (.tup vs) := by
  cases q : G b with
  | some u =>
    refine ⟨G, Stp.refl r, ?_⟩
    rcases r.le b u q with z | ⟨_, o, z⟩
    · rw [h] at z; rw [q]; exact z.symm
    · rw [h] at z; cases z
  | none =>
    have sn : S b = none := by
      cases z : S b with
      | none => rfl
      | some o => exact absurd h ((r.own b o z).2.ntup)
    refine ⟨upd G b (.tup vs), ⟨fun c u e => ?_, ⟨fun c u e => ?_, fun c u e => ?_⟩, fun c u e g s => ?_⟩, upd_same⟩
    · rw [upd_ne (ne_of_none e q)]; exact e
    · by_cases hc : c = b
      · subst hc; rw [upd_same] at e; cases e; exact .inl h
      · rw [upd_ne hc] at e; exact r.le c u e
    · have hc : c ≠ b := st_ne e sn
      rw [upd_ne hc]
      refine ⟨(r.own c u e).1, (r.own c u e).2.mono fun d w z => ?_⟩
      rw [upd_ne (ne_of_none z q)]; exact z
    · refine ⟨e, s, ?_⟩
      by_cases hc : c = b
      · subst hc; rw [h] at e; cases e; exact .inr ⟨vs, rfl⟩
      · rw [upd_ne hc]; exact .inl g

/-! ### a look through the store -/
def vw (S : Sto) : D → D
  | .adr a => match S a with
    | some (.lst ds) => .lst ds
    | some (.dT kvs) => .dT kvs
    | some (.ins c ds) => .ins c ds
    | none => .adr a
  | d => d
/-- a look through the store, and on -/
structure vwk (S : Sto) (x : D) (k : D → Prop) : Prop where
  it : k (vw S x)
theorem vwk_is {S : Sto} {x : D} {k : D → Prop} : vwk S x k = k (vw S x) := propext ⟨fun h => h.it, fun h => ⟨h⟩⟩
theorem vwk_of {S : Sto} {x d : D} {k : D → Prop} (h : vw S x = d) (q : k d) : vwk S x k := by rw [vwk_is, h]; exact q
/-- an item, and on -/
structure itk {α : Type} (xs : List α) (i : Int) (k : α → Prop) : Prop where
  it : ∃ d, atI xs i = some d ∧ k d
theorem itk_is {α : Type} {xs : List α} {i : Int} {k : α → Prop} : itk xs i k = ∃ d, atI xs i = some d ∧ k d := propext ⟨fun h => h.it, fun h => ⟨h⟩⟩
theorem itk_of {α : Type} {xs : List α} {i : Int} {d : α} {k : α → Prop} (h : atI xs i = some d) (q : k d) : itk xs i k := by rw [itk_is]; exact ⟨d, h, q⟩
/-- a branch -/
structure brn (b : Bool) (A B : Prop) : Prop where
  it : if b = true then A else B
theorem brn_t {A B : Prop} : brn true A B = A := propext ⟨fun h => by have q := h.it; rwa [if_pos rfl] at q, fun h => ⟨by rw [if_pos rfl]; exact h⟩⟩
theorem brn_f {A B : Prop} : brn false A B = B := propext ⟨fun h => by have q := h.it; rwa [if_neg Bool.false_ne_true] at q, fun h => ⟨by rw [if_neg Bool.false_ne_true]; exact h⟩⟩
theorem brn_of {b : Bool} {A B : Prop} (h1 : b = true → A) (h2 : b = false → B) : brn b A B := by
  cases b
  · rw [brn_f]; exact h2 rfl
  · rw [brn_t]; exact h1 rfl
theorem vw_lst (r : Rel K G H S) {v : V} {d : D} {ds : List D} (h : Rp K G v d) (e : vw S d = .lst ds) : ∃ a vs, v = .ref a ∧ H a = some (.lst vs) ∧ Rps K G vs ds ∧ ds.length ≤ sizeLine := by
  cases h with
  | lst h q l => cases e; exact ⟨_, _, rfl, r.at h rfl, q, l⟩
  | adr a =>
    unfold vw at e
    cases q : S a with
    | none => simp [q] at e
    | some o =>
      cases o with
      | lst es =>
        simp [q] at e; subst e
        obtain ⟨vs, e1, e2, e3⟩ := (r.own a _ q).2
        exact ⟨a, vs, rfl, e1, e2, e3⟩
      | dT _ => simp [q] at e
      | ins _ _ => simp [q] at e
  | _ => cases e
theorem vw_tup (r : Rel K G H S) {v : V} {d : D} {ds : List D} (h : Rp K G v d) (e : vw S d = .tup ds) : ∃ a vs, v = .ref a ∧ G a = some (.tup vs) ∧ H a = some (.tup vs) ∧ Rps K G vs ds ∧ ds.length ≤ sizeLine := by
  cases h with
  | tup h q l => cases e; exact ⟨_, _, rfl, h, r.at h rfl, q, l⟩
  | adr a =>
    unfold vw at e
    cases q : S a with
    | none => simp [q] at e
    | some o => cases o <;> simp [q] at e
  | _ => cases e
theorem vw_dT (r : Rel K G H S) {v : V} {d : D} {ds : List (List Key × D)} (h : Rp K G v d) (e : vw S d = .dT ds) : ∃ a vs, v = .ref a ∧ Rd H a (.dT vs) ∧ Rkv K G vs ds := by
  cases h with
  | dT h q => cases e; exact ⟨_, _, rfl, r.rd h, q⟩
  | adr a =>
    unfold vw at e
    cases q : S a with
    | none => simp [q] at e
    | some o =>
      cases o with
      | dT es =>
        simp [q] at e; subst e
        obtain ⟨vs, e1, e2⟩ := (r.own a _ q).2
        exact ⟨a, vs, rfl, .inl e1, e2⟩
      | lst _ => simp [q] at e
      | ins _ _ => simp [q] at e
  | _ => cases e
theorem vw_ins (r : Rel K G H S) {v : V} {d : D} {c : Nat} {ds : List D} (h : Rp K G v d) (e : vw S d = .ins c ds) : ∃ a dx vs, v = .ref a ∧ H a = some (.ins (cad K c) dx ((cfs c).zip vs)) ∧ Rps K G vs ds ∧ ds.length ≤ (cfs c).length := by
  cases h with
  | ins h q l => cases e; exact ⟨_, _, _, rfl, r.at h rfl, q, l⟩
  | adr a =>
    unfold vw at e
    cases q : S a with
    | none => simp [q] at e
    | some o =>
      cases o with
      | ins c' es =>
        simp [q] at e; obtain ⟨rfl, rfl⟩ := e
        obtain ⟨dx, vs, e1, e2, e3⟩ := (r.own a _ q).2
        exact ⟨a, dx, vs, rfl, e1, e2, e3⟩
      | lst _ => simp [q] at e
      | dT _ => simp [q] at e
  | _ => cases e
theorem vw_scal {v : V} {d : D} (h : Rp K G v d) : (∀ b, vw S d = .bl b → v = .bl b) ∧ (∀ i, vw S d = .int i → v = .int i) ∧ (∀ s, vw S d = .str s → v = .str s ∧ okS s) ∧ (vw S d = .non → v = .non) ∧ (∀ s, vw S d = .ty s → v = .ty s) := by
  cases h with
  | adr a =>
    unfold vw
    cases q : S a with
    | none => simp [q]
    | some o => cases o <;> simp [q]
  | str h => simp only [vw]; exact ⟨(fun _ e => nomatch e), (fun _ e => nomatch e), (fun s e => by cases e; exact ⟨rfl, h⟩), (fun e => nomatch e), (fun _ e => nomatch e)⟩
  | _ => simp [vw]
end SM

set_option Elab.async false
set_option linter.all false
set_option maxRecDepth 100000
set_option maxHeartbeats 2000000
namespace SM
open PySem PySem.Spec PyProof.Rows L2

/-! ### readings over data -/
abbrev DS := List (Option D)
def nth : DS → Nat → Option D
  | [], _ => none
  | x :: _, 0 => x
  | _ :: r, n + 1 => nth r n
def put : DS → Nat → D → DS
  | [], _, _ => []
  | _ :: r, 0, d => some d :: r
  | x :: r, n + 1, d => x :: put r n d
def unset : DS → Nat → DS
  | [], _ => []
  | _ :: r, 0 => none :: r
  | x :: r, n + 1 => x :: unset r n
/-- an exception: its class, its fields -/
structure Exn where
  c : Nat
  ds : List D
abbrev DQ := D → Sto → Prop
abbrev XQ := Exn → Sto → Prop
abbrev DTE := DS → Sto → DQ → XQ → Prop
abbrev DTT := DS → Sto → (Bool → Sto → Prop) → XQ → Prop
abbrev DTA := DS → Sto → (List D → Sto → Prop) → XQ → Prop
structure DEnds where
  nx : DS → Sto → Prop
  rt : DQ
  bk : DS → Sto → Prop
  ct : DS → Sto → Prop
  xc : Exn → DS → Sto → Prop
abbrev DTS := DEnds → DS → Sto → Prop
abbrev DSp := List D → Sto → DQ → XQ → Prop
abbrev DTG := D → DS → Sto → (DS → Sto → Prop) → Prop
abbrev DTGs := List D → DS → Sto → (DS → Sto → Prop) → Prop
/-- what must stay while a list of the store is walked -/
abbrev Gd := Option (Addr × List D)
def gok : Gd → Sto → Prop
  | none, _ => True
  | some (a, ds), S => S a = some (.lst ds)
abbrev DTI := DS → Sto → (Gd → List D → Sto → Prop) → XQ → Prop
abbrev R2D := D → D → Sto → DQ → Prop
abbrev RCD := List D → Sto → DQ → Prop

variable {K : PySem.W.Frag} {G G' G2 H H' H2 : Hp} {S S' S2 : Sto}
structure RpE (K : PySem.W.Frag) (G : Hp) (σ : L2.St) (δ : DS) : Prop where
  len : σ.length = δ.length
  at_ : ∀ i d, nth δ i = some d → ∃ v, σ[i]? = some (some v) ∧ Rp K G v d
theorem RpE.mono {σ : L2.St} {δ : DS} (s : Same G G') (h : RpE K G σ δ) : RpE K G' σ δ := ⟨h.len, fun i d e => let ⟨v, a, b⟩ := h.at_ i d e; ⟨v, a, b.mono s⟩⟩
theorem nth_put : ∀ (δ : DS) (i j : Nat) (d e : D), nth (put δ i d) j = some e → (j = i ∧ i < δ.length ∧ e = d) ∨ (j ≠ i ∧ nth δ j = some e)
  | [], _, _, _, _, h => by simp [put, nth] at h
  | x :: r, 0, 0, d, e, h => by simp [put, nth] at h; exact .inl ⟨rfl, by simp, h.symm⟩
  | x :: r, 0, j + 1, d, e, h => by simp [put, nth] at h; exact .inr ⟨by simp, by simpa [nth] using h⟩
  | x :: r, i + 1, 0, d, e, h => by simp [put, nth] at h; exact .inr ⟨by simp, by simpa [nth] using h⟩
  | x :: r, i + 1, j + 1, d, e, h => by
    simp only [put, nth] at h
    rcases nth_put r i j d e h with ⟨a, b, c⟩ | ⟨a, b⟩
    · exact .inl ⟨by omega, by simp; omega, c⟩
    · exact .inr ⟨by omega, by simpa [nth] using b⟩
theorem put_len : ∀ (δ : DS) (i : Nat) (d : D), (put δ i d).length = δ.length
  | [], _, _ => rfl
  | _ :: _, 0, _ => rfl
  | _ :: r, i + 1, d => congrArg Nat.succ (put_len r i d)
theorem nth_unset : ∀ (δ : DS) (i j : Nat) (e : D), nth (unset δ i) j = some e → j ≠ i ∧ nth δ j = some e
  | [], _, _, _, h => by simp [unset, nth] at h
  | x :: r, 0, 0, e, h => by simp [unset, nth] at h
  | x :: r, 0, j + 1, e, h => by simp [unset, nth] at h; exact ⟨by simp, by simpa [nth] using h⟩
  | x :: r, i + 1, 0, e, h => by simp [unset, nth] at h; exact ⟨by simp, by simpa [nth] using h⟩
  | x :: r, i + 1, j + 1, e, h => by
    simp only [unset, nth] at h
    obtain ⟨a, b⟩ := nth_unset r i j e h
    exact ⟨by omega, by simpa [nth] using b⟩
theorem unset_len : ∀ (δ : DS) (i : Nat), (unset δ i).length = δ.length
  | [], _ => rfl
  | _ :: _, 0 => rfl
  | _ :: r, i + 1 => congrArg Nat.succ (unset_len r i)
theorem RpE.put {σ : L2.St} {δ : DS} {v : V} {d : D} (i : Nat) (h : RpE K G σ δ) (r : Rp K G v d) : RpE K G (σ.set i (some v)) (put δ i d) := by
  refine ⟨by rw [List.length_set, put_len, h.len], fun j e he => ?_⟩
  rcases nth_put δ i j d e he with ⟨rfl, hl, rfl⟩ | ⟨hne, q⟩
  · exact ⟨v, by rw [List.getElem?_set_self (by rw [h.len]; exact hl)], r⟩
  · obtain ⟨u, a, b⟩ := h.at_ j e q
    exact ⟨u, by rw [List.getElem?_set_ne (Ne.symm hne)]; exact a, b⟩
theorem RpE.unset {σ : L2.St} {δ : DS} (i : Nat) (h : RpE K G σ δ) : RpE K G (σ.set i none) (unset δ i) := by
  refine ⟨by rw [List.length_set, unset_len, h.len], fun j e he => ?_⟩
  obtain ⟨hne, q⟩ := nth_unset δ i j e he
  obtain ⟨u, a, b⟩ := h.at_ j e q
  exact ⟨u, by rw [List.getElem?_set_ne (Ne.symm hne)]; exact a, b⟩
/-- an exception as it lies -/
def Rx (K : PySem.W.Frag) (G : Hp) (cls : Value) (d : Option Addr) (x : Exn) : Prop :=
  cls = .ref (cad K x.c) ∧ ((x.ds = [] ∧ d = none) ∨ ∃ dd fs vs, d = some dd ∧ G dd = some (.xd fs) ∧ Rps K G vs x.ds ∧ x.ds.length = (cfs x.c).length ∧ ∀ (j : Nat) (fl : Str) (v : V), (cfs x.c)[j]? = some fl → vs[j]? = some v → fs.lookup fl = some v)
theorem Rx.mono {cls : Value} {d : Option Addr} {x : Exn} (s : Same G G') (h : Rx K G cls d x) : Rx K G' cls d x := by
  obtain ⟨e, h⟩ := h
  refine ⟨e, ?_⟩
  rcases h with h | ⟨dd, fs, vs, a, b, c, l⟩
  · exact .inl h
  · exact .inr ⟨dd, fs, vs, a, s _ _ b, c.mono s, l⟩

theorem takes0N {X : Cx} : L2N.Takes X (fun _ _ _ _ => False) := fun u s' ⟨_, _, _, _, _, _, _, _, _, _, _, _, _, _, _, _, w⟩ => w.elim
/-! ### lifting -/
def KX (K : PySem.W.Frag) (W : WX) (σ : L2.St) (G H : Hp) (S : Sto) (XD : XQ) : Prop := ∀ G' H' S' cls d x, Stp K G H S G' H' S' → Rx K G' cls d x → XD x S' → W cls d σ H'
def liftE (K : PySem.W.Frag) (W : WX) (td : DTE) : TE := fun σ H Q => ∃ G δ S QD XD, RpE K G σ δ ∧ Rel K G H S ∧ td δ S QD XD ∧ (∀ G' H' S' v d, Stp K G H S G' H' S' → Rp K G' v d → QD d S' → Q v H') ∧ KX K W σ G H S XD
def liftT (K : PySem.W.Frag) (W : WX) (td : DTT) : TT := fun σ H Q => ∃ G δ S QD XD, RpE K G σ δ ∧ Rel K G H S ∧ td δ S QD XD ∧ (∀ G' H' S' b, Stp K G H S G' H' S' → QD b S' → Q b H') ∧ KX K W σ G H S XD
def liftA (K : PySem.W.Frag) (W : WX) (td : DTA) : TA := fun σ H Q => ∃ G δ S QD XD, RpE K G σ δ ∧ Rel K G H S ∧ td δ S QD XD ∧ (∀ G' H' S' vs ds, Stp K G H S G' H' S' → Rps K G' vs ds → QD ds S' → Q vs H') ∧ KX K W σ G H S XD
structure ER (K : PySem.W.Frag) (W : WX) (G H : Hp) (S : Sto) (E : DEnds) (D : Ends) : Prop where
  nx : ∀ G' H' S' σ' δ', Stp K G H S G' H' S' → RpE K G' σ' δ' → E.nx δ' S' → D.nx σ' H'
  rt : ∀ G' H' S' v d, Stp K G H S G' H' S' → Rp K G' v d → E.rt d S' → D.rt v H'
  bk : ∀ G' H' S' σ' δ', Stp K G H S G' H' S' → RpE K G' σ' δ' → E.bk δ' S' → D.bk σ' H'
  ct : ∀ G' H' S' σ' δ', Stp K G H S G' H' S' → RpE K G' σ' δ' → E.ct δ' S' → D.ct σ' H'
  xc : ∀ G' H' S' σ' δ' cls d x, Stp K G H S G' H' S' → RpE K G' σ' δ' → Rx K G' cls d x → E.xc x δ' S' → W cls d σ' H'
def liftS (K : PySem.W.Frag) (W : WX) (ts : DTS) : TS := fun D σ H => ∃ G δ S E, RpE K G σ δ ∧ Rel K G H S ∧ ts E δ S ∧ ER K W G H S E D
def liftG (K : PySem.W.Frag) (g : DTG) : TG := fun v σ H Q => ∃ G δ S d QD, RpE K G σ δ ∧ Rel K G H S ∧ Rp K G v d ∧ g d δ S QD ∧ ∀ G' H' S' σ' δ', Stp K G H S G' H' S' → RpE K G' σ' δ' → QD δ' S' → Q σ' H'
def liftGs (K : PySem.W.Frag) (g : DTGs) : TGs := fun vs σ H Q => ∃ G δ S ds QD, RpE K G σ δ ∧ Rel K G H S ∧ Rps K G vs ds ∧ g ds δ S QD ∧ ∀ G' H' S' σ' δ', Stp K G H S G' H' S' → RpE K G' σ' δ' → QD δ' S' → Q σ' H'
def lift2 (K : PySem.W.Frag) (r : R2D) : R2 := fun x y H Q => ∃ G S dx dy QD, Rel K G H S ∧ Rp K G x dx ∧ Rp K G y dy ∧ r dx dy S QD ∧ ∀ G' H' S' v d, Stp K G H S G' H' S' → Rp K G' v d → QD d S' → Q v H'
def liftC (K : PySem.W.Frag) (r : RCD) : List V → Hp → VK → Prop := fun vs H Q => ∃ G S ds QD, Rel K G H S ∧ Rps K G vs ds ∧ r ds S QD ∧ ∀ G' H' S' v d, Stp K G H S G' H' S' → Rp K G' v d → QD d S' → Q v H'
def liftM (K : PySem.W.Frag) (r : RCD) : V → List V → Hp → VK → Prop := fun x vs H Q => liftC K r (x :: vs) H Q
/-- what an iterator walks: the items xs -/
def ItD (K : PySem.W.Frag) (G : Hp) (gd : Gd) (J : It) (xs : List D) : Prop := ∀ G1 H1 S1, Same G G1 → Rel K G1 H1 S1 → gok gd S1 → ∀ i, (i < xs.length → J.go i H1 ∧ ∀ x H2, J.yld i H1 x H2 → ∃ G2, Stp K G1 H1 S1 G2 H2 S1 ∧ ∀ d, xs[i]? = some d → Rp K G2 x d) ∧ (xs.length ≤ i → J.stop i H1)
def liftI (K : PySem.W.Frag) (W : WX) (ti : DTI) : TI := fun σ H R => ∃ G δ S QD XD, RpE K G σ δ ∧ Rel K G H S ∧ ti δ S QD XD ∧ (∀ G' H' S' J gd xs, Stp K G H S G' H' S' → ItD K G' gd J xs → xs.length ≤ sizeLine → QD gd xs S' → R J H') ∧ KX K W σ G H S XD
theorem ItD.mono {J : It} {gd : Gd} {xs : List D} (s : Same G G') (h : ItD K G gd J xs) : ItD K G' gd J xs := fun G1 H1 S1 a r => h G1 H1 S1 (s.trans a) r

/-! ### the judgements -/
structure PD (X : Cx) (e : Expr) (td : DTE) : Prop where
  run : ∀ W, L2N.Takes X W → PE X e (liftE X.K W td)
structure PDT (X : Cx) (e : Expr) (td : DTT) : Prop where
  run : ∀ W, L2N.Takes X W → PT X e (liftT X.K W td)
structure PDW (X : Cx) (e : Expr) (td : DTT) : Prop where
  run : ∀ W, L2N.Takes X W → PW X e (liftT X.K W td)
structure PDA (X : Cx) (es : List Expr) (td : DTA) : Prop where
  run : ∀ W, L2N.Takes X W → PA X es (liftA X.K W td)
structure PDS (X : Cx) (st : Stmt) (ts : DTS) : Prop where
  run : ∀ W, L2N.Takes X W → PassesOwn (model X.prog X.w) X.A X.env X.xe → PS X st (liftS X.K W ts)
structure PDSs (X : Cx) (st : List Stmt) (ts : DTS) : Prop where
  run : ∀ W, L2N.Takes X W → PassesOwn (model X.prog X.w) X.A X.env X.xe → PSs X st (liftS X.K W ts)
structure PDI (X : Cx) (tg iter : Expr) (ti : DTI) : Prop where
  run : ∀ W, L2N.Takes X W → PI X tg iter (liftI X.K W ti)
structure PDG (X : Cx) (tg : Expr) (g : DTG) : Prop where
  run : PG X tg (liftG X.K g)
structure PDGs (X : Cx) (tgs : List Expr) (g : DTGs) : Prop where
  run : PGs X tgs (liftGs X.K g)
section
variable {X : Cx} {e a b c : Expr} {es : List Expr} {st : Stmt} {sts : List Stmt} {pos : Pos} {W : WX}
theorem PE.weak {t t' : TE} (h : PE X e t) (w : ∀ σ H Q, t' σ H Q → t σ H Q) : PE X e t' := ⟨fun pins s σ H Q I q => h.run pins s σ H Q I (w σ H Q q)⟩
theorem PT.weak {t t' : TT} (h : PT X e t) (w : ∀ σ H Q, t' σ H Q → t σ H Q) : PT X e t' := ⟨fun pins s σ H Q I q => h.run pins s σ H Q I (w σ H Q q)⟩
theorem PW.weak {t t' : TT} (h : PW X e t) (w : ∀ σ H Q, t' σ H Q → t σ H Q) : PW X e t' := ⟨fun wh pins s σ H Q I q => h.run wh pins s σ H Q I (w σ H Q q)⟩
theorem PA.weak {t t' : TA} (h : PA X es t) (w : ∀ σ H Q, t' σ H Q → t σ H Q) : PA X es t' := ⟨fun p pins s σ H Q I q => h.run p pins s σ H Q I (w σ H Q q)⟩
theorem PS.weak {t t' : TS} (h : PS X st t) (w : ∀ D σ H, t' D σ H → t D σ H) : PS X st t' := ⟨fun pins s σ H D I q => h.run pins s σ H D I (w D σ H q)⟩
theorem PSs.weak {t t' : TS} (h : PSs X sts t) (w : ∀ D σ H, t' D σ H → t D σ H) : PSs X sts t' := ⟨fun pins s σ H D I q => h.run pins s σ H D I (w D σ H q)⟩
theorem PI.weak {tg : Expr} {t t' : TI} (h : PI X tg e t) (w : ∀ σ H R, t' σ H R → t σ H R) : PI X tg e t' := ⟨fun pins s σ H R I q => h.run pins s σ H R I (w σ H R q)⟩
theorem PG.weak {g g' : TG} (h : PG X e g) (w : ∀ v σ H Q, g' v σ H Q → g v σ H Q) : PG X e g' := ⟨fun pins s σ H v u Q I r q => h.run pins s σ H v u Q I r (w v σ H Q q)⟩
theorem PGs.weak {g g' : TGs} (h : PGs X es g) (w : ∀ v σ H Q, g' v σ H Q → g v σ H Q) : PGs X es g' := ⟨fun pins s σ H v u Q I r q => h.run pins s σ H v u Q I r (w v σ H Q q)⟩
theorem OpR.weak {f : Value → Value → Sem Value} {r r' : R2} (h : OpR X f r) (w : ∀ x y H Q, r' x y H Q → r x y H Q) : OpR X f r' := fun pins s σ H x y v u Q I r1 r2 q => h pins s σ H x y v u Q I r1 r2 (w x y H Q q)
theorem OpR.or {f : Value → Value → Sem Value} {r r' : R2} (h : OpR X f r) (h' : OpR X f r') : OpR X f (fun x y H Q => r x y H Q ∨ r' x y H Q) := fun pins s σ H x y v u Q I r1 r2 q => q.elim (h pins s σ H x y v u Q I r1 r2) (h' pins s σ H x y v u Q I r1 r2)
theorem CallR.weak {f : Value} {r r' : List V → Hp → VK → Prop} (h : CallR X f r) (w : ∀ x H Q, r' x H Q → r x H Q) : CallR X f r' := fun pins s σ H xs us Q I r1 q => h pins s σ H xs us Q I r1 (w xs H Q q)
theorem CallR.or {f : Value} {r r' : List V → Hp → VK → Prop} (h : CallR X f r) (h' : CallR X f r') : CallR X f (fun x H Q => r x H Q ∨ r' x H Q) := fun pins s σ H xs us Q I r1 q => q.elim (h pins s σ H xs us Q I r1) (h' pins s σ H xs us Q I r1)
theorem IxR.weak {r r' : R2} (h : IxR X r) (w : ∀ x y H Q, r' x y H Q → r x y H Q) : IxR X r' := fun vl sl pins s σ H x y v u Q I r1 r2 q z => h vl sl pins s σ H x y v u Q I r1 r2 (w x y H Q q) z
theorem IxR.or {r r' : R2} (h : IxR X r) (h' : IxR X r') : IxR X (fun x y H Q => r x y H Q ∨ r' x y H Q) := fun vl sl pins s σ H x y v u Q I r1 r2 q z => q.elim (fun q => h vl sl pins s σ H x y v u Q I r1 r2 q z) (fun q => h' vl sl pins s σ H x y v u Q I r1 r2 q z)
theorem PE.or {t t' : TE} (h : PE X e t) (h' : PE X e t') : PE X e (fun σ H Q => t σ H Q ∨ t' σ H Q) := ⟨fun pins s σ H Q I q => q.elim (h.run pins s σ H Q I) (h'.run pins s σ H Q I)⟩

theorem KX.step {σ : L2.St} {XD : XQ} (k : KX K W σ G H S XD) (s : Stp K G H S G' H' S') : KX K W σ G' H' S' XD := fun G2 H2 S2 cls d x st r q => k G2 H2 S2 cls d x (s.trans st) r q
theorem ER.step {E : DEnds} {D : Ends} (k : ER K W G H S E D) (s : Stp K G H S G' H' S') : ER K W G' H' S' E D :=
  ⟨fun G2 H2 S2 σ δ st r q => k.nx G2 H2 S2 σ δ (s.trans st) r q, fun G2 H2 S2 v d st r q => k.rt G2 H2 S2 v d (s.trans st) r q, fun G2 H2 S2 σ δ st r q => k.bk G2 H2 S2 σ δ (s.trans st) r q, fun G2 H2 S2 σ δ st r q => k.ct G2 H2 S2 σ δ (s.trans st) r q, fun G2 H2 S2 σ δ cls d x st re r q => k.xc G2 H2 S2 σ δ cls d x (s.trans st) re r q⟩
theorem ER.kx {E : DEnds} {D : Ends} {σ : L2.St} {δ : DS} (k : ER K W G H S E D) (re : RpE K G σ δ) : KX K W σ G H S (fun x S' => E.xc x δ S') := fun G' H' S' cls d x st r q => k.xc G' H' S' σ δ cls d x st (re.mono st.sg) r q

/-! ### names, constants -/
def dVar (i : Nat) : DTE := fun δ S Q _ => match nth δ i with
  | some d => Q d S
  | none => False
def dC (d : D) : DTE := fun _ S Q _ => Q d S
theorem sim_var {i : Nat} : ∀ σ H Q, liftE K W (dVar i) σ H Q → tVar i σ H Q := by
  rintro σ H Q ⟨G, δ, S, QD, XD, re, rl, h, kq, kx⟩
  unfold dVar at h
  cases e : nth δ i with
  | none => rw [e] at h; exact h.elim
  | some d =>
    rw [e] at h
    obtain ⟨v, h1, h2⟩ := re.at_ i d e
    exact ⟨v, h1, kq G H S v d (Stp.refl rl) h2 h⟩
theorem dv (i : Nat) {x : Str} {pos : Pos} (hN : X.N[i]? = some x := by rfl) (hv : Vis X.env.scope x := by first | exact Or.inl rfl | exact Or.inr (Or.inl rfl) | exact Or.inr (Or.inr rfl)) (hd : (x == ("__debug__" : Str)) = false := by decide)
    (hcd : (x == ("__classdict__" : Str)) = false := by decide) : PD X (.Name x pos) (dVar i) := ⟨fun W _ => PE.weak (pe_var hN hv hd hcd) sim_var⟩
theorem sim_c {v : V} {d : D} (r : ∀ G, Rp K G v d) : ∀ σ H Q, liftE K W (dC d) σ H Q → tC v σ H Q := by
  rintro σ H Q ⟨G, δ, S, QD, XD, re, rl, h, kq, kx⟩
  exact kq G H S v d (Stp.refl rl) (r G) h
theorem de_int {i j pos} : PD X (.Constant (.int i) j pos) (dC (.int i)) := ⟨fun W _ => PE.weak pe_int (sim_c fun _ => .int i)⟩
theorem de_bl {i j pos} : PD X (.Constant (.bool i) j pos) (dC (.bl i)) := ⟨fun W _ => PE.weak pe_bl (sim_c fun _ => .bl i)⟩
theorem de_non {j pos} : PD X (.Constant .none j pos) (dC .non) := ⟨fun W _ => PE.weak pe_non (sim_c fun _ => .non)⟩
theorem de_str {x : Str} {j pos} (h : okS x := by decide +kernel) : PD X (.Constant (.str x) j pos) (dC (.str x)) := ⟨fun W _ => PE.weak pe_str (sim_c fun _ => .str h)⟩
/-- a module's constant -/
theorem de_glob {x : Str} {v : V} {d : D} {u : Value} {pos : Pos} (hg : Gl X x) (hm : X.mg x = some u) (r : RelV v u) (rd : ∀ G, Rp X.K G v d) (hd : (x == ("__debug__" : Str)) = false := by decide) : PD X (.Name x pos) (dC d) := ⟨fun W _ => PE.weak (pe_glob hg hm r hd) (sim_c rd)⟩
theorem de_bltn {x : Str} {v : V} {d : D} {u : Value} {pos : Pos} (hg : Gl X x) (hm : X.mg x = none) (hv : bootBuiltins x = some u) (r : RelV v u) (rd : ∀ G, Rp X.K G v d) (hn : x ≠ "__name__" := by decide) (hd : (x == ("__debug__" : Str)) = false := by decide) : PD X (.Name x pos) (dC d) := ⟨fun W _ => PE.weak (pe_bltn hg hm hv r hn hd) (sim_c rd)⟩

/-! ### operators -/
def dOp (r : R2D) (ta tb : DTE) : DTE := fun δ S Q X => ta δ S (fun x S1 => tb δ S1 (fun y S2 => r x y S2 Q) X) X
theorem sim_op {r : R2D} {ta tb : DTE} : ∀ σ H Q, liftE K W (dOp r ta tb) σ H Q → tOp (lift2 K r) (liftE K W ta) (liftE K W tb) σ H Q := by
  rintro σ H Q ⟨G, δ, S, QD, XD, re, rl, h, kq, kx⟩
  exact ⟨G, δ, S, _, XD, re, rl, h, fun G1 H1 S1 x dx s1 rx q => ⟨G1, δ, S1, _, XD, re.mono s1.sg, s1.rel, q, fun G2 H2 S2 y dy s2 ry q2 =>
    ⟨G2, S2, dx, dy, QD, s2.rel, rx.mono s2.sg, ry, q2, fun G3 H3 S3 v d s3 rv q3 => kq G3 H3 S3 v d ((s1.trans s2).trans s3) rv q3⟩, kx.step s1⟩, kx⟩
theorem de_op {op : Operator} {r : R2D} {ta tb : DTE} (ho : OpR X (binaryOp op) (lift2 X.K r)) (ha : PD X a ta) (hb : PD X b tb) : PD X (.BinOp a op b pos) (dOp r ta tb) := ⟨fun W tk => PE.weak (pe_op ho (ha.run W tk) (hb.run W tk)) sim_op⟩
theorem de_cmp {op : CmpOp} {r : R2D} {ta tb : DTE} (ho : OpR X (compareOp op) (lift2 X.K r)) (ha : PD X a ta) (hb : PD X b tb) (hm : behindInMarks op b = false := by rfl) : PD X (.Compare a [op] [b] pos) (dOp r ta tb) := ⟨fun W tk => PE.weak (pe_cmpR ho (ha.run W tk) (hb.run W tk) hm) sim_op⟩
def dUn (r : D → Sto → DQ → Prop) (ta : DTE) : DTE := fun δ S Q X => ta δ S (fun x S1 => r x S1 Q) X
theorem de_neg {ta : DTE} (ha : PD X a ta) : PD X (.UnaryOp .USub a pos) (dUn (fun x S Q => match x with | .int i => Q (.int (-i)) S | _ => False) ta) := ⟨fun W tk => PE.weak (pe_un un_neg (ha.run W tk)) (by
  rintro σ H Q ⟨G, δ, S, QD, XD, re, rl, h, kq, kx⟩
  refine ⟨G, δ, S, _, XD, re, rl, h, fun G1 H1 S1 x dx s1 rx q => ?_, kx⟩
  cases rx with
  | int i => exact ⟨i, rfl, kq _ _ _ _ _ s1 (.int _) q⟩
  | _ => exact q.elim)⟩
/-- values by shape -/
def two (f : D → D → Sto → DQ → Prop) : R2D := fun x y S Q => f (vw S x) (vw S y) S Q

/-! ### ints -/
def oInt (C : Int → Int → Prop) (g : Int → Int → D) : R2D := fun x y S Q => match x, y with
  | .int i, .int j => C i j ∧ Q (g i j) S
  | _, _ => False
def oInt0 (g : Int → Int → D) : R2D := fun x y S Q => match x, y with
  | .int i, .int j => Q (g i j) S
  | _, _ => False
theorem sim_int {C : Int → Int → Prop} {g : Int → Int → V} {gd : Int → Int → D} (hg : ∀ G i j, Rp K G (g i j) (gd i j)) : ∀ x y H Q, lift2 K (oInt C gd) x y H Q → rI C g x y H Q := by
  rintro x y H Q ⟨G, S, dx, dy, QD, rl, rx, ry, h, kq⟩
  cases rx with
  | int i => cases ry with
    | int j => exact ⟨i, j, rfl, rfl, h.1, kq G H S _ _ (Stp.refl rl) (hg G i j) h.2⟩
    | _ => exact h.elim
  | _ => exact h.elim
theorem sim_int0 {g : Int → Int → V} {gd : Int → Int → D} (hg : ∀ G i j, Rp K G (g i j) (gd i j)) : ∀ x y H Q, lift2 K (oInt0 gd) x y H Q → rI0 g x y H Q := by
  rintro x y H Q ⟨G, S, dx, dy, QD, rl, rx, ry, h, kq⟩
  cases rx with
  | int i => cases ry with
    | int j => exact ⟨i, j, rfl, rfl, kq G H S _ _ (Stp.refl rl) (hg G i j) h⟩
    | _ => exact h.elim
  | _ => exact h.elim
theorem o_sub : OpR X (binaryOp .Sub) (lift2 X.K (oInt0 fun i j => .int (i - j))) := OpR.weak op_sub (sim_int0 fun _ _ _ => .int _)
theorem o_fdiv : OpR X (binaryOp .FloorDiv) (lift2 X.K (oInt (fun _ j => 0 < j ∧ j < 1073741824) fun i j => .int (i / j))) := OpR.weak op_fdiv (sim_int fun _ _ _ => .int _)
theorem o_mod : OpR X (binaryOp .Mod) (lift2 X.K (oInt (fun _ j => 0 < j) fun i j => .int (i % j))) := OpR.weak op_mod (sim_int fun _ _ _ => .int _)
theorem o_pow : OpR X (binaryOp .Pow) (lift2 X.K (oInt (fun i j => 0 ≤ j ∧ j ≤ 1000000 ∧ i.natAbs < 2 ^ 64) fun i j => .int (i ^ j.toNat))) := OpR.weak op_pow (sim_int fun _ _ _ => .int _)
theorem o_lt : OpR X (compareOp .Lt) (lift2 X.K (oInt0 fun i j => .bl (decide (i < j)))) := OpR.weak op_lt (sim_int0 fun _ _ _ => .bl _)
theorem o_le : OpR X (compareOp .LtE) (lift2 X.K (oInt0 fun i j => .bl (decide (i ≤ j)))) := OpR.weak op_le (sim_int0 fun _ _ _ => .bl _)
theorem o_gt : OpR X (compareOp .Gt) (lift2 X.K (oInt0 fun i j => .bl (decide (j < i)))) := OpR.weak op_gt (sim_int0 fun _ _ _ => .bl _)
theorem o_ge : OpR X (compareOp .GtE) (lift2 X.K (oInt0 fun i j => .bl (decide (j ≤ i)))) := OpR.weak op_ge (sim_int0 fun _ _ _ => .bl _)
end
end SM

set_option Elab.async false
set_option linter.all false
set_option maxRecDepth 100000
set_option maxHeartbeats 2000000
namespace SM
open PySem PySem.Spec PyProof.Rows L2
variable {K : PySem.W.Frag} {G G' G2 H H' H2 : Hp} {S S' S2 : Sto}

/-! ### equality of plain data -/
mutual
def toP : D → PyData
  | .bl b => .bool b
  | .int i => .int i
  | .str s => .str s
  | .tup ds => .tuple (toPs ds)
  | .lst ds => .list (toPs ds)
  | _ => .none
def toPs : List D → List PyData
  | [] => []
  | d :: r => toP d :: toPs r
end
mutual
def pln : Nat → D → Bool
  | _, .non => true
  | _, .bl _ => true
  | _, .int _ => true
  | _, .str _ => true
  | n + 1, .tup ds => plns n ds
  | n + 1, .lst ds => plns n ds
  | _, _ => false
def plns : Nat → List D → Bool
  | _, [] => true
  | n, d :: r => pln n d && plns n r
end
theorem toPs_map (ds : List D) : toPs ds = ds.map toP := by
  induction ds with
  | nil => rfl
  | cons d r ih => rw [toPs, ih]; rfl
theorem plns_all (n : Nat) (ds : List D) : plns n ds = ds.all (pln n) := by
  induction ds with
  | nil => rfl
  | cons d r ih => rw [plns, ih]; rfl
mutual
theorem dp_of (r : Rel K G H S) : ∀ (n : Nat) (d : D) (v : V), Rp K G v d → pln n d = true → Dp K H v (toP d) ∧ PyData.canLay0 (toP d) = true ∧ (toP d).depth ≤ n
  | n, _, _, .non, _ => ⟨.non, rfl, by simp [toP, PyData.depth]⟩
  | n, _, _, .bl b, _ => ⟨.bl b, rfl, by simp [toP, PyData.depth]⟩
  | n, _, _, .int i, _ => ⟨.int i, rfl, by simp [toP, PyData.depth]⟩
  | n, _, _, .str h, _ => ⟨.str _, by simp [toP, PyData.canLay0, h.2], by simp [toP, PyData.depth]⟩
  | 0, _, _, .tup h q l, e => by simp [pln] at e
  | 0, _, _, .lst h q l, e => by simp [pln] at e
  | n + 1, _, _, .tup h q l, e => by
    obtain ⟨a, b, c⟩ := dps_of r n _ _ q (by simpa [pln] using e)
    exact ⟨.tup (SqT.of (r.at h rfl)) a, by simpa [toP, PyData.canLay0] using b, by simp only [toP, PyData.depth]; omega⟩
  | n + 1, _, _, .lst h q l, e => by
    obtain ⟨a, b, c⟩ := dps_of r n _ _ q (by simpa [pln] using e)
    exact ⟨.lst (SqL.of (r.at h rfl)) a, by simpa [toP, PyData.canLay0] using b, by simp only [toP, PyData.depth]; omega⟩
  | n, _, _, .ty _, e => by cases n <;> simp [pln] at e
  | n, _, _, .adr _, e => by cases n <;> simp [pln] at e
  | n, _, _, .dT _ _, e => by cases n <;> simp [pln] at e
  | n, _, _, .ins _ _ _, e => by cases n <;> simp [pln] at e
  | n, _, _, .cls _ _, e => by cases n <;> simp [pln] at e
  | n, _, _, .exn0 _, e => by cases n <;> simp [pln] at e
  | n, _, _, .exn _ _ _ _, e => by cases n <;> simp [pln] at e
theorem dps_of (r : Rel K G H S) : ∀ (n : Nat) (ds : List D) (vs : List V), Rps K G vs ds → plns n ds = true → DpAll K H vs (toPs ds) ∧ PyData.canLayAll0 (toPs ds) = true ∧ PyData.depthAll (toPs ds) ≤ n
  | n, _, _, .nil, _ => ⟨.nil, rfl, by simp [toPs, PyData.depthAll]⟩
  | n, _, _, .cons h q, e => by
    simp only [plns, Bool.and_eq_true] at e
    obtain ⟨a, b, c⟩ := dp_of r n _ _ h e.1
    obtain ⟨a', b', c'⟩ := dps_of r n _ _ q e.2
    exact ⟨.cons a a', by simp [toPs, PyData.canLayAll0, b, b'], by simp only [toPs, PyData.depthAll]; omega⟩
end
/-- at the top an object of the store, too -/
theorem dp_vw (r : Rel K G H S) {n : Nat} {d : D} {v : V} (h : Rp K G v d) (e : pln (n + 1) (vw S d) = true) : Dp K H v (toP (vw S d)) ∧ PyData.canLay0 (toP (vw S d)) = true ∧ (toP (vw S d)).depth ≤ n + 1 := by
  cases q : vw S d with
  | lst ds =>
    rw [q] at e
    obtain ⟨a, vs, rfl, h1, h2, h3⟩ := vw_lst r h q
    obtain ⟨x, b, c⟩ := dps_of r n _ _ h2 (by simpa [pln] using e)
    exact ⟨.lst (SqL.of h1) x, by simpa [toP, PyData.canLay0] using b, by simp only [toP, PyData.depth]; omega⟩
  | tup ds =>
    rw [q] at e
    obtain ⟨a, vs, rfl, h0, h1, h2, h3⟩ := vw_tup r h q
    obtain ⟨x, b, c⟩ := dps_of r n _ _ h2 (by simpa [pln] using e)
    exact ⟨.tup (SqT.of h1) x, by simpa [toP, PyData.canLay0] using b, by simp only [toP, PyData.depth]; omega⟩
  | non => obtain ⟨_, _, _, z, _⟩ := vw_scal (S := S) h; rw [z q]; exact ⟨.non, rfl, by simp [toP, PyData.depth]⟩
  | bl b => obtain ⟨z, _, _, _, _⟩ := vw_scal (S := S) h; rw [z _ q]; exact ⟨.bl _, rfl, by simp [toP, PyData.depth]⟩
  | int b => obtain ⟨_, z, _, _, _⟩ := vw_scal (S := S) h; rw [z _ q]; exact ⟨.int _, rfl, by simp [toP, PyData.depth]⟩
  | str b => obtain ⟨_, _, z, _, _⟩ := vw_scal (S := S) h; obtain ⟨z1, z2⟩ := z _ q; rw [z1]; exact ⟨.str _, by simp [toP, PyData.canLay0, z2.2], by simp [toP, PyData.depth]⟩
  | _ => rw [q] at e; simp [pln] at e
def eqB : D → D → Bool
  | .int i, .int j => decide (i = j)
  | .str i, .str j => decide (i = j)
  | .bl i, .bl j => decide (i = j)
  | .non, .non => true
  | x, y => PyData.eqv (toP x) (toP y)
theorem eqB_eq (x y : D) (hx : pln 9 x = true) (hy : pln 9 y = true) : eqB x y = PyData.eqv (toP x) (toP y) := by
  cases x <;> cases y <;> first | rfl | (simp only [eqB, toP, PyData.eqv]; first | rfl | (rw [Bool.eq_iff_iff]; simp))
def oEq : R2D := fun x y S Q => vwk S x fun x' => vwk S y fun y' => (pln 9 x' && pln 9 y') = true ∧ Q (.bl (eqB x' y')) S
def oNe : R2D := fun x y S Q => vwk S x fun x' => vwk S y fun y' => (pln 9 x' && pln 9 y') = true ∧ Q (.bl (!eqB x' y')) S
section
variable {X : Cx} {e a b c : Expr} {es : List Expr} {st : Stmt} {sts : List Stmt} {pos : Pos} {W : WX} {k : Nat}
theorem o_eq (hr : Room k X.A) : OpR X (compareOp .Eq) (lift2 X.K oEq) := OpR.weak (op_eqD hr.units) (by
  rintro x y H Q ⟨G, S, dx, dy, QD, rl, rx, ry, hh, kq⟩
  obtain ⟨h, q⟩ : (pln 9 (vw S dx) && pln 9 (vw S dy)) = true ∧ _ := by simpa only [oEq, oNe, vwk_is] using hh
  rw [Bool.and_eq_true] at h
  obtain ⟨a1, a2, a3⟩ := dp_vw rl rx h.1
  obtain ⟨b1, b2, b3⟩ := dp_vw rl ry h.2
  refine ⟨_, _, a1, b1, by simp [SeqAt.shaped, a2]; omega, by simp [SeqAt.shaped, b2]; omega, ?_⟩
  rw [← eqB_eq _ _ h.1 h.2]
  exact kq _ _ _ _ _ (Stp.refl rl) (.bl _) q)
theorem o_ne (hr : Room k X.A) : OpR X (compareOp .NotEq) (lift2 X.K oNe) := OpR.weak (op_neD hr.units) (by
  rintro x y H Q ⟨G, S, dx, dy, QD, rl, rx, ry, hh, kq⟩
  obtain ⟨h, q⟩ : (pln 9 (vw S dx) && pln 9 (vw S dy)) = true ∧ _ := by simpa only [oEq, oNe, vwk_is] using hh
  rw [Bool.and_eq_true] at h
  obtain ⟨a1, a2, a3⟩ := dp_vw rl rx h.1
  obtain ⟨b1, b2, b3⟩ := dp_vw rl ry h.2
  refine ⟨_, _, a1, b1, by simp [SeqAt.shaped, a2]; omega, by simp [SeqAt.shaped, b2]; omega, ?_⟩
  rw [← eqB_eq _ _ h.1 h.2]
  exact kq _ _ _ _ _ (Stp.refl rl) (.bl _) q)

/-! ### is -/
def isNon : D → Bool
  | .non => true
  | _ => false
theorem isNon_v {v : V} {d : D} (h : Rp K G v d) : decide (v = .non) = isNon d := by cases h <;> simp [isNon]
def oIs : R2D := fun x y S Q => match y with
  | .non => Q (.bl (isNon x)) S
  | .bl b => (match x with
    | .bl a => Q (.bl (decide (a = b))) S
    | _ => False)
  | _ => False
def oIsNot : R2D := fun x y S Q => match y with
  | .non => Q (.bl (!isNon x)) S
  | .bl b => (match x with
    | .bl a => Q (.bl (!decide (a = b))) S
    | _ => False)
  | _ => False
end
end SM

set_option Elab.async false
set_option linter.all false
set_option maxRecDepth 100000
set_option maxHeartbeats 2000000
namespace SM
open PySem PySem.Spec PyProof.Rows L2
variable {K : PySem.W.Frag} {G G' G2 H H' H2 : Hp} {S S' S2 : Sto}
section
variable {X : Cx} {e a b c : Expr} {es : List Expr} {st : Stmt} {sts : List Stmt} {pos : Pos} {W : WX} {k : Nat}
theorem o_is : OpR X (compareOp .Is) (lift2 X.K oIs) := OpR.weak (OpR.or op_isN op_isBl) (by
  rintro x y H Q ⟨G, S, dx, dy, QD, rl, rx, ry, h, kq⟩
  cases ry with
  | non => exact .inl ⟨rfl, by rw [isNon_v rx]; exact kq _ _ _ _ _ (Stp.refl rl) (.bl _) h⟩
  | bl b => cases rx with
    | bl a => exact .inr ⟨a, b, rfl, rfl, kq _ _ _ _ _ (Stp.refl rl) (.bl _) h⟩
    | _ => exact h.elim
  | _ => exact h.elim)
theorem o_isnot : OpR X (compareOp .IsNot) (lift2 X.K oIsNot) := OpR.weak (OpR.or op_notN op_notBl) (by
  rintro x y H Q ⟨G, S, dx, dy, QD, rl, rx, ry, h, kq⟩
  cases ry with
  | non => exact .inl ⟨rfl, by rw [isNon_v rx]; exact kq _ _ _ _ _ (Stp.refl rl) (.bl _) h⟩
  | bl b => cases rx with
    | bl a => exact .inr ⟨a, b, rfl, rfl, kq _ _ _ _ _ (Stp.refl rl) (.bl _) h⟩
    | _ => exact h.elim
  | _ => exact h.elim)

/-! ### new objects -/
theorem str_append {x y : Str} (hx : okS x) (hy : okS y) (h : x.length + y.length ≤ sizeLine) : okS (x ++ y) := by
  have e : (x ++ y) = ⟨x.cps ++ y.cps⟩ := rfl
  refine ⟨?_, ?_⟩
  · show (x.cps ++ y.cps).size ≤ sizeLine
    rw [Array.size_append]; exact h
  · rw [e]
    have h1 := hx.2
    have h2 := hy.2
    unfold PyData.strOk at h1 h2 ⊢
    simp only [Array.all_append, h1, h2, Bool.and_self]
/-- a new list is frozen at once -/
theorem fz_lst (rl : Rel K G H S) {p : Addr} {vs : List V} {ds : List D} (hp : H p = none) (r : Rps K G vs ds) (hl : ds.length ≤ sizeLine) : Stp K G H S (upd G p (.lst vs)) (upd H p (.lst vs)) S ∧ Rp K (upd G p (.lst vs)) (.ref p) (.lst ds) :=
  ⟨Stp.newF rl hp, .lst upd_same (r.mono (Stp.newF (o := .lst vs) rl hp).sg) hl⟩
theorem fz_tup (rl : Rel K G H S) {p : Addr} {vs : List V} {ds : List D} (hp : H p = none) (r : Rps K G vs ds) (hl : ds.length ≤ sizeLine) : Stp K G H S (upd G p (.tup vs)) (upd H p (.tup vs)) S ∧ Rp K (upd G p (.tup vs)) (.ref p) (.tup ds) :=
  ⟨Stp.newF rl hp, .tup upd_same (r.mono (Stp.newF (o := .tup vs) rl hp).sg) hl⟩
theorem ow_lst (rl : Rel K G H S) {p : Addr} {vs : List V} {ds : List D} (hp : H p = none) (r : Rps K G vs ds) (hl : ds.length ≤ sizeLine) : Stp K G H S G (upd H p (.lst vs)) (su S p (.lst ds)) := Stp.newO rl hp ⟨vs, rfl, r, hl⟩

/-! ### + * -/
def oAdd : R2D := fun x y S Q => vwk S x fun x' => vwk S y fun y' => match x', y' with
  | .int i, .int j => Q (.int (i + j)) S
  | .str i, .str j => i.length + j.length ≤ sizeLine ∧ Q (.str (i ++ j)) S
  | .lst i, .lst j => i.length + j.length ≤ sizeLine ∧ Q (.lst (i ++ j)) S
  | _, _ => False
theorem o_add : OpR X (binaryOp .Add) (lift2 X.K oAdd) := OpR.weak (OpR.or op_add (OpR.or op_add_str op_cat)) (by
  rintro x y H Q ⟨G, S, dx, dy, QD, rl, rx, ry, h, kq⟩
  simp only [oAdd, vwk_is] at h
  split at h
  · rename_i i j ex ey
    rw [(vw_scal rx).2.1 _ ex, (vw_scal ry).2.1 _ ey]
    exact .inl ⟨i, j, rfl, rfl, kq _ _ _ _ _ (Stp.refl rl) (.int _) h⟩
  · rename_i i j ex ey
    obtain ⟨hx, ox⟩ := (vw_scal rx).2.2.1 _ ex
    obtain ⟨hy, oy⟩ := (vw_scal ry).2.2.1 _ ey
    rw [hx, hy]
    exact .inr (.inl ⟨i, j, rfl, rfl, h.1, kq _ _ _ _ _ (Stp.refl rl) (.str (str_append ox oy h.1)) h.2⟩)
  · rename_i i j ex ey
    obtain ⟨p, vs, rfl, hp, rv, lv⟩ := vw_lst rl rx ex
    obtain ⟨q, us, rfl, hq, ru, lu⟩ := vw_lst rl ry ey
    refine .inr (.inr ⟨p, q, vs, us, rfl, rfl, hp, hq, by rw [rv.length, ru.length]; exact h.1, fun z hz => ?_⟩)
    obtain ⟨s1, r1⟩ := fz_lst rl hz (rv.append ru) (by rw [List.length_append]; exact h.1)
    exact kq _ _ _ _ _ s1 r1 h.2
  · exact h.elim)
/-- a product: one factor is small -/
def oMul : R2D := fun x y S Q => vwk S x fun x' => match x', y with
  | .int i, .int j => ((-(2 ^ 64) < i ∧ i < 2 ^ 64) ∨ (-(2 ^ 64) < j ∧ j < 2 ^ 64)) ∧ Q (.int (i * j)) S
  | .lst ds, .int j => (0 ≤ j ∧ j < 2 ^ 63 ∧ ds.length * j.toNat ≤ sizeLine) ∧ Q (.lst (List.replicate j.toNat ds).flatten) S
  | _, _ => False
theorem Rps.rep {vs : List V} {ds : List D} (r : Rps K G vs ds) : ∀ n : Nat, Rps K G (List.replicate n vs).flatten (List.replicate n ds).flatten
  | 0 => .nil
  | n + 1 => by
    rw [List.replicate_succ, List.replicate_succ, List.flatten_cons, List.flatten_cons]
    exact r.append (r.rep n)
theorem rep_len {α : Type} (l : List α) (n : Nat) : (List.replicate n l).flatten.length = l.length * n := by
  induction n with
  | zero => rfl
  | succ n ih => rw [List.replicate_succ, List.flatten_cons, List.length_append, ih, Nat.mul_succ]; omega
theorem o_mul : OpR X (binaryOp .Mult) (lift2 X.K oMul) := OpR.weak (OpR.or op_mul op_rep) (by
  rintro x y H Q ⟨G, S, dx, dy, QD, rl, rx, ry, h, kq⟩
  simp only [oMul, vwk_is] at h
  split at h
  · rename_i i j ex
    rw [(vw_scal rx).2.1 _ ex]
    cases ry
    exact .inl ⟨i, j, rfl, rfl, h.1, kq _ _ _ _ _ (Stp.refl rl) (.int _) h.2⟩
  · rename_i ds j ex
    obtain ⟨p, vs, rfl, hp, rv, lv⟩ := vw_lst rl rx ex
    cases ry
    obtain ⟨⟨h1, h2, h3⟩, h4⟩ := h
    refine .inr ⟨p, j, vs, rfl, rfl, hp, by omega, h2, by rw [rv.length]; exact h3, fun z hz => ?_⟩
    obtain ⟨s1, r1⟩ := fz_lst rl hz (rv.rep j.toNat) (by rw [rep_len]; exact h3)
    exact kq _ _ _ _ _ s1 r1 h4
  · exact h.elim)

/-! ### arguments, displays -/
def dNil : DTA := fun _ S Q _ => Q [] S
def dCons (ta : DTE) (tr : DTA) : DTA := fun δ S Q X => ta δ S (fun x S1 => tr δ S1 (fun xs S2 => Q (x :: xs) S2) X) X
theorem da_nil : PDA X [] dNil := ⟨fun W tk => PA.weak pa_nil (by
  rintro σ H Q ⟨G, δ, S, QD, XD, re, rl, h, kq, kx⟩
  exact kq _ _ _ _ _ (Stp.refl rl) .nil h)⟩
theorem da_cons {ta : DTE} {tr : DTA} (ha : PD X e ta) (hr : PDA X es tr) (hs : starEach (e :: es) X.env = (false, eval e X.env) :: starEach es X.env := by rfl) : PDA X (e :: es) (dCons ta tr) := ⟨fun W tk => PA.weak (pa_cons (ha.run W tk) (hr.run W tk) hs) (by
  rintro σ H Q ⟨G, δ, S, QD, XD, re, rl, h, kq, kx⟩
  exact ⟨G, δ, S, _, XD, re, rl, h, fun G1 H1 S1 x dx s1 rx q => ⟨G1, δ, S1, _, XD, re.mono s1.sg, s1.rel, q, fun G2 H2 S2 xs ds s2 rs q2 =>
    kq _ _ _ _ _ (s1.trans s2) (.cons (rx.mono s2.sg) rs) q2, kx.step s1⟩, kx⟩)⟩
/-- few items -/
def few (xs : List D) (P : Prop) : Prop := match Nat.ble xs.length 1000 with
  | true => P
  | false => False
theorem few_of {xs : List D} {P : Prop} (h : few xs P) : xs.length ≤ sizeLine ∧ P := by
  unfold few at h
  cases q : Nat.ble xs.length 1000 with
  | false => rw [q] at h; exact h.elim
  | true => rw [q] at h; exact ⟨Nat.le_trans (Nat.le_of_ble_eq_true q) (by decide), h⟩
def dTup (t : DTA) : DTE := fun δ S Q X => t δ S (fun xs S1 => few xs (Q (.tup xs) S1)) X
def dLst (t : DTA) : DTE := fun δ S Q X => t δ S (fun xs S1 => few xs (Q (.lst xs) S1)) X
def dLstO (t : DTA) : DTE := fun δ S Q X => t δ S (fun xs S1 => few xs (∀ p, S1 p = none → Q (.adr p) (su S1 p (.lst xs)))) X
theorem de_tup {x1} {t : DTA} (h : PDA X es t) : PD X (.Tuple es x1 pos) (dTup t) := ⟨fun W tk => PE.weak (pe_tup (h.run W tk)) (by
  rintro σ H Q ⟨G, δ, S, QD, XD, re, rl, h, kq, kx⟩
  refine ⟨G, δ, S, _, XD, re, rl, h, fun G1 H1 S1 xs ds s1 rs q => ?_, kx⟩
  obtain ⟨l, q⟩ := few_of q
  refine ⟨by rw [rs.length]; exact l, fun p hp => ?_⟩
  obtain ⟨s2, r2⟩ := fz_tup s1.rel hp rs l
  exact kq _ _ _ _ _ (s1.trans s2) r2 q)⟩
theorem de_lst {t : DTA} (h : PDA X es t) : PD X (.List es pos) (dLst t) := ⟨fun W tk => PE.weak (pe_lst (h.run W tk)) (by
  rintro σ H Q ⟨G, δ, S, QD, XD, re, rl, h, kq, kx⟩
  refine ⟨G, δ, S, _, XD, re, rl, h, fun G1 H1 S1 xs ds s1 rs q => ?_, kx⟩
  obtain ⟨l, q⟩ := few_of q
  refine ⟨by rw [rs.length]; exact l, fun p hp => ?_⟩
  obtain ⟨s2, r2⟩ := fz_lst s1.rel hp rs l
  exact kq _ _ _ _ _ (s1.trans s2) r2 q)⟩
theorem de_lstO {t : DTA} (h : PDA X es t) : PD X (.List es pos) (dLstO t) := ⟨fun W tk => PE.weak (pe_lst (h.run W tk)) (by
  rintro σ H Q ⟨G, δ, S, QD, XD, re, rl, h, kq, kx⟩
  refine ⟨G, δ, S, _, XD, re, rl, h, fun G1 H1 S1 xs ds s1 rs q => ?_, kx⟩
  obtain ⟨l, q⟩ := few_of q
  refine ⟨by rw [rs.length]; exact l, fun p hp => ?_⟩
  exact kq _ _ _ _ _ (s1.trans (ow_lst s1.rel hp rs l)) (.adr p) (q p (s1.rel.free hp).2))⟩

/-! ### tests -/
/-- a value's truth -/
def oTru (d : D) (S : Sto) (Q : Bool → Sto → Prop) : Prop := vwk S d fun d' => match d' with
  | .bl b => Q b S
  | .int i => Q (decide (i ≠ 0)) S
  | .str s => Q (decide (s.length ≠ 0)) S
  | .lst ds => Q (!ds.isEmpty) S
  | .tup ds => Q (!ds.isEmpty) S
  | .non => Q false S
  | _ => False
def dTru (t : DTE) : DTT := fun δ S Q X => t δ S (fun x S1 => oTru x S1 Q) X
theorem emp_len {vs : List V} {ds : List D} (r : Rps K G vs ds) : (!vs.isEmpty) = !ds.isEmpty := by cases r <;> rfl
theorem dt_val {t : DTE} (h : PD X a t) (he : ∀ whole, isTrue a X.env whole = (do let v ← whole; standAt a.pos; holding [v] (truthy v)) := by intro _; rfl) : PDT X a (dTru t) := ⟨fun W tk => PT.weak (pt_truth (h.run W tk) he) (by
  rintro σ H Q ⟨G, δ, S, QD, XD, re, rl, h, kq, kx⟩
  refine ⟨G, δ, S, _, XD, re, rl, h, fun G1 H1 S1 x d s1 rx q => ?_, kx⟩
  simp only [oTru, vwk_is] at q
  split at q
  · rename_i b ex; rw [(vw_scal rx).1 _ ex]; exact ⟨b, rfl, kq _ _ _ _ s1 q⟩
  · rename_i i ex
    rw [(vw_scal rx).2.1 _ ex]
    refine ⟨_, rfl, ?_⟩
    have e : (i != 0) = decide (i ≠ 0) := by rw [Bool.eq_iff_iff]; simp
    rw [e]
    exact kq _ _ _ _ s1 q
  · rename_i z ex
    obtain ⟨h1, h2⟩ := (vw_scal rx).2.2.1 _ ex
    rw [h1]
    refine ⟨_, ⟨h2.1, rfl⟩, ?_⟩
    have e : ((z.length : Int) != 0) = decide (z.length ≠ 0) := by
      rw [Bool.eq_iff_iff]; simp
    rw [e]; exact kq _ _ _ _ s1 q
  · rename_i ds ex
    obtain ⟨p, vs, rfl, hp, rv, _⟩ := vw_lst s1.rel rx ex
    exact ⟨_, .inl ⟨vs, SqL.of hp, rfl⟩, by rw [emp_len rv]; exact kq _ _ _ _ s1 q⟩
  · rename_i ds ex
    obtain ⟨p, vs, rfl, _, hp, rv, _⟩ := vw_tup s1.rel rx ex
    exact ⟨_, .inr (.inl ⟨vs, SqT.of hp, rfl⟩), by rw [emp_len rv]; exact kq _ _ _ _ s1 q⟩
  · rename_i ex
    rw [(vw_scal rx).2.2.2.1 ex]
    exact ⟨false, rfl, kq _ _ _ _ s1 q⟩
  · exact q.elim)⟩
def dNot (t : DTT) : DTT := fun δ S Q X => t δ S (fun b S1 => Q (!b) S1) X
def dAnd (t u : DTT) : DTT := fun δ S Q X => t δ S (fun b S1 => brn b (u δ S1 Q X) (Q false S1)) X
def dOr (t u : DTT) : DTT := fun δ S Q X => t δ S (fun b S1 => brn b (Q true S1) (u δ S1 Q X)) X
theorem dt_not {t : DTT} (h : PDT X a t) : PDT X (.UnaryOp .Not a pos) (dNot t) := ⟨fun W tk => PT.weak (pt_not (h.run W tk)) (by
  rintro σ H Q ⟨G, δ, S, QD, XD, re, rl, h, kq, kx⟩
  exact ⟨G, δ, S, _, XD, re, rl, h, fun G1 H1 S1 b s1 q => kq _ _ _ _ s1 q, kx⟩)⟩
theorem sim_and {t u : DTT} : ∀ σ H Q, liftT K W (dAnd t u) σ H Q → tAnd (liftT K W t) (liftT K W u) σ H Q := by
  rintro σ H Q ⟨G, δ, S, QD, XD, re, rl, h, kq, kx⟩
  refine ⟨G, δ, S, _, XD, re, rl, h, fun G1 H1 S1 b s1 q => ?_, kx⟩
  cases b with
  | true => rw [brn_t] at q; rw [if_pos rfl]; exact ⟨G1, δ, S1, QD, XD, re.mono s1.sg, s1.rel, q, fun G2 H2 S2 b s2 q2 => kq _ _ _ _ (s1.trans s2) q2, kx.step s1⟩
  | false => rw [brn_f] at q; rw [if_neg Bool.false_ne_true]; exact kq _ _ _ _ s1 q
theorem sim_or {t u : DTT} : ∀ σ H Q, liftT K W (dOr t u) σ H Q → tOr (liftT K W t) (liftT K W u) σ H Q := by
  rintro σ H Q ⟨G, δ, S, QD, XD, re, rl, h, kq, kx⟩
  refine ⟨G, δ, S, _, XD, re, rl, h, fun G1 H1 S1 b s1 q => ?_, kx⟩
  cases b with
  | false => rw [brn_f] at q; rw [if_neg Bool.false_ne_true]; exact ⟨G1, δ, S1, QD, XD, re.mono s1.sg, s1.rel, q, fun G2 H2 S2 b s2 q2 => kq _ _ _ _ (s1.trans s2) q2, kx.step s1⟩
  | true => rw [brn_t] at q; rw [if_pos rfl]; exact kq _ _ _ _ s1 q
theorem dw_and {t u : DTT} {rest : List Expr} (ha : PDT X a t) (hb : PDW X (.BoolOp .And (b :: rest) pos) u) : PDW X (.BoolOp .And (a :: b :: rest) pos) (dAnd t u) := ⟨fun W tk => PW.weak (pw_and (ha.run W tk) (hb.run W tk)) sim_and⟩
theorem dw_and1 {t : DTT} (ha : PDT X a t) : PDW X (.BoolOp .And [a] pos) t := ⟨fun W tk => pw_and1 (ha.run W tk)⟩
theorem dw_or {t u : DTT} {rest : List Expr} (ha : PDT X a t) (hb : PDW X (.BoolOp .Or (b :: rest) pos) u) : PDW X (.BoolOp .Or (a :: b :: rest) pos) (dOr t u) := ⟨fun W tk => PW.weak (pw_or (ha.run W tk) (hb.run W tk)) sim_or⟩
theorem dw_or1 {t : DTT} (ha : PDT X a t) : PDW X (.BoolOp .Or [a] pos) t := ⟨fun W tk => pw_or1 (ha.run W tk)⟩
theorem PDW.pt {t : DTT} (h : PDW X a t) : PDT X a t := ⟨fun W tk => (h.run W tk).pt⟩
/-- and, or, not as values: all but the last are truth values -/
def dAndV (t u : DTE) : DTE := fun δ S Q X => t δ S (fun x S1 => match x with
  | .bl b => brn b (u δ S1 Q X) (Q (.bl false) S1)
  | _ => False) X
def dOrV (t u : DTE) : DTE := fun δ S Q X => t δ S (fun x S1 => match x with
  | .bl b => brn b (Q (.bl true) S1) (u δ S1 Q X)
  | _ => False) X
def dNotV (t : DTE) : DTE := fun δ S Q X => t δ S (fun x S1 => match x with
  | .bl b => Q (.bl (!b)) S1
  | _ => False) X
theorem de_and {t u : DTE} {rest : List Expr} (ha : PD X a t) (hb : PD X (.BoolOp .And (b :: rest) pos) u) : PD X (.BoolOp .And (a :: b :: rest) pos) (dAndV t u) := ⟨fun W tk => PE.weak (pe_and (ha.run W tk) (hb.run W tk)) (by
  rintro σ H Q ⟨G, δ, S, QD, XD, re, rl, h, kq, kx⟩
  refine ⟨G, δ, S, _, XD, re, rl, h, fun G1 H1 S1 x d s1 rx q => ?_, kx⟩
  cases rx with
  | bl c =>
    refine ⟨c, rfl, ?_⟩
    cases c with
    | true => rw [if_pos rfl]; simp only [brn_t] at q; exact ⟨G1, δ, S1, QD, XD, re.mono s1.sg, s1.rel, q, fun G2 H2 S2 v d s2 rv q2 => kq _ _ _ _ _ (s1.trans s2) rv q2, kx.step s1⟩
    | false => rw [if_neg Bool.false_ne_true]; simp only [brn_f] at q; exact kq _ _ _ _ _ s1 (.bl _) q
  | _ => exact q.elim)⟩
theorem de_or {t u : DTE} {rest : List Expr} (ha : PD X a t) (hb : PD X (.BoolOp .Or (b :: rest) pos) u) : PD X (.BoolOp .Or (a :: b :: rest) pos) (dOrV t u) := ⟨fun W tk => PE.weak (pe_or (ha.run W tk) (hb.run W tk)) (by
  rintro σ H Q ⟨G, δ, S, QD, XD, re, rl, h, kq, kx⟩
  refine ⟨G, δ, S, _, XD, re, rl, h, fun G1 H1 S1 x d s1 rx q => ?_, kx⟩
  cases rx with
  | bl c =>
    refine ⟨c, rfl, ?_⟩
    cases c with
    | false => rw [if_neg Bool.false_ne_true]; simp only [brn_f] at q; exact ⟨G1, δ, S1, QD, XD, re.mono s1.sg, s1.rel, q, fun G2 H2 S2 v d s2 rv q2 => kq _ _ _ _ _ (s1.trans s2) rv q2, kx.step s1⟩
    | true => rw [if_pos rfl]; simp only [brn_t] at q; exact kq _ _ _ _ _ s1 (.bl _) q
  | _ => exact q.elim)⟩
theorem de_one {op} {t : DTE} (ha : PD X a t) : PD X (.BoolOp op [a] pos) t := ⟨fun W tk => pe_one (ha.run W tk)⟩
theorem de_not {t : DTE} (ha : PD X a t) : PD X (.UnaryOp .Not a pos) (dNotV t) := ⟨fun W tk => PE.weak (pe_not (ha.run W tk)) (by
  rintro σ H Q ⟨G, δ, S, QD, XD, re, rl, h, kq, kx⟩
  refine ⟨G, δ, S, _, XD, re, rl, h, fun G1 H1 S1 x d s1 rx q => ?_, kx⟩
  cases rx with
  | bl c => exact ⟨c, rfl, kq _ _ _ _ _ s1 (.bl _) q⟩
  | _ => exact q.elim)⟩
def dIfE (t : DTT) (u w : DTE) : DTE := fun δ S Q X => t δ S (fun b S1 => brn b (u δ S1 Q X) (w δ S1 Q X)) X
theorem de_ifExp {t : DTT} {u w : DTE} (hc : PDT X c t) (ha : PD X a u) (hb : PD X b w) : PD X (.IfExp c a b pos) (dIfE t u w) := ⟨fun W tk => PE.weak (pe_ifExp (hc.run W tk) (ha.run W tk) (hb.run W tk)) (by
  rintro σ H Q ⟨G, δ, S, QD, XD, re, rl, h, kq, kx⟩
  refine ⟨G, δ, S, _, XD, re, rl, h, fun G1 H1 S1 b s1 q => ?_, kx⟩
  cases b with
  | true => rw [brn_t] at q; rw [if_pos rfl]; exact ⟨G1, δ, S1, QD, XD, re.mono s1.sg, s1.rel, q, fun G2 H2 S2 v d s2 rv q2 => kq _ _ _ _ _ (s1.trans s2) rv q2, kx.step s1⟩
  | false => rw [brn_f] at q; rw [if_neg Bool.false_ne_true]; exact ⟨G1, δ, S1, QD, XD, re.mono s1.sg, s1.rel, q, fun G2 H2 S2 v d s2 rv q2 => kq _ _ _ _ _ (s1.trans s2) rv q2, kx.step s1⟩)⟩
/-- a < b < c -/
def dChain (r r' : R2D) (ta tb tc : DTE) : DTE := fun δ S Q X => ta δ S (fun x S1 => tb δ S1 (fun y S2 => r x y S2 (fun z S3 => match z with
  | .bl b => brn b (tc δ S3 (fun w S4 => r' y w S4 Q) X) (Q (.bl false) S3)
  | _ => False)) X) X
theorem sim_chain {r r' : R2D} {ta tb tc : DTE} : ∀ σ H Q, liftE K W (dChain r r' ta tb tc) σ H Q → tChain (lift2 K r) (lift2 K r') (liftE K W ta) (liftE K W tb) (liftE K W tc) σ H Q := by
  rintro σ H Q ⟨G, δ, S, QD, XD, re, rl, h, kq, kx⟩
  refine ⟨G, δ, S, _, XD, re, rl, h, fun G1 H1 S1 x dx s1 rx q => ⟨G1, δ, S1, _, XD, re.mono s1.sg, s1.rel, q, fun G2 H2 S2 y dy s2 ry q2 =>
    ⟨G2, S2, dx, dy, _, s2.rel, rx.mono s2.sg, ry, q2, fun G3 H3 S3 v d s3 rv q3 => ?_⟩, kx.step s1⟩, kx⟩
  have s13 := (s1.trans s2).trans s3
  cases rv with
  | bl b =>
    refine ⟨b, rfl, ?_⟩
    cases b with
    | true => rw [if_pos rfl]; simp only [brn_t] at q3; exact ⟨G3, δ, S3, _, XD, re.mono s13.sg, s3.rel, q3, fun G4 H4 S4 w dw s4 rw' q4 => ⟨G4, S4, dy, dw, QD, s4.rel, ry.mono (s3.sg.trans s4.sg), rw', q4, fun G5 H5 S5 v d s5 rv q5 => kq _ _ _ _ _ ((s13.trans s4).trans s5) rv q5⟩, kx.step s13⟩
    | false => rw [if_neg Bool.false_ne_true]; simp only [brn_f] at q3; exact kq _ _ _ _ _ s13 (.bl _) q3
  | _ => exact q3.elim
theorem de_chain {op op' : CmpOp} {r r' : R2D} {ta tb tc : DTE} (ho : OpR X (compareOp op) (lift2 X.K r)) (ho' : OpR X (compareOp op') (lift2 X.K r')) (ha : PD X a ta) (hb : PD X b tb) (hc : PD X c tc)
    (hm : lastMarks [op, op'] [b, c] = false := by with_unfolding_all rfl) : PD X (.Compare a [op, op'] [b, c] pos) (dChain r r' ta tb tc) := ⟨fun W tk => PE.weak (pe_chain ho ho' (ha.run W tk) (hb.run W tk) (hc.run W tk) hm) sim_chain⟩
def dTestB (t : DTE) : DTT := fun δ S Q X => t δ S (fun x S1 => match x with
  | .bl b => Q b S1
  | _ => False) X
theorem sim_testB {t : DTE} : ∀ σ H Q, liftT K W (dTestB t) σ H Q → tTest (liftE K W t) σ H Q := by
  rintro σ H Q ⟨G, δ, S, QD, XD, re, rl, h, kq, kx⟩
  refine ⟨G, δ, S, _, XD, re, rl, h, fun G1 H1 S1 x d s1 rx q => ?_, kx⟩
  cases rx with
  | bl c => exact ⟨c, rfl, kq _ _ _ _ s1 q⟩
  | _ => exact q.elim
/-- comparisons as tests -/
theorem dt_cmp {op : CmpOp} {r : R2D} {ta tb : DTE} (ho : OpR X (compareOp op) (lift2 X.K r)) (ha : PD X a ta) (hb : PD X b tb) (hm : behindInMarks op b = false := by rfl) : PDT X (.Compare a [op] [b] pos) (dTestB (dOp r ta tb)) :=
  ⟨fun W tk => PT.weak (pt_cmpR ho (ha.run W tk) (hb.run W tk) hm) (by
    rintro σ H Q h
    obtain ⟨G, δ, S, QD, XD, re, rl, h, kq, kx⟩ := sim_testB σ H Q h
    exact sim_op σ H _ ⟨G, δ, S, QD, XD, re, rl, h, kq, kx⟩)⟩
theorem dt_chain {op op' : CmpOp} {r r' : R2D} {ta tb tc : DTE} (ho : OpR X (compareOp op) (lift2 X.K r)) (ho' : OpR X (compareOp op') (lift2 X.K r')) (ha : PD X a ta) (hb : PD X b tb) (hc : PD X c tc)
    (hm : lastMarks [op, op'] [b, c] = false := by with_unfolding_all rfl) : PDT X (.Compare a [op, op'] [b, c] pos) (dTestB (dChain r r' ta tb tc)) :=
  ⟨fun W tk => PT.weak (pt_chain ho ho' (ha.run W tk) (hb.run W tk) (hc.run W tk) hm) (by
    rintro σ H Q h
    obtain ⟨G, δ, S, QD, XD, re, rl, h, kq, kx⟩ := sim_testB σ H Q h
    exact sim_chain σ H _ ⟨G, δ, S, QD, XD, re, rl, h, kq, kx⟩)⟩
end
end SM

set_option Elab.async false
set_option linter.all false
set_option maxRecDepth 100000
set_option maxHeartbeats 2000000
namespace SM
open PySem PySem.Spec PyProof.Rows L2
variable {K : PySem.W.Frag} {G G' G2 H H' H2 : Hp} {S S' S2 : Sto}
section
variable {X : Cx} {e a b c o i : Expr} {es : List Expr} {st : Stmt} {sts : List Stmt} {pos p apos cpos : Pos} {W : WX} {k : Nat} {x : Str}
/-! ### an item -/
def one (c : Nat) : Str := ⟨#[c]⟩
theorem atI_rps {vs : List V} {ds : List D} {i : Int} {d : D} (r : Rps K G vs ds) (h : atI ds i = some d) : ∃ v, atI vs i = some v ∧ Rp K G v d := by
  unfold atI at h ⊢
  rw [r.length]
  cases q : ixN ds.length i with
  | none => rw [q] at h; cases h
  | some j => rw [q] at h; exact r.get h
theorem okS_one {s : Str} {i : Int} {c : Nat} (h : okS s) (e : atI s.cps.toList i = some c) : okS (one c) := by
  refine ⟨(by show 1 ≤ sizeLine; decide), ?_⟩
  have hm : c ∈ s.cps.toList := by
    unfold atI at e
    cases q : ixN s.cps.toList.length i with
    | none => rw [q] at e; cases e
    | some j => rw [q] at e; exact List.mem_of_getElem? e
  have h2 := h.2
  unfold PyData.strOk at h2 ⊢
  rw [Array.all_eq_true_iff_forall_mem] at h2 ⊢
  intro z hz
  have : z = c := by simpa [one] using hz
  subst this
  exact h2 z (by simpa using hm)
/-- keys of a dict -/
def dKey : D → Option Key
  | .int i => some (.inl i)
  | .str s => some (.inr s)
  | _ => none
def dKeys : List D → Option (List Key)
  | [] => some []
  | d :: r => match dKey d, dKeys r with
    | some k, some ks => some (k :: ks)
    | _, _ => none
theorem dKey_rp {v : V} {d : D} {k : Key} (r : Rp K G v d) (h : dKey d = some k) : v = kV k := by
  cases r <;> simp [dKey] at h
  · subst h; rfl
  · subst h; rfl
theorem dKeys_rps : ∀ {vs : List V} {ds : List D} {ks : List Key}, Rps K G vs ds → dKeys ds = some ks → vs = ks.map kV
  | _, _, ks, .nil, h => by cases h; rfl
  | _, _, ks, .cons r q, h => by
    unfold dKeys at h
    split at h
    · rename_i k ks' h1 h2
      cases h
      rw [List.map_cons, dKey_rp r h1, dKeys_rps q h2]
    · cases h
def valD (kvs : List (List Key × D)) (k : List Key) : Option D := (kvs.find? fun kv => decide (kv.1 = k)).map (·.2)
theorem valD_rkv : ∀ {ws : List (List Key × V)} {kvs : List (List Key × D)} (k : List Key), Rkv K G ws kvs → (valD kvs k = none ∧ valV ws k = none) ∨ ∃ d v, valD kvs k = some d ∧ valV ws k = some v ∧ Rp K G v d
  | _, _, k, .nil => .inl ⟨rfl, rfl⟩
  | _, _, k, @Rkv.cons _ _ k0 v d ws kvs r q => by
    unfold valD valV
    rw [List.find?_cons, List.find?_cons]
    by_cases h : k0 = k
    · simp only [h, decide_true]; exact .inr ⟨d, v, rfl, rfl, r⟩
    · simp only [h, decide_false]
      exact valD_rkv k q
def oIx : R2D := fun x y S Q => vwk S x fun x' => match x' with
  | .lst ds => (match y with
    | .int i => itk ds i fun d => Q d S
    | _ => False)
  | .tup ds => (match y with
    | .int i => itk ds i fun d => Q d S
    | _ => False)
  | .str s => (match y with
    | .int i => itk s.cps.toList i fun c => Q (.str (one c)) S
    | _ => False)
  | .dT kvs => (match y with
    | .tup ds => (match dKeys ds with
      | some ks => (match valD kvs ks with
        | some d => Q d S
        | none => False)
      | none => False)
    | _ => False)
  | _ => False
theorem ix_dict (hu : X.A.units + 1 < cLine) : IxR X (fun x y H Q => ∃ a v, x = .ref a ∧ DGet H a y (some v) ∧ Q v H) := by
  intro value slice pins s σ H x y v u Q I rx ry h hs
  obtain ⟨a, w, rfl, g, q⟩ := h
  obtain rfl : v = Value.ref a := rx
  have hT := dict_typeIs I g
  unfold subscriptTail
  refine wpAny_bind ?_
  rw [getitemInPython_of_ne hT.not_modules]
  refine wpAny_bind (wpAny_specialOf hT PySem.F.slot_dict_getitem.lookup ?_)
  have fin : wpAny (model X.prog X.w) X.A (subscripted slice false (.ref a) u) (fun r s₃ => wpAny (model X.prog X.w) X.A (letTemporaryGo value (.ref a) r >>= fun _ => pure r) (EP X pins σ Q) X.xe s₃) X.xe s := by
    rw [hs]
    exact wpAny_operating (d_getItem hu I g ry fun w' s3 I3 rw' => wpAny_bind (wpAny_letTemporaryGo (wpAny_pure ⟨w, H, I3, rw', q⟩)))
  first
    | exact wpAny_pure (wpAny_bind fin)
    | exact wpAny_bind (wpAny_pure (wpAny_bind fin))
    | exact wpAny_bind fin
theorem op_din (hu : X.A.units + 1 < cLine) : OpR X (compareOp .In) (fun y x H Q => ∃ a o, x = .ref a ∧ DGet H a y o ∧ Q (.bl o.isSome) H) := by
  intro pins s σ H y x v u Q I ry rx h
  obtain ⟨a, o, rfl, g, q⟩ := h
  obtain rfl : u = Value.ref a := rx
  exact d_in hu I g ry fun s3 I3 => ⟨.bl o.isSome, H, I3, rfl, q⟩
theorem op_dnin (hu : X.A.units + 1 < cLine) : OpR X (compareOp .NotIn) (fun y x H Q => ∃ a o, x = .ref a ∧ DGet H a y o ∧ Q (.bl (!o.isSome)) H) := by
  intro pins s σ H y x v u Q I ry rx h
  obtain ⟨a, o, rfl, g, q⟩ := h
  obtain rfl : u = Value.ref a := rx
  exact d_notIn hu I g ry fun s3 I3 => ⟨.bl (!o.isSome), H, I3, rfl, q⟩
theorem DGet.of_rd {a b : Addr} {ws : List (List Key × V)} {ks : List Key} (h : Rd H a (.dT ws)) (hb : H b = some (.tup (ks.map kV))) : DGet H a (.ref b) (valV ws ks) := .inr ⟨ws, ks, b, h, rfl, hb, rfl⟩
theorem i_ix (hr : Room k X.A) : IxR X (lift2 X.K oIx) := IxR.weak (IxR.or ix_list (IxR.or ix_tup (IxR.or ix_str (ix_dict (hu_of hr))))) (by
  rintro x y H Q ⟨G, S, dx, dy, QD, rl, rx, ry, h, kq⟩
  simp only [oIx, vwk_is, itk_is] at h
  split at h
  · rename_i ds ex
    obtain ⟨p, vs, rfl, hp, rv, lv⟩ := vw_lst rl rx ex
    split at h
    · rename_i i
      cases ry
      obtain ⟨d, ed, h⟩ := h
      · obtain ⟨v, e1, e2⟩ := atI_rps rv ed
        exact .inl ⟨p, vs, i, v, rfl, rfl, SqL.of hp, e1, kq _ _ _ _ _ (Stp.refl rl) e2 h⟩
    · exact h.elim
  · rename_i ds ex
    obtain ⟨p, vs, rfl, _, hp, rv, lv⟩ := vw_tup rl rx ex
    split at h
    · rename_i i
      cases ry
      obtain ⟨d, ed, h⟩ := h
      · obtain ⟨v, e1, e2⟩ := atI_rps rv ed
        exact .inr (.inl ⟨p, vs, i, v, rfl, rfl, SqT.of hp, e1, kq _ _ _ _ _ (Stp.refl rl) e2 h⟩)
    · exact h.elim
  · rename_i z ex
    obtain ⟨hx, ox⟩ := (vw_scal rx).2.2.1 _ ex
    subst hx
    split at h
    · rename_i i
      cases ry
      obtain ⟨d, ed, h⟩ := h
      · exact .inr (.inr (.inl ⟨z, i, d, rfl, rfl, ox.1, ed, kq _ _ _ _ _ (Stp.refl rl) (.str (okS_one ox ed)) h⟩))
    · exact h.elim
  · rename_i kvs ex
    obtain ⟨p, ws, rfl, hp, rv⟩ := vw_dT rl rx ex
    split at h
    · rename_i ds
      cases ry with
      | tup hg rs l =>
      split at h
      · rename_i ks ek
        split at h
        · rename_i d ed
          have e1 := dKeys_rps rs ek
          rcases valD_rkv ks rv with ⟨z, _⟩ | ⟨d', v, z1, z2, z3⟩
          · rw [z] at ed; cases ed
          · rw [z1] at ed; cases ed
            refine .inr (.inr (.inr ⟨p, v, rfl, ?_, kq _ _ _ _ _ (Stp.refl rl) z3 h⟩))
            rw [← z2]
            exact DGet.of_rd hp (by rw [← e1]; exact rl.at hg rfl)
        · exact h.elim
      · exact h.elim
    · exact h.elim
  · exact h.elim)
theorem de_ix {ta tb : DTE} (hr : Room k X.A) (ha : PD X a ta) (hb : PD X b tb) (hs : PlainIx b := by exact fun _ _ => rfl) : PD X (.Subscript a b pos) (dOp oIx ta tb) := ⟨fun W tk => PE.weak (pe_ix (i_ix hr) (ha.run W tk) (hb.run W tk) hs) sim_op⟩

/-! ### in -/
def inS (s t : Str) : Bool := match s.cps.toList with
  | [c] => decide (c ∈ t.cps.toList)
  | _ => !(Builtin.Str.occurrences t s 0 t.length 1).isEmpty
/-- is x in y? -/
def inB (x y : D) : Option Bool := match y with
  | .lst ds => (match pln 8 x && plns 8 ds with
    | true => some (ds.any fun z => eqB z x)
    | false => none)
  | .str t => (match x with
    | .str s => some (inS s t)
    | _ => none)
  | .dT kvs => (match x with
    | .tup ds => (match dKeys ds with
      | some ks => some (valD kvs ks).isSome
      | none => none)
    | _ => none)
  | _ => none
def oIn : R2D := fun x y S Q => vwk S y fun y' => match inB x y' with
  | some b => Q (.bl b) S
  | none => False
def oNotIn : R2D := fun x y S Q => vwk S y fun y' => match inB x y' with
  | some b => Q (.bl (!b)) S
  | none => False
theorem pln_mono : ∀ (n : Nat) (d : D), pln n d = true → pln (n + 1) d = true ∧ True := by
  intro n d h
  exact ⟨(pm n d h), trivial⟩
where
  pm : ∀ (n : Nat) (d : D), pln n d = true → pln (n + 1) d = true
    | n, .non, _ => by simp [pln]
    | n, .bl _, _ => by simp [pln]
    | n, .int _, _ => by simp [pln]
    | n, .str _, _ => by simp [pln]
    | 0, .tup _, h => by simp [pln] at h
    | 0, .lst _, h => by simp [pln] at h
    | n + 1, .tup ds, h => by simp only [pln] at h ⊢; exact pms n ds h
    | n + 1, .lst ds, h => by simp only [pln] at h ⊢; exact pms n ds h
    | n, .ty _, h => by cases n <;> simp [pln] at h
    | n, .adr _, h => by cases n <;> simp [pln] at h
    | n, .dT _, h => by cases n <;> simp [pln] at h
    | n, .ins _ _, h => by cases n <;> simp [pln] at h
  pms : ∀ (n : Nat) (ds : List D), plns n ds = true → plns (n + 1) ds = true
    | n, [], _ => by simp [plns]
    | n, d :: r, h => by
      simp only [plns, Bool.and_eq_true] at h ⊢
      exact ⟨pm n d h.1, pms n r h.2⟩
theorem any_eqB {x : D} (hx : pln 8 x = true) : ∀ {ds : List D}, plns 8 ds = true → ((toPs ds).any fun z => PyData.eqv z (toP x)) = ds.any fun z => eqB z x
  | [], _ => rfl
  | d :: r, h => by
    simp only [plns, Bool.and_eq_true] at h
    rw [toPs, List.any_cons, List.any_cons, any_eqB hx h.2, eqB_eq _ _ (pln_mono 8 d h.1).1 (pln_mono 8 x hx).1]
theorem sim_in (neg : Bool) : ∀ (x y : V) (H : Hp) (Q : VK), (∃ (G : Hp) (S : Sto) (dx dy : D) (QD : DQ), Rel K G H S ∧ Rp K G x dx ∧ Rp K G y dy ∧ (match inB dx (vw S dy) with
      | some b => QD (.bl (if neg then !b else b)) S
      | none => False) ∧ ∀ G' H' S' v d, Stp K G H S G' H' S' → Rp K G' v d → QD d S' → Q v H') →
    (∃ d ds, Dp K H x d ∧ Dp K H y (.list ds) ∧ SeqAt.shaped d = true ∧ SeqAt.shaped (.list ds) = true ∧ Q (.bl (if neg then !ds.any fun z => PyData.eqv z d else ds.any fun z => PyData.eqv z d)) H) ∨
    ((∃ (c : Nat) (z : Str), x = .str ⟨#[c]⟩ ∧ y = .str z ∧ Q (.bl (if neg then !decide (c ∈ z.cps.toList) else decide (c ∈ z.cps.toList))) H) ∨
    ((∃ i j, x = .str i ∧ y = .str j ∧ Q (.bl (if neg then !(!(Builtin.Str.occurrences j i 0 j.length 1).isEmpty) else !(Builtin.Str.occurrences j i 0 j.length 1).isEmpty)) H) ∨
    ∃ a o, y = .ref a ∧ DGet H a x o ∧ Q (.bl (if neg then !o.isSome else o.isSome)) H)) := by
  rintro x y H Q ⟨G, S, dx, dy, QD, rl, rx, ry, h, kq⟩
  cases e : inB dx (vw S dy) with
  | none => rw [e] at h; exact h.elim
  | some r =>
  rw [e] at h
  have q := kq _ _ _ _ _ (Stp.refl rl) (.bl _) h
  unfold inB at e
  split at e
  · rename_i ds ey
    split at e
    · rename_i hp
      rw [Bool.and_eq_true] at hp
      cases e
      obtain ⟨p, vs, rfl, hy, rv, lv⟩ := vw_lst rl ry ey
      obtain ⟨a1, a2, a3⟩ := dp_of rl 8 _ _ rx hp.1
      obtain ⟨b1, b2, b3⟩ := dps_of rl 8 _ _ rv hp.2
      refine .inl ⟨_, _, a1, .lst (SqL.of hy) b1, by simp [SeqAt.shaped, a2]; omega, by rw [SeqAt.shaped, Bool.and_eq_true]; exact ⟨by simpa [PyData.canLay0] using b2, decide_eq_true (by simp only [PyData.depth]; omega)⟩, ?_⟩
      rw [any_eqB hp.1 hp.2]
      exact q
    · cases e
  · rename_i t ey
    split at e
    · rename_i s
      cases e
      cases rx with
      | str hs =>
      obtain ⟨hy, oy⟩ := (vw_scal ry).2.2.1 _ ey
      subst hy
      by_cases hc : ∃ c, s.cps.toList = [c]
      · obtain ⟨c, ec⟩ := hc
        have ei : inS s t = decide (c ∈ t.cps.toList) := by unfold inS; rw [ec]
        rw [ei] at q
        have es : s = ⟨#[c]⟩ := by
          cases s with
          | mk cps => simp only at ec; congr 1; exact Array.toList_inj.mp (by simpa using ec)
        exact .inr (.inl ⟨c, t, by rw [es], rfl, q⟩)
      · have ei : inS s t = !(Builtin.Str.occurrences t s 0 t.length 1).isEmpty := by
          unfold inS
          split
          · rename_i c ec; exact absurd ⟨c, ec⟩ hc
          · rfl
        rw [ei] at q
        exact .inr (.inr (.inl ⟨s, t, rfl, rfl, q⟩))
    · cases e
  · rename_i kvs ey
    obtain ⟨p, ws, rfl, hp, rv⟩ := vw_dT rl ry ey
    split at e
    · rename_i ds
      cases rx with
      | tup hg rs l =>
      split at e
      · rename_i ks ek
        cases e
        have e1 := dKeys_rps rs ek
        refine .inr (.inr (.inr ⟨p, valV ws ks, rfl, DGet.of_rd hp (by rw [← e1]; exact rl.at hg rfl), ?_⟩))
        have : (valV ws ks).isSome = (valD kvs ks).isSome := by
          rcases valD_rkv ks rv with ⟨z1, z2⟩ | ⟨d', v, z1, z2, z3⟩ <;> rw [z1, z2] <;> rfl
        rw [this]
        exact q
      · cases e
    · cases e
  · cases e
theorem o_in (hr : Room k X.A) : OpR X (compareOp .In) (lift2 X.K oIn) := OpR.weak (OpR.or (op_inD (by have := hr.un; omega)) (OpR.or op_in_sign (OpR.or op_in_str (op_din (hu_of hr))))) (fun x y H Q h => sim_in false x y H Q (by simp only [lift2, oIn, vwk_is] at h; exact h))
theorem o_notin (hr : Room k X.A) : OpR X (compareOp .NotIn) (lift2 X.K oNotIn) := OpR.weak (OpR.or (op_notInD (by have := hr.un; omega)) (OpR.or op_notIn_sign (OpR.or op_notIn_str (op_dnin (hu_of hr))))) (fun x y H Q h => sim_in true x y H Q (by simp only [lift2, oNotIn, vwk_is] at h; exact h))
end
end SM

set_option Elab.async false
set_option linter.all false
set_option maxRecDepth 100000
set_option maxHeartbeats 2000000
namespace SM
open PySem PySem.Spec PyProof.Rows L2
variable {K : PySem.W.Frag} {G G' G2 H H' H2 : Hp} {S S' S2 : Sto}
section
variable {X : Cx} {e a b c o i : Expr} {es : List Expr} {st : Stmt} {sts : List Stmt} {pos p apos cpos pos' : Pos} {W : WX} {k : Nat} {x : Str}
/-! ### built-ins by name -/
def dCB (r : RCD) (t : DTA) : DTE := fun δ S Q X => t δ S (fun ds S1 => r ds S1 Q) X
theorem sim_cb {r : RCD} {t : DTA} : ∀ σ H Q, liftE K W (dCB r t) σ H Q → tCB (liftC K r) (liftA K W t) σ H Q := by
  rintro σ H Q ⟨G, δ, S, QD, XD, re, rl, h, kq, kx⟩
  exact ⟨G, δ, S, _, XD, re, rl, h, fun G1 H1 S1 vs ds s1 rs q => ⟨G1, S1, ds, QD, s1.rel, rs, q, fun G2 H2 S2 v d s2 rv q2 => kq _ _ _ _ _ (s1.trans s2) rv q2⟩, kx⟩
theorem de_callB {id : String} {r : RCD} {t : DTA} (hc : CallR X (.builtin id) (liftC X.K r)) (hg : Gl X x) (hm : X.mg x = none) (hv : bootBuiltins x = some (.builtin id)) (ha : PDA X (e :: es) t) (hn : x ≠ "__name__" := by decide) (hdb : (x == ("__debug__" : Str)) = false := by decide)
    (he : starEach (e :: es) X.env = (false, eval e X.env) :: starEach es X.env := by rfl) (hpl : (backTo pos (starEach es X.env)).any (·.1) = false := by rfl) : PD X (.Call (.Name x p) (e :: es) [] pos) (dCB r t) := ⟨fun W tk => PE.weak (pe_callB hc hg hm hv (ha.run W tk) hn hdb he hpl) sim_cb⟩
theorem de_callTy {T : String} {r : RCD} {t : DTA} (hc : CallR X (.type T) (liftC X.K r)) (hg : Gl X x) (hm : X.mg x = none) (hv : bootBuiltins x = some (.type T)) (ha : PDA X (e :: es) t) (hn : x ≠ "__name__" := by decide) (hdb : (x == ("__debug__" : Str)) = false := by decide)
    (he : starEach (e :: es) X.env = (false, eval e X.env) :: starEach es X.env := by rfl) (hpl : (backTo pos (starEach es X.env)).any (·.1) = false := by rfl) : PD X (.Call (.Name x p) (e :: es) [] pos) (dCB r t) := ⟨fun W tk => PE.weak (pe_callTy hc hg hm hv (ha.run W tk) hn hdb he hpl) sim_cb⟩
def on1 (f : D → Sto → DQ → Prop) : RCD := fun ds S Q => match ds with
  | [d] => f d S Q
  | _ => False
theorem on1_of {f : D → Sto → DQ → Prop} {ds : List D} {Q : DQ} {vs : List V} (h : on1 f ds S Q) (r : Rps K G vs ds) : ∃ d v, ds = [d] ∧ vs = [v] ∧ Rp K G v d ∧ f d S Q := by
  unfold on1 at h
  split at h
  · cases r with
    | cons r1 r2 => cases r2; exact ⟨_, _, rfl, rfl, r1, h⟩
  · exact h.elim
def lenD (d : D) (S : Sto) (Q : DQ) : Prop := vwk S d fun d' => match d' with
  | .lst ds => Q (.int ds.length) S
  | .tup ds => Q (.int ds.length) S
  | .str s => Q (.int s.length) S
  | _ => False
theorem c_len : CallR X (.builtin "len") (liftC X.K (on1 lenD)) := CallR.weak call_len (by
  rintro vs H Q ⟨G, S, ds, QD, rl, rs, h, kq⟩
  obtain ⟨d, v, rfl, rfl, rx, h⟩ := on1_of h rs
  simp only [lenD, vwk_is] at h
  split at h
  · rename_i l ex
    obtain ⟨p, us, rfl, hp, rv, _⟩ := vw_lst rl rx ex
    refine ⟨_, us.length, rfl, .inl ⟨us, SqL.of hp, rfl⟩, ?_⟩
    rw [rv.length]; exact kq _ _ _ _ _ (Stp.refl rl) (.int _) h
  · rename_i l ex
    obtain ⟨p, us, rfl, _, hp, rv, _⟩ := vw_tup rl rx ex
    refine ⟨_, us.length, rfl, .inr ⟨us, SqT.of hp, rfl⟩, ?_⟩
    rw [rv.length]; exact kq _ _ _ _ _ (Stp.refl rl) (.int _) h
  · rename_i s ex
    obtain ⟨e1, e2⟩ := (vw_scal rx).2.2.1 _ ex
    subst e1
    exact ⟨_, s.length, rfl, ⟨e2.1, rfl⟩, kq _ _ _ _ _ (Stp.refl rl) (.int _) h⟩
  · exact h.elim)
def intD (d : D) (S : Sto) (Q : DQ) : Prop := match d with
  | .int i => Q (.int i) S
  | .bl b => Q (.int (if b then 1 else 0)) S
  | .str s => (match PySem.intText? s with
    | some n => s.length ≤ 640 ∧ Q (.int n) S
    | none => False)
  | _ => False
theorem c_int : CallR X (.type "int") (liftC X.K (on1 intD)) := CallR.weak (CallR.or call_int1 call_int_str) (by
  rintro vs H Q ⟨G, S, ds, QD, rl, rs, h, kq⟩
  obtain ⟨d, v, rfl, rfl, rx, h⟩ := on1_of h rs
  cases rx with
  | int i => exact .inl (.inl ⟨i, rfl, kq _ _ _ _ _ (Stp.refl rl) (.int _) h⟩)
  | bl b => exact .inl (.inr ⟨b, rfl, kq _ _ _ _ _ (Stp.refl rl) (.int _) h⟩)
  | @str s hs =>
    unfold intD at h
    simp only at h
    split at h
    · rename_i n en
      exact .inr ⟨s, n, rfl, en, h.1, kq _ _ _ _ _ (Stp.refl rl) (.int _) h.2⟩
    · exact h.elim
  | _ => exact h.elim)
/-- list(x): a new list -/
def itemsD (d : D) : Option (List D) := match d with
  | .lst ds => some ds
  | .tup ds => some ds
  | _ => none
def listD (d : D) (S : Sto) (Q : DQ) : Prop := vwk S d fun d' => match itemsD d' with
  | some ds => Q (.lst ds) S
  | none => False
def listDO (d : D) (S : Sto) (Q : DQ) : Prop := vwk S d fun d' => match itemsD d' with
  | some ds => ∀ p, S p = none → Q (.adr p) (su S p (.lst ds))
  | none => False
theorem items_of (rl : Rel K G H S) {v : V} {d : D} {ds : List D} (rx : Rp K G v d) (h : itemsD (vw S d) = some ds) : ∃ p us, v = .ref p ∧ (SqL K H p us ∨ SqT K H p us) ∧ Rps K G us ds ∧ ds.length ≤ sizeLine := by
  unfold itemsD at h
  split at h
  · rename_i l ex
    cases h
    obtain ⟨p, us, rfl, hp, rv, l⟩ := vw_lst rl rx ex
    exact ⟨p, us, rfl, .inl (SqL.of hp), rv, l⟩
  · rename_i l ex
    cases h
    obtain ⟨p, us, rfl, _, hp, rv, l⟩ := vw_tup rl rx ex
    exact ⟨p, us, rfl, .inr (SqT.of hp), rv, l⟩
  · cases h
theorem c_list : CallR X (.type "list") (liftC X.K (on1 listD)) := CallR.weak call_list_of (by
  rintro vs H Q ⟨G, S, ds, QD, rl, rs, h, kq⟩
  obtain ⟨d, v, rfl, rfl, rx, h⟩ := on1_of h rs
  simp only [listD, vwk_is] at h
  split at h
  · rename_i l ex
    obtain ⟨p, us, rfl, hp, rv, hl⟩ := items_of rl rx ex
    refine ⟨p, us, rfl, hp, fun q hq => ?_⟩
    obtain ⟨s1, r1⟩ := fz_lst rl hq rv hl
    exact kq _ _ _ _ _ s1 r1 h
  · exact h.elim)
theorem c_listO : CallR X (.type "list") (liftC X.K (on1 listDO)) := CallR.weak call_list_of (by
  rintro vs H Q ⟨G, S, ds, QD, rl, rs, h, kq⟩
  obtain ⟨d, v, rfl, rfl, rx, h⟩ := on1_of h rs
  simp only [listDO, vwk_is] at h
  split at h
  · rename_i l ex
    obtain ⟨p, us, rfl, hp, rv, hl⟩ := items_of rl rx ex
    refine ⟨p, us, rfl, hp, fun q hq => ?_⟩
    exact kq _ _ _ _ _ (ow_lst rl hq rv hl) (.adr q) (h q (rl.free hq).2)
  · exact h.elim)

/-! ### slices -/
abbrev DTO := DS → Sto → (Option Int → Sto → Prop) → XQ → Prop
def liftO (K : PySem.W.Frag) (W : WX) (td : DTO) : TO := fun σ H Q => ∃ G δ S QD XD, RpE K G σ δ ∧ Rel K G H S ∧ td δ S QD XD ∧ (∀ G' H' S' o, Stp K G H S G' H' S' → QD o S' → Q o H') ∧ KX K W σ G H S XD
structure PDO (X : Cx) (e : Option Expr) (td : DTO) : Prop where
  run : ∀ W, L2N.Takes X W → PO X e (liftO X.K W td)
theorem PO.weak {e : Option Expr} {t t' : TO} (h : PO X e t) (w : ∀ σ H Q, t' σ H Q → t σ H Q) : PO X e t' := ⟨fun pins s σ H Q I q => h.run pins s σ H Q I (w σ H Q q)⟩
def dNoPart : DTO := fun _ S Q _ => Q none S
def dPart (t : DTE) : DTO := fun δ S Q X => t δ S (fun x S1 => match x with
  | .int i => Q (some i) S1
  | _ => False) X
theorem do_none : PDO X none dNoPart := ⟨fun W tk => PO.weak po_none (by
  rintro σ H Q ⟨G, δ, S, QD, XD, re, rl, h, kq, kx⟩
  exact kq _ _ _ _ (Stp.refl rl) h)⟩
theorem do_some {t : DTE} (h : PD X e t) : PDO X (some e) (dPart t) := ⟨fun W tk => PO.weak (po_some (h.run W tk)) (by
  rintro σ H Q ⟨G, δ, S, QD, XD, re, rl, h, kq, kx⟩
  refine ⟨G, δ, S, _, XD, re, rl, h, fun G1 H1 S1 x d s1 rx q => ?_, kx⟩
  cases rx with
  | int i => exact ⟨i, rfl, kq _ _ _ _ s1 q⟩
  | _ => exact q.elim)⟩
def cutD (xs : List D) (lo hi : Option Int) : List D := (xs.drop (HT.sIx xs.length 0 lo)).take (HT.sIx xs.length xs.length hi - HT.sIx xs.length 0 lo)
theorem cut_rps {vs : List V} {ds : List D} (r : Rps K G vs ds) (lo hi : Option Int) : Rps K G (cutV vs lo hi) (cutD ds lo hi) := by
  unfold cutV cutD; rw [r.length]; exact (r.drop _).take _
theorem cut_len (ds : List D) (lo hi : Option Int) : (cutD ds lo hi).length ≤ ds.length := by
  unfold cutD; rw [List.length_take, List.length_drop]; omega
def oSl (d : D) (lo hi : Option Int) (S : Sto) (Q : DQ) : Prop := vwk S d fun d' => match d' with
  | .lst ds => Q (.lst (cutD ds lo hi)) S
  | .str s => Q (.str (cutS s lo hi)) S
  | _ => False
def dSl (r : D → Option Int → Option Int → Sto → DQ → Prop) (te : DTE) (tl th : DTO) : DTE := fun δ S Q X => te δ S (fun x S1 => tl δ S1 (fun l S2 => th δ S2 (fun u S3 => r x l u S3 Q) X) X) X
theorem okS_sub {s t : Str} (h : okS s) (hm : ∀ c ∈ t.cps.toList, c ∈ s.cps.toList) (hl : t.length ≤ s.length) : okS t := by
  refine ⟨Nat.le_trans hl h.1, ?_⟩
  have h2 := h.2
  unfold PyData.strOk at h2 ⊢
  rw [Array.all_eq_true_iff_forall_mem] at h2 ⊢
  intro z hz
  exact h2 z (by simpa using hm z (by simpa using hz))
theorem okS_cut {s : Str} (h : okS s) (lo hi : Option Int) : okS (cutS s lo hi) := by
  refine okS_sub h (fun c hc => ?_) ?_
  · have hc' : c ∈ (s.cps.toList.drop (HT.sIx s.length 0 lo)).take (HT.sIx s.length s.length hi - HT.sIx s.length 0 lo) := by simpa [cutS] using hc
    exact List.mem_of_mem_drop (List.mem_of_mem_take hc')
  · show (cutS s lo hi).cps.size ≤ s.cps.size
    simp only [cutS, List.size_toArray, List.length_take, List.length_drop, Array.length_toList]
    omega
theorem de_slice {p2 : Pos} {lo hi : Option Expr} {te : DTE} {tl th : DTO} (he : PD X e te) (hl : PDO X lo tl) (hu : PDO X hi th) : PD X (.Subscript e (.Slice lo hi none p2) pos) (dSl oSl te tl th) := ⟨fun W tk => PE.weak (pe_slice (SlR.or sl_list sl_str) (he.run W tk) (hl.run W tk) (hu.run W tk)) (by
  rintro σ H Q ⟨G, δ, S, QD, XD, re, rl, h, kq, kx⟩
  refine ⟨G, δ, S, _, XD, re, rl, h, fun G1 H1 S1 x d s1 rx q => ⟨G1, δ, S1, _, XD, re.mono s1.sg, s1.rel, q, fun G2 H2 S2 l s2 q2 => ⟨G2, δ, S2, _, XD, re.mono (s1.trans s2).sg, s2.rel, q2, fun G3 H3 S3 u s3 q3 => ?_, kx.step (s1.trans s2)⟩, kx.step s1⟩, kx⟩
  have s13 := (s1.trans s2).trans s3
  have rx3 := rx.mono (s2.trans s3).sg
  simp only [oSl, vwk_is] at q3
  split at q3
  · rename_i ds ex
    obtain ⟨p, vs, rfl, hp, rv, lv⟩ := vw_lst s3.rel rx3 ex
    refine .inl ⟨p, vs, rfl, SqL.of hp, fun z hz => ?_⟩
    obtain ⟨s4, r4⟩ := fz_lst s3.rel hz (cut_rps rv l u) (Nat.le_trans (cut_len _ _ _) lv)
    exact kq _ _ _ _ _ (s13.trans s4) r4 q3
  · rename_i z ex
    obtain ⟨e1, e2⟩ := (vw_scal rx3).2.2.1 _ ex
    subst e1
    exact .inr ⟨z, rfl, e2.1, kq _ _ _ _ _ s13 (.str (okS_cut e2 l u)) q3⟩
  · exact q3.elim)⟩

/-! ### targets -/
inductive Pat where
  | nm (i : Nat) | tp (ps : List Pat)
mutual
def pG (K : PySem.W.Frag) : Pat → TG
  | .nm i => gName i
  | .tp ps => gTup K ps.length (pGs K ps)
def pGs (K : PySem.W.Frag) : List Pat → TGs
  | [] => gNil
  | q :: r => gCons (pG K q) (pGs K r)
end
mutual
def bindP : Pat → D → DS → Option DS
  | .nm i, d, δ => some (put δ i d)
  | .tp ps, .tup ds, δ => bindPs ps ds δ
  | .tp _, _, _ => none
def bindPs : List Pat → List D → DS → Option DS
  | [], [], δ => some δ
  | q :: ps, d :: ds, δ => match bindP q d δ with
    | some δ1 => bindPs ps ds δ1
    | none => none
  | _, _, _ => none
end
mutual
def slots : Pat → List Nat
  | .nm i => [i]
  | .tp ps => slotss ps
def slotss : List Pat → List Nat
  | [] => []
  | q :: r => slots q ++ slotss r
end
def Agr (l : List Nat) (σ σ' : L2.St) : Prop := σ'.length = σ.length ∧ ∀ i, i ∉ l → σ'[i]? = σ[i]?
mutual
theorem pG_run (rl : Rel K G H S) : ∀ (q : Pat) (d : D) (v : V) (σ : L2.St) (δ δ' : DS), RpE K G σ δ → Rp K G v d → bindP q d δ = some δ' → ∃ σ', (∀ Q : L2.St → Hp → Prop, Q σ' H → pG K q v σ H Q) ∧ RpE K G σ' δ' ∧ Agr (slots q) σ σ'
  | .nm i, d, v, σ, δ, δ', re, rp, h => by
    cases h
    refine ⟨σ.set i (some v), fun Q q => by rw [pG]; exact q, re.put i rp, ?_, fun j hj => ?_⟩
    · rw [List.length_set]
    · rw [List.getElem?_set_ne]; intro z; apply hj; simp [slots, z]
  | .tp ps, .tup ds, v, σ, δ, δ', re, rp, h => by
    cases rp with
    | tup hg rs l =>
    rename_i a vs
    obtain ⟨σ', h1, h2, h3⟩ := pGs_run rl ps ds vs σ δ δ' re rs (by simpa [bindP] using h)
    refine ⟨σ', fun Q q => ?_, h2, by simpa [slots] using h3⟩
    rw [pG]
    refine ⟨a, vs, rfl, SqT.of (rl.at hg rfl), ?_, h1 Q q⟩
    rw [rs.length]
    exact bindPs_len ps ds δ δ' (by simpa [bindP] using h)
  | .tp _, .non, _, _, _, _, _, _, h => by simp [bindP] at h
  | .tp _, .bl _, _, _, _, _, _, _, h => by simp [bindP] at h
  | .tp _, .int _, _, _, _, _, _, _, h => by simp [bindP] at h
  | .tp _, .str _, _, _, _, _, _, _, h => by simp [bindP] at h
  | .tp _, .ty _, _, _, _, _, _, _, h => by simp [bindP] at h
  | .tp _, .adr _, _, _, _, _, _, _, h => by simp [bindP] at h
  | .tp _, .lst _, _, _, _, _, _, _, h => by simp [bindP] at h
  | .tp _, .dT _, _, _, _, _, _, _, h => by simp [bindP] at h
  | .tp _, .ins _ _, _, _, _, _, _, _, h => by simp [bindP] at h
theorem pGs_run (rl : Rel K G H S) : ∀ (ps : List Pat) (ds : List D) (vs : List V) (σ : L2.St) (δ δ' : DS), RpE K G σ δ → Rps K G vs ds → bindPs ps ds δ = some δ' → ∃ σ', (∀ Q : L2.St → Hp → Prop, Q σ' H → pGs K ps vs σ H Q) ∧ RpE K G σ' δ' ∧ Agr (slotss ps) σ σ'
  | [], [], vs, σ, δ, δ', re, rs, h => by
    cases rs
    cases h
    exact ⟨σ, fun Q q => ⟨rfl, q⟩, re, rfl, fun _ _ => rfl⟩
  | q :: ps, d :: ds, vs, σ, δ, δ', re, rs, h => by
    cases rs with
    | cons r1 r2 =>
    rw [bindPs] at h
    split at h
    · rename_i δ1 e1
      obtain ⟨σ1, a1, a2, a3⟩ := pG_run rl q d _ σ δ δ1 re r1 e1
      obtain ⟨σ2, b1, b2, b3⟩ := pGs_run rl ps ds _ σ1 δ1 δ' a2 r2 h
      refine ⟨σ2, fun Q z => ?_, b2, b3.1.trans a3.1, fun i hi => ?_⟩
      · rw [pGs]; exact ⟨_, _, rfl, a1 _ (b1 Q z)⟩
      · simp only [slotss, List.mem_append, not_or] at hi
        rw [b3.2 i hi.2, a3.2 i hi.1]
    · cases h
  | [], _ :: _, _, _, _, _, _, _, h => by simp [bindPs] at h
  | _ :: _, [], _, _, _, _, _, _, h => by simp [bindPs] at h
theorem bindPs_len : ∀ (ps : List Pat) (ds : List D) (δ δ' : DS), bindPs ps ds δ = some δ' → ds.length = ps.length
  | [], [], _, _, _ => rfl
  | q :: ps, d :: ds, δ, δ', h => by
    rw [bindPs] at h
    split at h
    · rename_i δ1 e1
      rw [List.length_cons, List.length_cons, bindPs_len ps ds δ1 δ' h]
    · cases h
  | [], _ :: _, _, _, h => by simp [bindPs] at h
  | _ :: _, [], _, _, h => by simp [bindPs] at h
end
structure PDP (X : Cx) (tg : Expr) (q : Pat) : Prop where
  run : PG X tg (pG X.K q)
structure PDPs (X : Cx) (tgs : List Expr) (q : List Pat) : Prop where
  run : PGs X tgs (pGs X.K q)
theorem dp_nm {i : Nat} {x : Str} {pos : Pos} (hN : X.N.Nodup) (hi : X.N[i]? = some x := by rfl) (hx : Loc X.env.scope x := by first | exact .inl rfl | exact .inr rfl) (hf : X.fn x = true ∨ X.env.scope.names.lookup x = some .local := by first | exact .inl rfl | exact .inr rfl | assumption) : PDP X (.Name x pos) (.nm i) := ⟨by rw [pG]; exact pg_name hN hi hx hf⟩
theorem dp_tp {es : List Expr} {kk : Nat} {ps : List Pat} {pos : Pos} (hc : X.calm = true) (h : PDPs X es ps) (hn : (assignEach es X.env).length = ps.length := by rfl) (hst : (assignEach es X.env).findIdx? (·.1) = none := by rfl) : PDP X (.Tuple es kk pos) (.tp ps) := ⟨by rw [pG]; exact pg_tup hc h.run hn hst⟩
theorem dps_nil : PDPs X [] [] := ⟨by rw [pGs]; exact pgs_nil⟩
theorem dps_cons {e : Expr} {es : List Expr} {q : Pat} {ps : List Pat} (h1 : PDP X e q) (h2 : PDPs X es ps) (hs : (assignEach (e :: es) X.env).map (·.2) = assign e X.env :: (assignEach es X.env).map (·.2) := by rfl) : PDPs X (e :: es) (q :: ps) := ⟨by rw [pGs]; exact pgs_cons h1.run h2.run hs⟩
end
end SM

set_option Elab.async false
set_option linter.all false
set_option maxRecDepth 100000
set_option maxHeartbeats 2000000
namespace SM
open PySem PySem.Spec PyProof.Rows L2
variable {K : PySem.W.Frag} {G G' G2 H H' H2 : Hp} {S S' S2 : Sto}
section
variable {X : Cx} {e a b c o i : Expr} {es : List Expr} {st : Stmt} {sts rest : List Stmt} {pos p apos cpos pos' : Pos} {W : WX} {k : Nat} {x : Str} {t u : DTS} {te : DTE}
/-! ### a name that is handed on: an object of the store is frozen -/
/-- an object of the store, and on -/
structure ownk (S : Sto) (a : Addr) (k : Option OO → Prop) : Prop where
  it : k (S a)
theorem ownk_is {S : Sto} {a : Addr} {k : Option OO → Prop} : ownk S a k = k (S a) := propext ⟨fun h => h.it, fun h => ⟨h⟩⟩
theorem ownk_of {S : Sto} {a : Addr} {o : OO} {k : Option OO → Prop} (h : S a = some o) (q : k (some o)) : ownk S a k := by rw [ownk_is, h]; exact q
def dVarM (i : Nat) : DTE := fun δ S Q _ => match nth δ i with
  | some (.adr a) => ownk S a fun oo => (match oo with
    | some (.lst ds) => Q (.lst ds) (sd S a)
    | some (.dT kvs) => Q (.dT kvs) (sd S a)
    | some (.ins c ds) => Q (.ins c ds) (sd S a)
    | none => Q (.adr a) S)
  | some d => Q d S
  | none => False
theorem frz_lst (rl : Rel K G H S) {p : Addr} {ds : List D} (h : S p = some (.lst ds)) : ∃ G', Stp K G H S G' H (sd S p) ∧ Rp K G' (.ref p) (.lst ds) := by
  obtain ⟨_, vs, e, r, l⟩ := rl.own p _ h
  exact ⟨_, Stp.frz rl h e, .lst upd_same (r.mono (Stp.frz rl h e).sg) l⟩
theorem frz_dT (rl : Rel K G H S) {p : Addr} {ds : List (List Key × D)} (h : S p = some (.dT ds)) : ∃ G', Stp K G H S G' H (sd S p) ∧ Rp K G' (.ref p) (.dT ds) := by
  obtain ⟨_, vs, e, r⟩ := rl.own p _ h
  exact ⟨_, Stp.frz rl h e, .dT upd_same (r.mono (Stp.frz rl h e).sg)⟩
theorem frz_ins (rl : Rel K G H S) {p : Addr} {c : Nat} {ds : List D} (h : S p = some (.ins c ds)) : ∃ G', Stp K G H S G' H (sd S p) ∧ Rp K G' (.ref p) (.ins c ds) := by
  obtain ⟨_, dx, vs, e, r, l⟩ := rl.own p _ h
  exact ⟨_, Stp.frz rl h e, .ins upd_same (r.mono (Stp.frz rl h e).sg) l⟩
theorem sim_varM {i : Nat} : ∀ σ H Q, liftE K W (dVarM i) σ H Q → tVar i σ H Q := by
  rintro σ H Q ⟨G, δ, S, QD, XD, re, rl, h, kq, kx⟩
  unfold dVarM at h
  cases e : nth δ i with
  | none => rw [e] at h; exact h.elim
  | some d =>
    rw [e] at h
    obtain ⟨v, h1, h2⟩ := re.at_ i d e
    refine ⟨v, h1, ?_⟩
    cases h2 with
    | adr a =>
      simp only [ownk_is] at h
      cases q : S a with
      | none => rw [q] at h; exact kq G H S _ _ (Stp.refl rl) (.adr a) h
      | some oo =>
        rw [q] at h
        cases oo with
        | lst ds => obtain ⟨G', s1, r1⟩ := frz_lst rl q; exact kq _ _ _ _ _ s1 r1 h
        | dT ds => obtain ⟨G', s1, r1⟩ := frz_dT rl q; exact kq _ _ _ _ _ s1 r1 h
        | ins c ds => obtain ⟨G', s1, r1⟩ := frz_ins rl q; exact kq _ _ _ _ _ s1 r1 h
    | non => exact kq G H S _ _ (Stp.refl rl) .non h
    | bl z => exact kq G H S _ _ (Stp.refl rl) (.bl z) h
    | int z => exact kq G H S _ _ (Stp.refl rl) (.int z) h
    | str z => exact kq G H S _ _ (Stp.refl rl) (.str z) h
    | ty z => exact kq G H S _ _ (Stp.refl rl) (.ty z) h
    | tup z1 z2 z3 => exact kq G H S _ _ (Stp.refl rl) (.tup z1 z2 z3) h
    | lst z1 z2 z3 => exact kq G H S _ _ (Stp.refl rl) (.lst z1 z2 z3) h
    | dT z1 z2 => exact kq G H S _ _ (Stp.refl rl) (.dT z1 z2) h
    | ins z1 z2 z3 => exact kq G H S _ _ (Stp.refl rl) (.ins z1 z2 z3) h
    | cls z1 z2 => exact kq G H S _ _ (Stp.refl rl) (.cls z1 z2) h
    | exn0 z1 => exact kq G H S _ _ (Stp.refl rl) (.exn0 z1) h
    | exn z1 z2 z3 z4 => exact kq G H S _ _ (Stp.refl rl) (.exn z1 z2 z3 z4) h
theorem dvM (i : Nat) {x : Str} {pos : Pos} (hN : X.N[i]? = some x := by rfl) (hv : Vis X.env.scope x := by first | exact Or.inl rfl | exact Or.inr (Or.inl rfl) | exact Or.inr (Or.inr rfl)) (hd : (x == ("__debug__" : Str)) = false := by decide)
    (hcd : (x == ("__classdict__" : Str)) = false := by decide) : PD X (.Name x pos) (dVarM i) := ⟨fun W _ => PE.weak (pe_var hN hv hd hcd) sim_varM⟩

/-! ### blocks -/
def dNext : DTS := fun E δ S => E.nx δ S
def dSeq (t u : DTS) : DTS := fun E δ S => t { E with nx := u E } δ S
theorem dss_nil : PDSs X [] dNext := ⟨fun W tk po => PSs.weak pss_nil (by
  rintro D σ H ⟨G, δ, S, E, re, rl, h, er⟩
  exact er.nx _ _ _ _ _ (Stp.refl rl) re h)⟩
theorem dss_cons (h1 : PDS X st t) (h2 : PDSs X rest u) : PDSs X (st :: rest) (dSeq t u) := ⟨fun W tk po => PSs.weak (pss_cons (h1.run W tk po) (h2.run W tk po)) (by
  rintro D σ H ⟨G, δ, S, E, re, rl, h, er⟩
  exact ⟨G, δ, S, _, re, rl, h, ⟨fun G1 H1 S1 σ1 δ1 s1 re1 q => ⟨G1, δ1, S1, E, re1, s1.rel, q, er.step s1⟩, er.rt, er.bk, er.ct, er.xc⟩⟩)⟩
theorem dss_one (h1 : PDS X st t) : PDSs X [st] t := ⟨fun W tk po => pss_one (h1.run W tk po)⟩
theorem ds_pass : PDS X (.Pass pos) dNext := ⟨fun W tk po => PS.weak ps_pass (by
  rintro D σ H ⟨G, δ, S, E, re, rl, h, er⟩
  exact er.nx _ _ _ _ _ (Stp.refl rl) re h)⟩
def dBreak : DTS := fun E δ S => E.bk δ S
def dCont : DTS := fun E δ S => E.ct δ S
theorem ds_break : PDS X (.Break pos) dBreak := ⟨fun W tk po => PS.weak ps_break (by
  rintro D σ H ⟨G, δ, S, E, re, rl, h, er⟩
  exact er.bk _ _ _ _ _ (Stp.refl rl) re h)⟩
theorem ds_continue : PDS X (.Continue pos) dCont := ⟨fun W tk po => PS.weak ps_continue (by
  rintro D σ H ⟨G, δ, S, E, re, rl, h, er⟩
  exact er.ct _ _ _ _ _ (Stp.refl rl) re h)⟩
def dDrop (te : DTE) : DTS := fun E δ S => te δ S (fun _ S1 => E.nx δ S1) (fun x S1 => E.xc x δ S1)
theorem ds_expr (he : PD X e te) (hs : swapsWith e none pos.line X.env = pure false := by rfl) : PDS X (.Expr e pos) (dDrop te) := ⟨fun W tk po => PS.weak (ps_expr (he.run W tk) hs) (by
  rintro D σ H ⟨G, δ, S, E, re, rl, h, er⟩
  exact ⟨G, δ, S, _, _, re, rl, h, fun G1 H1 S1 v d s1 rv q => er.nx _ _ _ _ _ s1 (re.mono s1.sg) q, er.kx re⟩)⟩
def dRet (te : DTE) : DTS := fun E δ S => te δ S E.rt (fun x S1 => E.xc x δ S1)
theorem ds_ret (he : PD X e te) : PDS X (.Return (some e) pos) (dRet te) := ⟨fun W tk po => PS.weak (ps_ret (he.run W tk)) (by
  rintro D σ H ⟨G, δ, S, E, re, rl, h, er⟩
  exact ⟨G, δ, S, _, _, re, rl, h, fun G1 H1 S1 v d s1 rv q => er.rt _ _ _ _ _ s1 rv q, er.kx re⟩)⟩
def dRetN : DTS := fun E _ S => E.rt .non S
theorem ds_retN : PDS X (.Return none pos) dRetN := ⟨fun W tk po => PS.weak ps_retN (by
  rintro D σ H ⟨G, δ, S, E, re, rl, h, er⟩
  exact er.rt _ _ _ _ _ (Stp.refl rl) .non h)⟩
def dIf (tc : DTT) (t u : DTS) : DTS := fun E δ S => tc δ S (fun b S1 => brn b (t E δ S1) (u E δ S1)) (fun x S1 => E.xc x δ S1)
theorem ds_if {tc : DTT} {ya yb : List Stmt} (hc : PDT X c tc) (ha : PDSs X ya t) (hb : PDSs X yb u) : PDS X (.If c ya yb pos) (dIf tc t u) := ⟨fun W tk po => PS.weak (ps_if (hc.run W tk) (ha.run W tk po) (hb.run W tk po)) (by
  rintro D σ H ⟨G, δ, S, E, re, rl, h, er⟩
  refine ⟨G, δ, S, _, _, re, rl, h, fun G1 H1 S1 b s1 q => ?_, er.kx re⟩
  cases b with
  | true => rw [brn_t] at q; rw [if_pos rfl]; exact ⟨G1, δ, S1, E, re.mono s1.sg, s1.rel, q, er.step s1⟩
  | false => rw [brn_f] at q; rw [if_neg Bool.false_ne_true]; exact ⟨G1, δ, S1, E, re.mono s1.sg, s1.rel, q, er.step s1⟩)⟩
def dSet (i : Nat) (te : DTE) : DTS := fun E δ S => te δ S (fun d S1 => E.nx (put δ i d) S1) (fun x S1 => E.xc x δ S1)
theorem ds_set {i : Nat} {x : Str} {pos' : Pos} (hN : X.N.Nodup) (he : PD X e te) (hi : X.N[i]? = some x := by rfl) (hx : Loc X.env.scope x := by first | exact .inl rfl | exact .inr rfl) (hs : swapsWith e (some (.Name x pos')) pos.line X.env = pure false := by rfl)
    (hf : X.fn x = true ∨ X.env.scope.names.lookup x = some .local := by first | exact .inl rfl | exact .inr rfl | assumption) : PDS X (.Assign [.Name x pos'] e pos) (dSet i te) := ⟨fun W tk po => PS.weak (ps_set hN hi hx (he.run W tk) hs hf) (by
  rintro D σ H ⟨G, δ, S, E, re, rl, h, er⟩
  exact ⟨G, δ, S, _, _, re, rl, h, fun G1 H1 S1 v d s1 rv q => er.nx _ _ _ _ _ s1 ((re.mono s1.sg).put i rv) q, er.kx re⟩)⟩
/-- a, b = e -/
def dUnp (q : Pat) (te : DTE) : DTS := fun E δ S => te δ S (fun d S1 => match bindP q d δ with
  | some δ1 => E.nx δ1 S1
  | none => False) (fun x S1 => E.xc x δ S1)
theorem ds_unp {tg : Expr} {q : Pat} (he : PD X e te) (hg : PDP X tg q) (hs : swapsWithSole [tg] e pos.line X.env = pure false := by rfl) (hw : swappedStores [tg] e X.env = pure none := by rfl)
    (h1 : (assignEach [tg] X.env).map (·.2) = [assign tg X.env] := by rfl) : PDS X (.Assign [tg] e pos) (dUnp q te) := ⟨fun W tk po => PS.weak (ps_asg (he.run W tk) hg.run hs hw h1) (by
  rintro D σ H ⟨G, δ, S, E, re, rl, h, er⟩
  refine ⟨G, δ, S, _, _, re, rl, h, fun G1 H1 S1 v d s1 rv q => ?_, er.kx re⟩
  split at q
  · rename_i δ1 e1
    obtain ⟨σ', a1, a2, a3⟩ := pG_run s1.rel _ d v σ δ δ1 (re.mono s1.sg) rv e1
    exact a1 _ (er.nx _ _ _ _ _ s1 a2 q)
  · exact q.elim)⟩
/-- xs[i] = e on a list of the store -/
def dSetL (to ti te : DTE) : DTS := fun E δ S => te δ S (fun d S1 => to δ S1 (fun y S2 => ti δ S2 (fun z S3 => match y, z with
  | .adr q, .int n => ownk S3 q fun oo => (match oo with
    | some (.lst ds) => (match ixN ds.length n with
      | some j => E.nx δ (su S3 q (.lst (ds.set j d)))
      | none => False)
    | _ => False)
  | _, _ => False) (fun x S1 => E.xc x δ S1)) (fun x S1 => E.xc x δ S1)) (fun x S1 => E.xc x δ S1)
theorem ds_setL {to ti : DTE} (he : PD X e te) (ho : PD X o to) (hi : PD X i ti) (hs : swapsWithSole [.Subscript o i pos'] e pos.line X.env = pure false := by rfl) (hw : swappedStores [.Subscript o i pos'] e X.env = pure none := by rfl)
    (h1 : (assignEach [.Subscript o i pos'] X.env).map (·.2) = [assign (.Subscript o i pos') X.env] := by rfl)
    (ha : ∀ v, assign (.Subscript o i pos') X.env v = (do
      let ov ← holding [v] (eval o X.env)
      let iv ← holding [v, ov] (eval i X.env)
      standAt pos'
      holding [v, ov, iv] (setItem ov iv v)
      release [v, ov, iv] []) := by intro _; rfl) : PDS X (.Assign [.Subscript o i pos'] e pos) (dSetL to ti te) := ⟨fun W tk po => PS.weak (ps_asg (he.run W tk) (pg_sub (ho.run W tk) (hi.run W tk) set_list ha) hs hw h1) (by
  rintro D σ H ⟨G, δ, S, E, re, rl, h, er⟩
  refine ⟨G, δ, S, _, _, re, rl, h, fun G1 H1 S1 v d s1 rv q => ⟨G1, δ, S1, _, _, re.mono s1.sg, s1.rel, q, fun G2 H2 S2 y dy s2 ry q2 => ⟨G2, δ, S2, _, _, re.mono (s1.trans s2).sg, s2.rel, q2, fun G3 H3 S3 z dz s3 rz q3 => ?_, (er.kx re).step (s1.trans s2)⟩, (er.kx re).step s1⟩, er.kx re⟩
  split at q3
  · rename_i q n
    cases ry
    cases rz
    simp only [ownk_is] at q3
    split at q3
    · rename_i ds eS
      split at q3
      · rename_i j ej
        obtain ⟨_, vs, e1, r1, l1⟩ := s3.rel.own q _ eS
        refine ⟨q, vs, n, j, rfl, rfl, e1, by rw [r1.length]; exact ej, ?_⟩
        have s4 : Stp X.K G3 H3 S3 G3 (upd H3 q (.lst (vs.set j v))) (su S3 q (.lst (ds.set j d))) := Stp.mut s3.rel eS ⟨_, rfl, r1.set (rv.mono (s2.trans s3).sg) j, by rw [List.length_set]; exact l1⟩
        have s14 := ((s1.trans s2).trans s3).trans s4
        exact er.nx _ _ _ _ _ s14 (re.mono s14.sg) q3
      · exact q3.elim
    · exact q3.elim
  · exact q3.elim)⟩

/-! ### loops -/
def dLoop (gd : Gd) (q : Pat) (tb : DTS) (E : DEnds) : List D → DS → Sto → Prop
  | [], δ, S => gok gd S ∧ E.nx δ S
  | d :: r, δ, S => gok gd S ∧ match bindP q d δ with
    | some δ1 => tb { E with nx := fun δ2 S2 => dLoop gd q tb E r δ2 S2, ct := fun δ2 S2 => dLoop gd q tb E r δ2 S2, bk := E.nx } δ1 S
    | none => False
structure loopK (gd : Gd) (q : Pat) (tb : DTS) (E : DEnds) (xs : List D) (δ : DS) (S : Sto) : Prop where
  it : dLoop gd q tb E xs δ S
theorem loopK_is {gd : Gd} {q : Pat} {tb : DTS} {E : DEnds} {xs : List D} {δ : DS} {S : Sto} : loopK gd q tb E xs δ S = dLoop gd q tb E xs δ S := propext ⟨fun h => h.it, fun h => ⟨h⟩⟩
def dFor (ti : DTI) (q : Pat) (tb : DTS) : DTS := fun E δ S => ti δ S (fun gd xs S1 => loopK gd q tb E xs δ S1) (fun x S1 => E.xc x δ S1)
theorem ds_for {tg iter : Expr} {body : List Stmt} {ti : DTI} {q : Pat} {tb : DTS} (hc : X.calm = true) (hi : PDI X tg iter ti) (hg : PDP X tg q) (hb : PDSs X body tb) (hs : ∀ x, foldedSetIterable iter X.env x = pure x := by intro _; rfl) :
    PDS X (.For tg iter body [] pos) (dFor ti q tb) := ⟨fun W tk po => PS.weak (ps_for po hc (hi.run W tk) hg.run (hb.run W tk po) hs) (by
  rintro D σ H ⟨G, δ, S, E, re, rl, h, er⟩
  unfold dFor at h
  simp only [loopK_is] at h
  refine ⟨G, δ, S, _, _, re, rl, h, fun G1 H1 S1 J gd xs s1 hJ hl hq => ?_, er.kx re⟩
  -- the invariant
  refine ⟨fun i m σ' H' => m = xs.length - i ∧ ∃ G' δ' S', Stp X.K G H S G' H' S' ∧ Same G1 G' ∧ RpE X.K G' σ' δ' ∧ dLoop gd q tb E (xs.drop i) δ' S', ⟨xs.length, by simp, G1, δ, S1, s1, Same.refl _, re.mono s1.sg, by simpa using hq⟩, ?_⟩
  rintro i m σ' H' ⟨rfl, G', δ', S', s2, sg, re', hd⟩
  have hgd : gok gd S' := by
    cases q : xs.drop i with
    | nil => rw [q, dLoop] at hd; exact hd.1
    | cons y z => rw [q, dLoop] at hd; exact hd.1
  obtain ⟨h1, h2⟩ := hJ G' H' S' sg s2.rel hgd i
  by_cases hlt : i < xs.length
  · obtain ⟨hgo, hy⟩ := h1 hlt
    refine .inr ⟨hgo, fun σ3 H3 => ∃ G3 δ3 S3, Stp X.K G H S G3 H3 S3 ∧ Same G1 G3 ∧ RpE X.K G3 σ3 δ3 ∧ dLoop gd q tb E (xs.drop (i + 1)) δ3 S3, fun σ3 H3 ⟨G3, δ3, S3, a1, a2, a3, a4⟩ => ⟨xs.length - (i + 1), by omega, rfl, G3, δ3, S3, a1, a2, a3, a4⟩, fun x H3 yl => ?_⟩
    obtain ⟨G3, s3, rx⟩ := hy x H3 yl
    have ed : xs[i]? = some (xs[i]) := by simp [hlt]
    have rx := rx _ ed
    rw [List.drop_eq_getElem_cons hlt, dLoop] at hd
    replace hd := hd.2
    split at hd
    · rename_i δ4 e4
      obtain ⟨σ4, a1, a2, a3⟩ := pG_run s3.rel _ _ x σ' δ' δ4 (re'.mono s3.sg) rx e4
      refine a1 _ ?_
      have s23 := s2.trans s3
      refine ⟨G3, δ4, S', _, a2, s3.rel, hd, ?_⟩
      exact ⟨fun G5 H5 S5 σ5 δ5 s5 r5 q5 => ⟨G5, δ5, S5, s23.trans s5, (sg.trans s3.sg).trans s5.sg, r5, q5⟩, fun G5 H5 S5 v d s5 r5 q5 => er.rt _ _ _ _ _ (s23.trans s5) r5 q5, fun G5 H5 S5 σ5 δ5 s5 r5 q5 => er.nx _ _ _ _ _ (s23.trans s5) r5 q5,
        fun G5 H5 S5 σ5 δ5 s5 r5 q5 => ⟨G5, δ5, S5, s23.trans s5, (sg.trans s3.sg).trans s5.sg, r5, q5⟩, fun G5 H5 S5 σ5 δ5 cls d x s5 r5 rx5 q5 => er.xc _ _ _ _ _ _ _ _ (s23.trans s5) r5 rx5 q5⟩
    · exact hd.elim
  · have hle : xs.length ≤ i := by omega
    refine .inl ⟨h2 hle, ?_⟩
    rw [List.drop_of_length_le hle, dLoop] at hd
    exact er.nx _ _ _ _ _ s2 re' hd.2)⟩
/-- range(n), range(a, b) -/
def rngD (a b : Int) : List D := (List.range (b - a).toNat).map fun i => .int (a + (i : Nat))
theorem it_range {lo : Int} {n : Nat} (xs : List D) (h : xs = (List.range n).map fun i => .int (lo + (i : Nat))) : ItD K G none (Itr lo n) xs := by
  subst h
  intro G1 H1 S1 sg rl _ i
  refine ⟨fun hi => ⟨(by simpa using hi : i < n), fun x H2 yl => ?_⟩, fun hi => (by simpa using hi : n ≤ i)⟩
  obtain ⟨e1, e2⟩ := yl
  subst e1 e2
  refine ⟨G1, Stp.refl rl, fun d hd => ?_⟩
  have hi' : i < n := by simpa using hi
  simp [hi'] at hd
  subst hd
  exact .int _
def dRng1 (t : DTA) : DTI := fun δ S Q X => t δ S (fun ds S1 => match ds with
  | [.int n] => (-16777216 ≤ n ∧ n ≤ 16777216) ∧ Q none (rngD 0 n) S1
  | _ => False) X
def dRng2 (t : DTA) : DTI := fun δ S Q X => t δ S (fun ds S1 => match ds with
  | [.int m, .int n] => (-16777216 ≤ n ∧ 0 ≤ m ∧ m ≤ 16777216 ∧ n ≤ 16777216) ∧ Q none (rngD m n) S1
  | _ => False) X
theorem rngD_len (a b : Int) : (rngD a b).length = (b - a).toNat := by simp [rngD]
theorem di_rng1 {tg : Expr} {t : DTA} (hg : Gl X "range") (hm : X.mg "range" = none) (ha : PDA X [a] t) (hs : starEach [a] X.env = [(false, eval a X.env)] := by rfl) : PDI X tg (.Call (.Name "range" p) [a] [] pos) (dRng1 t) := ⟨fun W tk => PI.weak (pi_range1 hg hm (ha.run W tk) hs) (by
  rintro σ H R ⟨G, δ, S, QD, XD, re, rl, h, kq, kx⟩
  refine ⟨G, δ, S, _, XD, re, rl, h, fun G1 H1 S1 vs ds s1 rs q => ?_, kx⟩
  split at q
  · rename_i n
    cases rs with
    | cons r1 r2 =>
    cases r2
    cases r1
    have hs : sizeLine = 16777216 := sizeLine_eq
    exact ⟨n, rfl, by omega, by omega, kq _ _ _ _ none _ s1 (it_range _ (by simp [rngD])) (by rw [rngD_len]; omega) q.2⟩
  · exact q.elim)⟩
theorem di_rng2 {tg : Expr} {t : DTA} (hg : Gl X "range") (hm : X.mg "range" = none) (ha : PDA X [a, b] t) (hs : starEach [a, b] X.env = [(false, eval a X.env), (false, eval b X.env)] := by rfl) (hs2 : starEach [b] X.env = [(false, eval b X.env)] := by rfl) : PDI X tg (.Call (.Name "range" p) [a, b] [] pos) (dRng2 t) := ⟨fun W tk => PI.weak (pi_range2 hg hm (ha.run W tk) hs hs2) (by
  rintro σ H R ⟨G, δ, S, QD, XD, re, rl, h, kq, kx⟩
  refine ⟨G, δ, S, _, XD, re, rl, h, fun G1 H1 S1 vs ds s1 rs q => ?_, kx⟩
  split at q
  · rename_i m n
    cases rs with
    | cons r1 r2 =>
    cases r2 with
    | cons r2 r3 =>
    cases r3
    cases r1
    cases r2
    have hs : sizeLine = 16777216 := sizeLine_eq
    exact ⟨m, n, rfl, ⟨by omega, by omega, by omega, by omega⟩, kq _ _ _ _ none (rngD m n) s1 (it_range _ rfl) (by rw [rngD_len]; omega) q.2⟩
  · exact q.elim)⟩
/-- over a list or a tuple that stays -/
def dItems (t : DTE) : DTI := fun δ S Q X => t δ S (fun d S1 => match d with
  | .lst ds => Q none ds S1
  | .tup ds => Q none ds S1
  | .str s => Q none (s.cps.toList.map fun c => .str (one c)) S1
  | .adr a => ownk S1 a fun o => (match o with
    | some (.lst ds) => Q (some (a, ds)) ds S1
    | _ => False)
  | _ => False) X
theorem PI.or {tg : Expr} {t t' : TI} (h : PI X tg e t) (h' : PI X tg e t') : PI X tg e (fun σ H R => t σ H R ∨ t' σ H R) := ⟨fun pins s σ H R I q => q.elim (h.run pins s σ H R I) (h'.run pins s σ H R I)⟩
theorem it_lst {q : Addr} {vs : List V} {ds : List D} (h : G q = some (.lst vs)) (r : Rps K G vs ds) : ItD K G none (Itl K q) ds := by
  intro G1 H1 S1 sg rl _ i
  have hq : SqL K H1 q vs := SqL.of (rl.at (sg _ _ h) rfl)
  refine ⟨fun hi => ⟨⟨vs, vs[i]'(by rw [r.length]; exact hi), hq, by simp⟩, fun x H2 yl => ?_⟩, fun hi => ⟨vs, hq, by rw [r.length]; exact hi⟩⟩
  obtain ⟨e1, e2⟩ := yl
  subst e1
  refine ⟨G1, Stp.refl rl, fun d hd => ?_⟩
  obtain ⟨v, z1, z2⟩ := r.get hd
  have := e2 vs hq
  rw [z1] at this
  cases this
  exact z2.mono sg
theorem it_own {q : Addr} {ds : List D} : ItD K G (some (q, ds)) (Itl K q) ds := by
  intro G1 H1 S1 sg rl hgd i
  obtain ⟨vs, e1, r, e3⟩ := (rl.own q _ hgd).2
  have hq : SqL K H1 q vs := SqL.of e1
  refine ⟨fun hi => ⟨⟨vs, vs[i]'(by rw [r.length]; exact hi), hq, by simp⟩, fun x H2 yl => ?_⟩, fun hi => ⟨vs, hq, by rw [r.length]; exact hi⟩⟩
  obtain ⟨e1, e2⟩ := yl
  subst e1
  refine ⟨G1, Stp.refl rl, fun d hd => ?_⟩
  obtain ⟨v, z1, z2⟩ := r.get hd
  have := e2 vs hq
  rw [z1] at this
  cases this
  exact z2
theorem it_tup {q : Addr} {vs : List V} {ds : List D} (h : G q = some (.tup vs)) (r : Rps K G vs ds) : ItD K G none (Itt K q) ds := by
  intro G1 H1 S1 sg rl _ i
  have hq : SqT K H1 q vs := SqT.of (rl.at (sg _ _ h) rfl)
  refine ⟨fun hi => ⟨⟨vs, vs[i]'(by rw [r.length]; exact hi), hq, by simp⟩, fun x H2 yl => ?_⟩, fun hi => ⟨vs, hq, by rw [r.length]; exact hi⟩⟩
  obtain ⟨e1, e2⟩ := yl
  subst e1
  refine ⟨G1, Stp.refl rl, fun d hd => ?_⟩
  obtain ⟨v, z1, z2⟩ := r.get hd
  have := e2 vs hq
  rw [z1] at this
  cases this
  exact z2.mono sg
theorem it_str {z : Str} (hz : okS z) : ItD K G none (Its z) (z.cps.toList.map fun c => .str (one c)) := by
  intro G1 H1 S1 sg rl _ i
  refine ⟨fun hi => ⟨(by simpa using hi : i < z.cps.size), fun x H2 yl => ?_⟩, fun hi => (by simpa using hi : z.cps.size ≤ i)⟩
  obtain ⟨e1, c, e2, e3⟩ := yl
  subst e1 e3
  refine ⟨G1, Stp.refl rl, fun d hd => ?_⟩
  have h2 : z.cps.toList[i]? = some c := by rw [Array.getElem?_toList]; exact e2
  rw [List.getElem?_map, h2] at hd
  cases hd
  refine .str (okS_sub (s := z) hz (fun q hq => ?_) ?_)
  · have : q = c := by simpa using hq
    subst this
    exact List.mem_of_getElem? h2
  · have := Array.getElem?_eq_some_iff.mp e2
    obtain ⟨h, _⟩ := this
    show 1 ≤ z.cps.size
    omega
/-- what a for walks by itself: a list, a tuple, a text -/
def iAny (K : PySem.W.Frag) (te : TE) : TI := fun σ H R => te σ H fun x H1 => (∃ q vs, x = .ref q ∧ SqL K H1 q vs ∧ R (Itl K q) H1) ∨ (∃ q vs, x = .ref q ∧ SqT K H1 q vs ∧ R (Itt K q) H1) ∨ ∃ z, x = .str z ∧ R (Its z) H1
theorem pi_any {tg : Expr} {te : TE} (he : PE X e te) : PI X tg e (iAny X.K te) := by
  constructor
  intro pins s σ H R I h
  apply thn (he.run pins s σ H _ I h)
  rintro v s1 ⟨y, H1, I1, r1, q1⟩
  rcases q1 with ⟨q, vs, rfl, hq, hR⟩ | ⟨q, vs, rfl, hq, hR⟩ | ⟨z, rfl, hR⟩
  · obtain rfl : v = Value.ref q := r1
    obtain ⟨its, _, pl, _⟩ := I1.list hq
    exact wpAny_pyIter_list pl.isList (pi_one (tk := s1.toks) I1 _ (turn_list q _) ⟨_, Heap.get?_push_size _ rfl, rfl, rfl⟩ hR)
  · obtain rfl : v = Value.ref q := r1
    obtain ⟨its, _, pl, _⟩ := I1.tuple hq
    exact wpAny_pyIter_tuple (show s1.heap.IsTuple q its.toArray from pl) (pi_one (tk := s1.toks) I1 _ (turn_tuple q _) ⟨_, Heap.get?_push_size _ rfl, rfl, rfl⟩ hR)
  · obtain ⟨tk, rfl⟩ := r1
    by_cases hA : z.cps.all (fun c => decide (c < 128)) = true
    · exact wpAny_pyIter_ascii hA (pi_one (tk := s1.toks) I1 _ (turn_str _ z tk "str_ascii_iterator" (Or.inl rfl)) ⟨_, Heap.get?_push_size _ rfl, rfl, rfl⟩ hR)
    · exact wpAny_pyIter_wide (Bool.eq_false_iff.mpr hA) (pi_one (tk := s1.toks) I1 _ (turn_str _ z tk "str_iterator" (Or.inr rfl)) ⟨_, Heap.get?_push_size _ rfl, rfl, rfl⟩ hR)
theorem di_items {tg : Expr} {t : DTE} (ha : PD X a t) : PDI X tg a (dItems t) := ⟨fun W tk => PI.weak (pi_any (ha.run W tk)) (by
  rintro σ H R ⟨G, δ, S, QD, XD, re, rl, h, kq, kx⟩
  refine ⟨G, δ, S, _, XD, re, rl, h, fun G1 H1 S1 v d s1 rv q => ?_, kx⟩
  split at q
  · cases rv with
    | lst hg rs l => exact .inl ⟨_, _, rfl, SqL.of (s1.rel.at hg rfl), kq _ _ _ _ none _ s1 (it_lst hg rs) l q⟩
  · cases rv with
    | tup hg rs l => exact .inr (.inl ⟨_, _, rfl, SqT.of (s1.rel.at hg rfl), kq _ _ _ _ none _ s1 (it_tup hg rs) l q⟩)
  · cases rv with
    | str hz => exact .inr (.inr ⟨_, rfl, kq _ _ _ _ none _ s1 (it_str hz) (by simp only [List.length_map, Array.length_toList]; exact hz.1) q⟩)
  · rename_i a
    rw [ownk_is] at q
    split at q
    · rename_i ds e
      cases rv
      obtain ⟨vs, e1, e2, e3⟩ := (s1.rel.own a _ e).2
      exact .inl ⟨_, _, rfl, SqL.of e1, kq _ _ _ _ (some (a, ds)) _ s1 it_own e3 q⟩
    · exact q.elim
  · exact q.elim)⟩
/-- enumerate(list): pairs -/
def enumD : Nat → List D → List D
  | _, [] => []
  | n, d :: r => .tup [.int (n : Nat), d] :: enumD (n + 1) r
theorem enumD_len : ∀ (n : Nat) (ds : List D), (enumD n ds).length = ds.length
  | _, [] => rfl
  | n, _ :: r => congrArg Nat.succ (enumD_len (n + 1) r)
theorem enumD_get : ∀ (n : Nat) (ds : List D) (i : Nat) (d : D), (enumD n ds)[i]? = some d → ∃ y, ds[i]? = some y ∧ d = .tup [.int ((n + i : Nat) : Int), y]
  | n, [], i, d, h => by simp [enumD] at h
  | n, y :: r, 0, d, h => by simp [enumD] at h; exact ⟨y, rfl, by rw [← h]; rfl⟩
  | n, y :: r, i + 1, d, h => by
    obtain ⟨z, h1, h2⟩ := enumD_get (n + 1) r i d (by simpa [enumD] using h)
    exact ⟨z, by simpa using h1, by rw [h2]; congr 3; omega⟩
def dEnum (t : DTA) : DTI := fun δ S Q X => t δ S (fun ds S1 => match ds with
  | [.lst l] => Q none (enumD 0 l) S1
  | [.adr a] => ownk S1 a fun o => (match o with
    | some (.lst l) => Q (some (a, l)) (enumD 0 l) S1
    | _ => False)
  | _ => False) X
theorem di_enum {elts : List Expr} {kk : Nat} {tpos : Pos} {t : DTA} (hg : Gl X "enumerate") (hm : X.mg "enumerate" = none) (ha : PDA X [e] t) (hs : starEach [e] X.env = [(false, eval e X.env)] := by rfl) : PDI X (.Tuple elts kk tpos) (.Call (.Name "enumerate" p) [e] [] pos) (dEnum t) := ⟨fun W tk => PI.weak (pi_enum hg hm (ha.run W tk) hs) (by
  rintro σ H R ⟨G, δ, S, QD, XD, re, rl, h, kq, kx⟩
  refine ⟨G, δ, S, _, XD, re, rl, h, fun G1 H1 S1 vs ds s1 rs q => ?_, kx⟩
  split at q
  · rename_i l
    cases rs with
    | cons r1 r2 =>
    cases r2
    cases r1 with
    | lst hg rv hl =>
    rename_i a us
    refine ⟨a, us, rfl, SqL.of (s1.rel.at hg rfl), kq _ _ _ _ none (enumD 0 l) s1 ?_ (by rw [enumD_len]; exact hl) q⟩
    intro G2 H2 S2 sg rl2 _ i
    have hq : SqL X.K H2 a us := SqL.of (rl2.at (sg _ _ hg) rfl)
    rw [enumD_len]
    refine ⟨fun hi => ⟨⟨us, us[i]'(by rw [rv.length]; exact hi), hq, by simp⟩, fun x H3 yl => ?_⟩, fun hi => ⟨us, hq, by rw [rv.length]; exact hi⟩⟩
    obtain ⟨T, y, rfl, hT, rfl, hy⟩ := yl
    have s2 : Stp X.K G2 H2 S2 (upd G2 T (.tup [.int (i : Nat), y])) (upd H2 T (.tup [.int (i : Nat), y])) S2 := Stp.newF rl2 hT
    refine ⟨_, s2, fun d hd => ?_⟩
    obtain ⟨z, z1, z2⟩ := enumD_get 0 l i d hd
    subst z2
    obtain ⟨v, w1, w2⟩ := rv.get z1
    have := hy us hq
    rw [w1] at this
    cases this
    rw [Nat.zero_add]
    exact .tup upd_same (.cons (.int _) (.cons ((w2.mono sg).mono s2.sg) .nil)) (by show 2 ≤ sizeLine; decide)
  · rename_i a
    rw [ownk_is] at q
    split at q
    · rename_i l e
      cases rs with
      | cons r1 r2 =>
      cases r2
      cases r1
      obtain ⟨us, e1, rv, hl⟩ := (s1.rel.own a _ e).2
      refine ⟨a, us, rfl, SqL.of e1, kq _ _ _ _ (some (a, l)) (enumD 0 l) s1 ?_ (by rw [enumD_len]; exact hl) q⟩
      intro G2 H2 S2 sg rl2 hgd i
      obtain ⟨us, e1, rv, hl⟩ := (rl2.own a _ hgd).2
      have hq : SqL X.K H2 a us := SqL.of e1
      rw [enumD_len]
      refine ⟨fun hi => ⟨⟨us, us[i]'(by rw [rv.length]; exact hi), hq, by simp⟩, fun x H3 yl => ?_⟩, fun hi => ⟨us, hq, by rw [rv.length]; exact hi⟩⟩
      obtain ⟨T, y, rfl, hT, rfl, hy⟩ := yl
      have s2 : Stp X.K G2 H2 S2 (upd G2 T (.tup [.int (i : Nat), y])) (upd H2 T (.tup [.int (i : Nat), y])) S2 := Stp.newF rl2 hT
      refine ⟨_, s2, fun d hd => ?_⟩
      obtain ⟨z, z1, z2⟩ := enumD_get 0 l i d hd
      subst z2
      obtain ⟨v, w1, w2⟩ := rv.get z1
      have := hy us hq
      rw [w1] at this
      cases this
      rw [Nat.zero_add]
      exact .tup upd_same (.cons (.int _) (.cons (w2.mono s2.sg) .nil)) (by show 2 ≤ sizeLine; decide)
    · exact q.elim
  · exact q.elim)⟩
end
end SM

set_option Elab.async false
set_option linter.all false
set_option maxRecDepth 100000
set_option maxHeartbeats 2000000
namespace SM
open PySem PySem.Spec PyProof.Rows L2
variable {K : PySem.W.Frag} {G G' G2 H H' H2 : Hp} {S S' S2 : Sto}
/-! ### promises over data -/
def toSp (K : PySem.W.Frag) (R : DSp) : Sp := fun vs H Q E => ∃ G S ds QD XD, Rel K G H S ∧ Rps K G vs ds ∧ R ds S QD XD ∧ (∀ G' H' S' v d, Stp K G H S G' H' S' → Rp K G' v d → QD d S' → Q v H') ∧
  ∀ G' H' S' cls d x, Stp K G H S G' H' S' → Rx K G' cls d x → XD x S' → E cls d H'
def startD : List Str → List D → DS
  | [], _ => []
  | _ :: n, [] => none :: startD n []
  | _ :: n, d :: ds => some d :: startD n ds
theorem startD_len : ∀ (N : List Str) (ds : List D), (startD N ds).length = N.length
  | [], _ => rfl
  | _ :: n, [] => congrArg Nat.succ (startD_len n [])
  | _ :: n, _ :: ds => congrArg Nat.succ (startD_len n ds)
theorem startD_nth : ∀ (N : List Str) (ds : List D) (i : Nat) (d : D), nth (startD N ds) i = some d → ds[i]? = some d
  | [], _, _, _, h => by simp [startD, nth] at h
  | _ :: n, [], 0, _, h => by simp [startD, nth] at h
  | _ :: n, [], i + 1, d, h => by have := startD_nth n [] i d (by simpa [startD, nth] using h); simp at this
  | _ :: n, e :: ds, 0, d, h => by simpa [startD, nth] using h
  | _ :: n, e :: ds, i + 1, d, h => by simpa using startD_nth n ds i d (by simpa [startD, nth] using h)
theorem startD_rpe {N : List Str} {vs : List V} {ds : List D} (r : Rps K G vs ds) (hl : ds.length ≤ N.length) : RpE K G (L2.start N vs) (startD N ds) := by
  refine ⟨?_, fun i d h => ?_⟩
  · rw [startD_len, L2.start, List.length_append, List.length_map, List.length_replicate, r.length]; omega
  · obtain ⟨v, h1, h2⟩ := r.get (startD_nth N ds i d h)
    refine ⟨v, ?_, h2⟩
    have hi := (List.getElem?_eq_some_iff.mp h1).1
    rw [L2.start, List.getElem?_append_left (by rw [List.length_map]; exact hi), List.getElem?_map, h1]
    rfl
section
variable {P : Program} {w : World} {mg : Str → Option Value} {base : Heap}
theorem fnD {x qual : Str} {params : Arguments} {body : List Stmt} {scope : Scope} {dvs : List V} {kws : List (Str × V)} {f : Addr} {fd : FuncData} {N ps : List Str} {k : Nat} (F : FunD K x qual params body scope dvs kws f fd) (Sc : FnScope N ps scope) (R : DSp)
    (len : ∀ ds S Q E, R ds S Q E → ds.length = ps.length) (hps : ps.length ≤ N.length)
    (hb : ∀ (cdv : Value) (A : Around) (outer : List Env) (s : Shared) (H : Hp) (E : XK), Room k (A.deeper (envOfC qual scope s.heap.objs.size f cdv)) → ∃ ts, PDSs (cxOf (L2N.CX P w) P w K mg base N qual scope f cdv A outer s H E) body ts ∧
      ∀ ds S QD XD, R ds S QD XD → ts ⟨fun _ S' => QD .non S', QD, fun _ _ => False, fun _ _ => False, fun x _ S' => XD x S'⟩ (startD N ds) S) : FnOk P w K mg base (L2N.CX P w) (k + 1) f fd ps (toSp K R) := by
  refine F.ok Sc (fun vs H Q E h => ?_) (fun cdv A outer s H vs Q E hr h => ?_)
  · obtain ⟨G, S, ds, QD, XD, _, rs, h, _⟩ := h
    rw [rs.length]; exact len _ _ _ _ h
  · obtain ⟨G, S, ds, QD, XD, rl, rs, h, kq, kx⟩ := h
    obtain ⟨ts, p, q⟩ := hb cdv A outer s H E hr
    refine ⟨liftS K (fun cls d _ H => E cls d H) ts, p.run _ (L2N.takes_of rfl rfl rfl rfl) (passes_of rfl), ⟨G, startD N ds, S, _, startD_rpe rs (by rw [len _ _ _ _ h]; exact hps), rl, q ds S QD XD h, ?_⟩⟩
    exact ⟨fun G1 H1 S1 σ δ s1 _ q => kq _ _ _ _ _ s1 .non q, fun G1 H1 S1 v d s1 r q => kq _ _ _ _ _ s1 r q, fun _ _ _ _ _ _ _ q => q.elim, fun _ _ _ _ _ _ _ q => q.elim, fun G1 H1 S1 σ δ cls d x s1 _ r q => kx _ _ _ _ _ _ s1 r q⟩
end
section
variable {X : Cx} {e a b c o i : Expr} {es : List Expr} {st : Stmt} {sts rest : List Stmt} {pos p apos cpos pos' : Pos} {W : WX} {k : Nat} {x m : Str} {t : DTA} {te : DTE} {f C : Addr} {fd : FuncData} {ps : List Str} {R : DSp} {dvs : List V} {dds : List D} {ds : List Value}
/-! ### calls of defs -/
def dCall (R : DSp) (dds : List D) (t : DTA) : DTE := fun δ S Q X => t δ S (fun ds S1 => R (ds ++ dds) S1 Q X) X
theorem sim_call {σ : L2.St} {H : Hp} {Q : VK} (hdd : ∀ G, Rps K G dvs dds) (h : liftE K W (dCall R dds t) σ H Q) : liftA K W t σ H fun vs H1 => toSp K R (vs ++ dvs) H1 Q (WE W σ) := by
  obtain ⟨G, δ, S, QD, XD, re, rl, h, kq, kx⟩ := h
  exact ⟨G, δ, S, _, XD, re, rl, h, fun G1 H1 S1 vs ds s1 rs q => ⟨G1, S1, ds ++ dds, QD, XD, s1.rel, rs.append (hdd G1), q, fun G2 H2 S2 v d s2 r q => kq _ _ _ _ _ (s1.trans s2) r q, fun G2 H2 S2 cls d x s2 r q => kx _ _ _ _ _ _ (s1.trans s2) r q⟩, kx⟩
theorem de_call (F : FnOk X.prog X.w X.K X.mg X.base (L2N.CX X.prog X.w) k f fd ps (toSp X.K R)) (hr : Room k X.A) (hg : Gl X x) (hm : X.mg x = some (.ref f)) (hk : PySem.W.keepIn X.K (.ref f) = true) (hb : Binds X.K fd ps ds) (hd : Vals dvs ds) (hdd : ∀ G, Rps X.K G dvs dds)
    (ha : PDA X (e :: es) t) (hdb : (x == ("__debug__" : Str)) = false := by decide) (he : starEach (e :: es) X.env = (false, eval e X.env) :: starEach es X.env := by rfl) (hpl : (backTo pos (starEach es X.env)).any (·.1) = false := by rfl) :
    PD X (.Call (.Name x p) (e :: es) [] pos) (dCall R dds t) := ⟨fun W tk => PE.weak (pe_callSD (E := WE W) F hr hg hm hk hb hd (fun σ => L2N.passAt tk σ) (ha.run W tk) hdb he hpl) fun σ H Q h => sim_call hdd h⟩
theorem run_fnD {pins : List (Addr × Obj)} {σ : L2.St} {H : Hp} {s : Shared} {Q : VK} {us : List Value} {vs : List V} (F : FnOk X.prog X.w X.K X.mg X.base (L2N.CX X.prog X.w) k f fd ps (toSp X.K R)) (hr : Room k X.A) (hb : Binds X.K fd ps ds) (hd : Vals dvs ds) (tk : L2N.Takes X W)
    (I : Inv X pins σ H s) (r : Vals vs us) (h : toSp X.K R (vs ++ dvs) H Q (WE W σ)) : wpAny (model X.prog X.w) X.A (call (.ref f) us) (EP X pins σ Q) X.xe s := run_fnSD (E := WE W) F hr hb hd (L2N.passAt tk σ) I r h
theorem de_call0 (F : FnOk X.prog X.w X.K X.mg X.base (L2N.CX X.prog X.w) k f fd ps (toSp X.K R)) (hr : Room k X.A) (hg : Gl X x) (hm : X.mg x = some (.ref f)) (hk : PySem.W.keepIn X.K (.ref f) = true) (hb : Binds X.K fd ps ds) (hd : Vals dvs ds) (hdd : ∀ G, Rps X.K G dvs dds)
    (hdb : (x == ("__debug__" : Str)) = false := by decide) : PD X (.Call (.Name x p) [] [] pos) (dCall R dds dNil) := ⟨fun W tk => ⟨fun pins s σ H Q I h => by
  apply wpAny_Call_Name_kw
  apply ld_glob I hg hm (hd := hdb)
  apply PySem.W.callWith_K0 I.kIn hk
  refine run_fnD (us := []) F hr hb hd tk I .nil ?_
  obtain ⟨G, δ, S, QD, XD, re, rl, h, kq, kx⟩ := h
  exact ⟨G, S, _, QD, XD, rl, hdd G, h, kq, kx⟩⟩⟩

/-! ### methods -/
/-- the class's facts -/
structure MOk (K : PySem.W.Frag) (c : Nat) (m : Str) (f : Addr) : Prop where
  cl : Cls K (cad K c)
  me : Meth K (cad K c) m f
  nf : m ∉ cfs c
theorem lookup_none {m : Str} : ∀ {ns : List Str} {vs : List V}, m ∉ ns → (ns.zip vs).lookup m = none
  | [], _, _ => by simp
  | _ :: _, [], _ => by simp
  | n :: ns, v :: vs, h => by
    simp only [List.mem_cons, not_or] at h
    rw [List.zip_cons_cons, List.lookup_cons]
    have : (m == n) = false := by simpa using h.1
    rw [this]
    exact lookup_none h.2
def dMeth (c : Nat) (R : DSp) (dds : List D) (to : DTE) (t : DTA) : DTE := fun δ S Q X => to δ S (fun x S1 => vwk S1 x fun x' => match x' with
  | .ins c' _ => c' = c ∧ t δ S1 (fun ds S2 => R (x :: (ds ++ dds)) S2 Q X) X
  | _ => False) X
theorem de_meth {pl : Sem Bool} {c : Nat} {to : DTE} (ho : PD X o to) (M : MOk X.K c m f) (F : FnOk X.prog X.w X.K X.mg X.base (L2N.CX X.prog X.w) k f fd ps (toSp X.K R)) (hr : Room k X.A) (hb : Binds X.K fd ps ds) (hd : Vals dvs ds) (hdd : ∀ G, Rps X.K G dvs dds) (ha : PDA X (e :: es) t)
    (hst : starEach (e :: es) X.env = (false, eval e X.env) :: starEach es X.env := by rfl) (hpl : (backTo pos (starEach es X.env)).any (·.1) = false := by rfl)
    (ht : eval (.Call (.Attribute o m apos) (e :: es) [] pos) X.env = (do
      let ov ← eval o X.env
      standAt apos.atName
      let (f, first) ← holding [ov] (getMethod ov m pl)
      callWith pos f first (backTo pos (starEach (e :: es) X.env)) (backToKw pos (keywordEach [] X.env))) := by rfl) :
    PD X (.Call (.Attribute o m apos) (e :: es) [] pos) (dMeth c R dds to t) := ⟨fun W tk => ⟨fun pins s σ H Q I h => by
  obtain ⟨G, δ, S, QD, XD, re, rl, h, kq, kx⟩ := h
  refine PySem.W.methodCall_KW (pl := pl) ?_ ht
  apply thn ((ho.run W tk).run pins s σ H (fun v H1 => ∃ q dx fs, v = .ref q ∧ H1 q = some (.ins (cad X.K c) dx fs) ∧ fs.lookup m = none ∧ liftA X.K W t σ H1 (fun vs H2 => toSp X.K R (v :: (vs ++ dvs)) H2 Q (WE W σ))) I ⟨G, δ, S, _, XD, re, rl, h, fun G1 H1 S1 v d s1 rv q => ?_, kx⟩)
  · rintro u s1 ⟨y, H1, I1, rx, q, dx, fs, rfl, eq, l, hq⟩
    obtain rfl : u = Value.ref q := rx
    refine getmeth_ok I1 eq M.cl M.me l ?_
    refine PySem.W.callWith_K (first := [.ref q]) (h₀ := X.base) I.ok.mod.kin M.me.kp ?_ hst hpl
    apply thn ((ha.run W tk).run pos pins s1 σ H1 _ I1 hq)
    rintro us s2 ⟨vs, H2, I2, r, q2⟩
    exact ⟨I2.kIn, run_fnD (us := .ref q :: us) (vs := .ref q :: vs) F hr hb hd tk I2 (.cons rfl r) q2⟩
  · simp only [vwk_is] at q
    split at q
    · rename_i c' fs ex
      obtain ⟨rfl, q⟩ := q
      obtain ⟨z, dx, vs, rfl, hz, rs, _⟩ := vw_ins s1.rel rv ex
      refine ⟨z, dx, _, rfl, hz, lookup_none M.nf, G1, δ, S1, _, XD, re.mono s1.sg, s1.rel, q, fun G2 H2 S2 ws es s2 rw' q2 => ?_, kx.step s1⟩
      exact ⟨G2, S2, _, QD, XD, s2.rel, .cons (rv.mono s2.sg) (rw'.append (hdd G2)), q2, fun G3 H3 S3 v d s3 r q => kq _ _ _ _ _ ((s1.trans s2).trans s3) r q, fun G3 H3 S3 cls d x s3 r q => kx _ _ _ _ _ _ ((s1.trans s2).trans s3) r q⟩
    · exact q.elim⟩⟩
end
end SM

set_option Elab.async false
set_option linter.all false
set_option maxRecDepth 100000
set_option maxHeartbeats 2000000
namespace SM
open PySem PySem.Spec PyProof.Rows L2
variable {K : PySem.W.Frag} {G G' G2 H H' H2 : Hp} {S S' S2 : Sto}
section
variable {X : Cx} {e a b c o i : Expr} {es : List Expr} {st : Stmt} {sts rest : List Stmt} {pos p apos cpos pos' : Pos} {W : WX} {k : Nat} {x m fl : Str} {t : DTA} {te to : DTE} {f C : Addr} {fd : FuncData} {ps : List Str} {R : DSp} {dvs : List V} {dds : List D} {ds : List Value}
/-! ### fields -/
/-- where a field stands, class by class -/
def fsel : List (Nat × Nat) → Nat → Option Nat
  | [], _ => none
  | (c, j) :: r, d => match Nat.beq c d with
    | true => some j
    | false => fsel r d
def FOk (K : PySem.W.Frag) (fl : Str) (tbl : List (Nat × Nat)) : Prop := ∀ c j, fsel tbl c = some j → Cls K (cad K c) ∧ NoAttr K (cad K c) fl ∧ (cfs c)[j]? = some fl ∧ (cfs c).Nodup
theorem fok_nil : FOk K fl [] := fun _ _ h => by cases h
theorem fok_cons {c j : Nat} {tbl : List (Nat × Nat)} (h1 : Cls K (cad K c)) (h2 : NoAttr K (cad K c) fl) (h3 : (cfs c)[j]? = some fl) (h4 : (cfs c).Nodup) (hr : FOk K fl tbl) : FOk K fl ((c, j) :: tbl) := fun c' j' h => by
  unfold fsel at h
  split at h
  · rename_i e
    have : c = c' := Nat.eq_of_beq_eq_true e
    subst this
    cases h
    exact ⟨h1, h2, h3, h4⟩
  · exact hr c' j' h
theorem lookup_zip {fl : Str} : ∀ {ns : List Str} {vs : List V} {j : Nat} {v : V}, ns.Nodup → ns[j]? = some fl → vs[j]? = some v → (ns.zip vs).lookup fl = some v
  | [], _, _, _, _, h, _ => by simp at h
  | _ :: _, [], _, _, _, _, h => by simp at h
  | n :: ns, u :: vs, 0, v, _, h, h' => by
    simp at h h'
    subst h h'
    simp [List.lookup]
  | n :: ns, u :: vs, j + 1, v, nd, h, h' => by
    simp only [List.getElem?_cons_succ] at h h'
    rw [List.nodup_cons] at nd
    have : (fl == n) = false := by
      rw [beq_eq_false_iff_ne]
      intro z
      subst z
      exact nd.1 (List.mem_of_getElem? h)
    rw [List.zip_cons_cons, List.lookup_cons, this]
    exact lookup_zip nd.2 h h'
theorem putF_set {fl : Str} {v : V} : ∀ {ns : List Str} {vs : List V} {j : Nat}, ns.Nodup → ns[j]? = some fl → j < vs.length → putF fl v (ns.zip vs) = ns.zip (vs.set j v)
  | [], _, _, _, h, _ => by simp at h
  | _ :: _, [], _, _, _, h => by simp at h
  | n :: ns, u :: vs, 0, _, h, _ => by
    simp at h
    subst h
    simp [putF]
  | n :: ns, u :: vs, j + 1, nd, h, h' => by
    simp only [List.getElem?_cons_succ] at h
    rw [List.nodup_cons] at nd
    have hn : ¬ n = fl := by
      intro z
      subst z
      exact nd.1 (List.mem_of_getElem? h)
    rw [List.zip_cons_cons, putF, if_neg hn, putF_set nd.2 h (by simpa using h')]
    rfl
theorem putF_app {fl : Str} {v : V} : ∀ {ns : List Str} {vs : List V}, ns.Nodup → ns[vs.length]? = some fl → putF fl v (ns.zip vs) = ns.zip (vs ++ [v])
  | [], _, _, h => by simp at h
  | n :: ns, [], nd, h => by
    simp at h
    subst h
    simp [putF]
  | n :: ns, u :: vs, nd, h => by
    simp only [List.length_cons, List.getElem?_cons_succ] at h
    rw [List.nodup_cons] at nd
    have hn : ¬ n = fl := by
      intro z
      subst z
      exact nd.1 (List.mem_of_getElem? h)
    rw [List.zip_cons_cons, putF, if_neg hn, putF_app nd.2 h]
    rfl
def dFld (tbl : List (Nat × Nat)) (to : DTE) : DTE := fun δ S Q X => to δ S (fun x S1 => vwk S1 x fun x' => match x' with
  | .ins c ds => (match fsel tbl c with
    | some j => (match ds[j]? with
      | some d => Q d S1
      | none => False)
    | none => False)
  | _ => False) X
theorem de_fld {tbl : List (Nat × Nat)} (ho : PD X e to) (hf : FOk X.K fl tbl) (hb : attributeBase e fl X.env (eval e X.env) = eval e X.env := by rfl) : PD X (.Attribute e fl pos) (dFld tbl to) := ⟨fun W tk => PE.weak (pe_fld (ho.run W tk) hb) (by
  rintro σ H Q ⟨G, δ, S, QD, XD, re, rl, h, kq, kx⟩
  refine ⟨G, δ, S, _, XD, re, rl, h, fun G1 H1 S1 v d s1 rv q => ?_, kx⟩
  simp only [vwk_is] at q
  split at q
  · rename_i c ds ex
    obtain ⟨z, dx, vs, rfl, hz, rs, hl⟩ := vw_ins s1.rel rv ex
    split at q
    · rename_i j ej
      obtain ⟨h1, h2, h3, h4⟩ := hf c j ej
      split at q
      · rename_i d ed
        obtain ⟨w, e1, e2⟩ := rs.get ed
        exact ⟨z, _, dx, _, w, rfl, hz, h1, h2, lookup_zip h4 h3 e1, kq _ _ _ _ _ s1 e2 q⟩
      · exact q.elim
    · exact q.elim
  · exact q.elim)⟩
/-- o.f = e, o in the store -/
def dSetF (tbl : List (Nat × Nat)) (to te : DTE) : DTS := fun E δ S => te δ S (fun d S1 => to δ S1 (fun y S2 => match y with
  | .adr q => ownk S2 q fun oo => (match oo with
    | some (.ins c fs) => (match fsel tbl c with
      | some j => (match Nat.blt j fs.length with
        | true => E.nx δ (su S2 q (.ins c (fs.set j d)))
        | false => j = fs.length ∧ E.nx δ (su S2 q (.ins c (fs ++ [d]))))
      | none => False)
    | _ => False)
  | _ => False) (fun x S1 => E.xc x δ S1)) (fun x S1 => E.xc x δ S1)
theorem ds_setF {tbl : List (Nat × Nat)} (ho : PD X o to) (he : PD X e te) (hf : FOk X.K fl tbl) (hs : swapsWith e (some (.Attribute o fl pos')) pos.line X.env = pure false := by rfl) : PDS X (.Assign [.Attribute o fl pos'] e pos) (dSetF tbl to te) := ⟨fun W tk po => PS.weak (ps_fld (ho.run W tk) (he.run W tk) hs) (by
  rintro D σ H ⟨G, δ, S, E, re, rl, h, er⟩
  refine ⟨G, δ, S, _, _, re, rl, h, fun G1 H1 S1 v d s1 rv q => ⟨G1, δ, S1, _, _, re.mono s1.sg, s1.rel, q, fun G2 H2 S2 y dy s2 ry q2 => ?_, (er.kx re).step s1⟩, er.kx re⟩
  split at q2
  · rename_i q
    cases ry
    simp only [ownk_is] at q2
    split at q2
    · rename_i c fs eS
      split at q2
      · rename_i j ej
        obtain ⟨h1, h2, h3, h4⟩ := hf c j ej
        obtain ⟨_, dx, vs, e1, r1, l1⟩ := s2.rel.own q _ eS
        have hlen : ((cfs c).zip vs).length < 1000 := by
          rw [List.length_zip]
          have : (cfs c).length < 1000 := by
            unfold cfs
            split <;> decide
          omega
        refine ⟨q, _, dx, _, rfl, e1, h1, h2, hlen, ?_⟩
        split at q2
        · rename_i hj
          have hj : j < fs.length := Nat.lt_of_succ_le (by simpa [Nat.blt] using hj)
          have s3 : Stp X.K G2 H2 S2 G2 (upd H2 q (.ins (cad X.K c) dx (putF fl v ((cfs c).zip vs)))) (su S2 q (.ins c (fs.set j d))) := Stp.mut s2.rel eS ⟨dx, vs.set j v, by rw [putF_set h4 h3 (by rw [r1.length]; exact hj)], r1.set (rv.mono s2.sg) j, by rw [List.length_set]; exact l1⟩
          have s13 := (s1.trans s2).trans s3
          exact er.nx _ _ _ _ _ s13 (re.mono s13.sg) q2
        · obtain ⟨hj, q2⟩ := q2
          have s3 : Stp X.K G2 H2 S2 G2 (upd H2 q (.ins (cad X.K c) dx (putF fl v ((cfs c).zip vs)))) (su S2 q (.ins c (fs ++ [d]))) := Stp.mut s2.rel eS ⟨dx, vs ++ [v], by rw [putF_app h4 (by rw [r1.length, ← hj]; exact h3)], r1.append (.cons (rv.mono s2.sg) .nil), by
            have := (List.getElem?_eq_some_iff.mp h3).1
            rw [List.length_append, List.length_singleton]; omega⟩
          have s13 := (s1.trans s2).trans s3
          exact er.nx _ _ _ _ _ s13 (re.mono s13.sg) q2
      · exact q2.elim
    · exact q2.elim
  · exact q2.elim)⟩

/-! ### methods of built-in types -/
inductive Bt where
  | lst | str | dct
def Bt.nm : Bt → String
  | .lst => "list" | .str => "str" | .dct => "dict"
def Bt.is : Bt → D → Bool
  | .lst, .lst _ => true
  | .str, .str _ => true
  | .dct, .dT _ => true
  | _, _ => false
def dBM (T : Bt) (r : RCD) (to : DTE) (t : DTA) : DTE := fun δ S Q X => to δ S (fun x S1 => vwk S1 x fun x' => match T.is x' with
  | true => t δ S1 (fun ds S2 => r (x :: ds) S2 Q) X
  | false => False) X
theorem MtR.weak {id : String} {r r' : V → List V → Hp → VK → Prop} (h : MtR X id r) (w : ∀ x xs H Q, r' x xs H Q → r x xs H Q) : MtR X id r' := fun pins s σ H x xs v us Q I rx rs q => h pins s σ H x xs v us Q I rx rs (w x xs H Q q)
/-- the store's dicts and lists are not locked -/
theorem bt_ty (rl : Rel K G H S) {T : Bt} {v : V} {d : D} (r : Rp K G v d) (h : T.is (vw S d) = true) (hT : T ≠ .dct) : tyV K T.nm v H := by
  cases e : vw S d with
  | lst ds =>
    rw [e] at h
    obtain ⟨q, vs, rfl, hq, _, _⟩ := vw_lst rl r e
    cases T <;> simp [Bt.is] at h
    exact .inl ⟨rfl, vs, SqL.of hq⟩
  | str z =>
    rw [e] at h
    obtain ⟨e1, _⟩ := (vw_scal r).2.2.1 _ e
    subst e1
    cases T <;> simp [Bt.is] at h
    rfl
  | _ => rw [e] at h; cases T <;> simp [Bt.is] at h hT
theorem sim_bm {T : Bt} {r : RCD} (hT : T ≠ .dct) : ∀ σ H Q, liftE K W (dBM T r to t) σ H Q → tBM K T.nm (liftM K r) (liftE K W to) (liftA K W t) σ H Q := by
  rintro σ H Q ⟨G, δ, S, QD, XD, re, rl, h, kq, kx⟩
  refine ⟨G, δ, S, _, XD, re, rl, h, fun G1 H1 S1 v d s1 rv q => ?_, kx⟩
  simp only [vwk_is] at q
  split at q
  · rename_i ht
    exact ⟨bt_ty s1.rel rv ht hT, G1, δ, S1, _, XD, re.mono s1.sg, s1.rel, q, fun G2 H2 S2 vs ds s2 rs q2 => ⟨G2, S2, _, QD, s2.rel, .cons (rv.mono s2.sg) rs, q2, fun G3 H3 S3 v d s3 r q => kq _ _ _ _ _ ((s1.trans s2).trans s3) r q⟩, kx.step s1⟩
  · exact q.elim
/-- the arguments are plain and few -/
abbrev FewA (X : Cx) (q : Pos) (l : List Expr) : Prop := ((backTo q (starEach l X.env)).all (fun x => !x.1) && (backToKw q (keywordEach [] X.env)).all (fun x => x.1.isSome) && decide (l.length + ([] : List Keyword).length + (if ([] : List Keyword).isEmpty then 0 else 1) < 30)) = true
theorem de_bm {T : Bt} {r : RCD} {name : Str} {id : String} (hT : T ≠ .dct) (pa : PlainAttrs T.nm) (slot : Slot T.nm name id) (hty : typeOf (.builtin id) = pure (.type "method_descriptor")) (hm : MtR X id (liftM X.K r)) (ho : PD X o to) (ha : PDA X (e :: es) t)
    (hbase : attributeBase o name X.env (eval o X.env) = eval o X.env := by rfl) (hfew : FewA X cpos (e :: es) := by rfl) (hline : (apos.endLine == cpos.line) = true := by rfl) (he : starEach (e :: es) X.env = (false, eval e X.env) :: starEach es X.env := by rfl) (hpl : (backTo cpos (starEach es X.env)).any (·.1) = false := by rfl) :
    PD X (.Call (.Attribute o name apos) (e :: es) [] cpos) (dBM T r to t) := ⟨fun W tk => PE.weak (pe_bm pa slot hty hm (ho.run W tk) (ha.run W tk) hbase hfew hline he hpl) (sim_bm hT)⟩
def dBM0 (T : Bt) (r : RCD) (to : DTE) : DTE := fun δ S Q X => to δ S (fun x S1 => vwk S1 x fun x' => match T.is x' with
  | true => r [x] S1 Q
  | false => False) X
theorem de_bm0 {T : Bt} {r : RCD} {name : Str} {id : String} (hT : T ≠ .dct) (pa : PlainAttrs T.nm) (slot : Slot T.nm name id) (hty : typeOf (.builtin id) = pure (.type "method_descriptor")) (hm : MtR X id (liftM X.K r)) (ho : PD X o to)
    (hbase : attributeBase o name X.env (eval o X.env) = eval o X.env := by rfl) (hline : (apos.endLine == cpos.line) = true := by rfl) : PD X (.Call (.Attribute o name apos) [] [] cpos) (dBM0 T r to) := ⟨fun W tk => PE.weak (pe_bm0 pa slot hty hm (ho.run W tk) hbase hline) (by
  rintro σ H Q ⟨G, δ, S, QD, XD, re, rl, h, kq, kx⟩
  refine ⟨G, δ, S, _, XD, re, rl, h, fun G1 H1 S1 v d s1 rv q => ?_, kx⟩
  simp only [vwk_is] at q
  split at q
  · rename_i ht
    exact ⟨bt_ty s1.rel rv ht hT, G1, S1, _, QD, s1.rel, .cons rv .nil, q, fun G3 H3 S3 v d s3 r q => kq _ _ _ _ _ (s1.trans s3) r q⟩
  · exact q.elim)⟩
/-- xs.append(e), xs in the store -/
def appD : RCD := fun ds S Q => match ds with
  | [.adr q, d] => ownk S q fun oo => (match oo with
    | some (.lst es) => es.length < sizeLine ∧ Q .non (su S q (.lst (es ++ [d])))
    | _ => False)
  | _ => False
theorem m_append : MtR X "list.append" (liftM X.K appD) := MtR.weak mt_append (by
  rintro x xs H Q ⟨G, S, ds, QD, rl, rs, h, kq⟩
  unfold appD at h
  split at h
  · rename_i q d
    cases rs with
    | cons r1 r2 =>
    cases r2 with
    | cons r2 r3 =>
    cases r3
    cases r1
    simp only [ownk_is] at h
    split at h
    · rename_i es eS
      obtain ⟨_, vs, e1, re, l1⟩ := rl.own q _ eS
      refine ⟨q, vs, _, rfl, rfl, e1, by rw [re.length]; exact h.1, ?_⟩
      exact kq _ _ _ _ _ (Stp.mut (o' := .lst (es ++ [d])) rl eS ⟨_, rfl, re.append (.cons r2 .nil), by rw [List.length_append]; exact h.1⟩) .non h.2
    · exact h.elim
  · exact h.elim)
def revD : RCD := fun ds S Q => match ds with
  | [.adr q] => ownk S q fun oo => (match oo with
    | some (.lst es) => Q .non (su S q (.lst es.reverse))
    | _ => False)
  | _ => False
theorem m_reverse : MtR X "list.reverse" (liftM X.K revD) := MtR.weak mt_reverse (by
  rintro x xs H Q ⟨G, S, ds, QD, rl, rs, h, kq⟩
  unfold revD at h
  split at h
  · rename_i q
    cases rs with
    | cons r1 r2 =>
    cases r2
    cases r1
    simp only [ownk_is] at h
    split at h
    · rename_i es eS
      obtain ⟨_, vs, e1, re, l1⟩ := rl.own q _ eS
      refine ⟨q, vs, rfl, rfl, e1, ?_⟩
      exact kq _ _ _ _ _ (Stp.mut (o' := .lst es.reverse) rl eS ⟨_, rfl, re.reverse, by rw [List.length_reverse]; exact l1⟩) .non h
    · exact h.elim
  · exact h.elim)
/-- sep.join(xs) -/
def strsD : List D → Option (List Str)
  | [] => some []
  | .str s :: r => (match strsD r with
    | some l => some (s :: l)
    | none => none)
  | _ => none
theorem strsD_rps : ∀ {vs : List V} {ds : List D} {l : List Str}, Rps K G vs ds → strsD ds = some l → vs = l.map V.str ∧ ∀ s ∈ l, okS s
  | _, _, _, .nil, h => by cases h; exact ⟨rfl, fun _ h => nomatch h⟩
  | _, _, _, .cons r q, h => by
    unfold strsD at h
    split at h
    · rename_i e; cases e
    · rename_i s r' e
      cases e
      split at h
      · rename_i l' el
        cases h
        cases r with
        | str hs =>
        obtain ⟨z1, z2⟩ := strsD_rps q el
        exact ⟨by rw [z1]; rfl, fun s hs' => by
          rcases List.mem_cons.mp hs' with rfl | hm
          · exact hs
          · exact z2 s hm⟩
      · cases h
    · cases h
end
end SM

set_option Elab.async false
set_option linter.all false
set_option maxRecDepth 100000
set_option maxHeartbeats 2000000
namespace SM
open PySem PySem.Spec PyProof.Rows L2
variable {K : PySem.W.Frag} {G G' G2 H H' H2 : Hp} {S S' S2 : Sto}
section
variable {k : D → Prop} {ko : Option OO → Prop} {ds : List D} {kvs : List (List Key × D)} {c : Nat} {a b : Addr} {o u : OO}
theorem vk_non (q : k .non) : vwk S .non k := vwk_of rfl q
theorem vk_bl {z : Bool} (q : k (.bl z)) : vwk S (.bl z) k := vwk_of rfl q
theorem vk_int {z : Int} (q : k (.int z)) : vwk S (.int z) k := vwk_of rfl q
theorem vk_str {z : Str} (q : k (.str z)) : vwk S (.str z) k := vwk_of rfl q
theorem vk_ty {z : String} (q : k (.ty z)) : vwk S (.ty z) k := vwk_of rfl q
theorem vk_tup (q : k (.tup ds)) : vwk S (.tup ds) k := vwk_of rfl q
theorem vk_lst (q : k (.lst ds)) : vwk S (.lst ds) k := vwk_of rfl q
theorem vk_dT (q : k (.dT kvs)) : vwk S (.dT kvs) k := vwk_of rfl q
theorem vk_ins (q : k (.ins c ds)) : vwk S (.ins c ds) k := vwk_of rfl q
theorem vw_own {a : Addr} : ∀ {o : OO}, S a = some o → vw S (.adr a) = (match o with | .lst ds => .lst ds | .dT kvs => .dT kvs | .ins c ds => .ins c ds)
  | .lst _, h => by simp [vw, h]
  | .dT _, h => by simp [vw, h]
  | .ins _ _, h => by simp [vw, h]
theorem vk_ol (h : S a = some (.lst ds)) (q : k (.lst ds)) : vwk S (.adr a) k := vwk_of (vw_own h) q
theorem vk_od (h : S a = some (.dT kvs)) (q : k (.dT kvs)) : vwk S (.adr a) k := vwk_of (vw_own h) q
theorem vk_oi (h : S a = some (.ins c ds)) (q : k (.ins c ds)) : vwk S (.adr a) k := vwk_of (vw_own h) q
def ofO : OO → D
  | .lst ds => .lst ds
  | .dT kvs => .dT kvs
  | .ins c ds => .ins c ds
theorem vk_o (h : S a = some o) (q : k (ofO o)) : vwk S (.adr a) k := vwk_of (by rw [vw_own h]; cases o <;> rfl) q
theorem ok_o (h : S a = some o) (q : ko (some o)) : ownk S a ko := ownk_of h q
theorem su_eq (h : S a = some u) : su (su S b o) a u = su (su S b o) a u := rfl
theorem brT {A B : Prop} (h : A) : brn true A B := by rw [brn_t]; exact h
theorem brF {A B : Prop} (h : B) : brn false A B := by rw [brn_f]; exact h
theorem brI {z : Bool} {A B : Prop} (e : z = true) (h : A) : brn z A B := by subst e; exact brT h
theorem brE {z : Bool} {A B : Prop} (e : z = false) (h : B) : brn z A B := by subst e; exact brF h
theorem ik_map {α : Type} {f : α → D} {xs : List α} {i : Nat} {kk : D → Prop} (h : i < xs.length) (q : kk (f xs[i])) : itk (xs.map f) (i : Int) kk := itk_of (atI_nat (by rw [List.getElem?_map]; simp [h])) q
/-- a branch by a proposition -/
theorem brP {c : Prop} [Decidable c] {A B : Prop} (h1 : c → A) (h2 : ¬ c → B) : brn (decide c) A B := brn_of (fun h => h1 (of_decide_eq_true h)) (fun h => h2 (of_decide_eq_false h))
theorem brN {c : Prop} [Decidable c] {A B : Prop} (h1 : ¬ c → A) (h2 : c → B) : brn (!decide c) A B := brn_of (fun h => h1 (by simpa using h)) (fun h => h2 (by simpa using h))
end
section
variable {X : Cx} {st : Stmt} {rest : List Stmt} {t u : DTS}
/-- a statement, a word, the rest -/
structure cutK (t u : DTS) (E : DEnds) (δ : DS) (S : Sto) : Prop where
  it : ∃ M : DS → Sto → Prop, t { E with nx := M } δ S ∧ ∀ δ' S', M δ' S' → u E δ' S'
def dCut (t u : DTS) : DTS := fun E δ S => cutK t u E δ S
theorem dss_cut (h1 : PDS X st t) (h2 : PDSs X rest u) : PDSs X (st :: rest) (dCut t u) := ⟨fun W tk po => PSs.weak (pss_cons (h1.run W tk po) (h2.run W tk po)) (by
  rintro D σ H ⟨G, δ, S, E, re, rl, ⟨M, h, hm⟩, er⟩
  exact ⟨G, δ, S, _, re, rl, h, ⟨fun G1 H1 S1 σ1 δ1 s1 re1 q => ⟨G1, δ1, S1, E, re1, s1.rel, hm _ _ q, er.step s1⟩, er.rt, er.bk, er.ct, er.xc⟩⟩)⟩
end
/-! ### the law's draws: a bag of numbers -/
structure Bag where
  cells : List Int
  at_ : Nat
  big : Int
  seed : Int
def bagO (b : Bag) : OO := .lst [.lst (b.cells.map D.int), .int b.at_, .int b.big, .int b.seed]
end SM

set_option Elab.async false
set_option linter.all false
set_option maxRecDepth 100000
set_option maxHeartbeats 2000000
namespace SM
open PySem PySem.Spec PyProof.Rows L2
variable {K : PySem.W.Frag} {G G' G2 H H' H2 G0 H0 : Hp} {S S' S2 S0 : Sto}
/-! ### hidden objects: neither frozen nor in the store -/
theorem Stp.newH (r : Rel K G H S) {p : Addr} {o : HO} (h : H p = none) : Stp K G H S G (upd H p o) S where
  sg := fun _ _ e => e
  rel := {
    le := fun b w e => by
      have hb : b ≠ p := ne_of_none e (r.free h).1
      rw [upd_ne hb]; exact r.le b w e
    own := fun b w e => by
      have hb : b ≠ p := st_ne e (r.free h).2
      rw [upd_ne hb]; exact r.own b w e }
  fr := fun b w e g s => by
    have hb : b ≠ p := ne_of_none e h
    rw [upd_ne hb]; exact ⟨e, s, .inl g⟩
/-- a hidden object that the beginning does not know is changed -/
theorem Stp.mutH (s : Stp K G0 H0 S0 G H S) {p : Addr} {o : HO} (h0 : H0 p = none) (hg : G p = none) (hs : S p = none) : Stp K G0 H0 S0 G (upd H p o) S where
  sg := s.sg
  rel := {
    le := fun b w e => by
      have hb : b ≠ p := ne_of_none e hg
      rw [upd_ne hb]; exact s.rel.le b w e
    own := fun b w e => by
      have hb : b ≠ p := st_ne e hs
      rw [upd_ne hb]; exact s.rel.own b w e }
  fr := fun b w e g z => by
    have hb : b ≠ p := ne_of_none e h0
    rw [upd_ne hb]; exact s.fr b w e g z
theorem Stp.frzH (s : Stp K G0 H0 S0 G H S) {p : Addr} {o : HO} (h0 : H0 p = none) (hg : G p = none) (hs : S p = none) (hp : H p = some o) : Stp K G0 H0 S0 (upd G p o) H S where
  sg := fun b w e => by
    have := s.sg b w e
    rw [upd_ne (ne_of_none this hg)]; exact this
  rel := {
    le := fun b w e => by
      by_cases hb : b = p
      · subst hb; rw [upd_same] at e; cases e; exact .inl hp
      · rw [upd_ne hb] at e; exact s.rel.le b w e
    own := fun b w e => by
      have hb : b ≠ p := st_ne e hs
      rw [upd_ne hb]
      refine ⟨(s.rel.own b w e).1, (s.rel.own b w e).2.mono fun c w q => ?_⟩
      rw [upd_ne (ne_of_none q hg)]; exact q }
  fr := fun b w e g z => by
    have hb : b ≠ p := ne_of_none e h0
    rw [upd_ne hb]; exact s.fr b w e g z

/-! ### the slots of a block -/
def uns (δ : DS) : List Nat → DS
  | [] => δ
  | v :: vs => unset (uns δ vs) v
theorem uns_rpe {σ : L2.St} {δ : DS} (h : RpE K G σ δ) : ∀ vs : List Nat, RpE K G (wipe σ vs) (uns δ vs)
  | [] => h
  | v :: vs => (uns_rpe h vs).unset v
theorem wipe_at (σ : L2.St) : ∀ (vs : List Nat) (i : Nat), (wipe σ vs)[i]? = if i ∈ vs then (σ[i]?).map (fun _ => none) else σ[i]?
  | [], i => by simp [wipe]
  | v :: vs, i => by
    rw [wipe]
    by_cases hv : v = i
    · subst hv
      rw [List.getElem?_set_self']
      rw [wipe_at σ vs v]
      by_cases hm : v ∈ vs
      · simp [hm]
        cases σ[v]? <;> rfl
      · simp [hm]
        cases σ[v]? <;> rfl
    · rw [List.getElem?_set_ne hv, wipe_at σ vs i]
      have : ¬ i = v := fun z => hv z.symm
      simp [this]
theorem wipe_agr {σ σ2 : L2.St} {vs l : List Nat} (h : Agr l (wipe σ vs) σ2) (hl : ∀ i ∈ l, i ∈ vs) : wipe σ2 vs = wipe σ vs := by
  apply List.ext_getElem?
  intro i
  rw [wipe_at σ2 vs i]
  by_cases hi : i ∈ vs
  · rw [if_pos hi, wipe_at σ vs i, if_pos hi]
    have hlen : σ2.length = σ.length := by rw [h.1, wipe_length]
    by_cases hb : i < σ.length
    · rw [List.getElem?_eq_getElem (by omega), List.getElem?_eq_getElem hb]; rfl
    · rw [List.getElem?_eq_none (by omega), List.getElem?_eq_none (by omega)]
  · rw [if_neg hi]
    exact h.2 i fun z => hi (hl i z)

/-! ### list comprehensions -/
def dYes : DTT := fun _ S Q _ => Q true S
def noX : XQ := fun _ _ => False
def dLcL (gd : Gd) (q : Pat) (tt : DTT) (te : DTE) (δ : DS) : List D → Sto → (List D → Sto → Prop) → Prop
  | [], S, Q => gok gd S ∧ Q [] S
  | x :: r, S, Q => gok gd S ∧ match bindP q x δ with
    | some δ2 => tt δ2 S (fun b S3 => brn b (te δ2 S3 (fun d S4 => dLcL gd q tt te δ r S4 (fun ds S5 => Q (d :: ds) S5)) noX) (dLcL gd q tt te δ r S3 Q)) noX
    | none => False
structure lcK (gd : Gd) (q : Pat) (tt : DTT) (te : DTE) (δ : DS) (xs : List D) (S : Sto) (Q : List D → Sto → Prop) : Prop where
  it : dLcL gd q tt te δ xs S Q
theorem lcK_is {gd : Gd} {q : Pat} {tt : DTT} {te : DTE} {δ : DS} {xs : List D} {S : Sto} {Q : List D → Sto → Prop} : lcK gd q tt te δ xs S Q = dLcL gd q tt te δ xs S Q := propext ⟨fun h => h.it, fun h => ⟨h⟩⟩
def dLc (ti : DTI) (q : Pat) (tt : DTT) (te : DTE) (vs : List Nat) : DTE := fun δ S Q X => ti δ S (fun gd xs S1 => lcK gd q tt te (uns δ vs) xs S1 (fun ds S2 => Q (.lst ds) S2)) X
def dLcO (ti : DTI) (q : Pat) (tt : DTT) (te : DTE) (vs : List Nat) : DTE := fun δ S Q X => ti δ S (fun gd xs S1 => lcK gd q tt te (uns δ vs) xs S1 (fun ds S2 => ∀ p, S2 p = none → Q (.adr p) (su S2 p (.lst ds)))) X
structure PDTs (X : Cx) (ifs : List Expr) (tt : DTT) : Prop where
  run : ∀ W, L2N.Takes X W → PTs X ifs (liftT X.K W tt)
section
variable {X : Cx} {e a b c o i : Expr} {pos p : Pos} {W : WX} {k : Nat}
theorem PTs.weak {ifs : List Expr} {t t' : TT} (h : PTs X ifs t) (w : ∀ σ H Q, t' σ H Q → t σ H Q) : PTs X ifs t' := ⟨fun pins s σ H Q I q => h.run pins s σ H Q I (w σ H Q q)⟩
theorem dts_nil : PDTs X [] dYes := ⟨fun W tk => PTs.weak pts_nil (by
  rintro σ H Q ⟨G, δ, S, QD, XD, re, rl, h, kq, kx⟩
  exact kq _ _ _ _ (Stp.refl rl) h)⟩
theorem dts_one {t : DTT} (h : PDT X c t) : PDTs X [c] t := ⟨fun W tk => pts_one (h.run W tk)⟩
abbrev W0 : WX := fun _ _ _ _ => False
theorem kx0 {σ : L2.St} : KX K W0 σ G H S noX := fun _ _ _ _ _ _ _ _ z => z
/-- what the loop keeps: the list at A so far holds acc -/
structure LcI (K : PySem.W.Frag) (G0 H0 : Hp) (S0 : Sto) (A : Addr) (G H : Hp) (S : Sto) (acc : List D) : Prop where
  st : Stp K G0 H0 S0 G H S
  ex : ∃ vs, H A = some (.lst vs) ∧ Rps K G vs acc
  hg : G A = none
  hs : S A = none
theorem LcI.step {A : Addr} {acc : List D} (I : LcI K G0 H0 S0 A G H S acc) (s : Stp K G H S G' H' S') : LcI K G0 H0 S0 A G' H' S' acc := by
  obtain ⟨vs, e, r⟩ := I.ex
  obtain ⟨e1, e2, e3⟩ := s.fr A _ e I.hg I.hs
  refine ⟨I.st.trans s, ⟨vs, e1, r.mono s.sg⟩, ?_, e2⟩
  rcases e3 with e3 | ⟨z, e3⟩
  · exact e3
  · cases e3
theorem LcI.more {A : Addr} {acc vs : List D} {us : List V} {v : V} {d : D} (I : LcI K G0 H0 S0 A G H S acc) (h0 : H0 A = none) (r : Rp K G v d) (hu : H A = some (.lst us)) : LcI K G0 H0 S0 A G (upd H A (.lst (us ++ [v]))) S (acc ++ [d]) := by
  obtain ⟨ws, e, rs⟩ := I.ex
  rw [hu] at e
  cases e
  exact ⟨I.st.mutH h0 I.hg I.hs, ⟨_, upd_same, rs.append (.cons r .nil)⟩, I.hg, I.hs⟩
theorem sim_lc {ti : DTI} {q : Pat} {tt : DTT} {te : DTE} {vs : List Nat} (hq : ∀ i ∈ slots q, i ∈ vs) (fin : DQ → List D → Sto → Prop)
    (hfin : ∀ G0 H0 S0 G H S A ds vv QD, Stp K G0 H0 S0 G H S → H0 A = none → G A = none → S A = none → H A = some (.lst vv) → Rps K G vv ds → ds.length ≤ sizeLine → fin QD ds S → ∃ G' S' d, Stp K G0 H0 S0 G' H S' ∧ Rp K G' (.ref A) d ∧ QD d S') :
    ∀ σ H Q, liftE K W (fun δ S Q X => ti δ S (fun gd xs S1 => dLcL gd q tt te (uns δ vs) xs S1 (fin Q)) X) σ H Q → tLc (liftI K W ti) (pG K q) (liftT K W0 tt) (liftE K W0 te) vs σ H Q := by
  rintro σ H Q ⟨G, δ, S, QD, XD, re, rl, h, kq, kx⟩
  refine ⟨G, δ, S, _, XD, re, rl, h, fun G1 H1 S1 J gd xs s1 hJ hl hd A hA => ?_, kx⟩
  have fA := s1.rel.free hA
  refine ⟨fun i m H' => m = xs.length - i ∧ i ≤ xs.length ∧ ∃ G' S' acc, LcI K G1 H1 S1 A G' H' S' acc ∧ acc.length ≤ i ∧ dLcL gd q tt te (uns δ vs) (xs.drop i) S' (fun ds S'' => fin QD (acc ++ ds) S''), ⟨xs.length, by simp, by simp, G1, S1, [], ⟨Stp.newH s1.rel hA, ⟨[], upd_same, .nil⟩, fA.1, fA.2⟩, by simp, by simpa using hd⟩, ?_⟩
  rintro i m H' ⟨rfl, hi, G', S', acc, I, la, hd'⟩
  have hgd : gok gd S' := by
    cases q : xs.drop i with
    | nil => rw [q, dLcL] at hd'; exact hd'.1
    | cons y z => rw [q, dLcL] at hd'; exact hd'.1
  obtain ⟨h1, h2⟩ := hJ G' H' S' I.st.sg I.st.rel hgd i
  by_cases hlt : i < xs.length
  · obtain ⟨hgo, hy⟩ := h1 hlt
    refine .inr ⟨hgo, fun H3 => ∃ G3 S3 acc3, LcI K G1 H1 S1 A G3 H3 S3 acc3 ∧ acc3.length ≤ i + 1 ∧ dLcL gd q tt te (uns δ vs) (xs.drop (i + 1)) S3 (fun ds S'' => fin QD (acc3 ++ ds) S''), fun H3 ⟨G3, S3, acc3, a1, a2, a3⟩ => ⟨xs.length - (i + 1), by omega, rfl, hlt, G3, S3, acc3, a1, a2, a3⟩, fun x H3 yl => ?_⟩
    obtain ⟨G3, s3, rx⟩ := hy x H3 yl
    have rx := rx _ (show xs[i]? = some xs[i] by simp [hlt])
    have I3 := I.step s3
    rw [List.drop_eq_getElem_cons hlt, dLcL] at hd'
    replace hd' := hd'.2
    split at hd'
    · rename_i δ2 e2
      have re3 : RpE K G3 (wipe σ vs) (uns δ vs) := uns_rpe (re.mono (s1.sg.trans (I.st.sg.trans s3.sg))) vs
      obtain ⟨σ2, a1, a2, a3⟩ := pG_run s3.rel _ _ x (wipe σ vs) (uns δ vs) δ2 re3 rx e2
      refine a1 _ ⟨wipe_agr a3 hq, ?_⟩
      refine ⟨G3, δ2, S', _, noX, a2, s3.rel, hd', fun G4 H4 S4 b s4 q4 => ?_, kx0⟩
      have I4 := I3.step s4
      cases b with
      | true =>
        rw [brn_t] at q4
        refine iteT ?_
        refine ⟨G4, δ2, S4, _, noX, a2.mono s4.sg, s4.rel, q4, fun G5 H5 S5 v d s5 rv q5 => ?_, kx0⟩
        have I5 := I4.step s5
        obtain ⟨us, e5, r5⟩ := I5.ex
        refine ⟨us, e5, by rw [r5.length]; omega, G5, S5, acc ++ [d], I5.more (vs := []) hA rv e5, by rw [List.length_append, List.length_singleton]; omega, ?_⟩
        simpa using q5
      | false =>
        rw [brn_f] at q4
        refine iteF ?_
        exact ⟨G4, S4, acc, I4, by omega, q4⟩
    · exact hd'.elim
  · have hle : xs.length ≤ i := by omega
    refine .inl ⟨h2 hle, ?_⟩
    rw [List.drop_of_length_le hle, dLcL] at hd'
    replace hd' := hd'.2
    obtain ⟨us, e5, r5⟩ := I.ex
    obtain ⟨G5, S5, d, s5, r6, q6⟩ := hfin G1 H1 S1 G' H' S' A _ us QD I.st hA I.hg I.hs e5 r5 (by omega) (by simpa using hd')
    exact kq _ _ _ _ _ (s1.trans s5) r6 q6
theorem fin_f : ∀ (G0 H0 : Hp) (S0 : Sto) (G H : Hp) (S : Sto) (A : Addr) (ds : List D) (vv : List V) (QD : DQ), Stp K G0 H0 S0 G H S → H0 A = none → G A = none → S A = none → H A = some (.lst vv) → Rps K G vv ds → ds.length ≤ sizeLine → QD (.lst ds) S → ∃ G' S' d, Stp K G0 H0 S0 G' H S' ∧ Rp K G' (.ref A) d ∧ QD d S' := by
  intro G0 H0 S0 G H S A ds vv QD s h0 hg hs hA r l q
  have s2 := s.frzH h0 hg hs hA
  refine ⟨_, S, _, s2, .lst upd_same (r.mono fun b w e => ?_) l, q⟩
  rw [upd_ne (ne_of_none e hg)]; exact e
theorem fin_o : ∀ (G0 H0 : Hp) (S0 : Sto) (G H : Hp) (S : Sto) (A : Addr) (ds : List D) (vv : List V) (QD : DQ), Stp K G0 H0 S0 G H S → H0 A = none → G A = none → S A = none → H A = some (.lst vv) → Rps K G vv ds → ds.length ≤ sizeLine → (∀ p, S p = none → QD (.adr p) (su S p (.lst ds))) → ∃ G' S' d, Stp K G0 H0 S0 G' H S' ∧ Rp K G' (.ref A) d ∧ QD d S' := by
  intro G0 H0 S0 G H S A ds vv QD s h0 hg hs hA r l q
  refine ⟨G, su S A (.lst ds), .adr A, ⟨s.sg, ⟨s.rel.le, fun b w e => ?_⟩, fun b w e g z => ?_⟩, .adr A, q A hs⟩
  · by_cases hb : b = A
    · subst hb; rw [su_same] at e; cases e; exact ⟨hg, vv, hA, r, l⟩
    · rw [su_ne hb] at e; exact s.rel.own b w e
  · obtain ⟨z1, z2, z3⟩ := s.fr b w e g z
    refine ⟨z1, ?_, z3⟩
    rw [su_ne (ne_of_none e h0)]; exact z2
section
variable {elt tg iter : Expr} {ifs : List Expr} {scope : Scope} {own : List (Str × Nat)} {ti : DTI} {q : Pat} {tt : DTT} {te : DTE}
abbrev Cx.bk (X : Cx) (scope : Scope) (s : Shared) (H : Hp) (C : Addr) (cl : List (Str × Addr)) (fp : List Addr) : Cx := X.blk s H scope (compEnvC scope cl C X.env) fp
theorem de_lc (hc : X.calm = true) (hN : X.N.Nodup) (hi : PDI X tg iter ti) (ok : BlkOk X.N X.env.scope scope own) (hg : ∀ s H C cl fp, PDP (Cx.bk X scope s H C cl fp) tg q) (ht : ∀ s H C cl fp, PDTs (Cx.bk X scope s H C cl fp) ifs tt) (he : ∀ s H C cl fp, PD (Cx.bk X scope s H C cl fp) elt te)
    (hq : ∀ i ∈ slots q, i ∈ own.map (·.2) := by decide) (hs : ∀ x, foldedSetIterable iter X.env x = pure x := by intro _; rfl) : PD X (.ListComp elt [⟨tg, iter, ifs, 0⟩] scope pos) (dLc ti q tt te (own.map (·.2))) := by
  unfold dLc
  simp only [lcK_is]
  exact ⟨fun W tk =>
  PE.weak (pe_lc hc hN (hi.run W tk) ok (fun s H C cl fp => (hg s H C cl fp).run) (fun s H C cl fp => (ht s H C cl fp).run W0 takes0N) (fun s H C cl fp => (he s H C cl fp).run W0 takes0N) hs) (sim_lc hq (fun Q ds S => Q (.lst ds) S) fin_f)⟩
theorem de_lcO (hc : X.calm = true) (hN : X.N.Nodup) (hi : PDI X tg iter ti) (ok : BlkOk X.N X.env.scope scope own) (hg : ∀ s H C cl fp, PDP (Cx.bk X scope s H C cl fp) tg q) (ht : ∀ s H C cl fp, PDTs (Cx.bk X scope s H C cl fp) ifs tt) (he : ∀ s H C cl fp, PD (Cx.bk X scope s H C cl fp) elt te)
    (hq : ∀ i ∈ slots q, i ∈ own.map (·.2) := by decide) (hs : ∀ x, foldedSetIterable iter X.env x = pure x := by intro _; rfl) : PD X (.ListComp elt [⟨tg, iter, ifs, 0⟩] scope pos) (dLcO ti q tt te (own.map (·.2))) := by
  unfold dLcO
  simp only [lcK_is]
  exact ⟨fun W tk =>
  PE.weak (pe_lc hc hN (hi.run W tk) ok (fun s H C cl fp => (hg s H C cl fp).run) (fun s H C cl fp => (ht s H C cl fp).run W0 takes0N) (fun s H C cl fp => (he s H C cl fp).run W0 takes0N) hs) (sim_lc hq (fun Q ds S => ∀ p, S p = none → Q (.adr p) (su S p (.lst ds))) fin_o)⟩
end
end
end SM

set_option Elab.async false
set_option linter.all false
set_option maxRecDepth 100000
set_option maxHeartbeats 2000000
namespace SM
open PySem PySem.Spec PyProof.Rows L2
variable {K : PySem.W.Frag} {G G' G2 H H' H2 G0 H0 : Hp} {S S' S2 S0 : Sto}
section
variable {X : Cx} {e a b c o i : Expr} {es : List Expr} {pos p py spos : Pos} {W : WX} {k : Nat} {x y : Str} {t : DTA} {te : DTE} {f C : Addr} {fd : FuncData} {ps : List Str} {R : DSp} {dvs : List V} {dds : List D} {ds : List Value}
section
variable {elt tg iter : Expr} {ifs : List Expr} {scope : Scope} {own : List (Str × Nat)} {ti : DTI} {q : Pat} {tt : DTT}
theorem ds_setLc {j : Nat} (hc : X.calm = true) (hN : X.N.Nodup) (hsw : swapsWith (.ListComp elt [⟨tg, iter, ifs, 0⟩] scope pos) (some (.Name y py)) spos.line X.env = pure true) (hi : PDI X tg iter ti) (ok : BlkOk X.N X.env.scope scope own) (hg : ∀ s H C cl fp, PDP (Cx.bk X scope s H C cl fp) tg q) (ht : ∀ s H C cl fp, PDTs (Cx.bk X scope s H C cl fp) ifs tt) (he : ∀ s H C cl fp, PD (Cx.bk X scope s H C cl fp) elt te)
    (hy : X.N[j]? = some y := by rfl) (hyl : X.env.scope.names.lookup y = some .local := by rfl) (hq : ∀ i ∈ slots q, i ∈ own.map (·.2) := by decide) (hs : ∀ x, foldedSetIterable iter X.env x = pure x := by intro _; rfl) : PDS X (.Assign [.Name y py] (.ListComp elt [⟨tg, iter, ifs, 0⟩] scope pos) spos) (dSet j (dLc ti q tt te (own.map (·.2)))) := by
  unfold dLc
  simp only [lcK_is]
  exact ⟨fun W tk po =>
  PS.weak (ps_setLc (tt := liftT X.K W0 tt) (te := liftE X.K W0 te) hc hN hy hyl hsw (hi.run W tk) ok (fun s H C cl fp => (hg s H C cl fp).run) (fun s H C cl fp => (ht s H C cl fp).run W0 takes0N) (fun s H C cl fp => (he s H C cl fp).run W0 takes0N) hs) (by
    rintro D σ H ⟨G, δ, S, E, re, rl, h, er⟩
    exact sim_lc hq (fun Q ds S => Q (.lst ds) S) fin_f σ H _ ⟨G, δ, S, fun d S1 => E.nx (put δ j d) S1, fun x S1 => E.xc x δ S1, re, rl, h, fun G1 H1 S1 v d s1 rv q => er.nx _ _ _ _ _ s1 ((re.mono s1.sg).put j rv) q, er.kx re⟩)⟩
theorem ds_setLcO {j : Nat} (hc : X.calm = true) (hN : X.N.Nodup) (hsw : swapsWith (.ListComp elt [⟨tg, iter, ifs, 0⟩] scope pos) (some (.Name y py)) spos.line X.env = pure true) (hi : PDI X tg iter ti) (ok : BlkOk X.N X.env.scope scope own) (hg : ∀ s H C cl fp, PDP (Cx.bk X scope s H C cl fp) tg q) (ht : ∀ s H C cl fp, PDTs (Cx.bk X scope s H C cl fp) ifs tt) (he : ∀ s H C cl fp, PD (Cx.bk X scope s H C cl fp) elt te)
    (hy : X.N[j]? = some y := by rfl) (hyl : X.env.scope.names.lookup y = some .local := by rfl) (hq : ∀ i ∈ slots q, i ∈ own.map (·.2) := by decide) (hs : ∀ x, foldedSetIterable iter X.env x = pure x := by intro _; rfl) : PDS X (.Assign [.Name y py] (.ListComp elt [⟨tg, iter, ifs, 0⟩] scope pos) spos) (dSet j (dLcO ti q tt te (own.map (·.2)))) := by
  unfold dLcO
  simp only [lcK_is]
  exact ⟨fun W tk po =>
  PS.weak (ps_setLc (tt := liftT X.K W0 tt) (te := liftE X.K W0 te) hc hN hy hyl hsw (hi.run W tk) ok (fun s H C cl fp => (hg s H C cl fp).run) (fun s H C cl fp => (ht s H C cl fp).run W0 takes0N) (fun s H C cl fp => (he s H C cl fp).run W0 takes0N) hs) (by
    rintro D σ H ⟨G, δ, S, E, re, rl, h, er⟩
    exact sim_lc hq (fun Q ds S => ∀ p, S p = none → Q (.adr p) (su S p (.lst ds))) fin_o σ H _ ⟨G, δ, S, fun d S1 => E.nx (put δ j d) S1, fun x S1 => E.xc x δ S1, re, rl, h, fun G1 H1 S1 v d s1 rv q => er.nx _ _ _ _ _ s1 ((re.mono s1.sg).put j rv) q, er.kx re⟩)⟩
end
/-! ### C(..): a new instance -/
theorem run_makeD {pins : List (Addr × Obj)} {σ : L2.St} {H : Hp} {s : Shared} {Q : VK} {us : List Value} {vs : List V} (M : Mk X.K C f) (F : FnOk X.prog X.w X.K X.mg X.base (L2N.CX X.prog X.w) k f fd ps (toSp X.K R)) (hr : Room (k + 1) X.A) (hb : Binds X.K fd ps ds) (hd : Vals dvs ds)
    (tk : L2N.Takes X W) (I : Inv X pins σ H s) (r : Vals vs us)
    (h : ∀ z dx, H z = none → H dx = none → dx ≠ z → toSp X.K R (.ref z :: (vs ++ dvs)) (upd (upd H dx (.own z)) z (.ins C dx [])) (fun v H2 => v = .non ∧ Q (.ref z) H2) (WE W σ)) :
    wpAny (model X.prog X.w) X.A (call (.ref C) us) (EP X pins σ Q) X.xe s := by
  let z : Addr := s.heap.objs.size + 1
  have hq := h z s.heap.objs.size (I.hok.fresh (Nat.le_succ _)) (I.hok.fresh (Nat.le_refl _)) (Nat.ne_of_lt (Nat.lt_succ_self _))
  have J := Inv.made (C := C) I
  have rr : Vals (V.ref z :: (vs ++ dvs)) (Value.ref z :: (us ++ ds)) := .cons rfl (r.append hd)
  have hl : (Value.ref z :: us ++ ds).length = ps.length := (rr.length.symm.trans (F.len _ _ _ _ hq))
  apply wpAny_call
  apply make_map (f := f) I.kIn M.makes M.init (beq_iff_eq.mp M.fn)
  apply codeAny_mono (F.run _ X.stack _ _ ⟨Value.ref z :: us, []⟩ (Value.ref z :: (us ++ ds)) _ _ (WE W σ) (hr.make C us []) (J.env0.make C us []) (hb _ (Value.ref z :: us) J.kIn hl) rr hq)
  intro r s' hq'
  match r, hq' with
  | .error e, hq' => exact L2N.passAt tk σ pins _ _ e s' J hq'
  | .ok (.ret u), hq' =>
    obtain ⟨v, H', I3, rv, ev, q3⟩ := J.after hq'
    subst ev
    exact ⟨rv, ⟨V.ref z, H', I3, rfl, q3⟩⟩
  | .ok .next, hq' => exact False.elim hq'
  | .ok .brk, hq' => exact False.elim hq'
  | .ok .cont, hq' => exact False.elim hq'
/-- what becomes of the new instance: frozen, or kept in the store -/
def mkF (Q : DQ) (z : Addr) (S : Sto) : Prop := ownk S z fun oo => match oo with
  | some (.ins c fs) => Q (.ins c fs) (sd S z)
  | _ => False
def mkO (Q : DQ) (z : Addr) (S : Sto) : Prop := Q (.adr z) S
def dMake (fin : DQ → Addr → Sto → Prop) (c : Nat) (R : DSp) (dds : List D) (t : DTA) : DTE := fun δ S Q X => t δ S (fun ds S1 => ∀ z, S1 z = none → R (.adr z :: (ds ++ dds)) (su S1 z (.ins c [])) (fun d S2 => d = .non ∧ fin Q z S2) (fun e S2 => X e (sd S2 z))) X
theorem mkF_ok : ∀ (Q : DQ) (z : Addr) (G H : Hp) (S : Sto), Rel K G H S → mkF Q z S → ∃ G' S' d, Stp K G H S G' H S' ∧ Rp K G' (.ref z) d ∧ Q d S' := by
  intro Q z G H S rl h
  simp only [mkF, ownk_is] at h
  split at h
  · rename_i c fs e
    obtain ⟨G', s1, r1⟩ := frz_ins rl e
    exact ⟨G', _, _, s1, r1, h⟩
  · exact h.elim
theorem mkO_ok : ∀ (Q : DQ) (z : Addr) (G H : Hp) (S : Sto), Rel K G H S → mkO Q z S → ∃ G' S' d, Stp K G H S G' H S' ∧ Rp K G' (.ref z) d ∧ Q d S' := fun Q z G H S rl h => ⟨G, S, _, Stp.refl rl, .adr z, h⟩
theorem make_sp {fin : DQ → Addr → Sto → Prop} {c : Nat} (hfin : ∀ (Q : DQ) (z : Addr) (G H : Hp) (S : Sto), Rel K G H S → fin Q z S → ∃ G' S' d, Stp K G H S G' H S' ∧ Rp K G' (.ref z) d ∧ Q d S') (hdd : ∀ G, Rps K G dvs dds) {σ : L2.St} {Q : VK} {QD : DQ} {XD : XQ} {vs : List V} {ds : List D}
    (rl : Rel K G H S) (rs : Rps K G vs ds) (h : ∀ z, S z = none → R (.adr z :: (ds ++ dds)) (su S z (.ins c [])) (fun d S2 => d = .non ∧ fin QD z S2) (fun e S2 => XD e (sd S2 z)))
    (kq : ∀ G' H' S' v d, Stp K G H S G' H' S' → Rp K G' v d → QD d S' → Q v H') (kx : KX K W σ G H S XD) :
    ∀ z dx, H z = none → H dx = none → dx ≠ z → toSp K R (.ref z :: (vs ++ dvs)) (upd (upd H dx (.own z)) z (.ins (cad K c) dx [])) (fun v H2 => v = .non ∧ Q (.ref z) H2) (WE W σ) := by
  intro z dx hz hdx hne
  have s1 : Stp K G H S G (upd H dx (.own z)) S := Stp.newH rl hdx
  have hz1 : upd H dx (.own z) z = none := by rw [upd_ne (Ne.symm hne)]; exact hz
  have s2 : Stp K G (upd H dx (.own z)) S G (upd (upd H dx (.own z)) z (.ins (cad K c) dx [])) (su S z (.ins c [])) := Stp.newO s1.rel hz1 ⟨dx, [], by rw [List.zip_nil_right], .nil, Nat.zero_le _⟩
  have s12 := s1.trans s2
  refine ⟨G, su S z (.ins c []), _, _, _, s2.rel, .cons (.adr z) (rs.append (hdd G)), h z (rl.free hz).2, fun G3 H3 S3 v d s3 rv q => ?_, fun G3 H3 S3 cls d x s3 r q => ?_⟩
  · obtain ⟨e, q⟩ := q
    subst e
    cases rv
    refine ⟨rfl, ?_⟩
    obtain ⟨G4, S4, d4, s4, r4, q4⟩ := hfin QD z G3 H3 S3 s3.rel q
    exact kq _ _ _ _ _ ((s12.trans s3).trans s4) r4 q4
  · exact kx _ _ _ _ _ _ ((s12.trans s3).trans (Stp.drop s3.rel)) r q
theorem de_make {fin : DQ → Addr → Sto → Prop} {c : Nat} (hfin : ∀ (Q : DQ) (z : Addr) (G H : Hp) (S : Sto), Rel X.K G H S → fin Q z S → ∃ G' S' d, Stp X.K G H S G' H S' ∧ Rp X.K G' (.ref z) d ∧ Q d S') (M : Mk X.K (cad X.K c) f) (F : FnOk X.prog X.w X.K X.mg X.base (L2N.CX X.prog X.w) k f fd ps (toSp X.K R)) (hr : Room (k + 1) X.A) (hg : Gl X x) (hm : X.mg x = some (.ref (cad X.K c))) (hb : Binds X.K fd ps ds) (hd : Vals dvs ds) (hdd : ∀ G, Rps X.K G dvs dds)
    (ha : PDA X (e :: es) t) (hdb : (x == ("__debug__" : Str)) = false := by decide) (he : starEach (e :: es) X.env = (false, eval e X.env) :: starEach es X.env := by rfl) (hpl : (backTo pos (starEach es X.env)).any (·.1) = false := by rfl) :
    PD X (.Call (.Name x p) (e :: es) [] pos) (dMake fin c R dds t) := ⟨fun W tk => ⟨fun pins s σ H Q I h => by
  obtain ⟨G, δ, S, QD, XD, re, rl, h, kq, kx⟩ := h
  apply wpAny_Call_Name_kw
  apply ld_glob I hg hm (hd := hdb)
  refine PySem.W.callWith_K (h₀ := X.base) I.ok.mod.kin M.kp ?_ he hpl
  apply thn ((ha.run W tk).run pos pins s σ H (fun vs H1 => ∀ z dx, H1 z = none → H1 dx = none → dx ≠ z → toSp X.K R (.ref z :: (vs ++ dvs)) (upd (upd H1 dx (.own z)) z (.ins (cad X.K c) dx [])) (fun v H2 => v = .non ∧ Q (.ref z) H2) (WE W σ)) I ⟨G, δ, S, _, XD, re, rl, h, fun G1 H1 S1 vs ds s1 rs q => make_sp hfin hdd s1.rel rs q (fun G2 H2 S2 v d s2 rv q2 => kq _ _ _ _ _ (s1.trans s2) rv q2) (kx.step s1), kx⟩)
  rintro us s1 ⟨vs, H1, I1, r, q⟩
  exact ⟨I1.kIn, run_makeD M F hr hb hd tk I1 r q⟩⟩⟩
/-! ### isinstance -/
def tagOf : D → Nat
  | .non => 100 | .bl _ => 101 | .int _ => 102 | .str _ => 103 | .tup _ => 104 | .lst _ => 105
  | .ins c _ => (match Nat.blt c 100 with
    | true => c
    | false => 107)
  | _ => 107
def tagV (K : PySem.W.Frag) : Nat → Value
  | 100 => .type "NoneType" | 101 => .type "bool" | 102 => .type "int" | 103 => .type "str" | 104 => .type "tuple" | 105 => .type "list"
  | c => .ref (cad K c)
def selB : List (Nat × Bool) → Nat → Option Bool
  | [], _ => none
  | (c, b) :: r, d => match Nat.beq c d with
    | true => some b
    | false => selB r d
/-- what isinstance asks of an own class -/
def clsB (K : PySem.W.Frag) (c : Nat) : Bool := PySem.W.plainGet K (cad K c) Str.empty && (PySem.W.hasDictIn K (cad K c) && (PySem.W.plainOver K (cad K c) && (He.eqO (PySem.W.findIn K (.ref (cad K c)) "__setattr__") (some (some (.builtin "object.__setattr__"))) &&
  (He.eqO (PySem.W.findIn K (.ref (cad K c)) "__class__") (some (some (.builtin "object.__class__"))) && (He.eqO (PySem.W.specialIn K (.builtin "object.__class__") "__get__") (some (some (.builtin "getset_descriptor.__get__"))) && (decide (PySem.W.takesIn K (.builtin "object.__class__") = some true) && decide (PySem.W.mroIn K (cad K c) (.type "object") = some true)))))))
def isiB (K : PySem.W.Frag) (u : Value) (tbl : List (Nat × Bool)) : Bool := tbl.all fun p => decide (PySem.W.kitOne K (tagV K p.1) u = some p.2) && (decide (100 ≤ p.1) || clsB K p.1)
theorem cls_of {K : PySem.W.Frag} {c : Nat} (h : clsB K c = true) : Cls K (cad K c) := by
  simp only [clsB, Bool.and_eq_true] at h
  obtain ⟨h1, h2, h3, h4, _⟩ := h
  exact ⟨h1, h2, h3, He.eqO_ok h4⟩
theorem isiB_sel {u : Value} : ∀ {tbl : List (Nat × Bool)} {c : Nat} {b : Bool}, isiB K u tbl = true → selB tbl c = some b → PySem.W.kitOne K (tagV K c) u = some b ∧ (100 ≤ c ∨ clsB K c = true)
  | [], _, _, _, h => by cases h
  | (c', b') :: r, c, b, h, e => by
    simp only [isiB, List.all_cons, Bool.and_eq_true, Bool.or_eq_true, decide_eq_true_eq] at h
    unfold selB at e
    split at e
    · rename_i q
      have : c' = c := Nat.eq_of_beq_eq_true q
      subst this
      cases e
      exact ⟨h.1.1, h.1.2⟩
    · exact isiB_sel (tbl := r) (by simpa only [isiB, Bool.and_eq_true, Bool.or_eq_true, List.all_eq_true, decide_eq_true_eq] using h.2) e
theorem tagV_own {c : Nat} (h : c < 100) : tagV K c = .ref (cad K c) := by
  unfold tagV
  split <;> first | omega | rfl
theorem ty_of (rl : Rel K G H S) {v : V} {d : D} (r : Rp K G v d) (hc : 100 ≤ tagOf (vw S d) ∨ clsB K (tagOf (vw S d)) = true) (hn : tagOf (vw S d) ≠ 107) : TyX K H v (tagV K (tagOf (vw S d))) := by
  cases e : vw S d with
  | non => rw [(vw_scal r).2.2.2.1 e]; exact .base .non
  | bl z => rw [(vw_scal r).1 _ e]; exact .base (.bl _)
  | int z => rw [(vw_scal r).2.1 _ e]; exact .base (.int _)
  | str z => rw [((vw_scal r).2.2.1 _ e).1]; exact .base (.str _)
  | tup z => obtain ⟨q, vs, rfl, _, hq, _⟩ := vw_tup rl r e; exact .base (.tup hq)
  | lst z => obtain ⟨q, vs, rfl, hq, _⟩ := vw_lst rl r e; exact .base (.lst hq)
  | ins c fs =>
    obtain ⟨q, dx, vs, rfl, hq, _⟩ := vw_ins rl r e
    rw [e] at hc hn
    simp only [tagOf] at hc hn ⊢
    cases hb : Nat.blt c 100 with
    | false => rw [hb] at hn; exact absurd rfl hn
    | true =>
      rw [hb] at hc
      have hlt : c < 100 := Nat.lt_of_succ_le (by simpa [Nat.blt] using hb)
      simp only at hc ⊢
      rw [tagV_own hlt]
      have hk : clsB K c = true := hc.resolve_left (by omega)
      have cl := cls_of hk
      simp only [clsB, Bool.and_eq_true, decide_eq_true_eq] at hk
      obtain ⟨_, _, _, _, h5, h6, h7, h8⟩ := hk
      exact .base (.ins hq cl (He.eqO_ok h5) (He.eqO_ok h6) h7 h8)
  | _ => rw [e] at hn; exact absurd rfl hn
def isiD (tbl : List (Nat × Bool)) : D → Sto → DQ → Prop := fun x S Q => vwk S x fun x' => match selB tbl (tagOf x') with
  | some b => Q (.bl b) S
  | none => False
theorem sim_isi {tbl : List (Nat × Bool)} {u : Value} {cv : V} (hcv : ClsV cv u) (hb : isiB K u tbl = true) (h7 : selB tbl 107 = none) {x : V} {dx : D} {QD : DQ} {Q : VK} (rl : Rel K G H S) (rx : Rp K G x dx) (h : isiD tbl dx S QD) (kq : ∀ G' H' S' v d, Stp K G H S G' H' S' → Rp K G' v d → QD d S' → Q v H') :
    rIsi K [x, cv] H Q := by
  simp only [isiD, vwk_is] at h
  split at h
  · rename_i b eb
    obtain ⟨h1, h2⟩ := isiB_sel hb eb
    exact ⟨x, cv, _, u, b, rfl, hcv, ty_of rl rx h2 (fun z => by rw [z, h7] at eb; cases eb), h1, kq _ _ _ _ _ (Stp.refl rl) (.bl b) h⟩
  · exact h.elim
theorem de_isi {tbl : List (Nat × Bool)} {u : Value} {cv : V} {ce : Expr} (hg : Gl X "isinstance") (hm : X.mg "isinstance" = none) (hcv : ClsV cv u) (hce : PE X ce (tC cv)) (hb : isiB X.K u tbl = true) (h7 : selB tbl 107 = none) (ha : PD X a te)
    (h1 : starEach (a :: [ce]) X.env = (false, eval a X.env) :: starEach [ce] X.env := by rfl) (h2 : starEach (ce :: []) X.env = (false, eval ce X.env) :: starEach [] X.env := by rfl) (h3 : (backTo pos (starEach [ce] X.env)).any (·.1) = false := by rfl) :
    PD X (.Call (.Name "isinstance" p) [a, ce] [] pos) (dUn (isiD tbl) te) := ⟨fun W tk => PE.weak (pe_callB call_isi hg hm (by decide +kernel) (pa_cons (ha.run W tk) (pa_cons hce pa_nil h2) h1) (he := h1) (hpl := h3)) (by
  rintro σ H Q ⟨G, δ, S, QD, XD, re, rl, h, kq, kx⟩
  exact ⟨G, δ, S, _, XD, re, rl, h, fun G1 H1 S1 v d s1 rv q => sim_isi hcv hb h7 s1.rel rv q (fun G2 H2 S2 v d s2 r q => kq _ _ _ _ _ (s1.trans s2) r q), kx⟩)⟩
end
end SM

set_option Elab.async false
set_option linter.all false
set_option maxRecDepth 100000
set_option maxHeartbeats 2000000
namespace SM
open PySem PySem.Spec PyProof.Rows L2
open PySem.W (EachIs AllAlike Sortable dataLe)
variable {K : PySem.W.Frag} {G G' G2 H H' H2 G0 H0 : Hp} {S S' S2 S0 : Sto}
/-! ### sorted -/
theorem rps_pairs : ∀ {l : List (V × D)}, (∀ z ∈ l, Rp K G z.1 z.2) → Rps K G (l.map (·.1)) (l.map (·.2))
  | [], _ => .nil
  | z :: r, h => .cons (h z (List.mem_cons_self ..)) (rps_pairs fun y hy => h y (List.mem_cons_of_mem _ hy))
theorem rps_zip : ∀ {vs : List V} {ds : List D}, Rps K G vs ds → (∀ z ∈ vs.zip ds, Rp K G z.1 z.2) ∧ (vs.zip ds).map (·.1) = vs ∧ (vs.zip ds).map (·.2) = ds
  | _, _, .nil => ⟨(fun _ h => nomatch h), rfl, rfl⟩
  | _, _, .cons r q => by
    obtain ⟨h1, h2, h3⟩ := rps_zip q
    refine ⟨fun z hz => ?_, by rw [List.zip_cons_cons, List.map_cons, h2], by rw [List.zip_cons_cons, List.map_cons, h3]⟩
    rcases List.mem_cons.mp hz with rfl | hm
    · exact r
    · exact h1 z hm
theorem each_of {F : Value → V × D → Prop} : ∀ {l : List (V × D)} {us : List Value}, Vals (l.map (·.1)) us → (∀ z ∈ l, ∀ u, RelV z.1 u → F u z) → EachIs F us l
  | [], _, .nil, _ => .nil
  | z :: r, _, .cons a b, h => .cons (h z (List.mem_cons_self ..) _ a) (each_of b fun y hy => h y (List.mem_cons_of_mem _ hy))
theorem vals_each : ∀ {l : List (V × D)} {us : List Value}, EachIs (fun u z => RelV z.1 u) us l → Vals (l.map (·.1)) us
  | _, _, .nil => .nil
  | _, _, .cons a b => .cons a (vals_each b)
theorem plns_mem {n : Nat} {l : List D} (h : plns n l = true) {d : D} (hd : d ∈ l) : pln n d = true := by
  rw [plns_all, List.all_eq_true] at h
  exact h d hd
def sorted (l : List D) : List D := l.mergeSort (dataLe false toP)
def srtOk (l : List D) : Prop := plns 8 l = true ∧ AllAlike (l.map toP) ∧ Sortable (l.map toP)
def sortD (d : D) (S : Sto) (Q : DQ) : Prop := vwk S d fun d' => match d' with
  | .lst l => srtOk l ∧ Q (.lst (sorted l)) S
  | _ => False
section
variable {X : Cx} {k : Nat}
theorem c_sorted (hr : Room k X.A) : CallR X (.builtin "sorted") (liftC X.K (on1 sortD)) := by
  intro pins s σ H vs us Q I r h
  obtain ⟨G, S, ds, QD, rl, rs, h, kq⟩ := h
  obtain ⟨d, v, rfl, rfl, rx, h⟩ := on1_of h rs
  simp only [sortD, vwk_is] at h
  split at h
  · rename_i l ex
    obtain ⟨⟨hp, hal, hk⟩, h⟩ := h
    obtain ⟨a, xs, rfl, ha, rv, lv⟩ := vw_lst rl rx ex
    obtain ⟨u, rfl, ru⟩ := vals1 r
    obtain rfl : u = Value.ref a := ru
    obtain ⟨its, rI, hl, hz⟩ := I.list (SqL.of ha)
    obtain ⟨z1, z2, z3⟩ := rps_zip rv
    have em : (xs.zip l).map (fun c => toP c.2) = l.map toP := by rw [← z3, List.map_map]; simp only [z3]; rfl
    have ev : Vals ((xs.zip l).map (·.1)) its := by rw [z2]; exact rI
    have un := hr.un
    refine PySem.W.sorted_data (R := fun u c => RelV c.1 u) (enc := fun c => toP c.2) (bs := xs.zip l) hl.isList (each_of ev fun z _ u ru => ru) (each_of ev fun z hz u ru => ?_) (by rw [em]; exact hal) (by rw [em]; exact hk) ?_ (fun b hb => ?_) (fun out hlen eo => ?_)
    · have hm : z.2 ∈ l := by rw [← z3]; exact List.mem_map_of_mem hz
      exact Dp.reads I _ z.1 u (dp_of rl 8 _ _ (z1 z hz) (plns_mem hp hm)).1 ru
    · have : (xs.zip l).length = l.length := by rw [List.length_zip, rv.length, Nat.min_self]
      rw [this]; exact lv
    · have hm : b.2 ∈ l := by rw [← z3]; exact List.mem_map_of_mem hb
      have := (dp_of rl 8 _ _ (z1 b hb) (plns_mem hp hm)).2.2
      omega
    · have vo := vals_each eo
      have hf : H (s.heap.objs.size + 1) = none := I.hok.fresh (Nat.le_succ _)
      have es : ((xs.zip l).mergeSort (dataLe false fun c => toP c.2)).map (·.2) = sorted l := by
        have := PySem.W.sort_maps (r := dataLe false fun c : V × D => toP c.2) (s := dataLe false toP) (fun c : V × D => c.2) (l := xs.zip l) (fun _ _ _ _ => rfl)
        rw [this, z3]; rfl
      have rsort : Rps X.K G (((xs.zip l).mergeSort (dataLe false fun c => toP c.2)).map (·.1)) (sorted l) := by
        rw [← es]
        exact rps_pairs fun z hz => z1 z ((List.mergeSort_perm ..).mem_iff.mp hz)
      have ls : (sorted l).length = l.length := (List.mergeSort_perm ..).length_eq
      obtain ⟨e, he⟩ := sortedAll_at s.heap its (List.toArray out)
      obtain ⟨s1, r1⟩ := fz_lst rl hf rsort (by rw [ls]; exact lv)
      refine ⟨.ref (s.heap.objs.size + 1), _, I.laid (t' := s.toks) (fun b o hb => sortedAll_old hb) (Nat.le_succ _) ?_, rfl, kq _ _ _ _ _ s1 r1 h⟩
      exact ⟨by rw [rsort.length, ls]; exact lv, out, e, vo, he⟩
  · exact h.elim
end
end SM

set_option Elab.async false
set_option linter.all false
set_option maxRecDepth 100000
set_option maxHeartbeats 2000000
namespace SM
open PySem PySem.Spec PyProof.Rows L2
/-! ### dict comprehensions, the keys tuples (after HandS.DictComp, whose keys are ints or texts) -/
section
variable {X : Cx}
theorem d_dictSetT {pinz : List (Addr × Obj)} {σ : L2.St} {H : Hp} {s : Shared} {E : Value → Shared → Prop} {d b : Addr} {kvs : List (List Key × V)} {ks : List Key} {v : V} {u r : Value} {Q : Unit → Shared → Prop} (hu : X.A.units < cLine) (I : Inv X pinz σ H s) (hD : H d = some (.dT kvs)) (hz : kvs.length < sizeLine)
    (hb : H b = some (.tup (ks.map kV))) (ry : RelV (.ref b) u) (rv : RelV v r) (h : ∀ s', Inv X pinz σ (upd H d (.dT (putK kvs ks v))) s' → Q () s') : wpAny (model X.prog X.w) X.A (dictSet d u r) Q E s := by
  obtain rfl : u = Value.ref b := ry
  obtain ⟨z, hd, xs, rel, dd⟩ := dt_of I.hok hD
  have hx : xs.length ≤ sizeLine := by rw [← Paired.length rel]; exact z
  have hl : (putK kvs ks v).length ≤ sizeLine := Nat.le_trans (length_putK kvs ks v) (by omega)
  refine wpAny_dictSet_heap (hsz := hx) (knd := tupleKind (mixKind X.prog X.w)) hu (key_of I.hok hb) dd fun h' dd' hs => h _ ?_
  obtain ⟨q, es, ep, hq, h2, h3, h4, _, h5⟩ := dd'
  have kp : ∀ c ys, H c = some (.tup ys) → upd H d (.dT (putK kvs ks v)) c = some (.tup ys) := fun c ys ec => by
    rw [upd_ne (ne_of ec hD (fun z => nomatch z))]; exact ec
  exact d_write I (by rw [hD]; exact True.intro) hs ⟨q, hq⟩ ⟨hl, hd, _, (rel.put ks hb rv).keeps kp, q, es, ep, hq, h2, h3, h4, h5⟩
def tDcT (wi : TI) (g : TG) (tt : TT) (tk tv : TE) (vs : List Nat) : TE := fun σ H Q => wi σ H fun J M1 => ∀ D, M1 D = none → ∃ W : Nat → Nat → Hp → Prop, (∃ m, W 0 m (upd M1 D (.dT []))) ∧ ∀ i m H, W i m H →
  (J.stop i H ∧ Q (.ref D) H) ∨ (J.go i H ∧ ∃ Ny : Hp → Prop, (∀ H', Ny H' → ∃ m', m' < m ∧ W (i + 1) m' H') ∧ ∀ x H', J.yld i H x H' → g x (wipe σ vs) H' fun σ2 M2 => wipe σ2 vs = wipe σ vs ∧ tt σ2 M2 fun b M3 =>
    if b = true then tk σ2 M3 fun y M4 => tv σ2 M4 fun z M5 => ∃ kvs ks b, y = .ref b ∧ M5 b = some (.tup (ks.map kV)) ∧ M5 D = some (.dT kvs) ∧ kvs.length < sizeLine ∧ Ny (upd M5 D (.dT (putK kvs ks z))) else Ny M3)
theorem dcT_core (hu : X.A.units < cLine) {pinz : List (Addr × Obj)} {s : Shared} {σ : L2.St} {H : Hp} {Q : VK} {kx vx tg iter : Expr} {ifs : List Expr} {scope : Scope} {own : List (Str × Nat)} {pos pos' : Pos} {wi : TI} {g : TG} {tt : TT} {tk tv : TE} {use : Option (Value → Sem Unit)} {Qf : Value → Shared → Prop}
    (hc : X.calm = true) (hN : X.N.Nodup) (I : Inv X pinz σ H s) (hi : PI X tg iter wi) (ok : BlkOk X.N X.env.scope scope own)
    (hg : ∀ s H C cl fp, PG (Cx.bk X scope s H C cl fp) tg g) (ht : ∀ s H C cl fp, PTs (Cx.bk X scope s H C cl fp) ifs tt)
    (hk : ∀ s H C cl fp, PE (Cx.bk X scope s H C cl fp) kx tk)
    (he : ∀ s H C cl fp, PE (Cx.bk X scope s H C cl fp) vx tv) (hs : ∀ x, foldedSetIterable iter X.env x = pure x)
    (h : tDcT wi g tt tk tv (own.map (·.2)) σ H Q)
    (hRR : ∀ D C s' m H', Inv X pinz σ H' s' → Q (.ref D) H' → s'.heap.Ns C m → FpOk X pinz H' C → compPost (model X.prog X.w) X.A X.xe use Qf (.ref D) C (.ok .next) s') :
    wpAny (model X.prog X.w) X.A (comprehension (.DictComp kx vx [⟨tg, iter, ifs, 0⟩] scope pos) scope X.env pos' newDict false (eval iter X.env) use) Qf X.xe s := by
  have hfr : ∀ y ∈ scope.names, y.2 = .free → ∃ c, X.env.cells.lookup y.1 = some c := fun y hy e => by
    rcases ok.free y hy e with k | k
    · exact I.ok.has _ (.inl k)
    · exact I.ok.has _ (.inr k)
  refine wpAny_comprehension_free (use := use) rfl hs (closure_ok hfr) ok.kind (fun y hy e => by rw [ok.uniq y hy, e])
    (thn (hi.run pinz s σ H _ I h) fun xv t1 hx => thn hx fun itv t2 h2 => ?_)
  obtain ⟨it, fp, tn, J, M2, e, J2, T, sx2, g2, q⟩ := h2
  subst e
  refine wpAny_newObj_type (newEnv_comp ?_)
  generalize hD : t2.heap.objs.size = D
  have hDz : M2 D = none := J2.hok.fresh (Nat.le_of_eq hD)
  obtain ⟨W, ⟨m0, w0⟩, turn⟩ := q D hDz
  generalize hs3 : ({ t2 with heap := t2.heap.push { cls := .type "dict", data := .dict #[] } } : Shared) = t3
  have J3 : Inv X pinz σ (upd M2 D (.dT [])) t3 := by
    rw [← hs3]
    refine J2.laid (t' := t2.toks) (fun b o e => Heap.get?_push_of_some _ e) (Nat.le_of_eq hD) ?_
    rw [← hD]
    exact dt_empty t2.heap J2.big
  have h3 : t3.heap = t2.heap.push { cls := .type "dict", data := .dict #[] } := by rw [← hs3]
  have sz : ∀ b ∈ fp, b < t2.heap.objs.size := fun b hb => by
    obtain ⟨o, e, _⟩ := T.obj _ _ sx2 b hb
    exact Heap.lt_size e
  have g3 : ∀ b ∈ fp, FpOk X pinz (upd M2 D (.dT [])) b ∧ b < t3.heap.objs.size := fun b hb => by
    have hlt := sz b hb
    refine ⟨⟨?_, (g2 b hb).2⟩, by rw [h3, Heap.size_push]; exact Nat.lt_succ_of_lt hlt⟩
    rw [upd_ne (by rw [← hD]; exact Nat.ne_of_lt hlt)]
    exact (g2 b hb).1
  have sx3 : tn 0 t3.heap := T.keep _ _ _ sx2 fun b _ o e => by rw [h3]; exact Heap.get?_push_of_some _ e
  have J4 := block_start J3 ok hN g3
  have qg := hg t3 (upd M2 D (.dT [])) t3.heap.objs.size (cellsFrom (t3.heap.objs.size + 1) scope.names (cloFrom X.env.cells scope.names [])) fp
  have qt := ht t3 (upd M2 D (.dT [])) t3.heap.objs.size (cellsFrom (t3.heap.objs.size + 1) scope.names (cloFrom X.env.cells scope.names [])) fp
  have qk := hk t3 (upd M2 D (.dT [])) t3.heap.objs.size (cellsFrom (t3.heap.objs.size + 1) scope.names (cloFrom X.env.cells scope.names [])) fp
  have qe := he t3 (upd M2 D (.dT [])) t3.heap.objs.size (cellsFrom (t3.heap.objs.size + 1) scope.names (cloFrom X.env.cells scope.names [])) fp
  unfold Cx.bk at qg qt qk qe
  show codeAny _ _ (.compStart (.DictComp kx vx [⟨tg, iter, ifs, 0⟩] scope pos) 0 (.ref it) (.ref D) (compEnvC scope (cellsFrom (t3.heap.objs.size + 1) scope.names (cloFrom X.env.cells scope.names [])) t3.heap.objs.size X.env)) (compPost (model X.prog X.w) X.A X.xe use Qf (.ref D) t3.heap.objs.size) { t3 with heap := pushCells (t3.heap.push { cls := .type "dict", data := .dict #[] }) scope.names }
  have nf : ∀ b ∈ fp, (upd M2 D (.dT [])) b = none := fun b hb => (g3 b hb).1.1
  generalize hcv : compEnvC scope (cellsFrom (t3.heap.objs.size + 1) scope.names (cloFrom X.env.cells scope.names [])) t3.heap.objs.size X.env = ce at J4 qg qt qk qe ⊢
  have cl0 : ce.locals = t3.heap.objs.size := by subst hcv; rfl
  generalize hH3 : upd M2 D (.dT []) = M3 at J3 J4 qg qt qk qe w0 nf g3
  generalize hs4 : ({ t3 with heap := pushCells (t3.heap.push { cls := .type "dict", data := .dict #[] }) scope.names } : Shared) = t4 at J4 ⊢
  have sx4 : tn 0 t4.heap := T.keep _ _ _ sx3 fun b _ o e => by rw [← hs4]; exact pushCells_keeps _ _ _ _ (Heap.get?_push_of_some _ e)
  have stt : ∀ {σ' : L2.St} {H' : Hp} {s' : Shared}, Inv (X.blk t3 M3 scope ce fp) [] σ' H' s' → (∀ b ∈ fp, H' b = none) → ∀ b ∈ fp, FpOk (X.blk t3 M3 scope ce fp) [] H' b := fun {σ' H' s'} I' hn b hb =>
    ⟨hn b hb, (I'.ok.exf b hb).1, I'.ok.exfs b hb, .inl hb, fun x c e => (I'.ok.exf b hb).2 x c e, fun p hp => absurd (show p ∈ ([] : List (Addr × Obj)) ++ [] from hp) (by simp)⟩
  have loop : codeAny (model X.prog X.w) X.A (.compLoop (.DictComp kx vx [⟨tg, iter, ifs, 0⟩] scope pos) 0 (.ref it) (.ref D) ce) (compPost (model X.prog X.w) X.A X.xe use Qf (.ref D) t3.heap.objs.size) t4 := by
    refine compLoop_anyD (fun n s' => ∃ i H', Inv (X.blk t3 M3 scope ce fp) [] (wipe σ (own.map (·.2))) H' s' ∧ tn i s'.heap ∧ (∀ b ∈ fp, H' b = none) ∧ W i n H') ?_ m0 ⟨0, M3, J4, sx4, nf, w0⟩
    rintro n t5 ⟨i, M5, J5, sx5, n5, w5⟩
    rcases turn i n M5 w5 with ⟨stop, qq⟩ | ⟨go, Ny, hNy, step⟩
    · have td := T.done (X.blk t3 M3 scope ce fp) rfl rfl rfl hc i [] t5 _ M5 (fun _ _ => False) J5 (stt J5 n5) sx5 stop
      refine thnF td fun r t6 ⟨hr, J6⟩ => ?_
      subst hr
      have J7 : Inv X pinz σ M5 t6 := J3.call' (ch := fp) J6.os J6.base J6.hok J6.bare fun b hb => ⟨(g3 b hb).1.2.2.2.1, (g3 b hb).1.2.1, (g3 b hb).1.2.2.2.2.1, (g3 b hb).1.2.2.2.2.2⟩
      have nC : M5 t3.heap.objs.size = none := by
        have z : M5 ce.locals = none := J6.free
        rw [cl0] at z
        exact z
      obtain ⟨m, hn, _⟩ := J6.loc
      have hn : t6.heap.Ns ce.locals m := hn
      rw [cl0] at hn
      exact hRR D t3.heap.objs.size t6 m M5 J7 qq hn (J3.fpOk (Nat.le_refl _) nC)
    · have ti := T.item (X.blk t3 M3 scope ce fp) rfl rfl rfl hc i [] t5 _ M5 (fun _ _ => False) J5 (stt J5 n5) sx5 go
      refine thnF ti fun r t6 ⟨u, hr, h6⟩ => ?_
      subst hr
      refine thnF h6 fun _ t7 ⟨x, M7, J7, r7, y7, sx7, n7⟩ => ?_
      have J7' := J7.pinned (stt J7 n7) (T.obj _ _ sx7)
      refine thnF (qg.run _ t7 _ M7 x u _ J7' r7 (step x M7 y7)) fun _ t8 ⟨σ8, M8, J8, hw8, q8⟩ => ?_
      refine thnF (qt.run _ t8 σ8 M8 _ J8 q8) fun b t9 ⟨M9, J9, q9⟩ => ?_
      have fn0 : ∀ {s' : Shared} {H' : Hp}, Inv (X.blk t3 M3 scope ce fp) ([] ++ pinsAt fp t7.heap) σ8 H' s' → Ny H' → ∃ m, m < n ∧ ∃ i H', Inv (X.blk t3 M3 scope ce fp) [] (wipe σ (own.map (·.2))) H' s' ∧ tn i s'.heap ∧ (∀ b ∈ fp, H' b = none) ∧ W i m H' := fun {s' H'} I' nx => by
        obtain ⟨m', hm, w'⟩ := hNy H' nx
        have pin' : ∀ b ∈ fp, ∀ o, t7.heap.get? b = some o → s'.heap.get? b = some o ∧ H' b = none := fun b hb o e =>
          let z := I'.pin (b, o) (List.mem_append_right _ (List.mem_append_right _ (mem_pinsAt hb e)))
          ⟨z.1, z.2.1⟩
        have hl : (wipe σ (own.map (·.2))).length = σ8.length := by rw [← hw8, wipe_length]
        refine ⟨m', hm, i + 1, H', (I'.unpinned (pins := [])).weak hl (fun j v e => ?_), T.keep _ _ _ sx7 fun b hb o e => (pin' b hb o e).1, fun b hb => ?_, w'⟩
        · rw [← hw8] at e
          exact (wipe_some e).1
        · obtain ⟨o, e, _⟩ := T.obj _ _ sx7 b hb
          exact (pin' b hb o e).2
      cases b with
      | false =>
        simp only [Bool.false_eq_true, if_false] at q9 ⊢
        exact fn0 J9 q9
      | true =>
        simp only [if_true] at q9 ⊢
        refine thnF (qk.run _ t9 σ8 M9 _ J9 q9) fun z t10 ⟨yk, M10, J10, r10, q10⟩ => ?_
        refine thnF (qe.run _ t10 σ8 M10 _ J10 q10) fun z2 t11 ⟨yv, M11, J11, r11, kvs, ks, bk, ek, hb11, hD11, hz11, nx⟩ => ?_
        subst ek
        exact d_dictSetT (X := X.blk t3 M3 scope ce fp) hu J11 hD11 hz11 hb11 r10 r11 fun t12 J12 => fn0 J12 nx
  exact codeAny_compStart_dict loop (T.self X.A 0 _ _ _ sx4 loop)
theorem pe_dcT (hu : X.A.units < cLine) {kx vx tg iter : Expr} {ifs : List Expr} {scope : Scope} {own : List (Str × Nat)} {pos : Pos} {wi : TI} {g : TG} {tt : TT} {tk tv : TE} (hc : X.calm = true) (hN : X.N.Nodup) (hi : PI X tg iter wi) (ok : BlkOk X.N X.env.scope scope own)
    (hg : ∀ s H C cl fp, PG (Cx.bk X scope s H C cl fp) tg g) (ht : ∀ s H C cl fp, PTs (Cx.bk X scope s H C cl fp) ifs tt)
    (hk : ∀ s H C cl fp, PE (Cx.bk X scope s H C cl fp) kx tk)
    (he : ∀ s H C cl fp, PE (Cx.bk X scope s H C cl fp) vx tv) (hs : ∀ x, foldedSetIterable iter X.env x = pure x := by intro _; rfl) :
    PE X (.DictComp kx vx [⟨tg, iter, ifs, 0⟩] scope pos) (tDcT wi g tt tk tv (own.map (·.2))) := by
  refine ⟨fun pinz s σ H Q I h => ?_⟩
  rw [arm_eval_DictComp]
  refine dcT_core hu hc hN I hi ok hg ht hk he hs h fun D C s' m H' I' q hn f => ⟨m, hn, fun h'' sb => ?_⟩
  obtain ⟨g0, g1, g2, g3, g4, g5⟩ := f
  exact ⟨.ref D, H', I'.turned (t' := s'.toks) (fun b o hb e => (sb.2 b hb).trans e) g0 g1 g3 g4 g5, rfl, q⟩
end

variable {K : PySem.W.Frag} {G G' G2 H H' H2 G0 H0 : Hp} {S S' S2 S0 : Sto}
def putD (kvs : List (List Key × D)) (k : List Key) (d : D) : List (List Key × D) :=
  if (kvs.any fun p => decide (p.1 = k)) = true then kvs.map (fun p => if p.1 = k then (p.1, d) else p) else kvs ++ [(k, d)]
theorem length_putD (kvs : List (List Key × D)) (k : List Key) (d : D) : (putD kvs k d).length ≤ kvs.length + 1 := by
  unfold putD
  split
  · rw [List.length_map]; omega
  · rw [List.length_append, List.length_singleton]; omega
theorem rkv_any : ∀ {ws : List (List Key × V)} {kvs : List (List Key × D)} (k : List Key), Rkv K G ws kvs → (ws.any fun p => decide (p.1 = k)) = (kvs.any fun p => decide (p.1 = k))
  | _, _, k, .nil => rfl
  | _, _, k, .cons r q => by rw [List.any_cons, List.any_cons, rkv_any k q]
theorem rkv_repl {v : V} {d : D} (rv : Rp K G v d) : ∀ {ws : List (List Key × V)} {kvs : List (List Key × D)} (k : List Key), Rkv K G ws kvs → Rkv K G (ws.map fun p => if p.1 = k then (p.1, v) else p) (kvs.map fun p => if p.1 = k then (p.1, d) else p)
  | _, _, k, .nil => .nil
  | _, _, k, @Rkv.cons _ _ k0 _ _ _ _ r q => by
    rw [List.map_cons, List.map_cons]
    by_cases e : k0 = k
    · simp only [e, if_true]; exact .cons rv (rkv_repl rv k q)
    · simp only [e, if_false]; exact .cons r (rkv_repl rv k q)
theorem rkv_snoc {k : List Key} {v : V} {d : D} (rv : Rp K G v d) : ∀ {ws : List (List Key × V)} {kvs : List (List Key × D)}, Rkv K G ws kvs → Rkv K G (ws ++ [(k, v)]) (kvs ++ [(k, d)])
  | _, _, .nil => .cons rv .nil
  | _, _, .cons r q => .cons r (rkv_snoc rv q)
theorem rkv_put {ws : List (List Key × V)} {kvs : List (List Key × D)} {v : V} {d : D} (k : List Key) (r : Rkv K G ws kvs) (rv : Rp K G v d) : Rkv K G (putK ws k v) (putD kvs k d) := by
  unfold putK putD
  rw [rkv_any k r]
  split
  · exact rkv_repl rv k r
  · exact rkv_snoc rv r
theorem rkv_len : ∀ {ws : List (List Key × V)} {kvs : List (List Key × D)}, Rkv K G ws kvs → ws.length = kvs.length
  | _, _, .nil => rfl
  | _, _, .cons r q => by rw [List.length_cons, List.length_cons, rkv_len q]
def dDcL (gd : Gd) (q : Pat) (tt : DTT) (tk tv : DTE) (δ : DS) : List D → List (List Key × D) → Sto → (List (List Key × D) → Sto → Prop) → Prop
  | [], a, S, Q => gok gd S ∧ Q a S
  | x :: r, a, S, Q => gok gd S ∧ match bindP q x δ with
    | some δ2 => tt δ2 S (fun b S3 => brn b (tk δ2 S3 (fun y S4 => tv δ2 S4 (fun z S5 => (match y with
      | .tup ds => (match dKeys ds with
        | some ks => dDcL gd q tt tk tv δ r (putD a ks z) S5 Q
        | none => False)
      | _ => False)) noX) noX) (dDcL gd q tt tk tv δ r a S3 Q)) noX
    | none => False
structure dcK (gd : Gd) (q : Pat) (tt : DTT) (tk tv : DTE) (δ : DS) (xs : List D) (a : List (List Key × D)) (S : Sto) (Q : List (List Key × D) → Sto → Prop) : Prop where
  it : dDcL gd q tt tk tv δ xs a S Q
theorem dcK_is {gd : Gd} {q : Pat} {tt : DTT} {tk tv : DTE} {δ : DS} {xs : List D} {a : List (List Key × D)} {S : Sto} {Q : List (List Key × D) → Sto → Prop} : dcK gd q tt tk tv δ xs a S Q = dDcL gd q tt tk tv δ xs a S Q := propext ⟨fun h => h.it, fun h => ⟨h⟩⟩
def dDc (ti : DTI) (q : Pat) (tt : DTT) (tk tv : DTE) (vs : List Nat) : DTE := fun δ S Q X => ti δ S (fun gd xs S1 => dcK gd q tt tk tv (uns δ vs) xs [] S1 (fun kvs S2 => Q (.dT kvs) S2)) X
structure DcI (K : PySem.W.Frag) (G0 H0 : Hp) (S0 : Sto) (A : Addr) (G H : Hp) (S : Sto) (acc : List (List Key × D)) : Prop where
  st : Stp K G0 H0 S0 G H S
  ex : ∃ ws, H A = some (.dT ws) ∧ Rkv K G ws acc
  hg : G A = none
  hs : S A = none
theorem DcI.step {A : Addr} {acc : List (List Key × D)} (I : DcI K G0 H0 S0 A G H S acc) (s : Stp K G H S G' H' S') : DcI K G0 H0 S0 A G' H' S' acc := by
  obtain ⟨vs, e, r⟩ := I.ex
  obtain ⟨e1, e2, e3⟩ := s.fr A _ e I.hg I.hs
  refine ⟨I.st.trans s, ⟨vs, e1, r.mono s.sg⟩, ?_, e2⟩
  rcases e3 with e3 | ⟨z, e3⟩
  · exact e3
  · cases e3
theorem DcI.more {A : Addr} {acc : List (List Key × D)} {us : List (List Key × V)} {v : V} {d : D} {k : List Key} (I : DcI K G0 H0 S0 A G H S acc) (h0 : H0 A = none) (r : Rp K G v d) (hu : H A = some (.dT us)) : DcI K G0 H0 S0 A G (upd H A (.dT (putK us k v))) S (putD acc k d) := by
  obtain ⟨ws, e, rs⟩ := I.ex
  rw [hu] at e
  cases e
  exact ⟨I.st.mutH h0 I.hg I.hs, ⟨_, upd_same, rkv_put k rs r⟩, I.hg, I.hs⟩
section
variable {X : Cx} {W : WX} {k : Nat}
theorem sim_dc {ti : DTI} {q : Pat} {tt : DTT} {tk tv : DTE} {vs : List Nat} (hq : ∀ i ∈ slots q, i ∈ vs) :
    ∀ σ H Q, liftE K W (dDc ti q tt tk tv vs) σ H Q → tDcT (liftI K W ti) (pG K q) (liftT K W0 tt) (liftE K W0 tk) (liftE K W0 tv) vs σ H Q := by
  rintro σ H Q ⟨G, δ, S, QD, XD, re, rl, h, kq, kx⟩
  unfold dDc at h
  simp only [dcK_is] at h
  refine ⟨G, δ, S, _, XD, re, rl, h, fun G1 H1 S1 J gd xs s1 hJ hl hd A hA => ?_, kx⟩
  have fA := s1.rel.free hA
  refine ⟨fun i m H' => m = xs.length - i ∧ i ≤ xs.length ∧ ∃ G' S' acc, DcI K G1 H1 S1 A G' H' S' acc ∧ acc.length ≤ i ∧ dDcL gd q tt tk tv (uns δ vs) (xs.drop i) acc S' (fun ds S'' => QD (.dT ds) S''), ⟨xs.length, by simp, by simp, G1, S1, [], ⟨Stp.newH s1.rel hA, ⟨[], upd_same, .nil⟩, fA.1, fA.2⟩, by simp, by simpa using hd⟩, ?_⟩
  rintro i m H' ⟨rfl, hi, G', S', acc, I, la, hd'⟩
  have hgd : gok gd S' := by
    cases q : xs.drop i with
    | nil => rw [q, dDcL] at hd'; exact hd'.1
    | cons y z => rw [q, dDcL] at hd'; exact hd'.1
  obtain ⟨h1, h2⟩ := hJ G' H' S' I.st.sg I.st.rel hgd i
  by_cases hlt : i < xs.length
  · obtain ⟨hgo, hy⟩ := h1 hlt
    refine .inr ⟨hgo, fun H3 => ∃ G3 S3 acc3, DcI K G1 H1 S1 A G3 H3 S3 acc3 ∧ acc3.length ≤ i + 1 ∧ dDcL gd q tt tk tv (uns δ vs) (xs.drop (i + 1)) acc3 S3 (fun ds S'' => QD (.dT ds) S''), fun H3 ⟨G3, S3, acc3, a1, a2, a3⟩ => ⟨xs.length - (i + 1), by omega, rfl, hlt, G3, S3, acc3, a1, a2, a3⟩, fun x H3 yl => ?_⟩
    obtain ⟨G3, s3, rx⟩ := hy x H3 yl
    have rx := rx _ (show xs[i]? = some xs[i] by simp [hlt])
    have I3 := I.step s3
    rw [List.drop_eq_getElem_cons hlt, dDcL] at hd'
    replace hd' := hd'.2
    split at hd'
    · rename_i δ2 e2
      have re3 : RpE K G3 (wipe σ vs) (uns δ vs) := uns_rpe (re.mono (s1.sg.trans (I.st.sg.trans s3.sg))) vs
      obtain ⟨σ2, a1, a2, a3⟩ := pG_run s3.rel _ _ x (wipe σ vs) (uns δ vs) δ2 re3 rx e2
      refine a1 _ ⟨wipe_agr a3 hq, ?_⟩
      refine ⟨G3, δ2, S', _, noX, a2, s3.rel, hd', fun G4 H4 S4 b s4 q4 => ?_, kx0⟩
      have I4 := I3.step s4
      cases b with
      | true =>
        rw [brn_t] at q4
        refine iteT ?_
        refine ⟨G4, δ2, S4, _, noX, a2.mono s4.sg, s4.rel, q4, fun G5 H5 S5 y dy s5 ry q5 => ?_, kx0⟩
        refine ⟨G5, δ2, S5, _, noX, a2.mono (s4.sg.trans s5.sg), s5.rel, q5, fun G6 H6 S6 z dz s6 rz q6 => ?_, kx0⟩
        have I6 := (I4.step s5).step s6
        split at q6
        · rename_i ds
          split at q6
          · rename_i ks ek
            cases ry with
            | tup hg rs l =>
              have e1 := dKeys_rps rs ek
              obtain ⟨us, e6, r6⟩ := I6.ex
              refine ⟨us, ks, _, rfl, by rw [← e1]; exact s6.rel.at (s6.sg _ _ hg) rfl, e6, by rw [rkv_len r6]; omega, G6, S6, putD acc ks dz, I6.more hA rz e6, Nat.le_trans (length_putD acc ks dz) (by omega), q6⟩
          · exact q6.elim
        · exact q6.elim
      | false =>
        rw [brn_f] at q4
        refine iteF ?_
        exact ⟨G4, S4, acc, I4, by omega, q4⟩
    · exact hd'.elim
  · have hle : xs.length ≤ i := by omega
    refine .inl ⟨h2 hle, ?_⟩
    rw [List.drop_of_length_le hle, dDcL] at hd'
    replace hd' := hd'.2
    obtain ⟨us, e5, r5⟩ := I.ex
    have sf := I.st.frzH hA I.hg I.hs e5
    refine kq _ _ _ _ _ (s1.trans sf) (.dT upd_same (r5.mono fun b w e => ?_)) hd'
    rw [upd_ne (ne_of_none e I.hg)]; exact e
theorem de_dc {kx vx tg iter : Expr} {ifs : List Expr} {scope : Scope} {own : List (Str × Nat)} {ti : DTI} {q : Pat} {tt : DTT} {tk tv : DTE} {pos : Pos} (hr : Room k X.A) (hc : X.calm = true) (hN : X.N.Nodup) (hi : PDI X tg iter ti) (ok : BlkOk X.N X.env.scope scope own) (hg : ∀ s H C cl fp, PDP (Cx.bk X scope s H C cl fp) tg q) (ht : ∀ s H C cl fp, PDTs (Cx.bk X scope s H C cl fp) ifs tt) (hk : ∀ s H C cl fp, PD (Cx.bk X scope s H C cl fp) kx tk) (he : ∀ s H C cl fp, PD (Cx.bk X scope s H C cl fp) vx tv)
    (hq : ∀ i ∈ slots q, i ∈ own.map (·.2) := by decide) (hs : ∀ x, foldedSetIterable iter X.env x = pure x := by intro _; rfl) : PD X (.DictComp kx vx [⟨tg, iter, ifs, 0⟩] scope pos) (dDc ti q tt tk tv (own.map (·.2))) := ⟨fun W tk =>
  PE.weak (pe_dcT (by have := hr.un; omega) hc hN (hi.run W tk) ok (fun s H C cl fp => (hg s H C cl fp).run) (fun s H C cl fp => (ht s H C cl fp).run W0 takes0N) (fun s H C cl fp => (hk s H C cl fp).run W0 takes0N) (fun s H C cl fp => (he s H C cl fp).run W0 takes0N) hs) (sim_dc hq)⟩
end
end SM

set_option Elab.async false
set_option linter.all false
set_option maxRecDepth 100000
set_option maxHeartbeats 2000000
namespace SM
open PySem PySem.Spec PyProof.Rows L2
open PySem.W (EachIs AllAlike Sortable dataLe KeyPure)
/-! ### a key function of one statement: return (c[1], c[0]) -/
def roB (c : Str) (q1 q2 q3 q4 q5 q6 q7 q8 : Pos) (k1 k2 k3 : Nat) : List Stmt :=
  [.Return (some (.Tuple [.Subscript (.Name c q1) (.Constant (.int 1) k1 q2) q3, .Subscript (.Name c q4) (.Constant (.int 0) k2 q5) q6] k3 q7)) q8]
section
variable {prog : Program} {w : World} {A : Around} {E : Value → Shared → Prop} {s : Shared} {env : Env} {c : Str}
theorem raw_item {b : Addr} {its : Array Value} {i : Int} {j : Nat} {u : Value} {q1 q2 q3 : Pos} {k : Nat} {m : Str → Option Value} {Q : Value → Shared → Prop} (hk : env.scope.kind = .function) (hl : env.kindOf c = some .local) (hn : s.heap.Ns env.locals m) (hv : m c = some (.ref b)) (ht : IsTup s.heap b its)
    (hj : seqIndex? i its.size = some j) (hx : its[j]? = some u) (h0 : -(2 ^ 63) ≤ i) (h1 : i < 2 ^ 63) (hd : (c == ("__debug__" : Str)) = false) (h : Q u { s with toks := s.toks + 1 }) :
    wpAny (model prog w) A (eval (.Subscript (.Name c q1) (.Constant (.int i) k q2) q3) env) Q E s := by
  refine wpAny_Subscript_Constant_late (wpAny_Name (wpAny_loadName_local hk hl hn hv ?_) hd)
  refine wpAny_Constant_int ?_
  exact ⟨"tuple", _, slot_tuple_getitem.lookup, ht.typeIs, getItem_tuple (s := { s with toks := s.toks + 1 }) ht h0 h1 hj hx h⟩

theorem bindL_one {kd : Str → Option NameKind} {v : Value} (h : kd c = some .local) : bindL kd [(c, v)] (fun _ => none) c = some v := by
  show (if kd c = some .local then fun y => if y = c then some v else none else fun _ => none) c = some v
  rw [if_pos h, if_pos rfl]
theorem ro_call {K : PySem.W.Frag} {f b : Addr} {name qual : Str} {params : Arguments} {scope : Scope} {dV kV doc pm cdv ct oc : Value} {an od : Option Addr} {osl : Array (Option Value)} {q1 q2 q3 q4 q5 q6 q7 q8 : Pos} {k1 k2 k3 : Nat} {x y : Int} {t u : Tok}
    (lk : K.lookup f = some ⟨oc, od, .func (PySem.W.fnOf name qual params (roB c q1 q2 q3 q4 q5 q6 q7 q8 k1 k2 k3) scope dV kV doc pm an cdv ct), osl⟩) (hcd : PySem.W.codeIn K cdv qual = true) (KX : K.In s.heap) (lim : s.heap.NoLimit) (hk : scope.kind = .function) (hco : scope.isCoroutine = false) (hge : scope.isGenerator = false) (hloc : scope.names.lookup c = some .local) (hdep : A.depth < recursionLimit)
    (hb : bindArgs (PySem.W.fnOf name qual params (roB c q1 q2 q3 q4 q5 q6 q7 q8 k1 k2 k3) scope dV kV doc pm an cdv ct) ⟨[.ref b], []⟩ = pure [(c, .ref b)]) (hd : (c == ("__debug__" : Str)) = false) (ht : IsTup s.heap b #[.int x t, .int y u]) :
    wpAny (model prog w) A (call (.ref f) [.ref b]) (KeyPure (.tuple [.int y, .int x]) s) E s := by
  refine wpAny_call (codeAny_call_function hdep (KX _ _ lk) rfl hco hge rfl (PySem.W.codeRec_of KX hcd) ?_)
  rw [hb]
  refine wpAny_pure ?_
  refine wpAny_newFunctionEnv_cells hk (fun z hz => ?_) fun env he s1 z => ?_
  · rcases List.mem_cons.mp hz with rfl | h
    · exact .inl hloc
    · cases h
  subst he
  refine ⟨lim.keeps z.toInCall.keep, codeAny_func ?_⟩
  obtain ⟨h', tk, e1⟩ := z.toInCall.same
  have kp := z.toInCall.keep
  have ns := z.toInCall.ns
  subst e1
  have ht1 : IsTup h' b #[.int x t, .int y u] := by
    obtain ⟨o, a1, a2⟩ := ht
    exact ⟨o, kp _ _ a1, a2⟩
  refine wpAny_execs_cons (wpAny_Return_some (wpAny_Tuple (wpAny_items_cons ?_)))
  refine raw_item (j := 1) (u := .int y u) hk hloc ns (bindL_one hloc) ht1 rfl rfl (by decide) (by decide) hd (wpAny_items_cons ?_)
  refine raw_item (j := 0) (u := .int x t) hk hloc ns (bindL_one hloc) ht1 rfl rfl (by decide) (by decide) hd (wpAny_items_nil ⟨(show 2 ≤ sizeLine by decide), ?_⟩)
  exact ⟨_, _, rfl, fun b o e => Heap.get?_push_of_some _ (kp b o e), .tuple (as := []) (Heap.get?_push_size _ rfl) rfl rfl (.cons (as := []) (bs := []) (.int y u) (.cons (as := []) (bs := []) (.int x t) .nil))⟩
end

def pr (c : Int × Int) : D := .tup [.int c.1, .int c.2]
def roK (c : Int × Int) : PyData := .tuple [.int c.2, .int c.1]
def roSort (l : List (Int × Int)) : List (Int × Int) := l.mergeSort fun p q => decide (p.2 < q.2 ∨ (p.2 = q.2 ∧ p.1 ≤ q.1))
variable {K : PySem.W.Frag} {G G' G2 H H' H2 G0 H0 : Hp} {S S' S2 S0 : Sto}
/-- the facts of the key function -/
structure RoF (K : PySem.W.Frag) (f : Addr) : Prop where
  ex : ∃ (oc : Value) (od : Option Addr) (name qual : Str) (params : Arguments) (scope : Scope) (dV kV doc pm cdv ct : Value) (an : Option Addr) (osl : Array (Option Value)) (c : Str) (q1 q2 q3 q4 q5 q6 q7 q8 : Pos) (k1 k2 k3 : Nat),
    K.lookup f = some ⟨oc, od, .func (PySem.W.fnOf name qual params (roB c q1 q2 q3 q4 q5 q6 q7 q8 k1 k2 k3) scope dV kV doc pm an cdv ct), osl⟩ ∧ PySem.W.codeIn K cdv qual = true ∧ scope.kind = .function ∧ scope.isCoroutine = false ∧ scope.isGenerator = false ∧ scope.names.lookup c = some .local ∧
    (∀ b, bindArgs (PySem.W.fnOf name qual params (roB c q1 q2 q3 q4 q5 q6 q7 q8 k1 k2 k3) scope dV kV doc pm an cdv ct) ⟨[.ref b], []⟩ = pure [(c, .ref b)]) ∧ (c == ("__debug__" : Str)) = false
theorem pr_tup {P : Program} {w : World} {h : Heap} (rl : Rel K G H S) (ok : HOk P w H h) {v : V} {u : Value} {c : Int × Int} (r : Rp K G v (pr c)) (ru : RelV v u) : ∃ b t t', u = .ref b ∧ IsTup h b #[.int c.1 t, .int c.2 t'] := by
  unfold pr at r
  cases r with
  | @tup a vs _ hg rs l =>
    cases rs with
    | cons r1 rs =>
      cases rs with
      | cons r2 rs =>
        cases rs
        cases r1
        cases r2
        obtain rfl : u = Value.ref a := ru
        have hh : H a = some (.tup [.int c.1, .int c.2]) := rl.at hg rfl
        obtain ⟨_, its, rv, it⟩ := (show ObjOk P w H h a (.tup [.int c.1, .int c.2]) from ok a _ hh)
        cases rv with
        | cons ra rv =>
          cases rv with
          | cons rb rv =>
            cases rv
            obtain ⟨t, rfl⟩ := ra
            obtain ⟨t', rfl⟩ := rb
            exact ⟨a, t, t', rfl, it⟩
def dSortRo (t : DTE) : DTE := fun δ S Q X => t δ S (fun d S1 => vwk S1 d fun d' => match d' with
  | .lst l => ∃ cs, l = cs.map pr ∧ Q (.lst ((roSort cs).map pr)) S1
  | _ => False) X
section
variable {X : Cx} {k : Nat}
def rRo (K : PySem.W.Frag) (f : Addr) (vs zs : List V) (H : Hp) (Q : VK) : Prop := ∃ (G : Hp) (S : Sto) (v : V) (d : D) (l : List D) (cs : List (Int × Int)) (QD : DQ), vs = [v] ∧ zs = [.ref f] ∧ Rel K G H S ∧ Rp K G v d ∧ vw S d = .lst l ∧ l = cs.map pr ∧ QD (.lst ((roSort cs).map pr)) S ∧ ∀ G' H' S' v d, Stp K G H S G' H' S' → Rp K G' v d → QD d S' → Q v H'
theorem vals_eachG {α : Type} : ∀ {l : List (V × α)} {us : List Value}, Vals (l.map (·.1)) us → EachIs (fun u z => RelV z.1 u) us l
  | [], _, .nil => .nil
  | _ :: _, _, .cons a b => .cons a (vals_eachG b)
theorem each_valsG {α : Type} : ∀ {l : List (V × α)} {us : List Value}, EachIs (fun u z => RelV z.1 u) us l → Vals (l.map (·.1)) us
  | _, _, .nil => .nil
  | _, _, .cons a b => .cons a (each_valsG b)
theorem c_ro {f : Addr} (hr : Room k X.A) (F : RoF X.K f) : CallRK X (.builtin "sorted") [Str.ofString "key"] (rRo X.K f) := by
  intro pins s σ H vs zs us ws Q I r r2 h
  obtain ⟨G, S, v, d, l, cs, QD, rfl, rfl, rl, rx, ex, el, h, kq⟩ := h
  obtain ⟨a, xs, rfl, ha, rv, lv⟩ := vw_lst rl rx ex
  obtain ⟨u, rfl, ru⟩ := vals1 r
  obtain ⟨u2, rfl, ru2⟩ := vals1 r2
  obtain rfl : u = Value.ref a := ru
  obtain rfl : u2 = Value.ref f := ru2
  obtain ⟨its, rI, hl, hz⟩ := I.list (SqL.of ha)
  subst el
  have hlen : xs.length = cs.length := by rw [rv.length, List.length_map]
  obtain ⟨z1, z2, z3⟩ := rps_zip rv
  have un := hr.un
  have dp := hr.dp
  have ez : (xs.zip cs).map (fun z => (z.1, pr z.2)) = xs.zip (cs.map pr) := by
    rw [List.zip_map_right]; rfl
  have rz : ∀ z ∈ xs.zip cs, Rp X.K G z.1 (pr z.2) := fun z hz => z1 (z.1, pr z.2) (by rw [← ez]; exact List.mem_map_of_mem (f := fun z : V × (Int × Int) => (z.1, pr z.2)) hz)
  have em : (xs.zip cs).map (·.1) = xs := by
    have := congrArg (List.map Prod.fst) ez
    rw [z2, List.map_map] at this
    exact this
  have em2 : (xs.zip cs).map (·.2) = cs := List.map_snd_zip (by omega)
  have each : EachIs (fun u z => RelV z.1 u) its (xs.zip cs) := vals_eachG (by rw [em]; exact rI)
  obtain ⟨oc, od, name, qual, params, scope, dV, kV, doc, pm, cdv, ct, an, osl, c, q1, q2, q3, q4, q5, q6, q7, q8, k1, k2, k3, lk, hcd, hk, hco, hge, hloc, hb, hdbg⟩ := F.ex
  have e0 := I.env0
  refine PySem.W.sorted_key_data (b := false) (R := fun u z => RelV z.1 u) (bs := xs.zip cs) (fun z => roK z.2) hl.isList each (AllAlike.of fun _ _ => by simp [PySem.W.alike, PySem.W.alikeAll, roK]) (Sortable.tuples fun _ => ⟨_, _, rfl⟩) ?_ (fun z hz => ?_) (ksk_s1 _ _) (fun _ => ksk_l1 _ _) (fun _ => ksk_t1 _ _)
    (fun u z ru hz h tk kp => ?_) (fun out cc h' tk kp fr hD hlo eo => ?_)
  · rw [List.length_zip, hlen, Nat.min_self]
    rw [List.length_map] at lv
    exact lv
  · have hd : (roK z.2).depth = 1 := by simp [roK, PyData.depth, PyData.depthAll]
    omega
  · obtain ⟨b, t, t', rfl, it⟩ := pr_tup rl I.hok (rz z hz) ru
    have KX : X.K.In h := I.kIn.keeps kp
    have lim : h.NoLimit := (e0.mod.nolimit.keeps fun b o e => (e0.bs b o e).1).keeps kp
    refine ro_call (t := t) (u := t') lk hcd KX lim hk hco hge hloc ?_ (hb b) hdbg ?_
    · show X.A.depth < recursionLimit
      omega
    · obtain ⟨o, a1, a2⟩ := it
      exact ⟨o, kp _ _ a1, a2⟩
  · have vo : Vals (((xs.zip cs).mergeSort (dataLe false fun z => roK z.2)).map (·.1)) out := each_valsG eo
    have es : ((xs.zip cs).mergeSort (dataLe false fun z => roK z.2)).map (·.2) = roSort cs := by
      have := PySem.W.sort_maps (r := dataLe false fun z : V × (Int × Int) => roK z.2) (s := dataLe false roK) (fun z : V × (Int × Int) => z.2) (l := xs.zip cs) (fun _ _ _ _ => rfl)
      rw [this, em2, roSort]
      exact congrArg (cs.mergeSort ·) (PySem.W.dataLe_ii (β := Int × Int) (fun p => p.2) (fun p => p.1))
    have hf : H (s.heap.objs.size + 1) = none := I.hok.fresh (Nat.le_succ _)
    have rsort : Rps X.K G (((xs.zip cs).mergeSort (dataLe false fun z => roK z.2)).map (·.1)) ((roSort cs).map pr) := by
      rw [← es, List.map_map]
      have := rps_pairs (K := X.K) (G := G) (l := ((xs.zip cs).mergeSort (dataLe false fun z => roK z.2)).map fun z => (z.1, pr z.2)) (fun z hz => by
        obtain ⟨y, hy, rfl⟩ := List.mem_map.mp hz
        exact rz y ((List.mergeSort_perm ..).mem_iff.mp hy))
      rw [List.map_map, List.map_map] at this
      exact this
    have ls : ((roSort cs).map pr).length ≤ sizeLine := by
      rw [List.length_map] at lv ⊢
      unfold roSort
      rw [(List.mergeSort_perm ..).length_eq]
      exact lv
    obtain ⟨s1, r1⟩ := fz_lst rl hf rsort ls
    refine ⟨.ref (s.heap.objs.size + 1), _, I.laid (t' := tk) kp (Nat.le_succ _) ?_, rfl, kq _ _ _ _ _ s1 r1 h⟩
    exact ⟨by rw [rsort.length]; exact ls, out, cc, vo, hD⟩
theorem de_sortRo {f : Addr} {x y : Str} {p p2 kp pos : Pos} {e : Expr} {t : DTE} (hr : Room k X.A) (F : RoF X.K f) (ha : PD X e t) (hgf : Gl X y) (hmf : X.mg y = some (.ref f)) (hg : Gl X x) (hm : X.mg x = none) (hv : bootBuiltins x = some (.builtin "sorted")) (hn : x ≠ "__name__" := by decide) (hdb : (x == ("__debug__" : Str)) = false := by decide) (hdy : (y == ("__debug__" : Str)) = false := by decide)
    (hse : starEach [e] X.env = (false, eval e X.env) :: starEach [] X.env := by rfl) (he : backTo pos (starEach [e] X.env) = (false, eval e X.env) :: backTo pos (starEach [] X.env) := by rfl) (hpl : (backTo pos (starEach [e] X.env)).any (·.1) = false := by rfl) : PD X (.Call (.Name x p) [e] [⟨some (Str.ofString "key"), .Name y p2, kp⟩] pos) (dSortRo t) := ⟨fun W tk =>
  PE.weak (pe_callBK (c_ro hr F) hg hm hv (pa_cons (ha.run W tk) pa_nil hse) (pk_cons (pe_glob (v := .ref f) hgf hmf rfl hdy) pk_nil) hn hdb he hpl) (by
    rintro σ H Q ⟨G, δ, S, QD, XD, re, rl, h, kq, kx⟩
    refine ⟨G, δ, S, _, XD, re, rl, h, fun G1 H1 S1 v d s1 rv q => ?_, kx⟩
    simp only [vwk_is] at q
    split at q
    · rename_i l ex
      obtain ⟨cs, el, q⟩ := q
      exact ⟨G1, S1, v, d, l, cs, QD, rfl, rfl, s1.rel, rv, ex, el, q, fun G2 H2 S2 v d s2 r q => kq _ _ _ _ _ (s1.trans s2) r q⟩
    · exact q.elim)⟩
end
/-! ### list(d) of a dict with tuple keys -/
def kD : Key → D
  | .inl i => .int i
  | .inr s => .str s
def ksOk (ks : List Key) : Prop := ∀ s, Sum.inr s ∈ ks → okS s
theorem kD_rps : ∀ {ks : List Key}, ksOk ks → Rps K G (ks.map kV) (ks.map kD)
  | [], _ => .nil
  | .inl i :: r, h => .cons (.int i) (kD_rps fun s hs => h s (List.mem_cons_of_mem _ hs))
  | .inr z :: r, h => .cons (.str (h z (List.mem_cons_self ..))) (kD_rps fun s hs => h s (List.mem_cons_of_mem _ hs))
def keysD (kvs : List (List Key × D)) : List D := kvs.map fun p => .tup (p.1.map kD)
theorem keys_frz : ∀ {ws : List (List Key × V)} {kvs : List (List Key × D)} {bs : List Addr} {G G0 : Hp}, Rkv K G0 ws kvs → IsKeys H ws bs → (∀ p ∈ kvs, ksOk p.1 ∧ p.1.length ≤ sizeLine) → Rel K G H S → ∃ G', Stp K G H S G' H S ∧ Rps K G' (bs.map V.ref) (keysD kvs)
  | _, _, _, G, _, .nil, .nil, _, rl => ⟨G, Stp.refl rl, .nil⟩
  | _, _, _, G, _, .cons rv rr, .cons hb hr, hk, rl => by
    obtain ⟨G1, s1, e1⟩ := Stp.addT rl hb
    obtain ⟨G2, s2, r2⟩ := keys_frz rr hr (fun p hp => hk p (List.mem_cons_of_mem _ hp)) s1.rel
    obtain ⟨k1, k2⟩ := hk _ (List.mem_cons_self ..)
    exact ⟨G2, s1.trans s2, .cons (.tup (s2.sg _ _ e1) (kD_rps k1) (by rw [List.length_map]; exact k2)) r2⟩
def listKD (d : D) (S : Sto) (Q : DQ) : Prop := vwk S d fun d' => match d' with
  | .dT kvs => (∀ p ∈ kvs, ksOk p.1 ∧ p.1.length ≤ sizeLine) ∧ kvs.length ≤ sizeLine ∧ Q (.lst (keysD kvs)) S
  | _ => False
theorem c_listK {X : Cx} (hc : X.calm = true) : CallR X (.type "list") (liftC X.K (on1 listKD)) := CallR.weak (call_list_dT hc) (by
  rintro vs H Q ⟨G, S, ds, QD, rl, rs, h, kq⟩
  obtain ⟨d, v, rfl, rfl, rx, h⟩ := on1_of h rs
  simp only [listKD, vwk_is] at h
  split at h
  · rename_i kvs ex
    obtain ⟨h1, hl, h⟩ := h
    obtain ⟨a, ws, rfl, hd, rk⟩ := vw_dT rl rx ex
    refine ⟨a, ws, rfl, hd, fun p bs hp ik => ?_⟩
    obtain ⟨G', s1, r1⟩ := keys_frz rk ik h1 rl
    obtain ⟨s2, r2⟩ := fz_lst s1.rel hp r1 (by rw [keysD, List.length_map]; exact hl)
    exact kq _ _ _ _ _ (s1.trans s2) r2 h
  · exact h.elim)
end SM

set_option Elab.async false
set_option linter.all false
set_option maxRecDepth 100000
set_option maxHeartbeats 2000000
namespace SM
open PySem PySem.Spec PyProof.Rows L2
variable {K : PySem.W.Frag} {G G' G2 H H' H2 : Hp} {S S' S2 : Sto}
theorem cxUpN {P : Program} {w : World} : StX.CXUp (L2N.CX P w) := by
  intro outer s H s2 H2 E e s' un kp ho z
  obtain ⟨a, B, H', cls, d, ea, fl, hok, ub, na, os, ag, he⟩ := z
  have t : UB (frs outer) H H' s.heap B s'.heap := by
    constructor
    · exact fun b o q n hb => ub.keep b o (kp b o q) (un.free b o q n (by simp)) hb
    · exact fun b o q hb => ub.slot b o (kp b o q) hb
    · exact fun b o q n => ub.free b o (kp b o q) (un.free b o q n (by simp))
    · exact fun b o q hb => ub.there b o (kp b o q) hb
    · exact fun b xs q => ub.tups b xs (un.tups b xs q)
    · exact fun b o xs q => ub.frzs b o xs (un.frzs b o xs q)
    · intro b ps q
      obtain ⟨m1, e1⟩ := un.tbls b ps q
      obtain ⟨m2, e2⟩ := ub.tbls b _ e1
      exact ⟨m1 ++ m2, by rw [e2, Array.append_assoc]⟩
  exact ⟨a, B, H', cls, d, ea, fl, hok, t, na, os.trans ho, ag, he⟩
/-! ### defs with a star parameter -/
def starSp (n : Nat) (R : DSp) : DSp := fun ds S Q E => n ≤ ds.length ∧ R (ds.take n ++ [.tup (ds.drop n)]) S Q E
theorem rps_take : ∀ {vs : List V} {ds : List D} (n : Nat), Rps K G vs ds → Rps K G (vs.take n) (ds.take n) ∧ Rps K G (vs.drop n) (ds.drop n)
  | _, _, 0, r => ⟨.nil, r⟩
  | _, _, n + 1, .nil => ⟨.nil, .nil⟩
  | _, _, n + 1, .cons r q => ⟨.cons r (rps_take n q).1, (rps_take n q).2⟩
section
variable {P : Program} {w : World} {mg : Str → Option Value} {base : Heap}
theorem fnStar {x qual : Str} {params : Arguments} {body : List Stmt} {scope : Scope} {dvs : List V} {kws : List (Str × V)} {f : Addr} {fd : FuncData} {N ps : List Str} {pv : Str} {k : Nat} (F : FunD K x qual params body scope dvs kws f fd) (Sc : FnScope N (ps ++ [pv]) scope) (R : DSp)
    (len : ∀ ds S Q E, R ds S Q E → ds.length = ps.length + 1) (hps : ps.length + 1 ≤ N.length) (hlen : ∀ ds S Q E, starSp ps.length R ds S Q E → ds.length ≤ sizeLine)
    (hbd : ∀ us rest : List Value, us.length = ps.length → bindArgs fd ⟨us ++ rest, []⟩ = (newTuple rest >>= fun t => pure (ps.zip us ++ [(pv, t)])))
    (hb : ∀ (cdv : Value) (A : Around) (outer : List Env) (s : Shared) (H : Hp) (E : XK), Room k (A.deeper (envOfC qual scope s.heap.objs.size f cdv)) → ∃ ts, PDSs (cxOf (L2N.CX P w) P w K mg base N qual scope f cdv A outer s H E) body ts ∧
      ∀ ds S QD XD, R ds S QD XD → ts ⟨fun _ S' => QD .non S', QD, fun _ _ => False, fun _ _ => False, fun x _ S' => XD x S'⟩ (startD N ds) S) : FnR P w K mg base (L2N.CX P w) (k + 1) f (toSp K (starSp ps.length R)) := by
  obtain ⟨oc, od, dV, kV, doc, pm, an, cdv, ct, osl, rfl, lk, hcd, _, _⟩ := F.ex
  have key := StX.fn_star (sp := toSp K R) (k := k) (CX := L2N.CX P w) (P := P) (w := w) (mg := mg) (base := base) lk hcd Sc cxUpN hbd (fun A outer s H vs Q E hr h => ?_)
  · intro A outer s H us vs Q E hr e0 r h
    refine key A outer s H us vs Q E hr e0 r ?_
    obtain ⟨G, S, ds, QD, XD, rl, rs, h, kq, kx⟩ := h
    have hz := hlen _ _ _ _ h
    obtain ⟨hn, h⟩ := h
    obtain ⟨r1, r2⟩ := rps_take ps.length rs
    refine ⟨vs.take ps.length, vs.drop ps.length, (List.take_append_drop _ _).symm, by rw [List.length_take, rs.length]; omega, by rw [r2.length, List.length_drop]; omega, fun p hp => ?_⟩
    obtain ⟨s1, z1⟩ := fz_tup rl hp r2 (by rw [List.length_drop]; omega)
    exact ⟨_, S, _, QD, XD, s1.rel, (r1.mono s1.sg).append (.cons z1 .nil), h, fun G2 H2 S2 v d s2 r q => kq _ _ _ _ _ (s1.trans s2) r q, fun G2 H2 S2 cls d x s2 r q => kx _ _ _ _ _ _ (s1.trans s2) r q⟩
  · obtain ⟨G, S, ds, QD, XD, rl, rs, h, kq, kx⟩ := h
    obtain ⟨ts, p, q⟩ := hb cdv A outer s H E hr
    refine ⟨liftS K (fun cls d _ H => E cls d H) ts, p.run _ (L2N.takes_of rfl rfl rfl rfl) (passes_of rfl), ⟨G, startD N ds, S, _, startD_rpe rs (by rw [len _ _ _ _ h]; exact hps), rl, q ds S QD XD h, ?_⟩⟩
    exact ⟨fun G1 H1 S1 σ δ s1 _ q => kq _ _ _ _ _ s1 .non q, fun G1 H1 S1 v d s1 r q => kq _ _ _ _ _ s1 r q, fun _ _ _ _ _ _ _ q => q.elim, fun _ _ _ _ _ _ _ q => q.elim, fun G1 H1 S1 σ δ cls d x s1 _ r q => kx _ _ _ _ _ _ s1 r q⟩
end
/-! ### a staticmethod read from its class -/
structure SMet (K : PySem.W.Frag) (C : Addr) (m : Str) (g : Addr) : Prop where
  rd : PySem.W.readsIn K C (.type "type") = true
  ga : PySem.W.specialIn K (.ref C) "__getattribute__" = some (some (.builtin "type.__getattribute__"))
  me : ∃ p rest, PySem.W.findCls K (.ref C) (.type "type") m = some (.get (.builtin "staticmethod.__get__") (.ref p) .none (.ref C)) ∧ PySem.W.recIn K p "staticmethod" = some (.ref g :: rest)
  kp : PySem.W.keepIn K (.ref g) = true
section
variable {X : Cx} {e o : Expr} {es : List Expr} {pos p apos : Pos} {W : WX} {k : Nat} {x m : Str} {t : DTA} {g C : Addr} {R : DSp} {pins : List (Addr × Obj)} {σ : L2.St} {s : Shared} {H : Hp} {A : Around} {E : Value → Shared → Prop}
theorem run_R {Q : VK} {us : List Value} {vs : List V} (F : FnR X.prog X.w X.K X.mg X.base (L2N.CX X.prog X.w) k g (toSp X.K R)) (hr : Room k X.A) (tk : L2N.Takes X W) (I : Inv X pins σ H s) (r : Vals vs us) (h : toSp X.K R vs H Q (WE W σ)) :
    wpAny (model X.prog X.w) X.A (call (.ref g) us) (EP X pins σ Q) X.xe s := by
  refine wpAny_call (codeAny_mono (F X.A X.stack s H us vs Q _ hr I.env0 r h) fun z s' hq => ?_)
  match z, hq with
  | .error e, hq => exact L2N.passAt tk σ pins H s e s' I hq
  | .ok (.ret u), hq => exact I.after hq
theorem getsm_ok {pl : Sem Bool} {Q : Value × List Value → Shared → Prop} (I : Inv X pins σ H s) (c : SMet X.K C m g) (h : ∀ s', Inv X pins σ H s' → Q (.ref g, []) s') : wpAny (model X.prog X.w) A (getMethod (.ref C) m pl) Q E s := by
  obtain ⟨p, rest, e1, e2⟩ := c.me
  refine PySem.W.method_cls I.kIn c.ga (PySem.W.cls_bind I.kIn c.rd e1 ?_)
  refine wpAny_call (PySem.W.sm_get (s := { s with toks := s.toks + 1 }) I.kIn e2 (PySem.W.handed_on rfl ?_))
  exact h _ (I.tok _)
theorem de_sm {pl : Sem Bool} (c : SMet X.K C m g) (F : FnR X.prog X.w X.K X.mg X.base (L2N.CX X.prog X.w) k g (toSp X.K R)) (hr : Room k X.A) (hg : Gl X x) (hm : X.mg x = some (.ref C)) (ha : PDA X (e :: es) t) (hdb : (x == ("__debug__" : Str)) = false := by decide)
    (hst : starEach (e :: es) X.env = (false, eval e X.env) :: starEach es X.env := by rfl) (hpl : (backTo pos (starEach es X.env)).any (·.1) = false := by rfl)
    (ht : eval (.Call (.Attribute (.Name x p) m apos) (e :: es) [] pos) X.env = (do
      let ov ← eval (.Name x p) X.env
      standAt apos.atName
      let (f, first) ← holding [ov] (getMethod ov m pl)
      callWith pos f first (backTo pos (starEach (e :: es) X.env)) (backToKw pos (keywordEach [] X.env))) := by rfl) :
    PD X (.Call (.Attribute (.Name x p) m apos) (e :: es) [] pos) (dCall R [] t) := ⟨fun W tk => ⟨fun pins s σ H Q I h => by
  have h := sim_call (dvs := []) (fun G => .nil) h
  refine PySem.W.methodCall_KW (pl := pl) (thn ((pe_glob (v := .ref C) hg hm rfl hdb).run pins s σ H (fun v H1 => v = .ref C ∧ H1 = H) I ⟨rfl, rfl⟩) fun u s1 ⟨y, H1, I1, rx, ey, eH⟩ => ?_) ht
  subst ey eH
  obtain rfl : u = Value.ref C := rx
  refine getsm_ok I1 c fun s2 I2 => ?_
  refine PySem.W.callWith_K (first := []) (h₀ := X.base) I.ok.mod.kin c.kp ?_ hst hpl
  apply thn ((ha.run W tk).run pos pins s2 σ H1 _ I2 h)
  rintro us s3 ⟨vs, H2, I3, r, q2⟩
  rw [List.append_nil] at q2
  exact ⟨I3.kIn, run_R F hr tk I3 r q2⟩⟩⟩
theorem de_sm0 {pl : Sem Bool} (c : SMet X.K C m g) (F : FnR X.prog X.w X.K X.mg X.base (L2N.CX X.prog X.w) k g (toSp X.K R)) (hr : Room k X.A) (hg : Gl X x) (hm : X.mg x = some (.ref C)) (hdb : (x == ("__debug__" : Str)) = false := by decide)
    (ht : eval (.Call (.Attribute (.Name x p) m apos) [] [] pos) X.env = (do
      let ov ← eval (.Name x p) X.env
      standAt apos.atName
      let (f, first) ← holding [ov] (getMethod ov m pl)
      callWith pos f first (backTo pos (starEach [] X.env)) (backToKw pos (keywordEach [] X.env))) := by rfl) :
    PD X (.Call (.Attribute (.Name x p) m apos) [] [] pos) (dCall R [] dNil) := ⟨fun W tk => ⟨fun pins s σ H Q I h => by
  refine PySem.W.methodCall_KW (pl := pl) (thn ((pe_glob (v := .ref C) hg hm rfl hdb).run pins s σ H (fun v H1 => v = .ref C ∧ H1 = H) I ⟨rfl, rfl⟩) fun u s1 ⟨y, H1, I1, rx, ey, eH⟩ => ?_) ht
  subst ey eH
  obtain rfl : u = Value.ref C := rx
  refine getsm_ok I1 c fun s2 I2 => ?_
  refine PySem.W.callWith_K0 I2.kIn c.kp ?_
  obtain ⟨G, δ, S, QD, XD, re, rl, h, kq, kx⟩ := h
  exact run_R F hr tk I2 .nil ⟨G, S, _, QD, XD, rl, .nil, h, kq, kx⟩⟩⟩
end
end SM

set_option Elab.async false
set_option linter.all false
set_option maxRecDepth 100000
set_option maxHeartbeats 2000000
namespace SM
open PySem PySem.Spec PyProof.Rows L2
open PySem.W (Looks)
variable {K : PySem.W.Frag} {G G' G2 H H' H2 : Hp} {S S' S2 : Sto}
/-! ### == and != by an own __eq__ -/
def tyD (K : PySem.W.Frag) : D → Option Value
  | .non => some (.type "NoneType") | .bl _ => some (.type "bool") | .int _ => some (.type "int") | .str _ => some (.type "str")
  | .lst _ => some (.type "list") | .tup _ => some (.type "tuple") | .dT _ => some (.type "dict") | .ins c _ => some (.ref (cad K c)) | _ => none
theorem looks_ty {X : Cx} {pins : List (Addr × Obj)} {σ : L2.St} {s : Shared} {M : Model} {v : V} {u tb : Value} {d : D} (I : Inv X pins σ H s) (rl : Rel X.K G H S) (r : Rp X.K G v d) (ru : RelV v u) (h : tyD X.K (vw S d) = some tb) : Looks M s.heap (typeOf u) tb := by
  cases e : vw S d with
  | non => rw [e] at h; cases h; rw [(vw_scal r).2.2.2.1 e] at ru; cases ru; exact Looks.of_pure rfl
  | bl b => rw [e] at h; cases h; rw [(vw_scal r).1 _ e] at ru; cases ru; exact Looks.of_pure rfl
  | int i => rw [e] at h; cases h; rw [(vw_scal r).2.1 _ e] at ru; obtain ⟨t, rfl⟩ := ru; exact Looks.of_pure rfl
  | str z => rw [e] at h; cases h; rw [((vw_scal r).2.2.1 _ e).1] at ru; obtain ⟨t, rfl⟩ := ru; exact Looks.of_pure rfl
  | ty n => rw [e] at h; cases h
  | adr a => rw [e] at h; cases h
  | cls c => rw [e] at h; cases h
  | exn a d c ds => rw [e] at h; cases h
  | tup ds =>
    rw [e] at h; cases h
    obtain ⟨a, vs, rfl, _, ha, _⟩ := vw_tup rl r e
    obtain rfl : u = Value.ref a := ru
    obtain ⟨_, its, _, o, h1, h2, _⟩ := (show ObjOk X.prog X.w H s.heap a (.tup vs) from I.hok a _ ha)
    exact h2 ▸ (Looks.ld h1).andThen .now
  | lst ds =>
    rw [e] at h; cases h
    obtain ⟨a, vs, rfl, ha, _⟩ := vw_lst rl r e
    obtain rfl : u = Value.ref a := ru
    obtain ⟨_, its, n, _, h1⟩ := (show ObjOk X.prog X.w H s.heap a (.lst vs) from I.hok a _ ha)
    exact (Looks.ld h1).andThen .now
  | dT kvs =>
    rw [e] at h; cases h
    obtain ⟨a, ws, rfl, ha, _⟩ := vw_dT rl r e
    obtain rfl : u = Value.ref a := ru
    obtain ⟨_, _, xs, _, o, es, ep, h1, h2, _⟩ := (show ObjOk X.prog X.w H s.heap a (.dT ws) from ha.ok I.hok)
    exact h2.1 ▸ (Looks.ld h1).andThen .now
  | ins c ds =>
    rw [e] at h; cases h
    obtain ⟨a, dx, vs, rfl, ha, _⟩ := vw_ins rl r e
    obtain rfl : u = Value.ref a := ru
    obtain ⟨mA, J, _⟩ := ins_get I.hok ha
    obtain ⟨od, J, _⟩ := J.look
    exact J.type
structure EqF (K : PySem.W.Frag) (c : Nat) (oth : List Nat) (f : Addr) : Prop where
  ot : ∀ c2, oth.contains c2 = true → PySem.W.notFirst K (cad K c) (.ref (cad K c2)) = true
  eq : PySem.W.findIn K (.ref (cad K c)) "__eq__" = some (some (.ref f))
  fn : PySem.W.isFn K (.ref f) = true
  ne : PySem.W.findIn K (.ref (cad K c)) "__ne__" = some (some (.builtin "object.__ne__"))
  mro : PySem.W.mroIn K (cad K c) (.type "object") = some true
def tyO (c : Nat) (oth : List Nat) : D → Bool
  | .ins c2 _ => c2 == c || oth.contains c2
  | .str _ | .lst _ | .tup _ | .int _ | .bl _ | .non => true
  | _ => false
theorem sub_no {C : Addr} {T : String} {l : List Value} (e : fastBuiltinMro T = some l) (h : l.contains (.ref C) = false) : PySem.W.subIn K (.type T) (.ref C) = some false := by
  show (fastBuiltinMro T).map (·.contains (.ref C)) = some false
  rw [e]
  exact congrArg some h
theorem tyO_ty {c : Nat} {oth : List Nat} {f : Addr} (Fe : EqF K c oth f) {d : D} (h : tyO c oth d = true) : ∃ tb, tyD K d = some tb ∧ PySem.W.notFirst K (cad K c) tb = true := by
  have nf : ∀ T l, fastBuiltinMro T = some l → l.contains (Value.ref (cad K c)) = false → PySem.W.notFirst K (cad K c) (.type T) = true := fun T l e q => by
    unfold PySem.W.notFirst
    rw [sub_no e q]
    simp
  cases d with
  | ins c2 ds =>
    have h2 : (c2 == c || oth.contains c2) = true := h
    rcases Bool.or_eq_true_iff.mp h2 with h3 | h3
    · obtain rfl := beq_iff_eq.mp h3
      exact ⟨_, rfl, by simp [PySem.W.notFirst]⟩
    · exact ⟨_, rfl, Fe.ot c2 h3⟩
  | str z => exact ⟨_, rfl, nf "str" [.type "str", .type "object"] (by decide +kernel) (by simp)⟩
  | lst z => exact ⟨_, rfl, nf "list" [.type "list", .type "object"] (by decide +kernel) (by simp)⟩
  | tup z => exact ⟨_, rfl, nf "tuple" [.type "tuple", .type "object"] (by decide +kernel) (by simp)⟩
  | int z => exact ⟨_, rfl, nf "int" [.type "int", .type "object"] (by decide +kernel) (by simp)⟩
  | bl z => exact ⟨_, rfl, nf "bool" [.type "bool", .type "int", .type "object"] (by decide +kernel) (by simp)⟩
  | non => exact ⟨_, rfl, nf "NoneType" [.type "NoneType", .type "object"] (by decide +kernel) (by simp)⟩
  | _ => cases h
@[irreducible] def eqI (c : Nat) (oth : List Nat) (R : DSp) (n : Bool) : R2D := fun x y S Q => vwk S x fun x' => match x' with
  | .ins c' _ => c' = c ∧ vwk S y fun y' => tyO c oth y' = true ∧ R [x, y] S (fun d S' => match d with
    | .bl b => Q (.bl (n ^^ b)) S'
    | _ => False) noX
  | _ => False
section
variable {X : Cx} {k : Nat} {c : Nat} {oth : List Nat} {f : Addr} {fd : FuncData} {ps : List Str} {R : DSp} {A : Around} {pins : List (Addr × Obj)} {σ : L2.St} {s : Shared}
/-- the own == is called -/
theorem run_eq {n : Bool} {x y : V} {u v : Value} {Q : VK} (F : FnOk X.prog X.w X.K X.mg X.base (L2N.CX X.prog X.w) k f fd ps (toSp X.K R)) (hb : Binds X.K fd ps []) (hr : Room k A) (hfr : A.frames = X.A.frames) (I : Inv X pins σ H s) (rx : RelV x u) (ry : RelV y v) {dx dy : D} {QD : DQ} (rl : Rel X.K G H S) (r1 : Rp X.K G x dx) (r2 : Rp X.K G y dy)
    (h : R [dx, dy] S (fun d S' => match d with
      | .bl b => QD (.bl (n ^^ b)) S'
      | _ => False) noX) (kq : ∀ G' H' S' v d, Stp X.K G H S G' H' S' → Rp X.K G' v d → QD d S' → Q v H') {E : Value → Shared → Prop} :
    wpAny (model X.prog X.w) A (call (.ref f) [u, v]) (fun z s' => ∃ b, z = .bool b ∧ EP X pins σ Q (.bool (n ^^ b)) s') E s := by
  have hsp : toSp X.K R [x, y] H (fun z H' => ∃ b, z = .bl b ∧ Q (.bl (n ^^ b)) H') (fun _ _ _ => False) := by
    refine ⟨G, S, [dx, dy], _, noX, rl, .cons r1 (.cons r2 .nil), h, fun G1 H1 S1 z d s1 rz q => ?_, fun _ _ _ _ _ _ _ _ z => z⟩
    cases rz with
    | bl b => exact ⟨b, rfl, kq _ _ _ _ _ s1 (.bl _) q⟩
    | _ => exact q.elim
  have e0 : Env0 X.prog X.w X.K X.mg X.base A X.stack s H := by
    have e := I.env0
    exact ⟨by rw [hfr]; exact e.frames, e.mod, e.bs, e.bsz, e.funs, e.frf, e.hok, e.bare⟩
  have hl := F.len _ _ _ _ hsp
  have bd := hb s [u, v] I.kIn (by simpa using hl)
  rw [List.append_nil] at bd
  refine wpAny_call (codeAny_mono (F.run A X.stack s H ⟨[u, v], []⟩ [u, v] [x, y] _ _ hr e0 bd (.cons rx (.cons ry .nil)) hsp) fun r s' hq => ?_)
  match r, hq with
  | .error e, hq =>
    obtain ⟨a, B, H', cls, d, ea, fl, hok, ub, na, oth, ag, he⟩ := hq
    exact he.elim
  | .ok (.ret w), hq =>
    obtain ⟨z, H', I', rz, b, rfl, q⟩ := I.after hq
    obtain rfl : w = Value.bool b := rz
    exact ⟨b, rfl, .bl (n ^^ b), H', I', rfl, q⟩
theorem ne_entry {K : PySem.W.Frag} {prog : Program} {w : World} {E : Value → Shared → Prop} {x C : Addr} {ox : Obj} {od : Option Obj} {b : Value} (X : K.In s.heap) (I : PySem.W.InstAt s.heap x ox C od) (he : PySem.W.findIn K (.ref C) "__eq__" = some (some (.ref f))) (hf : PySem.W.isFn K (.ref f) = true) (hu : A.units < cLine) {Q : PySem.Fin → Shared → Prop}
    (hcall : wpAny (model prog w) A (call (.ref f) [.ref x, b]) (fun v s' => ∃ r, v = .bool r ∧ Q (.done (.ret (.bool (!r)))) s') E s) :
    wpAny (model prog w) A (Builtin.«object.__ne__» ⟨[.ref x, b], []⟩) Q E s := by
  unfold Builtin.«object.__ne__»
  repeat (first
    | with_reducible refine wpAny_cRoomFor hu ?_
    | (refine wpAny_bind (m := callSpecialIfBound? (.ref x) (Str.ofString "__eq__") [b])
        (PySem.W.ifBound_K X I he hf (wpAny_mono hcall (fun r s' hr => by
          obtain ⟨b, rfl, hq⟩ := hr
          repeat (first | exact hq | exact wpAny_pure hq | exact wpAny_truthy_bool hq | (refine wpAny_bind (m := truthy (.bool _)) (wpAny_truthy_bool ?_)) | wp_step)) fun _ _ e => e)))
    | wp_step)
theorem ifB_ne {K : PySem.W.Frag} {M : Model} {E : Value → Shared → Prop} {x C : Addr} {ox : Obj} {od : Option Obj} {args : List Value} {Q : Option Value → Shared → Prop} (X : K.In s.heap) (I : PySem.W.InstAt s.heap x ox C od) (hs : PySem.W.findIn K (.ref C) "__ne__" = some (some (.builtin "object.__ne__")))
    (h : wpAny M A (call (.builtin "object.__ne__") (.ref x :: args)) (fun v => Q (some v)) E s) : wpAny M A (callSpecialIfBound? (.ref x) "__ne__" args) Q E s := by
  simp only [callSpecialIfBound?, bindSpecialIfBound?]
  refine wpAny_holding (wpAny_bind (wpAny_bind (wpAny_bind (I.type.here ((PySem.W.looks_findIn X hs).here ?_)))))
  refine wpAny_bind (wpAny_askSetting (wpAny_ite ?_))
  have fin : wpAny M A (call (.builtin "object.__ne__") ([.ref x] ++ args) >>= fun v => pure (some v)) Q E s := wpAny_bind (wpAny_mono h (fun v s' h' => wpAny_pure h') fun _ _ h' => h')
  split
  · exact wpAny_bind (wpAny_of_eq (F.cmp_object.ne.bind _) (wpAny_pure (by exact fin)))
  · exact wpAny_tryCatch (wpAny_bind (wpAny_of_eq (F.cmp_object.ne.bind _) (wpAny_pure (by exact fin))))
theorem ne_K {K : PySem.W.Frag} {prog : Program} {w : World} {E : Value → Shared → Prop} {x : Addr} {ox : Obj} {od : Option Obj} {b tb : Value} {Q : Value → Shared → Prop} (hu : A.units + 1 < cLine) (X : K.In s.heap) (I : PySem.W.InstAt s.heap x ox (cad K c) od) (hb : Looks (model prog w) s.heap (typeOf b) tb) (hn : PySem.W.notFirst K (cad K c) tb = true) (Fe : EqF K c oth f)
    (h : wpAny (model prog w) A.in1 (call (.ref f) [.ref x, b]) (fun v s' => ∃ r, v = .bool r ∧ Q (.bool (!r)) s') E s) : wpAny (model prog w) A (richCompare .NotEq (.ref x) b) Q E s := by
  have one : wpAny (model prog w) A (tryCompare (.ref x) "__ne__" b) (fun r s' => ∃ v, r = some v ∧ Q v s') E s := by
    unfold tryCompare
    refine wpAny_bind (ifB_ne X I Fe.ne (wpAny_call (codeAny_call_builtin F.cmp_object.ne.plain F.cmpEntry_ne (PySem.W.check_slot F.cmpKind_ne F.cmpSplit_ne (I.type.andThen (PySem.W.looks_mroIn X Fe.mro)) (F.cmpArgs_ne _ _)
      (ne_entry (A := A.in1) X I Fe.eq Fe.fn hu (wpAny_mono h (fun v s' hv => ?_) fun _ _ e => e))))))
    obtain ⟨r, rfl, hq⟩ := hv
    exact ⟨r, rfl, wpAny_pure ⟨_, rfl, hq⟩⟩
  unfold richCompare
  simp only [oneThing_ref]
  refine wpAny_holding (wpAny_bind (wpAny_cRoomFor (Nat.lt_of_succ_lt hu) ?_))
  refine wpAny_bind (I.type.here (wpAny_bind (hb.here ?_)))
  rw [cmpInfo_NotEq]
  dsimp only
  split
  · rename_i q
    have e : PySem.W.subIn K tb (.ref (cad K c)) = some false := by
      rcases Bool.or_eq_true_iff.mp hn with e | e
      · rw [beq_iff_eq.mp e] at q; simp at q
      · exact beq_iff_eq.mp e
    refine wpAny_bind ((PySem.W.looks_subIn X e).here ?_)
    simp only [Bool.false_eq_true, if_false]
    refine wpAny_bind (wpAny_mono one (fun r s' z => ?_) fun _ _ e => e)
    obtain ⟨v, rfl, hq⟩ := z
    exact wpAny_pure hq
  · refine wpAny_bind (wpAny_pure ?_)
    simp only [Bool.false_eq_true, if_false]
    refine wpAny_bind (wpAny_mono one (fun r s' z => ?_) fun _ _ e => e)
    obtain ⟨v, rfl, hq⟩ := z
    exact wpAny_pure hq
theorem o_eqI (F : FnOk X.prog X.w X.K X.mg X.base (L2N.CX X.prog X.w) k f fd ps (toSp X.K R)) (hb : Binds X.K fd ps []) (hr : Room k X.A) (Fe : EqF X.K c oth f) : OpR X (compareOp .Eq) (lift2 X.K (eqI c oth R false)) := by
  rintro pins s σ H x y u v Q I rx ry ⟨G, S, dx, dy, QD, rl, r1, r2, h, kq⟩
  simp only [eqI, vwk_is] at h
  split at h
  · rename_i c' ds ex
    obtain ⟨rfl, ht, h⟩ := h
    obtain ⟨a, ax, vs, rfl, ha, _⟩ := vw_ins rl r1 ex
    obtain rfl : u = Value.ref a := rx
    obtain ⟨mA, J, _⟩ := ins_get I.hok ha
    obtain ⟨od, J, _⟩ := J.look
    obtain ⟨tb, t1, t2⟩ := tyO_ty (K := X.K) Fe ht
    obtain ⟨m, hF⟩ := I.fr
    have hu := hr.un
    refine PySem.W.cmp_K (op := .Eq) (by omega) hF I.ok.mod.kin J (looks_ty I rl r2 ry t1) t2 Fe.eq Fe.fn ?_
    refine wpAny_mono (run_eq (n := false) (x := .ref a) (u := .ref a) F hb hr rfl I rfl ry rl r1 r2 h kq) (fun z s' hz => ?_) fun _ _ e => e
    obtain ⟨b, rfl, q⟩ := hz
    rw [Bool.false_xor] at q
    exact q
  · exact h.elim
theorem o_neI (F : FnOk X.prog X.w X.K X.mg X.base (L2N.CX X.prog X.w) k f fd ps (toSp X.K R)) (hb : Binds X.K fd ps []) (hr : Room (k + 1) X.A) (Fe : EqF X.K c oth f) : OpR X (compareOp .NotEq) (lift2 X.K (eqI c oth R true)) := by
  rintro pins s σ H x y u v Q I rx ry ⟨G, S, dx, dy, QD, rl, r1, r2, h, kq⟩
  simp only [eqI, vwk_is] at h
  split at h
  · rename_i c' ds ex
    obtain ⟨rfl, ht, h⟩ := h
    obtain ⟨a, ax, vs, rfl, ha, _⟩ := vw_ins rl r1 ex
    obtain rfl : u = Value.ref a := rx
    obtain ⟨mA, J, _⟩ := ins_get I.hok ha
    obtain ⟨od, J, _⟩ := J.look
    obtain ⟨tb, t1, t2⟩ := tyO_ty (K := X.K) Fe ht
    have hu := hr.un
    refine ne_K (by omega) I.kIn J (looks_ty I rl r2 ry t1) t2 Fe ?_
    refine wpAny_mono (run_eq (n := true) (x := .ref a) (u := .ref a) F hb hr.in1 rfl I rfl ry rl r1 r2 h kq) (fun z s' hz => ?_) fun _ _ e => e
    obtain ⟨b, rfl, q⟩ := hz
    rw [Bool.true_xor] at q
    exact ⟨b, rfl, q⟩
  · exact h.elim
end
end SM

set_option Elab.async false
set_option linter.all false
set_option maxRecDepth 100000
set_option maxHeartbeats 2000000
/-! The head: facts of the written part by one Bool, the defs by their places. -/
namespace SM
open PySem PySem.Spec PyProof.Rows L2
open PySem.W (Frag)
structure Df where
  ad : Frag → Addr
  name : Str
  qual : Str
  st : Stmt
  dfl : List He.Dv := []
  kwd : List (Str × He.Dv) := []
def Df.val (d : Df) : He.FnW := some (d.name, d.qual, defArgs d.st, .stmts (defBody d.st), defScope d.st, mainGlobals, [], builtinsNs)
def Df.ob (K : Frag) (d : Df) : He.FnW := match K.lookup (d.ad K) with
  | some ⟨_, _, .func g, _⟩ => some (g.name, g.qualname, g.params, g.body, g.scope, g.globals, g.closure, g.builtins)
  | _ => none
def Df.dvs (K : Frag) (d : Df) : List V := d.dfl.map (He.Dv.v K)
def Df.kws (K : Frag) (d : Df) : List (Str × V) := d.kwd.map fun q => (q.1, q.2.v K)
def Df.ok (K : Frag) (d : Df) : Bool := PySem.W.keepIn K (.ref (d.ad K)) && (match K.lookup (d.ad K) with
  | some ⟨_, _, .func g, _⟩ => PySem.W.codeIn K g.code d.qual && (He.dflB K g.defaults (d.dvs K) && He.kwdB K g.kwdefaults (d.kws K))
  | _ => false)
abbrev Df.Is (K : Frag) (d : Df) : Prop := ∃ fd, FunD K d.name d.qual (defArgs d.st) (defBody d.st) (defScope d.st) (d.dvs K) (d.kws K) (d.ad K) fd
theorem Df.is {K : Frag} {d : Df} (e : d.ob K = d.val) (c : d.ok K = true) : d.Is K := by
  unfold Df.ok at c
  rw [Bool.and_eq_true] at c
  obtain ⟨kp, c2⟩ := c
  unfold Df.ob at e
  split at c2
  · rename_i oc od g osl lk
    rw [lk] at e
    simp only [Bool.and_eq_true] at c2
    obtain ⟨c3, c4, c5⟩ := c2
    obtain ⟨n1, n2, n3, n4, n5, n6, n7, n8, n9, n10, n11, n12, n13, n14, n15⟩ := g
    simp only [Df.val, Option.some.injEq, Prod.mk.injEq] at e
    obtain ⟨rfl, rfl, rfl, rfl, rfl, rfl, rfl, rfl⟩ := e
    exact ⟨_, ⟨oc, od, n8, n9, n10, n11, n12, n13, n14, osl, rfl, lk, c3, He.dflB_ok c4, He.kwdB_ok c5⟩, kp⟩
  · cases c2
abbrev ChK := List (Frag → Bool)
def obC (ch : ChK) (fn : List Df) (K : Frag) : He.AlD := (ch.all (fun p => p K) && fn.all (fun d => d.ok K), fn.map fun d => d.ob K)
def vlC (fn : List Df) : He.AlD := (true, fn.map Df.val)
def Says (ch : ChK) (fn : List Df) (K : Frag) : Prop := obC ch fn K = vlC fn
def obG (n : Nat) (ch : ChK) (fn : List Df) (g : Addr → Option Obj) : He.AlD := obC ch fn (He.frG g (cStatics :: He.asD g n))
def hookC (n : Nat) (ch : ChK) (fn : List Df) : PySem.W.Hook where
  α := He.AlD
  obs := fun s => obG n ch fn s.heap.get?
  val := fun _ => vlC fn
  says := fun _ h => ∃ K : Frag, K.In h ∧ Says ch fn K
  of := fun _ _ e => ⟨_, He.frG_in, e⟩
  keeps := fun _ _ _ ⟨K, hK, c⟩ k => ⟨K, PySem.W.Frag.In.keeps hK k, c⟩
theorem obG_eq {n : Nat} {ch : ChK} {fn : List Df} {g : Addr → Option Obj} {s : Shared} (h : ∀ a, g a = s.heap.get? a) : obG n ch fn g = (hookC n ch fn).obs s := by
  have e : g = s.heap.get? := funext h
  rw [e] <;> rfl
theorem Says.fact {ch : ChK} {fn : List Df} {K : Frag} (c : Says ch fn K) (i : Nat) {p : Frag → Bool} (h : ch[i]? = some p := by rfl) : p K = true := by
  have c1 : (ch.all (fun p => p K) && fn.all (fun d => d.ok K)) = true := congrArg Prod.fst c
  rw [Bool.and_eq_true] at c1
  exact List.all_eq_true.mp c1.1 p (List.mem_of_getElem? h)
theorem Says.df {ch : ChK} {fn : List Df} {K : Frag} (c : Says ch fn K) (i : Nat) {d : Df} (h : fn[i]? = some d := by rfl) : d.Is K := by
  have c1 : (ch.all (fun p => p K) && fn.all (fun d => d.ok K)) = true := congrArg Prod.fst c
  have c2 : fn.map (fun d => d.ob K) = fn.map Df.val := congrArg Prod.snd c
  rw [Bool.and_eq_true] at c1
  have e2 : (fn.map fun d => d.ob K)[i]? = (fn.map Df.val)[i]? := by rw [c2]
  rw [List.getElem?_map, List.getElem?_map, h] at e2
  exact Df.is (Option.some.inj e2) (List.all_eq_true.mp c1.2 d (List.mem_of_getElem? h))
end SM

set_option Elab.async false
set_option linter.all false
set_option maxRecDepth 100000
set_option maxHeartbeats 2000000
namespace SM
open PySem PySem.Spec PyProof.Rows L2
variable {K : PySem.W.Frag} {G G' G2 H H' H2 : Hp} {S S' S2 : Sto}
/-! ### the script: a list that never changes, no part of the data -/
def Fz (K : PySem.W.Frag) (H : Hp) (a : Addr) (xs : List V) : Prop := (∃ o, H a = some (.frz o (.lst xs))) ∨
  ∃ (o : Obj) (its : Array Value) (n : Nat), K.lookup a = some o ∧ o.cls = .type "list" ∧ o.dict = none ∧ o.data = .seq its n ∧ its.size ≤ sizeLine ∧ Vals xs its.toList
theorem Fz.sq {a : Addr} {xs : List V} (h : Fz K H a xs) : SqL K H a xs := by
  rcases h with ⟨o, h⟩ | h
  · exact .inl (.inr ⟨o, h⟩)
  · exact .inr h
theorem Fz.of {a : Addr} {xs : List V} (o : Only H) (h : SqL K H a xs) : Fz K H a xs := by
  rcases h with (h | h) | h
  · rcases o a with q | ⟨w, ys, q⟩
    · rw [q] at h; cases h
    · rw [q] at h; cases h
  · exact .inl h
  · exact .inr h
theorem Fz.inv {X : Cx} {pins : List (Addr × Obj)} {σ : L2.St} {s : Shared} {a : Addr} {xs : List V} (h : Fz X.K X.H_0 a xs) (I : Inv X pins σ H s) : Fz X.K H a xs := by
  rcases h with ⟨o, h⟩ | h
  · exact .inl ⟨o, I.base.frzs a o _ h⟩
  · exact .inr h
def spScr (K : PySem.W.Frag) (n : Nat) (R : Addr → List Int → DSp) : Sp := fun vs H Q E => ∃ a ns, vs = [.ref a] ∧ Fz K H a (ns.map V.int) ∧ ns.length ≤ n ∧ toSp K (R a ns) vs H Q E
theorem rps_ints : ∀ ns : List Int, Rps K G (ns.map V.int) (ns.map D.int)
  | [] => .nil
  | n :: r => .cons (.int n) (rps_ints r)
section
variable {P : Program} {w : World} {mg : Str → Option Value} {base : Heap}
theorem fnScr {x qual : Str} {params : Arguments} {body : List Stmt} {scope : Scope} {dvs : List V} {kws : List (Str × V)} {f : Addr} {fd : FuncData} {N ps : List Str} {k n : Nat} (F : FunD K x qual params body scope dvs kws f fd) (Sc : FnScope N ps scope) (R : Addr → List Int → DSp)
    (len : ∀ a ns ds S Q E, R a ns ds S Q E → ds.length = ps.length) (hps : ps.length ≤ N.length)
    (hb : ∀ (cdv : Value) (A : Around) (outer : List Env) (s : Shared) (H : Hp) (E : XK) (a : Addr) (ns : List Int), Room k (A.deeper (envOfC qual scope s.heap.objs.size f cdv)) → Fz K H a (ns.map V.int) → ns.length ≤ n → ∃ ts, PDSs (cxOf (L2N.CX P w) P w K mg base N qual scope f cdv A outer s H E) body ts ∧
      ∀ ds S QD XD, R a ns ds S QD XD → ts ⟨fun _ S' => QD .non S', QD, fun _ _ => False, fun _ _ => False, fun x _ S' => XD x S'⟩ (startD N ds) S) : FnOk P w K mg base (L2N.CX P w) (k + 1) f fd ps (spScr K n R) := by
  refine F.ok Sc (fun vs H Q E h => ?_) (fun cdv A outer s H vs Q E hr h => ?_)
  · obtain ⟨a, ns, _, _, _, G, S, ds, QD, XD, _, rs, h, _⟩ := h
    rw [rs.length]; exact len _ _ _ _ _ _ h
  · obtain ⟨a, ns, _, hz, hn, G, S, ds, QD, XD, rl, rs, h, kq, kx⟩ := h
    obtain ⟨ts, p, q⟩ := hb cdv A outer s H E a ns hr hz hn
    refine ⟨liftS K (fun cls d _ H => E cls d H) ts, p.run _ (L2N.takes_of rfl rfl rfl rfl) (passes_of rfl), ⟨G, startD N ds, S, _, startD_rpe rs (by rw [len _ _ _ _ _ _ h]; exact hps), rl, q ds S QD XD h, ?_⟩⟩
    exact ⟨fun G1 H1 S1 σ δ s1 _ q => kq _ _ _ _ _ s1 .non q, fun G1 H1 S1 v d s1 r q => kq _ _ _ _ _ s1 r q, fun _ _ _ _ _ _ _ q => q.elim, fun _ _ _ _ _ _ _ q => q.elim, fun G1 H1 S1 σ δ cls d x s1 _ r q => kx _ _ _ _ _ _ s1 r q⟩
end
section
variable {X : Cx} {e : Expr} {es : List Expr} {pos p p2 : Pos} {k n : Nat} {x : Str} {t : DTA} {f a : Addr} {fd : FuncData} {ps : List Str} {R : Addr → List Int → DSp} {ns : List Int}
def oScr (a : Addr) (ns : List Int) (d : D) (lo hi : Option Int) (S : Sto) (Q : DQ) : Prop := d = .adr a ∧ Q (.lst (cutD (ns.map D.int) lo hi)) S
theorem sl_scr {xs : List V} (hz : Fz X.K X.H_0 a xs) : SlR X (fun x lo hi H Q => x = .ref a ∧ ∀ z, H z = none → Q (.ref z) (upd H z (.lst (cutV xs lo hi)))) := by
  intro pins s σ H x v vl vu lo hi sl Q I rx hs pl pu h
  obtain ⟨rfl, q⟩ := h
  exact sl_list pins s σ H _ v vl vu lo hi sl Q I rx hs pl pu ⟨a, xs, rfl, (hz.inv I).sq, q⟩
theorem de_sliceScr {lo hi : Option Expr} {te : DTE} {tl th : DTO} (hz : Fz X.K X.H_0 a (ns.map V.int)) (hn : ns.length ≤ sizeLine) (he : PD X e te) (hl : PDO X lo tl) (hu : PDO X hi th) : PD X (.Subscript e (.Slice lo hi none p2) pos) (dSl (oScr a ns) te tl th) := ⟨fun W tk => PE.weak (pe_slice (sl_scr hz) (he.run W tk) (hl.run W tk) (hu.run W tk)) (by
  rintro σ H Q ⟨G, δ, S, QD, XD, re, rl, h, kq, kx⟩
  refine ⟨G, δ, S, _, XD, re, rl, h, fun G1 H1 S1 x d s1 rx q => ⟨G1, δ, S1, _, XD, re.mono s1.sg, s1.rel, q, fun G2 H2 S2 l s2 q2 => ⟨G2, δ, S2, _, XD, re.mono (s1.trans s2).sg, s2.rel, q2, fun G3 H3 S3 u s3 q3 => ?_, kx.step (s1.trans s2)⟩, kx.step s1⟩, kx⟩
  have s13 := (s1.trans s2).trans s3
  obtain ⟨rfl, q3⟩ := q3
  cases rx
  refine ⟨rfl, fun z hz => ?_⟩
  obtain ⟨s4, r4⟩ := fz_lst s3.rel hz (cut_rps (rps_ints ns) l u) (Nat.le_trans (cut_len _ _ _) (by rw [List.length_map]; exact hn))
  exact kq _ _ _ _ _ (s13.trans s4) r4 q3)⟩
theorem de_callScr (F : FnOk X.prog X.w X.K X.mg X.base (L2N.CX X.prog X.w) k f fd ps (spScr X.K n R)) (hz : Fz X.K X.H_0 a (ns.map V.int)) (hn : ns.length ≤ n) (hr : Room k X.A) (hg : Gl X x) (hm : X.mg x = some (.ref f)) (hk : PySem.W.keepIn X.K (.ref f) = true) (hb : Binds X.K fd ps [])
    (ha : PDA X (e :: es) t) (hdb : (x == ("__debug__" : Str)) = false := by decide) (he : starEach (e :: es) X.env = (false, eval e X.env) :: starEach es X.env := by rfl) (hpl : (backTo pos (starEach es X.env)).any (·.1) = false := by rfl) :
    PD X (.Call (.Name x p) (e :: es) [] pos) (dCall (fun ds S Q E => ds = [.adr a] ∧ R a ns ds S Q E) [] t) := ⟨fun W tk => ⟨fun pins s σ H Q I h => by
  apply wpAny_Call_Name_kw
  apply ld_glob I hg hm (hd := hdb)
  refine PySem.W.callWith_K (first := []) (h₀ := X.base) I.ok.mod.kin hk ?_ he hpl
  obtain ⟨G, δ, S, QD, XD, re, rl, h, kq, kx⟩ := h
  apply thn ((ha.run W tk).run pos pins s σ H (fun vs H1 => ∃ G1 S1, Stp X.K G H S G1 H1 S1 ∧ vs = [.ref a] ∧ R a ns [.adr a] S1 QD XD) I ⟨G, δ, S, _, XD, re, rl, h, fun G1 H1 S1 vs ds s1 rs q => ?_, kx⟩)
  · rintro us s2 ⟨vs, H2, I2, r, G1, S1, s1, rfl, q2⟩
    refine ⟨I2.kIn, run_fnSD (E := WE W) F hr hb .nil (L2N.passAt tk σ) I2 r ?_⟩
    exact ⟨a, ns, rfl, hz.inv I2, hn, G1, S1, [.adr a], QD, XD, s1.rel, .cons (.adr a) .nil, q2, fun G3 H3 S3 v d s3 r q => kq _ _ _ _ _ (s1.trans s3) r q, fun G3 H3 S3 cls d x s3 r q => kx _ _ _ _ _ _ (s1.trans s3) r q⟩
  · rw [List.append_nil] at q
    obtain ⟨rfl, q⟩ := q
    cases rs with
    | cons r0 rs =>
      cases rs
      cases r0
      exact ⟨G1, S1, s1, rfl, q⟩⟩⟩
end
end SM

set_option Elab.async false
set_option linter.all false
set_option maxRecDepth 100000
set_option maxHeartbeats 2000000
namespace SM
open PySem PySem.Spec PyProof.Rows L2
variable {S : Sto}
/-! ### plain laws of comprehensions -/
theorem lc_map {gd : Gd} (hg : gok gd S) {q : Pat} {te : DTE} {δ : DS} {α : Type} {g f : α → D} : ∀ {xs : List α} {Q : List D → Sto → Prop}, (∀ x ∈ xs, ∃ δ2, bindP q (g x) δ = some δ2 ∧ ∀ Q' : DQ, Q' (f x) S → te δ2 S Q' noX) → Q (xs.map f) S → dLcL gd q dYes te δ (xs.map g) S Q
  | [], _, _, h => ⟨hg, h⟩
  | x :: r, Q, hh, h => by
    obtain ⟨δ2, e, t⟩ := hh x (List.mem_cons_self ..)
    rw [List.map_cons, dLcL, e]
    refine ⟨hg, ?_⟩
    show brn true _ _
    rw [brn_t]
    exact t _ (lc_map hg (fun y hy => hh y (List.mem_cons_of_mem _ hy)) h)
theorem lc_filter {gd : Gd} (hg : gok gd S) {q : Pat} {tt : DTT} {te : DTE} {δ : DS} {α : Type} {g f : α → D} {p : α → Bool} : ∀ {xs : List α} {Q : List D → Sto → Prop}, (∀ x ∈ xs, ∃ δ2, bindP q (g x) δ = some δ2 ∧ (∀ Q' : Bool → Sto → Prop, Q' (p x) S → tt δ2 S Q' noX) ∧ (p x = true → ∀ Q' : DQ, Q' (f x) S → te δ2 S Q' noX)) → Q ((xs.filter p).map f) S → dLcL gd q tt te δ (xs.map g) S Q
  | [], _, _, h => ⟨hg, h⟩
  | x :: r, Q, hh, h => by
    obtain ⟨δ2, e, tq, t⟩ := hh x (List.mem_cons_self ..)
    rw [List.map_cons, dLcL, e]
    refine ⟨hg, ?_⟩
    refine tq _ ?_
    by_cases hp : p x = true
    · rw [hp, brn_t]
      rw [List.filter_cons_of_pos hp, List.map_cons] at h
      exact t hp _ (lc_filter hg (Q := fun ds S5 => Q (f x :: ds) S5) (fun y hy => hh y (List.mem_cons_of_mem _ hy)) h)
    · rw [Bool.not_eq_true] at hp
      rw [hp, brn_f]
      rw [List.filter_cons_of_neg (by rw [hp]; decide)] at h
      exact lc_filter hg (fun y hy => hh y (List.mem_cons_of_mem _ hy)) h
theorem dc_fold {gd : Gd} (hg : gok gd S) {q : Pat} {tk tv : DTE} {δ : DS} {α : Type} {g : α → D} {kf : α → List D} {ks : α → List Key} {vf : α → D} : ∀ {xs : List α} {a : List (List Key × D)} {Q : List (List Key × D) → Sto → Prop}, (∀ x ∈ xs, ∃ δ2, bindP q (g x) δ = some δ2 ∧ (∀ Q' : DQ, Q' (.tup (kf x)) S → tk δ2 S Q' noX) ∧ dKeys (kf x) = some (ks x) ∧ (∀ Q' : DQ, Q' (vf x) S → tv δ2 S Q' noX)) → Q (xs.foldl (fun a x => putD a (ks x) (vf x)) a) S → dDcL gd q dYes tk tv δ (xs.map g) a S Q
  | [], _, _, _, h => ⟨hg, h⟩
  | x :: r, a, Q, hh, h => by
    obtain ⟨δ2, e, t1, e2, t2⟩ := hh x (List.mem_cons_self ..)
    rw [List.map_cons, dDcL, e]
    refine ⟨hg, ?_⟩
    show brn true _ _
    rw [brn_t]
    refine t1 _ (t2 _ ?_)
    simp only [e2]
    exact dc_fold hg (fun y hy => hh y (List.mem_cons_of_mem _ hy)) h
/-! ### cells -/
abbrev Cell := Int × Int
def once (cs : List Cell) : List Cell := cs.foldl (fun a c => if c ∈ a then a else a ++ [c]) []
def cKey (c : Cell) : List Key := [.inl c.1, .inl c.2]
theorem cKey_inj {c d : Cell} (h : cKey c = cKey d) : c = d := by
  unfold cKey at h
  cases c; cases d
  simp at h
  rw [h.1, h.2]
def fnd (cs : List Cell) : List (List Key × D) := cs.map fun c => (cKey c, .bl true)
theorem putD_fnd (a : List Cell) (c : Cell) : putD (fnd a) (cKey c) (.bl true) = fnd (if c ∈ a then a else a ++ [c]) := by
  unfold putD
  by_cases h : c ∈ a
  · rw [if_pos h]
    have e : ((fnd a).any fun p => decide (p.1 = cKey c)) = true := by
      rw [List.any_eq_true]
      exact ⟨_, List.mem_map_of_mem h, by simp⟩
    rw [if_pos e]
    unfold fnd
    rw [List.map_map]
    apply List.map_congr_left
    intro d _
    by_cases hd : cKey d = cKey c <;> simp [hd]
  · rw [if_neg h]
    have e : ¬ ((fnd a).any fun p => decide (p.1 = cKey c)) = true := by
      rw [List.any_eq_true]
      rintro ⟨p, hp, hq⟩
      obtain ⟨d, hd, rfl⟩ := List.mem_map.mp hp
      exact h (cKey_inj (of_decide_eq_true hq) ▸ hd)
    rw [if_neg e]
    simp [fnd]
theorem fold_fnd : ∀ (cs a : List Cell), cs.foldl (fun a c => putD a (cKey c) (.bl true)) (fnd a) = fnd (cs.foldl (fun a c => if c ∈ a then a else a ++ [c]) a)
  | [], _ => rfl
  | c :: r, a => by rw [List.foldl_cons, List.foldl_cons, putD_fnd, fold_fnd r]
theorem keysD_fnd (a : List Cell) : keysD (fnd a) = a.map pr := by
  unfold keysD fnd
  rw [List.map_map]
  rfl
theorem once_len (cs : List Cell) : (once cs).length ≤ cs.length := by
  have : ∀ (cs a : List Cell), (cs.foldl (fun a c => if c ∈ a then a else a ++ [c]) a).length ≤ a.length + cs.length := by
    intro cs
    induction cs with
    | nil => intro a; simp
    | cons c r ih =>
      intro a
      rw [List.foldl_cons]
      refine Nat.le_trans (ih _) ?_
      split
      · rw [List.length_cons]; omega
      · simp only [List.length_append, List.length_cons, List.length_nil]; omega
  have z := this cs []
  unfold once
  simpa only [List.length_nil, Nat.zero_add] using z
/-- a region of cells -/
def rg (cs : List Cell) : D := .ins 0 [.dT (fnd (once cs)), .lst ((roSort (once cs)).map pr)]
theorem roSort_perm (cs : List Cell) : (roSort cs).Perm cs := List.mergeSort_perm ..
theorem roSort_len (cs : List Cell) : (roSort cs).length = cs.length := (roSort_perm cs).length_eq
def sw (c : Cell) : D := .tup [.int c.2, .int c.1]
theorem sorted_sw (cs : List Cell) : sorted (cs.map sw) = (roSort cs).map sw := by
  unfold sorted roSort
  refine (PySem.W.sort_maps (s := PySem.W.dataLe false toP) sw fun a _ b _ => ?_).symm
  have := congrFun (congrFun (PySem.W.dataLe_ii (β := Cell) (fun p => p.2) (fun p => p.1)) a) b
  rw [← this]
  rfl
theorem srtOk_sw (cs : List Cell) : srtOk (cs.map sw) := by
  refine ⟨?_, ?_, ?_⟩
  · rw [plns_all, List.all_eq_true]
    intro d hd
    obtain ⟨c, _, rfl⟩ := List.mem_map.mp hd
    rfl
  · rw [List.map_map]
    exact PySem.W.AllAlike.of fun _ _ => by simp [PySem.W.alike, PySem.W.alikeAll, sw, toP, toPs]
  · rw [List.map_map]
    exact PySem.W.Sortable.tuples fun _ => ⟨_, _, rfl⟩
theorem pln_prs (n : Nat) (cs : List Cell) : pln (n + 3) (.lst (cs.map pr)) = true := by
  show plns (n + 2) (cs.map pr) = true
  rw [plns_all, List.all_eq_true]
  intro d hd
  obtain ⟨c, _, rfl⟩ := List.mem_map.mp hd
  rfl
theorem eqv_pr (c d : Cell) : PyData.eqv (toP (pr c)) (toP (pr d)) = decide (c = d) := by
  obtain ⟨x, y⟩ := c
  obtain ⟨u, v⟩ := d
  show (decide (x = u) && (decide (y = v) && true)) = _
  by_cases h1 : x = u <;> by_cases h2 : y = v <;> simp [h1, h2]
theorem eqB_pr (c d : Cell) : eqB (pr c) (pr d) = decide (c = d) := eqv_pr c d
theorem eqB_prs : ∀ a b : List Cell, eqB (.lst (a.map pr)) (.lst (b.map pr)) = decide (a = b)
  | [], [] => rfl
  | [], _ :: _ => rfl
  | _ :: _, [] => rfl
  | c :: a, d :: b => by
    have ih := eqB_prs a b
    show (PyData.eqv (toP (pr c)) (toP (pr d)) && PyData.eqvAll (toPs (a.map pr)) (toPs (b.map pr))) = _
    have e : PyData.eqvAll (toPs (a.map pr)) (toPs (b.map pr)) = decide (a = b) := ih
    rw [e, eqv_pr]
    by_cases h1 : c = d <;> by_cases h2 : a = b <;> simp [h1, h2]
theorem any_pr (l : List Cell) (c : Cell) : ((l.map pr).any fun z => eqB z (pr c)) = decide (c ∈ l) := by
  rw [List.any_map, Bool.eq_iff_iff, List.any_eq_true, decide_eq_true_iff]
  constructor
  · rintro ⟨d, hd, h⟩
    have : d = c := by simpa [eqB_pr] using h
    exact this ▸ hd
  · exact fun h => ⟨c, h, by simp [eqB_pr]⟩
theorem plns_prs (n : Nat) (cs : List Cell) : plns (n + 2) (cs.map pr) = true := pln_prs n cs
/-! ### a block's names, checked -/
def blkB (N : List Str) (sc scope : Scope) (own : List (Str × Nat)) : Bool := decide (scope.kind = .function) && (scope.names.all (fun y => decide (scope.names.lookup y.1 = some y.2)) && (own.all (fun p => decide (N[p.2]? = some p.1)) &&
  (scope.names.all (fun y => !decide (y.2 = .free) || (decide (sc.names.lookup y.1 = some .cell) || decide (sc.names.lookup y.1 = some .free))) && scope.names.all (fun y => !(decide (y.2 = .local) || decide (y.2 = .cell)) || (decide (y.1 ∈ own.map (·.1)) || !decide (y.1 ∈ N))))))
theorem blk_of {N : List Str} {sc scope : Scope} {own : List (Str × Nat)} (h : blkB N sc scope own = true) : BlkOk N sc scope own := by
  simp only [blkB, Bool.and_eq_true, List.all_eq_true, Bool.or_eq_true, Bool.not_eq_true', decide_eq_true_eq, decide_eq_false_iff_not] at h
  obtain ⟨h1, h2, h3, h4, h5⟩ := h
  exact ⟨h1, h2, h3, fun y hy e => (h4 y hy).resolve_left fun z => z e, fun y hy e => (h5 y hy).resolve_left fun z => by
    have : ¬ (y.2 = .local ∨ y.2 = .cell) := by simpa [Bool.or_eq_false_iff] using z
    exact this e⟩
theorem lk_map {gd : Gd} {q : Pat} {te : DTE} {δ : DS} {α : Type} {g f : α → D} {xs : List α} {Q : List D → Sto → Prop} (h : ∀ x ∈ xs, ∃ δ2, bindP q (g x) δ = some δ2 ∧ ∀ Q' : DQ, Q' (f x) S → te δ2 S Q' noX) (hq : Q (xs.map f) S) (hg : gok gd S := by first | exact True.intro | assumption | exact su_same) : lcK gd q dYes te δ (xs.map g) S Q := by
  rw [lcK_is]; exact lc_map hg h hq
theorem lk_filter {gd : Gd} {q : Pat} {tt : DTT} {te : DTE} {δ : DS} {α : Type} {g f : α → D} {p : α → Bool} {xs : List α} {Q : List D → Sto → Prop} (h : ∀ x ∈ xs, ∃ δ2, bindP q (g x) δ = some δ2 ∧ (∀ Q' : Bool → Sto → Prop, Q' (p x) S → tt δ2 S Q' noX) ∧ (p x = true → ∀ Q' : DQ, Q' (f x) S → te δ2 S Q' noX)) (hq : Q ((xs.filter p).map f) S) (hg : gok gd S := by first | exact True.intro | assumption | exact su_same) : lcK gd q tt te δ (xs.map g) S Q := by
  rw [lcK_is]; exact lc_filter hg h hq
theorem dk_fold {gd : Gd} {q : Pat} {tk tv : DTE} {δ : DS} {α : Type} {g : α → D} {kf : α → List D} {ks : α → List Key} {vf : α → D} {xs : List α} {a : List (List Key × D)} {Q : List (List Key × D) → Sto → Prop} (h : ∀ x ∈ xs, ∃ δ2, bindP q (g x) δ = some δ2 ∧ (∀ Q' : DQ, Q' (.tup (kf x)) S → tk δ2 S Q' noX) ∧ dKeys (kf x) = some (ks x) ∧ (∀ Q' : DQ, Q' (vf x) S → tv δ2 S Q' noX)) (hq : Q (xs.foldl (fun a x => putD a (ks x) (vf x)) a) S) (hg : gok gd S := by first | exact True.intro | assumption | exact su_same) : dcK gd q dYes tk tv δ (xs.map g) a S Q := by
  rw [dcK_is]; exact dc_fold hg h hq
/-- a loop by what it keeps: I holds of the items left, the slots and the store -/
theorem loop_ofG {gd : Gd} {q : Pat} {tb : DTS} {E : DEnds} {α : Type} {g : α → D} (I : List α → DS → Sto → Prop) (hI : ∀ xs δ S, I xs δ S → gok gd S) (hs : ∀ x r δ S, I (x :: r) δ S → ∃ δ1, bindP q (g x) δ = some δ1 ∧ ∀ N : DS → Sto → Prop, (∀ δ2 S2, I r δ2 S2 → N δ2 S2) → tb { E with nx := N, ct := N, bk := E.nx } δ1 S) (hd : ∀ δ S, I [] δ S → E.nx δ S) :
    ∀ {xs : List α} {δ : DS} {S : Sto}, I xs δ S → loopK gd q tb E (xs.map g) δ S := by
  intro xs δ S h
  rw [loopK_is]
  induction xs generalizing δ S with
  | nil => exact ⟨hI _ _ _ h, hd _ _ h⟩
  | cons x r ih =>
    obtain ⟨δ1, e, t⟩ := hs x r δ S h
    rw [List.map_cons, dLoop, e]
    exact ⟨hI _ _ _ h, t _ fun δ2 S2 i => ih i⟩
theorem loop_of {q : Pat} {tb : DTS} {E : DEnds} {α : Type} {g : α → D} (I : List α → DS → Sto → Prop) (hs : ∀ x r δ S, I (x :: r) δ S → ∃ δ1, bindP q (g x) δ = some δ1 ∧ ∀ N : DS → Sto → Prop, (∀ δ2 S2, I r δ2 S2 → N δ2 S2) → tb { E with nx := N, ct := N, bk := E.nx } δ1 S) (hd : ∀ δ S, I [] δ S → E.nx δ S) {xs : List α} {δ : DS} {S : Sto} (h : I xs δ S) : loopK none q tb E (xs.map g) δ S :=
  loop_ofG (gd := none) I (fun _ _ _ _ => True.intro) hs hd h
/-! ### defs by their names -/
structure Gf (P : Program) (w : World) (K : PySem.W.Frag) (mg : Str → Option Value) (base : Heap) (k : Nat) (x : Str) (ps : List Str) (R : DSp) : Prop where
  ex : ∃ f fd, FnOk P w K mg base (L2N.CX P w) k f fd ps (toSp K R) ∧ mg x = some (.ref f) ∧ PySem.W.keepIn K (.ref f) = true ∧ Binds K fd ps []
structure Gm (P : Program) (w : World) (K : PySem.W.Frag) (mg : Str → Option Value) (base : Heap) (k : Nat) (c : Nat) (m : Str) (ps : List Str) (R : DSp) : Prop where
  ex : ∃ f fd, FnOk P w K mg base (L2N.CX P w) k f fd ps (toSp K R) ∧ MOk K c m f ∧ Binds K fd ps []
/-- a class's __init__ -/
structure Gi (P : Program) (w : World) (K : PySem.W.Frag) (mg : Str → Option Value) (base : Heap) (k : Nat) (c : Nat) (x : Str) (ps : List Str) (R : DSp) : Prop where
  ex : ∃ f fd, FnOk P w K mg base (L2N.CX P w) k f fd ps (toSp K R) ∧ mg x = some (.ref (cad K c)) ∧ Mk K (cad K c) f ∧ Binds K fd ps []
section
variable {X : Cx} {e o : Expr} {es : List Expr} {pos p apos : Pos} {k j : Nat} {x m : Str} {t : DTA} {ps : List Str} {R : DSp}
theorem de_g (F : Gf X.prog X.w X.K X.mg X.base k x ps R) (hr : Room j X.A) (hg : Gl X x) (ha : PDA X (e :: es) t) (hkj : k ≤ j := by decide) (hdb : (x == ("__debug__" : Str)) = false := by decide) (he : starEach (e :: es) X.env = (false, eval e X.env) :: starEach es X.env := by rfl) (hpl : (backTo pos (starEach es X.env)).any (·.1) = false := by rfl) :
    PD X (.Call (.Name x p) (e :: es) [] pos) (dCall R [] t) := by
  obtain ⟨f, fd, F, hm, hk, hb⟩ := F.ex
  exact de_call F (hr.mono hkj) hg hm hk hb .nil (fun _ => .nil) ha hdb he hpl
theorem de_g0 (F : Gf X.prog X.w X.K X.mg X.base k x ps R) (hr : Room j X.A) (hg : Gl X x) (hkj : k ≤ j := by decide) (hdb : (x == ("__debug__" : Str)) = false := by decide) :
    PD X (.Call (.Name x p) [] [] pos) (dCall R [] dNil) := by
  obtain ⟨f, fd, F, hm, hk, hb⟩ := F.ex
  exact de_call0 F (hr.mono hkj) hg hm hk hb .nil (fun _ => .nil) hdb
theorem de_mk {fin : DQ → Addr → Sto → Prop} {c : Nat} (hfin : ∀ (Q : DQ) (z : Addr) (G H : Hp) (S : Sto), Rel X.K G H S → fin Q z S → ∃ G' S' d, Stp X.K G H S G' H S' ∧ Rp X.K G' (.ref z) d ∧ Q d S') (F : Gi X.prog X.w X.K X.mg X.base k c x ps R) (hr : Room j X.A) (hg : Gl X x) (ha : PDA X (e :: es) t) (hkj : k + 1 ≤ j := by decide) (hdb : (x == ("__debug__" : Str)) = false := by decide) (he : starEach (e :: es) X.env = (false, eval e X.env) :: starEach es X.env := by rfl) (hpl : (backTo pos (starEach es X.env)).any (·.1) = false := by rfl) :
    PD X (.Call (.Name x p) (e :: es) [] pos) (dMake fin c R [] t) := by
  obtain ⟨f, fd, F, hm, hk, hb⟩ := F.ex
  exact de_make hfin hk F (hr.mono hkj) hg hm hb .nil (fun _ => .nil) ha hdb he hpl
theorem de_gm0 {pl : Sem Bool} {c : Nat} {to : DTE} (ho : PD X o to) (F : Gm X.prog X.w X.K X.mg X.base k c m ps R) (hr : Room j X.A) (hkj : k ≤ j := by decide)
    (ht : eval (.Call (.Attribute o m apos) [] [] pos) X.env = (do
      let ov ← eval o X.env
      standAt apos.atName
      let (f, first) ← holding [ov] (getMethod ov m pl)
      callWith pos f first (backTo pos (starEach [] X.env)) (backToKw pos (keywordEach [] X.env))) := by rfl) :
    PD X (.Call (.Attribute o m apos) [] [] pos) (dMeth c R [] to dNil) := ⟨fun W tk => ⟨fun pins s σ H Q I h => by
  obtain ⟨f, fd, F, M, hb⟩ := F.ex
  obtain ⟨G, δ, S, QD, XD, re, rl, h, kq, kx⟩ := h
  refine PySem.W.methodCall_KW (pl := pl) ?_ ht
  apply thn ((ho.run W tk).run pins s σ H (fun v H1 => ∃ q dx fs, v = .ref q ∧ H1 q = some (.ins (cad X.K c) dx fs) ∧ fs.lookup m = none ∧ toSp X.K R [v] H1 Q (WE W σ)) I ⟨G, δ, S, _, XD, re, rl, h, fun G1 H1 S1 v d s1 rv q => ?_, kx⟩)
  · rintro u s1 ⟨y, H1, I1, rx, q, dx, fs, rfl, eq, l, hq⟩
    obtain rfl : u = Value.ref q := rx
    refine getmeth_ok I1 eq M.cl M.me l ?_
    refine PySem.W.callWith_K0 (first := [.ref q]) I1.kIn M.me.kp ?_
    exact run_fnD (us := [.ref q]) (vs := [.ref q]) F (hr.mono hkj) hb .nil tk I1 (.cons rfl .nil) hq
  · simp only [vwk_is] at q
    split at q
    · rename_i c' fs ex
      obtain ⟨rfl, q⟩ := q
      obtain ⟨z, dx, vs, rfl, hz, rs, _⟩ := vw_ins s1.rel rv ex
      exact ⟨z, dx, _, rfl, hz, lookup_none M.nf, G1, S1, [d], QD, XD, s1.rel, .cons rv .nil, q, fun G3 H3 S3 v d s3 r q => kq _ _ _ _ _ (s1.trans s3) r q, fun G3 H3 S3 cls d x s3 r q => kx _ _ _ _ _ _ (s1.trans s3) r q⟩
    · exact q.elim⟩⟩
theorem de_gm {pl : Sem Bool} {c : Nat} {to : DTE} (ho : PD X o to) (F : Gm X.prog X.w X.K X.mg X.base k c m ps R) (hr : Room j X.A) (ha : PDA X (e :: es) t) (hkj : k ≤ j := by decide)
    (hst : starEach (e :: es) X.env = (false, eval e X.env) :: starEach es X.env := by rfl) (hpl : (backTo pos (starEach es X.env)).any (·.1) = false := by rfl)
    (ht : eval (.Call (.Attribute o m apos) (e :: es) [] pos) X.env = (do
      let ov ← eval o X.env
      standAt apos.atName
      let (f, first) ← holding [ov] (getMethod ov m pl)
      callWith pos f first (backTo pos (starEach (e :: es) X.env)) (backToKw pos (keywordEach [] X.env))) := by rfl) :
    PD X (.Call (.Attribute o m apos) (e :: es) [] pos) (dMeth c R [] to t) := by
  obtain ⟨f, fd, F, M, hb⟩ := F.ex
  exact de_meth (pl := pl) ho M F (hr.mono hkj) hb .nil (fun _ => .nil) ha hst hpl ht
end
end SM

set_option Elab.async false
set_option linter.all false
set_option maxRecDepth 100000
set_option maxHeartbeats 2000000
namespace SM
open PySem PySem.Spec PyProof.Rows L2
variable {K : PySem.W.Frag} {G G' G2 H H' H2 : Hp} {S S' S2 : Sto}
/-! ### short names of readings -/
abbrev oSub : R2D := oInt0 fun i j => .int (i - j)
abbrev oFdiv : R2D := oInt (fun _ j => 0 < j ∧ j < 1073741824) fun i j => .int (i / j)
abbrev oMod : R2D := oInt (fun _ j => 0 < j) fun i j => .int (i % j)
abbrev oPow : R2D := oInt (fun i j => 0 ≤ j ∧ j ≤ 1000000 ∧ i.natAbs < 2 ^ 64) fun i j => .int (i ^ j.toNat)
abbrev oLt : R2D := oInt0 fun i j => .bl (decide (i < j))
abbrev oLe : R2D := oInt0 fun i j => .bl (decide (i ≤ j))
abbrev oGt : R2D := oInt0 fun i j => .bl (decide (j < i))
abbrev oGe : R2D := oInt0 fun i j => .bl (decide (j ≤ i))
abbrev dNeg (t : DTE) : DTE := dUn (fun x S Q => match x with | .int i => Q (.int (-i)) S | _ => False) t
/-- a reading keeps a promise -/
abbrev ends (QD : DQ) (XD : XQ) : DEnds := ⟨fun _ S' => QD .non S', QD, fun _ _ => False, fun _ _ => False, fun x _ S' => XD x S'⟩
abbrev Rd (t : DTS) (N : List Str) (R : DSp) : Prop := ∀ ds S QD XD, R ds S QD XD → t (ends QD XD) (startD N ds) S
abbrev Ln (n : Nat) (R : DSp) : Prop := ∀ ds S Q E, R ds S Q E → ds.length = n
/-! ### tables of isinstance -/
def ti_int : List (Nat × Bool) := [(102, true), (101, true), (100, false), (103, false), (104, false), (105, false)]
def ti_bool : List (Nat × Bool) := [(102, false), (101, true), (100, false), (103, false), (104, false), (105, false)]
def ti_tuple : List (Nat × Bool) := [(102, false), (101, false), (100, false), (103, false), (104, true), (105, false)]
def ti_list : List (Nat × Bool) := [(102, false), (101, false), (100, false), (103, false), (104, false), (105, true)]
def ti_str : List (Nat × Bool) := [(102, false), (101, false), (100, false), (103, true), (104, false), (105, false)]
def ti_Picture : List (Nat × Bool) := [(1, true), (0, false), (102, false), (101, false), (100, false), (103, false), (104, false), (105, false)]
def ti_Region : List (Nat × Bool) := [(0, true), (102, false), (101, false), (100, false), (103, false), (104, false), (105, false)]
/-! ### Bools of the head -/
def fokB (K : PySem.W.Frag) (fl : Str) (tbl : List (Nat × Nat)) : Bool := tbl.all fun p => (He.Fa.cls (cnm p.1)).ok K && ((He.Fa.noat (cnm p.1) fl).ok K && (decide ((cfs p.1)[p.2]? = some fl) && decide (cfs p.1).Nodup))
theorem fok_of {fl : Str} : ∀ {tbl : List (Nat × Nat)}, fokB K fl tbl = true → FOk K fl tbl
  | [], _ => fok_nil
  | (c, j) :: r, h => by
    unfold fokB at h
    rw [List.all_cons, Bool.and_eq_true] at h
    obtain ⟨h1, h2⟩ := h
    simp only [Bool.and_eq_true] at h1
    exact fok_cons (He.cls_ok h1.1) (He.noat_ok h1.2.1) (of_decide_eq_true h1.2.2.1) (of_decide_eq_true h1.2.2.2) (fok_of h2)
def eqfB (K : PySem.W.Frag) (c : Nat) (oth : List Nat) : Bool := (oth.all fun c2 => PySem.W.notFirst K (cad K c) (.ref (cad K c2))) && ( (He.Fa.meth (cnm c) "__eq__").ok K && (He.eqO (PySem.W.findIn K (.ref (cad K c)) "__ne__") (some (some (.builtin "object.__ne__"))) && decide (PySem.W.mroIn K (cad K c) (.type "object") = some true)))
theorem eqf_of {c : Nat} {oth : List Nat} (h : eqfB K c oth = true) : EqF K c oth (He.ma K (cad K c) "__eq__") := by
  unfold eqfB at h
  simp only [Bool.and_eq_true] at h
  have m := He.meth_ok h.2.1
  exact ⟨fun c2 h2 => List.all_eq_true.mp h.1 c2 (by simpa using h2), m.at_, m.fn, He.eqO_ok h.2.2.1, of_decide_eq_true h.2.2.2⟩
/-! ### facts with their addresses hidden -/
section
variable {P : Program} {w : World} {mg : Str → Option Value} {base : Heap}
structure Ge (P : Program) (w : World) (K : PySem.W.Frag) (mg : Str → Option Value) (base : Heap) (k : Nat) (c : Nat) (oth : List Nat) (ps : List Str) (R : DSp) : Prop where
  ex : ∃ f fd, FnOk P w K mg base (L2N.CX P w) k f fd ps (toSp K R) ∧ Binds K fd ps [] ∧ EqF K c oth f
structure Gs (P : Program) (w : World) (K : PySem.W.Frag) (mg : Str → Option Value) (base : Heap) (k : Nat) (c : Nat) (x m : Str) (R : DSp) : Prop where
  ex : ∃ g, SMet K (cad K c) m g ∧ FnR P w K mg base (L2N.CX P w) k g (toSp K R) ∧ mg x = some (.ref (cad K c))
theorem fnT {x qual : Str} {params : Arguments} {body : List Stmt} {scope : Scope} {dvs : List V} {kws : List (Str × V)} {f : Addr} {fd : FuncData} {N ps : List Str} {k : Nat} {R : DSp} {t : DTS} (F : FunD K x qual params body scope dvs kws f fd) (Sc : FnScope N ps scope)
    (len : Ln ps.length R) (rd : Rd t N R) (hd : ∀ (cdv : Value) (A : Around) (outer : List Env) (s : Shared) (H : Hp) (E : XK), Room k (A.deeper (envOfC qual scope s.heap.objs.size f cdv)) → PDSs (cxOf (L2N.CX P w) P w K mg base N qual scope f cdv A outer s H E) body t) (hps : ps.length ≤ N.length := by decide) : FnOk P w K mg base (L2N.CX P w) (k + 1) f fd ps (toSp K R) :=
  fnD F Sc R len hps fun cdv A outer s H E hr => ⟨t, hd cdv A outer s H E hr, rd⟩
end
section
variable {X : Cx} {e o a b : Expr} {es : List Expr} {pos p apos : Pos} {k j : Nat} {x m : Str} {t : DTA} {te : DTE} {ps : List Str} {R : DSp} {c : Nat} {oth : List Nat}
theorem o_eqG (F : Ge X.prog X.w X.K X.mg X.base k c oth ps R) (hr : Room j X.A) (hkj : k ≤ j := by decide) : OpR X (compareOp .Eq) (lift2 X.K (eqI c oth R false)) := by
  obtain ⟨f, fd, F, hb, Fe⟩ := F.ex
  exact o_eqI F hb (hr.mono hkj) Fe
theorem o_neG (F : Ge X.prog X.w X.K X.mg X.base k c oth ps R) (hr : Room j X.A) (hkj : k + 1 ≤ j := by decide) : OpR X (compareOp .NotEq) (lift2 X.K (eqI c oth R true)) := by
  obtain ⟨f, fd, F, hb, Fe⟩ := F.ex
  exact o_neI F hb (hr.mono hkj) Fe
theorem de_gs {pl : Sem Bool} (F : Gs X.prog X.w X.K X.mg X.base k c x m R) (hr : Room j X.A) (hg : Gl X x) (ha : PDA X (e :: es) t) (hkj : k ≤ j := by decide) (hdb : (x == ("__debug__" : Str)) = false := by decide)
    (hst : starEach (e :: es) X.env = (false, eval e X.env) :: starEach es X.env := by rfl) (hpl : (backTo pos (starEach es X.env)).any (·.1) = false := by rfl)
    (ht : eval (.Call (.Attribute (.Name x p) m apos) (e :: es) [] pos) X.env = (do
      let ov ← eval (.Name x p) X.env
      standAt apos.atName
      let (f, first) ← holding [ov] (getMethod ov m pl)
      callWith pos f first (backTo pos (starEach (e :: es) X.env)) (backToKw pos (keywordEach [] X.env))) := by rfl) :
    PD X (.Call (.Attribute (.Name x p) m apos) (e :: es) [] pos) (dCall R [] t) := by
  obtain ⟨g, cc, F, hm⟩ := F.ex
  exact de_sm (pl := pl) cc F (hr.mono hkj) hg hm ha hdb hst hpl ht
theorem de_gs0 {pl : Sem Bool} (F : Gs X.prog X.w X.K X.mg X.base k c x m R) (hr : Room j X.A) (hg : Gl X x) (hkj : k ≤ j := by decide) (hdb : (x == ("__debug__" : Str)) = false := by decide)
    (ht : eval (.Call (.Attribute (.Name x p) m apos) [] [] pos) X.env = (do
      let ov ← eval (.Name x p) X.env
      standAt apos.atName
      let (f, first) ← holding [ov] (getMethod ov m pl)
      callWith pos f first (backTo pos (starEach [] X.env)) (backToKw pos (keywordEach [] X.env))) := by rfl) :
    PD X (.Call (.Attribute (.Name x p) m apos) [] [] pos) (dCall R [] dNil) := by
  obtain ⟨g, cc, F, hm⟩ := F.ex
  exact de_sm0 (pl := pl) cc F (hr.mono hkj) hg hm hdb ht
theorem de_sortRoE {x y : Str} {p p2 kp pos : Pos} (hr : Room k X.A) (F : ∃ f, RoF X.K f ∧ X.mg y = some (.ref f)) (ha : PD X e te) (hgf : Gl X y) (hg : Gl X x) (hm : X.mg x = none) (hv : bootBuiltins x = some (.builtin "sorted")) (hn : x ≠ "__name__" := by decide) (hdb : (x == ("__debug__" : Str)) = false := by decide) (hdy : (y == ("__debug__" : Str)) = false := by decide)
    (hse : starEach [e] X.env = (false, eval e X.env) :: starEach [] X.env := by rfl) (he : backTo pos (starEach [e] X.env) = (false, eval e X.env) :: backTo pos (starEach [] X.env) := by rfl) (hpl : (backTo pos (starEach [e] X.env)).any (·.1) = false := by rfl) : PD X (.Call (.Name x p) [e] [⟨some (Str.ofString "key"), .Name y p2, kp⟩] pos) (dSortRo te) := by
  obtain ⟨f, F, hm2⟩ := F
  exact de_sortRo hr F ha hgf hm2 hg hm hv hn hdb hdy hse he hpl
/-- a call with the script -/
def rScr (a : Addr) (ns : List Int) (R : Addr → List Int → DSp) : DSp := fun ds S Q E => ds = [.adr a] ∧ R a ns ds S Q E
structure Gz (P : Program) (w : World) (K : PySem.W.Frag) (mg : Str → Option Value) (base : Heap) (k : Nat) (x : Str) (ps : List Str) (n : Nat) (R : Addr → List Int → DSp) : Prop where
  ex : ∃ f fd, FnOk P w K mg base (L2N.CX P w) k f fd ps (spScr K n R) ∧ mg x = some (.ref f) ∧ PySem.W.keepIn K (.ref f) = true ∧ Binds K fd ps []
theorem de_gScr {n : Nat} {a : Addr} {ns : List Int} {R : Addr → List Int → DSp} (F : Gz X.prog X.w X.K X.mg X.base k x ps n R) (hz : Fz X.K X.H_0 a (ns.map V.int)) (hn : ns.length ≤ n) (hr : Room j X.A) (hg : Gl X x) (ha : PDA X (e :: es) t) (hkj : k ≤ j := by decide)
    (hdb : (x == ("__debug__" : Str)) = false := by decide) (he : starEach (e :: es) X.env = (false, eval e X.env) :: starEach es X.env := by rfl) (hpl : (backTo pos (starEach es X.env)).any (·.1) = false := by rfl) :
    PD X (.Call (.Name x p) (e :: es) [] pos) (dCall (rScr a ns R) [] t) := by
  obtain ⟨f, fd, F, hm, hk, hb⟩ := F.ex
  exact de_callScr F hz hn (hr.mono hkj) hg hm hk hb ha hdb he hpl
theorem de_gl {v : V} {d : D} {pos : Pos} (hg : Gl X x) (hm : ∃ u, X.mg x = some u ∧ RelV v u) (rd : ∀ G, Rp X.K G v d) (hd : (x == ("__debug__" : Str)) = false := by decide) : PD X (.Name x pos) (dC d) := by
  obtain ⟨u, hm, r⟩ := hm
  exact de_glob hg hm r rd hd
end
end SM

set_option Elab.async false
set_option linter.all false
set_option maxRecDepth 100000
set_option maxHeartbeats 2000000
namespace SM
open PySem PySem.Spec PyProof.Rows L2
variable {K : PySem.W.Frag} {G G' G2 H H' H2 : Hp} {S S' S2 : Sto}
/-! ### the end of a law -/
@[irreducible] def rLaw (a : Addr) (ns : List Int) : DSp := fun ds S Q _ => ds = [.adr a] ∧ ∀ S', Q (.bl true) S'
theorem len_law (a : Addr) (ns : List Int) : Ln 1 (rLaw a ns) := fun ds S Q E h => by unfold rLaw at h; rw [h.1]; rfl
theorem law_sp {a : Addr} {ns : List Int} (hl : ns.length ≤ 63) (hO : Only H) (hS : SqL K H a (ns.map V.int)) : spScr K 63 rLaw [.ref a] H (fun v _ => v = .bl true) fun _ _ _ => False := by
  refine ⟨a, ns, rfl, Fz.of hO hS, hl, fun _ => none, fun _ => none, [.adr a], fun d _ => d = .bl true, fun _ _ => False, ⟨(fun _ _ h => nomatch h), (fun _ _ h => nomatch h)⟩, .cons (.adr a) .nil, by unfold rLaw; exact ⟨rfl, fun _ => rfl⟩, fun G' H' S' v d _ r q => ?_, fun _ _ _ _ _ _ _ _ z => z⟩
  subst q
  cases r
  rfl
theorem law_noX {P : Program} {w : World} {H : Hp} {s s' : Shared} {e : Value} (z : L2N.CX P w [] H s (fun _ _ _ => False) e s') : False := by
  obtain ⟨_, _, _, _, _, _, _, _, _, _, _, _, z⟩ := z
  exact z
theorem walk_law {l : PySem.W.OpenLaw} {k : Nat} {q : Program} {loose : List Str} {XP : (Str → Option Value) → Heap → Prop} {YP : World → Heap → Prop} {d : DefRec} {x : Str} (hn : l.most = some 63) (hdf : d.params.defaults = []) (hr : Room k callerA)
    (F : ∀ (w : World) (mg : Str → Option Value) (fa : Addr) (h : Heap), YP w h → h.Ns mainGlobals mg → mg d.name = some (.ref fa) → ∃ (K : PySem.W.Frag) (fd : FuncData), K.In h ∧ (∀ (s : Shared) (u : Value), BindsTo s fd ⟨[u], []⟩ [(x, u)]) ∧
      ∀ base : Heap, K.In base → base.Ns mainGlobals mg → FnOk l.prog w K mg base (L2N.CX l.prog w) k fa fd [x] (spScr K 63 rLaw)) :
    PySem.W.WalkO q loose XP YP l.row.toRowW d [] (fun f vs => PySem.call f vs) := by
  refine Att.attach_call hn hdf fun w s0 s1 mg mb fa o pm cd doc a vs ns G Y ho hd hcd hmg hobj hints hlen hg => ?_
  obtain ⟨K, fd, KX, hb, hF⟩ := F w mg fa _ Y G.T.g hmg
  exact law_call KX G.T.g G.T.b G.T.builtins G.T.nolimit hg hobj hints (Nat.le_trans hlen (by decide)) hr hF hb (fun H hO hS => law_sp hlen hO hS) fun H e s' => law_noX
/-! ### facts of the head -/
theorem gint_of {u : Option Value} {i : Int} (h : ∃ t, u = some (.int i t)) : ∃ v, u = some v ∧ RelV (.int i) v := by
  obtain ⟨t, h⟩ := h
  exact ⟨_, h, _, rfl⟩
theorem gstr_of {u : Option Value} {i : Str} (h : ∃ t, u = some (.str i t)) : ∃ v, u = some v ∧ RelV (.str i) v := by
  obtain ⟨t, h⟩ := h
  exact ⟨_, h, _, rfl⟩
/-- where a staticmethod's function stands -/
def smAd (K : PySem.W.Frag) (C : Addr) (m : Str) : Addr := match PySem.W.findCls K (.ref C) (.type "type") m with
  | some (.get _ (.ref p) _ _) => (match PySem.W.recIn K p "staticmethod" with
    | some (.ref g :: _) => g
    | _ => 0)
  | _ => 0
def smB (K : PySem.W.Frag) (c : Nat) (m : Str) : Bool := PySem.W.readsIn K (cad K c) (.type "type") && (decide (PySem.W.specialIn K (.ref (cad K c)) "__getattribute__" = some (some (.builtin "type.__getattribute__"))) &&
  (PySem.W.keepIn K (.ref (smAd K (cad K c) m)) && (match PySem.W.findCls K (.ref (cad K c)) (.type "type") m with
    | some (.get (.builtin b) (.ref p) .none (.ref C)) => decide (b = "staticmethod.__get__") && (decide (C = cad K c) && (match PySem.W.recIn K p "staticmethod" with
      | some (.ref _ :: _) => true
      | _ => false))
    | _ => false)))
theorem sm_of {c : Nat} {m : Str} (h : smB K c m = true) : SMet K (cad K c) m (smAd K (cad K c) m) := by
  unfold smB at h
  simp only [Bool.and_eq_true] at h
  obtain ⟨h1, h2, h3, h4⟩ := h
  refine ⟨h1, of_decide_eq_true h2, ?_, h3⟩
  split at h4
  · rename_i b p C e
    simp only [Bool.and_eq_true, decide_eq_true_eq] at h4
    obtain ⟨rfl, rfl, h5⟩ := h4
    split at h5
    · rename_i g rest e2
      refine ⟨p, rest, e, ?_⟩
      unfold smAd
      rw [e]
      simp only [e2]
    · cases h5
  · cases h4
theorem ro_of {x qual : Str} {params : Arguments} {scope : Scope} {f : Addr} {fd : FuncData} {c : Str} {q1 q2 q3 q4 q5 q6 q7 q8 : Pos} {k1 k2 k3 : Nat} (F : FunD K x qual params (roB c q1 q2 q3 q4 q5 q6 q7 q8 k1 k2 k3) scope [] [] f fd) (hd : (c == ("__debug__" : Str)) = false)
    (hk : scope.kind = .function := by rfl) (hc : scope.isCoroutine = false := by rfl) (hg : scope.isGenerator = false := by rfl) (hl : scope.names.lookup c = some .local := by rfl)
    (hb : ∀ kV doc pm an cdv ct b, bindArgs (PySem.W.fnOf x qual params (roB c q1 q2 q3 q4 q5 q6 q7 q8 k1 k2 k3) scope .none kV doc pm an cdv ct) ⟨[.ref b], []⟩ = pure [(c, .ref b)] := by intros; rfl) : RoF K f := by
  obtain ⟨oc, od, dV, kV, doc, pm, an, cdv, ct, osl, rfl, lk, hcd, hdv, _⟩ := F.ex
  obtain rfl : dV = .none := by
    rcases hdv with ⟨_, h⟩ | ⟨h, _⟩
    · exact h
    · exact absurd rfl h
  exact ⟨oc, od, x, qual, params, scope, .none, kV, doc, pm, cdv, ct, an, osl, c, q1, q2, q3, q4, q5, q6, q7, q8, k1, k2, k3, lk, hcd, hk, hc, hg, hl, fun b => hb .., hd⟩
section
variable {P : Program} {w : World} {mg : Str → Option Value} {base : Heap}
theorem fnStarT {x qual : Str} {params : Arguments} {body : List Stmt} {scope : Scope} {f : Addr} {fd : FuncData} {N ps : List Str} {pv : Str} {k : Nat} {R : DSp} {t : DTS} (F : FunD K x qual params body scope [] [] f fd) (Sc : FnScope N (ps ++ [pv]) scope)
    (len : Ln (ps.length + 1) R) (hlen : ∀ ds S Q E, starSp ps.length R ds S Q E → ds.length ≤ sizeLine)
    (hbd : ∀ (kV doc pm : Value) (an : Option Addr) (cdv ct : Value) (us rest : List Value), us.length = ps.length → bindArgs (PySem.W.fnOf x qual params body scope .none kV doc pm an cdv ct) ⟨us ++ rest, []⟩ = (newTuple rest >>= fun t => pure (ps.zip us ++ [(pv, t)])))
    (rd : Rd t N R) (hd : ∀ (cdv : Value) (A : Around) (outer : List Env) (s : Shared) (H : Hp) (E : XK), Room k (A.deeper (envOfC qual scope s.heap.objs.size f cdv)) → PDSs (cxOf (L2N.CX P w) P w K mg base N qual scope f cdv A outer s H E) body t)
    (hps : ps.length + 1 ≤ N.length := by decide) : FnR P w K mg base (L2N.CX P w) (k + 1) f (toSp K (starSp ps.length R)) := by
  refine fnStar F Sc R len hps hlen (fun us rest hl => ?_) fun cdv A outer s H E hr => ⟨t, hd cdv A outer s H E hr, rd⟩
  obtain ⟨oc, od, dV, kV, doc, pm, an, cdv, ct, osl, rfl, lk, hcd, hdv, _⟩ := F.ex
  obtain rfl : dV = .none := by
    rcases hdv with ⟨_, h⟩ | ⟨h, _⟩
    · exact h
    · exact absurd rfl h
  exact hbd _ _ _ _ _ _ us rest hl
end
end SM

set_option Elab.async false
set_option linter.all false
set_option maxHeartbeats 2000000
/-! plain laws of cells: once, reading order -/
namespace SM
open PySem PySem.Spec PyProof.Rows L2
theorem once_go_mem : ∀ (cs a : List Cell) (c : Cell), c ∈ cs.foldl (fun a c => if c ∈ a then a else a ++ [c]) a ↔ c ∈ a ∨ c ∈ cs
  | [], a, c => by simp
  | x :: r, a, c => by
    rw [List.foldl_cons, once_go_mem r]
    split
    · rename_i h
      constructor
      · rintro (h1 | h1)
        · exact .inl h1
        · exact .inr (List.mem_cons_of_mem _ h1)
      · rintro (h1 | h1)
        · exact .inl h1
        · rcases List.mem_cons.mp h1 with rfl | h2
          · exact .inl h
          · exact .inr h2
    · simp only [List.mem_append, List.mem_cons, List.not_mem_nil, or_false, or_assoc]
theorem mem_once {cs : List Cell} {c : Cell} : c ∈ once cs ↔ c ∈ cs := by
  unfold once; rw [once_go_mem]; simp
theorem once_go_nd : ∀ (cs a : List Cell), a.Nodup → (cs.foldl (fun a c => if c ∈ a then a else a ++ [c]) a).Nodup
  | [], a, h => h
  | x :: r, a, h => by
    rw [List.foldl_cons]
    refine once_go_nd r _ ?_
    split
    · exact h
    · rename_i hx
      rw [List.nodup_append]
      refine ⟨h, by simp, ?_⟩
      intro y hy z hz
      simp at hz
      subst hz
      intro e
      subst e
      exact hx hy
theorem once_nd (cs : List Cell) : (once cs).Nodup := once_go_nd cs [] List.nodup_nil
abbrev roLe (p q : Cell) : Bool := decide (p.2 < q.2 ∨ (p.2 = q.2 ∧ p.1 ≤ q.1))
theorem roSort_pw (cs : List Cell) : (roSort cs).Pairwise fun a b => roLe a b = true := by
  refine List.pairwise_mergeSort (fun a b c h1 h2 => ?_) (fun a b => ?_) cs
  · simp only [roLe, decide_eq_true_eq] at *; omega
  · simp only [roLe, Bool.or_eq_true, decide_eq_true_eq]; omega
theorem roLe_anti {a b : Cell} (h1 : roLe a b = true) (h2 : roLe b a = true) : a = b := by
  simp only [roLe, decide_eq_true_eq] at h1 h2
  exact Prod.ext (by omega) (by omega)
theorem ro_perm {a b : List Cell} (h : a.Perm b) : roSort a = roSort b :=
  List.Perm.eq_of_pairwise (fun x y _ _ => roLe_anti) (roSort_pw a) (roSort_pw b) ((roSort_perm a).trans (h.trans (roSort_perm b).symm))
theorem ro_ext {a b : List Cell} (h : ∀ c, c ∈ a ↔ c ∈ b) : roSort (once a) = roSort (once b) :=
  ro_perm ((List.perm_ext_iff_of_nodup (once_nd a) (once_nd b)).mpr fun c => by rw [mem_once, mem_once]; exact h c)
theorem mem_ro {cs : List Cell} {c : Cell} : c ∈ roSort cs ↔ c ∈ cs := (roSort_perm cs).mem_iff
theorem ro_iff {a b : List Cell} : roSort (once a) = roSort (once b) ↔ ∀ c, c ∈ a ↔ c ∈ b := by
  constructor
  · intro h c
    rw [← mem_once (cs := a), ← mem_once (cs := b), ← mem_ro (cs := once a), h, mem_ro]
  · exact ro_ext
theorem once_of_nd : ∀ (cs a : List Cell), (a ++ cs).Nodup → cs.foldl (fun a c => if c ∈ a then a else a ++ [c]) a = a ++ cs
  | [], a, _ => by simp
  | x :: r, a, h => by
    have hx : x ∉ a := by
      rw [List.nodup_append] at h
      exact fun hm => h.2.2 x hm x (List.mem_cons_self ..) rfl
    rw [List.foldl_cons, if_neg hx, once_of_nd r (a ++ [x]) (by simpa using h)]
    simp
theorem once_id {cs : List Cell} (h : cs.Nodup) : once cs = cs := by
  have := once_of_nd cs [] (by simpa using h)
  simpa [once] using this
theorem roSort_id {cs : List Cell} (h : cs.Pairwise fun a b => roLe a b = true) : roSort cs = cs :=
  List.Perm.eq_of_pairwise (fun x y _ _ => roLe_anti) (roSort_pw cs) h (roSort_perm cs)
theorem roSort_nd {cs : List Cell} (h : cs.Nodup) : (roSort cs).Nodup := (roSort_perm cs).nodup_iff.mpr h
/-- the cells of a region, again a list -/
theorem ro_once_idem (cs : List Cell) : roSort (once (roSort (once cs))) = roSort (once cs) := ro_ext fun c => by rw [mem_ro, mem_once]
end SM

set_option Elab.async false
set_option linter.all false
set_option maxRecDepth 100000
set_option maxHeartbeats 2000000
namespace SM
open PySem PySem.Spec PyProof.Rows L2
variable {K : PySem.W.Frag} {G G' G2 H H' H2 : Hp} {S S' S2 : Sto}
/-! ### operators by own methods -/
structure Go (P : Program) (w : World) (K : PySem.W.Frag) (mg : Str → Option Value) (base : Heap) (k : Nat) (c : Nat) (m : Str) (ps : List Str) (R : DSp) : Prop where
  ex : ∃ f fd, FnOk P w K mg base (L2N.CX P w) k f fd ps (toSp K R) ∧ Binds K fd ps [] ∧ Meth K (cad K c) m f
section
variable {X : Cx} {e o a b : Expr} {es : List Expr} {pos p apos : Pos} {k j : Nat} {x m : Str} {t : DTA} {te ta tb : DTE} {ps : List Str} {R : DSp} {c : Nat} {f : Addr} {fd : FuncData} {A : Around} {pins : List (Addr × Obj)} {σ : L2.St} {s : Shared} {W : WX}
/-- an own def is called, nothing is raised -/
theorem run_own {vs : List V} {us : List Value} {ds : List D} {Q : VK} {QD : DQ} (F : FnOk X.prog X.w X.K X.mg X.base (L2N.CX X.prog X.w) k f fd ps (toSp X.K R)) (hb : Binds X.K fd ps []) (hr : Room k A) (hfr : A.frames = X.A.frames) (I : Inv X pins σ H s) (rv : Vals vs us)
    (rl : Rel X.K G H S) (rd : Rps X.K G vs ds) (h : R ds S QD noX) (kq : ∀ G' H' S' v d, Stp X.K G H S G' H' S' → Rp X.K G' v d → QD d S' → Q v H') {E : Value → Shared → Prop} : wpAny (model X.prog X.w) A (call (.ref f) us) (EP X pins σ Q) E s := by
  have hsp : toSp X.K R vs H Q (fun _ _ _ => False) := ⟨G, S, ds, QD, noX, rl, rd, h, kq, fun _ _ _ _ _ _ _ _ z => z⟩
  have e0 : Env0 X.prog X.w X.K X.mg X.base A X.stack s H := by
    have e := I.env0
    exact ⟨by rw [hfr]; exact e.frames, e.mod, e.bs, e.bsz, e.funs, e.frf, e.hok, e.bare⟩
  have hl := F.len _ _ _ _ hsp
  have bd := hb s us I.kIn (by rw [List.append_nil, ← rv.length]; exact hl)
  rw [List.append_nil] at bd
  refine wpAny_call (codeAny_mono (F.run A X.stack s H ⟨us, []⟩ us vs _ _ hr e0 bd rv hsp) fun r s' hq => ?_)
  match r, hq with
  | .error e, hq =>
    obtain ⟨_, _, _, _, _, _, _, _, _, _, _, _, he⟩ := hq
    exact he.elim
  | .ok (.ret w), hq => exact I.after hq
def ownI (c : Nat) (R : DSp) (ds : List D) (S : Sto) (Q : DQ) : Prop := match ds with
  | x :: _ => vwk S x fun x' => (match x' with
    | .ins c' _ => c' = c ∧ R ds S Q noX
    | _ => False)
  | _ => False
/-- the receiver -/
theorem own_at {x : V} {dx : D} {u : Value} {c' : Nat} {fs : List D} (I : Inv X pins σ H s) (rl : Rel X.K G H S) (r1 : Rp X.K G x dx) (rx : RelV x u) (ex : vw S dx = .ins c' fs) : ∃ a ox od, u = .ref a ∧ x = .ref a ∧ PySem.W.InstAt s.heap a ox (cad X.K c') od := by
  obtain ⟨a, ax, vs, rfl, ha, _⟩ := vw_ins rl r1 ex
  obtain rfl : u = Value.ref a := rx
  obtain ⟨mA, J, _⟩ := ins_get I.hok ha
  obtain ⟨od, J, _⟩ := J.look
  exact ⟨a, _, od, rfl, rfl, J⟩
/-! len(o) -/
@[irreducible] def lenI (c : Nat) (R : DSp) : D → Sto → DQ → Prop := fun d S Q => ownI c R [d] S fun v S' => match v with
  | .int n => (0 ≤ n ∧ n < 9223372036854775808) ∧ Q (.int n) S'
  | _ => False
theorem c_lenI (F : Go X.prog X.w X.K X.mg X.base k c "__len__" ps R) (hr : Room j X.A) (hkj : k + 1 ≤ j := by decide) : CallR X (.builtin "len") (liftC X.K (on1 (lenI c R))) := by
  obtain ⟨f, fd, F1, hb, M⟩ := F.ex
  intro pins s σ H vs us Q I r h
  obtain ⟨G, S, ds, QD, rl, rs, h, kq⟩ := h
  obtain ⟨d, v, rfl, rfl, rx, h⟩ := on1_of h rs
  obtain ⟨u, rfl, ru⟩ := vals1 r
  simp only [lenI, ownI, vwk_is] at h
  split at h
  · rename_i c' fs ex
    obtain ⟨rfl, h2⟩ := h
    obtain ⟨a, ox, od, rfl, rfl, J⟩ := own_at I rl rx ru ex
    obtain ⟨m, hF⟩ := I.fr
    refine PySem.W.len_K hF I.ok.mod.kin J M.at_ M.fn ?_
    refine wpAny_mono (run_own (vs := [.ref a]) (Q := fun v H' => ∃ n, v = .int n ∧ (0 ≤ n ∧ n < 9223372036854775808) ∧ Q (.int n) H') F1 hb (hr.mono hkj).in1 rfl I r rl rs h2 fun G' H' S' v d s1 r1 q => ?_) (fun z s' hz => ?_) fun _ _ e => e
    · cases r1 with
      | int n => exact ⟨n, rfl, q.1, kq _ _ _ _ _ s1 (.int n) q.2⟩
      | _ => exact q.elim
    · obtain ⟨v, H', I', rz, n, rfl, hn, q⟩ := hz
      obtain ⟨tk, rfl⟩ := rz
      exact ⟨hn, .int n, H', I'.tok _, ⟨_, rfl⟩, q⟩
  · exact h.elim
/-! v in o -/
@[irreducible] def inI (c : Nat) (R : DSp) (n : Bool) : R2D := fun x y S Q => ownI c R [y, x] S fun v S' => match v with
  | .bl b => Q (.bl (n ^^ b)) S'
  | _ => False
theorem bool_back {n : Bool} {Q : VK} {z : Value} {s' : Shared} {E : Value → Shared → Prop} (h : EP X pins σ (fun v H' => ∃ b, v = .bl b ∧ Q (.bl (n ^^ b)) H') z s') : wpAny (model X.prog X.w) A (truthy z) (fun b s => EP X pins σ Q (.bool (n ^^ b)) s) E s' := by
  obtain ⟨v, H', I', rz, b, rfl, q⟩ := h
  obtain rfl : z = Value.bool b := rz
  exact wpAny_truthy_bool ⟨.bl (n ^^ b), H', I', rfl, q⟩
theorem o_inG (F : Go X.prog X.w X.K X.mg X.base k c "__contains__" ps R) (hr : Room j X.A) (hkj : k ≤ j := by decide) : OpR X (compareOp .In) (lift2 X.K (inI c R false)) := by
  obtain ⟨f, fd, F1, hb, M⟩ := F.ex
  rintro pins s σ H x y u v Q I rx ry ⟨G, S, dx, dy, QD, rl, r1, r2, h, kq⟩
  simp only [inI, ownI, vwk_is] at h
  split at h
  · rename_i c' fs ex
    obtain ⟨rfl, h2⟩ := h
    obtain ⟨a, ox, od, rfl, rfl, J⟩ := own_at I rl r2 ry ex
    obtain ⟨m, hF⟩ := I.fr
    refine PySem.W.in_K hF I.ok.mod.kin J M.at_ M.fn ?_
    refine wpAny_mono (run_own (vs := [.ref a, x]) (Q := fun v H' => ∃ b, v = .bl b ∧ Q (.bl (false ^^ b)) H') F1 hb (hr.mono hkj) rfl I (.cons rfl (.cons rx .nil)) rl (.cons r2 (.cons r1 .nil)) h2 fun G' H' S' v d s1 r1 q => ?_) (fun z s' hz => ?_) fun _ _ e => e
    · cases r1 with
      | bl n => exact ⟨n, rfl, kq _ _ _ _ _ s1 (.bl _) q⟩
      | _ => exact q.elim
    · refine wpAny_mono (bool_back hz) (fun b s1 q => ?_) fun _ _ e => e
      rw [Bool.false_xor] at q
      exact q
  · exact h.elim
theorem o_notinG (F : Go X.prog X.w X.K X.mg X.base k c "__contains__" ps R) (hr : Room j X.A) (hkj : k ≤ j := by decide) : OpR X (compareOp .NotIn) (lift2 X.K (inI c R true)) := by
  obtain ⟨f, fd, F1, hb, M⟩ := F.ex
  rintro pins s σ H x y u v Q I rx ry ⟨G, S, dx, dy, QD, rl, r1, r2, h, kq⟩
  simp only [inI, ownI, vwk_is] at h
  split at h
  · rename_i c' fs ex
    obtain ⟨rfl, h2⟩ := h
    obtain ⟨a, ox, od, rfl, rfl, J⟩ := own_at I rl r2 ry ex
    obtain ⟨m, hF⟩ := I.fr
    refine PySem.W.notIn_K hF I.ok.mod.kin J M.at_ M.fn ?_
    refine wpAny_mono (run_own (vs := [.ref a, x]) (Q := fun v H' => ∃ b, v = .bl b ∧ Q (.bl (true ^^ b)) H') F1 hb (hr.mono hkj) rfl I (.cons rfl (.cons rx .nil)) rl (.cons r2 (.cons r1 .nil)) h2 fun G' H' S' v d s1 r1 q => ?_) (fun z s' hz => ?_) fun _ _ e => e
    · cases r1 with
      | bl n => exact ⟨n, rfl, kq _ _ _ _ _ s1 (.bl _) q⟩
      | _ => exact q.elim
    · refine wpAny_mono (bool_back hz) (fun b s1 q => ?_) fun _ _ e => e
      rw [Bool.true_xor] at q
      exact q
  · exact h.elim
/-! str(o) -/
@[irreducible] def strI (c : Nat) (R : DSp) : D → Sto → DQ → Prop := fun d S Q => ownI c R [d] S fun v S' => match v with
  | .str n => Q (.str n) S'
  | _ => False
theorem c_strI (F : Go X.prog X.w X.K X.mg X.base k c "__str__" ps R) (hr : Room j X.A) (hkj : k + 2 ≤ j := by decide) : CallR X (.type "str") (liftC X.K (on1 (strI c R))) := by
  obtain ⟨f, fd, F1, hb, M⟩ := F.ex
  intro pins s σ H vs us Q I r h
  obtain ⟨G, S, ds, QD, rl, rs, h, kq⟩ := h
  obtain ⟨d, v, rfl, rfl, rx, h⟩ := on1_of h rs
  obtain ⟨u, rfl, ru⟩ := vals1 r
  simp only [strI, ownI, vwk_is] at h
  split at h
  · rename_i c' fs ex
    obtain ⟨rfl, h2⟩ := h
    obtain ⟨a, ox, od, rfl, rfl, J⟩ := own_at I rl rx ru ex
    have hr2 := (hr.mono hkj).in1.in1
    refine PySem.W.kso_call hr2.units0 I.kIn J M.at_ M.fn ?_
    refine wpAny_mono (run_own (vs := [.ref a]) (Q := fun v H' => ∃ n, v = .str n ∧ Q (.str n) H') F1 hb hr2 rfl I r rl rs h2 fun G' H' S' v d s1 r1 q => ?_) (fun z s' hz => ?_) fun _ _ e => e
    · cases r1 with
      | str hn => exact ⟨_, rfl, kq _ _ _ _ _ s1 (.str hn) q⟩
      | _ => exact q.elim
    · obtain ⟨v, H', I', rz, n, rfl, q⟩ := hz
      obtain ⟨tk, rfl⟩ := rz
      exact ⟨.str n, H', I', ⟨_, rfl⟩, q⟩
  · exact h.elim
/-! o + o' and its like, both of one class -/
@[irreducible] def opI (c : Nat) (R : DSp) : R2D := fun x y S Q => vwk S x fun x' => match x' with
  | .ins c' _ => c' = c ∧ vwk S y fun y' => (match y' with
    | .ins c2 _ => c2 = c ∧ R [x, y] S Q noX
    | _ => False)
  | _ => False
theorem isNI {v : V} {d : D} {u : Value} (r : Rp K G v d) (ru : RelV v u) (Q : Value → Shared → Prop) (s' : Shared) (h : Q u s') : PySem.W.CmpBack Q u s' := by
  cases r <;> first | (obtain ⟨t, rfl⟩ := ru; exact h) | (cases ru; exact h)
theorem o_opG {op : Operator} (F : Go X.prog X.w X.K X.mg X.base k c (PySem.dunder op.info.2) ps R) (sf : PySem.W.selfFirst X.K (cad X.K c) = true) (hr : Room j X.A) (hkj : k ≤ j := by decide) : OpR X (binaryOp op) (lift2 X.K (opI c R)) := by
  obtain ⟨f, fd, F1, hb, M⟩ := F.ex
  rintro pins s σ H x y u v Q I rx ry ⟨G, S, dx, dy, QD, rl, r1, r2, h, kq⟩
  simp only [opI, vwk_is] at h
  split at h
  · rename_i c' fs ex
    obtain ⟨rfl, h⟩ := h
    split at h
    · rename_i c2 fs2 ey
      obtain ⟨rfl, h⟩ := h
      obtain ⟨a, ox, od, rfl, rfl, J⟩ := own_at I rl r1 rx ex
      obtain ⟨a2, ox2, od2, rfl, rfl, J2⟩ := own_at I rl r2 ry ey
      obtain ⟨m, hF⟩ := I.fr
      refine PySem.W.binop_K hF I.ok.mod.kin J J2.type sf M.at_ M.fn ?_
      refine wpAny_mono (run_own (vs := [.ref a, .ref a2]) (Q := fun v H' => Q v H' ∧ ∃ G d, Rp X.K G v d) F1 hb (hr.mono hkj) rfl I (.cons rfl (.cons rfl .nil)) rl (.cons r1 (.cons r2 .nil)) h fun G' H' S' v d s1 r1 q => ⟨kq _ _ _ _ _ s1 r1 q, _, _, r1⟩) (fun z s' hz => ?_) fun _ _ e => e
      obtain ⟨v, H', I', rz, q, G1, d1, rd⟩ := hz
      exact isNI rd rz _ _ ⟨v, H', I', rz, q⟩
    · exact h.elim
  · exact h.elim
/-! o[i] -/
@[irreducible] def ixI (c : Nat) (R : DSp) : R2D := fun x y S Q => ownI c R [x, y] S Q
theorem de_ixG (F : Go X.prog X.w X.K X.mg X.base k c "__getitem__" ps R) (hfn : ∀ f, Meth X.K (cad X.K c) "__getitem__" f → PySem.W.fnIn X.K f = true) (hr : Room j X.A) (ha : PD X a ta) (hb : PD X b tb) (hkj : k + 1 ≤ j := by decide)
    (hsl : ∀ v u, subscripted b true v u = runValue (.builtin "lifetime.subscript" ⟨[v, u], []⟩) := by intros; with_unfolding_all rfl) : PD X (.Subscript a b pos) (dOp (ixI c R) ta tb) := by
  obtain ⟨f, fd, F1, hbd, M⟩ := F.ex
  refine ⟨fun W tk => PE.weak (t := tOp (lift2 X.K (ixI c R)) _ _) ⟨fun pins s σ H Q I h => ?_⟩ sim_op⟩
  refine Subscript_ (binT (ha.run W tk) (hb.run W tk) I h fun v u s2 x y H2 I2 rx ry q => ?_)
  obtain ⟨G, S, dx, dy, QD, rl, r1, r2, h, kq⟩ := q
  simp only [ixI, ownI, vwk_is] at h
  split at h
  · rename_i c' fs ex
    obtain ⟨rfl, h2⟩ := h
    obtain ⟨a, ox, od, rfl, rfl, J⟩ := own_at I2 rl r1 rx ex
    obtain ⟨m, hF⟩ := I2.fr
    exact PySem.W.sub_K hF I2.ok.mod.kin J M.at_ (hfn f M) M.fn (run_own (vs := [.ref a, y]) F1 hbd (hr.mono hkj).in1 rfl I2 (.cons rfl (.cons ry .nil)) rl (.cons r1 (.cons r2 .nil)) h2 kq) (hsl _ _)
  · exact h.elim
end
end SM

set_option Elab.async false
set_option linter.all false
set_option maxRecDepth 100000
set_option maxHeartbeats 2000000
namespace SM
open PySem PySem.Spec PyProof.Rows L2 TL
variable {K : PySem.W.Frag} {G G' G2 H H' H2 : Hp} {S S' S2 : Sto}
/-! ### texts that may stand -/
theorem okS_iff {s : Str} : okS s ↔ s.length ≤ sizeLine ∧ ∀ c ∈ s.cps.toList, c < 1114112 := by
  unfold okS PyData.strOk
  rw [Array.all_eq_true_iff_forall_mem]
  simp
theorem okS_empty : okS Str.empty := by decide +kernel
theorem tl_is (s : Str) : tl s = s.cps.toList := rfl
theorem len_tl (s : Str) : s.length = (tl s).length := by show s.cps.size = s.cps.toList.length; simp
theorem joinL_mem {S : List Nat} : ∀ {l : List (List Nat)} {c : Nat}, c ∈ joinL S l → c ∈ S ∨ ∃ p ∈ l, c ∈ p
  | [], _, h => by simp [joinL] at h
  | [p], _, h => .inr ⟨p, by simp, h⟩
  | p :: q :: r, c, h => by
    simp only [joinL, List.mem_append] at h
    rcases h with h | h | h
    · exact .inr ⟨p, by simp, h⟩
    · exact .inl h
    · rcases joinL_mem h with h | ⟨z, hz, h⟩
      · exact .inl h
      · exact .inr ⟨z, List.mem_cons_of_mem _ hz, h⟩
theorem joinL_len {S : List Nat} : ∀ {l : List (List Nat)}, (joinL S l).length ≤ (l.map (·.length)).sum + l.length * S.length
  | [] => by simp [joinL]
  | [p] => by simp [joinL]
  | p :: q :: r => by
    have := joinL_len (S := S) (l := q :: r)
    simp only [joinL, List.length_append, List.map_cons, List.sum_cons, List.length_cons] at *
    have e : (r.length + 1 + 1) * S.length = (r.length + 1) * S.length + S.length := by rw [Nat.add_mul (r.length + 1) 1, Nat.one_mul]
    omega
theorem okS_join {y : Str} {l : List Str} (hy : okS y) (hl : ∀ s ∈ l, okS s) (hz : (l.map (·.length)).sum + l.length * y.length ≤ 16777216) : okS (Txt.join y l) := by
  rw [join_eq, okS_iff]
  have e : (Str.join y l).cps.toList = joinL (tl y) (l.map tl) := tl_join y l
  refine ⟨?_, fun c hc => ?_⟩
  · show (Str.join y l).cps.size ≤ _
    rw [← Array.length_toList, e, sizeLine_eq]
    refine Nat.le_trans joinL_len (Nat.le_trans (Nat.le_of_eq ?_) hz)
    rw [List.map_map, List.length_map, ← len_tl]
    congr 2
  · rw [e] at hc
    rcases joinL_mem hc with h | ⟨p, hp, h⟩
    · exact (okS_iff.mp hy).2 c h
    · obtain ⟨s, hs, rfl⟩ := List.mem_map.mp hp
      exact (okS_iff.mp (hl s hs)).2 c h
/-! ### the text of a number -/
theorem okS_int {i : Int} (h : i.natAbs.log2 < 1920) : okS (toString i) := by
  have hl : (Str.ofString (toString i)).length ≤ sizeLine := int_text_fits h
  rw [okS_iff]
  refine ⟨hl, fun c hc => ?_⟩
  have e : (Str.ofString (toString i)).cps.toList = (toString i).toList.map Char.toNat := by rw [Str.ofString_eq_toList]
  replace hc : c ∈ (Str.ofString (toString i)).cps.toList := hc
  rw [e] at hc
  obtain ⟨z, _, rfl⟩ := List.mem_map.mp hc
  have := z.valid
  have h2 : z.toNat.isValidChar := this
  unfold Nat.isValidChar at h2
  omega
section
variable {X : Cx} {e o a b : Expr} {es : List Expr} {pos p apos : Pos} {k j : Nat} {x m : Str} {t : DTA} {te ta tb : DTE} {ps : List Str} {R : DSp} {c : Nat} {W : WX}
/-- str(x) -/
def strD (d : D) (S : Sto) (Q : DQ) : Prop := match d with
  | .int i => i.natAbs.log2 < 1920 ∧ Q (.str (toString i)) S
  | .str s => Q (.str s) S
  | _ => False
theorem c_str : CallR X (.type "str") (liftC X.K (on1 strD)) := CallR.weak (CallR.or call_str_int SkE.call_str_str) (by
  rintro vs H Q ⟨G, S, ds, QD, rl, rs, h, kq⟩
  obtain ⟨d, v, rfl, rfl, rx, h⟩ := on1_of h rs
  cases rx with
  | int i => exact .inl ⟨i, rfl, h.1, kq _ _ _ _ _ (Stp.refl rl) (.str (okS_int h.1)) h.2⟩
  | str hs => exact .inr ⟨_, rfl, kq _ _ _ _ _ (Stp.refl rl) (.str hs) h⟩
  | _ => exact h.elim)
/-- f-strings -/
def fmtD (d : D) (S : Sto) (Q : DQ) : Prop := match d with
  | .int i => i.natAbs.log2 < 1920 ∧ Q (.str (toString i)) S
  | .str s => Q (.str s) S
  | _ => False
def dFmt (t : DTE) : DTE := dUn fmtD t
theorem de_fmt (h : PD X e te) : PD X (.FormattedValue e (-1) none pos) (dFmt te) := ⟨fun W tk => PE.weak (pe_fmt (h.run W tk)) (by
  rintro σ H Q ⟨G, δ, S, QD, XD, re, rl, h, kq, kx⟩
  refine ⟨G, δ, S, _, XD, re, rl, h, fun G1 H1 S1 x dx s1 rx q => ?_, kx⟩
  cases rx with
  | int i => exact .inr ⟨i, rfl, q.1, kq _ _ _ _ _ s1 (.str (okS_int q.1)) q.2⟩
  | str hs => exact .inl ⟨_, rfl, hs.1, kq _ _ _ _ _ s1 (.str hs) q⟩
  | _ => exact q.elim)⟩
def dJs : List DTE → Str → DS → Sto → (Str → Sto → Prop) → XQ → Prop
  | [], acc, _, S, Q, _ => Q acc S
  | t :: ts, acc, δ, S, Q, X => t δ S (fun x S1 => match x with
    | .str y => (acc.length + y.length ≤ sizeLine) ∧ dJs ts (acc ++ y) δ S1 Q X
    | _ => False) X
structure PDJ (X : Cx) (es : List Expr) (ts : List DTE) : Prop where
  run : ∀ W, L2N.Takes X W → ∃ us, PJ X es us ∧ ∀ acc, okS acc → ∀ σ H Q, (∃ G δ S QD XD, RpE X.K G σ δ ∧ Rel X.K G H S ∧ dJs ts acc δ S QD XD ∧ (∀ G' H' S' o, Stp X.K G H S G' H' S' → okS o → QD o S' → Q o H') ∧ KX X.K W σ G H S XD) → tJs us acc σ H Q
theorem dj_nil : PDJ X [] [] := ⟨fun W tk => ⟨[], .nil, fun acc ha σ H Q ⟨G, δ, S, QD, XD, re, rl, h, kq, kx⟩ => kq G H S acc (Stp.refl rl) ha h⟩⟩
theorem dj_cons {ts : List DTE} (h : PD X e te) (hr : PDJ X es ts) : PDJ X (e :: es) (te :: ts) := ⟨fun W tk => by
  obtain ⟨us, p, ih⟩ := hr.run W tk
  refine ⟨liftE X.K W te :: us, .cons (h.run W tk) p, fun acc ha σ H Q ⟨G, δ, S, QD, XD, re, rl, h, kq, kx⟩ => ?_⟩
  refine ⟨G, δ, S, _, XD, re, rl, h, fun G1 H1 S1 x dx s1 rx q => ?_, kx⟩
  cases rx with
  | str hs =>
    have ok := str_append ha hs q.1
    exact ⟨_, rfl, ok.1, ih _ ok σ H1 Q ⟨G1, δ, S1, QD, XD, re.mono s1.sg, s1.rel, q.2, fun G2 H2 S2 o s2 ho qo => kq _ _ _ _ (s1.trans s2) ho qo, kx.step s1⟩⟩
  | _ => exact q.elim⟩
def dJoined (ts : List DTE) : DTE := fun δ S Q X => dJs ts Str.empty δ S (fun o S1 => Q (.str o) S1) X
theorem de_joined {v1 v2 : Expr} {rest : List Expr} {ts : List DTE} (h : PDJ X (v1 :: v2 :: rest) ts) : PD X (.JoinedStr (v1 :: v2 :: rest) pos) (dJoined ts) := ⟨fun W tk => by
  obtain ⟨us, p, ih⟩ := h.run W tk
  refine PE.weak (pe_joined p) fun σ H Q ⟨G, δ, S, QD, XD, re, rl, h, kq, kx⟩ => ?_
  exact ih _ okS_empty σ H _ ⟨G, δ, S, _, XD, re, rl, h, fun G1 H1 S1 o s1 ho q => kq _ _ _ _ _ s1 (.str ho) q, kx⟩⟩
theorem de_joined1 (h : PD X e te) : PD X (.JoinedStr [e] pos) te := ⟨fun W tk => pe_joined1 (h.run W tk)⟩
/-- sep.join(xs) -/
def joinD : RCD := fun ds S Q => match ds with
  | [.str y, d] => vwk S d fun d' => (match d' with
    | .lst l => (match strsD l with
      | some ys => (ys.map (·.length)).sum + ys.length * y.length ≤ 16777216 ∧ Q (.str (Txt.join y ys)) S
      | none => False)
    | _ => False)
  | _ => False
theorem m_join : MtR X "str.join" (liftM X.K joinD) := MtR.weak mt_join (by
  rintro x xs H Q ⟨G, S, ds, QD, rl, rs, h, kq⟩
  unfold joinD at h
  split at h
  · rename_i y d
    cases rs with
    | cons r1 r2 =>
    cases r2 with
    | cons r2 r3 =>
    cases r3
    cases r1 with
    | str hy =>
    rw [vwk_is] at h
    split at h
    · rename_i l ed
      split at h
      · rename_i ys el
        obtain ⟨a, vs, rfl, ha, rv, _⟩ := vw_lst rl r2 ed
        obtain ⟨rfl, hok⟩ := strsD_rps rv el
        exact ⟨y, a, ys, rfl, rfl, .inl (SqL.of ha), h.1, kq _ _ _ _ _ (Stp.refl rl) (.str (okS_join hy hok h.1)) h.2⟩
      · exact h.elim
    · exact h.elim
  · exact h.elim)
end
end SM

set_option Elab.async false
set_option linter.all false
set_option maxRecDepth 100000
set_option maxHeartbeats 2000000
namespace PySem.W
open PySem
section
variable {prog : Program} {w : World} {A : Around} {E : Value → Shared → Prop} {s : Shared} {K : Frag} {x C L f : Addr} {h₀ : Heap} {m : Str → Option Value} {ox : Obj} {od : Option Obj}
theorem sm_bool {Q : Value → Shared → Prop} (h : wpAny (model prog w) A.in1.in1 (truthy (.ref x)) (fun b s' => Q (.bool b) s') E s) : wpAny (model prog w) A (call (.type "bool") [.ref x]) Q E s := by
  refine callType_codes (T := "bool") (Bi := Builtin.«object.__init__») (Q₁ := fun r s1 => ∃ b, r = .bool b ∧ Q r s1) PySem.F.called_bool (PySem.F.typeCall_bool_1 _) PySem.F.entry_object_init ?_ ?_
  · refine codeAny_of_tree ?_
    show wpAny _ A.in1.in1 (do checkBuiltinCall "bool.__new__" ⟨[.type "bool", .ref x], []⟩; again (.builtin "bool.__new__" ⟨[.type "bool", .ref x], []⟩)) _ _ s
    refine wpAny_bind (wpAny_of_eq (PySem.F.newCall_bool_1 _) (wpAny_pure ⟨plainId_quiet (by decide +kernel) _, codeAny_builtin PySem.F.entry_bool_new ?_⟩))
    rw [Around.under_plainId (by decide +kernel) _]
    unfold Builtin.«bool.__new__»
    have f1 := F.conv_sub_bool
    repeat (any_goals (first | assumption | (with_reducible refine wpAny_mono h (fun b s' q => ?_) (fun _ _ e => ?_)) | wp_step))
    all_goals first | exact ⟨_, rfl, _, rfl, q⟩ | exact ⟨_, rfl, q⟩ | exact e | trace_state
  · rintro obj s1 ⟨b, rfl, hq⟩
    exact ⟨rfl, PySem.F.args_object_init_2 _ _, object_init_meets PySem.F.called_bool.init.lookup PySem.F.called_bool.made (by decide) prog w A.in1 _ s1 ⟨rfl, rfl, hq⟩⟩
end
end PySem.W
namespace SM
open PySem PySem.Spec PyProof.Rows L2
variable {K : PySem.W.Frag} {G G' G2 H H' H2 : Hp} {S S' S2 : Sto}
section
variable {X : Cx} {e o a b : Expr} {es : List Expr} {pos p apos : Pos} {k j : Nat} {x m : Str} {t : DTA} {te ta tb : DTE} {ps : List Str} {R : DSp} {c : Nat} {W : WX}
/-! bool(o) -/
@[irreducible] def boolI (c : Nat) (R : DSp) : D → Sto → DQ → Prop := fun d S Q => ownI c R [d] S fun v S' => match v with
  | .bl n => Q (.bl n) S'
  | _ => False
theorem c_boolI (F : Go X.prog X.w X.K X.mg X.base k c "__bool__" ps R) (hr : Room j X.A) (hkj : k + 2 ≤ j := by decide) : CallR X (.type "bool") (liftC X.K (on1 (boolI c R))) := by
  obtain ⟨f, fd, F1, hb, M⟩ := F.ex
  intro pins s σ H vs us Q I r h
  obtain ⟨G, S, ds, QD, rl, rs, h, kq⟩ := h
  obtain ⟨d, v, rfl, rfl, rx, h⟩ := on1_of h rs
  obtain ⟨u, rfl, ru⟩ := vals1 r
  simp only [boolI, ownI, vwk_is] at h
  split at h
  · rename_i c' fs ex
    obtain ⟨rfl, h2⟩ := h
    obtain ⟨a, ox, od, rfl, rfl, J⟩ := own_at I rl rx ru ex
    obtain ⟨m, hF⟩ := I.fr
    have hr2 := (hr.mono hkj).in1.in1
    refine PySem.W.sm_bool (PySem.W.truthy_K hF I.ok.mod.kin J M.at_ M.fn ?_)
    refine wpAny_mono (run_own (vs := [.ref a]) (Q := fun v H' => ∃ n, v = .bl n ∧ Q (.bl n) H') F1 hb hr2 rfl I r rl rs h2 fun G' H' S' v d s1 r1 q => ?_) (fun z s' hz => ?_) fun _ _ e => e
    · cases r1 with
      | bl n => exact ⟨n, rfl, kq _ _ _ _ _ s1 (.bl n) q⟩
      | _ => exact q.elim
    · obtain ⟨v, H', I', rz, n, rfl, q⟩ := hz
      obtain rfl : z = Value.bool n := rz
      exact ⟨.bl n, H', I', rfl, q⟩
  · exact h.elim
def fnGetB (K : PySem.W.Frag) (c : Nat) : Bool := PySem.W.fnIn K (He.ma K (cad K c) "__getitem__") && He.eqO (PySem.W.findIn K (.ref (cad K c)) "__getitem__") (some (some (.ref (He.ma K (cad K c) "__getitem__"))))
theorem fnGet_of (h : fnGetB K c = true) : ∀ f, Meth K (cad K c) "__getitem__" f → PySem.W.fnIn K f = true := by
  intro f M
  unfold fnGetB at h
  rw [Bool.and_eq_true] at h
  have e := He.eqO_ok h.2
  rw [M.at_] at e
  cases e
  exact h.1
end
end SM

set_option Elab.async false
set_option linter.all false
set_option maxRecDepth 100000
set_option maxHeartbeats 2000000
namespace SM
open PySem PySem.Spec PyProof.Rows L2
variable {K : PySem.W.Frag} {G G' G2 H H' H2 : Hp} {S S' S2 : Sto}
section
variable {X : Cx} {e o a b : Expr} {es : List Expr} {pos p apos : Pos} {k j : Nat} {x m : Str} {t : DTA} {te ta tb : DTE} {ps : List Str} {R : DSp} {c : Nat} {W : WX}
/-! ### a value that is handed over: what stands in the store is frozen -/
def fzD (d : D) (S : Sto) (Q : DQ) : Prop := match d with
  | .adr a => ownk S a fun oo => (match oo with
    | some (.lst ds) => Q (.lst ds) (sd S a)
    | some (.dT ds) => Q (.dT ds) (sd S a)
    | some (.ins c ds) => Q (.ins c ds) (sd S a)
    | none => False)
  | d => Q d S
def dFz (te : DTE) : DTE := fun δ S Q X => te δ S (fun d S1 => fzD d S1 Q) X
theorem de_fz (h : PD X e te) : PD X e (dFz te) := ⟨fun W tk => PE.weak (h.run W tk) (by
  rintro σ H Q ⟨G, δ, S, QD, XD, re, rl, h, kq, kx⟩
  refine ⟨G, δ, S, _, XD, re, rl, h, fun G1 H1 S1 v d s1 rv q => ?_, kx⟩
  cases rv with
  | adr a =>
    simp only [fzD, ownk_is] at q
    split at q
    · rename_i ds e
      obtain ⟨G', s2, r2⟩ := frz_lst s1.rel e
      exact kq _ _ _ _ _ (s1.trans s2) r2 q
    · rename_i ds e
      obtain ⟨G', s2, r2⟩ := frz_dT s1.rel e
      exact kq _ _ _ _ _ (s1.trans s2) r2 q
    · rename_i c ds e
      obtain ⟨G', s2, r2⟩ := frz_ins s1.rel e
      exact kq _ _ _ _ _ (s1.trans s2) r2 q
    · exact q.elim
  | non => exact kq _ _ _ _ _ s1 .non q
  | bl b => exact kq _ _ _ _ _ s1 (.bl b) q
  | int b => exact kq _ _ _ _ _ s1 (.int b) q
  | str b => exact kq _ _ _ _ _ s1 (.str b) q
  | ty b => exact kq _ _ _ _ _ s1 (.ty b) q
  | tup a b c => exact kq _ _ _ _ _ s1 (.tup a b c) q
  | lst a b c => exact kq _ _ _ _ _ s1 (.lst a b c) q
  | dT a b => exact kq _ _ _ _ _ s1 (.dT a b) q
  | ins a b c => exact kq _ _ _ _ _ s1 (.ins a b c) q
  | cls c h => exact kq _ _ _ _ _ s1 (.cls c h) q
  | exn0 c => exact kq _ _ _ _ _ s1 (.exn0 c) q
  | exn a b c d => exact kq _ _ _ _ _ s1 (.exn a b c d) q)⟩
end
/-! ### lengths of texts -/
theorem slen_app (x y : Str) : (x ++ y).length = x.length + y.length := by
  show (x.cps ++ y.cps).size = x.cps.size + y.cps.size
  rw [Array.size_append]
theorem sempty_app (x : Str) : Str.empty ++ x = x := by
  show (⟨#[] ++ x.cps⟩ : Str) = x
  rw [Array.empty_append]
theorem strsD_map {α : Type} (f : α → Str) : ∀ l : List α, strsD (l.map fun c => .str (f c)) = some (l.map f)
  | [] => rfl
  | c :: r => by rw [List.map_cons, strsD, strsD_map f r]; rfl
theorem sum_le {α : Type} (f : α → Nat) (n : Nat) : ∀ l : List α, (∀ x ∈ l, f x ≤ n) → (l.map f).sum ≤ l.length * n
  | [], _ => by simp
  | x :: r, h => by
    have h1 := sum_le f n r fun y hy => h y (List.mem_cons_of_mem _ hy)
    have h2 := h x (List.mem_cons_self ..)
    rw [List.map_cons, List.sum_cons, List.length_cons, Nat.add_mul, Nat.one_mul]
    omega
/-- a new list of the store is frozen at once -/
theorem fz_new {S : Sto} {p : Addr} {ds : List D} {Q : DQ} (h : S p = none) (q : Q (.lst ds) S) : fzD (.adr p) (su S p (.lst ds)) Q := by
  refine ok_o su_same ?_
  show Q (.lst ds) (sd (su S p (.lst ds)) p)
  rw [sd_su_new h]
  exact q
end SM

set_option Elab.async false
set_option linter.all false
set_option maxRecDepth 100000
set_option maxHeartbeats 2000000
namespace SM
open PySem PySem.Spec PyProof.Rows L2
variable {K : PySem.W.Frag} {G G' G2 H H' H2 : Hp} {S S' S2 : Sto}
/-! ### an exception's own __init__: self.f = f, .. -/
def spE (C : Addr) (fls : List Str) : Sp := fun vs H Q _ => ∃ a ws, vs = .ref a :: ws ∧ ws.length = fls.length ∧ H a = some (exo a C none) ∧
  ∀ H' d fs, H' a = some (exo a C (some d)) → H' d = some (exd d fs) → H d = none → d ≠ a → (∀ b, b ≠ a → b ≠ d → H' b = H b) → (∀ (j : Nat) (fl : Str) (v : V), fls[j]? = some fl → ws[j]? = some v → fs.lookup fl = some v) → Q .non H'
section
variable {P : Program} {w : World} {mg : Str → Option Value} {base : Heap} {qual : Str} {params : Arguments} {scope : Scope} {f : Addr} {fd : FuncData} {c : Nat} {x y : Str} {p1 p2 p3 p4 q1 q2 q3 q4 : Pos}
theorem fnE1 (F : FunD K "__init__" qual params [.Assign [.Attribute (.Name "self" p1) x p2] (.Name x p3) p4] scope [] [] f fd) (Sc : FnScope ["self", x] ["self", x] scope) (T : OexC K (cad K c)) (n1 : PySem.W.findIn K (.ref (cad K c)) x = some none)
    (d1 : (x == ("__debug__" : Str)) = false := by decide) (d2 : (x == ("__classdict__" : Str)) = false := by decide) : FnOk P w K mg base (L2N.CX P w) 1 f fd ["self", x] (spE (cad K c) [x]) := by
  refine F.ok Sc (fun vs H Q E h => ?_) (fun cdv A outer s H vs Q E hr h => ?_)
  · obtain ⟨a, ws, rfl, hl, _⟩ := h
    simp only [List.length_cons, hl, List.length_nil]
  · have v0 := Sc.par "self" (by simp)
    have v1 := Sc.par x (by simp)
    refine ⟨_, pss_one (ps_ost (pe_var (i := 0) rfl (by rcases v0 with h | h; exact .inl h; exact .inr (.inl h)) (by decide) (by decide)) (pe_var (i := 1) rfl (by rcases v1 with h | h; exact .inl h; exact .inr (.inl h)) d1 d2)), ?_⟩
    obtain ⟨a, ws, rfl, hl, ha, q⟩ := h
    match ws, hl with
    | [v], _ =>
      refine ⟨v, rfl, .ref a, rfl, a, _, rfl, T, n1, .inl ⟨ha, fun dx hn hne => ?_⟩⟩
      refine q _ dx [(x, v)] upd_same (by rw [upd_ne hne, upd_same]) hn hne (fun b h1 h2 => by rw [upd_ne h1, upd_ne h2]) fun j fl u hj hv => ?_
      match j, hj, hv with
      | 0, hj, hv =>
        simp at hj hv
        subst hj hv
        simp
theorem fnE2 (F : FunD K "__init__" qual params [.Assign [.Attribute (.Name "self" p1) x p2] (.Name x p3) p4, .Assign [.Attribute (.Name "self" q1) y q2] (.Name y q3) q4] scope [] [] f fd) (Sc : FnScope ["self", x, y] ["self", x, y] scope) (T : OexC K (cad K c)) (n1 : PySem.W.findIn K (.ref (cad K c)) x = some none) (n2 : PySem.W.findIn K (.ref (cad K c)) y = some none) (hxy : x ≠ y)
    (d1 : (x == ("__debug__" : Str)) = false := by decide) (d2 : (x == ("__classdict__" : Str)) = false := by decide) (d3 : (y == ("__debug__" : Str)) = false := by decide) (d4 : (y == ("__classdict__" : Str)) = false := by decide) : FnOk P w K mg base (L2N.CX P w) 1 f fd ["self", x, y] (spE (cad K c) [x, y]) := by
  refine F.ok Sc (fun vs H Q E h => ?_) (fun cdv A outer s H vs Q E hr h => ?_)
  · obtain ⟨a, ws, rfl, hl, _⟩ := h
    simp only [List.length_cons, hl, List.length_nil]
  · have v0 := Sc.par "self" (by simp)
    have v1 := Sc.par x (by simp)
    have v2 := Sc.par y (by simp)
    have g0 : Vis scope "self" := by rcases v0 with h | h; exact .inl h; exact .inr (.inl h)
    refine ⟨_, pss_cons (ps_ost (pe_var (i := 0) rfl g0 (by decide) (by decide)) (pe_var (i := 1) rfl (by rcases v1 with h | h; exact .inl h; exact .inr (.inl h)) d1 d2)) (pss_one (ps_ost (pe_var (i := 0) rfl g0 (by decide) (by decide)) (pe_var (i := 2) rfl (by rcases v2 with h | h; exact .inl h; exact .inr (.inl h)) d3 d4))), ?_⟩
    obtain ⟨a, ws, rfl, hl, ha, q⟩ := h
    match ws, hl with
    | [v, u], _ =>
      refine ⟨v, rfl, .ref a, rfl, a, _, rfl, T, n1, .inl ⟨ha, fun dx hn hne => ?_⟩⟩
      refine ⟨u, rfl, .ref a, rfl, a, _, rfl, T, n2, .inr ⟨dx, _, upd_same, (by rw [upd_ne hne, upd_same]), (by simp), ?_⟩⟩
      refine q _ dx [(y, u), (x, v)] (by rw [upd_ne (Ne.symm hne), upd_same]) upd_same hn hne (fun b h1 h2 => by rw [upd_ne h2, upd_ne h1, upd_ne h2]) fun j fl z hj hv => ?_
      match j, hj, hv with
      | 0, hj, hv =>
        simp at hj hv
        subst hj hv
        have e : (x == y) = false := beq_eq_false_iff_ne.mpr hxy
        simp [List.lookup, e]
      | 1, hj, hv =>
        simp at hj hv
        subst hj hv
        simp
end
theorem cx_no {P : Program} {w : World} {outer : List Env} {H : Hp} {s s' : Shared} {e : Value} (z : L2N.CX P w outer H s (fun _ _ _ => False) e s') : False := by
  obtain ⟨_, _, _, _, _, _, _, _, _, _, _, _, z⟩ := z
  exact z
/-- the class of an exception, its __init__ -/
structure Gx (P : Program) (w : World) (K : PySem.W.Frag) (mg : Str → Option Value) (base : Heap) (c : Nat) (x : Str) : Prop where
  ex : ∃ f fd ps, FnOk P w K mg base (L2N.CX P w) 1 f fd ps (spE (cad K c) (cfs c)) ∧ OexC K (cad K c) ∧ PySem.W.findIn K (.ref (cad K c)) "__init__" = some (some (.ref f)) ∧ PySem.W.typeIn K (.ref f) = some (.type "function") ∧ Binds K fd ps [] ∧ mg x = some (.ref (cad K c))
/-- an own exception class's instance, made where nothing is handled: its context is None -/
theorem pmkN {X : Cx} {CX : CXT} {x : Str} {C fI : Addr} {k : Nat} {fd : FuncData} {ps : List Str} {sp : Sp} {e : Expr} {es : List Expr} {ta : TA} {p pos : Pos} (T : OexC X.K C) (iC : PySem.W.findIn X.K (.ref C) "__init__" = some (some (.ref fI)))
    (tI : PySem.W.typeIn X.K (.ref fI) = some (.type "function")) (F1 : FnOk X.prog X.w X.K X.mg X.base CX k fI fd ps sp) (hr : Room (k + 1) X.A) (hb : Binds X.K fd ps []) (hx : Passes CX X (fun _ _ _ => False)) (hg : Gl X x) (hm : X.mg x = some (.ref C)) (ha : PA X (e :: es) ta)
    (hdb : (x == ("__debug__" : Str)) = false := by decide) (he : starEach (e :: es) X.env = (false, eval e X.env) :: starEach es X.env := by rfl) (hpl : (backTo pos (starEach es X.env)).any (·.1) = false := by rfl) :
    L2N.PMk X (.Call (.Name x p) (e :: es) [] pos) (tMkO C sp [] ta) := by
  intro pins s σ H Q I h
  obtain ⟨nm, q, N, bs, bm, sn, sub, ab, col, dd, k0, k1, k2, k3, k5, hC, hbm⟩ := T.cls
  refine wpAny_Call_Name_kw (ld_glob I hg hm ?_ hdb)
  refine PySem.W.callWith_K (h₀ := X.base) I.ok.mod.kin T.kC (thn (ha.run pos pins s σ H _ I h) ?_) he hpl
  rintro us s1 ⟨vs, H1, I1, r1, hz, q1⟩
  refine ⟨I1.kIn, ?_⟩
  show wpAny _ _ (call (.ref C) us) _ _ _
  obtain ⟨hp, g, dr, tk, os⟩ := s1
  generalize hn1 : hp.objs.size + 1 = n1
  have hsz : hp.objs.size ≤ n1 := by omega
  have hq := q1 n1 (I1.hok.fresh hsz)
  rw [List.append_nil] at hq
  generalize hh2 : (hp.push (PySem.W.kdv_tup us)).push (PySem.HandSPX.excO C hp.objs.size) = hp2
  have kk : ∀ b o, hp.get? b = some o → hp2.get? b = some o := by
    subst hh2
    exact fun b o e => Heap.get?_push_of_some _ (Heap.get?_push_of_some _ e)
  have hget : hp2.get? n1 = some (PySem.HandSPX.excO C hp.objs.size) := by
    subst hh2 hn1
    heap_get
  have I2 : Inv X pins σ (upd H1 n1 (exo n1 C none)) ⟨hp2, g, dr, tk, os⟩ := I1.laid (t' := tk) kk hsz (exo_ok hget)
  have r2 : Vals (V.ref n1 :: vs) (Value.ref n1 :: us) := .cons rfl r1
  have hl : (Value.ref n1 :: us ++ []).length = ps.length := by
    rw [List.append_nil, ← r2.length]
    exact F1.len _ _ _ _ hq
  have hus : us.length ≤ sizeLine := by
    rw [← Paired.length r1, sizeLine_eq]
    omega
  subst hh2 hn1
  refine wpAny_call (PySem.HandSPX.call_own F.excBase_ValueError (fun Y => PySem.HandSPX.refsVE_contains Y bm hbm) (I1.kIn _ _ hC) (PySem.W.looks_findIn I1.kIn iC) (fun self => PySem.W.bind_fn I1.kIn self tI) hus ?_)
  refine codeAny_mono (F1.run _ X.stack _ _ ⟨_ :: us, []⟩ (Value.ref (hp.objs.size + 1) :: us ++ []) _ _ (fun _ _ _ => False) (hr.make C us []) (I2.env0.make C us []) (hb _ (_ :: us) I2.kIn hl) (by rw [List.append_nil]; exact r2) hq) ?_
  intro r s' hq'
  match r, hq' with
  | .error er, hq' => exact hx pins σ _ _ er s' I2 hq'
  | .ok (.ret u), hq' =>
    obtain ⟨v, H2, os2, bare2, un2, hok2, rv, ev, d, fs, ea, ed, hd1, q2⟩ := hq'
    subst ev
    obtain ⟨h2, g2, d2, t2, os'⟩ := s'
    obtain ⟨t0, G, J, kG, ge, hoe, na⟩ := mk_end0 (d2 := d2) (t2 := t2) I1 hsz kk un2 hok2 os2 bare2 ea ed hd1
    refine ⟨rv, _, _, _, ⟨G, g2, d2, t2, os'⟩, _, .ref C, some d, rfl, J, kG, ge, hoe, ⟨rfl, rfl, fun vs e => ?_⟩, rfl, rfl, na, rfl, bare2, raises_own T.exC T.tyC, q2⟩
    cases e
    rfl
section
variable {X : Cx} {e : Expr} {es : List Expr} {pos p pos' : Pos} {k j : Nat} {x : Str} {t : DTA} {c : Nat} {W : WX}
/-- raise C(e, ..) -/
def dRaise (c : Nat) (t : DTA) : DTS := fun E δ S => t δ S (fun ds S1 => ds.length = (cfs c).length ∧ E.xc ⟨c, ds⟩ δ S1) (fun x S1 => E.xc x δ S1)
theorem ds_raise (F : Gx X.prog X.w X.K X.mg X.base c x) (hr : Room j X.A) (hc : X.calm = true) (hg : Gl X x) (ha : PDA X (e :: es) t) (hkj : 2 ≤ j := by decide) (hl9 : (cfs c).length ≤ 900 := by decide) (hdb : (x == ("__debug__" : Str)) = false := by decide) (he : starEach (e :: es) X.env = (false, eval e X.env) :: starEach es X.env := by rfl) (hpl : (backTo pos (starEach es X.env)).any (·.1) = false := by rfl) :
    PDS X (.Raise (some (.Call (.Name x p) (e :: es) [] pos)) none pos') (dRaise c t) := ⟨fun W tk po => by
  obtain ⟨f, fd, ps, F1, T, iC, tI, hb, hm⟩ := F.ex
  refine PS.weak (L2N.ps_raise hc tk (pmkN T iC tI F1 (hr.mono hkj) hb (fun pins σ H s e s' I z => (cx_no z).elim) hg hm (ha.run W tk) hdb he hpl)) ?_
  rintro D σ H ⟨G, δ, S, E, re, rl, h, er⟩
  refine ⟨G, δ, S, _, _, re, rl, h, fun G1 H1 S1 vs ds s1 rs q => ?_, er.kx re⟩
  obtain ⟨hl, q⟩ := q
  refine ⟨by rw [rs.length, hl]; omega, fun a na => ?_⟩
  rw [List.append_nil]
  refine ⟨a, vs, rfl, by rw [rs.length, hl], upd_same, fun H' d fs h1 h2 hn hne hk hlk => ⟨rfl, d, fs, h1, h2, by rw [upd_ne hne] at hn; exact hn, ?_⟩⟩
  have hn1 : H1 d = none := by rw [upd_ne hne] at hn; exact hn
  have eH : upd (del H' a) d (.xd fs) = upd H1 d (.xd fs) := by
    funext b
    by_cases hb1 : b = d
    · subst hb1; rw [upd_same, upd_same]
    · rw [upd_ne hb1, upd_ne hb1]
      by_cases hb2 : b = a
      · subst hb2; rw [del_same, na]
      · rw [del_ne hb2, hk b hb2 hb1, upd_ne hb2]
  rw [eH]
  have s2 : Stp X.K G1 H1 S1 (upd G1 d (.xd fs)) (upd H1 d (.xd fs)) S1 := Stp.newF s1.rel hn1
  exact er.xc _ _ _ σ δ _ _ ⟨c, ds⟩ (s1.trans s2) ((re.mono s1.sg).mono s2.sg) ⟨rfl, .inr ⟨d, fs, vs, rfl, upd_same, rs.mono s2.sg, hl, hlk⟩⟩ q⟩
end
end SM

set_option Elab.async false
set_option linter.all false
set_option maxRecDepth 100000
set_option maxHeartbeats 2000000
namespace PySem.W
open PySem
section
variable {prog : Program} {w : World} {M : Model} {A : Around} {E : Value → Shared → Prop} {s : Shared} {K : Frag} {x C L f : Addr} {h₀ : Heap} {m : Str → Option Value} {ox : Obj} {od : Option Obj} {nm : String}
/-- C has no method op= -/
theorem sm_noI {h : Heap} {cd : ClassData} {add : Bool} (X : K.In h) (hc : clsIn K C = some cd) (hm : cd.mro = [.ref C, .type "object"]) (h1 : findIn K (.ref C) (dunderI nm) = some none) (h2 : findIn K (.type "object") (dunderI nm) = some none) : Looks M h (fillsInplaceSlot (.ref C) nm add) false := by
  intro A Q E s k q
  have Lm := ((looks_clsIn (M := M) X hc).andThen (f := fun cd => pure cd.mro) .now).keeps k
  obtain ⟨hh, g, d, tt, os⟩ := s
  have X' : K.In hh := X.keeps k
  have L1 := looks_findIn (M := M) X' h1
  have L2 := looks_findIn (M := M) X' h2
  unfold fillsInplaceSlot
  refine wpAny_bind (Lm.at ?_)
  simp only [hm, List.anyM_cons]
  refine wpAny_bind ?_
  repeat lk
  exact q
theorem sm_inplace {op : Operator} {b : Value} {cd : ClassData} {Q : Value → Shared → Prop} (X : K.In s.heap) (I : InstAt s.heap x ox C od) (hb : Looks (model prog w) s.heap (typeOf b) (.ref C)) (hc : clsIn K C = some cd) (hm : cd.mro = [.ref C, .type "object"])
    (h1 : findIn K (.ref C) (dunderI op.info.2) = some none) (h2 : findIn K (.type "object") (dunderI op.info.2) = some none) (hs : findIn K (.ref C) (PySem.dunder op.info.2) = some (some (.ref f))) (hf : isFn K (.ref f) = true)
    (h : wpAny (model prog w) A (call (.ref f) [.ref x, b]) (CmpBack Q) E s) : wpAny (model prog w) A (inplaceOp op (.ref x) b) Q E s := by
  have one := ksp_try X I hs hf h
  obtain ⟨hh, g, d, tt, os⟩ := s
  have L1 := I.type (M := model prog w)
  have L2 : Looks (model prog w) hh (fillsInplaceSlot (.ref C) op.info.2 (op == .Add)) false := sm_noI X hc hm h1 h2
  have L3 : Looks (model prog w) hh (fillsNumberSlot (.ref C) op.info.2) true := fills_K X hc hm hs
  unfold inplaceOp
  refine wpAny_holding (wpAny_bind (L1.at (wpAny_bind (L2.at ?_))))
  simp only [Bool.false_eq_true, if_false]
  refine wpAny_bind ?_
  unfold binaryOp1
  refine wpAny_bind (L1.at (wpAny_bind (hb.at (wpAny_bind (L3.at ?_)))))
  simp only [beq_self_eq_true, if_true]
  ksp_lk
  refine wpAny_mono one (fun r s' hr' => ?_) fun _ _ e => e
  obtain ⟨v, rfl, hq⟩ := hr'
  ksp_lk
  exact hq
end
end PySem.W
namespace SM
open PySem PySem.Spec PyProof.Rows L2
variable {K : PySem.W.Frag} {G G' G2 H H' H2 : Hp} {S S' S2 : Sto}
section
variable {X : Cx} {e o a b : Expr} {es : List Expr} {pos p pos' p1 p2 p3 : Pos} {k j : Nat} {x m : Str} {t : DTA} {te ta tb : DTE} {ps : List Str} {R : DSp} {c : Nat} {W : WX}
/-! ### x op= e -/
def dAug (i : Nat) (r : R2D) (te : DTE) : DTS := fun E δ S => match nth δ i with
  | some x => te δ S (fun y S1 => r x y S1 (fun z S2 => E.nx (put δ i z) S2)) (fun x S1 => E.xc x δ S1)
  | none => False
theorem ds_aug {i : Nat} {op : Operator} {r : R2D} (hN : X.N.Nodup) (he : PD X e te) (ho : PIp X op (lift2 X.K r)) (hi : X.N[i]? = some x := by rfl) (hx : Loc X.env.scope x := by first | exact .inl rfl | exact .inr rfl)
    (hf : X.fn x = true ∨ X.env.scope.names.lookup x = some .local := by first | exact .inl rfl | exact .inr rfl | assumption) : PDS X (.AugAssign (.Name x pos') op e pos) (dAug i r te) := ⟨fun W tk po => PS.weak (ps_aug hN hi hx (he.run W tk) ho hf) (by
  rintro D σ H ⟨G, δ, S, E, re, rl, h, er⟩
  unfold dAug at h
  cases q : nth δ i with
  | none => rw [q] at h; exact h.elim
  | some dx =>
    rw [q] at h
    obtain ⟨v, h1, h2⟩ := re.at_ i dx q
    refine ⟨v, h1, G, δ, S, _, _, re, rl, h, fun G1 H1 S1 y dy s1 ry q1 => ?_, er.kx re⟩
    exact ⟨G1, S1, dx, dy, _, s1.rel, h2.mono s1.sg, ry, q1, fun G2 H2 S2 z dz s2 rz q2 => er.nx _ _ _ _ _ (s1.trans s2) (((re.mono s1.sg).mono s2.sg).put i rz) q2⟩)⟩
/-- own op= by op -/
structure NoI (K : PySem.W.Frag) (c : Nat) (op : Operator) : Prop where
  ex : ∃ cd, PySem.W.clsIn K (cad K c) = some cd ∧ cd.mro = [.ref (cad K c), .type "object"]
  h1 : PySem.W.findIn K (.ref (cad K c)) (PySem.dunderI op.info.2) = some none
  h2 : PySem.W.findIn K (.type "object") (PySem.dunderI op.info.2) = some none
def noIB (K : PySem.W.Frag) (c : Nat) (op : Operator) : Bool := (match PySem.W.clsIn K (cad K c) with
  | some cd => decide (cd.mro = [.ref (cad K c), .type "object"])
  | none => false) && (He.eqO (PySem.W.findIn K (.ref (cad K c)) (PySem.dunderI op.info.2)) (some none) && He.eqO (PySem.W.findIn K (.type "object") (PySem.dunderI op.info.2)) (some none))
theorem noI_of {op : Operator} (h : noIB K c op = true) : NoI K c op := by
  unfold noIB at h
  simp only [Bool.and_eq_true] at h
  obtain ⟨h0, h1, h2⟩ := h
  refine ⟨?_, He.eqO_ok h1, He.eqO_ok h2⟩
  split at h0
  · rename_i cd e
    exact ⟨cd, e, of_decide_eq_true h0⟩
  · cases h0
theorem ip_opG {op : Operator} (F : Go X.prog X.w X.K X.mg X.base k c (PySem.dunder op.info.2) ps R) (ni : NoI X.K c op) (hr : Room j X.A) (hkj : k ≤ j := by decide) : PIp X op (lift2 X.K (opI c R)) := by
  obtain ⟨f, fd, F1, hb, M⟩ := F.ex
  rintro pins s σ H x y u v Q I rx ry ⟨G, S, dx, dy, QD, rl, r1, r2, h, kq⟩
  simp only [opI, vwk_is] at h
  split at h
  · rename_i c' fs ex
    obtain ⟨rfl, h⟩ := h
    split at h
    · rename_i c2 fs2 ey
      obtain ⟨rfl, h⟩ := h
      obtain ⟨a, ox, od, rfl, rfl, J⟩ := own_at I rl r1 rx ex
      obtain ⟨a2, ox2, od2, rfl, rfl, J2⟩ := own_at I rl r2 ry ey
      obtain ⟨cd, e1, e2⟩ := ni.ex
      refine PySem.W.sm_inplace I.kIn J J2.type e1 e2 ni.h1 ni.h2 M.at_ M.fn ?_
      refine wpAny_mono (run_own (vs := [.ref a, .ref a2]) (Q := fun v H' => Q v H' ∧ ∃ G d, Rp X.K G v d) F1 hb (hr.mono hkj) rfl I (.cons rfl (.cons rfl .nil)) rl (.cons r1 (.cons r2 .nil)) h fun G' H' S' v d s1 r1 q => ⟨kq _ _ _ _ _ s1 r1 q, _, _, r1⟩) (fun z s' hz => ?_) fun _ _ e => e
      obtain ⟨v, H', I', rz, q, G1, d1, rd⟩ := hz
      exact isNI rd rz _ _ ⟨v, H', I', rz, q⟩
    · exact h.elim
  · exact h.elim
/-! ### what is never reached -/
def dDead : DTS := fun _ _ _ => False
theorem ds_dead {st : Stmt} : PDS X st dDead := ⟨fun W tk po => ⟨fun pins s σ H D I h => by
  obtain ⟨_, _, _, _, _, _, h, _⟩ := h
  exact h.elim⟩⟩
/-! ### xs[::-1] -/
def dRev (te : DTE) : DTE := fun δ S Q X => te δ S (fun x S1 => vwk S1 x fun x' => match x' with
  | .lst l => Q (.lst l.reverse) S1
  | _ => False) X
theorem de_rev {kk : Nat} (h : PD X e te) : PD X (.Subscript e (.Slice none none (some (.UnaryOp .USub (.Constant (.int 1) kk p1) p2)) p3) pos) (dRev te) := ⟨fun W tk => PE.weak (pe_revL (h.run W tk)) (by
  rintro σ H Q ⟨G, δ, S, QD, XD, re, rl, h, kq, kx⟩
  refine ⟨G, δ, S, _, XD, re, rl, h, fun G1 H1 S1 v d s1 rv q => ?_, kx⟩
  rw [vwk_is] at q
  split at q
  · rename_i l ed
    obtain ⟨a, vs, rfl, ha, rs, hl⟩ := vw_lst s1.rel rv ed
    refine ⟨a, vs, rfl, SqL.of ha, fun p hp => ?_⟩
    obtain ⟨s2, r2⟩ := fz_lst s1.rel hp rs.reverse (by rw [List.length_reverse]; exact hl)
    exact kq _ _ _ _ _ (s1.trans s2) r2 q
  · exact q.elim)⟩
end
end SM

set_option Elab.async false
set_option linter.all false
set_option maxRecDepth 100000
set_option maxHeartbeats 2000000
namespace SM
open PySem PySem.Spec PyProof.Rows L2
variable {K : PySem.W.Frag} {G G' G2 H H' H2 : Hp} {S S' S2 : Sto}
/-! ### enumerate(text) -/
def Itse (z : Str) : It :=
  ⟨fun i _ => i < z.cps.size, fun i H v H' => ∃ T c, v = .ref T ∧ H T = none ∧ z.cps[i]? = some c ∧ H' = upd H T (.tup [.int (i : Nat), .str ⟨#[c]⟩]), fun i _ => z.cps.size ≤ i⟩
theorem str_draws {prog : Program} {w : World} {A : Around} (hh : A.handled = none) (it : Addr) (z : Str) (t : Tok) : Draws prog w A it [it] z.cps.size (fun i v => ∃ c u, z.cps[i]? = some c ∧ v = .str ⟨#[c]⟩ u) (fun i h => h.IsStrIter it (strIterType z) z t i) := by
  unfold strIterType
  split
  · exact Draws.strAscii hh it z t
  · exact Draws.strWide hh it z t
theorem turn_enumS {P : Program} {w : World} {K : PySem.W.Frag} {elts : List Expr} {kk : Nat} {tpos : Pos} (z : Str) (t : Tok) (e it : Addr) :
    Turn P w K (.Tuple elts kk tpos) (Itse z) [e, it] e (fun i h => ((∃ old, IsEnum h e it ((i : Nat) : Int) old) ∧ h.IsStrIter it (strIterType z) z t i) ∧ (e ≠ it ∧ i ≤ z.cps.size)) where
  mem := List.mem_cons_self ..
  obj := fun i h st b hb => by
    obtain ⟨⟨⟨old, he⟩, ⟨o, ho, hc, hd⟩⟩, _⟩ := st
    rcases (show b = e ∨ b = it by simpa using hb) with rfl | rfl
    · exact ⟨_, he, (fun v q => nomatch q)⟩
    · exact ⟨o, ho, fun v q => by rw [hd] at q; cases q⟩
  keep := fun i h h' st k => by
    obtain ⟨⟨⟨old, he⟩, ⟨o, ho, r⟩⟩, hn⟩ := st
    exact ⟨⟨⟨old, k e (by simp) _ he⟩, ⟨o, k it (by simp) o ho, r⟩⟩, hn⟩
  item := by
    intro X hP hw hK hc i pins s σ H E I hf st hg
    subst hP hw hK
    obtain ⟨⟨⟨old, he⟩, hit⟩, hne, hle⟩ := st
    have hg : i < z.cps.size := hg
    have hel := Heap.lt_size he
    have hil : it < s.heap.objs.size := by obtain ⟨_, q, _⟩ := hit; exact Heap.lt_size q
    have hh : X.A.in1.handled = none := I.ok.hd hc
    refine wpAny_pyNext_enum_itemD (str_draws hh it z t) he hit hg hne (by simpa using hne) fun x h' tk hx ho hit' hT hsz hk => ?_
    obtain ⟨c, u, hcx, rfl⟩ := hx
    refine ⟨_, rfl, wpAny_letOwnedTupleGo_enum (s := { s with heap := h', toks := tk + 1 }) ho fun h'' he' sb => ?_⟩
    have hT2 := (sb.2 _ (Nat.ne_of_gt hel)).trans hT
    have new : ObjOk X.prog X.w (upd H s.heap.objs.size (.tup [.int (i : Nat), .str ⟨#[c]⟩])) h'' s.heap.objs.size (.tup [.int (i : Nat), .str ⟨#[c]⟩]) := by
      refine ⟨by show 2 ≤ sizeLine; decide, [.int i tk, .str ⟨#[c]⟩ u], .cons ⟨tk, rfl⟩ (.cons ⟨u, rfl⟩ .nil), ⟨_, hT2, rfl, _, rfl⟩⟩
    have I1 := I.turnedNew (ch := [e, it]) (t' := tk + 1) (fun b ob hb q => (sb.2 b (fun y => hb (by simp [y]))).trans (hk b ob (fun y => hb (by simp [y])) (fun y => hb (by simp [y])) q)) hf (Nat.le_refl _) new
    refine ⟨.ref s.heap.objs.size, _, I1, rfl, ⟨_, c, rfl, I.hok.fresh (Nat.le_refl _), hcx, rfl⟩, ⟨⟨⟨_, by rw [show ((i + 1 : Nat) : Int) = (i : Int) + 1 by omega]; exact he'⟩, ?_⟩, hne, hg⟩, fun b hb => ?_⟩
    · obtain ⟨o, ho2, r⟩ := hit'
      exact ⟨o, (sb.2 it (Ne.symm hne)).trans ho2, r⟩
    · have hb' : b < s.heap.objs.size := by
        rcases (show b = e ∨ b = it by simpa using hb) with rfl | rfl <;> assumption
      rw [upd_ne (Nat.ne_of_lt hb')]
      exact (hf b hb).1
  done := by
    intro X hP hw hK hc i pins s σ H E I hf st hg
    subst hP hw hK
    obtain ⟨⟨⟨old, he⟩, hit⟩, hne, hle⟩ := st
    obtain rfl : i = z.cps.size := Nat.le_antisymm hle hg
    obtain ⟨f0, f1, f2, f3, f4, f5⟩ := hf it (by simp)
    have hh : X.A.in1.handled = none := I.ok.hd hc
    exact wpAny_pyNext_enum_endD (str_draws hh it z t) he hit fun h' eb => ⟨rfl, I.turned (t' := s.toks) (fun b o hb q => eb b o hb q) f0 f1 f3 f4 f5⟩
  self := fun A i s Q E st h => by
    obtain ⟨⟨⟨_, he⟩, _⟩, _⟩ := st
    exact wpAny_pyIter_enum he h
def iEnumS (ta : TA) : TI := fun σ H R => ta σ H fun vs H1 => ∃ z, vs = [.str z] ∧ R (Itse z) H1
section
variable {X : Cx} {e a b : Expr} {p pos tpos : Pos} {elts : List Expr} {kk : Nat} {t : DTA}
theorem pi_enumS {ta : TA} (hg : Gl X "enumerate") (hm : X.mg "enumerate" = none) (ha : PA X [e] ta) (hs : starEach [e] X.env = [(false, eval e X.env)] := by rfl) : PI X (.Tuple elts kk tpos) (.Call (.Name "enumerate" p) [e] [] pos) (iEnumS ta) := by
  constructor
  intro pins s σ H R I h
  refine Call_ (ld_blt I hg hm boot_enumerate (PyProof.Rows.callWith_type1 (thn (ha.run pos pins s σ H _ I h) fun us s1 hq => ?_) hs rfl))
  obtain ⟨vs, H1, I1, r1, z, rfl, q⟩ := hq
  obtain ⟨u, rfl, ru⟩ := vals1 r1
  obtain ⟨tk, rfl⟩ := ru
  refine call_enumerate_str fun h' he hit hsz hk => wpAny_pyIter_enum he ?_
  have I2 : Inv X pins σ H1 { s1 with heap := h' } := I1.kept (t' := s1.toks) hk
  refine ⟨s1.heap.objs.size + 1, [s1.heap.objs.size + 1, s1.heap.objs.size], _, _, H1, rfl, I2, turn_enumS z tk (s1.heap.objs.size + 1) s1.heap.objs.size, ⟨⟨⟨.none, he⟩, hit⟩, Nat.succ_ne_self _, Nat.zero_le _⟩, fun b hb => ?_, q⟩
  have hle : s1.heap.objs.size ≤ b := by
    rcases (show b = s1.heap.objs.size + 1 ∨ b = s1.heap.objs.size by simpa using hb) with rfl | rfl <;> omega
  exact I1.fpOk hle (I1.hok.fresh hle)
/-- the pairs -/
def enumS (z : Str) : List D := enumD 0 (z.cps.toList.map fun c => .str (one c))
def dEnumS (t : DTA) : DTI := fun δ S Q X => t δ S (fun ds S1 => match ds with
  | [.str z] => Q none (enumS z) S1
  | _ => False) X
theorem di_enumS (hg : Gl X "enumerate") (hm : X.mg "enumerate" = none) (ha : PDA X [e] t) (hs : starEach [e] X.env = [(false, eval e X.env)] := by rfl) : PDI X (.Tuple elts kk tpos) (.Call (.Name "enumerate" p) [e] [] pos) (dEnumS t) := ⟨fun W tk => PI.weak (pi_enumS hg hm (ha.run W tk) hs) (by
  rintro σ H R ⟨G, δ, S, QD, XD, re, rl, h, kq, kx⟩
  refine ⟨G, δ, S, _, XD, re, rl, h, fun G1 H1 S1 vs ds s1 rs q => ?_, kx⟩
  split at q
  · rename_i z
    cases rs with
    | cons r1 r2 =>
    cases r2
    cases r1 with
    | str hz =>
    have hl : (enumS z).length = z.cps.size := by unfold enumS; rw [enumD_len, List.length_map, Array.length_toList]
    refine ⟨z, rfl, kq _ _ _ _ none (enumS z) s1 ?_ (by rw [hl]; exact hz.1) q⟩
    intro G2 H2 S2 sg rl2 _ i
    rw [hl]
    refine ⟨fun hi => ⟨hi, fun x H3 yl => ?_⟩, fun hi => hi⟩
    obtain ⟨T, c, rfl, hT, hc, rfl⟩ := yl
    have s2 : Stp X.K G2 H2 S2 (upd G2 T (.tup [.int (i : Nat), .str ⟨#[c]⟩])) (upd H2 T (.tup [.int (i : Nat), .str ⟨#[c]⟩])) S2 := Stp.newF rl2 hT
    refine ⟨_, s2, fun d hd => ?_⟩
    obtain ⟨y, z1, z2⟩ := enumD_get 0 _ i d hd
    subst z2
    have h2 : z.cps.toList[i]? = some c := by rw [Array.getElem?_toList]; exact hc
    rw [List.getElem?_map, h2] at z1
    cases z1
    rw [Nat.zero_add]
    have okc : okS (one c) := by
      refine okS_sub (s := z) hz (fun q hq => ?_) ?_
      · have : q = c := by simpa [one] using hq
        subst this
        exact List.mem_of_getElem? h2
      · obtain ⟨h, _⟩ := Array.getElem?_eq_some_iff.mp hc
        show 1 ≤ z.cps.size
        omega
    exact .tup upd_same (.cons (.int _) (.cons (.str okc) .nil)) (by show 2 ≤ sizeLine; decide)
  · exact q.elim)⟩
end
end SM

set_option Elab.async false
set_option linter.all false
set_option maxRecDepth 100000
set_option maxHeartbeats 2000000
namespace SM
open PySem PySem.Spec PyProof.Rows L2
variable {K : PySem.W.Frag} {G G' G2 H H' H2 G0 H0 : Hp} {S S' S2 S0 : Sto}
/-! ### list comprehensions of two fors -/
def dLc2L (gd : Gd) (q : Pat) (tt : DTT) (ti1 : DTI) (q1 : Pat) (tt1 : DTT) (te : DTE) (vs1 : List Nat) (δ : DS) : List D → Sto → (List D → Sto → Prop) → Prop
  | [], S, Q => gok gd S ∧ Q [] S
  | x :: r, S, Q => gok gd S ∧ match bindP q x δ with
    | some δ2 => tt δ2 S (fun b S3 => brn b (ti1 δ2 S3 (fun gd1 ys S4 => ys.length ≤ 1000 ∧ dLcL gd1 q1 tt1 te (uns δ2 vs1) ys S4 (fun ds S5 => dLc2L gd q tt ti1 q1 tt1 te vs1 δ r S5 (fun ds' S6 => Q (ds ++ ds') S6))) noX) (dLc2L gd q tt ti1 q1 tt1 te vs1 δ r S3 Q)) noX
    | none => False
structure lc2K (gd : Gd) (q : Pat) (tt : DTT) (ti1 : DTI) (q1 : Pat) (tt1 : DTT) (te : DTE) (vs1 : List Nat) (δ : DS) (xs : List D) (S : Sto) (Q : List D → Sto → Prop) : Prop where
  it : xs.length ≤ 1000 ∧ dLc2L gd q tt ti1 q1 tt1 te vs1 δ xs S Q
theorem lc2K_is {gd : Gd} {q : Pat} {tt : DTT} {ti1 : DTI} {q1 : Pat} {tt1 : DTT} {te : DTE} {vs1 : List Nat} {δ : DS} {xs : List D} {S : Sto} {Q : List D → Sto → Prop} : lc2K gd q tt ti1 q1 tt1 te vs1 δ xs S Q = (xs.length ≤ 1000 ∧ dLc2L gd q tt ti1 q1 tt1 te vs1 δ xs S Q) := propext ⟨fun h => h.it, fun h => ⟨h⟩⟩
def dLc2 (ti : DTI) (q : Pat) (tt : DTT) (ti1 : DTI) (q1 : Pat) (tt1 : DTT) (te : DTE) (vs vs1 : List Nat) : DTE := fun δ S Q X => ti δ S (fun gd xs S1 => lc2K gd q tt ti1 q1 tt1 te vs1 (uns δ vs) xs S1 (fun ds S2 => Q (.lst ds) S2)) X
section
variable {W : WX}
theorem sim_lc2 {ti ti1 : DTI} {q q1 : Pat} {tt tt1 : DTT} {te : DTE} {vs vs1 : List Nat} (hq : ∀ i ∈ slots q, i ∈ vs) (hq1 : ∀ i ∈ slots q1, i ∈ vs1) :
    ∀ σ H Q, liftE K W (dLc2 ti q tt ti1 q1 tt1 te vs vs1) σ H Q → tLc2 (liftI K W ti) (pG K q) (liftT K W0 tt) (liftI K W0 ti1) (pG K q1) (liftT K W0 tt1) (liftE K W0 te) vs vs1 σ H Q := by
  rintro σ H Q ⟨G, δ, S, QD, XD, re, rl, h, kq, kx⟩
  unfold dLc2 at h
  simp only [lc2K_is] at h
  refine ⟨G, δ, S, _, XD, re, rl, h, fun G1 H1 S1 J gd xs s1 hJ hl hd A hA => ?_, kx⟩
  obtain ⟨hx1, hd⟩ := hd
  have fA := s1.rel.free hA
  have hz := sizeLine_eq
  refine ⟨fun i m H' => m = xs.length - i ∧ i ≤ xs.length ∧ ∃ G' S' acc, LcI K G1 H1 S1 A G' H' S' acc ∧ acc.length ≤ i * 1000 ∧ dLc2L gd q tt ti1 q1 tt1 te vs1 (uns δ vs) (xs.drop i) S' (fun ds S'' => QD (.lst (acc ++ ds)) S''),
    ⟨xs.length, by simp, by simp, G1, S1, [], ⟨Stp.newH s1.rel hA, ⟨[], upd_same, .nil⟩, fA.1, fA.2⟩, by simp, by simpa using hd⟩, ?_⟩
  rintro i m H' ⟨rfl, hi, G', S', acc, I, la, hd'⟩
  have hgd : gok gd S' := by
    cases q : xs.drop i with
    | nil => rw [q, dLc2L] at hd'; exact hd'.1
    | cons y z => rw [q, dLc2L] at hd'; exact hd'.1
  obtain ⟨h1, h2⟩ := hJ G' H' S' I.st.sg I.st.rel hgd i
  by_cases hlt : i < xs.length
  · obtain ⟨hgo, hy⟩ := h1 hlt
    refine .inr ⟨hgo, fun H3 => ∃ G3 S3 acc3, LcI K G1 H1 S1 A G3 H3 S3 acc3 ∧ acc3.length ≤ (i + 1) * 1000 ∧ dLc2L gd q tt ti1 q1 tt1 te vs1 (uns δ vs) (xs.drop (i + 1)) S3 (fun ds S'' => QD (.lst (acc3 ++ ds)) S''), fun H3 ⟨G3, S3, acc3, a1, a2, a3⟩ => ⟨xs.length - (i + 1), by omega, rfl, hlt, G3, S3, acc3, a1, a2, a3⟩, fun x H3 yl => ?_⟩
    obtain ⟨G3, s3, rx⟩ := hy x H3 yl
    have rx := rx _ (show xs[i]? = some xs[i] by simp [hlt])
    have I3 := I.step s3
    rw [List.drop_eq_getElem_cons hlt, dLc2L] at hd'
    replace hd' := hd'.2
    split at hd'
    · rename_i δ2 e2
      have re3 : RpE K G3 (wipe σ vs) (uns δ vs) := uns_rpe (re.mono (s1.sg.trans (I.st.sg.trans s3.sg))) vs
      obtain ⟨σ2, a1, a2, a3⟩ := pG_run s3.rel _ _ x (wipe σ vs) (uns δ vs) δ2 re3 rx e2
      refine a1 _ ⟨wipe_agr a3 hq, ?_⟩
      refine ⟨G3, δ2, S', _, noX, a2, s3.rel, hd', fun G4 H4 S4 b s4 q4 => ?_, kx0⟩
      have I4 := I3.step s4
      have la1 : acc.length ≤ (i + 1) * 1000 := by omega
      cases b with
      | false =>
        rw [brn_f] at q4
        refine iteF ?_
        exact ⟨G4, S4, acc, I4, la1, q4⟩
      | true =>
        rw [brn_t] at q4
        refine iteT ?_
        refine ⟨G4, δ2, S4, _, noX, a2.mono s4.sg, s4.rel, q4, fun G5 H5 S5 J1 gd1 ys s5 hJ1 hl1 q5 => ?_, kx0⟩
        obtain ⟨hy1, q5⟩ := q5
        have I5 := I4.step s5
        refine ⟨fun j k H => k = ys.length - j ∧ j ≤ ys.length ∧ ∃ G' S' acc', LcI K G1 H1 S1 A G' H S' acc' ∧ Same G5 G' ∧ acc'.length ≤ i * 1000 + j ∧ dLcL gd1 q1 tt1 te (uns δ2 vs1) (ys.drop j) S' (fun ds S5 => dLc2L gd q tt ti1 q1 tt1 te vs1 (uns δ vs) (xs.drop (i + 1)) S5 (fun ds' S6 => QD (.lst (acc' ++ (ds ++ ds'))) S6)),
          ⟨ys.length, by simp, by simp, G5, S5, acc, I5, Same.refl _, by omega, by simpa using q5⟩, ?_⟩
        rintro j k H6 ⟨rfl, hj, G6, S6, acc', I6, sg6, la6, q6⟩
        have hgd1 : gok gd1 S6 := by
          cases q : ys.drop j with
          | nil => rw [q, dLcL] at q6; exact q6.1
          | cons y z => rw [q, dLcL] at q6; exact q6.1
        obtain ⟨g1, g2⟩ := hJ1 G6 H6 S6 sg6 I6.st.rel hgd1 j
        by_cases hlt1 : j < ys.length
        · obtain ⟨hgo1, hy2⟩ := g1 hlt1
          refine .inr ⟨hgo1, fun H => ∃ G' S' acc', LcI K G1 H1 S1 A G' H S' acc' ∧ Same G5 G' ∧ acc'.length ≤ i * 1000 + (j + 1) ∧ dLcL gd1 q1 tt1 te (uns δ2 vs1) (ys.drop (j + 1)) S' (fun ds S5 => dLc2L gd q tt ti1 q1 tt1 te vs1 (uns δ vs) (xs.drop (i + 1)) S5 (fun ds' S6 => QD (.lst (acc' ++ (ds ++ ds'))) S6)),
            fun H ⟨G', S', a', b1, b2, b3, b4⟩ => ⟨ys.length - (j + 1), by omega, rfl, hlt1, G', S', a', b1, b2, b3, b4⟩, fun y H7 yl1 => ?_⟩
          obtain ⟨G7, s7, ry⟩ := hy2 y H7 yl1
          have ry := ry _ (show ys[j]? = some ys[j] by simp [hlt1])
          have I7 := I6.step s7
          rw [List.drop_eq_getElem_cons hlt1, dLcL] at q6
          replace q6 := q6.2
          split at q6
          · rename_i δ3 e3
            have re7 : RpE K G7 (wipe σ2 vs1) (uns δ2 vs1) := uns_rpe (a2.mono (((s4.sg.trans s5.sg).trans sg6).trans s7.sg)) vs1
            obtain ⟨σ3, c1, c2, c3⟩ := pG_run s7.rel _ _ y (wipe σ2 vs1) (uns δ2 vs1) δ3 re7 ry e3
            refine c1 _ ⟨wipe_agr c3 hq1, ?_⟩
            refine ⟨G7, δ3, S6, _, noX, c2, s7.rel, q6, fun G8 H8 S8 b s8 q8 => ?_, kx0⟩
            have I8 := I7.step s8
            have sg8 : Same G5 G8 := (sg6.trans s7.sg).trans s8.sg
            cases b with
            | true =>
              rw [brn_t] at q8
              refine iteT ?_
              refine ⟨G8, δ3, S8, _, noX, c2.mono s8.sg, s8.rel, q8, fun G9 H9 S9 v d s9 rv q9 => ?_, kx0⟩
              have I9 := I8.step s9
              obtain ⟨us, e9, r9⟩ := I9.ex
              have hij : i * 1000 + j < 16777216 := by
                have : i ≤ 1000 := by omega
                omega
              refine ⟨us, e9, by rw [r9.length, hz]; omega, G9, S9, acc' ++ [d], I9.more (vs := []) hA rv e9, sg8.trans s9.sg, by rw [List.length_append, List.length_singleton]; omega, ?_⟩
              simpa using q9
            | false =>
              rw [brn_f] at q8
              refine iteF ?_
              exact ⟨G8, S8, acc', I8, sg8, by omega, q8⟩
          · exact q6.elim
        · have hle1 : ys.length ≤ j := by omega
          refine .inl ⟨g2 hle1, ?_⟩
          rw [List.drop_of_length_le hle1, dLcL] at q6
          exact ⟨G6, S6, acc', I6, by omega, by simpa using q6.2⟩
    · exact hd'.elim
  · have hle : xs.length ≤ i := by omega
    refine .inl ⟨h2 hle, ?_⟩
    rw [List.drop_of_length_le hle, dLc2L] at hd'
    replace hd' := hd'.2
    obtain ⟨us, e5, r5⟩ := I.ex
    obtain ⟨G5, S5, d, s5, r6, q6⟩ := fin_f G1 H1 S1 G' H' S' A _ us QD I.st hA I.hg I.hs e5 r5 (by rw [hz]; omega) (by simpa using hd')
    exact kq _ _ _ _ _ (s1.trans s5) r6 q6
end
section
variable {X : Cx} {elt tg iter tg1 iter1 : Expr} {ifs ifs1 : List Expr} {scope : Scope} {own : List (Str × Nat)} {vs1 : List Nat} {ti ti1 : DTI} {q q1 : Pat} {tt tt1 : DTT} {te : DTE} {pos : Pos}
theorem de_lc2 (hc : X.calm = true) (hN : X.N.Nodup) (hi : PDI X tg iter ti) (ok : BlkOk X.N X.env.scope scope own) (hg : ∀ s H C cl fp, PDP (Cx.bk X scope s H C cl fp) tg q) (ht : ∀ s H C cl fp, PDTs (Cx.bk X scope s H C cl fp) ifs tt) (hi1 : ∀ s H C cl fp, PDI (Cx.bk X scope s H C cl fp) tg1 iter1 ti1)
    (hg1 : ∀ s H C cl fp, PDP (Cx.bk X scope s H C cl fp) tg1 q1) (ht1 : ∀ s H C cl fp, PDTs (Cx.bk X scope s H C cl fp) ifs1 tt1) (he : ∀ s H C cl fp, PD (Cx.bk X scope s H C cl fp) elt te)
    (hv : ∀ i ∈ vs1, i ∈ own.map (·.2) := by decide) (hq : ∀ i ∈ slots q, i ∈ own.map (·.2) := by decide) (hq1 : ∀ i ∈ slots q1, i ∈ vs1 := by decide) (hs : ∀ x, foldedSetIterable iter X.env x = pure x := by intro _; rfl) (hs1 : ∀ env x, foldedSetIterable iter1 env x = pure x := by intro _ _; rfl) :
    PD X (.ListComp elt [⟨tg, iter, ifs, 0⟩, ⟨tg1, iter1, ifs1, 0⟩] scope pos) (dLc2 ti q tt ti1 q1 tt1 te (own.map (·.2)) vs1) := ⟨fun W tk =>
  PE.weak (pe_lc2 (vs1 := vs1) hc hN (hi.run W tk) ok hv (fun s H C cl fp => (hg s H C cl fp).run) (fun s H C cl fp => (ht s H C cl fp).run W0 takes0N) (fun s H C cl fp => (hi1 s H C cl fp).run W0 takes0N) (fun s H C cl fp => (hg1 s H C cl fp).run) (fun s H C cl fp => (ht1 s H C cl fp).run W0 takes0N) (fun s H C cl fp => (he s H C cl fp).run W0 takes0N) hs hs1) (sim_lc2 hq hq1)⟩
end
/-! ### plain law -/
theorem lc2_of {gd : Gd} (hgd : gok gd S) {q q1 : Pat} {ti1 : DTI} {tt1 : DTT} {te : DTE} {vs1 : List Nat} {δ : DS} {α β : Type} {g : α → D} {gi : β → D} {ys : α → List β} {p : α → β → Bool} {f : α → β → D} : ∀ {xs : List α} {Q : List D → Sto → Prop},
    (∀ x ∈ xs, ∃ δ2, bindP q (g x) δ = some δ2 ∧ (∀ Q' : Gd → List D → Sto → Prop, Q' none ((ys x).map gi) S → ti1 δ2 S Q' noX) ∧ (ys x).length ≤ 1000 ∧ ∀ y ∈ ys x, ∃ δ3, bindP q1 (gi y) (uns δ2 vs1) = some δ3 ∧ (∀ Q' : Bool → Sto → Prop, Q' (p x y) S → tt1 δ3 S Q' noX) ∧ (p x y = true → ∀ Q' : DQ, Q' (f x y) S → te δ3 S Q' noX)) →
    Q (xs.flatMap fun x => ((ys x).filter (p x)).map (f x)) S → dLc2L gd q dYes ti1 q1 tt1 te vs1 δ (xs.map g) S Q
  | [], Q, _, h => ⟨hgd, h⟩
  | x :: r, Q, hh, h => by
    obtain ⟨δ2, e, t1, hl, t2⟩ := hh x (List.mem_cons_self ..)
    rw [List.map_cons, dLc2L, e]
    refine ⟨hgd, ?_⟩
    show brn true _ _
    rw [brn_t]
    refine t1 _ ⟨by rw [List.length_map]; exact hl, lc_filter (gd := none) (p := p x) (f := f x) True.intro t2 ?_⟩
    exact lc2_of hgd (Q := fun ds' S6 => Q (((ys x).filter (p x)).map (f x) ++ ds') S6) (fun y hy => hh y (List.mem_cons_of_mem _ hy)) h
theorem lk2_of {gd : Gd} {q q1 : Pat} {ti1 : DTI} {tt1 : DTT} {te : DTE} {vs1 : List Nat} {δ : DS} {α β : Type} {g : α → D} {gi : β → D} {ys : α → List β} {p : α → β → Bool} {f : α → β → D} {xs : List α} {Q : List D → Sto → Prop} (hl : xs.length ≤ 1000)
    (h : ∀ x ∈ xs, ∃ δ2, bindP q (g x) δ = some δ2 ∧ (∀ Q' : Gd → List D → Sto → Prop, Q' none ((ys x).map gi) S → ti1 δ2 S Q' noX) ∧ (ys x).length ≤ 1000 ∧ ∀ y ∈ ys x, ∃ δ3, bindP q1 (gi y) (uns δ2 vs1) = some δ3 ∧ (∀ Q' : Bool → Sto → Prop, Q' (p x y) S → tt1 δ3 S Q' noX) ∧ (p x y = true → ∀ Q' : DQ, Q' (f x y) S → te δ3 S Q' noX))
    (hq : Q (xs.flatMap fun x => ((ys x).filter (p x)).map (f x)) S) (hg : gok gd S := by first | exact True.intro | assumption | exact su_same) : lc2K gd q dYes ti1 q1 tt1 te vs1 δ (xs.map g) S Q := by
  rw [lc2K_is]; exact ⟨by rw [List.length_map]; exact hl, lc2_of hg h hq⟩
end SM

set_option Elab.async false
set_option linter.all false
set_option maxRecDepth 100000
set_option maxHeartbeats 2000000
namespace SM
open PySem PySem.Spec PyProof.Rows L2
variable {K : PySem.W.Frag} {G G' G2 H H' H2 : Hp} {S S' S2 : Sto}
/-! ### classmethods read from their class -/
structure Gc (P : Program) (w : World) (K : PySem.W.Frag) (mg : Str → Option Value) (base : Heap) (k : Nat) (c : Nat) (x m : Str) (ps : List Str) (R : DSp) : Prop where
  ex : ∃ p g fd, ClX.CRead K (cad K c) (.type "type") ∧ ClX.CMet K (cad K c) (.type "type") m p g ∧ FnOk P w K mg base (L2N.CX P w) k g fd ps (toSp K R) ∧ Binds K fd ps [] ∧ mg x = some (.ref (cad K c))
section
variable {X : Cx} {e o : Expr} {es : List Expr} {pos p apos : Pos} {W : WX} {k j i : Nat} {x m : Str} {t : DTA} {te : DTE} {ps : List Str} {R : DSp} {c : Nat} {g C : Addr} {pins : List (Addr × Obj)} {σ : L2.St} {s : Shared}
theorem run_cmD {q : Addr} {sp : Sp} {Q : VK} {us : List Value} {vs : List V} (F : FnR X.prog X.w X.K X.mg X.base (L2N.CX X.prog X.w) k g sp) (hr : Room k X.A) (tk : L2N.Takes X W) (I : Inv X ((q, PySem.W.methodObj (.ref g) (.ref C)) :: pins) σ H s) (r : Vals vs us) (h : sp (.ref C :: vs) H Q (WE W σ)) :
    wpAny (model X.prog X.w) X.A (call (.ref q) us) (EP X pins σ Q) X.xe s := by
  have z : wpAny (model X.prog X.w) X.A (call (.ref q) us) (EP X ((q, PySem.W.methodObj (.ref g) (.ref C)) :: pins) σ Q) X.xe s := by
    refine wpAny_call (PySem.W.method_call (ClX.pin_at I) (codeAny_mono (F X.A X.stack s H (.ref C :: us) (.ref C :: vs) Q _ hr I.env0 (.cons rfl r) h) fun z s' hq => ?_))
    match z, hq with
    | .error e, hq => exact L2N.passAt tk σ _ H s e s' I hq
    | .ok (.ret u), hq => exact I.after hq
  exact thn z fun u s' y => ClX.unpinE y
theorem de_gc {pl : Sem Bool} (F : Gc X.prog X.w X.K X.mg X.base k c x m ps R) (hr : Room j X.A) (hg : Gl X x) (ha : PDA X (e :: es) t) (hkj : k ≤ j := by decide) (hdb : (x == ("__debug__" : Str)) = false := by decide)
    (hst : starEach (e :: es) X.env = (false, eval e X.env) :: starEach es X.env := by rfl) (hpl : (backTo pos (starEach es X.env)).any (·.1) = false := by rfl)
    (ht : eval (.Call (.Attribute (.Name x p) m apos) (e :: es) [] pos) X.env = (do
      let ov ← eval (.Name x p) X.env
      standAt apos.atName
      let (f, first) ← holding [ov] (getMethod ov m pl)
      callWith pos f first (backTo pos (starEach (e :: es) X.env)) (backToKw pos (keywordEach [] X.env))) := by rfl) :
    PD X (.Call (.Attribute (.Name x p) m apos) (e :: es) [] pos) (dCall (fun ds => R (.cls c :: ds)) [] t) := ⟨fun W tk => ⟨fun pins s σ H Q I h => by
  obtain ⟨pp, g, fd, cr, cm, F1, hb, hm⟩ := F.ex
  have F2 := F1.raw hb .nil
  have h := sim_call (dvs := []) (fun G => .nil) h
  refine PySem.W.methodCall_KW (pl := pl) (thn ((pe_glob (v := .ref (cad X.K c)) hg hm rfl hdb).run pins s σ H (fun v H1 => v = .ref (cad X.K c) ∧ H1 = H) I ⟨rfl, rfl⟩) fun u s1 hu => ?_) ht
  obtain ⟨y, H1, I1, rx, ey, eH⟩ := hu
  subst ey eH
  obtain rfl : u = Value.ref (cad X.K c) := rx
  refine ClX.getmethcm_ok I1 cr cm fun s2 I2 => ?_
  refine ClX.callwith_cm I2 (ClX.base_none I1 (Nat.le_refl _)) cm.fi (thn ((ha.run W tk).run pos _ s2 σ H1 _ I2 h) fun us s3 hq => ?_) hst hpl
  obtain ⟨vs, H2, I3, rv, q2⟩ := hq
  refine ⟨⟨ClX.pin_at I3, I3.kIn⟩, run_cmD F2 (hr.mono hkj) tk I3 rv ?_⟩
  rw [List.append_nil] at q2
  obtain ⟨G, S, ds, QD, XD, rl, rs, h, kq, kx⟩ := q2
  exact ⟨G, S, .cls c :: ds, QD, XD, rl, by rw [List.append_nil]; exact .cons (.cls c rfl) rs, h, kq, kx⟩⟩⟩
/-! ### cls(..) -/
def dMakeL (i : Nat) (fin : DQ → Addr → Sto → Prop) (c : Nat) (R : DSp) (t : DTA) : DTE := fun δ S Q X => match nth δ i with
  | some (.cls c') => c' = c ∧ dMake fin c R [] t δ S Q X
  | _ => False
theorem de_mkL {fin : DQ → Addr → Sto → Prop} (hfin : ∀ (Q : DQ) (z : Addr) (G H : Hp) (S : Sto), Rel X.K G H S → fin Q z S → ∃ G' S' d, Stp X.K G H S G' H S' ∧ Rp X.K G' (.ref z) d ∧ Q d S') {y : Str} (F : Gi X.prog X.w X.K X.mg X.base k c y ps R) (hr : Room j X.A) (ha : PDA X (e :: es) t) (hN : X.N[i]? = some x := by rfl)
    (hv : Vis X.env.scope x := by first | exact Or.inl rfl | exact Or.inr (Or.inl rfl) | exact Or.inr (Or.inr rfl)) (hkj : k + 1 ≤ j := by decide) (hdb : (x == ("__debug__" : Str)) = false := by decide) (hcd : (x == ("__classdict__" : Str)) = false := by decide) (he : starEach (e :: es) X.env = (false, eval e X.env) :: starEach es X.env := by rfl) (hpl : (backTo pos (starEach es X.env)).any (·.1) = false := by rfl) :
    PD X (.Call (.Name x p) (e :: es) [] pos) (dMakeL i fin c R t) := ⟨fun W tk => ⟨fun pins s σ H Q I h => by
  obtain ⟨f, fd, F1, hm, M, hb⟩ := F.ex
  obtain ⟨G, δ, S, QD, XD, re, rl, h, kq, kx⟩ := h
  unfold dMakeL at h
  split at h
  · rename_i c' en
    obtain ⟨rfl, h⟩ := h
    obtain ⟨v, hs, rv⟩ := re.at_ i _ en
    cases rv with
    | cls _ ea =>
    subst ea
    refine wpAny_Call_Name_kw (thn ((pe_var (pos := p) hN hv hdb hcd).run pins s σ H (fun v H1 => v = .ref (cad X.K c') ∧ H1 = H) I ⟨.ref (cad X.K c'), hs, rfl, rfl⟩) fun u s0 hu => ?_)
    obtain ⟨v, H0, I0, r0, ev, eH⟩ := hu
    subst ev eH
    obtain rfl : u = Value.ref (cad X.K c') := r0
    refine PySem.W.callWith_K (h₀ := X.base) I.ok.mod.kin M.kp ?_ he hpl
    apply thn ((ha.run W tk).run pos pins s0 σ H0 (fun vs H1 => ∀ z dx, H1 z = none → H1 dx = none → dx ≠ z → toSp X.K R (.ref z :: (vs ++ [])) (upd (upd H1 dx (.own z)) z (.ins (cad X.K c') dx [])) (fun v H2 => v = .non ∧ Q (.ref z) H2) (WE W σ)) I0 ⟨G, δ, S, _, XD, re, rl, h, fun G1 H1 S1 vs ds s1 rs q => make_sp (dvs := []) hfin (fun _ => .nil) s1.rel rs q (fun G2 H2 S2 v d s2 rv q2 => kq _ _ _ _ _ (s1.trans s2) rv q2) (kx.step s1), kx⟩)
    rintro us s1 ⟨vs, H1, I1, r, q⟩
    exact ⟨I1.kIn, run_makeD M F1 (hr.mono hkj) hb .nil tk I1 r q⟩
  · exact h.elim⟩⟩
/-! ### a class's constant -/
structure CStr (K : PySem.W.Frag) (mg : Str → Option Value) (c : Nat) (x f z : Str) : Prop where
  ex : ∃ u, ClX.CRead K (cad K c) (.type "type") ∧ ClX.CVal K (cad K c) (.type "type") f (.str z) u ∧ mg x = some (.ref (cad K c))
theorem de_cstr {f z : Str} (F : CStr X.K X.mg c x f z) (hg : Gl X x) (hz : okS z := by decide +kernel) (hdb : (x == ("__debug__" : Str)) = false := by decide) (hb : attributeBase (.Name x p) f X.env (eval (.Name x p) X.env) = eval (.Name x p) X.env := by rfl) : PD X (.Attribute (.Name x p) f pos) (dC (.str z)) := by
  obtain ⟨u, cr, cv, hm⟩ := F.ex
  exact ⟨fun W tk => PE.weak (ClX.pe_cval (pe_glob (v := .ref (cad X.K c)) hg hm rfl hdb) hb) fun σ H Q ⟨G, δ, S, QD, XD, re, rl, h, kq, kx⟩ => ⟨_, _, _, _, rfl, cr, cv, kq G H S _ _ (Stp.refl rl) (.str hz) h⟩⟩
end
def creadB (K : PySem.W.Frag) (c : Nat) : Bool := PySem.W.readsIn K (cad K c) (.type "type") && decide (PySem.W.specialIn K (.ref (cad K c)) "__getattribute__" = some (some (.builtin "type.__getattribute__")))
theorem cread_of {c : Nat} (h : creadB K c = true) : ClX.CRead K (cad K c) (.type "type") := by
  unfold creadB at h
  rw [Bool.and_eq_true] at h
  exact ⟨h.1, of_decide_eq_true h.2⟩
/-- where a classmethod's record and its def stand -/
def cmP (K : PySem.W.Frag) (C : Addr) (m : Str) : Addr := match PySem.W.findCls K (.ref C) (.type "type") m with
  | some (.get _ (.ref p) _ _) => p
  | _ => 0
def cmAd (K : PySem.W.Frag) (C : Addr) (m : Str) : Addr := match PySem.W.recIn K (cmP K C m) "classmethod" with
  | some (.ref g :: _) => g
  | _ => 0
def cmB (K : PySem.W.Frag) (c : Nat) (m : Str) : Bool := creadB K c && (PySem.W.fnIn K (cmAd K (cad K c) m) && ((match PySem.W.recIn K (cmP K (cad K c) m) "classmethod" with
  | some (.ref _ :: _) => true
  | _ => false) && (match PySem.W.findCls K (.ref (cad K c)) (.type "type") m with
    | some (.get (.builtin b) (.ref _) .none (.ref C)) => decide (b = "classmethod.__get__") && decide (C = cad K c)
    | _ => false)))
theorem cm_of {c : Nat} {m : Str} (h : cmB K c m = true) : ClX.CRead K (cad K c) (.type "type") ∧ ClX.CMet K (cad K c) (.type "type") m (cmP K (cad K c) m) (cmAd K (cad K c) m) := by
  unfold cmB at h
  simp only [Bool.and_eq_true] at h
  obtain ⟨h1, h2, h3, h4⟩ := h
  refine ⟨cread_of h1, ?_, ?_, h2⟩
  · split at h4
    · rename_i b p C e
      simp only [Bool.and_eq_true, decide_eq_true_eq] at h4
      obtain ⟨rfl, rfl⟩ := h4
      have ep : cmP K (cad K c) m = p := by unfold cmP; rw [e]
      rw [ep]
      exact e
    · cases h4
  · split at h3
    · rename_i g rest e
      have eg : cmAd K (cad K c) m = g := by unfold cmAd; rw [e]
      rw [eg]
      exact ⟨rest, e⟩
    · cases h3
def cvB (K : PySem.W.Frag) (c : Nat) (f z : Str) : Bool := match PySem.W.findCls K (.ref (cad K c)) (.type "type") f with
  | some (.val (.str y _)) => decide (y = z)
  | _ => false
theorem cv_of {c : Nat} {f z : Str} (h : cvB K c f z = true) : ∃ u, ClX.CVal K (cad K c) (.type "type") f (.str z) u := by
  unfold cvB at h
  split at h
  · rename_i y t e
    have := of_decide_eq_true h
    subst this
    exact ⟨_, e, t, rfl⟩
  · cases h
/-! ### text.split(sep) -/
section
variable {X : Cx}
def splitD : RCD := fun ds S Q => match ds with
  | [.str a, .str b] => ((b.length == 0) = false ∧ a.length + 2 ≤ sizeLine) ∧ ((∀ s ∈ Txt.split a b, okS s) ∧ (Txt.split a b).length ≤ sizeLine) ∧ Q (.lst ((Txt.split a b).map D.str)) S
  | _ => False
theorem rps_strs : ∀ {l : List Str}, (∀ s ∈ l, okS s) → Rps K G (l.map V.str) (l.map D.str)
  | [], _ => .nil
  | s :: r, h => .cons (.str (h s (List.mem_cons_self ..))) (rps_strs fun z hz => h z (List.mem_cons_of_mem _ hz))
theorem m_split : MtR X "str.split" (liftM X.K splitD) := MtR.weak mt_split (by
  rintro x xs H Q ⟨G, S, ds, QD, rl, rs, h, kq⟩
  unfold splitD at h
  split at h
  · rename_i a b
    cases rs with
    | cons r1 r2 =>
    cases r2 with
    | cons r2 r3 =>
    cases r3
    cases r1 with
    | str ha =>
    cases r2 with
    | str hb =>
    obtain ⟨⟨h1, h2⟩, ⟨h3, h4⟩, q⟩ := h
    refine ⟨a, b, rfl, rfl, h1, h2, fun p hp => ?_⟩
    obtain ⟨s2, r2⟩ := fz_lst rl hp (rps_strs (K := X.K) (G := G) h3) (by rw [List.length_map]; exact h4)
    exact kq _ _ _ _ _ s2 r2 q
  · exact h.elim)
end
end SM

set_option Elab.async false
set_option linter.all false
set_option maxRecDepth 100000
set_option maxHeartbeats 2000000
namespace SM
open PySem PySem.Spec PyProof.Rows L2
variable {K : PySem.W.Frag} {G G' G2 H H' H2 : Hp} {S S' S2 : Sto}
theorem ik_0 {α : Type} {x : α} {l : List α} {kk : α → Prop} (q : kk x) : itk (x :: l) 0 kk := itk_of (atI_nat (j := 0) (xs := x :: l) (v := x) rfl) q
/-! ### the head's facts of an exception class -/
def oexClsB (K : PySem.W.Frag) (C : Addr) : Bool := match K.lookup C with
  | some ⟨.type "type", _, .cls cd, ⟨[_, _, _, _, some (.builtin n), _]⟩⟩ => (match cd.mro with
    | .ref C' :: bm => decide (C' = C) && (decide (n = "ValueError.__new__") && (!cd.hasDel && (cd.hasDict && PySem.HandSPX.refsVE bm)))
    | _ => false)
  | _ => false
def oexB (K : PySem.W.Frag) (c : Nat) : Bool := oexClsB K (cad K c) && (He.eqO (PySem.W.findIn K (.ref (cad K c)) "__setattr__") (some (some (.builtin "object.__setattr__"))) && (decide (PySem.W.subIn K (.ref (cad K c)) (.type "BaseException") = some true) && (decide (PySem.W.typeIn K (.ref (cad K c)) = some (.type "type")) && PySem.W.keepIn K (.ref (cad K c)))))
theorem oex_of {c : Nat} (h : oexB K c = true) : OexC K (cad K c) := by
  unfold oexB at h
  simp only [Bool.and_eq_true] at h
  obtain ⟨h0, h1, h2, h3, h4⟩ := h
  refine ⟨?_, He.eqO_ok h1, of_decide_eq_true h2, of_decide_eq_true h3, h4⟩
  unfold oexClsB at h0
  split at h0
  · rename_i dd cd k0 k1 k2 k3 n k5 ho
    split at h0
    · rename_i C' bm hm
      simp only [Bool.and_eq_true, decide_eq_true_eq, Bool.not_eq_true'] at h0
      obtain ⟨rfl, rfl, hdel, hdict, hr⟩ := h0
      obtain ⟨nm, bs, mro, ns, qn, hd, sn, sub, ab, col, del⟩ := cd
      dsimp only at hm hdel hdict
      subst hm hdel hdict
      exact ⟨nm, qn, ns, bs, bm, sn, sub, ab, col, dd, k0, k1, k2, k3, k5, ho, hr⟩
    · cases h0
  · cases h0
/-- the class's own __init__ -/
def oinB (K : PySem.W.Frag) (c : Nat) : Bool := He.eqO (PySem.W.findIn K (.ref (cad K c)) "__init__") (some (some (.ref (He.ma K (cad K c) "__init__")))) && (decide (PySem.W.typeIn K (.ref (He.ma K (cad K c) "__init__")) = some (.type "function")) && (cfs c).all fun f => He.eqO (PySem.W.findIn K (.ref (cad K c)) f) (some none))
theorem oin_of {c : Nat} (h : oinB K c = true) : PySem.W.findIn K (.ref (cad K c)) "__init__" = some (some (.ref (He.ma K (cad K c) "__init__"))) ∧ PySem.W.typeIn K (.ref (He.ma K (cad K c) "__init__")) = some (.type "function") ∧ ∀ f ∈ cfs c, PySem.W.findIn K (.ref (cad K c)) f = some none := by
  unfold oinB at h
  simp only [Bool.and_eq_true] at h
  obtain ⟨h1, h2, h3⟩ := h
  exact ⟨He.eqO_ok h1, of_decide_eq_true h2, fun f hf => He.eqO_ok (List.all_eq_true.mp h3 f hf)⟩
section
variable {P : Program} {w : World} {mg : Str → Option Value} {base : Heap} {c : Nat} {x y z qual : Str} {params : Arguments} {scope : Scope} {fd : FuncData} {p1 p2 p3 p4 q1 q2 q3 q4 : Pos}
theorem gx1 (F : FunD K "__init__" qual params [.Assign [.Attribute (.Name "self" p1) x p2] (.Name x p3) p4] scope [] [] (He.ma K (cad K c) "__init__") fd) (Sc : FnScope ["self", x] ["self", x] scope) (ec : cfs c = [x]) (hb : Binds K fd ["self", x] []) (ho : oexB K c = true) (hi : oinB K c = true) (hm : mg z = some (.ref (cad K c)))
    (d1 : (x == ("__debug__" : Str)) = false := by decide) (d2 : (x == ("__classdict__" : Str)) = false := by decide) : Gx P w K mg base c z := by
  obtain ⟨i1, i2, i3⟩ := oin_of hi
  exact ⟨_, fd, _, by rw [ec]; exact fnE1 F Sc (oex_of ho) (i3 x (by rw [ec]; simp)) d1 d2, oex_of ho, i1, i2, hb, hm⟩
theorem gx2 (F : FunD K "__init__" qual params [.Assign [.Attribute (.Name "self" p1) x p2] (.Name x p3) p4, .Assign [.Attribute (.Name "self" q1) y q2] (.Name y q3) q4] scope [] [] (He.ma K (cad K c) "__init__") fd) (Sc : FnScope ["self", x, y] ["self", x, y] scope) (ec : cfs c = [x, y]) (hb : Binds K fd ["self", x, y] []) (ho : oexB K c = true) (hi : oinB K c = true) (hm : mg z = some (.ref (cad K c))) (hxy : x ≠ y := by decide)
    (d1 : (x == ("__debug__" : Str)) = false := by decide) (d2 : (x == ("__classdict__" : Str)) = false := by decide) (d3 : (y == ("__debug__" : Str)) = false := by decide) (d4 : (y == ("__classdict__" : Str)) = false := by decide) : Gx P w K mg base c z := by
  obtain ⟨i1, i2, i3⟩ := oin_of hi
  exact ⟨_, fd, _, by rw [ec]; exact fnE2 F Sc (oex_of ho) (i3 x (by rw [ec]; simp)) (i3 y (by rw [ec]; simp)) hxy d1 d2 d3 d4, oex_of ho, i1, i2, hb, hm⟩
end
end SM

set_option Elab.async false
set_option linter.all false
set_option maxRecDepth 100000
set_option maxHeartbeats 2000000
namespace SM
open PySem PySem.Spec PyProof.Rows L2
variable {K : PySem.W.Frag} {G G' G2 H H' H2 : Hp} {S S' S2 : Sto}
/-! ### try: .. except C as e: .. -/
/-- which classes the clause takes -/
def EmOk (K : PySem.W.Frag) (cv : Value) (tab : List (Nat × Bool)) : Prop := ∀ c b, tab.lookup c = some b → PySem.W.exmOne K (.ref (cad K c)) cv = some b
def emB (K : PySem.W.Frag) (cv : Value) (tab : List (Nat × Bool)) : Bool := tab.all fun p => decide (PySem.W.exmOne K (.ref (cad K p.1)) cv = some p.2)
theorem lookup_memP {α : Type} : ∀ {l : List (Nat × α)} {c : Nat} {b : α}, l.lookup c = some b → (c, b) ∈ l
  | (x, y) :: r, c, b, h => by
    rw [List.lookup_cons] at h
    split at h
    · rename_i e
      cases h
      rw [eq_of_beq e]
      exact List.mem_cons_self
    · exact List.mem_cons_of_mem _ (lookup_memP h)
theorem em_of {cv : Value} {tab : List (Nat × Bool)} (h : emB K cv tab = true) : EmOk K cv tab := fun c b hl => of_decide_eq_true (List.all_eq_true.mp h _ (lookup_memP hl))
/-- what the clause makes of an exception -/
def trX (tab : List (Nat × Bool)) (i : Nat) (ts : Addr → Option Addr → Nat → DTS) (E : DEnds) (x : Exn) (δ' : DS) (S' : Sto) : Prop := match tab.lookup x.c with
  | some true => ∀ a d, ts a d x.c { nx := fun δ S => E.nx (unset δ i) S, rt := E.rt, bk := fun δ S => E.bk (unset δ i) S, ct := fun δ S => E.ct (unset δ i) S, xc := fun _ _ _ => False } (put δ' i (.exn a d x.c x.ds)) S'
  | some false => E.xc x δ' S'
  | none => False
def dTryAs (tab : List (Nat × Bool)) (i : Nat) (tb : DTS) (ts : Addr → Option Addr → Nat → DTS) : DTS := fun E δ S => tb { nx := E.nx, rt := E.rt, bk := E.bk, ct := E.ct, xc := trX tab i ts E } δ S
theorem Rx.rp {cls : Value} {d : Option Addr} {x : Exn} {a : Addr} (h : Rx K G cls d x) : Rp K G (.ref a) (.exn a d x.c x.ds) := by
  obtain ⟨_, h⟩ := h
  rcases h with ⟨h1, h2⟩ | ⟨dd, fs, vs, h1, h2, h3, h4, h5⟩
  · rw [h1, h2]; exact .exn0 _
  · rw [h1]; exact .exn h2 h3 h4 h5
/-- the caught exception of a suite -/
structure Cgt (K : PySem.W.Frag) (oe : Obj) (c : Nat) (d : Option Addr) : Prop where
  zn : L2N.Zn (.ref (cad K c)) d oe
  fl : ∃ vs, oe.data = .fields vs
theorem Cgt.hot {X : Cx} {a : Addr} {oe : Obj} {c : Nat} {d : Option Addr} {pn : List (Addr × Obj)} (h : Cgt X.K oe c d) : L2H.HotC (X.suite a ((a, oe) :: pn)) := by
  obtain ⟨vs, e⟩ := h.fl
  exact ⟨(a, oe), ⟨rfl, vs, e, h.zn.2.2 vs e⟩, List.mem_cons_self⟩
section
variable {X : Cx} {x n : Str} {cv : Value} {i : Nat} {body suite : List Stmt} {b₀ : Stmt} {np pos pos' : Pos} {tb : DTS} {ts : Addr → Option Addr → Nat → DTS} {tab : List (Nat × Bool)}
theorem ds_tryAs (hs : X.stack = X.env :: X.outer) (hf : X.env.frame = some X.env.locals) (hN : X.N.Nodup) (hi : X.N[i]? = some n) (hln : X.env.kindOf n = some .local) (hc : Names X x cv) (em : EmOk X.K cv tab)
    (hb : ∀ (pn : List (Addr × Obj)) (xe : Value → Shared → Prop), PDSs (X.tr pn xe) body tb)
    (hsu : ∀ (a : Addr) (oe : Obj) (c : Nat) (d : Option Addr) (pn : List (Addr × Obj)), Cgt X.K oe c d → PDSs (X.suite a ((a, oe) :: pn)) (b₀ :: suite) (ts a d c)) :
    PDS X (.Try body [.ExceptHandler (some (.Name x np)) (some n) (b₀ :: suite) pos'] [] [] pos) (dTryAs tab i tb ts) := ⟨fun W tk po => by
  refine PS.weak (L2N.ps_try_as (tb := fun W => liftS X.K W tb) (ts := fun a cls d => fun D σ H => ∃ c, cls = .ref (cad X.K c) ∧ liftS X.K (fun _ _ _ _ => False) (ts a d c) D σ H) (Wout := W) hs hf hN hi hln hc tk (fun W' pn xe tk' po' => (hb pn xe).run W' tk' po') (fun a oe cls d pn hz hff => ⟨fun pins s σ H D I h => ?_⟩)) ?_
  · obtain ⟨c, rfl, h⟩ := h
    exact ((hsu a oe c d pn ⟨hz, hff⟩).run _ takes0N PassesOwn.never).run pins s σ H D I h
  · rintro D σ H ⟨G, δ, S, E, re, rl, h, er⟩
    refine ⟨G, δ, S, _, re, rl, h, ⟨er.nx, er.rt, er.bk, er.ct, fun G' H' S' σ' δ' cls d x st re' rx q => ?_⟩⟩
    have ec := rx.1
    subst ec
    revert q
    unfold trX
    show (match tab.lookup x.c with | some true => _ | some false => _ | none => _) → _
    cases hl : tab.lookup x.c with
    | none => exact fun z => z.elim
    | some b =>
      cases b with
      | false => exact fun q => ⟨false, em _ _ hl, fun z => Bool.noConfusion z, fun _ => er.xc G' H' S' σ' δ' _ d x st re' rx q⟩
      | true =>
        intro q
        refine ⟨true, em _ _ hl, fun _ a ha => ⟨x.c, rfl, G', _, S', _, re'.put i rx.rp, st.rel, q a d, ?_⟩, fun z => Bool.noConfusion z⟩
        refine ⟨fun G2 H2 S2 σ2 δ2 s2 r2 z => er.nx _ _ _ _ _ (st.trans s2) (r2.unset i) z, fun G2 H2 S2 v d2 s2 r2 z => er.rt _ _ _ _ _ (st.trans s2) r2 z, fun G2 H2 S2 σ2 δ2 s2 r2 z => er.bk _ _ _ _ _ (st.trans s2) (r2.unset i) z, fun G2 H2 S2 σ2 δ2 s2 r2 z => er.ct _ _ _ _ _ (st.trans s2) (r2.unset i) z, fun _ _ _ _ _ _ _ _ _ _ _ z => z⟩⟩
end
end SM

set_option Elab.async false
set_option linter.all false
set_option maxRecDepth 100000
set_option maxHeartbeats 2000000
namespace SM
open PySem PySem.Spec PyProof.Rows L2
variable {K : PySem.W.Frag} {G G' G2 H H' H2 : Hp} {S S' S2 : Sto}
/-! ### e.f in an except suite -/
def FxOk (K : PySem.W.Frag) (fl : Str) (tbl : List (Nat × Nat)) : Prop := ∀ c j, tbl.lookup c = some j → XfC K (cad K c) ∧ PySem.W.findIn K (.ref (cad K c)) fl = some none ∧ (cfs c)[j]? = some fl
def fxB (K : PySem.W.Frag) (fl : Str) (tbl : List (Nat × Nat)) : Bool := tbl.all fun p => xfB K (cad K p.1) && (He.eqO (PySem.W.findIn K (.ref (cad K p.1)) fl) (some none) && decide ((cfs p.1)[p.2]? = some fl))
def dXf (tbl : List (Nat × Nat)) (a : Addr) (d : Option Addr) (c : Nat) (te : DTE) : DTE := fun δ S Q XX => te δ S (fun x S1 => match x with
  | .exn a' d' c' ds => a' = a ∧ d' = d ∧ c' = c ∧ (match tbl.lookup c with
    | some j => (match ds[j]? with
      | some v => Q v S1
      | none => False)
    | none => False)
  | _ => False) XX
section
variable {X : Cx} {a : Addr} {oe : Obj} {c : Nat} {d : Option Addr} {pn : List (Addr × Obj)} {e : Expr} {te : DTE} {fl : Str} {pos : Pos} {tbl : List (Nat × Nat)}
theorem de_xf (F : FxOk X.K fl tbl) (hz : Cgt X.K oe c d) (he : PD (X.suite a ((a, oe) :: pn)) e te) (hb : attributeBase e fl X.env (eval e X.env) = eval e X.env := by rfl) :
    PD (X.suite a ((a, oe) :: pn)) (.Attribute e fl pos) (dXf tbl a d c te) := ⟨fun W tk => by
  cases hl : tbl.lookup c with
  | none =>
    refine ⟨fun pins s σ H Q I h => ?_⟩
    refine attr_of hb (thn ((he.run W tk).run pins s σ H (fun _ _ => False) I ?_) fun u s1 hh => ?_)
    · obtain ⟨G, δ, S, QD, XD, re, rl, h, q, kx⟩ := h
      refine ⟨G, δ, S, _, XD, re, rl, h, fun G1 H1 S1 v x s1 r z => ?_, kx⟩
      cases x <;> first | exact z.elim | (rw [hl] at z; exact z.2.2.2.elim)
    · obtain ⟨_, _, _, _, z⟩ := hh
      exact z.elim
  | some j =>
    obtain ⟨T, hno, hj⟩ := F c j hl
    refine PE.weak (pe_xf (d := d) T hno hz.zn.zc hz.fl (he.run W tk) hb) ?_
    rintro σ H Q ⟨G, δ, S, QD, XD, re, rl, h, q, kx⟩
    refine ⟨G, δ, S, _, XD, re, rl, h, fun G1 H1 S1 v x s1 r z => ?_, kx⟩
    cases r with
    | exn0 c' =>
      obtain ⟨rfl, hd, _, z⟩ := z
      rw [hl] at z
      exact False.elim z
    | @exn a' dd fs vs c' ds h1 h2 h3 h4 =>
      obtain ⟨rfl, hd, rfl, z⟩ := z
      rw [hl] at z
      have z' : (match ds[j]? with | some v => QD v S1 | none => False) := z
      cases hv : ds[j]? with
      | none => rw [hv] at z'; exact False.elim z'
      | some v =>
        rw [hv] at z'
        obtain ⟨u, hu, ru⟩ := h2.get hv
        exact ⟨rfl, rfl, dd, fs, u, hd.symm, s1.rel.at h1 rfl, h4 j fl u hj hu, q _ _ _ _ _ s1 ru z'⟩
    | _ => exact z.elim⟩
end
/-! ### isinstance(e, C) there -/
def IxOk (K : PySem.W.Frag) (cv : Value) (tab : List (Nat × Bool)) : Prop := ∀ c b, tab.lookup c = some b → ExcC K (cad K c) ∧ (PySem.W.clsIn K (cad K c)).isSome = true ∧ PySem.W.kitOne K (.ref (cad K c)) cv = some b
def dIsE (tab : List (Nat × Bool)) (a : Addr) (d : Option Addr) (c : Nat) (te : DTE) : DTE := fun δ S Q XX => te δ S (fun x S1 => match x with
  | .exn a' d' c' _ => a' = a ∧ d' = d ∧ c' = c ∧ (match tab.lookup c with
    | some b => Q (.bl b) S1
    | none => False)
  | _ => False) XX
/-- isinstance(e, c) by the kit, whatever the dict -/
def rIsX (K : PySem.W.Frag) (D a : Addr) (d : Option Addr) : List V → Hp → VK → Prop := fun xs H Q => ∃ (c : V) (cv : Value) (b : Bool), xs = [.ref a, c] ∧ (∀ u, RelV c u → u = cv) ∧ PySem.W.kitOne K (.ref D) cv = some b ∧ (∀ dd, d = some dd → ∃ fs, H dd = some (.xd fs)) ∧ Q (.bl b) H
theorem call_isX {X : Cx} {a D : Addr} {oe : Obj} {d : Option Addr} {pn : List (Addr × Obj)} (C : ExcC X.K D) (hcl : (PySem.W.clsIn X.K D).isSome = true) (hz : Zc (.ref D) d oe) (hf : ∃ vs, oe.data = .fields vs) : CallR (X.suite a ((a, oe) :: pn)) (.builtin "isinstance") (rIsX X.K D a d) := by
  intro pins s σ H xs us Q I r h
  obtain ⟨c, cv, b, rfl, hcv, e, hd, q⟩ := h
  cases r with
  | cons rx rr =>
    cases rr with
    | cons rt rr =>
      cases rr
      cases rx
      have ec := hcv _ rt
      subst ec
      obtain ⟨hget, _⟩ := I.pin (a, oe) (List.mem_append.mpr (.inl List.mem_cons_self))
      obtain ⟨vs, hv⟩ := hf
      have J : ∃ od, PySem.W.InstAt s.heap a oe D od := by
        cases d with
        | none => exact ⟨none, hget, hz.1, by unfold PySem.W.notCls; rw [hv] <;> rfl, by rw [hz.2]; trivial⟩
        | some dd =>
          obtain ⟨fs, ea⟩ := hd dd rfl
          have hx : ObjOk X.prog X.w H s.heap dd (.xd fs) := I.hok dd _ ea
          obtain ⟨mA, hns, hr⟩ := hx
          obtain ⟨od, ho, hl⟩ := lookIn_ns hns
          exact ⟨some od, hget, hz.1, by unfold PySem.W.notCls; rw [hv] <;> rfl, by rw [hz.2]; exact ho⟩
      obtain ⟨od, J⟩ := J
      exact PySem.W.kia_one (PySem.W.kitx_exc hcl C.hg C.hk C.hs C.ha C.hn C.ht C.hm) I.kIn J e (fun z => nomatch z) fun tk => ⟨.bl b, H, I.kept (t' := tk) fun _ _ z => z, rfl, q⟩
section
variable {X : Cx} {a : Addr} {oe : Obj} {c : Nat} {d : Option Addr} {pn : List (Addr × Obj)} {e : Expr} {te : DTE} {pos p : Pos} {tab : List (Nat × Bool)}
theorem de_isE {u : Value} {cv : V} {ce : Expr} (hg : Gl X "isinstance") (hm : X.mg "isinstance" = none) (hcv : ∀ v, RelV cv v → v = u) (hce : PE (X.suite a ((a, oe) :: pn)) ce (tC cv)) (T : IxOk X.K u tab) (hz : Cgt X.K oe c d) (ha : PD (X.suite a ((a, oe) :: pn)) e te)
    (h1 : starEach (e :: [ce]) X.env = (false, eval e X.env) :: starEach [ce] X.env := by rfl) (h2 : starEach (ce :: []) X.env = (false, eval ce X.env) :: starEach [] X.env := by rfl) (h3 : (backTo pos (starEach [ce] X.env)).any (·.1) = false := by rfl) :
    PD (X.suite a ((a, oe) :: pn)) (.Call (.Name "isinstance" p) [e, ce] [] pos) (dIsE tab a d c te) := ⟨fun W tk => by
  cases hl : tab.lookup c with
  | none =>
    have k : CallR (X.suite a ((a, oe) :: pn)) (.builtin "isinstance") (fun _ _ _ => False) := fun pins s σ H xs us Q I r h => False.elim h
    refine PE.weak (pe_callB k hg hm (by decide +kernel) (pa_cons (ha.run W tk) (pa_cons hce pa_nil h2) h1) (he := h1) (hpl := h3)) ?_
    rintro σ H Q ⟨G, δ, S, QD, XD, re, rl, h, kq, kx⟩
    refine ⟨G, δ, S, _, XD, re, rl, h, fun G1 H1 S1 v x s1 r z => ?_, kx⟩
    cases r with
    | exn0 c' =>
      obtain ⟨rfl, hd, _, z⟩ := z
      rw [hl] at z
      exact False.elim z
    | exn _ _ _ _ =>
      obtain ⟨rfl, hd, _, z⟩ := z
      rw [hl] at z
      exact False.elim z
    | _ => exact z.elim
  | some b =>
    obtain ⟨C, hcl, hk⟩ := T c b hl
    refine PE.weak (pe_callB (call_isX C hcl hz.zn.zc hz.fl) hg hm (by decide +kernel) (pa_cons (ha.run W tk) (pa_cons hce pa_nil h2) h1) (he := h1) (hpl := h3)) ?_
    rintro σ H Q ⟨G, δ, S, QD, XD, re, rl, h, kq, kx⟩
    refine ⟨G, δ, S, _, XD, re, rl, h, fun G1 H1 S1 v x s1 r z => ?_, kx⟩
    cases r with
    | exn0 c' =>
      obtain ⟨rfl, hd, rfl, z⟩ := z
      rw [hl] at z
      exact ⟨cv, u, b, rfl, hcv, hk, (fun dd e => by rw [← hd] at e; cases e), kq _ _ _ _ _ s1 (.bl b) z⟩
    | @exn a' dd fs vs c' ds g1 g2 g3 g4 =>
      obtain ⟨rfl, hd, rfl, z⟩ := z
      rw [hl] at z
      exact ⟨cv, u, b, rfl, hcv, hk, (fun dd' e => by rw [← hd] at e; cases e; exact ⟨fs, s1.rel.at g1 rfl⟩), kq _ _ _ _ _ s1 (.bl b) z⟩
    | _ => exact z.elim⟩
end
end SM

set_option Elab.async false
set_option linter.all false
set_option maxRecDepth 100000
set_option maxHeartbeats 2000000
namespace SM
open PySem PySem.Spec PyProof.Rows L2
variable {K : PySem.W.Frag} {G G' G2 H H' H2 : Hp} {S S' S2 : Sto}
/-! ### defs called within an except suite -/
section
variable {P : Program} {w : World} {mg : Str → Option Value} {base : Heap}
theorem fnDH {x qual : Str} {params : Arguments} {body : List Stmt} {scope : Scope} {dvs : List V} {kws : List (Str × V)} {f : Addr} {fd : FuncData} {N ps : List Str} {k : Nat} (F : FunD K x qual params body scope dvs kws f fd) (Sc : FnScope N ps scope) (R : DSp)
    (len : ∀ ds S Q E, R ds S Q E → ds.length = ps.length) (hps : ps.length ≤ N.length)
    (hb : ∀ (cdv : Value) (A : Around) (outer : List Env) (s : Shared) (H : Hp) (E : XK) (p : Addr × Obj), L2H.Hot1 A p → L2H.RoomH k (A.deeper (envOfC qual scope s.heap.objs.size f cdv)) → ∃ ts, PDSs (L2H.cxH (L2N.CX P w) P w K mg base N qual scope f cdv A outer s H E p) body ts ∧
      ∀ ds S QD XD, R ds S QD XD → ts ⟨fun _ S' => QD .non S', QD, fun _ _ => False, fun _ _ => False, fun x _ S' => XD x S'⟩ (startD N ds) S) : L2H.FnH P w K mg base (L2N.CX P w) (k + 1) f fd ps (toSp K R) := by
  obtain ⟨oc, od, dV, kV, doc, pm, an, cdv, ct, osl, rfl, lk, hcd, _, _⟩ := F.ex
  refine L2H.fn_ofH lk hcd Sc (fun vs H Q E h => ?_) (fun A outer s H vs Q E p hot hr h => ?_)
  · obtain ⟨G, S, ds, QD, XD, _, rs, h, _⟩ := h
    rw [rs.length]; exact len _ _ _ _ h
  · obtain ⟨G, S, ds, QD, XD, rl, rs, h, kq, kx⟩ := h
    obtain ⟨ts, pp, q⟩ := hb cdv A outer s H E p hot hr
    refine ⟨liftS K (fun cls d _ H => E cls d H) ts, pp.run _ (L2N.takes_of rfl rfl rfl rfl) (passes_of rfl), ⟨G, startD N ds, S, _, startD_rpe rs (by rw [len _ _ _ _ h]; exact hps), rl, q ds S QD XD h, ?_⟩⟩
    exact ⟨fun G1 H1 S1 σ δ s1 _ q => kq _ _ _ _ _ s1 .non q, fun G1 H1 S1 v d s1 r q => kq _ _ _ _ _ s1 r q, fun _ _ _ _ _ _ _ q => q.elim, fun _ _ _ _ _ _ _ q => q.elim, fun G1 H1 S1 σ δ cls d x s1 _ r q => kx _ _ _ _ _ _ s1 r q⟩
end
/-- a def of the top, as it may be called in a suite -/
structure GfH (P : Program) (w : World) (K : PySem.W.Frag) (mg : Str → Option Value) (base : Heap) (k : Nat) (x : Str) (ps : List Str) (R : DSp) : Prop where
  ex : ∃ f fd, L2H.FnH P w K mg base (L2N.CX P w) k f fd ps (toSp K R) ∧ mg x = some (.ref f) ∧ PySem.W.keepIn K (.ref f) = true ∧ Binds K fd ps []
section
variable {X : Cx} {e : Expr} {es : List Expr} {pos p : Pos} {k j : Nat} {x : Str} {t : DTA} {ps : List Str} {R : DSp}
theorem de_callH (F : GfH X.prog X.w X.K X.mg X.base k x ps R) (hr : L2H.RoomH j X.A) (hc : L2H.HotC X) (hg : Gl X x) (ha : PDA X (e :: es) t) (hkj : k ≤ j := by decide) (hdb : (x == ("__debug__" : Str)) = false := by decide)
    (he : starEach (e :: es) X.env = (false, eval e X.env) :: starEach es X.env := by rfl) (hpl : (backTo pos (starEach es X.env)).any (·.1) = false := by rfl) : PD X (.Call (.Name x p) (e :: es) [] pos) (dCall R [] t) := ⟨fun W tk => by
  obtain ⟨f, fd, F1, hm, hk, hb⟩ := F.ex
  refine PE.weak (L2H.pe_callH (E := WE W) F1 (hr.mono hkj) hc hg hm hk hb (fun σ => L2N.passAt tk σ) (ha.run W tk) hdb he hpl) ?_
  intro σ H Q h
  have z := sim_call (dvs := []) (fun _ => .nil) h
  simp only [List.append_nil] at z
  exact z⟩
end
end SM

set_option Elab.async false
set_option linter.all false
set_option maxRecDepth 100000
set_option maxHeartbeats 2000000
namespace SM
open PySem PySem.Spec PyProof.Rows L2
variable {K : PySem.W.Frag}
/-! ### the facts of suites, as Bools -/
theorem fx_of {fl : Str} {tbl : List (Nat × Nat)} (h : fxB K fl tbl = true) : FxOk K fl tbl := fun c j hl => by
  have z := List.all_eq_true.mp h _ (lookup_memP hl)
  simp only [Bool.and_eq_true] at z
  exact ⟨xfB_ok z.1, He.eqO_ok z.2.1, of_decide_eq_true z.2.2⟩
def excB (K : PySem.W.Frag) (D : Addr) : Bool := He.eqO (PySem.W.findIn K (.ref D) "__getattribute__") (some (some (.builtin "BaseException.__getattribute__"))) && (He.eqO (PySem.W.findIn K (.ref D) "__getattr__") (some none) && (decide (PySem.W.subIn K (.ref D) (.type "BaseException") = some true) && (PySem.W.hasDictIn K D &&
  (He.eqO (PySem.W.findIn K (.ref D) "__class__") (some (some (.builtin "object.__class__"))) && (He.eqO (PySem.W.specialIn K (.builtin "object.__class__") "__get__") (some (some (.builtin "getset_descriptor.__get__"))) && (decide (PySem.W.takesIn K (.builtin "object.__class__") = some true) && (decide (PySem.W.mroIn K D (.type "object") = some true) && (PySem.W.clsIn K D).isSome)))))))
theorem exc_of {D : Addr} (h : excB K D = true) : ExcC K D ∧ (PySem.W.clsIn K D).isSome = true := by
  unfold excB at h
  simp only [Bool.and_eq_true] at h
  obtain ⟨h1, h2, h3, h4, h5, h6, h7, h8, h9⟩ := h
  exact ⟨⟨He.eqO_ok h1, He.eqO_ok h2, of_decide_eq_true h3, h4, He.eqO_ok h5, He.eqO_ok h6, of_decide_eq_true h7, of_decide_eq_true h8⟩, h9⟩
def ixB (K : PySem.W.Frag) (cv : Value) (tab : List (Nat × Bool)) : Bool := tab.all fun p => excB K (cad K p.1) && decide (PySem.W.kitOne K (.ref (cad K p.1)) cv = some p.2)
theorem ix_of {cv : Value} {tab : List (Nat × Bool)} (h : ixB K cv tab = true) : IxOk K cv tab := fun c b hl => by
  have z := List.all_eq_true.mp h _ (lookup_memP hl)
  simp only [Bool.and_eq_true] at z
  exact ⟨(exc_of z.1).1, (exc_of z.1).2, of_decide_eq_true z.2⟩
section
variable {P : Program} {w : World} {mg : Str → Option Value} {base : Heap}
theorem fnTH {x qual : Str} {params : Arguments} {body : List Stmt} {scope : Scope} {dvs : List V} {kws : List (Str × V)} {f : Addr} {fd : FuncData} {N ps : List Str} {k : Nat} {R : DSp} {t : DTS} (F : FunD K x qual params body scope dvs kws f fd) (Sc : FnScope N ps scope)
    (len : Ln ps.length R) (rd : Rd t N R) (hd : ∀ (cdv : Value) (A : Around) (outer : List Env) (s : Shared) (H : Hp) (E : XK) (p : Addr × Obj), L2H.HotC (L2H.cxH (L2N.CX P w) P w K mg base N qual scope f cdv A outer s H E p) → L2H.RoomH k (A.deeper (envOfC qual scope s.heap.objs.size f cdv)) → PDSs (L2H.cxH (L2N.CX P w) P w K mg base N qual scope f cdv A outer s H E p) body t)
    (hps : ps.length ≤ N.length := by decide) : L2H.FnH P w K mg base (L2N.CX P w) (k + 1) f fd ps (toSp K R) :=
  fnDH F Sc R len hps fun cdv A outer s H E p hot hr => ⟨t, hd cdv A outer s H E p ⟨p, hot, List.mem_singleton.mpr rfl⟩ hr, rd⟩
end
end SM

set_option Elab.async false
set_option linter.all false
set_option maxRecDepth 100000
set_option maxHeartbeats 2000000
namespace SM
open PySem PySem.Spec PyProof.Rows L2
variable {K : PySem.W.Frag} {G H : Hp} {S : Sto}
/-! ### text * n -/
def repS (x : Str) (n : Nat) : Str := ⟨(List.replicate n x.cps).foldl (· ++ ·) #[]⟩
theorem repS_codes (x : Str) (n : Nat) : (repS x n).cps.toList = (List.replicate n x.cps.toList).flatten := by
  have key : ∀ (n : Nat) (acc : Array Nat), ((List.replicate n x.cps).foldl (· ++ ·) acc).toList = acc.toList ++ (List.replicate n x.cps.toList).flatten := by
    intro n
    induction n with
    | zero => intro acc; simp
    | succ n ih =>
      intro acc
      rw [List.replicate_succ, List.foldl_cons, ih, List.replicate_succ, List.flatten_cons, Array.toList_append, List.append_assoc]
  have := key n #[]
  simpa [repS] using this
theorem repS_len (x : Str) (n : Nat) : (repS x n).length = n * x.length := by
  show (repS x n).cps.size = _
  rw [← Array.length_toList, repS_codes]
  induction n with
  | zero => simp
  | succ n ih => rw [List.replicate_succ, List.flatten_cons, List.length_append, ih, Nat.succ_mul, Array.length_toList, Nat.add_comm]; rfl
def rMulS : R2 := fun x y H Q => ∃ z k, x = .str z ∧ y = .int k ∧ 1 ≤ k ∧ k < 1000 ∧ 1 ≤ z.length ∧ z.length ≤ 1000 ∧ Q (.str (repS z k.toNat)) H
theorem op_mulS {X : Cx} : OpR X (binaryOp .Mult) rMulS := by
  intro pins s σ H x y v u Q I rx ry h
  obtain ⟨z, k, rfl, rfl, h1, h2, h3, h4, q⟩ := h
  obtain ⟨t, rfl⟩ := rx
  obtain ⟨t2, rfl⟩ := ry
  have hn : ¬ k < 1 := by omega
  refine P.mul_str ?_ ?_ ?_ ?_
  · have a1 : ¬ k < -(2 ^ 63) := by omega
    have a2 : ¬ k ≥ 2 ^ 63 := by omega
    rw [decide_eq_false a1, decide_eq_false a2]; rfl
  · intro _ _ hgt
    have b1 : (1000 : Int) ≤ (2 ^ 63 - 1) / k := by
      rw [Int.le_ediv_iff_mul_le (by omega)]
      omega
    omega
  · intro _ _
    have b2 : z.length * k.toNat ≤ 1000 * 1000 := Nat.mul_le_mul h4 (by omega)
    exact decide_eq_false (by rw [sizeLine_eq]; omega)
  by_cases hk : k = 1
  · subst hk
    rw [if_neg hn]
    have e : repS z 1 = z := by
      obtain ⟨a⟩ := z
      show (⟨#[] ++ a⟩ : Str) = ⟨a⟩
      rw [Array.empty_append]
    have q' : Q (.str (repS z 1)) H := q
    rw [e] at q'
    exact ⟨.str z, H, I, ⟨_, rfl⟩, q'⟩
  · have h5 : (k == 1 || z.length == 0) = false := by
      have e1 : (k == 1) = false := beq_eq_false_iff_ne.mpr (by omega)
      have e2 : (z.length == 0) = false := beq_eq_false_iff_ne.mpr (by omega)
      rw [e1, e2]; rfl
    rw [if_neg hn, h5]
    refine ⟨?_, .str (repS z k.toNat), H, I.tok _, ⟨_, rfl⟩, q⟩
    show (repS z k.toNat).length ≤ sizeLine
    rw [repS_len, sizeLine_eq]
    have b2 : z.length * k.toNat ≤ 1000 * 1000 := Nat.mul_le_mul h4 (by omega)
    rw [Nat.mul_comm]
    omega
def oMulS : R2D := fun x y S Q => vwk S x fun x' => match x', y with
  | .str z, .int k => (1 ≤ k ∧ k < 1000 ∧ 1 ≤ z.length ∧ z.length ≤ 1000) ∧ Q (.str (repS z k.toNat)) S
  | _, _ => False
theorem o_mulS {X : Cx} : OpR X (binaryOp .Mult) (lift2 X.K oMulS) := OpR.weak op_mulS (by
  rintro x y H Q ⟨G, S, dx, dy, QD, rl, rx, ry, h, kq⟩
  simp only [oMulS, vwk_is] at h
  split at h
  · rename_i z k ex
    obtain ⟨⟨h1, h2, h3, h4⟩, h5⟩ := h
    obtain ⟨e, hz⟩ := (vw_scal rx).2.2.1 _ ex
    cases ry
    subst e
    refine ⟨z, k, rfl, rfl, h1, h2, h3, h4, kq _ _ _ _ _ (Stp.refl rl) (.str ?_) h5⟩
    rw [okS_iff, repS_len, sizeLine_eq]
    have b2 : k.toNat * z.length ≤ 1000 * 1000 := Nat.mul_le_mul (by omega) h4
    refine ⟨by omega, fun c hc => ?_⟩
    rw [repS_codes] at hc
    obtain ⟨l, hl, hc⟩ := List.mem_flatten.mp hc
    rw [List.eq_of_mem_replicate hl] at hc
    exact (okS_iff.mp hz).2 c hc
  · exact h.elim)
end SM

set_option Elab.async false
set_option linter.all false
set_option maxRecDepth 100000
set_option maxHeartbeats 2000000
namespace SM
open PySem PySem.Spec PyProof.Rows L2
variable {K : PySem.W.Frag} {G G' G2 H H' H2 : Hp} {S S' S2 : Sto}
/-! ### try with several clauses, each with a name or without one -/
/-- the ends of a clause: its name is gone -/
def ofEnds (D : Ends) : Option Nat → Ends
  | none => D
  | some i => { nx := fun σ' H' => D.nx (σ'.set i none) H', rt := D.rt, bk := fun σ' H' => D.bk (σ'.set i none) H', ct := fun σ' H' => D.ct (σ'.set i none) H' }
def atSt (σ : L2.St) (a : Addr) : Option Nat → L2.St
  | none => σ
  | some i => σ.set i (some (.ref a))
abbrev Cl := Value × Option Nat × (Addr → Value → Option Addr → TS)
def wCl (K : PySem.W.Frag) (Wo : WX) (D : Ends) : List Cl → WX
  | [] => Wo
  | (c, oi, ts) :: r => fun cls d σ H =>
    ∃ b, PySem.W.exmOne K cls c = some b ∧ (b = true → ∀ a, H a = none → ts a cls d (ofEnds D oi) (atSt σ a oi) H) ∧ (b = false → wCl K Wo D r cls d σ H)
inductive ClsOk (X : Cx) : List ExceptHandler → List Cl → Prop
  | nil : ClsOk X [] []
  | plain {x : Str} {c : Value} {ts : Addr → Value → Option Addr → TS} {b0 : Stmt} {su : List Stmt} {np p2 : Pos} {hds : List ExceptHandler} {l : List Cl}
      (hc : Names X x c)
      (hsu : ∀ (a : Addr) (oe : Obj) (cls : Value) (d : Option Addr) (pn : List (Addr × Obj)),
        L2N.Zn cls d oe → (∃ vs, oe.data = .fields vs) → PSs (X.suite a ((a, oe) :: pn)) (b0 :: su) (ts a cls d))
      (r : ClsOk X hds l) : ClsOk X (.ExceptHandler (some (.Name x np)) none (b0 :: su) p2 :: hds) ((c, none, ts) :: l)
  | named {x n : Str} {c : Value} {i : Nat} {ts : Addr → Value → Option Addr → TS} {b0 : Stmt} {su : List Stmt} {np p2 : Pos} {hds : List ExceptHandler} {l : List Cl}
      (hN : X.N.Nodup) (hi : X.N[i]? = some n) (hln : X.env.kindOf n = some .local) (hc : Names X x c)
      (hsu : ∀ (a : Addr) (oe : Obj) (cls : Value) (d : Option Addr) (pn : List (Addr × Obj)),
        L2N.Zn cls d oe → (∃ vs, oe.data = .fields vs) → PSs (X.suite a ((a, oe) :: pn)) (b0 :: su) (ts a cls d))
      (r : ClsOk X hds l) : ClsOk X (.ExceptHandler (some (.Name x np)) (some n) (b0 :: su) p2 :: hds) ((c, some i, ts) :: l)
section
variable {X : Cx} {body : List Stmt} {h0 : ExceptHandler} {hds : List ExceptHandler} {l : List Cl} {pos : Pos} {tb : WX → TS} {Wo : WX}
theorem ps_tryCl (hs : X.stack = X.env :: X.outer) (hf : X.env.frame = some X.env.locals) (tk : L2N.Takes X Wo)
    (hb : ∀ (W : WX) (pn : List (Addr × Obj)) (xe : Value → Shared → Prop), L2N.Takes (X.tr pn xe) W →
      PassesOwn (model X.prog X.w) X.A X.env xe → PSs (X.tr pn xe) body (tb W))
    (hh : ClsOk X (h0 :: hds) l) : PS X (.Try body (h0 :: hds) [] [] pos) (fun D σ H => tb (wCl X.K Wo D l) D σ H) := by
  refine ⟨fun pins s σ H D I h => ?_⟩
  have ok := I.ok
  have fr0 : X.A.frames = some (X.env :: X.outer) := by rw [ok.frames, hs]
  refine wpAny_Try_except ?_
  refine wpAny_mono ((hb (wCl X.K Wo D l) (X.pn ++ pins)
    (fun e s₁ => wpAny (model X.prog X.w) X.A (noteFrame e X.env)
      (fun _ s₂ => wpAny (model X.prog X.w) X.A (setFlight e none)
        (fun _ s₃ => wpAny (model X.prog X.w) X.A (handleBy e X.env (h0 :: hds)) (SP X pins D) X.xe s₃) X.xe s₂) X.xe s₁)
    (fun u s' xx => ?_) PassesOwn.looking).run [] s σ H D (I.toTry _) h) (fun f s1 hsp => ?_) (fun e s1 he => he)
  · obtain ⟨a, B, sI, pins', σ', H', cls, d, rfl, J', nb, up, sky, na, os, ag, w⟩ := xx
    have J : Inv X pins σ' H' sI := J'.ofTry ok
    have sky' : Sky B (X.env :: X.outer) a (L2N.Zn cls d) X.env.locals s'.heap := by rw [← hs]; exact sky
    show wpAny (model X.prog X.w) X.A (noteFrame (.ref a) X.env) _ _ _
    refine L2N.Sky.land L2N.Zn.steady fr0 hf sky' fun h3 fl3 up3 => ?_
    have J3 : Inv X pins σ' H' { s' with heap := h3 } := J.landed nb fl3.1 (up.trans up3) os ag
    obtain ⟨oe3, vs3, he3, hz3, hd3⟩ := fl3.there
    have notFr : ∀ {hp : Heap} {o : Obj} {vs : Array Value}, hp.FunFrames B (X.env :: X.outer) → hp.get? a = some o →
        o.data = .fields vs → a ∉ frs (X.env :: X.outer) := fun {hp o vs} ff e dd hm => by
      obtain ⟨_, o', e', hnf⟩ := ff.mem hm
      rw [e] at e'; cases e'; exact hnf _ dd
    have nfr := notFr fl3.2.2.1 he3 hd3
    have nL : a ≠ X.env.locals := fun z =>
      nfr (List.mem_filterMap.mpr ⟨X.env, List.mem_cons_self, by rw [hf, z]⟩)
    have nF : a ∉ X.fs := fun hm => by
      obtain ⟨e, he, q⟩ := List.mem_filterMap.mp hm
      exact nfr <| List.mem_filterMap.mpr ⟨e, List.mem_cons_of_mem _ he, q⟩
    have S3 := J3.suite he3 hd3 na nL nF
    have LT : PySem.W.Looks (model X.prog X.w) h3 (typeOf (.ref a)) cls := fun A Q E s k q =>
      wpAny_typeOf_ref (k _ _ he3) (by rw [hz3.1]; exact q)
    have test : ∀ {x : Str} {c : Value} {np : Pos} {Q : Value → Shared → Prop} {E : Value → Shared → Prop}, Names X x c → Q c { s' with heap := h3 } →
        wpAny (model X.prog X.w) (X.A.mark (some (.ref a))) (eval (.Name x np) X.env) Q E { s' with heap := h3 } := fun {x c np Q E} hc q => by
      obtain ⟨hg, hdbg, hm | ⟨hm, hv, hnn⟩⟩ := hc
      · exact ld_glob (X := X.suite a ((a, oe3) :: (X.pn ++ pins)))
          S3 hg hm q hdbg
      · exact ld_blt (X := X.suite a ((a, oe3) :: (X.pn ++ pins)))
          S3 hg hm hv q hnn hdbg
    have go : ∀ {hd2 : List ExceptHandler} {l2 : List Cl}, ClsOk X hd2 l2 → wCl X.K Wo D l2 cls d σ' H' →
        wpAny (model X.prog X.w) X.A (handleBy (.ref a) X.env hd2) (SP X pins D) X.xe
          { s' with heap := h3 } := by
      intro hd2 l2 hk
      induction hk with
      | nil =>
        intro w
        refine wpAny_handleBy_nil ?_
        obtain ⟨k1, k2, k3, oe, vs, T, oT, ts', he, hz, hd, h1, hr⟩ := id fl3
        unfold PySem.passOn
        refine wpAny_bind (wpAny_field he hd h1 ?_)
        rw [if_neg (show ¬ ((Value.ref T == Value.none) = true) from by simp)]
        have fin : wpAny (model X.prog X.w) X.A (setFlight (.ref a) X.env.frame)
            (fun _ s4 => wpAny (model X.prog X.w) X.A (throw (.ref a) : Sem Flow) (SP X pins D) X.xe s4) X.xe { s' with heap := h3 } := by
          rw [hf]
          refine HandSPX.setFlight_upZ fl3
            fun h4 hh4 up4 => wpAny_throw (tk _ _ ?_)
          exact ⟨a, B, sI, pins, σ', H', cls, d, rfl, J, nb, (up.trans up3).trans up4,
            .inr (.inr (by rw [hs]; exact hh4)), na, os, ag, w⟩
        first
          | exact wpAny_bind (wpAny_pure (wpAny_bind fin))
          | exact wpAny_bind fin
      | @plain x c ts b0 su np p2 hd3 l3 hc hsu r ih =>
        intro w
        obtain ⟨b, hb1, hyes, hno⟩ := w
        refine wpAny_handleBy_cons (codeAny_handlers_test ?_) (by intro q; cases q)
        have LM := PySem.W.exm_one (M := model X.prog X.w) (J3.kIn) LT hb1
        refine test hc (LM.here ?_)
        cases b with
        | true =>
          refine codeAny_handlers_suite ?_
          refine HandSPX.lands_againZ fl3 fun h4 fl4 up4 => ?_
          have J4 : Inv X pins σ' H' { s' with heap := h4 } :=
            J.landed nb fl4.1 ((up.trans up3).trans up4) os ag
          obtain ⟨oe4, vs4, he4, hz4, hd4⟩ := fl4.there
          have S4 := J4.suite he4 hd4 na nL nF
          refine wpAny_mono ((hsu a oe4 cls d (X.pn ++ pins) hz4 ⟨_, hd4⟩).run [] _ _ H' _ S4
            (hyes rfl a na)) (fun f s6 hsp => ?_) (fun _ _ z => False.elim z)
          cases f with
          | ret u =>
            obtain ⟨v6, σ6, H6, S6, r6, q6⟩ := hsp
            exact ⟨_, _, _, S6.unsuite ok, r6, q6⟩
          | _ =>
            obtain ⟨σ6, H6, S6, q6⟩ := hsp
            exact ⟨_, _, S6.unsuite ok, q6⟩
        | false => exact ih (hno rfl)
      | @named x n c i ts b0 su np p2 hd3 l3 hN hi hln hc hsu r ih =>
        intro w
        obtain ⟨b, hb1, hyes, hno⟩ := w
        refine wpAny_handleBy_cons (codeAny_handlers_test ?_) (by intro q; cases q)
        have LM := PySem.W.exm_one (M := model X.prog X.w) (J3.kIn) LT hb1
        refine test hc (LM.here ?_)
        cases b with
        | true =>
          refine codeAny_handlers_suite_as ?_
          refine HandSPX.lands_againZ fl3 fun h4 fl4 up4 => ?_
          have J4 : Inv X pins σ' H' { s' with heap := h4 } :=
            J.landed nb fl4.1 ((up.trans up3).trans up4) os ag
          obtain ⟨oe4, vs4, he4, hz4, hd4⟩ := fl4.there
          have S4 := J4.suite he4 hd4 na nL nF
          refine store_ok (X := X.suite a ((a, oe4) :: (X.pn ++ pins))) (v := .ref a)
            S4 hN hi (.inl hln) rfl (fun s5 S5 => ?_) (.inr hln)
          refine wpAny_mono ((hsu a oe4 cls d (X.pn ++ pins) hz4 ⟨_, hd4⟩).run [] s5 _ H' _ S5
            (hyes rfl a na)) (fun f s6 hsp => ?_) (fun _ _ z => False.elim z)
          have end_ : ∀ {σ6 : L2.St} {H6 : Hp} {Q : Shared → Prop}, Inv (X.suite a ((a, oe4) :: (X.pn ++ pins))) [] σ6 H6 s6 →
              (∀ s7, Inv X pins (σ6.set i none) H6 s7 → Q s7) →
              wpAny (model X.prog X.w) X.A (do bindName X.env n .none; unbindBehindTheSuite X.env n p2) (fun _ s7 => Q s7) X.xe s6 :=
            fun {σ6 H6 Q} S6 hq => gone_ok (S6.unsuite ok) hN hi hln hq
          cases f with
          | ret u =>
            obtain ⟨v6, σ6, H6, S6, r6, q6⟩ := hsp
            exact end_ S6 fun s7 J7 => ⟨_, _, _, J7, r6, q6⟩
          | _ =>
            obtain ⟨σ6, H6, S6, q6⟩ := hsp
            exact end_ S6 fun s7 J7 => ⟨_, _, J7, q6⟩
        | false => exact ih (hno rfl)
    exact go hh w
  · cases f with
    | next =>
      obtain ⟨σ', H', J', q⟩ := hsp
      exact wpAny_execs_nil ⟨σ', H', J'.ofTry ok, q⟩
    | ret u =>
      obtain ⟨v, σ', H', J', r, q⟩ := hsp
      exact ⟨v, σ', H', J'.ofTry ok, r, q⟩
    | _ =>
      obtain ⟨σ', H', J', q⟩ := hsp
      exact ⟨σ', H', J'.ofTry ok, q⟩
end
/-! over data -/
/-- a clause over data: which classes it takes, the name's place, its suite -/
abbrev DCl := List (Nat × Bool) × Option Nat × (Addr → Option Addr → Nat → DTS)
def dEnds (E : DEnds) : Option Nat → DEnds
  | none => { nx := E.nx, rt := E.rt, bk := E.bk, ct := E.ct, xc := fun _ _ _ => False }
  | some i => { nx := fun δ S => E.nx (unset δ i) S, rt := E.rt, bk := fun δ S => E.bk (unset δ i) S, ct := fun δ S => E.ct (unset δ i) S, xc := fun _ _ _ => False }
def dAt (δ : DS) (a : Addr) (d : Option Addr) (x : Exn) : Option Nat → DS
  | none => δ
  | some i => put δ i (.exn a d x.c x.ds)
def trXs (E : DEnds) : List DCl → Exn → DS → Sto → Prop
  | [], x, δ', S' => E.xc x δ' S'
  | (tab, oi, ts) :: r, x, δ', S' => match tab.lookup x.c with
    | some true => ∀ a d, ts a d x.c (dEnds E oi) (dAt δ' a d x oi) S'
    | some false => trXs E r x δ' S'
    | none => False
def dTryCl (cs : List DCl) (tb : DTS) : DTS := fun E δ S => tb { nx := E.nx, rt := E.rt, bk := E.bk, ct := E.ct, xc := trXs E cs } δ S
inductive DClOk (X : Cx) : List ExceptHandler → List DCl → Prop
  | nil : DClOk X [] []
  | plain {x : Str} {cv : Value} {tab : List (Nat × Bool)} {ts : Addr → Option Addr → Nat → DTS} {b0 : Stmt} {su : List Stmt} {np p2 : Pos} {hds : List ExceptHandler} {l : List DCl}
      (hc : Names X x cv) (em : EmOk X.K cv tab)
      (hsu : ∀ (a : Addr) (oe : Obj) (c : Nat) (d : Option Addr) (pn : List (Addr × Obj)), Cgt X.K oe c d → PDSs (X.suite a ((a, oe) :: pn)) (b0 :: su) (ts a d c))
      (r : DClOk X hds l) : DClOk X (.ExceptHandler (some (.Name x np)) none (b0 :: su) p2 :: hds) ((tab, none, ts) :: l)
  | named {x n : Str} {cv : Value} {i : Nat} {tab : List (Nat × Bool)} {ts : Addr → Option Addr → Nat → DTS} {b0 : Stmt} {su : List Stmt} {np p2 : Pos} {hds : List ExceptHandler} {l : List DCl}
      (hN : X.N.Nodup) (hi : X.N[i]? = some n) (hln : X.env.kindOf n = some .local) (hc : Names X x cv) (em : EmOk X.K cv tab)
      (hsu : ∀ (a : Addr) (oe : Obj) (c : Nat) (d : Option Addr) (pn : List (Addr × Obj)), Cgt X.K oe c d → PDSs (X.suite a ((a, oe) :: pn)) (b0 :: su) (ts a d c))
      (r : DClOk X hds l) : DClOk X (.ExceptHandler (some (.Name x np)) (some n) (b0 :: su) p2 :: hds) ((tab, some i, ts) :: l)
def liftCl (X : Cx) (ts : Addr → Option Addr → Nat → DTS) : Addr → Value → Option Addr → TS := fun a cls d D σ H => ∃ c, cls = .ref (cad X.K c) ∧ liftS X.K (fun _ _ _ _ => False) (ts a d c) D σ H
/-- the clauses over data stand for clauses -/
theorem DClOk.ok {X : Cx} {W : WX} : ∀ {hds : List ExceptHandler} {l : List DCl}, DClOk X hds l → ∃ l' : List Cl, ClsOk X hds l' ∧
    ∀ {D : Ends} {E : DEnds} {G0 H0 : Hp} {S0 : Sto}, ER X.K W G0 H0 S0 E D → ∀ {G H : Hp} {S : Sto} {σ : L2.St} {δ : DS} {cls : Value} {d : Option Addr} {x : Exn}, Stp X.K G0 H0 S0 G H S → RpE X.K G σ δ → Rx X.K G cls d x →
      trXs E l x δ S → wCl X.K W D l' cls d σ H := by
  intro hds l h
  induction h with
  | nil => exact ⟨[], .nil, fun er _ _ _ _ _ _ _ _ st re rx q => er.xc _ _ _ _ _ _ _ _ st re rx q⟩
  | @plain x0 cv tab ts b0 su np p2 hd2 l2 hc em hsu r ih =>
    obtain ⟨l', ok', go⟩ := ih
    refine ⟨(cv, none, liftCl X ts) :: l', .plain hc (fun a oe cls d pn hz hff => ⟨fun pins s σ H D I h => ?_⟩) ok', fun er G' H' S' σ' δ' cls d x st re' rx q => ?_⟩
    · obtain ⟨c, rfl, h⟩ := h
      exact ((hsu a oe c d pn ⟨hz, hff⟩).run _ takes0N PassesOwn.never).run pins s σ H D I h
    · have ec := rx.1
      subst ec
      revert q
      show (match tab.lookup x.c with | some true => _ | some false => _ | none => _) → _
      cases hl : tab.lookup x.c with
      | none => exact fun z => z.elim
      | some b =>
        cases b with
        | false => exact fun q => ⟨false, em _ _ hl, fun z => Bool.noConfusion z, fun _ => go er st re' rx q⟩
        | true =>
          intro q
          refine ⟨true, em _ _ hl, fun _ a ha => ⟨x.c, rfl, G', _, S', _, re', st.rel, q a d, ?_⟩, fun z => Bool.noConfusion z⟩
          exact ⟨fun G2 H2 S2 σ2 δ2 s2 r2 z => er.nx _ _ _ _ _ (st.trans s2) r2 z, fun G2 H2 S2 v d2 s2 r2 z => er.rt _ _ _ _ _ (st.trans s2) r2 z, fun G2 H2 S2 σ2 δ2 s2 r2 z => er.bk _ _ _ _ _ (st.trans s2) r2 z, fun G2 H2 S2 σ2 δ2 s2 r2 z => er.ct _ _ _ _ _ (st.trans s2) r2 z, fun _ _ _ _ _ _ _ _ _ _ _ z => z⟩
  | @named x0 n cv i tab ts b0 su np p2 hd2 l2 hN hi hln hc em hsu r ih =>
    obtain ⟨l', ok', go⟩ := ih
    refine ⟨(cv, some i, liftCl X ts) :: l', .named hN hi hln hc (fun a oe cls d pn hz hff => ⟨fun pins s σ H D I h => ?_⟩) ok', fun er G' H' S' σ' δ' cls d x st re' rx q => ?_⟩
    · obtain ⟨c, rfl, h⟩ := h
      exact ((hsu a oe c d pn ⟨hz, hff⟩).run _ takes0N PassesOwn.never).run pins s σ H D I h
    · have ec := rx.1
      subst ec
      revert q
      show (match tab.lookup x.c with | some true => _ | some false => _ | none => _) → _
      cases hl : tab.lookup x.c with
      | none => exact fun z => z.elim
      | some b =>
        cases b with
        | false => exact fun q => ⟨false, em _ _ hl, fun z => Bool.noConfusion z, fun _ => go er st re' rx q⟩
        | true =>
          intro q
          refine ⟨true, em _ _ hl, fun _ a ha => ⟨x.c, rfl, G', _, S', _, re'.put i rx.rp, st.rel, q a d, ?_⟩, fun z => Bool.noConfusion z⟩
          exact ⟨fun G2 H2 S2 σ2 δ2 s2 r2 z => er.nx _ _ _ _ _ (st.trans s2) (r2.unset i) z, fun G2 H2 S2 v d2 s2 r2 z => er.rt _ _ _ _ _ (st.trans s2) r2 z, fun G2 H2 S2 σ2 δ2 s2 r2 z => er.bk _ _ _ _ _ (st.trans s2) (r2.unset i) z, fun G2 H2 S2 σ2 δ2 s2 r2 z => er.ct _ _ _ _ _ (st.trans s2) (r2.unset i) z, fun _ _ _ _ _ _ _ _ _ _ _ z => z⟩
theorem ds_tryCl {X : Cx} {body : List Stmt} {h0 : ExceptHandler} {hds : List ExceptHandler} {l : List DCl} {pos : Pos} {tb : DTS} (hs : X.stack = X.env :: X.outer) (hf : X.env.frame = some X.env.locals)
    (hb : ∀ (pn : List (Addr × Obj)) (xe : Value → Shared → Prop), PDSs (X.tr pn xe) body tb) (hh : DClOk X (h0 :: hds) l) : PDS X (.Try body (h0 :: hds) [] [] pos) (dTryCl l tb) := ⟨fun W tk po => by
  obtain ⟨l', ok', go⟩ := hh.ok (W := W)
  refine PS.weak (ps_tryCl (tb := fun W => liftS X.K W tb) (Wo := W) hs hf tk (fun W' pn xe tk' po' => (hb pn xe).run W' tk' po') ok') ?_
  rintro D σ H ⟨G, δ, S, E, re, rl, h, er⟩
  exact ⟨G, δ, S, _, re, rl, h, ⟨er.nx, er.rt, er.bk, er.ct, fun G' H' S' σ' δ' cls d x st re' rx q => go er st re' rx q⟩⟩⟩
end SM

set_option Elab.async false
set_option linter.all false
set_option maxRecDepth 100000
set_option maxHeartbeats 2000000
namespace SM
open PySem PySem.Spec PyProof.Rows L2
variable {K : PySem.W.Frag} {G G' G2 H H' H2 : Hp} {S S' S2 : Sto}
/-! ### raise C(): a class without an own __init__ -/
def veB : List Value := [.type "ValueError", .type "Exception", .type "BaseException", .type "object"]
structure Gx0 (K : PySem.W.Frag) (mg : Str → Option Value) (c : Nat) (x : Str) : Prop where
  q : PySem.W.excIn K (cad K c) veB "ValueError.__new__" = true
  kC : PySem.W.keepIn K (.ref (cad K c)) = true
  exC : PySem.W.subIn K (.ref (cad K c)) (.type "BaseException") = some true
  tyC : PySem.W.typeIn K (.ref (cad K c)) = some (.type "type")
  hm : mg x = some (.ref (cad K c))
def gx0B (K : PySem.W.Frag) (c : Nat) : Bool := PySem.W.excIn K (cad K c) veB "ValueError.__new__" && (PySem.W.keepIn K (.ref (cad K c)) && (decide (PySem.W.subIn K (.ref (cad K c)) (.type "BaseException") = some true) && decide (PySem.W.typeIn K (.ref (cad K c)) = some (.type "type"))))
theorem gx0_of {mg : Str → Option Value} {c : Nat} {x : Str} (h : gx0B K c = true) (hm : mg x = some (.ref (cad K c))) : Gx0 K mg c x := by
  unfold gx0B at h
  simp only [Bool.and_eq_true] at h
  obtain ⟨h0, h1, h2, h3⟩ := h
  exact ⟨h0, h1, of_decide_eq_true h2, of_decide_eq_true h3, hm⟩
theorem pmkN0 {X : Cx} {c : Nat} {x : Str} {p pos : Pos} (F : Gx0 X.K X.mg c x) (hg : Gl X x) (hdb : (x == ("__debug__" : Str)) = false := by decide) :
    L2N.PMk X (.Call (.Name x p) [] [] pos) (fun _ H Q => Q (.ref (cad X.K c)) none H) := by
  intro pins s σ H Q I h
  refine wpAny_Call_Name_kw (ld_glob I hg F.hm ?_ hdb)
  refine PySem.W.callWith_K0 I.kIn F.kC ?_
  show wpAny _ _ (call (.ref (cad X.K c)) []) _ _ _
  obtain ⟨bm, N, nm, qn, bs, hdct, sn, sub, ab, col, dd, k0, k1, k2, k3, k5, mN, hC, hN, hni, T⟩ := exc_obj I.kIn F.q
  refine wpAny_call_exc_subT PySem.F.excBase_ValueError T hC hN hni (fun h' e hm => ?_) (Nat.zero_le _)
  exact L2N.mk_of I hm (raises_own F.exC F.tyC) h (I.hok.gone hm.new)
section
variable {X : Cx} {pos p pos' : Pos} {x : Str} {c : Nat}
def dRaise0 (c : Nat) : DTS := fun E δ S => E.xc ⟨c, []⟩ δ S
theorem ds_raise0 (F : Gx0 X.K X.mg c x) (hc : X.calm = true) (hg : Gl X x) (hdb : (x == ("__debug__" : Str)) = false := by decide) : PDS X (.Raise (some (.Call (.Name x p) [] [] pos)) none pos') (dRaise0 c) := ⟨fun W tk po => by
  refine PS.weak (L2N.ps_raise hc tk (pmkN0 F hg hdb)) ?_
  rintro D σ H ⟨G, δ, S, E, re, rl, h, er⟩
  exact er.xc _ _ _ σ δ _ _ ⟨c, []⟩ (Stp.refl rl) re ⟨rfl, .inl ⟨rfl, rfl⟩⟩ h⟩
end
end SM

set_option Elab.async false
set_option linter.all false
set_option maxRecDepth 100000
set_option maxHeartbeats 2000000
namespace SM
open PySem PySem.Spec PyProof.Rows L2
variable {K : PySem.W.Frag} {G G' G2 H H' H2 : Hp} {S S' S2 : Sto}
/-! ### == of instances within a suite -/
structure GeH (P : Program) (w : World) (K : PySem.W.Frag) (mg : Str → Option Value) (base : Heap) (k : Nat) (c : Nat) (oth : List Nat) (ps : List Str) (R : DSp) : Prop where
  ex : ∃ f fd, L2H.FnH P w K mg base (L2N.CX P w) k f fd ps (toSp K R) ∧ Binds K fd ps [] ∧ EqF K c oth f
section
variable {X : Cx} {k j : Nat} {c : Nat} {oth : List Nat} {ps : List Str} {R : DSp}
theorem o_eqH (F : GeH X.prog X.w X.K X.mg X.base k c oth ps R) (hr : L2H.RoomH j X.A) (hc : L2H.HotC X) (hkj : k ≤ j := by decide) : OpR X (compareOp .Eq) (lift2 X.K (eqI c oth R false)) := by
  obtain ⟨f, fd, F1, hb, Fe⟩ := F.ex
  rintro pins s σ H x y u v Q I rx ry ⟨G, S, dx, dy, QD, rl, r1, r2, h, kq⟩
  simp only [eqI, vwk_is] at h
  split at h
  · rename_i c' ds ex
    obtain ⟨rfl, ht, h⟩ := h
    obtain ⟨a, ax, vs, rfl, ha, _⟩ := vw_ins rl r1 ex
    obtain rfl : u = Value.ref a := rx
    obtain ⟨mA, J, _⟩ := ins_get I.hok ha
    obtain ⟨od, J, _⟩ := J.look
    obtain ⟨tb, t1, t2⟩ := tyO_ty (K := X.K) Fe ht
    obtain ⟨m, hF⟩ := I.fr
    have hu := hr.un
    refine PySem.W.cmp_K (op := .Eq) (by omega) hF I.ok.mod.kin J (looks_ty I rl r2 ry t1) t2 Fe.eq Fe.fn ?_
    have hsp : toSp X.K R [.ref a, y] H (fun z H' => ∃ b, z = .bl b ∧ Q (.bl b) H') (fun _ _ _ => False) := by
      refine ⟨G, S, [dx, dy], _, noX, rl, .cons r1 (.cons r2 .nil), h, fun G1 H1 S1 z d s1 rz q => ?_, fun _ _ _ _ _ _ _ _ z => z⟩
      cases rz with
      | bl b =>
        have q' : QD (.bl (false ^^ b)) S1 := q
        rw [Bool.false_xor] at q'
        exact ⟨b, rfl, kq _ _ _ _ _ s1 (.bl _) q'⟩
      | _ => exact q.elim
    refine wpAny_mono (L2H.run_fnH (vs := [.ref a, y]) (E := fun _ _ _ _ => False) F1 (hr.mono hkj) hc hb (fun _ _ _ _ _ _ z => (cx_no z).elim) I (.cons rfl (.cons ry .nil)) hsp) (fun z s' hz => ?_) fun _ _ e => e
    obtain ⟨v', H', I', rz, b, rfl, q⟩ := hz
    obtain rfl : z = Value.bool b := rz
    exact ⟨.bl b, H', I', rfl, q⟩
  · exact h.elim
end
end SM

set_option Elab.async false
set_option linter.all false
set_option maxRecDepth 100000
set_option maxHeartbeats 2000000
namespace SM
open PySem PySem.Spec PyProof.Rows L2
variable {K : PySem.W.Frag} {G G' G2 H H' H2 : Hp} {S S' S2 : Sto}
/-! ### o - o' and its like by an own method that may raise -/
@[irreducible] def opX (c : Nat) (R : DSp) (x y : D) (S : Sto) (Q : DQ) (XD : XQ) : Prop := vwk S x fun x' => match x' with
  | .ins c' _ => c' = c ∧ vwk S y fun y' => (match y' with
    | .ins c2 _ => c2 = c ∧ R [x, y] S Q XD
    | _ => False)
  | _ => False
def dOpX (c : Nat) (R : DSp) (ta tb : DTE) : DTE := fun δ S Q XD => ta δ S (fun x S1 => tb δ S1 (fun y S2 => opX c R x y S2 Q XD) XD) XD
section
variable {X : Cx} {a b : Expr} {pos : Pos} {k j : Nat} {ta tb : DTE} {ps : List Str} {R : DSp} {c : Nat}
theorem de_opX {op : Operator} (F : Go X.prog X.w X.K X.mg X.base k c (PySem.dunder op.info.2) ps R) (sf : PySem.W.selfFirst X.K (cad X.K c) = true) (hr : Room j X.A) (ha : PD X a ta) (hb : PD X b tb) (hkj : k ≤ j := by decide) : PD X (.BinOp a op b pos) (dOpX c R ta tb) := by
  obtain ⟨f, fd, F1, hbd, M⟩ := F.ex
  refine ⟨fun W tk => ⟨fun pins s σ H Q I h => ?_⟩⟩
  obtain ⟨G, δ, S, QD, XD, re, rl, h0, kq, kx⟩ := h
  refine wpAny_BinOp (binT (R := fun x y H2 => ∃ G2 S2 dx dy QD XD, Rel X.K G2 H2 S2 ∧ Rp X.K G2 x dx ∧ Rp X.K G2 y dy ∧ opX c R dx dy S2 QD XD ∧ (∀ G' H' S' v d, Stp X.K G2 H2 S2 G' H' S' → Rp X.K G' v d → QD d S' → Q v H') ∧ KX X.K W σ G2 H2 S2 XD) (ha.run W tk) (hb.run W tk) I
    ⟨G, δ, S, _, XD, re, rl, h0, fun G1 H1 S1 x dx s1 rx q => ⟨G1, δ, S1, _, XD, re.mono s1.sg, s1.rel, q, fun G2 H2 S2 y dy s2 ry q2 => ⟨G2, S2, dx, dy, QD, XD, s2.rel, rx.mono s2.sg, ry, q2, fun G3 H3 S3 v d s3 rv q3 => kq G3 H3 S3 v d ((s1.trans s2).trans s3) rv q3, (kx.step s1).step s2⟩, kx.step s1⟩, kx⟩ fun u v s2 x y H2 I2 rx ry q => ?_)
  obtain ⟨G2, S2, dx, dy, QD, XD, rl2, r1, r2, h, kq, kx⟩ := q
  simp only [opX, vwk_is] at h
  split at h
  · rename_i c' fs ex
    obtain ⟨rfl, h⟩ := h
    split at h
    · rename_i c2 fs2 ey
      obtain ⟨rfl, h⟩ := h
      obtain ⟨a, ox, od, rfl, rfl, J⟩ := own_at I2 rl2 r1 rx ex
      obtain ⟨a2, ox2, od2, rfl, rfl, J2⟩ := own_at I2 rl2 r2 ry ey
      obtain ⟨m, hF⟩ := I2.fr
      refine PySem.W.binop_K hF I2.ok.mod.kin J J2.type sf M.at_ M.fn ?_
      have hsp : toSp X.K R [.ref a, .ref a2] H2 (fun v H' => Q v H' ∧ ∃ G d, Rp X.K G v d) (WE W σ) := ⟨G2, S2, [dx, dy], QD, XD, rl2, .cons r1 (.cons r2 .nil), h, fun G' H' S' v d s1 r1 q => ⟨kq _ _ _ _ _ s1 r1 q, _, _, r1⟩, fun G' H' S' cls d x st rx q => kx _ _ _ _ _ _ st rx q⟩
      have rv : Vals [V.ref a, V.ref a2] [Value.ref a, Value.ref a2] := .cons rfl (.cons rfl .nil)
      have hl := F1.len _ _ _ _ hsp
      have bd := hbd s2 [Value.ref a, Value.ref a2] I2.kIn (by rw [List.append_nil, ← rv.length]; exact hl)
      rw [List.append_nil] at bd
      refine wpAny_call (codeAny_mono (F1.run X.A X.stack s2 H2 ⟨[.ref a, .ref a2], []⟩ _ _ _ _ (hr.mono hkj) I2.env0 bd rv hsp) fun r s' hq => ?_)
      match r, hq with
      | .error e, hq => exact L2N.passAt tk σ pins H2 s2 e s' I2 hq
      | .ok (.ret z), hq =>
        obtain ⟨v, H', I', rz, q, G1, d1, rd⟩ := I2.after hq
        exact isNI rd rz _ _ ⟨v, H', I', rz, q⟩
    · exact h.elim
  · exact h.elim
end
end SM

set_option Elab.async false
set_option linter.all false
set_option maxRecDepth 100000
set_option maxHeartbeats 2000000
namespace SM
open PySem PySem.Spec PyProof.Rows L2
variable {K : PySem.W.Frag} {G G' G2 H H' H2 : Hp} {S S' S2 : Sto}
/-! ### == and != of data, by the room alone (also within a suite) -/
section
variable {X : Cx} {k : Nat}
theorem o_eqU (hr : L2H.RoomH k X.A) : OpR X (compareOp .Eq) (lift2 X.K oEq) := OpR.weak (op_eqD (by have := hr.un; omega)) (by
  rintro x y H Q ⟨G, S, dx, dy, QD, rl, rx, ry, hh, kq⟩
  obtain ⟨h, q⟩ : (pln 9 (vw S dx) && pln 9 (vw S dy)) = true ∧ _ := by simpa only [oEq, oNe, vwk_is] using hh
  rw [Bool.and_eq_true] at h
  obtain ⟨a1, a2, a3⟩ := dp_vw rl rx h.1
  obtain ⟨b1, b2, b3⟩ := dp_vw rl ry h.2
  refine ⟨_, _, a1, b1, by simp [SeqAt.shaped, a2]; omega, by simp [SeqAt.shaped, b2]; omega, ?_⟩
  rw [← eqB_eq _ _ h.1 h.2]
  exact kq _ _ _ _ _ (Stp.refl rl) (.bl _) q)
theorem o_neU (hr : L2H.RoomH k X.A) : OpR X (compareOp .NotEq) (lift2 X.K oNe) := OpR.weak (op_neD (by have := hr.un; omega)) (by
  rintro x y H Q ⟨G, S, dx, dy, QD, rl, rx, ry, hh, kq⟩
  obtain ⟨h, q⟩ : (pln 9 (vw S dx) && pln 9 (vw S dy)) = true ∧ _ := by simpa only [oEq, oNe, vwk_is] using hh
  rw [Bool.and_eq_true] at h
  obtain ⟨a1, a2, a3⟩ := dp_vw rl rx h.1
  obtain ⟨b1, b2, b3⟩ := dp_vw rl ry h.2
  refine ⟨_, _, a1, b1, by simp [SeqAt.shaped, a2]; omega, by simp [SeqAt.shaped, b2]; omega, ?_⟩
  rw [← eqB_eq _ _ h.1 h.2]
  exact kq _ _ _ _ _ (Stp.refl rl) (.bl _) q)
end
end SM

set_option Elab.async false
set_option linter.all false
set_option maxRecDepth 100000
set_option maxHeartbeats 2000000
namespace SM
open PySem PySem.Spec PyProof.Rows L2
variable {K : PySem.W.Frag} {G G' G2 H H' H2 : Hp} {S S' S2 : Sto}
/-! ### a method whose first row is super().__init__(..) -/
/-- its object: it has captured __class__ -/
structure FunS (K : PySem.W.Frag) (x qual : Str) (params : Arguments) (body : List Stmt) (scope : Scope) (f : Addr) (fd : FuncData) (cc c : Addr) : Prop where
  ex : ∃ (oc : Value) (od : Option Addr) (dV kV doc pm : Value) (an : Option Addr) (ct : Value) (osl : Array (Option Value)),
    fd = PySem.W.fnX x qual params body scope [("__class__", cc)] dV kV doc pm an (.ref c) ct ∧ K.lookup f = some ⟨oc, od, .func fd, osl⟩ ∧ PySem.W.codeIn K (.ref c) qual = true ∧ DflV K dV [] ∧ KwdV K kV []
  kp : PySem.W.keepIn K (.ref f) = true
theorem FunS.bindsN {x qual : Str} {params : Arguments} {body : List Stmt} {scope : Scope} {f : Addr} {fd : FuncData} {cc c : Addr} {ps : List Str} (F : FunS K x qual params body scope f fd cc c)
    (h : ∀ (kV doc pm : Value) (an : Option Addr) (cc : Addr) (cdv ct : Value) (us : List Value), us.length = ps.length → bindArgs (PySem.W.fnX x qual params body scope [("__class__", cc)] .none kV doc pm an cdv ct) ⟨us, []⟩ = pure (ps.zip us)) : Binds K fd ps [] := by
  obtain ⟨oc, od, dV, kV, doc, pm, an, ct, osl, rfl, lk, hcd, hD, hK⟩ := F.ex
  rcases hD with ⟨_, rfl⟩ | ⟨e, _⟩
  · exact .all (h kV doc pm an cc (.ref c) ct)
  · exact absurd rfl e
/-- what super() asks: D the class of the text, f2 the method above, cs the classes of self -/
structure SupF (P : Program) (K : PySem.W.Frag) (mg : Str → Option Value) (cc c D f2 : Addr) (cs : List Nat) : Prop where
  cell : ∃ cl cld csl, K.lookup cc = some ⟨cl, cld, .cell (some (.ref D)), csl⟩
  code : ∃ ccl cdd vs ccs tf, K.lookup c = some ⟨ccl, cdd, .fields vs, ccs⟩ ∧ vs[2]? = some (.str P.main.file tf)
  cls : ∃ cd, PySem.W.clsIn K D = some cd
  top : (P.main.scope.names.lookup ("super" : Str)).isSome = false
  ng : mg "super" = none
  st : PySem.W.nsIn K cStatics "thirdparty.any" = some none
  ty2 : PySem.W.typeIn K (.ref f2) = some (.type "function")
  fi2 : PySem.W.fnIn K f2 = true
  sub : ∀ c', cs.contains c' = true → PySem.W.mroIn K (cad K c') (.ref D) = some true ∧ PySem.W.ks_superIn K (cad K c') D "__init__" = some (some (.ref f2))
def dSup (cs : List Nat) (R2 : DSp) (t : DTA) : DTS := fun E δ S => match δ with
  | some d :: _ => vwk S d fun d' => (match d' with
    | .ins c' _ => cs.contains c' = true ∧ t δ S (fun ds S1 => R2 (d :: ds) S1 (fun _ S2 => E.nx δ S2) (fun x S2 => E.xc x δ S2)) (fun x S1 => E.xc x δ S1)
    | _ => False)
  | _ => False
theorem startF_none {N : List Str} {vs : List V} (h : vs.length + 1 ≤ N.length) : NdefX.startF N vs [none] = L2.start N vs := by
  unfold NdefX.startF L2.start
  congr 1
  have e : N.length - vs.length = (N.length - vs.length - 1) + 1 := by omega
  rw [e, List.replicate_succ]
  simp
section
variable {X : Cx} {cc c D f2 f : Addr} {cs : List Nat} {ps2 : List Str} {k2 : Nat} {R2 : DSp} {ta : DTA} {e : Expr} {es : List Expr} {p0 p1 p2 p3 p4 : Pos} {ar : Arg} {fd fd2 : FuncData} {body : List Stmt} {σ : L2.St} {δ : DS} {s : Shared} {E : DEnds} {W : WX} {oc : Value} {od : Option Addr} {osl : Array (Option Value)}
/-- the row super().__init__(..) -/
theorem sup_step (hks : X.env.kindOf "super" = some .globalImplicit) (hkc : X.env.kindOf "__class__" = some .free) (hcl : X.env.cells.lookup ("__class__" : Str) = some cc) (hfu : X.env.func = some f) (hco : X.env.code = .ref c) (hka : X.env.kindOf ar.arg = some .local) (hN0 : X.N[0]? = some ar.arg)
    (lk : X.K.lookup f = some ⟨oc, od, .func fd, osl⟩) (har : (fd.params.posonlyargs ++ fd.params.args).head? = some ar) (U : SupF X.prog X.K X.mg cc c D f2 cs) (F2 : FnOk X.prog X.w X.K X.mg X.base (L2N.CX X.prog X.w) k2 f2 fd2 ps2 (toSp X.K R2)) (hb2 : Binds X.K fd2 ps2 []) (hr : Room k2 X.A)
    (hA : PDA X (e :: es) ta) (tk : L2N.Takes X W) (I : Inv X [] σ H s) (re : RpE X.K G σ δ) (rl : Rel X.K G H S) (h : dSup cs R2 ta E δ S) (kx : ∀ G' H' S' cls d x, Stp X.K G H S G' H' S' → Rx X.K G' cls d x → E.xc x δ S' → W cls d σ H')
    (he : starEach (e :: es) X.env = (false, eval e X.env) :: starEach es X.env) (hpl : (backTo p3 (starEach es X.env)).any (·.1) = false) {pl : Sem Bool}
    (ht : eval (.Call (.Attribute (.Call (.Name "super" p0) [] [] p1) "__init__" p2) (e :: es) [] p3) X.env = (do
      let ov ← attributeBase (.Call (.Name "super" p0) [] [] p1) "__init__" X.env (eval (.Call (.Name "super" p0) [] [] p1) X.env)
      standAt p2.atName
      let (f, first) ← holding [ov] (getMethod ov "__init__" pl)
      callWith p3 f first (backTo p3 (starEach (e :: es) X.env)) [])) (hin : interactive X.env = false) (hsw : swapsWith (.Call (.Attribute (.Call (.Name "super" p0) [] [] p1) "__init__" p2) (e :: es) [] p3) none p4.line X.env = pure false) :
    PySem.wpAt (model X.prog X.w) X.A (.func body X.env) (exec (.Expr (.Call (.Attribute (.Call (.Name "super" p0) [] [] p1) "__init__" p2) (e :: es) [] p3) p4) X.env)
      (fun fl s' => fl = .next ∧ ∃ G' H' S', Inv X [] σ H' s' ∧ Stp X.K G H S G' H' S' ∧ E.nx δ S') X.xe s := by
  obtain ⟨cl, cld, csl, hcc⟩ := U.cell
  obtain ⟨ccl, cdd, vs0, ccs, tf, hcode, hvs⟩ := U.code
  obtain ⟨cdD, hD⟩ := U.cls
  have KX := I.kIn
  unfold dSup at h
  split at h
  · rename_i d0 δ'
    rw [vwk_is] at h
    split at h
    · rename_i c' fs ex
      obtain ⟨hcs, h⟩ := h
      obtain ⟨hsub, hsup⟩ := U.sub c' hcs
      obtain ⟨v0, hv0, r0⟩ := re.at_ 0 d0 rfl
      obtain ⟨m, hns, hloc⟩ := I.loc
      obtain ⟨u0, ru, hlook⟩ := hloc 0 ar.arg v0 hN0 hv0 (.inl hka)
      obtain ⟨a, ox, odx, rfl, rfl, J⟩ := own_at I rl r0 ru ex
      have hm : m ar.arg = some (.ref a) := by
        rcases hlook with ⟨_, z⟩ | ⟨z, _⟩
        · exact z
        · rcases z with z | z <;> (rw [hka] at z; cases z)
      obtain ⟨oD, hD1, hD2⟩ : ∃ oD, s.heap.get? D = some oD ∧ oD.data = .cls cdD := by
        unfold PySem.W.clsIn at hD
        split at hD
        · rename_i c1 d1 cd1 sl1 ho
          cases hD
          exact ⟨_, KX _ _ ho, rfl⟩
        · cases hD
      obtain ⟨mb, b1, b2⟩ := I.mod.blt
      refine PySem.ks_wpAt_Expr_any (PySem.ks_wpAt_MethodCall (pl := pl) (PySem.ks_wpAt_super_base hks hkc (by decide) hfu (KX _ _ lk) rfl har hco (KX _ _ hcode) rfl hvs (by simp) U.top ?_) ht) hin hsw
      refine PySem.W.ks_loadName_global I.ok.kind hks (Calls.loadGlobal_builtin (by rw [I.ok.glob]; exact I.mod.glob.keeps I.bk) U.ng (by rw [I.ok.blt]; exact b1.keeps I.bk) ((b2 _ (by decide)).trans (show bootBuiltins "super" = some (.type "super") by decide +kernel)) ⟨rfl, ?_⟩)
      refine wpAny_loadName_free I.ok.kind hkc hcl ⟨_, KX _ _ hcc, rfl⟩ ?_
      refine wpAny_loadName_local I.ok.kind hka hns hm ?_
      obtain ⟨hh, g, d, t, os⟩ := s
      refine PySem.ks_wpAny_isType_cls hD1 hD2 ⟨rfl, ?_⟩
      refine PySem.ks_wpAny_call_super hD1 hD2 J.at_ J.cls (fun c1 e1 => ?_) (PySem.W.looks_mroIn KX hsub) (fun h' e1 k1 => ?_)
      · have := J.no
        unfold PySem.W.notCls at this
        rw [e1] at this
        exact Bool.noConfusion this
      have I1 : Inv X [] σ H ⟨h', g, d, t, os⟩ := I.kept (t' := t) k1
      have KX1 := I1.kIn
      cases hc : PySem.W.clsIn X.K (cad X.K c') with
      | none => unfold PySem.W.ks_superIn at hsup; rw [hc] at hsup; cases hsup
      | some cd1 =>
        unfold PySem.W.ks_superIn at hsup
        rw [hc] at hsup
        obtain ⟨of, hof, hofc⟩ : ∃ of, h'.get? f2 = some of ∧ of.cls = .type "function" := by
          have ht' : (X.K.lookup f2).map (·.cls) = some (.type "function") := U.ty2
          cases z : X.K.lookup f2 with
          | none => rw [z] at ht'; cases ht'
          | some of => rw [z] at ht'; exact ⟨of, KX1 _ _ z, Option.some.inj ht'⟩
        refine PySem.ks_wpAny_getMethod_super e1 (PySem.W.looks_opaque KX1 U.st) (l₀ := cd1.mro) ?_ rfl KX1 hsup hof hofc (PySem.W.ks_ne KX J hc) (by decide) ?_
        · exact fun A Q E s k q => wpAny_bind ((PySem.W.looks_clsIn KX1 hc) A _ E s k (wpAny_pure q))
        have I2 := ClX.met_new (g := f2) (C := a) I1
        refine ClX.callwith_cm (X := X) (g := f2) (C := a) I2 (ClX.base_none I1 (Nat.le_refl _)) U.fi2 ?_ he hpl
        refine thn ((hA.run W tk).run p3 _ _ σ H (fun vs H1 => ∃ G1 S1 ds, Stp X.K G H S G1 H1 S1 ∧ Rps X.K G1 vs ds ∧ R2 (d0 :: ds) S1 (fun _ S2 => E.nx (some d0 :: δ') S2) (fun x S2 => E.xc x (some d0 :: δ') S2)) I2 ⟨G, _, S, _, _, re, rl, h, fun G1 H1 S1 vs ds s1 rs q => ⟨G1, S1, ds, s1, rs, q⟩, fun G1 H1 S1 cls d1 x st rx q => kx _ _ _ _ _ _ st rx q⟩) fun us s3 ⟨vs, H3, I3, r3, G3, S3, ds, st3, rs3, q3⟩ => ⟨⟨ClX.pin_at I3, I3.kIn⟩, ?_⟩
        have hsp : toSp X.K R2 (.ref a :: vs) H3 (fun _ H4 => ∃ G4 S4, Stp X.K G H S G4 H4 S4 ∧ E.nx (some d0 :: δ') S4) (WE W σ) := ⟨G3, S3, d0 :: ds, _, _, st3.rel, .cons (r0.mono st3.sg) rs3, q3, fun G4 H4 S4 v d4 st4 rv q => ⟨G4, S4, st3.trans st4, q⟩, fun G4 H4 S4 cls d4 x st4 rx q => kx _ _ _ _ _ _ (st3.trans st4) rx q⟩
        have rv : Vals (V.ref a :: vs) (Value.ref a :: us) := .cons rfl r3
        have hl := F2.len _ _ _ _ hsp
        have bd := hb2 s3 (Value.ref a :: us) I3.kIn (by rw [List.append_nil, ← rv.length]; exact hl)
        rw [List.append_nil] at bd
        refine wpAny_call (PySem.W.method_call (ClX.pin_at I3) (codeAny_mono (F2.run X.A X.stack s3 H3 ⟨.ref a :: us, []⟩ _ _ _ _ hr I3.env0 bd rv hsp) fun r s' hq => ?_))
        match r, hq with
        | .error e9, hq => exact L2N.passAt tk σ _ H3 s3 e9 s' I3 hq
        | .ok (.ret z), hq =>
          obtain ⟨v, H4, I4, rz, G4, S4, st4, q4⟩ := ClX.unpinE (I3.after hq)
          exact ⟨rfl, G4, H4, S4, I4, st4, q4⟩
    · exact h.elim
  · exact h.elim
end
section
variable {P : Program} {w : World} {mg : Str → Option Value} {base : Heap}
abbrev nfS (x qual : Str) (params : Arguments) (body : List Stmt) (scope : Scope) (cc c : Addr) : NdefX.NF := ⟨x, qual, params, body, scope, [("__class__", cc)], c⟩
theorem fnS {x qual : Str} {params : Arguments} {rest : List Stmt} {scope : Scope} {f : Addr} {fd : FuncData} {cc c D f2 : Addr} {cs : List Nat} {N ps ps2 : List Str} {k k2 : Nat} {R R2 : DSp} {ta : DTA} {tr : DTS} {e : Expr} {es : List Expr} {p0 p1 p2 p3 p4 : Pos} {ar : Arg} {fd2 : FuncData}
    (F : FunS K x qual params (.Expr (.Call (.Attribute (.Call (.Name "super" p0) [] [] p1) "__init__" p2) (e :: es) [] p3) p4 :: rest) scope f fd cc c) (Sc : NdefX.NScope N ps ["__class__"] scope) (hks : scope.names.lookup ("super" : Str) = some .globalImplicit)
    (har : (params.posonlyargs ++ params.args).head? = some ar) (hp0 : ps[0]? = some ar.arg) (U : SupF P K mg cc c D f2 cs) (F2 : FnOk P w K mg base (L2N.CX P w) k2 f2 fd2 ps2 (toSp K R2)) (hb2 : Binds K fd2 ps2 [])
    (len : Ln ps.length R) (rd : Rd (dSeq (dSup cs R2 ta) tr) N R)
    (ha : ∀ (A : Around) (outer : List Env) (s : Shared) (H : Hp) (E : XK), Room k (A.deeper (NdefX.envF (nfS x qual params (.Expr (.Call (.Attribute (.Call (.Name "super" p0) [] [] p1) "__init__" p2) (e :: es) [] p3) p4 :: rest) scope cc c) f s.heap.objs.size)) →
      PDA (NdefX.ncx (L2N.CX P w) P w K mg base N (nfS x qual params (.Expr (.Call (.Attribute (.Call (.Name "super" p0) [] [] p1) "__init__" p2) (e :: es) [] p3) p4 :: rest) scope cc c) f A outer s H E) (e :: es) ta ∧
      PDSs (NdefX.ncx (L2N.CX P w) P w K mg base N (nfS x qual params (.Expr (.Call (.Attribute (.Call (.Name "super" p0) [] [] p1) "__init__" p2) (e :: es) [] p3) p4 :: rest) scope cc c) f A outer s H E) rest tr)
    (hk2 : k2 ≤ k := by decide) (he : ∀ L : Addr, starEach (e :: es) (NdefX.envF (nfS x qual params (.Expr (.Call (.Attribute (.Call (.Name "super" p0) [] [] p1) "__init__" p2) (e :: es) [] p3) p4 :: rest) scope cc c) f L) = (false, eval e (NdefX.envF (nfS x qual params (.Expr (.Call (.Attribute (.Call (.Name "super" p0) [] [] p1) "__init__" p2) (e :: es) [] p3) p4 :: rest) scope cc c) f L)) :: starEach es (NdefX.envF (nfS x qual params (.Expr (.Call (.Attribute (.Call (.Name "super" p0) [] [] p1) "__init__" p2) (e :: es) [] p3) p4 :: rest) scope cc c) f L) := by intro _; rfl)
    (hpl : ∀ L : Addr, (backTo p3 (starEach es (NdefX.envF (nfS x qual params (.Expr (.Call (.Attribute (.Call (.Name "super" p0) [] [] p1) "__init__" p2) (e :: es) [] p3) p4 :: rest) scope cc c) f L))).any (·.1) = false := by intro _; rfl) (hin : ∀ L : Addr, interactive (NdefX.envF (nfS x qual params (.Expr (.Call (.Attribute (.Call (.Name "super" p0) [] [] p1) "__init__" p2) (e :: es) [] p3) p4 :: rest) scope cc c) f L) = false := by intro _; rfl)
    (ht : ∀ L : Addr, ∃ pl, eval (.Call (.Attribute (.Call (.Name "super" p0) [] [] p1) "__init__" p2) (e :: es) [] p3) (NdefX.envF (nfS x qual params (.Expr (.Call (.Attribute (.Call (.Name "super" p0) [] [] p1) "__init__" p2) (e :: es) [] p3) p4 :: rest) scope cc c) f L) = (do
      let ov ← attributeBase (.Call (.Name "super" p0) [] [] p1) "__init__" (NdefX.envF (nfS x qual params (.Expr (.Call (.Attribute (.Call (.Name "super" p0) [] [] p1) "__init__" p2) (e :: es) [] p3) p4 :: rest) scope cc c) f L) (eval (.Call (.Name "super" p0) [] [] p1) (NdefX.envF (nfS x qual params (.Expr (.Call (.Attribute (.Call (.Name "super" p0) [] [] p1) "__init__" p2) (e :: es) [] p3) p4 :: rest) scope cc c) f L))
      standAt p2.atName
      let (g, first) ← holding [ov] (getMethod ov "__init__" pl)
      callWith p3 g first (backTo p3 (starEach (e :: es) (NdefX.envF (nfS x qual params (.Expr (.Call (.Attribute (.Call (.Name "super" p0) [] [] p1) "__init__" p2) (e :: es) [] p3) p4 :: rest) scope cc c) f L))) []) := by intro _; exact ⟨_, rfl⟩)
    (hsw : ∀ L : Addr, swapsWith (.Call (.Attribute (.Call (.Name "super" p0) [] [] p1) "__init__" p2) (e :: es) [] p3) none p4.line (NdefX.envF (nfS x qual params (.Expr (.Call (.Attribute (.Call (.Name "super" p0) [] [] p1) "__init__" p2) (e :: es) [] p3) p4 :: rest) scope cc c) f L) = pure false := by intro _; rfl) :
    FnOk P w K mg base (L2N.CX P w) (k + 1) f fd ps (toSp K R) := by
  obtain ⟨oc, od, dV, kV, doc, pm, an, ct, osl, rfl, lk, hcd, _, _⟩ := F.ex
  have hpl1 : ps.length + 1 ≤ N.length := by
    have q := congrArg List.length Sc.pre
    rw [List.length_take, List.length_append] at q
    simp only [List.length_cons, List.length_nil] at q
    omega
  refine ⟨fun vs H Q E h => ?_, fun A outer s H args us vs Q E hr e0 hb r hsp => ?_⟩
  · obtain ⟨G, S, ds, QD, XD, _, rs, h, _⟩ := h
    rw [rs.length]; exact len _ _ _ _ h
  obtain ⟨G, S, ds, QD, XD, rl, rs, h, kq, kx⟩ := hsp
  have hds := len _ _ _ _ h
  have hl : vs.length = ps.length := by rw [rs.length]; exact hds
  have h0 := rd ds S QD XD h
  have KX : K.In s.heap := e0.mod.kin.keeps fun b o e => (e0.bs b o e).1
  have lim : s.heap.NoLimit := e0.mod.nolimit.keeps fun b o e => (e0.bs b o e).1
  obtain ⟨cl, cld, csl, hcc⟩ := U.cell
  obtain ⟨ccl, cdd, vs0, ccs, tf, hco, hvs⟩ := U.code
  obtain ⟨cdD, hD⟩ := U.cls
  have hb3 := e0.bs _ _ (e0.mod.kin _ _ hcc)
  have C : NdefX.CellsAt [(("__class__" : Str), cc)] ["__class__"] [none] s.heap H := by
    have lk1 : ∀ {y : Str} {c1 : Addr}, ([(("__class__" : Str), cc)] : List (Str × Addr)).lookup y = some c1 → y = "__class__" ∧ c1 = cc := fun {y c1} e => by
      have m := PySem.mem_of_lookup e
      simpa using m
    refine ⟨rfl, fun y c1 e => ?_, fun y z c1 e1 e2 => (lk1 e1).1.trans (lk1 e2).1.symm, fun i y e => ?_⟩
    · obtain ⟨_, rfl⟩ := lk1 e
      exact ⟨hb3.2, _, _, hb3.1, rfl⟩
    · match i, e with
      | 0, e =>
        have ey : ("__class__" : Str) = y := by simpa using e
        subst ey
        exact ⟨cc, by simp [List.lookup], fun v z => by simp at z⟩
      | i + 1, e => simp at e
  refine PySem.ks_codeAny_call_defAt (binds := ps.zip us) hr.depth (KX _ _ lk) rfl lim (PySem.W.codeRec_of KX hcd) rfl hb Sc.nocell (fun ⟨n, _⟩ hy => Sc.par n (List.of_mem_zip hy).1) (fun h₁ hns kp => ?_) Sc.co Sc.gen Sc.kind
  have I : Inv (NdefX.ncx (L2N.CX P w) P w K mg base N (nfS x qual params (.Expr (.Call (.Attribute (.Call (.Name "super" p0) [] [] p1) "__init__" p2) (e :: es) [] p3) p4 :: rest) scope cc c) f A outer s H E) [] (NdefX.startF N vs [none]) H { s with heap := h₁, toks := s.toks + (ps.zip us).length } :=
    NdefX.inv_startN Sc hr.hd e0 hl r C hns kp
  rw [startF_none (by omega)] at I
  have re0 : RpE K G (L2.start N vs) (startD N ds) := startD_rpe rs (by omega)
  obtain ⟨hA, hR⟩ := ha A outer s H E (hr.deeper _)
  have tk : L2N.Takes (NdefX.ncx (L2N.CX P w) P w K mg base N (nfS x qual params (.Expr (.Call (.Attribute (.Call (.Name "super" p0) [] [] p1) "__init__" p2) (e :: es) [] p3) p4 :: rest) scope cc c) f A outer s H E) (fun cls d _ H => E cls d H) := L2N.takes_of rfl rfl rfl rfl
  have hN0 : N[0]? = some ar.arg := by
    have h1 : 0 < ps.length := (List.getElem?_eq_some_iff.mp hp0).1
    have q : (N.take (ps.length + 1))[0]? = (ps ++ [("__class__" : Str)])[0]? := congrArg (fun l => l[0]?) Sc.pre
    rw [List.getElem?_take_of_lt (by omega), List.getElem?_append_left h1, hp0] at q
    exact q
  obtain ⟨pl, ht⟩ := ht s.heap.objs.size
  refine PySem.ks_wpAt_execs_cons (PySem.ks_wpAt_mono (sup_step (W := fun cls d _ H => E cls d H) (X := NdefX.ncx (L2N.CX P w) P w K mg base N (nfS x qual params (.Expr (.Call (.Attribute (.Call (.Name "super" p0) [] [] p1) "__init__" p2) (e :: es) [] p3) p4 :: rest) scope cc c) f A outer s H E) hks (Sc.frk _ (by simp)) (by simp [NdefX.ncx, List.lookup]) rfl rfl (Sc.par _ (List.mem_of_getElem? hp0)) hN0 lk har U F2 hb2 ((hr.deeper _).mono hk2) hA tk I re0 rl h0 (fun G' H' S' cls d x st rx q => kx _ _ _ _ _ _ st rx q) (he _) (hpl _) (pl := pl) ht (hin _) (hsw _)) (fun fl s' hs => ?_) fun e9 s' hs => hs)
  obtain ⟨rfl, G1, H1, S1, I1, st1, q1⟩ := hs
  refine PySem.wpAt_of_wpAny ?_
  have er : ER K (fun cls d _ H => E cls d H) G1 H1 S1 (ends QD XD) { nx := fun _ H' => Q .non H', rt := Q } :=
    ⟨fun G2 H2 S2 σ2 δ2 s2 _ q => kq _ _ _ _ _ (st1.trans s2) .non q, fun G2 H2 S2 v d2 s2 r2 q => kq _ _ _ _ _ (st1.trans s2) r2 q, fun _ _ _ _ _ _ _ q => q.elim, fun _ _ _ _ _ _ _ q => q.elim, fun G2 H2 S2 σ2 δ2 cls d x s2 _ rx q => kx _ _ _ _ _ _ (st1.trans s2) rx q⟩
  refine wpAny_mono (((hR).run _ tk (passes_of rfl)).run [] s' (L2.start N vs) H1 { nx := fun _ H' => Q .non H', rt := Q } I1 ⟨G1, _, S1, _, re0.mono st1.sg, st1.rel, q1, er⟩) (fun fl s2 hs => ?_) fun e9 s2 hs => hs
  have fin : ∀ {σ' : L2.St} {H' : Hp} {v : V} {u : Value}, Inv (NdefX.ncx (L2N.CX P w) P w K mg base N (nfS x qual params (.Expr (.Call (.Attribute (.Call (.Name "super" p0) [] [] p1) "__init__" p2) (e :: es) [] p3) p4 :: rest) scope cc c) f A outer s H E) [] σ' H' s2 →
      L2.RelV v u → Q v H' → CE outer P w H s Q u s2 := fun {σ' H' v u} J rv q => ⟨v, H', J.os, J.bare, J.base, J.hok, rv, q⟩
  cases fl with
  | ret u =>
    obtain ⟨v, σ', H', J, rv, q⟩ := hs
    exact fin J rv q
  | next =>
    obtain ⟨σ', H', J, q⟩ := hs
    exact fin (v := V.non) (u := Value.none) J rfl q
  | brk =>
    obtain ⟨_, _, _, q⟩ := hs
    exact False.elim q
  | cont =>
    obtain ⟨_, _, _, q⟩ := hs
    exact False.elim q
end
end SM

set_option Elab.async false
set_option linter.all false
set_option maxRecDepth 100000
set_option maxHeartbeats 2000000
namespace SM
open PySem PySem.Spec PyProof.Rows L2
open PySem.W (EachIs AllAlike Sortable dataLe)
variable {K : PySem.W.Frag} {G G' G2 H H' H2 : Hp} {S S' S2 : Sto}
/-! ### {} and d[k] = v, the keys tuples -/
section
variable {X : Cx} {pos pos' : Pos} {e o i : Expr} {te : DTE} {k : Nat}
def dDictO : DTE := fun _ S Q _ => ∀ p, S p = none → Q (.adr p) (su S p (.dT []))
theorem de_dictO : PD X (.Dict [] [] pos) dDictO := ⟨fun W tk => PE.weak pe_dnewT (by
  rintro σ H Q ⟨G, δ, S, QD, XD, re, rl, h, kq, kx⟩
  intro p hp
  exact kq _ _ _ _ _ (Stp.newO rl hp (o := .dT []) ⟨[], rfl, .nil⟩) (.adr p) (h p (rl.free hp).2))⟩
def dSetK (to ti te : DTE) : DTS := fun E δ S => te δ S (fun d S1 => to δ S1 (fun y S2 => ti δ S2 (fun z S3 => match y, z with
  | .adr q, .tup ds => ownk S3 q fun oo => (match oo with
    | some (.dT kvs) => (match dKeys ds with
      | some ks => kvs.length < sizeLine ∧ E.nx δ (su S3 q (.dT (putD kvs ks d)))
      | none => False)
    | _ => False)
  | _, _ => False) (fun x S1 => E.xc x δ S1)) (fun x S1 => E.xc x δ S1)) (fun x S1 => E.xc x δ S1)
theorem ds_setK {to ti : DTE} (hr : Room k X.A) (he : PD X e te) (ho : PD X o to) (hi : PD X i ti) (hs : swapsWithSole [.Subscript o i pos'] e pos.line X.env = pure false := by rfl) (hw : swappedStores [.Subscript o i pos'] e X.env = pure none := by rfl)
    (h1 : (assignEach [.Subscript o i pos'] X.env).map (·.2) = [assign (.Subscript o i pos') X.env] := by rfl)
    (ha : ∀ v, assign (.Subscript o i pos') X.env v = (do
      let ov ← holding [v] (eval o X.env)
      let iv ← holding [v, ov] (eval i X.env)
      standAt pos'
      holding [v, ov, iv] (setItem ov iv v)
      release [v, ov, iv] []) := by intro _; rfl) : PDS X (.Assign [.Subscript o i pos'] e pos) (dSetK to ti te) := ⟨fun W tk po => PS.weak (ps_asg (he.run W tk) (pg_sub (ho.run W tk) (hi.run W tk) (set_dict (by have := hr.un; omega)) ha) hs hw h1) (by
  rintro D σ H ⟨G, δ, S, E, re, rl, h, er⟩
  refine ⟨G, δ, S, _, _, re, rl, h, fun G1 H1 S1 v d s1 rv q => ⟨G1, δ, S1, _, _, re.mono s1.sg, s1.rel, q, fun G2 H2 S2 y dy s2 ry q2 => ⟨G2, δ, S2, _, _, re.mono (s1.trans s2).sg, s2.rel, q2, fun G3 H3 S3 z dz s3 rz q3 => ?_, (er.kx re).step (s1.trans s2)⟩, (er.kx re).step s1⟩, er.kx re⟩
  split at q3
  · rename_i q ds
    cases ry
    simp only [ownk_is] at q3
    split at q3
    · rename_i kvs eS
      split at q3
      · rename_i ks ek
        obtain ⟨hl, q3⟩ := q3
        obtain ⟨_, ws, e1, r1⟩ := s3.rel.own q _ eS
        obtain ⟨b, us, rfl, _, hb, rb, _⟩ := vw_tup s3.rel rz rfl
        have eu := dKeys_rps rb ek
        subst eu
        refine ⟨q, _, rfl, DPut.t e1 hb (by rw [rkv_len r1]; exact hl), ?_⟩
        have s4 : Stp X.K G3 H3 S3 G3 (upd H3 q (.dT (putK ws ks v))) (su S3 q (.dT (putD kvs ks d))) := Stp.mut s3.rel eS ⟨_, rfl, rkv_put ks r1 (rv.mono (s2.trans s3).sg)⟩
        have s14 := ((s1.trans s2).trans s3).trans s4
        exact er.nx _ _ _ _ _ s14 (re.mono s14.sg) q3
      · exact q3.elim
    · exact q3.elim
  · exact q3.elim)⟩
end
/-! ### sorted(text) -/
theorem each_signs (x : Str) : ∀ (l : List Nat) (n : Nat) (vs : List Value), (∀ (j : Nat) (c : Nat), l[j]? = some c → x.cps[n + j]? = some c) → vs.length = l.length → (∀ (j : Nat) (v : Value), vs[j]? = some v → SignAt x (n + j) v) →
    EachIs (fun v c => ∃ u, v = Value.str (one c) u) vs l
  | [], n, vs, _, hl, _ => by rw [List.length_eq_zero_iff.mp hl]; exact .nil
  | c :: l, n, vs, h1, hl, h2 => by
    match vs, hl with
    | v :: r, hl =>
      obtain ⟨c', u, e1, e2⟩ := h2 0 v rfl
      have e3 := h1 0 c rfl
      rw [e1] at e3
      cases e3
      refine .cons ⟨u, e2⟩ (each_signs x l (n + 1) r (fun j d e => ?_) (by simpa using hl) (fun j v e => ?_))
      · have := h1 (j + 1) d e
        rw [show n + 1 + j = n + (j + 1) by omega]; exact this
      · have := h2 (j + 1) v e
        rw [show n + 1 + j = n + (j + 1) by omega]; exact this
theorem sorted_str {prog : Program} {w : World} {A : Around} {E : Value → Shared → Prop} {s : Shared} {x : Str} {t : Tok} {Q : Value → Shared → Prop} (hh : A.handled = none) (hn : x.cps.size ≤ sizeLine) (hu : A.units + 64 < cLine)
    (h : ∀ h' out tk, (∀ b o, s.heap.get? b = some o → h'.get? b = some o) → ∀ p n, s.heap.get? p = none → h'.get? p = some (seqObj "list" out n) → EachIs (fun v c => ∃ u, v = Value.str (one c) u) out.toList (x.cps.toList.mergeSort (dataLe false fun c => PyData.str (one c))) → Q (.ref p) { s with heap := h', toks := tk }) :
    wpAny (model prog w) A (call (.builtin "sorted") [.str x t]) Q E s := by
  refine call_function_entry_kw kind_sorted plain_sorted entry_sorted (args_sorted1 _) ?_
  unfold Builtin.«sorted»
  refine wpAny_bind (m := checkCount "sorted" 1 1 _) (wpAny_pure ?_)
  refine wpAny_bind (wpAny_collect_str (by exact hh) x t (fun s' acc kp hg hd ho hi => ?_) hn)
  have hl : acc.toList.length = x.cps.toList.length := by rw [Array.length_toList, Array.length_toList]; exact hi.1
  have hz : x.cps.toList.length ≤ sizeLine := by rw [Array.length_toList]; exact hn
  have ev : EachIs (fun v c => ∃ u, v = Value.str (one c) u) acc.toList x.cps.toList := each_signs x _ 0 _ (fun j c e => by rw [Nat.zero_add, ← Array.getElem?_toList]; exact e) hl (fun j v e => by rw [Nat.zero_add]; exact hi.2 j v (by rw [← Array.getElem?_toList]; exact e))
  refine wpAny_bind (wpAny_newList ?_ (by rw [hl]; exact hz))
  have hnew : (s'.heap.push (seqObj "list" acc.toList.toArray 0)).get? s'.heap.objs.size = some (seqObj "list" acc.toList.toArray 0) := Heap.get?_push_size _ rfl
  refine wpAny_bind (wpAny_holding (PySem.W.list_sort_data (R := fun v c => ∃ u, v = Value.str (one c) u) (enc := fun c => PyData.str (one c)) (bs := x.cps.toList) (vs := acc.toList) hnew ev (ev.mono fun v c ⟨u, e⟩ => ⟨[], by subst e; exact .str _ _, by simp⟩) (PySem.W.AllAlike.of fun _ _ => rfl) (PySem.W.Sortable.others fun _ => ⟨(fun z => nomatch z), fun _ z => nomatch z⟩) hz ?_ (fun out hlen eo => ?_)))
  · intro b _
    show A.in1.units + 1 + (PyData.str (one b)).depth < cLine
    simp only [PyData.depth]
    have e1 : A.in1.units = A.units + 1 := rfl
    omega
  · refine wpAny_pure ⟨_, rfl, ?_⟩
    obtain ⟨hp, g, d, tk, os⟩ := s'
    subst hg hd ho
    have ne : ∀ b o, s.heap.get? b = some o → b ≠ hp.objs.size := fun b o e => Nat.ne_of_lt (Heap.lt_size (kp b o e))
    have hno : s.heap.get? hp.objs.size = none := by
      cases q : s.heap.get? hp.objs.size with
      | none => rfl
      | some o => exact absurd rfl (ne _ _ q)
    obtain ⟨n, hat⟩ := sortedHeap_at (out := out.toArray) hnew
    refine h _ out.toArray tk (fun b o e => ?_) hp.objs.size n hno hat (by simpa using eo)
    have e2 : (hp.push (seqObj "list" acc.toList.toArray 0)).get? b = some o := Heap.get?_push_of_some _ (kp b o e)
    exact (sortedHeap_old (ne b o e) (Heap.lt_size e2)).trans e2
def codesD (s : Str) : List D := s.cps.toList.map fun c => .str (one c)
def sortS (d : D) (S : Sto) (Q : DQ) : Prop := vwk S d fun d' => match d' with
  | .str s => Q (.lst (sorted (codesD s))) S
  | _ => False
theorem sorted_codes (s : Str) : sorted (codesD s) = (s.cps.toList.mergeSort (dataLe false fun c => PyData.str (one c))).map fun c => .str (one c) := by
  unfold sorted codesD
  exact (PySem.W.sort_maps (r := dataLe false fun c : Nat => PyData.str (one c)) (s := dataLe false toP) (fun c : Nat => D.str (one c)) (l := s.cps.toList) (fun _ _ _ _ => rfl)).symm
theorem rps_signs : ∀ {l : List Nat} {out : List Value}, (∀ c ∈ l, okS (one c)) → EachIs (fun v c => ∃ u, v = Value.str (one c) u) out l → Rps K G (l.map fun c => V.str (one c)) (l.map fun c => D.str (one c)) ∧ Vals (l.map fun c => V.str (one c)) out
  | [], _, _, .nil => ⟨.nil, .nil⟩
  | c :: l, _, h, .cons a b => by
    obtain ⟨r1, r2⟩ := rps_signs (fun d hd => h d (List.mem_cons_of_mem _ hd)) b
    exact ⟨.cons (.str (h c (List.mem_cons_self ..))) r1, .cons a r2⟩
theorem c_sortedS {X : Cx} {k : Nat} (hr : Room k X.A) : CallR X (.builtin "sorted") (liftC X.K (on1 sortS)) := by
  intro pins s σ H vs us Q I r h
  obtain ⟨G, S, ds, QD, rl, rs, h, kq⟩ := h
  obtain ⟨d, v, rfl, rfl, rx, h⟩ := on1_of h rs
  simp only [sortS, vwk_is] at h
  split at h
  · rename_i x ex
    obtain ⟨e, hz⟩ := (vw_scal rx).2.2.1 _ ex
    subst e
    obtain ⟨u, rfl, ru⟩ := vals1 r
    obtain ⟨t, rfl⟩ := (show RelV (.str x) u from by cases rx; exact ru)
    have hz2 := okS_iff.mp hz
    refine sorted_str hr.hd hz2.1 hr.units fun h' out tk kp p n hno hat eo => ?_
    have lo : (x.cps.toList.mergeSort (dataLe false fun c => PyData.str (one c))).length = x.cps.toList.length := (List.mergeSort_perm ..).length_eq
    have okc : ∀ c ∈ x.cps.toList.mergeSort (dataLe false fun c => PyData.str (one c)), okS (one c) := fun c hc => by
      refine okS_iff.mpr ⟨by show 1 ≤ sizeLine; rw [sizeLine_eq]; omega, fun c' hc' => ?_⟩
      have e : c' = c := by simpa [one] using hc'
      rw [e]
      exact hz2.2 c ((List.mergeSort_perm ..).mem_iff.mp hc)
    obtain ⟨r1, r2⟩ := rps_signs (K := X.K) (G := G) okc eo
    rw [← sorted_codes] at r1
    have hl : (sorted (codesD x)).length ≤ sizeLine := by rw [sorted_codes, List.length_map, lo, Array.length_toList]; exact hz2.1
    have hn : H p = none := I.hok.gone hno
    obtain ⟨s1, r3⟩ := fz_lst rl hn r1 hl
    refine ⟨.ref p, _, I.laidN (t' := tk) kp hno hn ?_, rfl, kq _ _ _ _ _ s1 r3 h⟩
    exact ⟨by rw [r1.length]; exact hl, out.toList, n, r2, by simpa using hat⟩
  · exact h.elim
end SM

set_option Elab.async false
set_option linter.all false
set_option maxRecDepth 100000
set_option maxHeartbeats 2000000
namespace SM
open PySem PySem.Spec PyProof.Rows L2
variable {K : PySem.W.Frag} {G G' G2 H H' H2 : Hp} {S S' S2 : Sto}
/-! ### methods, properties and constants by the class of the object -/
def TabAll {α : Type} (Pr : Nat → α → Prop) : List (Nat × α) → Prop
  | [] => True
  | (c, x) :: T => Pr c x ∧ TabAll Pr T
theorem TabAll.at {α : Type} {Pr : Nat → α → Prop} : ∀ {T : List (Nat × α)} {c : Nat} {x : α}, TabAll Pr T → T.lookup c = some x → Pr c x
  | (c0, x0) :: T, c, x, h, e => by
    rw [List.lookup_cons] at e
    split at e
    · rename_i q
      cases e
      rw [eq_of_beq q]
      exact h.1
    · exact TabAll.at h.2 e
theorem meth_eq {C f g : Addr} {m : Str} (h : Meth K C m f) (e : f = g) : Meth K C m g := e ▸ h
abbrev GmT (P : Program) (w : World) (K : PySem.W.Frag) (mg : Str → Option Value) (base : Heap) (k : Nat) (m : Str) : List (Nat × DSp) → Prop := TabAll fun c R => ∃ k' ps, k' ≤ k ∧ Gm P w K mg base k' c m ps R
section
variable {X : Cx} {e o : Expr} {es : List Expr} {pos apos : Pos} {k j : Nat} {m : Str} {t : DTA} {to : DTE} {T : List (Nat × DSp)}
/-- by the class of the object; the promise may be told in other words -/
structure tabK (T : List (Nat × DSp)) (x : D) (F : DSp → Prop) : Prop where
  it : ∃ c fs R R0, x = .ins c fs ∧ T.lookup c = some R ∧ (∀ ds S Q X, R0 ds S Q X → R ds S Q X) ∧ F R0
theorem tab_r {T : List (Nat × DSp)} {c : Nat} {fs : List D} {R : DSp} {F : DSp → Prop} (h : T.lookup c = some R) (q : F R) : tabK T (.ins c fs) F := ⟨c, fs, R, R, rfl, h, fun _ _ _ _ z => z, q⟩
theorem tab_o {T : List (Nat × DSp)} {c : Nat} {fs : List D} {R R0 : DSp} {F : DSp → Prop} (h : T.lookup c = some R) (hR : ∀ ds S Q X, R0 ds S Q X → R ds S Q X) (q : F R0) : tabK T (.ins c fs) F := ⟨c, fs, R, R0, rfl, h, hR, q⟩
structure tabV (T : List (Nat × Str)) (x : D) (F : Str → Prop) : Prop where
  it : ∃ c fs z, x = .ins c fs ∧ T.lookup c = some z ∧ F z
theorem tabv_r {T : List (Nat × Str)} {c : Nat} {fs : List D} {z : Str} {F : Str → Prop} (h : T.lookup c = some z) (q : F z) : tabV T (.ins c fs) F := ⟨c, fs, z, rfl, h, q⟩
def dMethT (T : List (Nat × DSp)) (to : DTE) (t : DTA) : DTE := fun δ S Q XD => to δ S (fun x S1 => vwk S1 x fun x' => tabK T x' fun R => t δ S1 (fun ds S2 => R (x :: ds) S2 Q XD) XD) XD
theorem de_methT {pl : Sem Bool} (ho : PD X o to) (F : GmT X.prog X.w X.K X.mg X.base k m T) (hr : Room j X.A) (ha : PDA X (e :: es) t) (hkj : k ≤ j := by decide)
    (hst : starEach (e :: es) X.env = (false, eval e X.env) :: starEach es X.env := by rfl) (hpl : (backTo pos (starEach es X.env)).any (·.1) = false := by rfl)
    (ht : eval (.Call (.Attribute o m apos) (e :: es) [] pos) X.env = (do
      let ov ← eval o X.env
      standAt apos.atName
      let (f, first) ← holding [ov] (getMethod ov m pl)
      callWith pos f first (backTo pos (starEach (e :: es) X.env)) (backToKw pos (keywordEach [] X.env))) := by rfl) :
    PD X (.Call (.Attribute o m apos) (e :: es) [] pos) (dMethT T to t) := ⟨fun W tk => ⟨fun pins s σ H Q I h => by
  obtain ⟨G, δ, S, QD, XD, re, rl, h, kq, kx⟩ := h
  refine PySem.W.methodCall_KW (pl := pl) ?_ ht
  apply thn ((ho.run W tk).run pins s σ H (fun v H1 => ∃ q c R dx fs, T.lookup c = some R ∧ v = .ref q ∧ H1 q = some (.ins (cad X.K c) dx fs) ∧ (∀ n, n ∉ cfs c → fs.lookup n = none) ∧ liftA X.K W t σ H1 (fun vs H2 => toSp X.K R (v :: vs) H2 Q (WE W σ))) I ⟨G, δ, S, _, XD, re, rl, h, fun G1 H1 S1 v d s1 rv q => ?_, kx⟩)
  · rintro u s1 ⟨y, H1, I1, rx, q, c, R, dx, fs, hT, rfl, eq, l, hq⟩
    obtain rfl : u = Value.ref q := rx
    obtain ⟨k', ps, hk', F⟩ := F.at hT
    obtain ⟨f, fd, F, M, hb⟩ := F.ex
    refine getmeth_ok I1 eq M.cl M.me (l _ M.nf) ?_
    refine PySem.W.callWith_K (first := [.ref q]) (h₀ := X.base) I.ok.mod.kin M.me.kp ?_ hst hpl
    apply thn ((ha.run W tk).run pos pins s1 σ H1 _ I1 hq)
    rintro us s2 ⟨vs, H2, I2, r, q2⟩
    refine ⟨I2.kIn, run_fnD (us := .ref q :: us) (vs := .ref q :: vs) (ds := []) (dvs := []) F (hr.mono (Nat.le_trans hk' hkj)) hb .nil tk I2 (.cons rfl r) ?_⟩
    simpa using q2
  · simp only [vwk_is] at q
    obtain ⟨c, fs, R, R0, ex, hT, hR, q⟩ := q
    obtain ⟨z, dx, vs, rfl, hz, rs, _⟩ := vw_ins s1.rel rv ex
    refine ⟨z, c, R, dx, _, hT, rfl, hz, fun n hn => lookup_none hn, G1, δ, S1, _, XD, re.mono s1.sg, s1.rel, q, fun G2 H2 S2 ws es s2 rw' q2 => ?_, kx.step s1⟩
    exact ⟨G2, S2, _, QD, XD, s2.rel, .cons (rv.mono s2.sg) rw', hR _ _ _ _ q2, fun G3 H3 S3 v d s3 r q => kq _ _ _ _ _ ((s1.trans s2).trans s3) r q, fun G3 H3 S3 cls d x s3 r q => kx _ _ _ _ _ _ ((s1.trans s2).trans s3) r q⟩⟩⟩
theorem de_methT0 {pl : Sem Bool} (ho : PD X o to) (F : GmT X.prog X.w X.K X.mg X.base k m T) (hr : Room j X.A) (hkj : k ≤ j := by decide)
    (ht : eval (.Call (.Attribute o m apos) [] [] pos) X.env = (do
      let ov ← eval o X.env
      standAt apos.atName
      let (f, first) ← holding [ov] (getMethod ov m pl)
      callWith pos f first (backTo pos (starEach [] X.env)) (backToKw pos (keywordEach [] X.env))) := by rfl) :
    PD X (.Call (.Attribute o m apos) [] [] pos) (dMethT T to dNil) := ⟨fun W tk => ⟨fun pins s σ H Q I h => by
  obtain ⟨G, δ, S, QD, XD, re, rl, h, kq, kx⟩ := h
  refine PySem.W.methodCall_KW (pl := pl) ?_ ht
  apply thn ((ho.run W tk).run pins s σ H (fun v H1 => ∃ q c R dx fs, T.lookup c = some R ∧ v = .ref q ∧ H1 q = some (.ins (cad X.K c) dx fs) ∧ (∀ n, n ∉ cfs c → fs.lookup n = none) ∧ toSp X.K R [v] H1 Q (WE W σ)) I ⟨G, δ, S, _, XD, re, rl, h, fun G1 H1 S1 v d s1 rv q => ?_, kx⟩)
  · rintro u s1 ⟨y, H1, I1, rx, q, c, R, dx, fs, hT, rfl, eq, l, hq⟩
    obtain rfl : u = Value.ref q := rx
    obtain ⟨k', ps, hk', F⟩ := F.at hT
    obtain ⟨f, fd, F, M, hb⟩ := F.ex
    refine getmeth_ok I1 eq M.cl M.me (l _ M.nf) ?_
    refine PySem.W.callWith_K0 (first := [.ref q]) I1.kIn M.me.kp ?_
    exact run_fnD (us := [.ref q]) (vs := [.ref q]) (ds := []) (dvs := []) F (hr.mono (Nat.le_trans hk' hkj)) hb .nil tk I1 (.cons rfl .nil) hq
  · simp only [vwk_is] at q
    obtain ⟨c, fs, R, R0, ex, hT, hR, q⟩ := q
    obtain ⟨z, dx, vs, rfl, hz, rs, _⟩ := vw_ins s1.rel rv ex
    exact ⟨z, c, R, dx, _, hT, rfl, hz, fun n hn => lookup_none hn, G1, S1, _, QD, XD, s1.rel, .cons rv .nil, hR _ _ _ _ q, fun G3 H3 S3 v d s3 r q => kq _ _ _ _ _ (s1.trans s3) r q, fun G3 H3 S3 cls d x s3 r q => kx _ _ _ _ _ _ (s1.trans s3) r q⟩⟩⟩
/-! a property -/
structure Gp (P : Program) (w : World) (K : PySem.W.Frag) (mg : Str → Option Value) (base : Heap) (k : Nat) (c : Nat) (m : Str) (ps : List Str) (R : DSp) : Prop where
  ex : ∃ f fd p, FnOk P w K mg base (L2N.CX P w) k f fd ps (toSp K R) ∧ Cls K (cad K c) ∧ PropOf K (cad K c) m p f ∧ Binds K fd ps []
abbrev GpT (P : Program) (w : World) (K : PySem.W.Frag) (mg : Str → Option Value) (base : Heap) (k : Nat) (m : Str) : List (Nat × DSp) → Prop := TabAll fun c R => ∃ k' ps, k' ≤ k ∧ Gp P w K mg base k' c m ps R
def dPropT (T : List (Nat × DSp)) (to : DTE) : DTE := fun δ S Q XD => to δ S (fun x S1 => vwk S1 x fun x' => tabK T x' fun R => R [x] S1 Q noX) XD
theorem de_propT (ho : PD X o to) (F : GpT X.prog X.w X.K X.mg X.base k m T) (hr : Room j X.A) (hkj : k + 1 ≤ j := by decide) (hab : attributeBase o m X.env (eval o X.env) = eval o X.env := by rfl) : PD X (.Attribute o m pos) (dPropT T to) := ⟨fun W tk => ⟨fun pins s σ H Q I h => by
  obtain ⟨G, δ, S, QD, XD, re, rl, h, kq, kx⟩ := h
  refine attr_of hab (thn ((ho.run W tk).run pins s σ H (fun v H1 => ∃ q c R dx fs, T.lookup c = some R ∧ v = .ref q ∧ H1 q = some (.ins (cad X.K c) dx fs) ∧ toSp X.K R [v] H1 Q (fun _ _ _ => False)) I ⟨G, δ, S, _, XD, re, rl, h, fun G1 H1 S1 v d s1 rv q => ?_, kx⟩) ?_)
  · simp only [vwk_is] at q
    obtain ⟨c, fs, R, R0, ex, hT, hR, q⟩ := q
    obtain ⟨z, dx, vs, rfl, hz, rs, _⟩ := vw_ins s1.rel rv ex
    exact ⟨z, c, R, dx, _, hT, rfl, hz, G1, S1, _, QD, noX, s1.rel, .cons rv .nil, hR _ _ _ _ q, fun G3 H3 S3 v d s3 r q => kq _ _ _ _ _ (s1.trans s3) r q, fun _ _ _ _ _ _ _ _ z => z⟩
  · rintro u s1 ⟨y, H1, I1, rx, q, c, R, dx, fs, hT, rfl, eq, hq⟩
    obtain rfl : u = Value.ref q := rx
    obtain ⟨k', ps, hk', F⟩ := F.at hT
    obtain ⟨f, fd, p, F, C, hp, hb⟩ := F.ex
    exact getprop_ok (dvs := []) I1 eq C hp F (hr.mono (by omega)) hb .nil (fun _ _ _ _ _ _ _ z => (cx_no z).elim) hq⟩⟩
/-! a constant of the class -/
def CoOk (K : PySem.W.Frag) (c : Nat) (f z : Str) : Prop := Cls K (cad K c) ∧ f ∉ cfs c ∧ okS z ∧ ∃ u, Con K (cad K c) f (.str z) u
def dConT (T : List (Nat × Str)) (to : DTE) : DTE := fun δ S Q XD => to δ S (fun x S1 => vwk S1 x fun x' => tabV T x' fun z => Q (.str z) S1) XD
theorem de_conT {T : List (Nat × Str)} (ho : PD X o to) (F : TabAll (fun c z => CoOk X.K c m z) T) (hab : attributeBase o m X.env (eval o X.env) = eval o X.env := by rfl) : PD X (.Attribute o m pos) (dConT T to) := ⟨fun W tk => PE.weak (pe_con (ho.run W tk) hab) (by
  rintro σ H Q ⟨G, δ, S, QD, XD, re, rl, h, kq, kx⟩
  refine ⟨G, δ, S, _, XD, re, rl, h, fun G1 H1 S1 v d s1 rv q => ?_, kx⟩
  simp only [vwk_is] at q
  obtain ⟨c, fs, z, ex, hT, q⟩ := q
  obtain ⟨q1, dx, vs, rfl, hz, rs, _⟩ := vw_ins s1.rel rv ex
  obtain ⟨C, nf, hk, u, hc⟩ := F.at hT
  exact ⟨q1, _, dx, _, _, u, rfl, hz, C, hc, lookup_none nf, kq _ _ _ _ _ s1 (.str hk) q⟩)⟩
/-! len(o) -/
@[irreducible] def lenT (T : List (Nat × DSp)) : D → Sto → DQ → Prop := fun d S Q => vwk S d fun d' => match d' with
  | .ins c _ => (match T.lookup c with
    | some R => R [d] S (fun v S' => match v with
      | .int n => (0 ≤ n ∧ n < 9223372036854775808) ∧ Q (.int n) S'
      | _ => False) noX
    | none => False)
  | _ => False
theorem c_lenT (F : TabAll (fun c R => ∃ k' ps, k' ≤ k ∧ Go X.prog X.w X.K X.mg X.base k' c "__len__" ps R) T) (hr : Room j X.A) (hkj : k + 1 ≤ j := by decide) : CallR X (.builtin "len") (liftC X.K (on1 (lenT T))) := by
  intro pins s σ H vs us Q I r h
  obtain ⟨G, S, ds, QD, rl, rs, h, kq⟩ := h
  obtain ⟨d, v, rfl, rfl, rx, h⟩ := on1_of h rs
  simp only [lenT, vwk_is] at h
  split at h
  · rename_i c fs ex
    split at h
    · rename_i R hT
      obtain ⟨k', ps, hk', F⟩ := F.at hT
      refine c_lenI (c := c) (R := R) F (hr.mono (show k' + 1 ≤ j by omega)) (Nat.le_refl _) pins s σ H _ us Q I r ⟨G, S, [d], QD, rl, rs, ?_, kq⟩
      show lenI c R d S QD
      simp only [lenI, ownI, vwk_is, ex]
      exact ⟨trivial, h⟩
    · exact h.elim
  · exact h.elim
end
end SM

set_option Elab.async false
set_option linter.all false
set_option maxRecDepth 100000
set_option maxHeartbeats 2000000
namespace SM
open PySem PySem.Spec PyProof.Rows L2
open PySem.W (Frag)
/-! ### the head's facts of defs that have captured __class__ -/
def ccOf (K : Frag) (f : Addr) : Addr := match K.lookup f with
  | some ⟨_, _, .func g, _⟩ => (match g.closure with
    | [(_, a)] => a
    | _ => 0)
  | _ => 0
def coOf (K : Frag) (f : Addr) : Addr := match K.lookup f with
  | some ⟨_, _, .func g, _⟩ => (match g.code with
    | .ref c => c
    | _ => 0)
  | _ => 0
def Df.obS (K : Frag) (d : Df) : He.FnW := match K.lookup (d.ad K) with
  | some ⟨_, _, .func g, _⟩ => some (g.name, g.qualname, g.params, g.body, g.scope, g.globals, [], g.builtins)
  | _ => none
def Df.okS (K : Frag) (d : Df) : Bool := PySem.W.keepIn K (.ref (d.ad K)) && (match K.lookup (d.ad K) with
  | some ⟨_, _, .func g, _⟩ => PySem.W.codeIn K g.code d.qual && (He.dflB K g.defaults [] && (He.kwdB K g.kwdefaults [] && ((match g.code with
    | .ref _ => true
    | _ => false) && (match g.closure with
    | [(n, _)] => decide (n = "__class__")
    | _ => false))))
  | _ => false)
abbrev Df.IsS (K : Frag) (d : Df) : Prop := ∃ fd, FunS K d.name d.qual (defArgs d.st) (defBody d.st) (defScope d.st) (d.ad K) fd (ccOf K (d.ad K)) (coOf K (d.ad K))
theorem Df.isS {K : Frag} {d : Df} (e : d.obS K = d.val) (c : d.okS K = true) : d.IsS K := by
  unfold Df.okS at c
  rw [Bool.and_eq_true] at c
  obtain ⟨kp, c2⟩ := c
  unfold Df.obS at e
  split at c2
  · rename_i oc od g osl lk
    rw [lk] at e
    simp only [Bool.and_eq_true] at c2
    obtain ⟨c3, c4, c5, c6, c7⟩ := c2
    obtain ⟨n1, n2, n3, n4, n5, n6, n7, n8, n9, n10, n11, n12, n13, n14, n15⟩ := g
    simp only [Df.val, Option.some.injEq, Prod.mk.injEq] at e
    obtain ⟨rfl, rfl, rfl, rfl, rfl, rfl, _, rfl⟩ := e
    dsimp only at c3 c4 c5 c6 c7
    split at c6
    · rename_i cd
      split at c7
      · rename_i n cc
        have hn := of_decide_eq_true c7
        subst hn
        have e1 : ccOf K (d.ad K) = cc := by unfold ccOf; rw [lk]
        have e2 : coOf K (d.ad K) = cd := by unfold coOf; rw [lk]
        refine ⟨_, ⟨oc, od, n8, n9, n10, n11, n12, n14, osl, rfl, ?_, ?_, He.dflB_ok c4, He.kwdB_ok c5⟩, kp⟩
        · rw [e1, e2]; exact lk
        · rw [e2]; exact c3
      · cases c7
    · cases c6
  · cases c2
def obC2 (ch : ChK) (fn fs : List Df) (K : Frag) : He.AlD := (ch.all (fun p => p K) && (fn.all (fun d => d.ok K) && fs.all fun d => d.okS K), (fn.map fun d => d.ob K) ++ fs.map fun d => d.obS K)
def vlC2 (fn fs : List Df) : He.AlD := (true, fn.map Df.val ++ fs.map Df.val)
def Says2 (ch : ChK) (fn fs : List Df) (K : Frag) : Prop := obC2 ch fn fs K = vlC2 fn fs
def obG2 (n : Nat) (ch : ChK) (fn fs : List Df) (g : Addr → Option Obj) : He.AlD := obC2 ch fn fs (He.frG g (cStatics :: He.asD g n))
def hookC2 (n : Nat) (ch : ChK) (fn fs : List Df) : PySem.W.Hook where
  α := He.AlD
  obs := fun s => obG2 n ch fn fs s.heap.get?
  val := fun _ => vlC2 fn fs
  says := fun _ h => ∃ K : Frag, K.In h ∧ Says2 ch fn fs K
  of := fun _ _ e => ⟨_, He.frG_in, e⟩
  keeps := fun _ _ _ ⟨K, hK, c⟩ k => ⟨K, PySem.W.Frag.In.keeps hK k, c⟩
theorem obG2_eq {n : Nat} {ch : ChK} {fn fs : List Df} {g : Addr → Option Obj} {s : Shared} (h : ∀ a, g a = s.heap.get? a) : obG2 n ch fn fs g = (hookC2 n ch fn fs).obs s := by
  have e : g = s.heap.get? := funext h
  rw [e] <;> rfl
theorem Says2.bool {ch : ChK} {fn fs : List Df} {K : Frag} (c : Says2 ch fn fs K) : ch.all (fun p => p K) = true ∧ fn.all (fun d => d.ok K) = true ∧ fs.all (fun d => d.okS K) = true := by
  have c1 : (ch.all (fun p => p K) && (fn.all (fun d => d.ok K) && fs.all fun d => d.okS K)) = true := congrArg Prod.fst c
  simpa only [Bool.and_eq_true] using c1
theorem Says2.fact {ch : ChK} {fn fs : List Df} {K : Frag} (c : Says2 ch fn fs K) (i : Nat) {p : Frag → Bool} (h : ch[i]? = some p := by rfl) : p K = true :=
  List.all_eq_true.mp c.bool.1 p (List.mem_of_getElem? h)
theorem Says2.lists {ch : ChK} {fn fs : List Df} {K : Frag} (c : Says2 ch fn fs K) : (fn.map fun d => d.ob K) = fn.map Df.val ∧ (fs.map fun d => d.obS K) = fs.map Df.val :=
  List.append_inj (congrArg Prod.snd c) (by rw [List.length_map, List.length_map])
theorem Says2.df {ch : ChK} {fn fs : List Df} {K : Frag} (c : Says2 ch fn fs K) (i : Nat) {d : Df} (h : fn[i]? = some d := by rfl) : d.Is K := by
  have e2 : (fn.map fun d => d.ob K)[i]? = (fn.map Df.val)[i]? := by rw [c.lists.1]
  rw [List.getElem?_map, List.getElem?_map, h] at e2
  exact Df.is (Option.some.inj e2) (List.all_eq_true.mp c.bool.2.1 d (List.mem_of_getElem? h))
theorem Says2.dfS {ch : ChK} {fn fs : List Df} {K : Frag} (c : Says2 ch fn fs K) (i : Nat) {d : Df} (h : fs[i]? = some d := by rfl) : d.IsS K := by
  have e2 : (fs.map fun d => d.obS K)[i]? = (fs.map Df.val)[i]? := by rw [c.lists.2]
  rw [List.getElem?_map, List.getElem?_map, h] at e2
  exact Df.isS (Option.some.inj e2) (List.all_eq_true.mp c.bool.2.2 d (List.mem_of_getElem? h))
/-- super() of the def at f in the class dc: the def above at f2, self of one of the classes cs -/
def supB (K : Frag) (f : Addr) (dc : Nat) (f2 : Addr) (cs : List Nat) (file : Str) : Bool :=
  (match K.lookup (ccOf K f) with
    | some ⟨_, _, .cell (some (.ref D)), _⟩ => decide (D = cad K dc)
    | _ => false) && ((match K.lookup (coOf K f) with
    | some ⟨_, _, .fields vs, _⟩ => (match (vs[2]? : Option Value) with
      | some (.str fl _) => decide (fl = file)
      | _ => false)
    | _ => false) && ((PySem.W.clsIn K (cad K dc)).isSome && (He.eqO (PySem.W.nsIn K cStatics "thirdparty.any") (some none) && (decide (PySem.W.typeIn K (.ref f2) = some (.type "function")) && (PySem.W.fnIn K f2 &&
    cs.all fun c' => decide (PySem.W.mroIn K (cad K c') (.ref (cad K dc)) = some true) && He.eqO (PySem.W.ks_superIn K (cad K c') (cad K dc) "__init__") (some (some (.ref f2))))))))
theorem sup_of {P : Program} {K : Frag} {mg : Str → Option Value} {f f2 : Addr} {dc : Nat} {cs : List Nat} {file : Str} (h : supB K f dc f2 cs file = true) (hn : mg "super" = none) (hf : P.main.file = file) (ht : (P.main.scope.names.lookup ("super" : Str)).isSome = false) :
    SupF P K mg (ccOf K f) (coOf K f) (cad K dc) f2 cs := by
  unfold supB at h
  simp only [Bool.and_eq_true] at h
  obtain ⟨h1, h2, h3, h4, h5, h6, h7⟩ := h
  refine ⟨?_, ?_, Option.isSome_iff_exists.mp h3, ht, hn, He.eqO_ok h4, of_decide_eq_true h5, h6, fun c' hc => ?_⟩
  · split at h1
    · rename_i cl cld D csl e
      rw [← of_decide_eq_true h1]
      exact ⟨_, _, _, e⟩
    · cases h1
  · split at h2
    · rename_i ccl cdd vs ccs e
      split at h2
      · rename_i fl tf ev
        have hfl := of_decide_eq_true h2
        subst hfl
        rw [← hf] at ev
        exact ⟨_, _, _, _, _, e, ev⟩
      · cases h2
    · cases h2
  · have hm : c' ∈ cs := by simpa using hc
    have := List.all_eq_true.mp h7 c' hm
    rw [Bool.and_eq_true] at this
    exact ⟨of_decide_eq_true this.1, He.eqO_ok this.2⟩
/-! facts of properties and constants -/
def prP (K : Frag) (C : Addr) (m : Str) : Addr := match PySem.W.findIn K (.ref C) m with
  | some (some (.ref p)) => p
  | _ => 0
def prAd (K : Frag) (C : Addr) (m : Str) : Addr := match PySem.W.recIn K (prP K C m) "property" with
  | some (.ref g :: _) => g
  | _ => 0
def propB (K : Frag) (C : Addr) (m : Str) : Bool := He.eqO (PySem.W.findIn K (.ref C) m) (some (some (.ref (prP K C m)))) && (He.eqO (PySem.W.specialIn K (.ref (prP K C m)) "__get__") (some (some (.builtin "property.__get__"))) && (decide (PySem.W.takesIn K (.ref (prP K C m)) = some true) && (match PySem.W.recIn K (prP K C m) "property" with
  | some (.ref _ :: _) => true
  | _ => false)))
theorem prop_of {K : Frag} {C : Addr} {m : Str} (h : propB K C m = true) : PropOf K C m (prP K C m) (prAd K C m) := by
  unfold propB at h
  simp only [Bool.and_eq_true] at h
  obtain ⟨h1, h2, h3, h4⟩ := h
  refine ⟨He.eqO_ok h1, He.eqO_ok h2, of_decide_eq_true h3, ?_⟩
  unfold prAd
  split at h4
  · rename_i g rest e
    rw [e]
    exact ⟨_, rfl⟩
  · cases h4
theorem prop_eq {K : Frag} {C p f g : Addr} {m : Str} (h : PropOf K C m p f) (e : f = g) : PropOf K C m p g := e ▸ h
def conB (K : Frag) (c : Nat) (f z : Str) : Bool := (match PySem.W.findIn K (.ref (cad K c)) f with
  | some (some (.str y t)) => decide (y = z) && He.eqO (PySem.W.specialIn K (.str y t) "__get__") (some none)
  | _ => false) && (!PySem.W.copiedNames.contains f && (decide (f ∉ cfs c) && (decide (z.length ≤ 1000) && z.cps.toList.all fun x => decide (x < 1114112))))
theorem con_of {K : Frag} {c : Nat} {f z : Str} (hc : Cls K (cad K c)) (h : conB K c f z = true) : CoOk K c f z := by
  unfold conB at h
  simp only [Bool.and_eq_true] at h
  obtain ⟨h1, h2, h3, h4, h5⟩ := h
  refine ⟨hc, of_decide_eq_true h3, okS_iff.mpr ⟨by have := of_decide_eq_true h4; rw [sizeLine_eq]; omega, fun x hx => of_decide_eq_true (List.all_eq_true.mp h5 x hx)⟩, ?_⟩
  split at h1
  · rename_i y t e
    rw [Bool.and_eq_true] at h1
    have hy := of_decide_eq_true h1.1
    subst hy
    exact ⟨_, e, ⟨t, rfl⟩, He.eqO_ok h1.2, by simpa using h2⟩
  · cases h1
/-! tables of isinstance -/
def ti_Rule : List (Nat × Bool) := [(2, true), (3, true), (4, true)]
def ti_CountRule : List (Nat × Bool) := [(2, false), (3, true), (4, true)]
def ti_SameRule : List (Nat × Bool) := [(2, false), (3, false), (4, true)]
end SM

set_option Elab.async false
set_option linter.all false
set_option maxRecDepth 100000
set_option maxHeartbeats 2000000
namespace SM
open PySem PySem.Spec PyProof.Rows L2
variable {K : PySem.W.Frag} {G G' G2 H H' H2 : Hp} {S S' S2 : Sto}
/-! ### methods with a keyword-only parameter (its default: None) -/
/-- called without the keyword -/
structure Gmd (P : Program) (w : World) (K : PySem.W.Frag) (mg : Str → Option Value) (base : Heap) (k : Nat) (c : Nat) (m : Str) (ps : List Str) (dds : List D) (R : DSp) : Prop where
  ex : ∃ f fd dvs ds, FnOk P w K mg base (L2N.CX P w) k f fd ps (toSp K R) ∧ MOk K c m f ∧ Binds K fd ps ds ∧ Vals dvs ds ∧ ∀ G, Rps K G dvs dds
/-- called with it -/
structure Gmk (P : Program) (w : World) (K : PySem.W.Frag) (mg : Str → Option Value) (base : Heap) (k : Nat) (c : Nat) (m : Str) (n : Nat) (x : Str) (ps : List Str) (R : DSp) : Prop where
  ex : ∃ f fd, FnOk P w K mg base (L2N.CX P w) k f fd ps (toSp K R) ∧ MOk K c m f ∧ KBn K fd ps n [x] (fun us ws => us ++ ws) (fun vs zs => vs ++ zs)
section
variable {X : Cx} {e o ke : Expr} {es : List Expr} {pos apos kpos : Pos} {k j n : Nat} {m kx : Str} {t : DTA} {to tke : DTE} {T : List (Nat × DSp)} {dds : List D}
def dMethTD (T : List (Nat × DSp)) (dds : List D) (to : DTE) (t : DTA) : DTE := fun δ S Q XD => to δ S (fun x S1 => vwk S1 x fun x' => tabK T x' fun R => t δ S1 (fun ds S2 => R (x :: (ds ++ dds)) S2 Q XD) XD) XD
theorem de_methTD {pl : Sem Bool} (ho : PD X o to) (F : TabAll (fun c R => ∃ k' ps, k' ≤ k ∧ Gmd X.prog X.w X.K X.mg X.base k' c m ps dds R) T) (hr : Room j X.A) (ha : PDA X (e :: es) t) (hkj : k ≤ j := by decide)
    (hst : starEach (e :: es) X.env = (false, eval e X.env) :: starEach es X.env := by rfl) (hpl : (backTo pos (starEach es X.env)).any (·.1) = false := by rfl)
    (ht : eval (.Call (.Attribute o m apos) (e :: es) [] pos) X.env = (do
      let ov ← eval o X.env
      standAt apos.atName
      let (f, first) ← holding [ov] (getMethod ov m pl)
      callWith pos f first (backTo pos (starEach (e :: es) X.env)) (backToKw pos (keywordEach [] X.env))) := by rfl) :
    PD X (.Call (.Attribute o m apos) (e :: es) [] pos) (dMethTD T dds to t) := ⟨fun W tk => ⟨fun pins s σ H Q I h => by
  obtain ⟨G, δ, S, QD, XD, re, rl, h, kq, kx⟩ := h
  refine PySem.W.methodCall_KW (pl := pl) ?_ ht
  apply thn ((ho.run W tk).run pins s σ H (fun v H1 => ∃ q c R dx fs, T.lookup c = some R ∧ v = .ref q ∧ H1 q = some (.ins (cad X.K c) dx fs) ∧ (∀ n, n ∉ cfs c → fs.lookup n = none) ∧ liftA X.K W t σ H1 (fun vs H2 => ∀ dvs, (∀ G, Rps X.K G dvs dds) → toSp X.K R (v :: (vs ++ dvs)) H2 Q (WE W σ))) I ⟨G, δ, S, _, XD, re, rl, h, fun G1 H1 S1 v d s1 rv q => ?_, kx⟩)
  · rintro u s1 ⟨y, H1, I1, rx, q, c, R, dx, fs, hT, rfl, eq, l, hq⟩
    obtain rfl : u = Value.ref q := rx
    obtain ⟨k', ps, hk', F⟩ := F.at hT
    obtain ⟨f, fd, dvs, dsv, F, M, hb, hd, hdd⟩ := F.ex
    refine getmeth_ok I1 eq M.cl M.me (l _ M.nf) ?_
    refine PySem.W.callWith_K (first := [.ref q]) (h₀ := X.base) I.ok.mod.kin M.me.kp ?_ hst hpl
    apply thn ((ha.run W tk).run pos pins s1 σ H1 _ I1 hq)
    rintro us s2 ⟨vs, H2, I2, r, q2⟩
    exact ⟨I2.kIn, run_fnD (us := .ref q :: us) (vs := .ref q :: vs) F (hr.mono (Nat.le_trans hk' hkj)) hb hd tk I2 (.cons rfl r) (q2 dvs hdd)⟩
  · simp only [vwk_is] at q
    obtain ⟨c, fs, R, R0, ex, hT, hR, q⟩ := q
    obtain ⟨z, dx, vs, rfl, hz, rs, _⟩ := vw_ins s1.rel rv ex
    refine ⟨z, c, R, dx, _, hT, rfl, hz, fun n hn => lookup_none hn, G1, δ, S1, _, XD, re.mono s1.sg, s1.rel, q, fun G2 H2 S2 ws es s2 rw' q2 dvs hdd => ?_, kx.step s1⟩
    exact ⟨G2, S2, _, QD, XD, s2.rel, .cons (rv.mono s2.sg) (rw'.append (hdd G2)), hR _ _ _ _ q2, fun G3 H3 S3 v d s3 r q => kq _ _ _ _ _ ((s1.trans s2).trans s3) r q, fun G3 H3 S3 cls d x s3 r q => kx _ _ _ _ _ _ ((s1.trans s2).trans s3) r q⟩⟩⟩
def dMethTK (T : List (Nat × DSp)) (n : Nat) (to : DTE) (t : DTA) (tke : DTE) : DTE := fun δ S Q XD => to δ S (fun x S1 => vwk S1 x fun x' => tabK T x' fun R => t δ S1 (fun ds S2 => tke δ S2 (fun z S3 => ds.length + 1 = n ∧ R (x :: (ds ++ [z])) S3 Q XD) XD) XD) XD
theorem de_methTK {pl : Sem Bool} (ho : PD X o to) (F : TabAll (fun c R => ∃ k' ps, k' ≤ k ∧ Gmk X.prog X.w X.K X.mg X.base k' c m n kx ps R) T) (hr : Room j X.A) (ha : PDA X (e :: es) t) (hke : PD X ke tke) (hkj : k ≤ j := by decide)
    (hall : (backToKw pos (keywordEach [⟨some kx, ke, kpos⟩] X.env)).all (·.1.isSome) = true := by rfl) (hks : (backToKw pos (keywordEach [⟨some kx, ke, kpos⟩] X.env)).filterMap (·.1) = [kx] := by rfl)
    (he : starEach (e :: es) X.env = (false, eval e X.env) :: starEach es X.env := by rfl) (hpl : ((backTo pos (starEach (e :: es) X.env)).any (·.1) || (backToKw pos (keywordEach [⟨some kx, ke, kpos⟩] X.env)).any (·.1.isNone)) = false := by rfl)
    (ht : eval (.Call (.Attribute o m apos) (e :: es) [⟨some kx, ke, kpos⟩] pos) X.env = (do
      let ov ← eval o X.env
      standAt apos.atName
      let (f, first) ← holding [ov] (getMethod ov m pl)
      callWith pos f first (backTo pos (starEach (e :: es) X.env)) (backToKw pos (keywordEach [⟨some kx, ke, kpos⟩] X.env))) := by rfl) :
    PD X (.Call (.Attribute o m apos) (e :: es) [⟨some kx, ke, kpos⟩] pos) (dMethTK T n to t tke) := ⟨fun W tk => ⟨fun pins s σ H Q I h => by
  obtain ⟨G, δ, S, QD, XD, re, rl, h, kq, kxx⟩ := h
  refine PySem.W.methodCall_KW (pl := pl) ?_ ht
  apply thn ((ho.run W tk).run pins s σ H (fun v H1 => ∃ q c R dx fs, T.lookup c = some R ∧ v = .ref q ∧ H1 q = some (.ins (cad X.K c) dx fs) ∧ (∀ n, n ∉ cfs c → fs.lookup n = none) ∧ liftA X.K W t σ H1 (fun vs H2 => liftE X.K W tke σ H2 (fun zv H3 => vs.length + 1 = n ∧ toSp X.K R (v :: (vs ++ [zv])) H3 Q (WE W σ)))) I ⟨G, δ, S, _, XD, re, rl, h, fun G1 H1 S1 v d s1 rv q => ?_, kxx⟩)
  · rintro u s1 ⟨y, H1, I1, rx, q, c, R, dx, fs, hT, rfl, eq, l, hq⟩
    obtain rfl : u = Value.ref q := rx
    obtain ⟨k', ps, hk', F⟩ := F.at hT
    obtain ⟨f, fd, F, M, hb⟩ := F.ex
    refine getmeth_ok I1 eq M.cl M.me (l _ M.nf) ?_
    refine PySem.W.callWith_KW (first := [.ref q]) (h₀ := X.base) I.ok.mod.kin M.me.kp hall ?_ hpl he
    apply thn ((ha.run W tk).run pos pins s1 σ H1 _ I1 hq)
    rintro us s2 ⟨vs, H2, I2, r, q2⟩
    have pk : PK X [⟨some kx, ke, kpos⟩] (tCons (liftE X.K W tke) tNil) := pk_cons (hke.run W tk) pk_nil
    apply thn (pk.run pos pins s2 σ H2 (fun zs H3 => ∃ zv, zs = [zv] ∧ vs.length + 1 = n ∧ toSp X.K R (.ref q :: (vs ++ [zv])) H3 Q (WE W σ)) I2 ?_)
    · rintro ws s3 ⟨zs, H3, I3, rz, zv, rfl, hn, q3⟩
      refine ⟨I3.kIn, ?_⟩
      rw [hks]
      have r1 : Vals (V.ref q :: vs) (Value.ref q :: us) := .cons rfl r
      have r2 := hb.rel r1 rz
      have l1 : (Value.ref q :: us).length = n := by rw [List.length_cons, ← r.length]; exact hn
      have l2 : ws.length = [kx].length := by rw [← rz.length]; rfl
      refine wpAny_call (codeAny_mono (F.run X.A X.stack s3 H3 ⟨Value.ref q :: us, [kx].zip ws⟩ _ _ Q (WE W σ) (hr.mono (Nat.le_trans hk' hkj)) I3.env0 (hb.to s3 _ ws I3.kIn l1 l2) r2 q3) fun r9 s' hq9 => ?_)
      match r9, hq9 with
      | .error e9, hq9 => exact L2N.passAt tk σ _ H3 s3 e9 s' I3 hq9
      | .ok (.ret z9), hq9 => exact I3.after hq9
    · obtain ⟨G2, δ2, S2, QD2, XD2, re2, rl2, h2, kq2, kx2⟩ := q2
      exact ⟨G2, δ2, S2, QD2, XD2, re2, rl2, h2, fun G3 H3 S3 zv dz s3 rz qz => ⟨zv, rfl, kq2 _ _ _ _ _ s3 rz qz⟩, kx2⟩
  · simp only [vwk_is] at q
    obtain ⟨c, fs, R, R0, ex, hT, hR, q⟩ := q
    obtain ⟨z, dx, vs, rfl, hz, rs, _⟩ := vw_ins s1.rel rv ex
    refine ⟨z, c, R, dx, _, hT, rfl, hz, fun n hn => lookup_none hn, G1, δ, S1, _, XD, re.mono s1.sg, s1.rel, q, fun G2 H2 S2 ws es s2 rw' q2 => ?_, kxx.step s1⟩
    refine ⟨G2, δ, S2, _, XD, re.mono (s1.trans s2).sg, s2.rel, q2, fun G3 H3 S3 zv dz s3 rz q3 => ?_, kxx.step (s1.trans s2)⟩
    exact ⟨by rw [rw'.length]; exact q3.1, G3, S3, _, QD, XD, s3.rel, .cons (rv.mono (s2.trans s3).sg) ((rw'.mono s3.sg).append (.cons rz .nil)), hR _ _ _ _ q3.2, fun G4 H4 S4 v d s4 r q => kq _ _ _ _ _ (((s1.trans s2).trans s3).trans s4) r q, fun G4 H4 S4 cls d x s4 r q => kxx _ _ _ _ _ _ (((s1.trans s2).trans s3).trans s4) r q⟩⟩⟩
end
end SM

set_option Elab.async false
set_option linter.all false
set_option maxRecDepth 100000
set_option maxHeartbeats 2000000
namespace SM
open PySem PySem.Spec PyProof.Rows L2
/-! ### == of what may be an instance or plain data -/
def eqV (c : Nat) (oth : List Nat) (R : DSp) : R2D := fun x y S Q => vwk S x fun x' => match x' with
  | .ins _ _ => eqI c oth R false x y S Q
  | _ => oEq x y S Q
theorem o_eqV {X : Cx} {c : Nat} {oth : List Nat} {R : DSp} (h1 : OpR X (compareOp .Eq) (lift2 X.K (eqI c oth R false))) (h2 : OpR X (compareOp .Eq) (lift2 X.K oEq)) : OpR X (compareOp .Eq) (lift2 X.K (eqV c oth R)) := by
  rintro pins s σ H x y u v Q I rx ry ⟨G, S, dx, dy, QD, rl, r1, r2, h, kq⟩
  simp only [eqV, vwk_is] at h
  split at h
  · exact h1 pins s σ H x y u v Q I rx ry ⟨G, S, dx, dy, QD, rl, r1, r2, h, kq⟩
  · exact h2 pins s σ H x y u v Q I rx ry ⟨G, S, dx, dy, QD, rl, r1, r2, h, kq⟩
end SM

set_option Elab.async false
set_option linter.all false
set_option maxRecDepth 100000
set_option maxHeartbeats 2000000
/-! Loops and joins told by the slots that change. -/
namespace SM
open PySem PySem.Spec PyProof.Rows L2
def gets (δ : DS) : List Nat → DS
  | [] => []
  | i :: r => nth δ i :: gets δ r
def setO : DS → Nat → Option D → DS
  | [], _, _ => []
  | _ :: r, 0, d => d :: r
  | x :: r, n + 1, d => x :: setO r n d
def setsA : List Nat → DS → DS → DS
  | [] => fun δ _ => δ
  | i :: r => fun δ ws => match ws with
    | [] => δ
    | w :: ws => setsA r (setO δ i w) ws
def sets (δ : DS) (ix : List Nat) (ws : DS) : DS := setsA ix δ ws
theorem setO_nth : ∀ (δ : DS) (i : Nat), setO δ i (nth δ i) = δ
  | [], _ => rfl
  | _ :: _, 0 => rfl
  | x :: r, i + 1 => by rw [setO, nth, setO_nth r i]
theorem sets_gets (δ : DS) : ∀ ix : List Nat, sets δ ix (gets δ ix) = δ
  | [] => rfl
  | i :: r => by
    show setsA r (setO δ i (nth δ i)) (gets δ r) = δ
    rw [setO_nth]
    exact sets_gets δ r
/-! the environment as a list -/
theorem put_0 {x : Option D} {r : DS} {d : D} : put (x :: r) 0 d = some d :: r := rfl
theorem put_s {x : Option D} {r : DS} {n : Nat} {d : D} : put (x :: r) (n + 1) d = x :: put r n d := rfl
theorem setO_0 {x d : Option D} {r : DS} : setO (x :: r) 0 d = d :: r := rfl
theorem setO_s {x d : Option D} {r : DS} {n : Nat} : setO (x :: r) (n + 1) d = x :: setO r n d := rfl
theorem sets_n {δ ws : DS} : sets δ [] ws = δ := rfl
theorem sets_c {δ ws : DS} {w : Option D} {i : Nat} {r : List Nat} : sets δ (i :: r) (w :: ws) = sets (setO δ i w) r ws := rfl
theorem gets_n {δ : DS} : gets δ [] = [] := rfl
theorem gets_c {δ : DS} {i : Nat} {r : List Nat} : gets δ (i :: r) = nth δ i :: gets δ r := rfl
theorem nth_0 {x : Option D} {r : DS} : nth (x :: r) 0 = x := rfl
theorem nth_s {x : Option D} {r : DS} {n : Nat} : nth (x :: r) (n + 1) = nth r n := rfl
theorem loop_eG {gd : Gd} {q : Pat} {tb : DTS} {E : DEnds} {α : Type} {g : α → D} (ix : List Nat) (J : List α → DS → Sto → Prop) {δ0 δl : DS} {S0 : Sto} {xs : List α} (hδ : δ0 = δl) (hI : ∀ xs ws S, J xs ws S → gok gd S)
    (hs : ∀ x r ws S, J (x :: r) ws S → ∃ δ1, bindP q (g x) (sets δl ix ws) = some δ1 ∧ ∀ N : DS → Sto → Prop, (∀ δ2 S2, δ2 = sets δl ix (gets δ2 ix) → J r (gets δ2 ix) S2 → N δ2 S2) → tb { E with nx := N, ct := N, bk := E.nx } δ1 S)
    (hd : ∀ ws S, J [] ws S → E.nx (sets δl ix ws) S) (h : J xs (gets δ0 ix) S0) : loopK gd q tb E (xs.map g) δ0 S0 := by
  subst hδ
  refine loop_ofG (g := g) (fun r δ S => δ = sets δ0 ix (gets δ ix) ∧ J r (gets δ ix) S) (fun xs δ S h => hI _ _ _ h.2) ?_ ?_ ⟨(sets_gets δ0 ix).symm, h⟩
  · rintro x r δ S ⟨e, hJ⟩
    obtain ⟨δ1, e1, t⟩ := hs x r _ S hJ
    exact ⟨δ1, by rw [e]; exact e1, fun N hN => t N fun δ2 S2 a b => hN δ2 S2 ⟨a, b⟩⟩
  · rintro δ S ⟨e, hJ⟩
    rw [e]
    exact hd _ _ hJ
theorem loop_e {q : Pat} {tb : DTS} {E : DEnds} {α : Type} {g : α → D} (ix : List Nat) (J : List α → DS → Sto → Prop) {δ0 δl : DS} {S0 : Sto} {xs : List α} (hδ : δ0 = δl)
    (hs : ∀ x r ws S, J (x :: r) ws S → ∃ δ1, bindP q (g x) (sets δl ix ws) = some δ1 ∧ ∀ N : DS → Sto → Prop, (∀ δ2 S2, δ2 = sets δl ix (gets δ2 ix) → J r (gets δ2 ix) S2 → N δ2 S2) → tb { E with nx := N, ct := N, bk := E.nx } δ1 S)
    (hd : ∀ ws S, J [] ws S → E.nx (sets δl ix ws) S) (h : J xs (gets δ0 ix) S0) : loopK none q tb E (xs.map g) δ0 S0 :=
  loop_eG (gd := none) ix J hδ (fun _ _ _ _ => True.intro) hs hd h
/-- the same, over range(n), by the index -/
theorem loop_i {q : Pat} {tb : DTS} {E : DEnds} (n : Nat) (ix : List Nat) (J : Nat → DS → Sto → Prop) {δ0 δl : DS} {S0 : Sto} (hδ : δ0 = δl)
    (hs : ∀ i ws S, i < n → J i ws S → ∃ δ1, bindP q (D.int (0 + (i : Nat))) (sets δl ix ws) = some δ1 ∧ ∀ N : DS → Sto → Prop, (∀ δ2 S2, δ2 = sets δl ix (gets δ2 ix) → J (i + 1) (gets δ2 ix) S2 → N δ2 S2) → tb { E with nx := N, ct := N, bk := E.nx } δ1 S)
    (hd : ∀ ws S, J n ws S → E.nx (sets δl ix ws) S) (h : J 0 (gets δ0 ix) S0) : loopK none q tb E ((List.range n).map fun i : Nat => D.int (0 + (i : Nat))) δ0 S0 := by
  refine loop_e (g := fun i : Nat => D.int (0 + (i : Nat))) ix (fun r ws S => ∃ i, i ≤ n ∧ r = List.range' i (n - i) ∧ J i ws S) hδ ?_ ?_ ⟨0, Nat.zero_le _, by rw [List.range_eq_range', Nat.sub_zero], h⟩
  · rintro x r ws S ⟨i, hi, e, hI⟩
    have hlt : i < n := by
      rcases Nat.lt_or_ge i n with h | h
      · exact h
      · rw [show n - i = 0 by omega] at e; cases e
    obtain ⟨m, hm⟩ : ∃ m, n - i = m + 1 := ⟨n - i - 1, by omega⟩
    rw [hm, List.range'_succ] at e
    simp only [List.cons.injEq] at e
    obtain ⟨rfl, rfl⟩ := e
    obtain ⟨δ1, e1, hN⟩ := hs x ws S hlt hI
    exact ⟨δ1, e1, fun N h => hN N fun δ2 S2 a h2 => h δ2 S2 a ⟨x + 1, hlt, by congr 1; omega, h2⟩⟩
  · rintro ws S ⟨i, hi, e, hI⟩
    have ei : i = n := by
      rcases Nat.lt_or_ge i n with h | h
      · obtain ⟨m, hm⟩ : ∃ m, n - i = m + 1 := ⟨n - i - 1, by omega⟩
        rw [hm, List.range'_succ] at e; cases e
      · omega
    subst ei
    exact hd ws S hI
theorem cut_e {t u : DTS} {E : DEnds} {δ0 δl : DS} {S : Sto} (ix : List Nat) (J : DS → Sto → Prop) (hδ : δ0 = δl) (h1 : t { E with nx := fun δ S => δ = sets δl ix (gets δ ix) ∧ J (gets δ ix) S } δl S) (h2 : ∀ ws S', J ws S' → u E (sets δl ix ws) S') : cutK t u E δ0 S := by
  subst hδ
  exact ⟨_, h1, fun δ' S' h => by rw [h.1]; exact h2 _ _ h.2⟩
end SM

set_option Elab.async false
set_option linter.all false
namespace SM
open PySem PySem.Spec PyProof.Rows L2
/-! ### names do not matter for a reading -/
theorem startD_ren : ∀ {N N' : List Str} {ds : List D}, N.length = N'.length → startD N ds = startD N' ds
  | [], [], _, _ => rfl
  | _ :: n, _ :: n', [], h => by
    show none :: startD n [] = none :: startD n' []
    rw [startD_ren (N := n) (N' := n') (by simpa using h)]
  | _ :: n, _ :: n', d :: ds, h => by
    show some d :: startD n ds = some d :: startD n' ds
    rw [startD_ren (N := n) (N' := n') (by simpa using h)]
theorem Rd.ren {t : DTS} {N N' : List Str} {R : DSp} (h : Rd t N R) (e : N.length = N'.length) : Rd t N' R := fun ds S Q X r => by
  have := h ds S Q X r
  rw [startD_ren e] at this
  exact this
end SM

set_option Elab.async false
set_option linter.all false
namespace SM
open PySem PySem.Spec PyProof.Rows L2
open PySem.W (Frag)
/-! ### the head, the part of the heap given by a list of addresses -/
def obL (as : List Addr) (ch : ChK) (fn fs : List Df) (g : Addr → Option Obj) : He.AlD := obC2 ch fn fs (He.frG g as)
def hookL (as : List Addr) (ch : ChK) (fn fs : List Df) : PySem.W.Hook where
  α := He.AlD
  obs s := obL as ch fn fs s.heap.get?
  val _ := vlC2 fn fs
  says _ h := ∃ K : Frag, K.In h ∧ Says2 ch fn fs K
  of _ _ e := ⟨_, He.frG_in, e⟩
  keeps := fun _ _ _ ⟨K, hK, c⟩ k => ⟨K, hK.keeps k, c⟩
theorem obL_eq {as : List Addr} {ch : ChK} {fn fs : List Df} {g : Addr → Option Obj} {s : Shared} (h : ∀ a, g a = s.heap.get? a) : obL as ch fn fs g = (hookL as ch fn fs).obs s := by
  have e : g = s.heap.get? := funext h
  rw [e] <;> rfl
end SM

set_option Elab.async false
set_option linter.all false
set_option maxRecDepth 100000
set_option maxHeartbeats 4000000
open PySem PySem.Spec PyProof.Rows L2 SM
local macro_rules | `(tactic| row_hasAll w_d1) => `(tactic| (try (conv => whnf)); first
  | refine vk_int ?_ | refine vk_lst ?_ | refine vk_str ?_ | refine vk_tup ?_ | refine vk_ins ?_ | refine vk_bl ?_ | refine vk_non ?_ | refine vk_dT ?_
  | refine vk_o (by row_hasAll w_sto) ?_
  | refine tab_r rfl ?_ | refine tabv_r rfl ?_ | refine itk_of rfl ?_ | refine ik_0 ?_ | refine brT ?_ | refine brF ?_
  | refine ok_o (by row_hasAll w_sto) ?_
  | refine And.intro (by first | rfl | decide | omega | assumption | exact Nat.le_of_ble_eq_true rfl) ?_)
local macro_rules | `(tactic| row_hasAll w_d) => `(tactic| (repeat row_hasAll w_d1); (try (conv => whnf)); try simp only [su_su, ofO, List.append_nil, List.nil_append, List.cons_append, Int.reduceToNat, List.set_cons_succ, List.set_cons_zero])
local macro_rules | `(tactic| row_hasAll w_sto) => `(tactic| first | exact su_same | assumption | (rw [su_ne (by first | assumption | exact Ne.symm (by assumption))]; row_hasAll w_sto))
local macro_rules | `(tactic| row_hasAll w_steq) => `(tactic| (funext zz; simp only [su, sd, List.map_nil, List.map_append, List.map_cons]; grind))
local macro_rules | `(tactic| row_hasAll w_side) => `(tactic| first
  | omega
  | (fail_if_success (with_reducible refine Nat.le_trans ?_ (Nat.le_refl sizeLine))); first | rfl | assumption | decide | exact Nat.le_of_ble_eq_true rfl
  | (simp only [List.length_cons, List.length_nil, List.length_map, List.length_append, slen_app, sizeLine_eq]; omega))
local macro_rules | `(tactic| row_hasAll w_e1) => `(tactic| (try (conv => whnf)); first
  | refine vk_int ?_ | refine vk_lst ?_ | refine vk_str ?_ | refine vk_tup ?_ | refine vk_ins ?_ | refine vk_bl ?_ | refine vk_non ?_ | refine vk_dT ?_
  | refine vk_o (by row_hasAll w_sto) ?_
  | refine tab_r rfl ?_ | refine tabv_r rfl ?_ | refine itk_of rfl ?_ | refine ik_0 ?_ | refine brT ?_ | refine brF ?_
  | refine ok_o (by row_hasAll w_sto) ?_
  | refine And.intro (by row_hasAll w_side) ?_)
local macro_rules | `(tactic| row_hasAll w_e) => `(tactic| (repeat row_hasAll w_e1); (try (conv => whnf)); try simp only [decide_true, decide_false, Bool.not_true, Bool.not_false, su_su, ofO, List.append_nil, List.nil_append, List.cons_append, Int.reduceToNat, List.set_cons_succ, List.set_cons_zero])
local macro_rules | `(tactic| row_hasAll w_env) => `(tactic| ((try simp only [startD, put_0, put_s, setO_0, setO_s, sets_n, sets_c, gets_n, gets_c, nth_0, nth_s]); (try rfl)))
local macro_rules | `(tactic| row_hasAll w_w) => `(tactic| row_hasAll w_e; repeat (first | (row_hasAll w_c; row_hasAll w_e) | (row_hasAll w_e1; row_hasAll w_e)))


namespace SM
open PySem PySem.Spec PyProof.Rows L2
theorem fresh {S : Sto} {p l : Addr} {o : OO} (h : su S p o l = none) : l ≠ p ∧ S l = none := by
  unfold su at h
  split at h
  · cases h
  · rename_i e; exact ⟨e, h⟩
/-! ### _law_bag -/
def t_l_bag (a : Addr) (ns : List Int) : DTS := (dRet (dLstO (dCons (dLc (dItems (dSl (oScr a ns) (dVar 0) dNoPart (dPart (dC (.int 63))))) (.nm 1) dYes (dCB (on1 intD) (dCons (dVar 1) dNil)) [1]) (dCons (dC (.int 0)) (dCons (dC (.int 0)) (dCons (dC (.int 7)) dNil))))))
abbrev N_l_bag : List Str := ["_law_script", "_law_cell"]
@[irreducible] def r_l_bag (a : Addr) (ns : List Int) : DSp := fun ds S Q _ => ds = [.adr a] ∧ ∀ p b, S p = none → Q (.adr p) (su S p (bagO b))
theorem len_l_bag (a : Addr) (ns : List Int) : Ln 1 (r_l_bag a ns) := fun ds S Q E h => by unfold r_l_bag at h; rw [h.1]; rfl
theorem cut63 (ns : List Int) (h : ns.length ≤ 63) : cutD (ns.map D.int) none (some 63) = ns.map D.int := by
  unfold SM.cutD
  have e : HT.sIx (ns.map D.int).length (ns.map D.int).length (some 63) = min 63 (ns.map D.int).length := HT.sIx_nat _ _ 63
  rw [HT.sIx_none, e, List.length_map, List.drop_zero, Nat.sub_zero, Nat.min_eq_right h]
  exact List.take_of_length_le (by rw [List.length_map]; exact Nat.le_refl _)
theorem rd_l_bag (a : Addr) (ns : List Int) (hn : ns.length ≤ 63) : Rd (t_l_bag a ns) N_l_bag (r_l_bag a ns) := by
  intro ds S QD XD h
  unfold r_l_bag at h
  obtain ⟨rfl, q⟩ := h
  row_hasAll w_d
  rw [cut63 ns hn]
  refine lk_map (f := D.int) (fun n _ => ⟨_, rfl, fun Q' h => ?_⟩) ?_
  · row_hasAll w_d
    exact h
  · row_hasAll w_d
    intro p hp
    exact q p ⟨ns, 0, 0, 7⟩ hp
theorem i_bag {a : Addr} {ns : List Int} {S : Sto} {Q : DQ} {X : XQ} (h : ∀ p b, S p = none → Q (.adr p) (su S p (bagO b))) : r_l_bag a ns [.adr a] S Q X := by unfold r_l_bag; exact ⟨rfl, h⟩
/-! ### _law_take -/
def t_l_take : DTS := (dCut (dIf (dAnd (dTestB (dOp oEq (dOp oIx (dVar 0) (dC (.int 2))) (dC (.int 0)))) (dTestB (dOp oLt (dOp oIx (dVar 0) (dC (.int 1))) (dCB (on1 lenD) (dCons (dOp oIx (dVar 0) (dC (.int 0))) dNil))))) (dSeq (dSet 2 (dOp oIx (dOp oIx (dVar 0) (dC (.int 0))) (dOp oIx (dVar 0) (dC (.int 1))))) (dSeq (dSetL (dVar 0) (dC (.int 1)) (dOp oAdd (dOp oIx (dVar 0) (dC (.int 1))) (dC (.int 1)))) (dIf (dTestB (dOp oGe (dVar 2) (dOp oPow (dC (.int 10)) (dC (.int 18))))) (dSetL (dVar 0) (dC (.int 2)) (dVar 2)) (dSetL (dVar 0) (dC (.int 3)) (dOp oMod (dCB (on1 intD) (dCons (dOp oAdd (dOp oAdd (dOp oMul (dOp oIx (dVar 0) (dC (.int 3))) (dC (.int 48271))) (dOp oMul (dVar 2) (dC (.int 69621)))) (dC (.int 12345))) dNil)) (dC (.int 2147483647))))))) dNext) (dSeq (dIf (dTestB (dOp oGt (dOp oIx (dVar 0) (dC (.int 2))) (dC (.int 0)))) (dSeq (dSet 3 (dOp oMod (dCB (on1 intD) (dCons (dOp oIx (dVar 0) (dC (.int 2))) dNil)) (dVar 1))) (dSeq (dSetL (dVar 0) (dC (.int 2)) (dOp oFdiv (dOp oIx (dVar 0) (dC (.int 2))) (dVar 1))) (dRet (dVar 3)))) dNext) (dSeq (dSetL (dVar 0) (dC (.int 3)) (dOp oMod (dCB (on1 intD) (dCons (dOp oAdd (dOp oMul (dOp oIx (dVar 0) (dC (.int 3))) (dC (.int 48271))) (dC (.int 11))) dNil)) (dC (.int 2147483647)))) (dRet (dOp oMod (dCB (on1 intD) (dCons (dOp oFdiv (dOp oIx (dVar 0) (dC (.int 3))) (dC (.int 16))) dNil)) (dVar 1))))))
abbrev N_l_take : List Str := ["_law_bag_here", "_law_size", "_law_cell", "_law_digit"]
@[irreducible] def r_l_take : DSp := fun ds S Q _ => ∃ a b n, ds = [.adr a, .int n] ∧ S a = some (bagO b) ∧ 0 < n ∧ n < 1073741824 ∧ ∀ v b', 0 ≤ v → v < n → Q (.int v) (su S a (bagO b'))
theorem len_l_take : Ln 2 r_l_take := fun ds S Q E h => by unfold r_l_take at h; obtain ⟨a, b, n, rfl, _⟩ := h; rfl
theorem rd_l_take : Rd t_l_take N_l_take r_l_take := by
  intro ds S QD XD h
  unfold r_l_take at h
  obtain ⟨a, b, n, rfl, hS, h0, h1, q⟩ := h
  refine ⟨fun δ' S' => ∃ b' x y, δ' = [some (.adr a), some (.int n), x, y] ∧ S' = su S a (bagO b'), ?_, ?_⟩
  · unfold bagO at hS
    have fin : ∀ x y, ∃ b' x' y', [some (D.adr a), some (.int n), x, y] = [some (.adr a), some (.int n), x', y'] ∧ S = su S a (bagO b') := fun x y => ⟨b, x, y, rfl, (su_self hS).symm⟩
    row_hasAll w_d
    refine brn_of (fun hb => ?_) (fun _ => brF (fin _ _))
    row_hasAll w_d
    refine brP (fun hc => ?_) (fun _ => fin _ _)
    have hc' : b.at_ < b.cells.length := by simpa using hc
    row_hasAll w_d
    refine ik_map hc' ?_
    row_hasAll w_d
    refine brP (fun hd => ?_) (fun hd => ?_)
    · row_hasAll w_d
      exact ⟨⟨b.cells, b.at_ + 1, _, b.seed⟩, _, _, rfl, rfl⟩
    · row_hasAll w_d
      exact ⟨⟨b.cells, b.at_ + 1, b.big, _⟩, _, _, rfl, rfl⟩
  · rintro δ' S' ⟨b', x, y, rfl, rfl⟩
    have hS' : su S a (bagO b') a = some (bagO b') := su_same
    unfold bagO at hS' ⊢
    row_hasAll w_d
    refine brP (fun hb => ?_) (fun _ => ?_)
    · row_hasAll w_d
      exact q (b'.big % n) ⟨b'.cells, b'.at_, b'.big / n, b'.seed⟩ (Int.emod_nonneg _ (by omega)) (Int.emod_lt_of_pos _ h0)
    · row_hasAll w_d
      exact q _ ⟨b'.cells, b'.at_, b'.big, (b'.seed * 48271 + 11) % 2147483647⟩ (Int.emod_nonneg _ (by omega)) (Int.emod_lt_of_pos _ h0)
theorem i_take {a : Addr} {b : Bag} {n : Int} {S : Sto} {Q : DQ} {X : XQ} (hS : S a = some (bagO b)) (h0 : 0 < n) (h1 : n < 1073741824) (q : ∀ v b', 0 ≤ v → v < n → Q (.int v) (su S a (bagO b'))) : r_l_take [.adr a, .int n] S Q X := by
  unfold r_l_take; exact ⟨a, b, n, rfl, hS, h0, h1, q⟩
/-- the bag stands in the store -/
theorem i_takeB {a : Addr} {b : Bag} {n : Int} {S : Sto} {Q : DQ} {X : XQ} (h0 : 0 < n) (h1 : n < 1073741824) (q : ∀ v b', 0 ≤ v → v < n → Q (.int v) (su S a (bagO b'))) : r_l_take [.adr a, .int n] (su S a (bagO b)) Q X :=
  i_take su_same h0 h1 fun v b' x y => by rw [su_su]; exact q v b' x y
/-! ### kinds -/
def t_l_is_int : DTS := (dRet (dAndV (dUn (isiD ti_int) (dVar 0)) (dNotV (dUn (isiD ti_bool) (dVar 0)))))
abbrev N_l_is_int : List Str := ["_law_value"]
@[irreducible] def r_l_is_int : DSp := fun ds S Q _ => ∃ n, ds = [.int n] ∧ Q (.bl true) S
theorem len_l_is_int : Ln 1 r_l_is_int := fun ds S Q E h => by unfold r_l_is_int at h; obtain ⟨n, rfl, _⟩ := h; rfl
theorem rd_l_is_int : Rd t_l_is_int N_l_is_int r_l_is_int := by
  intro ds S QD XD h
  unfold r_l_is_int at h
  obtain ⟨n, rfl, q⟩ := h
  row_hasAll w_d
  exact q
theorem i_is_int {n : Int} {S : Sto} {Q : DQ} {X : XQ} (h : Q (.bl true) S) : r_l_is_int [.int n] S Q X := by unfold r_l_is_int; exact ⟨n, rfl, h⟩
def t_l_is_cell : DTS := (dRet (dAndV (dUn (isiD ti_tuple) (dVar 0)) (dAndV (dOp oEq (dCB (on1 lenD) (dCons (dVar 0) dNil)) (dC (.int 2))) (dAndV (dCall r_l_is_int [] (dCons (dOp oIx (dVar 0) (dC (.int 0))) dNil)) (dCall r_l_is_int [] (dCons (dOp oIx (dVar 0) (dC (.int 1))) dNil))))))
abbrev N_l_is_cell : List Str := ["_law_value"]
@[irreducible] def r_l_is_cell : DSp := fun ds S Q _ => ∃ c : Cell, ds = [pr c] ∧ Q (.bl true) S
theorem len_l_is_cell : Ln 1 r_l_is_cell := fun ds S Q E h => by unfold r_l_is_cell at h; obtain ⟨n, rfl, _⟩ := h; rfl
theorem rd_l_is_cell : Rd t_l_is_cell N_l_is_cell r_l_is_cell := by
  intro ds S QD XD h
  unfold r_l_is_cell at h
  obtain ⟨c, rfl, q⟩ := h
  unfold pr
  row_hasAll w_d
  refine i_is_int ?_
  row_hasAll w_d
  exact i_is_int q
theorem i_is_cell {c : Cell} {S : Sto} {Q : DQ} {X : XQ} (h : Q (.bl true) S) : r_l_is_cell [pr c] S Q X := by unfold r_l_is_cell; exact ⟨c, rfl, h⟩
def t_l_is_cells : DTS := (dSeq (dIf (dNot (dTru (dUn (isiD ti_list) (dVar 0)))) (dRet (dC (.bl false))) dNext) (dSeq (dFor (dItems (dVar 0)) (.nm 1) (dIf (dNot (dTru (dCall r_l_is_cell [] (dCons (dVar 1) dNil)))) (dRet (dC (.bl false))) dNext)) (dRet (dC (.bl true)))))
abbrev N_l_is_cells : List Str := ["_law_value", "_law_cell"]
/-- a list, frozen or of the store -/
def isL (S : Sto) (d : D) (l : List D) : Prop := d = .lst l ∨ ∃ a, d = .adr a ∧ S a = some (.lst l)
theorem isL.vw {S : Sto} {d : D} {l : List D} (h : isL S d l) : vw S d = .lst l := by
  rcases h with rfl | ⟨a, rfl, h⟩
  · rfl
  · rw [vw_own h]
theorem vk_L {S : Sto} {d : D} {l : List D} {k : D → Prop} (h : isL S d l) (q : k (.lst l)) : vwk S d k := vwk_of h.vw q
@[irreducible] def r_l_is_cells : DSp := fun ds S Q _ => ∃ d, ∃ cs : List Cell, ds = [d] ∧ isL S d (cs.map pr) ∧ Q (.bl true) S
theorem len_l_is_cells : Ln 1 r_l_is_cells := fun ds S Q E h => by unfold r_l_is_cells at h; obtain ⟨d, n, rfl, _⟩ := h; rfl
theorem rd_l_is_cells : Rd t_l_is_cells N_l_is_cells r_l_is_cells := by
  intro ds S QD XD h
  unfold r_l_is_cells at h
  obtain ⟨d, cs, rfl, hL, q⟩ := h
  conv => whnf
  refine vk_L hL ?_
  row_hasAll w_d
  rcases hL with rfl | ⟨a, rfl, ha⟩
  · row_hasAll w_d
    refine loop_of (fun _ δ S' => S' = S ∧ ∃ x y, δ = [x, y]) ?_ ?_ ⟨rfl, _, _, rfl⟩
    · rintro c r δ S ⟨rfl, x, y, rfl⟩
      refine ⟨_, rfl, fun N hN => ?_⟩
      row_hasAll w_d
      refine i_is_cell ?_
      row_hasAll w_d
      exact hN _ _ ⟨rfl, _, _, rfl⟩
    · rintro δ S ⟨rfl, x, y, rfl⟩
      exact q
  · row_hasAll w_d
    refine loop_ofG (fun _ δ S' => S' = S ∧ ∃ x y, δ = [x, y]) (fun _ _ _ h => by rw [h.1]; exact ha) ?_ ?_ ⟨rfl, _, _, rfl⟩
    · rintro c r δ S ⟨rfl, x, y, rfl⟩
      refine ⟨_, rfl, fun N hN => ?_⟩
      row_hasAll w_d
      refine i_is_cell ?_
      row_hasAll w_d
      exact hN _ _ ⟨rfl, _, _, rfl⟩
    · rintro δ S ⟨rfl, x, y, rfl⟩
      exact q
theorem i_is_cellsL {d : D} {cs : List Cell} {S : Sto} {Q : DQ} {X : XQ} (hL : isL S d (cs.map pr)) (h : Q (.bl true) S) : r_l_is_cells [d] S Q X := by unfold r_l_is_cells; exact ⟨d, cs, rfl, hL, h⟩
theorem i_is_cells {cs : List Cell} {S : Sto} {Q : DQ} {X : XQ} (h : Q (.bl true) S) : r_l_is_cells [.lst (cs.map pr)] S Q X := i_is_cellsL (.inl rfl) h
/-! ### cells in reading order, each once -/
def t_l_reading : DTS := (dRet (dLc (dItems (dCB (on1 sortD) (dCons (dLc (dItems (dVar 0)) (.nm 2) dYes (dTup (dCons (dOp oIx (dVar 2) (dC (.int 1))) (dCons (dOp oIx (dVar 2) (dC (.int 0))) dNil))) [2]) dNil))) (.nm 1) dYes (dTup (dCons (dOp oIx (dVar 1) (dC (.int 1))) (dCons (dOp oIx (dVar 1) (dC (.int 0))) dNil))) [1]))
abbrev N_l_reading : List Str := ["_law_cells", "_law_pair", "_law_cell"]
@[irreducible] def r_l_reading : DSp := fun ds S Q _ => ∃ cs : List Cell, ds = [.lst (cs.map pr)] ∧ Q (.lst ((roSort cs).map pr)) S
theorem len_l_reading : Ln 1 r_l_reading := fun ds S Q E h => by unfold r_l_reading at h; obtain ⟨n, rfl, _⟩ := h; rfl
theorem rd_l_reading : Rd t_l_reading N_l_reading r_l_reading := by
  intro ds S QD XD h
  unfold r_l_reading at h
  obtain ⟨cs, rfl, q⟩ := h
  row_hasAll w_d
  refine lk_map (f := sw) (fun c _ => ⟨_, rfl, fun Q' h => ?_⟩) ?_
  · unfold pr
    row_hasAll w_d
    exact h
  · row_hasAll w_d
    refine ⟨srtOk_sw cs, ?_⟩
    row_hasAll w_d
    rw [sorted_sw]
    refine lk_map (f := pr) (fun c _ => ⟨_, rfl, fun Q' h => ?_⟩) ?_
    · unfold sw
      row_hasAll w_d
      exact h
    · exact q
theorem i_reading {cs : List Cell} {S : Sto} {Q : DQ} {X : XQ} (h : Q (.lst ((roSort cs).map pr)) S) : r_l_reading [.lst (cs.map pr)] S Q X := by unfold r_l_reading; exact ⟨cs, rfl, h⟩
theorem inB_prs (c : Cell) (a : List Cell) : inB (pr c) (.lst (a.map pr)) = some (decide (c ∈ a)) := by
  have e : (pln 8 (pr c) && plns 8 (a.map pr)) = true := by rw [plns_prs 6 a]; rfl
  unfold inB
  simp only [e, any_pr]
def t_l_once : DTS := (dSeq (dSet 1 (dLstO dNil)) (dSeq (dFor (dItems (dVar 0)) (.nm 2) (dIf (dTestB (dOp oNotIn (dVar 2) (dVar 1))) (dDrop (dBM .lst appD (dVar 1) (dCons (dVar 2) dNil))) dNext)) (dRet (dVarM 1))))
abbrev N_l_once : List Str := ["_law_cells", "_law_found", "_law_cell"]
@[irreducible] def r_l_once : DSp := fun ds S Q _ => ∃ cs : List Cell, ds = [.lst (cs.map pr)] ∧ cs.length ≤ 1000 ∧ Q (.lst ((once cs).map pr)) S
theorem len_l_once : Ln 1 r_l_once := fun ds S Q E h => by unfold r_l_once at h; obtain ⟨n, rfl, _⟩ := h; rfl
theorem i_once {cs : List Cell} {S : Sto} {Q : DQ} {X : XQ} (hl : cs.length ≤ 1000) (h : Q (.lst ((once cs).map pr)) S) : r_l_once [.lst (cs.map pr)] S Q X := by unfold r_l_once; exact ⟨cs, rfl, hl, h⟩
theorem rd_l_once : Rd t_l_once N_l_once r_l_once := by
  intro ds S QD XD h
  unfold r_l_once at h
  obtain ⟨cs, rfl, hl, q⟩ := h
  row_hasAll w_d
  intro p hp
  row_hasAll w_d
  refine loop_of (fun r δ S' => ∃ x a, δ = [some (.lst (cs.map pr)), some (.adr p), x] ∧ S' = su S p (.lst (a.map pr)) ∧ r.foldl (fun a c => if c ∈ a then a else a ++ [c]) a = once cs ∧ a.length + r.length ≤ 1000) ?_ ?_ ⟨_, [], rfl, rfl, rfl, by simpa using hl⟩
  · rintro c r δ S' ⟨x, a, rfl, rfl, h1, h2⟩
    refine ⟨_, rfl, fun N hN => ?_⟩
    row_hasAll w_d
    rw [inB_prs]
    refine brN (fun hc => ?_) (fun hc => ?_)
    · row_hasAll w_d
      refine ⟨by simp at h2 ⊢; simp [sizeLine]; omega, hN _ _ ⟨_, a ++ [c], rfl, by simp, by simpa [hc] using h1, by simp at h2 ⊢; omega⟩⟩
    · exact hN _ _ ⟨_, a, rfl, rfl, by simpa [hc] using h1, by simp at h2 ⊢; omega⟩
  · rintro δ S' ⟨x, a, rfl, rfl, h1, h2⟩
    row_hasAll w_d
    rw [sd_su_new hp]
    have e : a = once cs := h1
    rw [e]
    exact q
--#CALL refine i_is_int ?_
--#CALL refine i_is_cell ?_
--#CALL refine i_is_cells ?_
--#CALL refine i_reading ?_
--#CALL refine i_once (by row_hasAll w_side) ?_
end SM

set_option Elab.async false
set_option linter.all false
set_option maxRecDepth 100000
set_option maxHeartbeats 4000000
--#ONETAC
local macro_rules | `(tactic| row_hasAll w_c) => `(tactic| first
  | refine i_is_int ?_
  | refine i_is_cell ?_
  | refine i_is_cells ?_
  | refine i_reading ?_
  | refine i_once (by row_hasAll w_side) ?_)
namespace SM
open PySem PySem.Spec PyProof.Rows L2
/-! ### Region -/
def t_p_reading_order : DTS := (dRet (dTup (dCons (dOp oIx (dVar 0) (dC (.int 1))) (dCons (dOp oIx (dVar 0) (dC (.int 0))) dNil))))
abbrev N_p_reading_order : List Str := ["cell"]
def t_Region_init : DTS := (dSeq (dSetF [(0, 0)] (dVar 0) (dDc (dItems (dVar 1)) (.nm 2) dYes (dTup (dCons (dOp oIx (dVar 2) (dC (.int 0))) (dCons (dOp oIx (dVar 2) (dC (.int 1))) dNil))) (dC (.bl true)) [2])) (dSetF [(0, 1)] (dVar 0) (dSortRo (dCB (on1 listKD) (dCons (dFld [(0, 0)] (dVar 0)) dNil)))))
abbrev N_Region_init : List Str := ["self", "cells", "cell"]
@[irreducible] def r_Region_init : DSp := fun ds S Q _ => ∃ z d cs, ds = [.adr z, d] ∧ isL S d (cs.map pr) ∧ cs.length ≤ 1000 ∧ S z = some (.ins 0 []) ∧ Q .non (su S z (.ins 0 [.dT (fnd (once cs)), .lst ((roSort (once cs)).map pr)]))
theorem len_Region_init : Ln 2 r_Region_init := fun ds S Q E h => by unfold r_Region_init at h; obtain ⟨z, d, cs, rfl, _⟩ := h; rfl
theorem rd_Region_init : Rd t_Region_init N_Region_init r_Region_init := by
  intro ds S QD XD h
  unfold r_Region_init at h
  obtain ⟨z, d, cs, rfl, hL, hl, hS, q⟩ := h
  rcases hL with rfl | ⟨a, rfl, ha⟩ <;>
  · row_hasAll w_d
    refine dk_fold (kf := fun c => [.int c.1, .int c.2]) (ks := cKey) (vf := fun _ => .bl true) (fun c _ => ⟨_, rfl, fun Q' h => ?_, rfl, fun Q' h => ?_⟩) ?_
    · unfold pr
      row_hasAll w_d
      exact h
    · row_hasAll w_d
      exact h
    · row_hasAll w_d
      rw [show cs.foldl (fun a x => putD a (cKey x) (D.bl true)) [] = fnd (once cs) from fold_fnd cs []]
      refine ⟨fun p hp => ?_, ?_, ?_⟩
      · obtain ⟨c, _, rfl⟩ := List.mem_map.mp hp
        exact ⟨(fun s hs => by simp [cKey] at hs), by simp [cKey, sizeLine]⟩
      · simp only [fnd, List.length_map, sizeLine]; exact Nat.le_trans (once_len cs) (Nat.le_trans hl (by decide))
      · rw [keysD_fnd]
        row_hasAll w_d
        refine ⟨once cs, rfl, ?_⟩
        row_hasAll w_d
        exact q
theorem mk_regionL {d : D} {cs : List Cell} {S : Sto} {Q : DQ} {X : Addr → XQ} (hL : isL S d (cs.map pr)) (hl : cs.length ≤ 1000) (h : Q (rg cs) S) : ∀ z, S z = none → r_Region_init [.adr z, d] (su S z (.ins 0 [])) (fun d S2 => d = .non ∧ mkF Q z S2) (X z) := by
  intro z hz
  unfold r_Region_init
  have hL2 : isL (su S z (.ins 0 [])) d (cs.map pr) := by
    rcases hL with rfl | ⟨a, rfl, ha⟩
    · exact .inl rfl
    · exact .inr ⟨a, rfl, by rw [su_ne (st_ne ha hz)]; exact ha⟩
  refine ⟨z, d, cs, rfl, hL2, hl, su_same, rfl, ?_⟩
  rw [su_su]
  refine ok_o su_same ?_
  show Q _ _
  rw [sd_su_new hz]
  exact h
theorem mk_region {cs : List Cell} {S : Sto} {Q : DQ} {X : Addr → XQ} (hl : cs.length ≤ 1000) (h : Q (rg cs) S) : ∀ z, S z = none → r_Region_init [.adr z, .lst (cs.map pr)] (su S z (.ins 0 [])) (fun d S2 => d = .non ∧ mkF Q z S2) (X z) := mk_regionL (.inl rfl) hl h
def t_Region_of : DTS := (dRet (dMake mkF 0 r_Region_init [] (dCons (dCB (on1 listD) (dCons (dVar 0) dNil)) dNil)))
abbrev N_Region_of : List Str := ["cells"]
@[irreducible] def r_Region_of : DSp := fun ds S Q _ => ∃ cs, ds = [.tup (cs.map pr)] ∧ cs.length ≤ 1000 ∧ Q (rg cs) S
theorem len_Region_of : Ln 1 r_Region_of := fun ds S Q E h => by unfold r_Region_of at h; obtain ⟨cs, rfl, _⟩ := h; rfl
theorem hl_Region_of : ∀ ds S Q E, starSp 0 r_Region_of ds S Q E → ds.length ≤ sizeLine := by
  intro ds S Q E h
  obtain ⟨_, h⟩ := h
  unfold r_Region_of at h
  obtain ⟨cs, e, hl, _⟩ := h
  simp at e
  rw [e, List.length_map]
  exact Nat.le_trans hl (by decide)
theorem rd_Region_of : Rd t_Region_of N_Region_of r_Region_of := by
  intro ds S QD XD h
  unfold r_Region_of at h
  obtain ⟨cs, rfl, hl, q⟩ := h
  row_hasAll w_d
  exact mk_region hl q
theorem i_of (cs : List Cell) {S : Sto} {Q : DQ} {X : XQ} (hl : cs.length ≤ 1000) (h : Q (rg cs) S) : r_Region_of [.tup (cs.map pr)] S Q X := by
  unfold r_Region_of
  exact ⟨cs, rfl, hl, h⟩
def t_Region_cells : DTS := (dRet (dCB (on1 listDO) (dCons (dFld [(0, 1)] (dVar 0)) dNil)))
abbrev N_Region_cells : List Str := ["self"]
@[irreducible] def r_Region_cells : DSp := fun ds S Q _ => ∃ cs, ds = [rg cs] ∧ ∀ p, S p = none → Q (.adr p) (su S p (.lst ((roSort (once cs)).map pr)))
theorem len_Region_cells : Ln 1 r_Region_cells := fun ds S Q E h => by unfold r_Region_cells at h; obtain ⟨cs, rfl, _⟩ := h; rfl
theorem rd_Region_cells : Rd t_Region_cells N_Region_cells r_Region_cells := by
  intro ds S QD XD h
  unfold r_Region_cells at h
  obtain ⟨cs, rfl, q⟩ := h
  unfold rg
  row_hasAll w_d
  exact q
theorem i_cellsO {cs : List Cell} {S : Sto} {Q : DQ} {X : XQ} (h : ∀ p, S p = none → Q (.adr p) (su S p (.lst ((roSort (once cs)).map pr)))) : r_Region_cells [rg cs] S Q X := by unfold r_Region_cells; exact ⟨cs, rfl, h⟩
theorem i_cells {cs : List Cell} {S : Sto} {Q : DQ} {X : XQ} (h : Q (.lst ((roSort (once cs)).map pr)) S) : r_Region_cells [rg cs] S (fun d S1 => fzD d S1 Q) X := i_cellsO fun p hp => fz_new hp h
def t_Region_eq : DTS := (dRet (dAndV (dUn (isiD ti_Region) (dVar 1)) (dOp oEq (dFld [(0, 1)] (dVar 0)) (dFld [(0, 1)] (dVar 1)))))
abbrev N_Region_eq : List Str := ["self", "other"]
@[irreducible] def r_Region_eq : DSp := fun ds S Q _ => ∃ cs d, ds = [rg cs, d] ∧ ((∃ cs', d = rg cs' ∧ Q (.bl (decide (roSort (once cs) = roSort (once cs')))) S) ∨ ((∃ l, vw S d = .lst l) ∨ (∃ s, d = .str s)) ∧ Q (.bl false) S)
theorem len_Region_eq : Ln 2 r_Region_eq := fun ds S Q E h => by unfold r_Region_eq at h; obtain ⟨cs, d, rfl, _⟩ := h; rfl
theorem rd_Region_eq : Rd t_Region_eq N_Region_eq r_Region_eq := by
  intro ds S QD XD h
  unfold r_Region_eq at h
  obtain ⟨cs, d, rfl, h⟩ := h
  rcases h with ⟨cs', rfl, q⟩ | ⟨h, q⟩
  · unfold rg
    row_hasAll w_d
    refine ⟨by rw [pln_prs 6, pln_prs 6]; rfl, ?_⟩
    rw [eqB_prs]
    exact q
  · rcases h with ⟨l, h⟩ | ⟨s, rfl⟩
    · unfold rg
      conv => whnf
      refine vwk_of h ?_
      row_hasAll w_d
      exact q
    · unfold rg
      row_hasAll w_d
      exact q
theorem i_eqL {cs : List Cell} {d : D} {l : List D} {n : Bool} {S : Sto} {Q : DQ} (hL : isL S d l) (h : Q (.bl n) S) : eqI 0 [] r_Region_eq n (rg cs) d S Q := by
  unfold eqI
  refine vk_ins ⟨rfl, vk_L hL ⟨rfl, ?_⟩⟩
  unfold r_Region_eq
  refine ⟨cs, d, rfl, .inr ⟨.inl ⟨l, hL.vw⟩, ?_⟩⟩
  show Q (.bl (n ^^ false)) S
  rw [Bool.xor_false]; exact h
theorem i_eqS {cs : List Cell} {z : Str} {n : Bool} {S : Sto} {Q : DQ} (h : Q (.bl n) S) : eqI 0 [] r_Region_eq n (rg cs) (.str z) S Q := by
  unfold eqI
  refine vk_ins ⟨rfl, vk_str ⟨rfl, ?_⟩⟩
  unfold r_Region_eq
  refine ⟨cs, .str z, rfl, .inr ⟨.inr ⟨z, rfl⟩, ?_⟩⟩
  show Q (.bl (n ^^ false)) S
  rw [Bool.xor_false]; exact h
def t_Region_contains : DTS := (dRet (dOp oIn (dVar 1) (dFld [(0, 0)] (dVar 0))))
abbrev N_Region_contains : List Str := ["self", "cell"]
@[irreducible] def r_Region_contains : DSp := fun ds S Q _ => ∃ cs c, ds = [rg cs, pr c] ∧ Q (.bl (decide (c ∈ cs))) S
theorem len_Region_contains : Ln 2 r_Region_contains := fun ds S Q E h => by unfold r_Region_contains at h; obtain ⟨z, cs, rfl, _⟩ := h; rfl
theorem valD_fnd (l : List Cell) (c : Cell) : (valD (fnd l) (cKey c)).isSome = decide (c ∈ l) := by
  unfold valD fnd
  induction l with
  | nil => rfl
  | cons x r ih =>
    rw [List.map_cons, List.find?_cons]
    by_cases h : x = c
    · subst h; simp
    · have e : decide (cKey x = cKey c) = false := decide_eq_false fun z => h (cKey_inj z)
      rw [e]
      simp only
      rw [ih]
      have : c ∈ x :: r ↔ c ∈ r := by rw [List.mem_cons]; exact ⟨fun q => q.resolve_left fun z => h z.symm, .inr⟩
      exact decide_eq_decide.mpr this.symm
theorem inB_fnd (l : List Cell) (c : Cell) : inB (pr c) (.dT (fnd l)) = some (decide (c ∈ l)) := by
  show some ((valD (fnd l) (cKey c)).isSome) = _
  rw [valD_fnd]
theorem rd_Region_contains : Rd t_Region_contains N_Region_contains r_Region_contains := by
  intro ds S QD XD h
  unfold r_Region_contains at h
  obtain ⟨cs, c, rfl, q⟩ := h
  have e : rg cs = .ins 0 [.dT (fnd (once cs)), .lst ((roSort (once cs)).map pr)] := rfl
  rw [e]
  row_hasAll w_d
  rw [show (valD (fnd (once cs)) [Sum.inl c.fst, Sum.inl c.snd]).isSome = decide (c ∈ once cs) from valD_fnd _ _, decide_eq_decide.mpr (mem_once (cs := cs) (c := c))]
  exact q
theorem i_inR {cs : List Cell} {c : Cell} {n : Bool} {S : Sto} {Q : DQ} (h : Q (.bl (n ^^ decide (c ∈ cs))) S) : inI 0 r_Region_contains n (pr c) (rg cs) S Q := by
  unfold inI ownI
  refine vk_ins ⟨rfl, ?_⟩
  unfold r_Region_contains
  exact ⟨cs, c, rfl, h⟩
/-! text of a region -/
def small (c : Cell) : Prop := c.1.natAbs < 1152921504606846976 ∧ c.2.natAbs < 1152921504606846976
theorem log_small {i : Int} (h : i.natAbs < 1152921504606846976) : i.natAbs.log2 < 1920 := by
  by_cases h0 : i.natAbs = 0
  · rw [h0]; decide
  · exact (Nat.log2_lt h0).mpr (Nat.lt_of_lt_of_le h (by decide +kernel))
theorem txt_small {i : Int} (h : i.natAbs < 1152921504606846976) : (Str.ofString (toString i)).length ≤ 61 := by
  have e : (Str.ofString (toString i)).length = (toString i).length := by
    rw [Str.ofString_eq_toList]; show ((toString i).toList.map Char.toNat).toArray.size = _
    rw [List.size_toArray, List.length_map, String.length_toList]
  rw [e]
  refine int_text_length_le (k := 60) (by decide) ?_
  by_cases h0 : i.natAbs = 0
  · rw [h0]; decide
  · exact (Nat.log2_lt h0).mpr h
def cellT (c : Cell) : Str := (toString c.1 : Str) ++ "," ++ (toString c.2 : Str)
def cellsT (cs : List Cell) : Str := if cs = [] then "-" else Txt.join " " (cs.map cellT)
def t_Region_str : DTS := (dSeq (dIf (dTestB (dOp oEq (dCB (on1 lenD) (dCons (dFld [(0, 1)] (dVar 0)) dNil)) (dC (.int 0)))) (dRet (dC (.str "-"))) dNext) (dRet (dBM .str joinD (dC (.str " ")) (dCons (dLc (dItems (dFld [(0, 1)] (dVar 0))) (.nm 1) dYes (dJoined [(dFmt (dOp oIx (dVar 1) (dC (.int 0)))), (dC (.str ",")), (dFmt (dOp oIx (dVar 1) (dC (.int 1))))]) [1]) dNil))))
abbrev N_Region_str : List Str := ["self", "cell"]
@[irreducible] def r_Region_str : DSp := fun ds S Q _ => ∃ cs, ds = [rg cs] ∧ (∀ c ∈ cs, small c) ∧ cs.length ≤ 1000 ∧ Q (.str (cellsT (roSort (once cs)))) S
theorem len_Region_str : Ln 1 r_Region_str := fun ds S Q E h => by unfold r_Region_str at h; obtain ⟨cs, rfl, _⟩ := h; rfl
theorem rd_Region_str : Rd t_Region_str N_Region_str r_Region_str := by
  intro ds S QD XD h
  unfold r_Region_str at h
  obtain ⟨cs, rfl, hs, hl, q⟩ := h
  unfold rg
  row_hasAll w_d
  have hm : ∀ c ∈ roSort (once cs), small c := fun c hc => hs c (mem_once.mp (mem_ro.mp hc))
  have hle : (roSort (once cs)).length ≤ 1000 := by rw [roSort_len]; exact Nat.le_trans (once_len cs) hl
  generalize roSort (once cs) = rs at hm hle q ⊢
  unfold cellsT at q
  refine brP (c := (((rs.map pr).length : Nat) : Int) = 0) (fun h0 => ?_) (fun h0 => ?_)
  · row_hasAll w_d
    have e : rs = [] := by simpa using h0
    rw [if_pos e] at q
    exact q
  · row_hasAll w_d
    have e : rs ≠ [] := fun z => h0 (by simp [z])
    rw [if_neg e] at q
    refine lk_map (f := fun c => .str (cellT c)) (fun c hc => ⟨_, rfl, fun Q' h => ?_⟩) ?_
    · have hc := hm c hc
      unfold pr
      row_hasAll w_d
      have hz := sizeLine_eq
      have l1 := txt_small hc.1
      have l2 := txt_small hc.2
      have e0 : Str.empty.length = 0 := rfl
      have e1 : (Str.ofString ",").length = 1 := rfl
      have g1 := log_small hc.1
      have g2 := log_small hc.2
      have a1 := slen_app Str.empty (Str.ofString (toString c.1))
      have a2 := slen_app (Str.empty ++ Str.ofString (toString c.1)) (Str.ofString ",")
      row_hasAll w_d
      rw [sempty_app]
      exact h
    · row_hasAll w_d
      rw [strsD_map]
      refine ⟨?_, q⟩
      have e1 : (Str.ofString " ").length = 1 := rfl
      have := sum_le (fun s : Str => s.length) 123 (rs.map cellT) (fun x hx => by
        obtain ⟨c, hc, rfl⟩ := List.mem_map.mp hx
        have l1 := txt_small (hm c hc).1
        have l2 := txt_small (hm c hc).2
        have e1 : (Str.ofString ",").length = 1 := rfl
        unfold cellT
        rw [slen_app, slen_app, e1]
        omega)
      rw [List.length_map] at this ⊢
      rw [e1]
      omega
theorem i_strR {cs : List Cell} {S : Sto} {Q : DQ} (hs : ∀ c ∈ cs, small c) (hl : cs.length ≤ 1000) (h : Q (.str (cellsT (roSort (once cs)))) S) : strI 0 r_Region_str (rg cs) S Q := by
  unfold strI ownI
  refine vk_ins ⟨rfl, ?_⟩
  unfold r_Region_str
  exact ⟨cs, rfl, hs, hl, h⟩
def t_Region_len : DTS := (dRet (dCB (on1 lenD) (dCons (dFld [(0, 1)] (dVar 0)) dNil)))
abbrev N_Region_len : List Str := ["self"]
@[irreducible] def r_Region_len : DSp := fun ds S Q _ => ∃ cs, ds = [rg cs] ∧ Q (.int (once cs).length) S
theorem len_Region_len : Ln 1 r_Region_len := fun ds S Q E h => by unfold r_Region_len at h; obtain ⟨cs, rfl, _⟩ := h; rfl
theorem rd_Region_len : Rd t_Region_len N_Region_len r_Region_len := by
  intro ds S QD XD h
  unfold r_Region_len at h
  obtain ⟨cs, rfl, q⟩ := h
  unfold rg
  row_hasAll w_d
  rw [List.length_map, roSort_len]
  exact q
def t_Region_bool : DTS := (dRet (dOp oGt (dCB (on1 lenD) (dCons (dFld [(0, 1)] (dVar 0)) dNil)) (dC (.int 0))))
abbrev N_Region_bool : List Str := ["self"]
@[irreducible] def r_Region_bool : DSp := fun ds S Q _ => ∃ cs, ds = [rg cs] ∧ Q (.bl (decide (0 < (once cs).length))) S
theorem len_Region_bool : Ln 1 r_Region_bool := fun ds S Q E h => by unfold r_Region_bool at h; obtain ⟨cs, rfl, _⟩ := h; rfl
theorem rd_Region_bool : Rd t_Region_bool N_Region_bool r_Region_bool := by
  intro ds S QD XD h
  unfold r_Region_bool at h
  obtain ⟨cs, rfl, q⟩ := h
  unfold rg
  row_hasAll w_d
  rw [List.length_map, roSort_len]
  simpa using q
theorem i_lenR {cs : List Cell} {S : Sto} {Q : DQ} (hl : cs.length ≤ 1000) (h : Q (.int (once cs).length) S) : lenI 0 r_Region_len (rg cs) S Q := by
  unfold lenI ownI
  refine vk_ins ⟨rfl, ?_⟩
  unfold r_Region_len
  have := once_len cs
  exact ⟨cs, rfl, ⟨by omega, by omega⟩, h⟩
theorem i_boolR {cs : List Cell} {S : Sto} {Q : DQ} (h : Q (.bl (decide (0 < (once cs).length))) S) : boolI 0 r_Region_bool (rg cs) S Q := by
  unfold boolI ownI
  refine vk_ins ⟨rfl, ?_⟩
  unfold r_Region_bool
  exact ⟨cs, rfl, h⟩
theorem i_eqR {cs cs' : List Cell} {n : Bool} {S : Sto} {Q : DQ} (h : Q (.bl (n ^^ decide (roSort (once cs) = roSort (once cs')))) S) : eqI 0 [] r_Region_eq n (rg cs) (rg cs') S Q := by
  unfold eqI
  refine vk_ins ⟨rfl, vk_ins ⟨rfl, ?_⟩⟩
  unfold r_Region_eq
  exact ⟨cs, rg cs', rfl, .inl ⟨cs', rfl, h⟩⟩
--#CALL refine mk_region (by row_hasAll w_side) ?_
--#CALL refine i_cells ?_
--#CALL refine i_inR ?_
--#CALL refine i_lenR (by row_hasAll w_side) ?_
--#CALL refine i_eqR ?_
--#CALL refine i_boolR ?_
end SM

set_option Elab.async false
set_option linter.all false
set_option maxRecDepth 100000
set_option maxHeartbeats 4000000
--#ONETAC
local macro_rules | `(tactic| row_hasAll w_c) => `(tactic| first
  | refine mk_region (by row_hasAll w_side) ?_
  | refine i_cells ?_
  | refine i_inR ?_
  | refine i_lenR (by row_hasAll w_side) ?_
  | refine i_eqR ?_
  | refine i_boolR ?_)
namespace SM
open PySem PySem.Spec PyProof.Rows L2
def t_l_spot : DTS := (dSeq (dSet 1 (dOp oSub (dCall r_l_take [] (dCons (dVar 0) (dCons (dC (.int 18)) dNil))) (dC (.int 5)))) (dSeq (dSet 2 (dOp oSub (dCall r_l_take [] (dCons (dVar 0) (dCons (dC (.int 18)) dNil))) (dC (.int 5)))) (dSeq (dIf (dTestB (dOp oEq (dCall r_l_take [] (dCons (dVar 0) (dCons (dC (.int 6)) dNil))) (dC (.int 0)))) (dSet 1 (dOp oMul (dVar 1) (dOp oPow (dC (.int 10)) (dC (.int 12))))) dNext) (dRet (dTup (dCons (dVar 1) (dCons (dVar 2) dNil)))))))
abbrev N_l_spot : List Str := ["_law_bag_here", "_law_cx", "_law_cy"]
@[irreducible] def r_l_spot : DSp := fun ds S Q _ => ∃ a b, ds = [.adr a] ∧ S a = some (bagO b) ∧ ∀ (c : Cell) b', small c → Q (pr c) (su S a (bagO b'))
theorem len_l_spot : Ln 1 r_l_spot := fun ds S Q E h => by unfold r_l_spot at h; obtain ⟨a, b, rfl, _⟩ := h; rfl
theorem rd_l_spot : Rd t_l_spot N_l_spot r_l_spot := by
  intro ds S QD XD h
  unfold r_l_spot at h
  obtain ⟨a, b, rfl, hS, q⟩ := h
  row_hasAll w_d
  refine i_take hS (by decide) (by decide) fun v1 b1 h1 h2 => ?_
  row_hasAll w_d
  refine i_takeB (by decide) (by decide) fun v2 b2 h3 h4 => ?_
  row_hasAll w_d
  refine i_takeB (by decide) (by decide) fun v3 b3 _ _ => ?_
  row_hasAll w_d
  refine brP (fun h0 => ?_) (fun h0 => ?_)
  · row_hasAll w_d
    exact q (_, _) _ ⟨by simp only; omega, by simp only; omega⟩
  · row_hasAll w_d
    exact q (_, _) _ ⟨by simp only; omega, by simp only; omega⟩
theorem i_spot {a : Addr} {b : Bag} {S : Sto} {Q : DQ} {X : XQ} (hS : S a = some (bagO b)) (q : ∀ (c : Cell) b', small c → Q (pr c) (su S a (bagO b'))) : r_l_spot [.adr a] S Q X := by unfold r_l_spot; exact ⟨a, b, rfl, hS, q⟩
theorem i_spotB {a : Addr} {b : Bag} {S : Sto} {Q : DQ} {X : XQ} (q : ∀ (c : Cell) b', small c → Q (pr c) (su S a (bagO b'))) : r_l_spot [.adr a] (su S a (bagO b)) Q X := i_spot su_same fun c b' h => by rw [su_su]; exact q c b' h
def t_l_spots : DTS := (dSeq (dSet 2 (dLstO dNil)) (dSeq (dFor (dRng1 (dCons (dCall r_l_take [] (dCons (dVar 0) (dCons (dOp oAdd (dVar 1) (dC (.int 1))) dNil))) dNil)) (.nm 3) (dSeq (dSet 4 (dCall r_l_spot [] (dCons (dVar 0) dNil))) (dCut (dIf (dAnd (dTestB (dOp oGt (dCB (on1 lenD) (dCons (dVar 2) dNil)) (dC (.int 0)))) (dTestB (dOp oEq (dCall r_l_take [] (dCons (dVar 0) (dCons (dC (.int 4)) dNil))) (dC (.int 0))))) (dSet 4 (dOp oIx (dVar 2) (dCall r_l_take [] (dCons (dVar 0) (dCons (dCB (on1 lenD) (dCons (dVar 2) dNil)) dNil))))) dNext) (dDrop (dBM .lst appD (dVar 2) (dCons (dVar 4) dNil)))))) (dRet (dVarM 2))))
abbrev N_l_spots : List Str := ["_law_bag_here", "_law_most", "_law_spots_here", "_law_k", "_law_spot_here"]
@[irreducible] def r_l_spots : DSp := fun ds S Q _ => ∃ a b n, ds = [.adr a, .int n] ∧ S a = some (bagO b) ∧ 0 ≤ n ∧ n ≤ 100 ∧ ∀ (cs : List Cell) b', (cs.length : Int) ≤ n → (∀ c ∈ cs, small c) → Q (.lst (cs.map pr)) (su S a (bagO b'))
theorem len_l_spots : Ln 2 r_l_spots := fun ds S Q E h => by unfold r_l_spots at h; obtain ⟨a, b, n, rfl, _⟩ := h; rfl
theorem rd_l_spots : Rd t_l_spots N_l_spots r_l_spots := by
  intro ds S QD XD h
  unfold r_l_spots at h
  obtain ⟨a, b, n, rfl, hS, h0, h1, q⟩ := h
  row_hasAll w_d
  intro p hp
  have hpa : p ≠ a := fun e => by rw [e, hS] at hp; cases hp
  row_hasAll w_d
  refine i_take (b := b) (by row_hasAll w_sto) (by omega) (by omega) fun v b1 g0 g1 => ?_
  row_hasAll w_d
  refine loop_of (xs := List.range (v - 0).toNat) (g := fun i : Nat => D.int (0 + (i : Nat))) (fun r δ S' => ∃ x y b', ∃ cs : List Cell, δ = [some (.adr a), some (.int n), some (.adr p), x, y] ∧ S' = su (su S a (bagO b')) p (.lst (cs.map pr)) ∧ ((cs.length + r.length : Nat) : Int) ≤ n ∧ ∀ c ∈ cs, small c) ?_ ?_ ?_
  rotate_left 2
  · exact ⟨_, _, b1, [], rfl, by row_hasAll w_steq, by simp; omega, by simp⟩
  · rintro i r δ S' ⟨x, y, b', cs, rfl, rfl, hl, hs⟩
    refine ⟨_, rfl, fun N hN => ?_⟩
    row_hasAll w_d
    refine i_spot (b := b') (by row_hasAll w_sto) fun c b2 hc => ?_
    row_hasAll w_d
    refine ⟨fun δ S' => ∃ x b' c, δ = [some (.adr a), some (.int n), some (.adr p), x, some (pr c)] ∧ S' = su (su S a (bagO b')) p (.lst (cs.map pr)) ∧ small c, ?_, ?_⟩
    · have fin : ∀ b' b3 : Bag, su (su (su S a (bagO b')) p (.lst (cs.map pr))) a (bagO b3) = su (su S a (bagO b3)) p (.lst (cs.map pr)) := fun b' b3 => by row_hasAll w_steq
      rw [fin]
      row_hasAll w_d
      refine brP (fun h0 => ?_) (fun h0 => ?_)
      · row_hasAll w_d
        refine i_take (b := b2) (by row_hasAll w_sto) (by decide) (by decide) fun v2 b3 g2 g3 => ?_
        row_hasAll w_d
        rw [fin]
        refine brP (c := v2 = 0) (fun hv => ?_) (fun hv => ?_)
        · have hl0 : 0 < cs.length := by simpa using h0
          row_hasAll w_d
          refine i_take (b := b3) (by row_hasAll w_sto) (by simpa using h0) (by simp; omega) fun v3 b4 g4 g5 => ?_
          row_hasAll w_d
          rw [List.length_map] at g5
          obtain ⟨k, rfl⟩ : ∃ k : Nat, v3 = k := ⟨v3.toNat, by omega⟩
          refine ik_map (by omega) ?_
          row_hasAll w_d
          exact ⟨_, b4, _, rfl, by rw [fin], hs _ (List.getElem_mem _)⟩
        · row_hasAll w_d
          exact ⟨_, b3, c, rfl, rfl, hc⟩
      · row_hasAll w_d
        exact ⟨_, b2, c, rfl, rfl, hc⟩
    · rintro δ S' ⟨x, b', c, rfl, rfl, hc⟩
      row_hasAll w_d
      simp only [List.length_cons] at hl
      refine ⟨by rw [List.length_map, sizeLine_eq]; omega, hN _ _ ⟨_, _, b', cs ++ [c], rfl, by simp, by simp; omega, fun d hd => ?_⟩⟩
      rcases List.mem_append.mp hd with h | h
      · exact hs d h
      · simp at h; subst h; exact hc
  · rintro δ S' ⟨x, y, b', cs, rfl, rfl, hl, hs⟩
    row_hasAll w_d
    have e : sd (su (su S a (bagO b')) p (.lst (cs.map pr))) p = su S a (bagO b') := by rw [sd_su, sd_none]; rw [su_ne hpa]; exact hp
    rw [e]
    exact q cs b' (by simpa using hl) hs
theorem i_spots {a : Addr} {b : Bag} {n : Int} {S : Sto} {Q : DQ} {X : XQ} (hS : S a = some (bagO b)) (h0 : 0 ≤ n) (h1 : n ≤ 100) (q : ∀ (cs : List Cell) b', (cs.length : Int) ≤ n → (∀ c ∈ cs, small c) → Q (.lst (cs.map pr)) (su S a (bagO b'))) : r_l_spots [.adr a, .int n] S Q X := by unfold r_l_spots; exact ⟨a, b, n, rfl, hS, h0, h1, q⟩
def t_l_region_is : DTS := (dSeq (dIf (dNot (dTru (dUn (isiD ti_Region) (dVar 0)))) (dRet (dC (.bl false))) dNext) (dSeq (dSet 2 (dFz (dMeth 0 r_Region_cells [] (dVar 0) dNil))) (dRet (dAndV (dCall r_l_is_cells [] (dCons (dVar 2) dNil)) (dOp oEq (dVar 2) (dVar 1))))))
abbrev N_l_region_is : List Str := ["_law_region", "_law_due", "_law_told"]
@[irreducible] def r_l_region_is : DSp := fun ds S Q _ => ∃ cs d due, ds = [rg cs, d] ∧ isL S d (due.map pr) ∧ Q (.bl (decide (roSort (once cs) = due))) S
theorem len_l_region_is : Ln 2 r_l_region_is := fun ds S Q E h => by unfold r_l_region_is at h; obtain ⟨a, b, c, rfl, _⟩ := h; rfl
theorem rd_l_region_is : Rd t_l_region_is N_l_region_is r_l_region_is := by
  intro ds S QD XD h
  unfold r_l_region_is at h
  obtain ⟨cs, d, due, rfl, hL, q⟩ := h
  have e : rg cs = .ins 0 [.dT (fnd (once cs)), .lst ((roSort (once cs)).map pr)] := rfl
  conv => whnf
  rw [e]
  row_hasAll w_d
  refine i_cells (cs := cs) ?_
  row_hasAll w_d
  refine i_is_cells ?_
  row_hasAll w_d
  refine vk_L hL ?_
  row_hasAll w_d
  refine ⟨by rw [pln_prs 6, pln_prs 6]; rfl, ?_⟩
  rw [eqB_prs]
  exact q
theorem i_region_isL {cs due : List Cell} {d : D} {S : Sto} {Q : DQ} {X : XQ} (hL : isL S d (due.map pr)) (h : Q (.bl (decide (roSort (once cs) = due))) S) : r_l_region_is [rg cs, d] S Q X := by unfold r_l_region_is; exact ⟨cs, d, due, rfl, hL, h⟩
theorem i_region_is {cs due : List Cell} {S : Sto} {Q : DQ} {X : XQ} (h : Q (.bl (decide (roSort (once cs) = due))) S) : r_l_region_is [rg cs, .lst (due.map pr)] S Q X := i_region_isL (.inl rfl) h
--#CALL refine i_region_is ?_
end SM

set_option Elab.async false
set_option linter.all false
set_option maxRecDepth 100000
set_option maxHeartbeats 4000000
--#ONETAC
local macro_rules | `(tactic| row_hasAll w_c) => `(tactic| first
  | refine i_region_is ?_)
namespace SM
open PySem PySem.Spec PyProof.Rows L2
/-! ### operators of regions -/
abbrev row (cs : List Cell) : List Cell := roSort (once cs)
theorem rg_is (cs : List Cell) : rg cs = .ins 0 [.dT (fnd (once cs)), .lst ((roSort (once cs)).map pr)] := rfl
theorem row_len (cs : List Cell) : (roSort (once cs)).length ≤ cs.length := by rw [roSort_len]; exact once_len cs
def t_Region_or : DTS := (dSeq (dIf (dNot (dTru (dUn (isiD ti_Region) (dVar 1)))) dDead dNext) (dRet (dMake mkF 0 r_Region_init [] (dCons (dOp oAdd (dFld [(0, 1)] (dVar 0)) (dFld [(0, 1)] (dVar 1))) dNil))))
abbrev N_Region_or : List Str := ["self", "other"]
@[irreducible] def r_Region_or : DSp := fun ds S Q _ => ∃ a b, ds = [rg a, rg b] ∧ a.length ≤ 400 ∧ b.length ≤ 400 ∧ Q (rg (row a ++ row b)) S
theorem len_Region_or : Ln 2 r_Region_or := fun ds S Q E h => by unfold r_Region_or at h; obtain ⟨a, b, rfl, _⟩ := h; rfl
theorem rd_Region_or : Rd t_Region_or N_Region_or r_Region_or := by
  intro ds S QD XD h
  unfold r_Region_or at h
  obtain ⟨a, b, rfl, ha, hb, q⟩ := h
  have h1 := row_len a
  have h2 := row_len b
  rw [rg_is a, rg_is b]
  row_hasAll w_d
  refine ⟨by simp only [List.length_map, sizeLine_eq]; omega, ?_⟩
  row_hasAll w_d
  rw [← List.map_append]
  exact mk_region (by rw [List.length_append]; omega) q
theorem lk_in {q : Pat} {tt : DTT} {te : DTE} {δ : DS} {S : Sto} {cs l : List Cell} {n : Bool} {Q : List D → Sto → Prop} (h : ∀ c ∈ cs, ∃ δ2, bindP q (pr c) δ = some δ2 ∧ (∀ Q' : Bool → Sto → Prop, Q' (n ^^ decide (c ∈ l)) S → tt δ2 S Q' noX) ∧ (∀ Q' : DQ, Q' (pr c) S → te δ2 S Q' noX))
    (hq : Q ((cs.filter fun c => n ^^ decide (c ∈ l)).map pr) S) : lcK none q tt te δ (cs.map pr) S Q :=
  lk_filter (p := fun c => n ^^ decide (c ∈ l)) (fun c hc => let ⟨δ2, e, a, b⟩ := h c hc; ⟨δ2, e, a, fun _ => b⟩) hq
def t_Region_and : DTS := (dSeq (dIf (dNot (dTru (dUn (isiD ti_Region) (dVar 1)))) dDead dNext) (dRet (dMake mkF 0 r_Region_init [] (dCons (dLc (dItems (dFld [(0, 1)] (dVar 0))) (.nm 2) (dTestB (dOp oIn (dVar 2) (dFld [(0, 0)] (dVar 1)))) (dVar 2) [2]) dNil))))
abbrev N_Region_and : List Str := ["self", "other", "cell"]
@[irreducible] def r_Region_and : DSp := fun ds S Q _ => ∃ a b, ds = [rg a, rg b] ∧ a.length ≤ 400 ∧ b.length ≤ 400 ∧ Q (rg ((row a).filter fun c => decide (c ∈ b))) S
theorem len_Region_and : Ln 2 r_Region_and := fun ds S Q E h => by unfold r_Region_and at h; obtain ⟨a, b, rfl, _⟩ := h; rfl
theorem rd_Region_and : Rd t_Region_and N_Region_and r_Region_and := by
  intro ds S QD XD h
  unfold r_Region_and at h
  obtain ⟨a, b, rfl, ha, hb, q⟩ := h
  have h1 := row_len a
  rw [rg_is a, rg_is b]
  row_hasAll w_d
  refine lk_filter (p := fun c => decide (c ∈ b)) (f := pr) (fun c hc => ⟨_, rfl, fun Q' h => ?_, fun _ Q' h => ?_⟩) ?_
  · row_hasAll w_d
    rw [show (valD (fnd (once b)) [Sum.inl c.fst, Sum.inl c.snd]).isSome = decide (c ∈ once b) from valD_fnd _ _, decide_eq_decide.mpr (mem_once (cs := b) (c := c))]
    row_hasAll w_d
    exact h
  · row_hasAll w_d
    exact h
  · row_hasAll w_d
    exact mk_region (Nat.le_trans (List.length_filter_le ..) (by omega)) q
def t_Region_sub : DTS := (dSeq (dIf (dNot (dTru (dUn (isiD ti_Region) (dVar 1)))) dDead dNext) (dRet (dMake mkF 0 r_Region_init [] (dCons (dLc (dItems (dFld [(0, 1)] (dVar 0))) (.nm 2) (dTestB (dOp oNotIn (dVar 2) (dFld [(0, 0)] (dVar 1)))) (dVar 2) [2]) dNil))))
abbrev N_Region_sub : List Str := ["self", "other", "cell"]
@[irreducible] def r_Region_sub : DSp := fun ds S Q _ => ∃ a b, ds = [rg a, rg b] ∧ a.length ≤ 400 ∧ b.length ≤ 400 ∧ Q (rg ((row a).filter fun c => !decide (c ∈ b))) S
theorem len_Region_sub : Ln 2 r_Region_sub := fun ds S Q E h => by unfold r_Region_sub at h; obtain ⟨a, b, rfl, _⟩ := h; rfl
theorem rd_Region_sub : Rd t_Region_sub N_Region_sub r_Region_sub := by
  intro ds S QD XD h
  unfold r_Region_sub at h
  obtain ⟨a, b, rfl, ha, hb, q⟩ := h
  have h1 := row_len a
  rw [rg_is a, rg_is b]
  row_hasAll w_d
  refine lk_filter (p := fun c => !decide (c ∈ b)) (f := pr) (fun c hc => ⟨_, rfl, fun Q' h => ?_, fun _ Q' h => ?_⟩) ?_
  · row_hasAll w_d
    rw [show (valD (fnd (once b)) [Sum.inl c.fst, Sum.inl c.snd]).isSome = decide (c ∈ once b) from valD_fnd _ _, decide_eq_decide.mpr (mem_once (cs := b) (c := c))]
    row_hasAll w_d
    exact h
  · row_hasAll w_d
    exact h
  · row_hasAll w_d
    exact mk_region (Nat.le_trans (List.length_filter_le ..) (by omega)) q
def t_Region_xor : DTS := (dSeq (dIf (dNot (dTru (dUn (isiD ti_Region) (dVar 1)))) dDead dNext) (dSeq (dSet 2 (dLc (dItems (dFld [(0, 1)] (dVar 0))) (.nm 3) (dTestB (dOp oNotIn (dVar 3) (dFld [(0, 0)] (dVar 1)))) (dVar 3) [3])) (dSeq (dSet 4 (dLc (dItems (dFld [(0, 1)] (dVar 1))) (.nm 3) (dTestB (dOp oNotIn (dVar 3) (dFld [(0, 0)] (dVar 0)))) (dVar 3) [3])) (dRet (dMake mkF 0 r_Region_init [] (dCons (dOp oAdd (dVar 2) (dVar 4)) dNil))))))
abbrev N_Region_xor : List Str := ["self", "other", "left", "cell", "right"]
@[irreducible] def r_Region_xor : DSp := fun ds S Q _ => ∃ a b, ds = [rg a, rg b] ∧ a.length ≤ 400 ∧ b.length ≤ 400 ∧ Q (rg (((row a).filter fun c => !decide (c ∈ b)) ++ (row b).filter fun c => !decide (c ∈ a))) S
theorem len_Region_xor : Ln 2 r_Region_xor := fun ds S Q E h => by unfold r_Region_xor at h; obtain ⟨a, b, rfl, _⟩ := h; rfl
theorem rd_Region_xor : Rd t_Region_xor N_Region_xor r_Region_xor := by
  intro ds S QD XD h
  unfold r_Region_xor at h
  obtain ⟨a, b, rfl, ha, hb, q⟩ := h
  have h1 := row_len a
  have h2 := row_len b
  rw [rg_is a, rg_is b]
  row_hasAll w_d
  refine lk_filter (p := fun c => !decide (c ∈ b)) (f := pr) (fun c hc => ⟨_, rfl, fun Q' h => ?_, fun _ Q' h => ?_⟩) ?_
  · row_hasAll w_d
    rw [show (valD (fnd (once b)) [Sum.inl c.fst, Sum.inl c.snd]).isSome = decide (c ∈ once b) from valD_fnd _ _, decide_eq_decide.mpr (mem_once (cs := b) (c := c))]
    row_hasAll w_d
    exact h
  · row_hasAll w_d
    exact h
  · row_hasAll w_d
    refine lk_filter (p := fun c => !decide (c ∈ a)) (f := pr) (fun c hc => ⟨_, rfl, fun Q' h => ?_, fun _ Q' h => ?_⟩) ?_
    · row_hasAll w_d
      rw [show (valD (fnd (once a)) [Sum.inl c.fst, Sum.inl c.snd]).isSome = decide (c ∈ once a) from valD_fnd _ _, decide_eq_decide.mpr (mem_once (cs := a) (c := c))]
      row_hasAll w_d
      exact h
    · row_hasAll w_d
      exact h
    · row_hasAll w_d
      refine ⟨by simp only [List.length_map, sizeLine_eq]; exact Nat.le_trans (Nat.add_le_add (List.length_filter_le ..) (List.length_filter_le ..)) (by omega), ?_⟩
      row_hasAll w_d
      rw [← List.map_append]
      exact mk_region (by rw [List.length_append]; exact Nat.le_trans (Nat.add_le_add (List.length_filter_le ..) (List.length_filter_le ..)) (by omega)) q
def t_Region_within : DTS := (dSeq (dFor (dItems (dFld [(0, 1)] (dVar 0))) (.nm 2) (dIf (dTestB (dOp oNotIn (dVar 2) (dFld [(0, 0)] (dVar 1)))) (dRet (dC (.bl false))) dNext)) (dRet (dC (.bl true))))
abbrev N_Region_within : List Str := ["self", "other", "cell"]
@[irreducible] def r_Region_within : DSp := fun ds S Q _ => ∃ a b, ds = [rg a, rg b] ∧ Q (.bl (decide (∀ c ∈ a, c ∈ b))) S
theorem len_Region_within : Ln 2 r_Region_within := fun ds S Q E h => by unfold r_Region_within at h; obtain ⟨a, b, rfl, _⟩ := h; rfl
theorem rd_Region_within : Rd t_Region_within N_Region_within r_Region_within := by
  intro ds S QD XD h
  unfold r_Region_within at h
  obtain ⟨a, b, rfl, q⟩ := h
  rw [rg_is a, rg_is b]
  row_hasAll w_d
  refine loop_of (fun r δ S' => S' = S ∧ (∃ x, δ = [some (rg a), some (rg b), x]) ∧ decide (∀ c ∈ r, c ∈ b) = decide (∀ c ∈ a, c ∈ b) ∧ ∀ c ∈ r, c ∈ a) ?_ ?_ ⟨rfl, ⟨_, rfl⟩, decide_eq_decide.mpr ⟨fun h c hc => h c (mem_ro.mpr (mem_once.mpr hc)), fun h c hc => h c (mem_once.mp (mem_ro.mp hc))⟩, fun c hc => mem_once.mp (mem_ro.mp hc)⟩
  · rintro c r δ S' ⟨rfl, ⟨x, rfl⟩, hd, hm⟩
    refine ⟨_, rfl, fun N hN => ?_⟩
    rw [rg_is a, rg_is b] at *
    row_hasAll w_d
    rw [show (valD (fnd (once b)) [Sum.inl c.fst, Sum.inl c.snd]).isSome = decide (c ∈ once b) from valD_fnd _ _, decide_eq_decide.mpr (mem_once (cs := b) (c := c))]
    refine brN (fun hc => ?_) (fun hc => ?_)
    · row_hasAll w_d
      rw [show decide (∀ c ∈ a, c ∈ b) = false from decide_eq_false fun z => hc (z c (hm c (List.mem_cons_self ..)))] at q
      exact q
    · refine hN _ _ ⟨rfl, ⟨_, rfl⟩, ?_, fun d hd => hm d (List.mem_cons_of_mem _ hd)⟩
      rw [← hd]
      exact decide_eq_decide.mpr ⟨fun h d hd => by rcases List.mem_cons.mp hd with rfl | h2; exact hc; exact h d h2, fun h d hd => h d (List.mem_cons_of_mem _ hd)⟩
  · rintro δ S' ⟨rfl, ⟨x, rfl⟩, hd, hm⟩
    row_hasAll w_d
    rw [← hd] at q
    simpa using q
/-! intro -/
theorem i_Ror {a b : List Cell} {S : Sto} {Q : DQ} (ha : a.length ≤ 400) (hb : b.length ≤ 400) (h : Q (rg (row a ++ row b)) S) : opI 0 r_Region_or (rg a) (rg b) S Q := by
  unfold opI
  refine vk_ins ⟨rfl, vk_ins ⟨rfl, ?_⟩⟩
  unfold r_Region_or; exact ⟨a, b, rfl, ha, hb, h⟩
theorem i_Rand {a b : List Cell} {S : Sto} {Q : DQ} (ha : a.length ≤ 400) (hb : b.length ≤ 400) (h : Q (rg ((row a).filter fun c => decide (c ∈ b))) S) : opI 0 r_Region_and (rg a) (rg b) S Q := by
  unfold opI
  refine vk_ins ⟨rfl, vk_ins ⟨rfl, ?_⟩⟩
  unfold r_Region_and; exact ⟨a, b, rfl, ha, hb, h⟩
theorem i_Rsub {a b : List Cell} {S : Sto} {Q : DQ} (ha : a.length ≤ 400) (hb : b.length ≤ 400) (h : Q (rg ((row a).filter fun c => !decide (c ∈ b))) S) : opI 0 r_Region_sub (rg a) (rg b) S Q := by
  unfold opI
  refine vk_ins ⟨rfl, vk_ins ⟨rfl, ?_⟩⟩
  unfold r_Region_sub; exact ⟨a, b, rfl, ha, hb, h⟩
theorem i_Rxor {a b : List Cell} {S : Sto} {Q : DQ} (ha : a.length ≤ 400) (hb : b.length ≤ 400) (h : Q (rg (((row a).filter fun c => !decide (c ∈ b)) ++ (row b).filter fun c => !decide (c ∈ a))) S) : opI 0 r_Region_xor (rg a) (rg b) S Q := by
  unfold opI
  refine vk_ins ⟨rfl, vk_ins ⟨rfl, ?_⟩⟩
  unfold r_Region_xor; exact ⟨a, b, rfl, ha, hb, h⟩
theorem i_within {a b : List Cell} {S : Sto} {Q : DQ} {X : XQ} (h : Q (.bl (decide (∀ c ∈ a, c ∈ b))) S) : r_Region_within [rg a, rg b] S Q X := by unfold r_Region_within; exact ⟨a, b, rfl, h⟩
/-! rows -/
theorem row_mem {cs : List Cell} {c : Cell} : c ∈ row cs ↔ c ∈ cs := by rw [mem_ro, mem_once]
theorem row_nd (cs : List Cell) : (row cs).Nodup := roSort_nd (once_nd cs)
theorem row_sub {cs : List Cell} (p : Cell → Bool) : row ((row cs).filter p) = (row cs).filter p := by
  unfold row
  rw [once_id ((roSort_nd (once_nd cs)).filter p)]
  exact roSort_id ((roSort_pw (once cs)).filter p)
theorem row_sub2 {a b : List Cell} (p q : Cell → Bool) (h : ∀ c, c ∈ (row a).filter p → c ∈ (row b).filter q → False) : row ((row a).filter p ++ (row b).filter q) = roSort ((row a).filter p ++ (row b).filter q) := by
  unfold row
  rw [once_id]
  rw [List.nodup_append]
  exact ⟨(row_nd a).filter p, (row_nd b).filter q, fun x hx y hy e => h x hx (by subst e; exact hy)⟩
--#CALL refine i_Ror (by row_hasAll w_side) (by row_hasAll w_side) ?_
--#CALL refine i_Rand (by row_hasAll w_side) (by row_hasAll w_side) ?_
--#CALL refine i_Rsub (by row_hasAll w_side) (by row_hasAll w_side) ?_
--#CALL refine i_within ?_
end SM

set_option Elab.async false
set_option linter.all false
set_option maxRecDepth 100000
set_option maxHeartbeats 4000000
--#ONETAC
local macro_rules | `(tactic| row_hasAll w_c) => `(tactic| first
  | refine i_Ror (by row_hasAll w_side) (by row_hasAll w_side) ?_
  | refine i_Rand (by row_hasAll w_side) (by row_hasAll w_side) ?_
  | refine i_Rsub (by row_hasAll w_side) (by row_hasAll w_side) ?_
  | refine i_within ?_)
namespace SM
open PySem PySem.Spec PyProof.Rows L2
/-! ### signs -/
def letB (c : Nat) : Bool := decide (97 ≤ c ∧ c ≤ 122)
def stoneB (s : Str) : Bool := match s.cps.toList with
  | [c] => letB c
  | _ => false
def signB (s : Str) : Bool := match s.cps.toList with
  | [c] => decide (c = 46) || letB c
  | _ => false
def t_p_is_stone : DTS := (dRet (dAndV (dOp oEq (dCB (on1 lenD) (dCons (dVar 0) dNil)) (dC (.int 1))) (dOp oIn (dVar 0) (dC (.str "abcdefghijklmnopqrstuvwxyz")))))
abbrev N_p_is_stone : List Str := ["sign"]
@[irreducible] def r_p_is_stone : DSp := fun ds S Q _ => ∃ s, ds = [.str s] ∧ Q (.bl (stoneB s)) S
theorem len_p_is_stone : Ln 1 r_p_is_stone := fun ds S Q E h => by unfold r_p_is_stone at h; obtain ⟨a, rfl, _⟩ := h; rfl
theorem rd_p_is_stone : Rd t_p_is_stone N_p_is_stone r_p_is_stone := by
  intro ds S QD XD h
  unfold r_p_is_stone at h
  obtain ⟨s, rfl, q⟩ := h
  row_hasAll w_d
  refine brP (c := ((s.length : Nat) : Int) = 1) (fun h1 => ?_) (fun h1 => ?_)
  · row_hasAll w_d
    have hl : s.cps.toList.length = 1 := by
      have : s.cps.size = 1 := by exact_mod_cast h1
      simpa using this
    obtain ⟨c, hc⟩ := List.length_eq_one_iff.mp hl
    have e : inS s (Str.ofString "abcdefghijklmnopqrstuvwxyz") = stoneB s := by
      unfold inS stoneB
      rw [hc]
      show decide (c ∈ [97, 98, 99, 100, 101, 102, 103, 104, 105, 106, 107, 108, 109, 110, 111, 112, 113, 114, 115, 116, 117, 118, 119, 120, 121, 122]) = decide (97 ≤ c ∧ c ≤ 122)
      refine decide_eq_decide.mpr ⟨fun h => ?_, fun h => ?_⟩
      · simp at h; omega
      · simp; omega
    rw [e]
    exact q
  · have e : stoneB s = false := by
      unfold stoneB
      split
      · rename_i c hc
        exfalso
        apply h1
        have : s.cps.size = 1 := by rw [← Array.length_toList, hc]; rfl
        exact_mod_cast this
      · rfl
    rw [e] at q
    exact q
theorem i_stone {s : Str} {S : Sto} {Q : DQ} {X : XQ} (h : Q (.bl (stoneB s)) S) : r_p_is_stone [.str s] S Q X := by unfold r_p_is_stone; exact ⟨s, rfl, h⟩
def t_p_is_sign : DTS := (dRet (dOrV (dOp oEq (dVar 0) (dC (.str "."))) (dCall r_p_is_stone [] (dCons (dVar 0) dNil))))
abbrev N_p_is_sign : List Str := ["sign"]
@[irreducible] def r_p_is_sign : DSp := fun ds S Q _ => ∃ s, ds = [.str s] ∧ Q (.bl (signB s)) S
theorem len_p_is_sign : Ln 1 r_p_is_sign := fun ds S Q E h => by unfold r_p_is_sign at h; obtain ⟨a, rfl, _⟩ := h; rfl
theorem str_ext {s t : Str} (h : s.cps.toList = t.cps.toList) : s = t := by
  obtain ⟨a⟩ := s
  obtain ⟨b⟩ := t
  exact congrArg Str.mk (Array.toList_inj.mp h)
theorem signB_is (s : Str) : signB s = (decide (s = ".") || stoneB s) := by
  unfold signB stoneB
  split
  · rename_i c hc
    have e : decide (s = ".") = decide (c = 46) := decide_eq_decide.mpr ⟨fun h => by rw [h] at hc; have : [46] = [c] := hc; simpa using this.symm, fun h => str_ext (by rw [hc, h]; rfl)⟩
    rw [e]
  · rename_i hc
    have e : decide (s = ".") = false := decide_eq_false fun h => hc 46 (by rw [h]; rfl)
    rw [e]; rfl
theorem rd_p_is_sign : Rd t_p_is_sign N_p_is_sign r_p_is_sign := by
  intro ds S QD XD h
  unfold r_p_is_sign at h
  obtain ⟨s, rfl, q⟩ := h
  rw [signB_is] at q
  row_hasAll w_d
  refine brP (c := s = ".") (fun h1 => ?_) (fun h1 => ?_)
  · rw [decide_eq_true h1] at q
    exact q
  · rw [decide_eq_false h1] at q
    exact i_stone q
theorem i_sign {s : Str} {S : Sto} {Q : DQ} {X : XQ} (h : Q (.bl (signB s)) S) : r_p_is_sign [.str s] S Q X := by unfold r_p_is_sign; exact ⟨s, rfl, h⟩
/-! ### rows -/
def rowB (r : Str) (w : Int) : Bool := decide ((r.length : Int) = w ∧ 1 ≤ w ∧ w ≤ 8) && r.cps.toList.all fun c => signB (one c)
def t_p_is_row : DTS := (dSeq (dIf (dOr (dTestB (dOp oNe (dCB (on1 lenD) (dCons (dVar 0) dNil)) (dVar 1))) (dOr (dTestB (dOp oLt (dVar 1) (dC (.int 1)))) (dTestB (dOp oGt (dVar 1) (dC (.int 8)))))) (dRet (dC (.bl false))) dNext) (dSeq (dFor (dItems (dVar 0)) (.nm 2) (dIf (dNot (dTru (dCall r_p_is_sign [] (dCons (dVar 2) dNil)))) (dRet (dC (.bl false))) dNext)) (dRet (dC (.bl true)))))
abbrev N_p_is_row : List Str := ["row", "width", "sign"]
@[irreducible] def r_p_is_row : DSp := fun ds S Q _ => ∃ r w, ds = [.str r, .int w] ∧ Q (.bl (rowB r w)) S
theorem len_p_is_row : Ln 2 r_p_is_row := fun ds S Q E h => by unfold r_p_is_row at h; obtain ⟨a, b, rfl, _⟩ := h; rfl
theorem rd_p_is_row : Rd t_p_is_row N_p_is_row r_p_is_row := by
  intro ds S QD XD h
  unfold r_p_is_row at h
  obtain ⟨r, w, rfl, q⟩ := h
  unfold rowB at q
  have no : ¬ ((r.length : Int) = w ∧ 1 ≤ w ∧ w ≤ 8) → QD (.bl false) S := fun hn => by rw [decide_eq_false hn] at q; exact q
  row_hasAll w_d
  refine brN (c := ((r.length : Nat) : Int) = w) (fun h1 => ?_) (fun h1 => ?_)
  · row_hasAll w_d
    exact no fun z => h1 z.1
  · row_hasAll w_d
    refine brP (fun h2 => ?_) (fun h2 => ?_)
    · row_hasAll w_d
      exact no fun z => by omega
    · row_hasAll w_d
      refine brP (fun h3 => ?_) (fun h3 => ?_)
      · row_hasAll w_d
        exact no fun z => by omega
      · row_hasAll w_d
        rw [decide_eq_true (show ((r.length : Int) = w ∧ 1 ≤ w ∧ w ≤ 8) by exact ⟨h1, by omega, by omega⟩), Bool.true_and] at q
        refine loop_of (g := fun c => D.str (one c)) (fun l δ S' => S' = S ∧ (∃ x, δ = [some (.str r), some (.int w), x]) ∧ (l.all fun c => signB (one c)) = r.cps.toList.all fun c => signB (one c)) ?_ ?_ ⟨rfl, ⟨_, rfl⟩, rfl⟩
        · rintro c l δ S' ⟨rfl, ⟨x, rfl⟩, e⟩
          refine ⟨_, rfl, fun N hN => ?_⟩
          row_hasAll w_d
          refine i_sign ?_
          rw [List.all_cons] at e
          cases hs : signB (one c) with
          | true =>
            rw [hs, Bool.true_and] at e
            row_hasAll w_d
            exact hN _ _ ⟨rfl, ⟨_, rfl⟩, e⟩
          | false =>
            rw [hs, Bool.false_and] at e
            row_hasAll w_d
            rw [← e] at q
            exact q
        · rintro δ S' ⟨rfl, ⟨x, rfl⟩, e⟩
          row_hasAll w_d
          rw [← e] at q
          exact q
theorem enumD_map {α : Type} (f : α → D) : ∀ (n : Nat) (l : List α), enumD n (l.map f) = (l.zipIdx n).map fun p => .tup [.int (p.2 : Nat), f p.1]
  | _, [] => rfl
  | n, x :: r => by rw [List.map_cons, enumD, enumD_map f (n + 1) r, List.zipIdx_cons, List.map_cons]
theorem i_row {r : Str} {w : Int} {S : Sto} {Q : DQ} {X : XQ} (h : Q (.bl (rowB r w)) S) : r_p_is_row [.str r, .int w] S Q X := by unfold r_p_is_row; exact ⟨r, w, rfl, h⟩
/-! ### pictures -/
def wid (rows : List Str) : Int := match rows with
  | r :: _ => (r.length : Nat)
  | [] => 0
abbrev picF (rows : List Str) : List D := [.lst (rows.map D.str), .int (wid rows), .int (rows.length : Nat)]
def pic (rows : List Str) : D := .ins 1 (picF rows)
theorem pic_is (rows : List Str) : pic rows = .ins 1 [.lst (rows.map D.str), .int (wid rows), .int (rows.length : Nat)] := rfl
def badFrom (w : Int) : Nat → List Str → Option Nat
  | _, [] => none
  | i, r :: l => if 8 ≤ i ∨ rowB r w = false then some (i + 1) else badFrom w (i + 1) l
def bad (rows : List Str) : Option Nat := if rows = [] then some 1 else badFrom (wid rows) 0 rows
def t_Picture_init : DTS := (dSeq (dIf (dTestB (dOp oEq (dCB (on1 lenD) (dCons (dVar 1) dNil)) (dC (.int 0)))) (dRaise 21 (dCons (dC (.int 1)) dNil)) dNext) (dSeq (dFor (dEnum (dCons (dVar 1) dNil)) (.tp [(.nm 2), (.nm 3)]) (dIf (dOr (dTestB (dOp oGe (dVar 2) (dC (.int 8)))) (dNot (dTru (dCall r_p_is_row [] (dCons (dVar 3) (dCons (dCB (on1 lenD) (dCons (dOp oIx (dVar 1) (dC (.int 0))) dNil)) dNil)))))) (dRaise 21 (dCons (dOp oAdd (dVar 2) (dC (.int 1))) dNil)) dNext)) (dSeq (dSetF [(1, 0)] (dVar 0) (dCB (on1 listD) (dCons (dVar 1) dNil))) (dSeq (dSetF [(1, 1)] (dVar 0) (dCB (on1 lenD) (dCons (dOp oIx (dVar 1) (dC (.int 0))) dNil))) (dSetF [(1, 2)] (dVar 0) (dCB (on1 lenD) (dCons (dVar 1) dNil)))))))
abbrev N_Picture_init : List Str := ["self", "rows", "number", "row"]
@[irreducible] def r_Picture_init : DSp := fun ds S Q X => ∃ z d rows, ds = [.adr z, d] ∧ isL S d (rows.map D.str) ∧ S z = some (.ins 1 []) ∧ rows.length ≤ 1000 ∧ match bad rows with
  | none => Q .non (su S z (.ins 1 (picF rows)))
  | some n => X ⟨21, [.int (n : Nat)]⟩ S
theorem len_Picture_init : Ln 2 r_Picture_init := fun ds S Q E h => by unfold r_Picture_init at h; obtain ⟨z, d, rows, rfl, _⟩ := h; rfl
theorem rd_Picture_init : Rd t_Picture_init N_Picture_init r_Picture_init := by
  intro ds S QD XD h
  unfold r_Picture_init at h
  obtain ⟨z, d, rows, rfl, hL, hS, hl, q⟩ := h
  cases rows with
  | nil =>
    have e : bad [] = some 1 := rfl
    rw [e] at q
    rcases hL with rfl | ⟨a, rfl, ha⟩
    · row_hasAll w_d
      exact q
    · row_hasAll w_d
      exact q
  | cons r0 rest =>
    have e : bad (r0 :: rest) = badFrom (wid (r0 :: rest)) 0 (r0 :: rest) := rfl
    rw [e] at q
    have ew : wid (r0 :: rest) = (r0.length : Nat) := rfl
    rcases hL with rfl | ⟨a, rfl, ha⟩
    · row_hasAll w_d
      rw [enumD_map]
      refine loop_ofG (gd := none) (g := fun p : Str × Nat => .tup [.int (p.2 : Nat), .str p.1]) (fun l δ S' => S' = S ∧ (∃ x y, δ = [some (.adr z), some (.lst ((r0 :: rest).map D.str)), x, y]) ∧ ∃ i l', l = l'.zipIdx i ∧ badFrom (wid (r0 :: rest)) i l' = badFrom (wid (r0 :: rest)) 0 (r0 :: rest)) (fun _ _ _ _ => True.intro) ?_ ?_ ⟨rfl, ⟨_, _, rfl⟩, 0, _, rfl, rfl⟩
      · rintro ⟨r, k⟩ l δ S' ⟨rfl, ⟨x, y, rfl⟩, i, l', hz, hb⟩
        refine ⟨_, rfl, fun N hN => ?_⟩
        cases l' with
        | nil => cases hz
        | cons r' l' =>
        rw [List.zipIdx_cons] at hz
        simp only [List.cons.injEq, Prod.mk.injEq] at hz
        obtain ⟨⟨rfl, rfl⟩, rfl⟩ := hz
        rw [badFrom] at hb
        row_hasAll w_d
        refine brP (fun h8 => ?_) (fun h8 => ?_)
        · row_hasAll w_d
          rw [if_pos (.inl (by omega))] at hb
          rw [← hb] at q
          exact q
        · row_hasAll w_d
          refine i_row ?_
          rw [← ew]
          cases hr : rowB r (wid (r0 :: rest)) with
          | true =>
            row_hasAll w_d
            rw [if_neg (by rw [hr]; simp; omega)] at hb
            exact hN _ _ ⟨rfl, ⟨_, _, rfl⟩, _, _, rfl, hb⟩
          | false =>
            row_hasAll w_d
            rw [if_pos (.inr hr)] at hb
            rw [← hb] at q
            exact q
      · rintro δ S' ⟨rfl, ⟨x, y, rfl⟩, i, l', hz, hb⟩
        have hn : l' = [] := by cases l' with | nil => rfl | cons a b => cases hz
        subst hn
        rw [badFrom] at hb
        rw [← hb] at q
        row_hasAll w_d
        rw [List.length_map]
        exact q
    · row_hasAll w_d
      rw [enumD_map]
      refine loop_ofG (g := fun p : Str × Nat => .tup [.int (p.2 : Nat), .str p.1]) (fun l δ S' => S' = S ∧ (∃ x y, δ = [some (.adr z), some (.adr a), x, y]) ∧ ∃ i l', l = l'.zipIdx i ∧ badFrom (wid (r0 :: rest)) i l' = badFrom (wid (r0 :: rest)) 0 (r0 :: rest)) (fun _ _ _ h => by rw [h.1]; exact ha) ?_ ?_ ⟨rfl, ⟨_, _, rfl⟩, 0, _, rfl, rfl⟩
      · rintro ⟨r, k⟩ l δ S' ⟨rfl, ⟨x, y, rfl⟩, i, l', hz, hb⟩
        refine ⟨_, rfl, fun N hN => ?_⟩
        cases l' with
        | nil => cases hz
        | cons r' l' =>
        rw [List.zipIdx_cons] at hz
        simp only [List.cons.injEq, Prod.mk.injEq] at hz
        obtain ⟨⟨rfl, rfl⟩, rfl⟩ := hz
        rw [badFrom] at hb
        row_hasAll w_d
        refine brP (fun h8 => ?_) (fun h8 => ?_)
        · row_hasAll w_d
          rw [if_pos (.inl (by omega))] at hb
          rw [← hb] at q
          exact q
        · row_hasAll w_d
          refine i_row ?_
          rw [← ew]
          cases hr : rowB r (wid (r0 :: rest)) with
          | true =>
            row_hasAll w_d
            rw [if_neg (by rw [hr]; simp; omega)] at hb
            exact hN _ _ ⟨rfl, ⟨_, _, rfl⟩, _, _, rfl, hb⟩
          | false =>
            row_hasAll w_d
            rw [if_pos (.inr hr)] at hb
            rw [← hb] at q
            exact q
      · rintro δ S' ⟨rfl, ⟨x, y, rfl⟩, i, l', hz, hb⟩
        have hn : l' = [] := by cases l' with | nil => rfl | cons a b => cases hz
        subst hn
        rw [badFrom] at hb
        rw [← hb] at q
        have haz : a ≠ z := fun e => by rw [e, hS] at ha; cases ha
        row_hasAll w_d
        rw [List.length_map]
        exact q
--#CALL refine i_stone ?_
--#CALL refine i_sign ?_
--#CALL refine i_row ?_
end SM

set_option Elab.async false
set_option linter.all false
set_option maxRecDepth 100000
set_option maxHeartbeats 4000000
--#ONETAC
local macro_rules | `(tactic| row_hasAll w_c) => `(tactic| first
  | refine i_stone ?_
  | refine i_sign ?_
  | refine i_row ?_)
namespace SM
open PySem PySem.Spec PyProof.Rows L2
/-! ### good grids -/
structure Grid (rows : List Str) : Prop where
  ne : rows ≠ []
  le : rows.length ≤ 8
  w1 : 1 ≤ wid rows
  w8 : wid rows ≤ 8
  row : ∀ r ∈ rows, (r.length : Int) = wid rows ∧ ∀ c ∈ r.cps.toList, signB (one c) = true
theorem rowB_ok {r : Str} {w : Int} (h1 : 1 ≤ w) (h8 : w ≤ 8) (h : (r.length : Int) = w ∧ ∀ c ∈ r.cps.toList, signB (one c) = true) : rowB r w = true := by
  unfold rowB
  rw [decide_eq_true ⟨h.1, h1, h8⟩, Bool.true_and, List.all_eq_true]
  exact h.2
theorem badFrom_none {w : Int} : ∀ {l : List Str} {i : Nat}, i + l.length ≤ 8 → (∀ r ∈ l, rowB r w = true) → badFrom w i l = none
  | [], _, _, _ => rfl
  | r :: l, i, hl, h => by
    simp only [List.length_cons] at hl
    rw [badFrom, if_neg (by rw [h r (List.mem_cons_self ..)]; simp; omega)]
    exact badFrom_none (by omega) fun z hz => h z (List.mem_cons_of_mem _ hz)
theorem Grid.bad {rows : List Str} (g : Grid rows) : bad rows = none := by
  unfold SM.bad
  rw [if_neg g.ne]
  exact badFrom_none (by have := g.le; omega) fun r hr => rowB_ok g.w1 g.w8 (g.row r hr)
theorem mk_pic {d : D} {rows : List Str} {S : Sto} {Q : DQ} {X : XQ} (hL : isL S d (rows.map D.str)) (hl : rows.length ≤ 1000) (h : match bad rows with
    | none => Q (pic rows) S
    | some n => X ⟨21, [.int (n : Nat)]⟩ S) : ∀ z, S z = none → r_Picture_init [.adr z, d] (su S z (.ins 1 [])) (fun d S2 => d = .non ∧ mkF Q z S2) (fun e S2 => X e (sd S2 z)) := by
  intro z hz
  unfold r_Picture_init
  have hL2 : isL (su S z (.ins 1 [])) d (rows.map D.str) := by
    rcases hL with rfl | ⟨a, rfl, ha⟩
    · exact .inl rfl
    · exact .inr ⟨a, rfl, by rw [su_ne (st_ne ha hz)]; exact ha⟩
  refine ⟨z, d, rows, rfl, hL2, su_same, hl, ?_⟩
  cases e : bad rows with
  | none =>
    rw [e] at h
    refine ⟨rfl, ?_⟩
    rw [su_su]
    refine ok_o su_same ?_
    show Q (.ins 1 (picF rows)) _
    rw [sd_su_new hz]
    exact h
  | some n =>
    rw [e] at h
    show X _ _
    rw [sd_su_new hz]
    exact h
theorem mk_picG {d : D} {rows : List Str} {S : Sto} {Q : DQ} {X : XQ} (hL : isL S d (rows.map D.str)) (g : Grid rows) (h : Q (pic rows) S) : ∀ z, S z = none → r_Picture_init [.adr z, d] (su S z (.ins 1 [])) (fun d S2 => d = .non ∧ mkF Q z S2) (fun e S2 => X e (sd S2 z)) :=
  mk_pic hL (by have := g.le; omega) (by rw [g.bad]; exact h)
/-! ### looks -/
def inP (rows : List Str) (x y : Int) : Bool := decide ((0 ≤ x ∧ x < wid rows) ∧ (0 ≤ y ∧ y < (rows.length : Nat)))
def t_Picture_contains : DTS := (dRet (dAndV (dChain oLe oLt (dC (.int 0)) (dVar 1) (dFld [(1, 1)] (dVar 0))) (dChain oLe oLt (dC (.int 0)) (dVar 2) (dFld [(1, 2)] (dVar 0)))))
abbrev N_Picture_contains : List Str := ["self", "x", "y"]
@[irreducible] def r_Picture_contains : DSp := fun ds S Q _ => ∃ rows x y, ds = [pic rows, .int x, .int y] ∧ Q (.bl (inP rows x y)) S
theorem len_Picture_contains : Ln 3 r_Picture_contains := fun ds S Q E h => by unfold r_Picture_contains at h; obtain ⟨a, b, c, rfl, _⟩ := h; rfl
theorem brn_and {a b : Prop} [Decidable a] [Decidable b] {Q : Bool → Prop} (h : Q (decide (a ∧ b))) : brn (decide a) (Q (decide b)) (Q false) := by
  refine brP (fun ha => ?_) (fun ha => ?_)
  · rwa [show decide (a ∧ b) = decide b from decide_eq_decide.mpr ⟨fun z => z.2, fun z => ⟨ha, z⟩⟩] at h
  · rwa [show decide (a ∧ b) = false from decide_eq_false fun z => ha z.1] at h
theorem rd_Picture_contains : Rd t_Picture_contains N_Picture_contains r_Picture_contains := by
  intro ds S QD XD h
  unfold r_Picture_contains at h
  obtain ⟨rows, x, y, rfl, q⟩ := h
  rw [pic_is]
  unfold inP at q
  row_hasAll w_d
  have no : ¬ ((0 ≤ x ∧ x < wid rows) ∧ (0 ≤ y ∧ y < (rows.length : Nat))) → QD (.bl false) S := fun hn => by rw [decide_eq_false hn] at q; exact q
  refine brP (fun h1 => ?_) (fun h1 => ?_)
  · row_hasAll w_d
    refine brP (fun h2 => ?_) (fun h2 => ?_)
    · row_hasAll w_d
      refine brP (fun h3 => ?_) (fun h3 => ?_)
      · row_hasAll w_d
        rw [show decide (y < ((rows.length : Nat) : Int)) = decide ((0 ≤ x ∧ x < wid rows) ∧ (0 ≤ y ∧ y < (rows.length : Nat))) from decide_eq_decide.mpr ⟨fun h => ⟨⟨h1, h2⟩, h3, h⟩, fun h => h.2.2⟩]
        exact q
      · exact no fun z => h3 z.2.1
    · exact no fun z => h2 z.1.2
  · row_hasAll w_d
    exact no fun z => h1 z.1.1
theorem i_contains {rows : List Str} {x y : Int} {S : Sto} {Q : DQ} {X : XQ} (h : Q (.bl (inP rows x y)) S) : r_Picture_contains [pic rows, .int x, .int y] S Q X := by unfold r_Picture_contains; exact ⟨rows, x, y, rfl, h⟩
/-- the sign at a position -/
def sgnAt (rows : List Str) (x y : Int) : Str := if inP rows x y = true then (match rows[y.toNat]? with
  | some r => (match r.cps.toList[x.toNat]? with
    | some c => one c
    | none => "#")
  | none => "#") else "#"
theorem Grid.get {rows : List Str} (g : Grid rows) {x y : Int} (h : inP rows x y = true) : ∃ r c, rows[y.toNat]? = some r ∧ r.cps.toList[x.toNat]? = some c ∧ r ∈ rows ∧ c ∈ r.cps.toList ∧ sgnAt rows x y = one c := by
  have h' := of_decide_eq_true (show decide ((0 ≤ x ∧ x < wid rows) ∧ (0 ≤ y ∧ y < (rows.length : Nat))) = true from h)
  have hy : y.toNat < rows.length := by omega
  have hm : rows[y.toNat] ∈ rows := List.getElem_mem hy
  have hl := (g.row _ hm).1
  have hx : x.toNat < (rows[y.toNat]).cps.toList.length := by
    rw [Array.length_toList]
    have : ((rows[y.toNat]).cps.size : Int) = wid rows := hl
    omega
  refine ⟨rows[y.toNat], (rows[y.toNat]).cps.toList[x.toNat], by simp [hy], by rw [List.getElem?_eq_getElem hx], hm, List.getElem_mem hx, ?_⟩
  unfold sgnAt
  rw [if_pos h, List.getElem?_eq_getElem hy]
  simp only
  rw [List.getElem?_eq_getElem hx]
def t_Picture_getitem : DTS := (dSeq (dUnp (.tp [(.nm 2), (.nm 3)]) (dVar 1)) (dSeq (dIf (dAnd (dTestB (dChain oLe oLt (dC (.int 0)) (dVar 2) (dFld [(1, 1)] (dVar 0)))) (dTestB (dChain oLe oLt (dC (.int 0)) (dVar 3) (dFld [(1, 2)] (dVar 0))))) (dRet (dOp oIx (dOp oIx (dFld [(1, 0)] (dVar 0)) (dVar 3)) (dVar 2))) dNext) (dRet (dC (.str "#")))))
abbrev N_Picture_getitem : List Str := ["self", "at", "x", "y"]
@[irreducible] def r_Picture_getitem : DSp := fun ds S Q _ => ∃ rows x y, ds = [pic rows, .tup [.int x, .int y]] ∧ Grid rows ∧ Q (.str (sgnAt rows x y)) S
theorem len_Picture_getitem : Ln 2 r_Picture_getitem := fun ds S Q E h => by unfold r_Picture_getitem at h; obtain ⟨a, b, c, rfl, _⟩ := h; rfl
theorem ik_at {α : Type} {xs : List α} {i : Int} {v : α} {kk : α → Prop} (h0 : 0 ≤ i) (h : xs[i.toNat]? = some v) (q : kk v) : itk xs i kk := by
  obtain ⟨n, rfl⟩ : ∃ n : Nat, i = n := ⟨i.toNat, by omega⟩
  exact itk_of (atI_nat h) q
theorem rd_Picture_getitem : Rd t_Picture_getitem N_Picture_getitem r_Picture_getitem := by
  intro ds S QD XD h
  unfold r_Picture_getitem at h
  obtain ⟨rows, x, y, rfl, g, q⟩ := h
  rw [pic_is]
  have no : ¬ ((0 ≤ x ∧ x < wid rows) ∧ (0 ≤ y ∧ y < (rows.length : Nat))) → QD (.str "#") S := fun hn => by
    have e : sgnAt rows x y = "#" := by unfold sgnAt; rw [if_neg]; unfold inP; rw [decide_eq_false hn]; simp
    rw [e] at q; exact q
  row_hasAll w_d
  refine brP (fun h1 => ?_) (fun h1 => ?_)
  · row_hasAll w_d
    refine brP (fun h2 => ?_) (fun h2 => ?_)
    · row_hasAll w_d
      refine brP (fun h3 => ?_) (fun h3 => ?_)
      · row_hasAll w_d
        refine brP (fun h4 => ?_) (fun h4 => ?_)
        · obtain ⟨r, c, e1, e2, _, _, e3⟩ := g.get (x := x) (y := y) (decide_eq_true ⟨⟨h1, h2⟩, h3, h4⟩)
          rw [e3] at q
          row_hasAll w_d
          refine ik_at h3 (v := D.str r) (by rw [List.getElem?_map, e1]; rfl) ?_
          row_hasAll w_d
          refine ik_at h1 e2 ?_
          exact q
        · row_hasAll w_d
          exact no fun z => h4 z.2.2
      · row_hasAll w_d
        exact no fun z => h3 z.2.1
    · row_hasAll w_d
      exact no fun z => h2 z.1.2
  · row_hasAll w_d
    exact no fun z => h1 z.1.1
theorem i_getP {rows : List Str} {x y : Int} {S : Sto} {Q : DQ} (g : Grid rows) (h : Q (.str (sgnAt rows x y)) S) : ixI 1 r_Picture_getitem (pic rows) (.tup [.int x, .int y]) S Q := by
  unfold ixI ownI
  refine vk_ins ⟨rfl, ?_⟩
  unfold r_Picture_getitem
  exact ⟨rows, x, y, rfl, g, h⟩
def t_Picture_lines : DTS := (dRet (dCB (on1 listDO) (dCons (dFld [(1, 0)] (dVar 0)) dNil)))
abbrev N_Picture_lines : List Str := ["self"]
@[irreducible] def r_Picture_lines : DSp := fun ds S Q _ => ∃ rows, ds = [pic rows] ∧ ∀ p, S p = none → Q (.adr p) (su S p (.lst (rows.map D.str)))
theorem len_Picture_lines : Ln 1 r_Picture_lines := fun ds S Q E h => by unfold r_Picture_lines at h; obtain ⟨a, rfl, _⟩ := h; rfl
theorem rd_Picture_lines : Rd t_Picture_lines N_Picture_lines r_Picture_lines := by
  intro ds S QD XD h
  unfold r_Picture_lines at h
  obtain ⟨rows, rfl, q⟩ := h
  rw [pic_is]
  row_hasAll w_d
  exact q
theorem i_linesO {rows : List Str} {S : Sto} {Q : DQ} {X : XQ} (h : ∀ p, S p = none → Q (.adr p) (su S p (.lst (rows.map D.str)))) : r_Picture_lines [pic rows] S Q X := by unfold r_Picture_lines; exact ⟨rows, rfl, h⟩
--#CALL refine mk_picG (.inl rfl) (by assumption) ?_
--#CALL refine i_contains ?_
--#CALL refine ik_at (by decide) rfl ?_
--#CALL refine i_getP (by assumption) ?_
--#CALL refine i_linesO fun p hp => fz_new hp ?_
end SM

set_option Elab.async false
set_option linter.all false
set_option maxRecDepth 100000
set_option maxHeartbeats 4000000
--#ONETAC
local macro_rules | `(tactic| row_hasAll w_c) => `(tactic| first
  | refine mk_picG (.inl rfl) (by assumption) ?_
  | refine i_contains ?_
  | refine ik_at (by decide) rfl ?_
  | refine i_getP (by assumption) ?_
  | refine i_linesO fun p hp => fz_new hp ?_)
namespace SM
open PySem PySem.Spec PyProof.Rows L2
/-! ### the cells of a grid with a sign such that p -/
def cellsOf (p : Nat → Bool) (rows : List Str) : List Cell := rows.zipIdx.flatMap fun ry => (ry.1.cps.toList.zipIdx.filter fun cx => p cx.1).map fun cx => ((cx.2 : Int), (ry.2 : Int))
def holeB (c : Nat) : Bool := decide (c = 46)
def nholeB (c : Nat) : Bool := !decide (c = 46)
theorem one_dot (c : Nat) : decide (one c = ".") = holeB c := by
  unfold holeB
  refine decide_eq_decide.mpr ⟨fun h => ?_, fun h => by rw [h]; rfl⟩
  have : (one c).cps.toList = [46] := by rw [h]; rfl
  simpa [one] using this
theorem mem_zi {α : Type} {l : List α} {x : α × Nat} (h : x ∈ l.zipIdx) : x.1 ∈ l := by
  obtain ⟨a, i⟩ := x
  rw [List.mem_zipIdx_iff_getElem?] at h
  exact List.mem_of_getElem? h
theorem cells_len {p : Nat → Bool} : ∀ {rows : List Str} {n : Nat}, (∀ r ∈ rows, r.length ≤ n) → (cellsOf p rows).length ≤ rows.length * n := by
  intro rows n h
  unfold cellsOf
  rw [List.length_flatMap]
  have e : rows.length = rows.zipIdx.length := by rw [List.length_zipIdx]
  rw [e]
  refine sum_le _ n rows.zipIdx fun ry hr => ?_
  rw [List.length_map]
  refine Nat.le_trans (List.length_filter_le ..) ?_
  rw [List.length_zipIdx, Array.length_toList]
  exact h _ (mem_zi hr)
theorem enumS_map (z : Str) : enumS z = z.cps.toList.zipIdx.map fun cx => .tup [.int (cx.2 : Nat), .str (one cx.1)] := by
  unfold enumS
  rw [enumD_map]
theorem cellsOf_map (p : Nat → Bool) (rows : List Str) : (rows.zipIdx.flatMap fun ry => (ry.1.cps.toList.zipIdx.filter fun cx => p cx.1).map fun cx => D.tup [.int (cx.2 : Nat), .int (ry.2 : Nat)]) = (cellsOf p rows).map pr := by
  unfold cellsOf
  rw [List.map_flatMap]
  congr 1
  funext ry
  rw [List.map_map]
  rfl
def t_Picture_stones : DTS := (dRet (dMake mkF 0 r_Region_init [] (dCons (dLc2 (dEnum (dCons (dFld [(1, 0)] (dVar 0)) dNil)) (.tp [(.nm 1), (.nm 2)]) dYes (dEnumS (dCons (dVar 2) dNil)) (.tp [(.nm 3), (.nm 4)]) (dTestB (dOp oNe (dVar 4) (dC (.str ".")))) (dTup (dCons (dVar 3) (dCons (dVar 1) dNil))) [1, 2, 3, 4] [3, 4]) dNil)))
abbrev N_Picture_stones : List Str := ["self", "y", "row", "x", "sign"]
@[irreducible] def r_Picture_stones : DSp := fun ds S Q _ => ∃ rows, ds = [pic rows] ∧ Grid rows ∧ Q (rg (cellsOf nholeB rows)) S
theorem len_Picture_stones : Ln 1 r_Picture_stones := fun ds S Q E h => by unfold r_Picture_stones at h; obtain ⟨a, rfl, _⟩ := h; rfl
theorem Grid.cl {rows : List Str} (g : Grid rows) (p : Nat → Bool) : (cellsOf p rows).length ≤ 64 := by
  have h1 := cells_len (p := p) (rows := rows) (n := 8) (fun r hr => by have := (g.row r hr).1; have := g.w8; omega)
  have := g.le
  omega
theorem Grid.rl {rows : List Str} (g : Grid rows) {r : Str} (hr : r ∈ rows) : r.cps.toList.length ≤ 8 := by
  have h1 := (g.row r hr).1
  have h2 := g.w8
  rw [Array.length_toList]
  have : (r.cps.size : Int) = wid rows := h1
  omega
theorem rd_Picture_stones : Rd t_Picture_stones N_Picture_stones r_Picture_stones := by
  intro ds S QD XD h
  unfold r_Picture_stones at h
  obtain ⟨rows, rfl, g, q⟩ := h
  rw [pic_is]
  row_hasAll w_d
  rw [enumD_map]
  refine lk2_of (g := fun ry : Str × Nat => .tup [.int (ry.2 : Nat), .str ry.1]) (gi := fun cx : Nat × Nat => .tup [.int (cx.2 : Nat), .str (one cx.1)]) (ys := fun ry => ry.1.cps.toList.zipIdx) (p := fun _ cx => nholeB cx.1) (f := fun ry cx => D.tup [.int (cx.2 : Nat), .int (ry.2 : Nat)]) (by rw [List.length_zipIdx]; have := g.le; omega) (fun ry hr => ⟨_, rfl, fun Q' h => ?_, ?_, fun cx hc => ⟨_, rfl, fun Q' h => ?_, fun _ Q' h => ?_⟩⟩) ?_
  · row_hasAll w_d
    rw [enumS_map]
    exact h
  · rw [List.length_zipIdx]
    have := g.rl (mem_zi hr)
    omega
  · row_hasAll w_d
    rw [show eqB (.str (one cx.1)) (.str ".") = holeB cx.1 from one_dot cx.1]
    exact h
  · row_hasAll w_d
    exact h
  · row_hasAll w_d
    rw [cellsOf_map]
    exact mk_region (by have := g.cl nholeB; omega) q
def t_Picture_holes : DTS := (dRet (dMake mkF 0 r_Region_init [] (dCons (dLc2 (dEnum (dCons (dFld [(1, 0)] (dVar 0)) dNil)) (.tp [(.nm 1), (.nm 2)]) dYes (dEnumS (dCons (dVar 2) dNil)) (.tp [(.nm 3), (.nm 4)]) (dTestB (dOp oEq (dVar 4) (dC (.str ".")))) (dTup (dCons (dVar 3) (dCons (dVar 1) dNil))) [1, 2, 3, 4] [3, 4]) dNil)))
abbrev N_Picture_holes : List Str := ["self", "y", "row", "x", "sign"]
@[irreducible] def r_Picture_holes : DSp := fun ds S Q _ => ∃ rows, ds = [pic rows] ∧ Grid rows ∧ Q (rg (cellsOf holeB rows)) S
theorem len_Picture_holes : Ln 1 r_Picture_holes := fun ds S Q E h => by unfold r_Picture_holes at h; obtain ⟨a, rfl, _⟩ := h; rfl
theorem rd_Picture_holes : Rd t_Picture_holes N_Picture_holes r_Picture_holes := by
  intro ds S QD XD h
  unfold r_Picture_holes at h
  obtain ⟨rows, rfl, g, q⟩ := h
  rw [pic_is]
  row_hasAll w_d
  rw [enumD_map]
  refine lk2_of (g := fun ry : Str × Nat => .tup [.int (ry.2 : Nat), .str ry.1]) (gi := fun cx : Nat × Nat => .tup [.int (cx.2 : Nat), .str (one cx.1)]) (ys := fun ry => ry.1.cps.toList.zipIdx) (p := fun _ cx => holeB cx.1) (f := fun ry cx => D.tup [.int (cx.2 : Nat), .int (ry.2 : Nat)]) (by rw [List.length_zipIdx]; have := g.le; omega) (fun ry hr => ⟨_, rfl, fun Q' h => ?_, ?_, fun cx hc => ⟨_, rfl, fun Q' h => ?_, fun _ Q' h => ?_⟩⟩) ?_
  · row_hasAll w_d
    rw [enumS_map]
    exact h
  · rw [List.length_zipIdx]
    have := g.rl (mem_zi hr)
    omega
  · row_hasAll w_d
    rw [show eqB (.str (one cx.1)) (.str ".") = holeB cx.1 from one_dot cx.1]
    exact h
  · row_hasAll w_d
    exact h
  · row_hasAll w_d
    rw [cellsOf_map]
    exact mk_region (by have := g.cl holeB; omega) q
theorem i_stones {rows : List Str} {S : Sto} {Q : DQ} {X : XQ} (g : Grid rows) (h : Q (rg (cellsOf nholeB rows)) S) : r_Picture_stones [pic rows] S Q X := by unfold r_Picture_stones; exact ⟨rows, rfl, g, h⟩
theorem i_holes {rows : List Str} {S : Sto} {Q : DQ} {X : XQ} (g : Grid rows) (h : Q (rg (cellsOf holeB rows)) S) : r_Picture_holes [pic rows] S Q X := by unfold r_Picture_holes; exact ⟨rows, rfl, g, h⟩
def t_Picture_len : DTS := (dRet (dCB (on1 lenD) (dCons (dLc2 (dItems (dFld [(1, 0)] (dVar 0))) (.nm 1) dYes (dItems (dVar 1)) (.nm 2) (dTestB (dOp oNe (dVar 2) (dC (.str ".")))) (dVar 2) [1, 2] [2]) dNil)))
abbrev N_Picture_len : List Str := ["self", "row", "sign"]
@[irreducible] def r_Picture_len : DSp := fun ds S Q _ => ∃ rows, ds = [pic rows] ∧ Grid rows ∧ Q (.int (cellsOf nholeB rows).length) S
theorem len_Picture_len : Ln 1 r_Picture_len := fun ds S Q E h => by unfold r_Picture_len at h; obtain ⟨a, rfl, _⟩ := h; rfl
theorem filt_zi {α : Type} (p : α → Bool) : ∀ (l : List α) (n : Nat), ((l.zipIdx n).filter fun x => p x.1).length = (l.filter p).length
  | [], _ => rfl
  | a :: l, n => by
    rw [List.zipIdx_cons, List.filter_cons, List.filter_cons]
    cases h : p a with
    | true => simp [filt_zi p l (n + 1)]
    | false => simp [filt_zi p l (n + 1)]
theorem zi_map {α β : Type} (f : α → β) : ∀ (l : List α) (n : Nat), (l.zipIdx n).map (fun x => f x.1) = l.map f
  | [], _ => rfl
  | a :: l, n => by rw [List.zipIdx_cons, List.map_cons, List.map_cons, zi_map f l]
theorem cells_count (p : Nat → Bool) (rows : List Str) : (rows.flatMap fun r => (r.cps.toList.filter p).map fun c => D.str (one c)).length = (cellsOf p rows).length := by
  unfold cellsOf
  rw [List.length_flatMap, List.length_flatMap]
  congr 1
  rw [← zi_map (fun r : Str => ((r.cps.toList.filter p).map fun c => D.str (one c)).length) rows 0]
  refine List.map_congr_left fun x _ => ?_
  simp only [List.length_map]
  exact (filt_zi p _ 0).symm
theorem rd_Picture_len : Rd t_Picture_len N_Picture_len r_Picture_len := by
  intro ds S QD XD h
  unfold r_Picture_len at h
  obtain ⟨rows, rfl, g, q⟩ := h
  rw [pic_is]
  row_hasAll w_d
  refine lk2_of (g := D.str) (gi := fun c : Nat => .str (one c)) (ys := fun r : Str => r.cps.toList) (p := fun _ c => nholeB c) (f := fun _ c => D.str (one c)) (by have := g.le; omega) (fun r hr => ⟨_, rfl, fun Q' h => ?_, ?_, fun c hc => ⟨_, rfl, fun Q' h => ?_, fun _ Q' h => ?_⟩⟩) ?_
  · row_hasAll w_d
    exact h
  · have := g.rl hr
    omega
  · row_hasAll w_d
    rw [show eqB (.str (one c)) (.str ".") = holeB c from one_dot c]
    exact h
  · row_hasAll w_d
    exact h
  · row_hasAll w_d
    rw [cells_count]
    exact q
theorem i_lenP {rows : List Str} {S : Sto} {Q : DQ} (g : Grid rows) (h : Q (.int (cellsOf nholeB rows).length) S) : lenI 1 r_Picture_len (pic rows) S Q := by
  unfold lenI ownI
  refine vk_ins ⟨rfl, ?_⟩
  unfold r_Picture_len
  have := g.cl nholeB
  exact ⟨rows, rfl, g, ⟨by omega, by omega⟩, h⟩
def t_Picture_str : DTS := (dRet (dBM .str joinD (dC (.str "\n")) (dCons (dFld [(1, 0)] (dVar 0)) dNil)))
abbrev N_Picture_str : List Str := ["self"]
@[irreducible] def r_Picture_str : DSp := fun ds S Q _ => ∃ rows, ds = [pic rows] ∧ Grid rows ∧ Q (.str (Txt.join "\n" rows)) S
theorem len_Picture_str : Ln 1 r_Picture_str := fun ds S Q E h => by unfold r_Picture_str at h; obtain ⟨a, rfl, _⟩ := h; rfl
theorem Grid.jl {rows : List Str} (g : Grid rows) : (rows.map (·.length)).sum + rows.length * (Str.ofString "\n").length ≤ 16777216 := by
  have h1 := sum_le (fun s : Str => s.length) 8 rows fun r hr => by have := (g.row r hr).1; have := g.w8; omega
  have := g.le
  have e : (Str.ofString "\n").length = 1 := rfl
  rw [e]
  omega
theorem strsD_id (rows : List Str) : strsD (rows.map D.str) = some rows := by
  have := strsD_map (fun s : Str => s) rows
  simpa using this
theorem rd_Picture_str : Rd t_Picture_str N_Picture_str r_Picture_str := by
  intro ds S QD XD h
  unfold r_Picture_str at h
  obtain ⟨rows, rfl, g, q⟩ := h
  rw [pic_is]
  row_hasAll w_d
  rw [strsD_id]
  exact ⟨g.jl, q⟩
theorem i_strP {rows : List Str} {S : Sto} {Q : DQ} (g : Grid rows) (h : Q (.str (Txt.join "\n" rows)) S) : strI 1 r_Picture_str (pic rows) S Q := by
  unfold strI ownI
  refine vk_ins ⟨rfl, ?_⟩
  unfold r_Picture_str
  exact ⟨rows, rfl, g, h⟩
--#CALL refine i_stones (by assumption) ?_
--#CALL refine i_holes (by assumption) ?_
--#CALL refine i_lenP (by assumption) ?_
--#CALL refine i_strP (by assumption) ?_
end SM

set_option Elab.async false
set_option linter.all false
set_option maxRecDepth 100000
set_option maxHeartbeats 4000000
--#ONETAC
local macro_rules | `(tactic| row_hasAll w_c) => `(tactic| first
  | refine i_stones (by assumption) ?_
  | refine i_holes (by assumption) ?_
  | refine i_lenP (by assumption) ?_
  | refine i_strP (by assumption) ?_)
namespace SM
open PySem PySem.Spec PyProof.Rows L2
/-! ### split -/
theorem spl_mem {S0 : List Nat} : ∀ {l : List Nat} {k : Nat} {acc : List Nat} {p : List Nat}, p ∈ TL.spl S0 k acc l → p.length ≤ acc.length + l.length ∧ ∀ c ∈ p, c ∈ acc ∨ c ∈ l
  | [], k, acc, p, h => by
    rw [TL.spl_nil] at h
    simp at h
    subst h
    exact ⟨by simp, fun c hc => .inl hc⟩
  | c :: r, 0, acc, p, h => by
    cases e : TL.pre S0 (c :: r) with
    | true =>
      rw [TL.spl_hit e] at h
      rcases List.mem_cons.mp h with rfl | h
      · exact ⟨by omega, fun c hc => .inl hc⟩
      · obtain ⟨h1, h2⟩ := spl_mem h
        exact ⟨by simp at h1 ⊢; omega, fun d hd => by rcases h2 d hd with z | z; simp at z; exact .inr (List.mem_cons_of_mem _ z)⟩
    | false =>
      rw [TL.spl_miss e] at h
      obtain ⟨h1, h2⟩ := spl_mem h
      refine ⟨by simp at h1 ⊢; omega, fun d hd => ?_⟩
      rcases h2 d hd with z | z
      · rcases List.mem_append.mp z with z | z
        · exact .inl z
        · simp at z; subst z; exact .inr (List.mem_cons_self ..)
      · exact .inr (List.mem_cons_of_mem _ z)
  | c :: r, k + 1, acc, p, h => by
    obtain ⟨h1, h2⟩ := spl_mem (l := r) (k := k) (acc := acc) h
    exact ⟨by simp; omega, fun d hd => (h2 d hd).imp id (List.mem_cons_of_mem _)⟩
theorem spl_len {S0 : List Nat} : ∀ {l : List Nat} {k : Nat} {acc : List Nat}, (TL.spl S0 k acc l).length ≤ l.length + 1
  | [], k, acc => by rw [TL.spl_nil]; simp
  | c :: r, 0, acc => by
    cases e : TL.pre S0 (c :: r) with
    | true => rw [TL.spl_hit e]; have := spl_len (S0 := S0) (l := r) (k := S0.length - 1) (acc := []); simp; omega
    | false => rw [TL.spl_miss e]; have := spl_len (S0 := S0) (l := r) (k := 0) (acc := acc ++ [c]); simp; omega
  | c :: r, k + 1, acc => by
    have := spl_len (S0 := S0) (l := r) (k := k) (acc := acc)
    show (TL.spl S0 k acc r).length ≤ _
    simp; omega
theorem split_ok {a b : Str} (ha : okS a) (hb : TL.tl b ≠ []) (hk : b.cps.all (· < 256) = true) : (∀ s ∈ Txt.split a b, okS s) ∧ (Txt.split a b).length ≤ a.length + 1 := by
  have e := TL.split_spl a b hb (TL.kind_ok hk)
  constructor
  · intro s hs
    have hm : TL.tl s ∈ TL.spl (TL.tl b) 0 [] (TL.tl a) := by rw [← e]; exact List.mem_map_of_mem hs
    obtain ⟨h1, h2⟩ := spl_mem hm
    refine okS_sub (s := a) ha (fun c hc => ?_) ?_
    · rcases h2 c hc with z | z
      · simp at z
      · exact z
    · rw [len_tl s, len_tl a]
      simpa only [List.length_nil, Nat.zero_add] using h1
  · have : (Txt.split a b).length = ((Txt.split a b).map TL.tl).length := by rw [List.length_map]
    rw [this, e]
    have := spl_len (S0 := TL.tl b) (l := TL.tl a) (k := 0) (acc := [])
    have l2 := len_tl a
    omega
/-! ### Picture.read -/
def t_Picture_read : DTS := (dRet (dMakeL 0 mkF 1 r_Picture_init (dCons (dBM .str splitD (dVar 1) (dCons (dC (.str "\n")) dNil)) dNil)))
abbrev N_Picture_read : List Str := ["cls", "text"]
@[irreducible] def r_Picture_read : DSp := fun ds S Q X => ∃ t, ds = [.cls 1, .str t] ∧ t.length ≤ 900 ∧ okS t ∧ match bad (Txt.split t "\n") with
  | none => Q (pic (Txt.split t "\n")) S
  | some n => X ⟨21, [.int (n : Nat)]⟩ S
theorem len_Picture_read : Ln 2 r_Picture_read := fun ds S Q E h => by unfold r_Picture_read at h; obtain ⟨a, rfl, _⟩ := h; rfl
theorem rd_Picture_read : Rd t_Picture_read N_Picture_read r_Picture_read := by
  intro ds S QD XD h
  unfold r_Picture_read at h
  obtain ⟨t, rfl, hl, ok, q⟩ := h
  obtain ⟨h1, h2⟩ := split_ok (b := "\n") ok (by decide) (by decide +kernel)
  have hz := sizeLine_eq
  row_hasAll w_d
  refine ⟨⟨rfl, by omega⟩, ⟨h1, by omega⟩, ?_⟩
  row_hasAll w_d
  exact mk_pic (.inl rfl) (by omega) q
theorem i_read {t : Str} {S : Sto} {Q : DQ} {X : XQ} (hl : t.length ≤ 900) (ok : okS t) (h : match bad (Txt.split t "\n") with
  | none => Q (pic (Txt.split t "\n")) S
  | some n => X ⟨21, [.int (n : Nat)]⟩ S) : r_Picture_read [.cls 1, .str t] S Q X := by unfold r_Picture_read; exact ⟨t, rfl, hl, ok, h⟩
theorem sign_lt {c : Nat} (h : signB (one c) = true) : c < 123 ∧ c ≠ 10 ∧ (c = 46 ∨ 97 ≤ c) := by
  have h' : (decide (c = 46) || letB c) = true := h
  unfold letB at h'
  simp only [Bool.or_eq_true, decide_eq_true_eq] at h'
  omega
theorem Grid.okr {rows : List Str} (g : Grid rows) {r : Str} (hr : r ∈ rows) : okS r := by
  rw [okS_iff]
  refine ⟨by have := g.rl hr; rw [Array.length_toList] at this; show r.cps.size ≤ _; rw [sizeLine_eq]; omega, fun c hc => ?_⟩
  have := sign_lt ((g.row r hr).2 c hc)
  omega
theorem Grid.okj {rows : List Str} (g : Grid rows) : okS (Txt.join "\n" rows) := okS_join (by decide +kernel) (fun s hs => g.okr hs) g.jl
theorem Grid.jlen {rows : List Str} (g : Grid rows) : (Txt.join "\n" rows).length ≤ 72 := by
  have e : (TL.tl (Str.join "\n" rows)) = TL.joinL (TL.tl "\n") (rows.map TL.tl) := TL.tl_join "\n" rows
  rw [TL.join_eq, len_tl, e]
  refine Nat.le_trans joinL_len ?_
  have h1 := sum_le (fun s : Str => (TL.tl s).length) 8 rows fun r hr => g.rl hr
  rw [List.map_map, List.length_map]
  have e2 : (TL.tl (Str.ofString "\n")).length = 1 := rfl
  rw [e2]
  have := g.le
  have h2 : (rows.map ((fun x : List Nat => x.length) ∘ TL.tl)).sum ≤ rows.length * 8 := h1
  omega
theorem Grid.split {rows : List Str} (g : Grid rows) : Txt.split (Txt.join "\n" rows) "\n" = rows :=
  TL.split_join (s := 10) (S := []) rfl (by decide +kernel) g.ne fun p hp hc => (sign_lt ((g.row p hp).2 10 hc)).2.1 rfl
theorem i_readG {rows : List Str} {S : Sto} {Q : DQ} {X : XQ} (g : Grid rows) (h : Q (pic rows) S) : r_Picture_read [.cls 1, .str (Txt.join "\n" rows)] S Q X := by
  refine i_read (by have := g.jlen; omega) g.okj ?_
  rw [g.split, g.bad]
  exact h
/-! ### == of pictures -/
theorem eqv_str (a b : Str) : PyData.eqv (toP (.str a)) (toP (.str b)) = decide (a = b) := by
  rw [← eqB_eq _ _ rfl rfl]; rfl
theorem eqB_strs : ∀ a b : List Str, eqB (.lst (a.map D.str)) (.lst (b.map D.str)) = decide (a = b)
  | [], [] => rfl
  | [], _ :: _ => rfl
  | _ :: _, [] => rfl
  | c :: a, d :: b => by
    have e : PyData.eqvAll (toPs (a.map D.str)) (toPs (b.map D.str)) = decide (a = b) := eqB_strs a b
    show (PyData.eqv (toP (.str c)) (toP (.str d)) && PyData.eqvAll (toPs (a.map D.str)) (toPs (b.map D.str))) = _
    rw [e, eqv_str]
    by_cases h1 : c = d <;> by_cases h2 : a = b <;> simp [h1, h2]
theorem pln_strs (n : Nat) (a : List Str) : pln (n + 2) (.lst (a.map D.str)) = true := by
  show plns (n + 1) (a.map D.str) = true
  rw [plns_all, List.all_eq_true]
  intro d hd
  obtain ⟨s, _, rfl⟩ := List.mem_map.mp hd
  rfl
def t_Picture_eq : DTS := (dRet (dAndV (dUn (isiD ti_Picture) (dVar 1)) (dOp oEq (dFld [(1, 0)] (dVar 0)) (dFld [(1, 0)] (dVar 1)))))
abbrev N_Picture_eq : List Str := ["self", "other"]
@[irreducible] def r_Picture_eq : DSp := fun ds S Q _ => ∃ rows d, ds = [pic rows, d] ∧ ((∃ rows', d = pic rows' ∧ Q (.bl (decide (rows = rows'))) S) ∨ ((∃ l, isL S d l) ∨ (∃ s, d = .str s) ∨ ∃ cs, d = rg cs) ∧ Q (.bl false) S)
theorem len_Picture_eq : Ln 2 r_Picture_eq := fun ds S Q E h => by unfold r_Picture_eq at h; obtain ⟨cs, d, rfl, _⟩ := h; rfl
theorem rd_Picture_eq : Rd t_Picture_eq N_Picture_eq r_Picture_eq := by
  intro ds S QD XD h
  unfold r_Picture_eq at h
  obtain ⟨rows, d, rfl, h⟩ := h
  rcases h with ⟨rows', rfl, q⟩ | ⟨h, q⟩
  · rw [pic_is, pic_is]
    row_hasAll w_d
    refine ⟨by rw [pln_strs 7, pln_strs 7]; rfl, ?_⟩
    rw [eqB_strs]
    exact q
  · rcases h with ⟨l, h⟩ | ⟨s, rfl⟩ | ⟨cs, rfl⟩
    · rw [pic_is]
      conv => whnf
      refine vk_L h ?_
      row_hasAll w_d
      exact q
    · rw [pic_is]
      row_hasAll w_d
      exact q
    · rw [pic_is, rg_is]
      row_hasAll w_d
      exact q
theorem i_eqPP {rows rows' : List Str} {n : Bool} {S : Sto} {Q : DQ} (h : Q (.bl (n ^^ decide (rows = rows'))) S) : eqI 1 [0] r_Picture_eq n (pic rows) (pic rows') S Q := by
  unfold eqI
  refine vk_ins ⟨rfl, vk_ins ⟨rfl, ?_⟩⟩
  unfold r_Picture_eq
  exact ⟨rows, pic rows', rfl, .inl ⟨rows', rfl, h⟩⟩
theorem i_eqPL {rows : List Str} {d : D} {l : List D} {n : Bool} {S : Sto} {Q : DQ} (hL : isL S d l) (h : Q (.bl n) S) : eqI 1 [0] r_Picture_eq n (pic rows) d S Q := by
  unfold eqI
  refine vk_ins ⟨rfl, vk_L hL ⟨rfl, ?_⟩⟩
  unfold r_Picture_eq
  refine ⟨rows, d, rfl, .inr ⟨.inl ⟨l, hL⟩, ?_⟩⟩
  show Q (.bl (n ^^ false)) S
  rw [Bool.xor_false]; exact h
theorem i_eqPS {rows : List Str} {z : Str} {n : Bool} {S : Sto} {Q : DQ} (h : Q (.bl n) S) : eqI 1 [0] r_Picture_eq n (pic rows) (.str z) S Q := by
  unfold eqI
  refine vk_ins ⟨rfl, vk_str ⟨rfl, ?_⟩⟩
  unfold r_Picture_eq
  refine ⟨rows, .str z, rfl, .inr ⟨.inr (.inl ⟨z, rfl⟩), ?_⟩⟩
  show Q (.bl (n ^^ false)) S
  rw [Bool.xor_false]; exact h
theorem i_eqPR {rows : List Str} {cs : List Cell} {n : Bool} {S : Sto} {Q : DQ} (h : Q (.bl n) S) : eqI 1 [0] r_Picture_eq n (pic rows) (rg cs) S Q := by
  unfold eqI
  refine vk_ins ⟨rfl, vk_ins ⟨rfl, ?_⟩⟩
  unfold r_Picture_eq
  refine ⟨rows, rg cs, rfl, .inr ⟨.inr (.inr ⟨cs, rfl⟩), ?_⟩⟩
  show Q (.bl (n ^^ false)) S
  rw [Bool.xor_false]; exact h
--#CALL refine i_readG (by assumption) ?_
--#CALL refine i_eqPP ?_
end SM

set_option Elab.async false
set_option linter.all false
set_option maxRecDepth 100000
set_option maxHeartbeats 4000000
--#ONETAC
local macro_rules | `(tactic| row_hasAll w_c) => `(tactic| first
  | refine i_readG (by assumption) ?_
  | refine i_eqPP ?_)
namespace SM
open PySem PySem.Spec PyProof.Rows L2
/-! ### a comprehension whose elements change the store -/
theorem lk_st {gd : Gd} {q : Pat} {te : DTE} {δ : DS} {α : Type} {g : α → D} (I : List α → List D → Sto → Prop) (hs : ∀ x r acc S, I (x :: r) acc S → gok gd S ∧ ∃ δ2, bindP q (g x) δ = some δ2 ∧ ∀ Q' : DQ, (∀ d S', I r (acc ++ [d]) S' → Q' d S') → te δ2 S Q' noX) {xs : List α} {S : Sto} {Q : List D → Sto → Prop}
    (h : I xs [] S) (hd : ∀ acc S, I [] acc S → gok gd S ∧ Q acc S) : lcK gd q dYes te δ (xs.map g) S Q := by
  rw [lcK_is]
  have key : ∀ (xs : List α) (acc : List D) (S : Sto), I xs acc S → dLcL gd q dYes te δ (xs.map g) S (fun ds S' => Q (acc ++ ds) S') := by
    intro xs
    induction xs with
    | nil => intro acc S h; exact ⟨(hd acc S h).1, by show Q (acc ++ []) S; rw [List.append_nil]; exact (hd acc S h).2⟩
    | cons x r ih =>
      intro acc S h
      obtain ⟨h1, δ2, e, t⟩ := hs x r acc S h
      rw [List.map_cons, dLcL, e]
      refine ⟨h1, ?_⟩
      show brn true _ _
      rw [brn_t]
      refine t _ fun d S' h' => ?_
      have := ih (acc ++ [d]) S' h'
      simpa using this
  simpa using key xs [] S h
/-! ### letters -/
def abcS : Str := "abcdefghijklmnopqrstuvwxyz"
def palOk (p : Str) : Prop := p.length = 3 ∧ ∀ c ∈ p.cps.toList, letB c = true
theorem abc_at {v : Int} (h0 : 0 ≤ v) (h1 : v < 26) : ∃ c, (Str.ofString "abcdefghijklmnopqrstuvwxyz").cps.toList[v.toNat]? = some c ∧ letB c = true := by
  have e : (Str.ofString "abcdefghijklmnopqrstuvwxyz").cps.toList = (List.range 26).map (· + 97) := by decide +kernel
  refine ⟨v.toNat + 97, ?_, ?_⟩
  · rw [e, List.getElem?_map, List.getElem?_range (by omega)]; rfl
  · unfold letB; exact decide_eq_true (by omega)
theorem one_len (c : Nat) : (one c).length = 1 := rfl
theorem app_codes (x y : Str) : (x ++ y).cps.toList = x.cps.toList ++ y.cps.toList := by
  show (x.cps ++ y.cps).toList = _
  exact Array.toList_append
def t_l_palette : DTS := (dSeq (dSet 1 (dC (.str "abcdefghijklmnopqrstuvwxyz"))) (dSeq (dSet 2 (dCall r_l_take [] (dCons (dVar 0) (dCons (dC (.int 26)) dNil)))) (dSeq (dSet 3 (dOp oMod (dCB (on1 intD) (dCons (dOp oAdd (dOp oAdd (dVar 2) (dC (.int 1))) (dCall r_l_take [] (dCons (dVar 0) (dCons (dC (.int 25)) dNil)))) dNil)) (dC (.int 26)))) (dSeq (dSet 4 (dOp oMod (dCB (on1 intD) (dCons (dOp oAdd (dOp oAdd (dVar 3) (dC (.int 1))) (dCall r_l_take [] (dCons (dVar 0) (dCons (dC (.int 25)) dNil)))) dNil)) (dC (.int 26)))) (dRet (dOp oAdd (dOp oAdd (dOp oIx (dVar 1) (dVar 2)) (dOp oIx (dVar 1) (dVar 3))) (dOp oIx (dVar 1) (dVar 4))))))))
abbrev N_l_palette : List Str := ["_law_bag_here", "_law_letters", "_law_first", "_law_second", "_law_third"]
@[irreducible] def r_l_palette : DSp := fun ds S Q _ => ∃ a b, ds = [.adr a] ∧ S a = some (bagO b) ∧ ∀ p b', palOk p → Q (.str p) (su S a (bagO b'))
theorem len_l_palette : Ln 1 r_l_palette := fun ds S Q E h => by unfold r_l_palette at h; obtain ⟨a, b, rfl, _⟩ := h; rfl
theorem rd_l_palette : Rd t_l_palette N_l_palette r_l_palette := by
  intro ds S QD XD h
  unfold r_l_palette at h
  obtain ⟨a, b, rfl, hS, q⟩ := h
  have hz := sizeLine_eq
  row_hasAll w_d
  refine i_take hS (by decide) (by decide) fun v1 b1 h1 h2 => ?_
  row_hasAll w_d
  refine i_takeB (by decide) (by decide) fun v2 b2 h3 h4 => ?_
  row_hasAll w_d
  refine i_takeB (by decide) (by decide) fun v3 b3 h5 h6 => ?_
  row_hasAll w_d
  obtain ⟨c1, e1, l1⟩ := abc_at h1 h2
  refine ik_at h1 e1 ?_
  row_hasAll w_d
  have g1 : 0 ≤ (v1 + 1 + v2) % 26 := by omega
  obtain ⟨c2, e2, l2⟩ := abc_at g1 (by omega)
  refine ik_at g1 e2 ?_
  row_hasAll w_d
  have g2 : 0 ≤ ((v1 + 1 + v2) % 26 + 1 + v3) % 26 := by omega
  obtain ⟨c3, e3, l3⟩ := abc_at g2 (by omega)
  refine ik_at g2 e3 ?_
  have a1 : (one c1 ++ one c2).length = 2 := by rw [slen_app]; rfl
  have a2 : (one c3).length = 1 := rfl
  row_hasAll w_d
  refine q _ b3 ⟨by rw [slen_app, slen_app]; rfl, fun c hc => ?_⟩
  rw [app_codes, app_codes] at hc
  simp [one] at hc
  rcases hc with rfl | rfl | rfl <;> assumption
theorem i_palette {a : Addr} {b : Bag} {S : Sto} {Q : DQ} {X : XQ} (hS : S a = some (bagO b)) (q : ∀ p b', palOk p → Q (.str p) (su S a (bagO b'))) : r_l_palette [.adr a] S Q X := by unfold r_l_palette; exact ⟨a, b, rfl, hS, q⟩
def t_l_row : DTS := (dSeq (dSet 3 (dC (.str ""))) (dSeq (dFor (dRng1 (dCons (dVar 2) dNil)) (.nm 4) (dSet 3 (dOp oAdd (dVar 3) (dOp oIx (dOp oAdd (dOp oAdd (dC (.str ".")) (dVar 1)) (dVar 1)) (dCall r_l_take [] (dCons (dVar 0) (dCons (dC (.int 7)) dNil))))))) (dRet (dVar 3))))
abbrev N_l_row : List Str := ["_law_bag_here", "_law_palette_here", "_law_wide", "_law_row_here", "_law_k"]
def rowOk (r : Str) : Prop := ∀ c ∈ r.cps.toList, signB (one c) = true
@[irreducible] def r_l_row : DSp := fun ds S Q _ => ∃ a b p n, ds = [.adr a, .str p, .int n] ∧ S a = some (bagO b) ∧ palOk p ∧ 0 ≤ n ∧ n ≤ 100 ∧ ∀ r b', (r.length : Int) = n → rowOk r → okS r → Q (.str r) (su S a (bagO b'))
theorem len_l_row : Ln 3 r_l_row := fun ds S Q E h => by unfold r_l_row at h; obtain ⟨a, b, c, d, rfl, _⟩ := h; rfl
theorem rowOk_ok {r : Str} (h : rowOk r) (hl : r.length ≤ 1000) : okS r := by
  rw [okS_iff]
  exact ⟨by rw [sizeLine_eq]; omega, fun c hc => by have := sign_lt (h c hc); omega⟩
theorem let_sign {c : Nat} (h : letB c = true) : signB (one c) = true := by
  show (decide (c = 46) || letB c) = true
  rw [h, Bool.or_true]
theorem pal_at {p : Str} (hp : palOk p) {v : Int} (h0 : 0 ≤ v) (h1 : v < 7) : ∃ c, (Str.ofString "." ++ p ++ p).cps.toList[v.toNat]? = some c ∧ signB (one c) = true := by
  have hl : p.cps.toList.length = 3 := by rw [Array.length_toList]; exact hp.1
  have e : (Str.ofString "." ++ p ++ p).cps.toList = [46] ++ p.cps.toList ++ p.cps.toList := by rw [app_codes, app_codes]; rfl
  rw [e]
  have hlt : v.toNat < ([46] ++ p.cps.toList ++ p.cps.toList).length := by simp only [List.length_append, hl, List.length_singleton]; omega
  refine ⟨_, List.getElem?_eq_getElem hlt, ?_⟩
  have hm := List.getElem_mem hlt
  rcases List.mem_append.mp hm with h | h
  · rcases List.mem_append.mp h with h | h
    · rw [List.mem_singleton.mp h]; rfl
    · exact let_sign (hp.2 _ h)
  · exact let_sign (hp.2 _ h)
theorem rd_l_row : Rd t_l_row N_l_row r_l_row := by
  intro ds S QD XD h
  unfold r_l_row at h
  obtain ⟨a, b, p, n, rfl, hS, hp, h0, h1, q⟩ := h
  have hz := sizeLine_eq
  row_hasAll w_d
  refine loop_of (xs := List.range (n - 0).toNat) (g := fun i : Nat => D.int (0 + (i : Nat))) (fun l δ S' => ∃ x b' r, δ = [some (.adr a), some (.str p), some (.int n), some (.str r), x] ∧ S' = su S a (bagO b') ∧ ((r.length + l.length : Nat) : Int) = n ∧ rowOk r) ?_ ?_ ?_
  rotate_left 2
  · have e0 : (Str.ofString "").length = 0 := rfl
    exact ⟨_, b, "", rfl, (su_self hS).symm, by rw [e0, List.length_range]; omega, fun c hc => by cases hc⟩
  · rintro i l δ S' ⟨x, b', r, rfl, rfl, hl, hr⟩
    refine ⟨_, rfl, fun N hN => ?_⟩
    have l1 : (Str.ofString ".").length = 1 := rfl
    have l2 := hp.1
    have l3 := slen_app (Str.ofString ".") p
    simp only [List.length_cons] at hl
    row_hasAll w_d
    refine i_takeB (by decide) (by decide) fun v b2 g0 g1 => ?_
    row_hasAll w_d
    obtain ⟨c, e, hc⟩ := pal_at hp g0 g1
    refine ik_at g0 e ?_
    have l4 : (one c).length = 1 := rfl
    row_hasAll w_d
    refine hN _ _ ⟨_, b2, r ++ one c, rfl, rfl, by rw [slen_app, l4]; omega, fun d hd => ?_⟩
    rw [app_codes] at hd
    rcases List.mem_append.mp hd with h | h
    · exact hr d h
    · have : d = c := by simpa [one] using h
      subst this
      exact hc
  · rintro δ S' ⟨x, b', r, rfl, rfl, hl, hr⟩
    row_hasAll w_d
    exact q r b' (by simpa using hl) hr (rowOk_ok hr (by simp at hl; omega))
theorem i_lrow {a : Addr} {b : Bag} {p : Str} {n : Int} {S : Sto} {Q : DQ} {X : XQ} (hS : S a = some (bagO b)) (hp : palOk p) (h0 : 0 ≤ n) (h1 : n ≤ 100) (q : ∀ r b', (r.length : Int) = n → rowOk r → okS r → Q (.str r) (su S a (bagO b'))) : r_l_row [.adr a, .str p, .int n] S Q X := by unfold r_l_row; exact ⟨a, b, p, n, rfl, hS, hp, h0, h1, q⟩
def t_l_big_grid : DTS := (dSeq (dSet 2 (dOp oAdd (dC (.int 1)) (dCall r_l_take [] (dCons (dVar 0) (dCons (dC (.int 8)) dNil))))) (dRet (dLc (dRng1 (dCons (dOp oAdd (dC (.int 1)) (dCall r_l_take [] (dCons (dVar 0) (dCons (dC (.int 8)) dNil)))) dNil)) (.nm 3) dYes (dCall r_l_row [] (dCons (dVar 0) (dCons (dVar 1) (dCons (dVar 2) dNil)))) [3])))
abbrev N_l_big_grid : List Str := ["_law_bag_here", "_law_palette_here", "_law_wide", "_law_k"]
@[irreducible] def r_l_big_grid : DSp := fun ds S Q _ => ∃ a b p, ds = [.adr a, .str p] ∧ S a = some (bagO b) ∧ palOk p ∧ ∀ rows b', Grid rows → Q (.lst (rows.map D.str)) (su S a (bagO b'))
theorem len_l_big_grid : Ln 2 r_l_big_grid := fun ds S Q E h => by unfold r_l_big_grid at h; obtain ⟨a, b, c, rfl, _⟩ := h; rfl
theorem rd_l_big_grid : Rd t_l_big_grid N_l_big_grid r_l_big_grid := by
  intro ds S QD XD h
  unfold r_l_big_grid at h
  obtain ⟨a, b, p, rfl, hS, hp, q⟩ := h
  row_hasAll w_d
  refine i_take hS (by decide) (by decide) fun v1 b1 h1 h2 => ?_
  row_hasAll w_d
  refine i_takeB (by decide) (by decide) fun v2 b2 h3 h4 => ?_
  row_hasAll w_d
  refine lk_st (xs := List.range (1 + v2 - 0).toNat) (g := fun i : Nat => D.int (0 + (i : Nat))) (fun l acc S' => ∃ b', ∃ rows : List Str, acc = rows.map D.str ∧ S' = su S a (bagO b') ∧ ((rows.length + l.length : Nat) : Int) = 1 + v2 ∧ ∀ r ∈ rows, (r.length : Int) = 1 + v1 ∧ rowOk r) ?_ ⟨b2, [], rfl, rfl, by simp; omega, by simp⟩ ?_
  · rintro i l acc S' ⟨b', rows, rfl, rfl, hl, hr⟩
    refine ⟨True.intro, _, rfl, fun Q' h => ?_⟩
    row_hasAll w_d
    refine i_lrow (b := b') su_same hp (by omega) (by omega) fun r b3 e1 e2 e3 => ?_
    rw [su_su]
    refine h _ _ ⟨b3, rows ++ [r], by simp, rfl, by simp at hl ⊢; omega, fun s hs => ?_⟩
    rcases List.mem_append.mp hs with h | h
    · exact hr s h
    · simp at h; subst h; exact ⟨e1, e2⟩
  · rintro acc S' ⟨b', rows, rfl, rfl, hl, hr⟩
    refine ⟨True.intro, ?_⟩
    have hn : rows ≠ [] := fun e => by rw [e] at hl; simp at hl; omega
    have hw : wid rows = 1 + v1 := by
      cases rows with
      | nil => exact absurd rfl hn
      | cons r rest => exact (hr r (List.mem_cons_self ..)).1
    exact q rows b' ⟨hn, by simp at hl; omega, by omega, by omega, fun r h => by rw [hw]; exact hr r h⟩
theorem i_big {a : Addr} {b : Bag} {p : Str} {S : Sto} {Q : DQ} {X : XQ} (hS : S a = some (bagO b)) (hp : palOk p) (q : ∀ rows b', Grid rows → Q (.lst (rows.map D.str)) (su S a (bagO b'))) : r_l_big_grid [.adr a, .str p] S Q X := by unfold r_l_big_grid; exact ⟨a, b, p, rfl, hS, hp, q⟩
/-! ### signs and cells by the law -/
def t_l_sign : DTS := (dSeq (dIf (dOr (dTestB (dOp oLt (dVar 2) (dC (.int 0)))) (dOr (dTestB (dOp oGe (dVar 2) (dCB (on1 lenD) (dCons (dVar 0) dNil)))) (dOr (dTestB (dOp oLt (dVar 1) (dC (.int 0)))) (dTestB (dOp oGe (dVar 1) (dCB (on1 lenD) (dCons (dOp oIx (dVar 0) (dC (.int 0))) dNil))))))) (dRet (dC (.str "#"))) dNext) (dRet (dOp oIx (dOp oIx (dVar 0) (dVar 2)) (dVar 1))))
abbrev N_l_sign : List Str := ["_law_rows", "_law_cx", "_law_cy"]
@[irreducible] def r_l_sign : DSp := fun ds S Q _ => ∃ rows x y, ds = [.lst (rows.map D.str), .int x, .int y] ∧ Grid rows ∧ Q (.str (sgnAt rows x y)) S
theorem len_l_sign : Ln 3 r_l_sign := fun ds S Q E h => by unfold r_l_sign at h; obtain ⟨a, b, c, rfl, _⟩ := h; rfl
theorem Grid.head {rows : List Str} (g : Grid rows) : ∃ r, rows[0]? = some r ∧ (r.length : Int) = wid rows := by
  cases rows with
  | nil => exact absurd rfl g.ne
  | cons r rest => exact ⟨r, rfl, rfl⟩
theorem Grid.ik0 {rows : List Str} (g : Grid rows) {k : D → Prop} (h : ∀ r : Str, (r.length : Int) = wid rows → k (.str r)) : itk (rows.map D.str) 0 k := by
  obtain ⟨r, e, hw⟩ := g.head
  exact ik_at (i := 0) (by decide) (v := D.str r) (by rw [List.getElem?_map]; show Option.map D.str rows[0]? = _; rw [e]; rfl) (h r hw)
theorem rd_l_sign : Rd t_l_sign N_l_sign r_l_sign := by
  intro ds S QD XD h
  unfold r_l_sign at h
  obtain ⟨rows, x, y, rfl, g, q⟩ := h
  have no : ¬ ((0 ≤ x ∧ x < wid rows) ∧ (0 ≤ y ∧ y < (rows.length : Nat))) → QD (.str "#") S := fun hn => by
    have e : sgnAt rows x y = "#" := by unfold sgnAt; rw [if_neg]; unfold inP; rw [decide_eq_false hn]; simp
    rw [e] at q; exact q
  row_hasAll w_d
  refine brP (fun h1 => ?_) (fun h1 => ?_)
  · row_hasAll w_d
    exact no fun z => by omega
  · row_hasAll w_d
    rw [List.length_map]
    refine brP (fun h2 => ?_) (fun h2 => ?_)
    · row_hasAll w_d
      exact no fun z => by omega
    · row_hasAll w_d
      refine brP (fun h3 => ?_) (fun h3 => ?_)
      · row_hasAll w_d
        exact no fun z => by omega
      · row_hasAll w_d
        refine g.ik0 fun r hw => ?_
        row_hasAll w_d
        rw [hw]
        refine brP (fun h4 => ?_) (fun h4 => ?_)
        · row_hasAll w_d
          exact no fun z => by omega
        · obtain ⟨r, c, e1, e2, _, _, e3⟩ := g.get (x := x) (y := y) (decide_eq_true ⟨⟨by omega, by omega⟩, by omega, by omega⟩)
          rw [e3] at q
          row_hasAll w_d
          refine ik_at (by omega) (v := D.str r) (by rw [List.getElem?_map, e1]; rfl) ?_
          row_hasAll w_d
          refine ik_at (by omega) e2 ?_
          exact q
theorem i_lsign {rows : List Str} {x y : Int} {S : Sto} {Q : DQ} {X : XQ} (g : Grid rows) (h : Q (.str (sgnAt rows x y)) S) : r_l_sign [.lst (rows.map D.str), .int x, .int y] S Q X := by unfold r_l_sign; exact ⟨rows, x, y, rfl, g, h⟩
/-- all cells, row by row -/
def allC (w h : Nat) : List Cell := (List.range h).flatMap fun (y : Nat) => (List.range w).map fun (x : Nat) => (((x : Nat) : Int), ((y : Nat) : Int))
theorem allC_succ (w h : Nat) : allC w (h + 1) = allC w h ++ (List.range w).map (fun (x : Nat) => (((x : Nat) : Int), ((h : Nat) : Int))) := by
  unfold allC
  rw [List.range_succ, List.flatMap_append]
  simp
theorem allC_len (w h : Nat) : (allC w h).length = h * w := by
  induction h with
  | zero => simp [allC]
  | succ n ih => rw [allC_succ, List.length_append, ih, List.length_map, List.length_range, Nat.succ_mul]
def t_l_cells : DTS := (dSeq (dSet 1 (dLstO dNil)) (dSeq (dFor (dRng1 (dCons (dCB (on1 lenD) (dCons (dVar 0) dNil)) dNil)) (.nm 2) (dFor (dRng1 (dCons (dCB (on1 lenD) (dCons (dOp oIx (dVar 0) (dC (.int 0))) dNil)) dNil)) (.nm 3) (dDrop (dBM .lst appD (dVar 1) (dCons (dTup (dCons (dVar 3) (dCons (dVar 2) dNil))) dNil))))) (dRet (dVarM 1))))
abbrev N_l_cells : List Str := ["_law_rows", "_law_cells_here", "_law_cy", "_law_cx"]
@[irreducible] def r_l_cells : DSp := fun ds S Q _ => ∃ rows, ds = [.lst (rows.map D.str)] ∧ Grid rows ∧ Q (.lst ((allC (wid rows).toNat rows.length).map pr)) S
theorem len_l_cells : Ln 1 r_l_cells := fun ds S Q E h => by unfold r_l_cells at h; obtain ⟨a, rfl, _⟩ := h; rfl
theorem rd_l_cells : Rd t_l_cells N_l_cells r_l_cells := by
  intro ds S QD XD h
  unfold r_l_cells at h
  obtain ⟨rows, rfl, g, q⟩ := h
  have g1 := g.w1
  have g8 := g.w8
  have gl := g.le
  row_hasAll w_d
  intro p hp
  row_hasAll w_d
  rw [List.length_map]
  refine ⟨by omega, ?_⟩
  refine loop_of (xs := List.range ((rows.length : Int) - 0).toNat) (g := fun i : Nat => D.int (0 + (i : Nat))) (fun l δ S' => ∃ x y i, δ = [some (.lst (rows.map D.str)), some (.adr p), x, y] ∧ S' = su S p (.lst ((allC (wid rows).toNat i).map pr)) ∧ l = List.range' i (rows.length - i) ∧ i ≤ rows.length) ?_ ?_ ?_
  rotate_left 2
  · exact ⟨_, _, 0, rfl, rfl, by rw [List.range_eq_range']; congr 1, Nat.zero_le _⟩
  · rintro k l δ S' ⟨x, y, i, rfl, rfl, e, hi⟩
    have hlt : i < rows.length := by
      rcases Nat.lt_or_ge i rows.length with h | h
      · exact h
      · rw [show rows.length - i = 0 by omega] at e; cases e
    obtain ⟨m, hm⟩ : ∃ m, rows.length - i = m + 1 := ⟨rows.length - i - 1, by omega⟩
    rw [hm, List.range'_succ] at e
    simp only [List.cons.injEq] at e
    obtain ⟨rfl, rfl⟩ := e
    refine ⟨_, rfl, fun N hN => ?_⟩
    row_hasAll w_d
    refine g.ik0 fun r hw => ?_
    row_hasAll w_d
    rw [hw]
    refine loop_of (xs := List.range (wid rows - 0).toNat) (g := fun i : Nat => D.int (0 + (i : Nat))) (fun l δ S' => ∃ y j, δ = [some (.lst (rows.map D.str)), some (.adr p), some (.int (0 + (k : Nat))), y] ∧ S' = su S p (.lst ((allC (wid rows).toNat k ++ (List.range j).map fun (x : Nat) => (((x : Nat) : Int), ((k : Nat) : Int))).map pr)) ∧ l = List.range' j ((wid rows).toNat - j) ∧ j ≤ (wid rows).toNat) ?_ ?_ ?_
    rotate_left 2
    · exact ⟨_, 0, rfl, by simp, by rw [List.range_eq_range', Int.sub_zero, Nat.sub_zero], Nat.zero_le _⟩
    · rintro t l δ S' ⟨y, j, rfl, rfl, e, hj⟩
      have hlt2 : j < (wid rows).toNat := by
        rcases Nat.lt_or_ge j (wid rows).toNat with h | h
        · exact h
        · rw [show (wid rows).toNat - j = 0 by omega] at e; cases e
      obtain ⟨m2, hm2⟩ : ∃ m2, (wid rows).toNat - j = m2 + 1 := ⟨(wid rows).toNat - j - 1, by omega⟩
      rw [hm2, List.range'_succ] at e
      simp only [List.cons.injEq] at e
      obtain ⟨rfl, rfl⟩ := e
      refine ⟨_, rfl, fun N2 hN2 => ?_⟩
      row_hasAll w_d
      refine ⟨?_, hN2 _ _ ⟨_, t + 1, rfl, ?_, by congr 1; omega, hlt2⟩⟩
      · rw [List.length_map, List.length_append, allC_len, List.length_map, List.length_range, sizeLine_eq]
        have : k * (wid rows).toNat ≤ 8 * 8 := Nat.mul_le_mul (by omega) (by omega)
        omega
      · rw [List.range_succ]
        simp [pr]
    · rintro δ S' ⟨y, j, rfl, rfl, e, hj⟩
      have ej : j = (wid rows).toNat := by
        rcases Nat.lt_or_ge j (wid rows).toNat with h | h
        · obtain ⟨m2, hm2⟩ : ∃ m2, (wid rows).toNat - j = m2 + 1 := ⟨(wid rows).toNat - j - 1, by omega⟩
          rw [hm2, List.range'_succ] at e; cases e
        · omega
      subst ej
      exact hN _ _ ⟨_, _, k + 1, rfl, by rw [allC_succ], by congr 1; omega, hlt⟩
  · rintro δ S' ⟨x, y, i, rfl, rfl, e, hi⟩
    have ei : i = rows.length := by
      rcases Nat.lt_or_ge i rows.length with h | h
      · obtain ⟨m, hm⟩ : ∃ m, rows.length - i = m + 1 := ⟨rows.length - i - 1, by omega⟩
        rw [hm, List.range'_succ] at e; cases e
      · omega
    subst ei
    row_hasAll w_d
    rw [sd_su_new hp]
    exact q
theorem i_lcells {rows : List Str} {S : Sto} {Q : DQ} {X : XQ} (g : Grid rows) (h : Q (.lst ((allC (wid rows).toNat rows.length).map pr)) S) : r_l_cells [.lst (rows.map D.str)] S Q X := by unfold r_l_cells; exact ⟨rows, rfl, g, h⟩
--#CALL refine i_lsign (by assumption) ?_
--#CALL refine i_lcells (by assumption) ?_
end SM

set_option Elab.async false
set_option linter.all false
set_option maxRecDepth 100000
set_option maxHeartbeats 4000000
--#ONETAC
local macro_rules | `(tactic| row_hasAll w_c) => `(tactic| first
  | refine i_lsign (by assumption) ?_
  | refine i_lcells (by assumption) ?_)
local macro_rules | `(tactic| row_hasAll w_d0) => `(tactic| (repeat ((try (conv => whnf)); first | refine vk_int ?_ | refine vk_str ?_ | refine vk_lst ?_ | refine vk_tup ?_ | refine vk_ins ?_| refine vk_bl ?_ | refine brT ?_ | refine brF ?_)); (try (conv => whnf)))
namespace SM
open PySem PySem.Spec PyProof.Rows L2
/-! ### cells of a grid in reading order -/
def codeAt (rows : List Str) (c : Cell) : Nat := match rows[c.2.toNat]? with
  | some r => (r.cps.toList[c.1.toNat]?).getD 0
  | none => 0
theorem zi_range (l : List Nat) : l.zipIdx = (List.range l.length).map fun x => ((l[x]?).getD 0, x) := by
  apply List.ext_getElem?
  intro i
  rw [List.getElem?_zipIdx, List.getElem?_map]
  rcases Nat.lt_or_ge i l.length with h | h
  · rw [List.getElem?_range h, List.getElem?_eq_getElem h]; simp [List.getElem?_eq_getElem h]
  · rw [List.getElem?_eq_none h, List.getElem?_eq_none (by simpa using h)]; rfl
theorem mem_allC {w h : Nat} {c : Cell} : c ∈ allC w h ↔ ∃ x y : Nat, x < w ∧ y < h ∧ c = ((x : Int), (y : Int)) := by
  unfold allC
  simp only [List.mem_flatMap, List.mem_map, List.mem_range]
  constructor
  · rintro ⟨y, hy, x, hx, rfl⟩; exact ⟨x, y, hx, hy, rfl⟩
  · rintro ⟨x, y, hx, hy, rfl⟩; exact ⟨y, hy, x, hx, rfl⟩
theorem cells_all {p : Nat → Bool} {w : Nat} : ∀ (n : Nat) (rows : List Str), rows.length = n → (∀ r ∈ rows, r.cps.toList.length = w) → cellsOf p rows = (allC w n).filter fun c => p (codeAt rows c)
  | 0, rows, hn, _ => by rw [List.length_eq_zero_iff.mp hn]; rfl
  | n + 1, rows, hn, hw => by
    obtain ⟨i, r, rfl⟩ : ∃ i r, rows = i ++ [r] := by
      rcases List.eq_nil_or_concat rows with h | ⟨i, r, h⟩
      · rw [h] at hn; cases hn
      · exact ⟨i, r, by simpa using h⟩
    have hi : i.length = n := by simpa using hn
    rw [allC_succ, List.filter_append]
    have a := cells_all (p := p) n i hi fun s hs => hw s (List.mem_append_left _ hs)
    have e1 : (allC w n).filter (fun c => p (codeAt (i ++ [r]) c)) = (allC w n).filter (fun c => p (codeAt i c)) := by
      refine List.filter_congr fun c hc => ?_
      obtain ⟨x, y, _, hy, rfl⟩ := mem_allC.mp hc
      unfold codeAt
      rw [show (i ++ [r])[((y : Nat) : Int).toNat]? = i[((y : Nat) : Int).toNat]? from List.getElem?_append_left (by simpa [hi] using hy)]
    rw [e1, ← a]
    unfold cellsOf
    rw [List.zipIdx_append, List.flatMap_append]
    congr 1
    have hr := hw r (List.mem_append_right _ (List.mem_singleton.mpr rfl))
    simp only [List.zipIdx_cons, List.zipIdx_nil, List.flatMap_cons, List.flatMap_nil, List.append_nil]
    rw [zi_range, hr, List.filter_map, List.filter_map, List.map_map]
    have e2 : (fun c => p c.1) ∘ (fun x => ((r.cps.toList[x]?).getD 0, x)) = (fun c => p (codeAt (i ++ [r]) c)) ∘ fun (x : Nat) => (((x : Nat) : Int), ((n : Nat) : Int)) := by
      funext x
      simp only [Function.comp]
      unfold codeAt
      rw [show (i ++ [r])[((n : Nat) : Int).toNat]? = some r by simp [hi]]
      rfl
    rw [e2]
    refine List.map_congr_left fun x _ => ?_
    simp [hi]
abbrev roLt (p q : Cell) : Prop := p.2 < q.2 ∨ (p.2 = q.2 ∧ p.1 < q.1)
theorem allC_pw (w : Nat) : ∀ h : Nat, (allC w h).Pairwise roLt
  | 0 => List.Pairwise.nil
  | h + 1 => by
    rw [allC_succ, List.pairwise_append]
    refine ⟨allC_pw w h, ?_, ?_⟩
    · rw [List.pairwise_map]
      refine List.Pairwise.imp ?_ List.pairwise_lt_range
      intro a b hab
      exact .inr ⟨rfl, by show ((a : Nat) : Int) < ((b : Nat) : Int); omega⟩
    · intro c hc d hd
      obtain ⟨x, y, _, hy, rfl⟩ := mem_allC.mp hc
      obtain ⟨z, _, rfl⟩ := List.mem_map.mp hd
      exact .inl (by show ((y : Nat) : Int) < ((h : Nat) : Int); omega)
theorem row_id {l : List Cell} (h : l.Pairwise roLt) : row l = l := by
  have nd : l.Nodup := List.Pairwise.imp (fun {a b} hab e => by subst e; rcases hab with h | h <;> omega) h
  show roSort (once l) = l
  rw [once_id nd]
  exact roSort_id (List.Pairwise.imp (fun {a b} hab => by simp only [roLe, decide_eq_true_eq]; rcases hab with h | h <;> omega) h)
theorem Grid.all {rows : List Str} (g : Grid rows) (p : Nat → Bool) : cellsOf p rows = (allC (wid rows).toNat rows.length).filter fun c => p (codeAt rows c) :=
  cells_all _ _ rfl fun r hr => by
    have := (g.row r hr).1
    rw [Array.length_toList]
    have e : r.cps.size = r.length := rfl
    omega
theorem Grid.rowC {rows : List Str} (g : Grid rows) (p : Nat → Bool) : SM.row (cellsOf p rows) = cellsOf p rows := by
  refine row_id ?_
  rw [g.all]
  exact (allC_pw _ _).filter _
theorem Grid.holes {rows : List Str} (g : Grid rows) : (allC (wid rows).toNat rows.length).filter (fun c => !decide (c ∈ cellsOf nholeB rows)) = cellsOf holeB rows := by
  rw [g.all holeB]
  refine List.filter_congr fun c hc => ?_
  have : decide (c ∈ cellsOf nholeB rows) = nholeB (codeAt rows c) := by
    rw [g.all nholeB]
    simp only [List.mem_filter, hc, true_and]
    simp
  rw [this]
  unfold nholeB holeB
  simp
theorem inP_edge {rows : List Str} (g : Grid rows) (x y : Int) : inP rows x y = !decide (sgnAt rows x y = "#") := by
  rcases h : inP rows x y with _ | _
  · have e : sgnAt rows x y = "#" := by unfold sgnAt; rw [h]; simp
    rw [e]; simp
  · obtain ⟨r, c, _, _, hr, hc, e⟩ := g.get h
    have := sign_lt ((g.row r hr).2 c hc)
    rw [e, decide_eq_false]
    · rfl
    · intro e2
      have e3 := congrArg (fun s : Str => s.cps.toList) e2
      have e4 : [c] = [35] := e3
      simp at e4
      omega
def t_l_stones : DTS := (dRet (dLc (dItems (dCall r_l_cells [] (dCons (dVar 0) dNil))) (.nm 1) (dTestB (dOp oNe (dOp oIx (dOp oIx (dVar 0) (dOp oIx (dVar 1) (dC (.int 1)))) (dOp oIx (dVar 1) (dC (.int 0)))) (dC (.str ".")))) (dVar 1) [1]))
abbrev N_l_stones : List Str := ["_law_rows", "_law_cell"]
@[irreducible] def r_l_stones : DSp := fun ds S Q _ => ∃ rows, ds = [.lst (rows.map D.str)] ∧ Grid rows ∧ Q (.lst ((cellsOf nholeB rows).map pr)) S
theorem len_l_stones : Ln 1 r_l_stones := fun ds S Q E h => by unfold r_l_stones at h; obtain ⟨a, rfl, _⟩ := h; rfl
theorem rd_l_stones : Rd t_l_stones N_l_stones r_l_stones := by
  intro ds S QD XD h
  unfold r_l_stones at h
  obtain ⟨rows, rfl, g, q⟩ := h
  rw [g.all] at q
  row_hasAll w_d
  refine i_lcells g ?_
  row_hasAll w_d
  refine lk_filter (p := fun c => nholeB (codeAt rows c)) (f := pr) (fun c hc => ⟨_, rfl, fun Q' h => ?_, fun _ Q' h => ?_⟩) ?_
  · row_hasAll w_d
    obtain ⟨x, y, hx, hy, rfl⟩ := mem_allC.mp hc
    obtain ⟨r, k, e1, e2, _, _, e3⟩ := g.get (x := (x : Nat)) (y := (y : Nat)) (decide_eq_true ⟨⟨by omega, by omega⟩, by omega, by omega⟩)
    refine ik_at (i := ((y : Nat) : Int)) (by omega) (v := D.str r) (by rw [List.getElem?_map, e1]; rfl) ?_
    row_hasAll w_d
    refine ik_at (i := ((x : Nat) : Int)) (by omega) e2 ?_
    row_hasAll w_d
    have e : codeAt rows (((x : Nat) : Int), ((y : Nat) : Int)) = k := by unfold codeAt; rw [e1]; show (r.cps.toList[((x : Nat) : Int).toNat]?).getD 0 = k; rw [e2]; rfl
    rw [e] at h
    have e9 : eqB (D.str (one k)) (D.str (Str.ofString ".")) = holeB k := (eqv_str _ _).trans (one_dot k)
    rw [e9]
    exact h
  · row_hasAll w_d
    exact h
  exact q
theorem i_lstones {rows : List Str} {S : Sto} {Q : DQ} {X : XQ} (g : Grid rows) (h : Q (.lst ((cellsOf nholeB rows).map pr)) S) : r_l_stones [.lst (rows.map D.str)] S Q X := by unfold r_l_stones; exact ⟨rows, rfl, g, h⟩
theorem eqB_int (a b : Int) : eqB (.int a) (.int b) = decide (a = b) := by
  show PyData.eqv (toP (.int a)) (toP (.int b)) = _
  have : (a == b) = decide (a = b) := by by_cases h : a = b <;> simp [h]
  simp [toP, PyData.eqv, this]
theorem eqB_str (a b : Str) : eqB (.str a) (.str b) = decide (a = b) := eqv_str a b
theorem dec_t {p : Prop} [Decidable p] (h : p) : (!decide p) = false := by rw [decide_eq_true h]; rfl
theorem eqB_blS (b : Bool) : (!eqB (.bl b) (.bl b)) = false := by cases b <;> rfl
def t_l_shows : DTS := (dSeq (dIf (dOr (dTestB (dOp oNe (dFld [(1, 1)] (dVar 0)) (dCB (on1 lenD) (dCons (dOp oIx (dVar 1) (dC (.int 0))) dNil)))) (dTestB (dOp oNe (dFld [(1, 2)] (dVar 0)) (dCB (on1 lenD) (dCons (dVar 1) dNil))))) (dRet (dC (.bl false))) dNext) (dSeq (dSet 2 (dMeth 1 r_Picture_lines [] (dVar 0) dNil)) (dSeq (dIf (dOr (dNot (dTru (dUn (isiD ti_list) (dVar 2)))) (dTestB (dOp oNe (dVar 2) (dVar 1)))) (dRet (dC (.bl false))) dNext) (dSeq (dDrop (dBM .lst appD (dVar 2) (dCons (dC (.str "a")) dNil))) (dSeq (dSet 3 (dCall r_l_stones [] (dCons (dVar 1) dNil))) (dSeq (dSet 4 (dCB (on1 (strI 1 r_Picture_str)) (dCons (dVar 0) dNil))) (dSeq (dIf (dOr (dTestB (dOp oNe (dCB (on1 (lenI 1 r_Picture_len)) (dCons (dVar 0) dNil)) (dCB (on1 lenD) (dCons (dVar 3) dNil)))) (dTestB (dOp oNe (dVar 4) (dBM .str joinD (dC (.str "\n")) (dCons (dVar 1) dNil))))) (dRet (dC (.bl false))) dNext) (dSeq (dIf (dNot (dTru (dCall r_l_region_is [] (dCons (dMeth 1 r_Picture_stones [] (dVar 0) dNil) (dCons (dVar 3) dNil))))) (dRet (dC (.bl false))) dNext) (dSeq (dIf (dNot (dTru (dCall r_l_region_is [] (dCons (dMeth 1 r_Picture_holes [] (dVar 0) dNil) (dCons (dLc (dItems (dCall r_l_cells [] (dCons (dVar 1) dNil))) (.nm 5) (dTestB (dOp oNotIn (dVar 5) (dVar 3))) (dVar 5) [5]) dNil))))) (dRet (dC (.bl false))) dNext) (dSeq (dFor (dRng1 (dCons (dOp oAdd (dCB (on1 lenD) (dCons (dVar 1) dNil)) (dC (.int 8))) dNil)) (.nm 6) (dFor (dRng1 (dCons (dOp oAdd (dCB (on1 lenD) (dCons (dOp oIx (dVar 1) (dC (.int 0))) dNil)) (dC (.int 8))) dNil)) (.nm 7) (dSeq (dSet 8 (dCall r_l_sign [] (dCons (dVar 1) (dCons (dOp oSub (dVar 7) (dC (.int 4))) (dCons (dOp oSub (dVar 6) (dC (.int 4))) dNil))))) (dSeq (dSet 9 (dMeth 1 r_Picture_contains [] (dVar 0) (dCons (dOp oSub (dVar 7) (dC (.int 4))) (dCons (dOp oSub (dVar 6) (dC (.int 4))) dNil)))) (dIf (dOr (dTestB (dOp oNe (dOp (ixI 1 r_Picture_getitem) (dVar 0) (dTup (dCons (dOp oSub (dVar 7) (dC (.int 4))) (dCons (dOp oSub (dVar 6) (dC (.int 4))) dNil)))) (dVar 8))) (dOr (dNot (dTru (dUn (isiD ti_bool) (dVar 9)))) (dTestB (dOp oNe (dVar 9) (dOp oNe (dVar 8) (dC (.str "#"))))))) (dRet (dC (.bl false))) dNext))))) (dSeq (dFor (dItems (dLst (dCons (dC (.int 9)) (dCons (dNeg (dC (.int 9))) (dCons (dOp oPow (dC (.int 10)) (dC (.int 9))) (dCons (dNeg (dOp oPow (dC (.int 10)) (dC (.int 9)))) dNil)))))) (.nm 10) (dSeq (dIf (dOr (dTestB (dOp oNe (dOp (ixI 1 r_Picture_getitem) (dVar 0) (dTup (dCons (dVar 10) (dCons (dC (.int 0)) dNil)))) (dC (.str "#")))) (dOr (dTestB (dOp oNe (dOp (ixI 1 r_Picture_getitem) (dVar 0) (dTup (dCons (dC (.int 0)) (dCons (dVar 10) dNil)))) (dC (.str "#")))) (dTestB (dOp oNe (dOp (ixI 1 r_Picture_getitem) (dVar 0) (dTup (dCons (dVar 10) (dCons (dVar 10) dNil)))) (dC (.str "#")))))) (dRet (dC (.bl false))) dNext) (dIf (dOr (dTru (dMeth 1 r_Picture_contains [] (dVar 0) (dCons (dVar 10) (dCons (dC (.int 0)) dNil)))) (dTru (dMeth 1 r_Picture_contains [] (dVar 0) (dCons (dC (.int 0)) (dCons (dVar 10) dNil))))) (dRet (dC (.bl false))) dNext))) (dRet (dC (.bl true))))))))))))))
abbrev N_l_shows : List Str := ["_law_picture", "_law_rows", "_law_told", "_law_stones_here", "_law_text", "_law_cell", "_law_cy", "_law_cx", "_law_sign_here", "_law_inside", "_law_far"]
@[irreducible] def r_l_shows : DSp := fun ds S Q _ => ∃ rows, ds = [pic rows, .lst (rows.map D.str)] ∧ Grid rows ∧ ∀ p o, S p = none → Q (.bl true) (su S p o)
theorem len_l_shows : Ln 2 r_l_shows := fun ds S Q E h => by unfold r_l_shows at h; obtain ⟨a, rfl, _⟩ := h; rfl
theorem rd_l_shows : Rd t_l_shows N_l_shows r_l_shows := by
  intro ds S QD XD h
  unfold r_l_shows at h
  obtain ⟨rows, rfl, g, q⟩ := h
  have g1 := g.w1
  have g8 := g.w8
  have gl := g.le
  row_hasAll w_d
  refine g.ik0 fun r hw => ?_
  row_hasAll w_d
  rw [eqB_int, hw, dec_t rfl]
  row_hasAll w_d
  rw [List.length_map, eqB_int, dec_t rfl]
  row_hasAll w_d
  refine i_linesO fun p hp => ?_
  row_hasAll w_d
  rw [eqB_strs, dec_t rfl]
  refine ⟨by rw [pln_strs 7]; rfl, ?_⟩
  row_hasAll w_d
  refine ⟨by rw [List.length_map, sizeLine_eq]; omega, ?_⟩
  row_hasAll w_d
  refine i_lstones g ?_
  row_hasAll w_d
  refine i_strP g ?_
  row_hasAll w_d
  refine i_lenP g ?_
  row_hasAll w_d
  rw [List.length_map, eqB_int, dec_t rfl]
  row_hasAll w_d
  rw [strsD_id]
  refine ⟨g.jl, ?_⟩
  row_hasAll w_d
  rw [eqB_str, dec_t rfl]
  row_hasAll w_d
  refine i_stones g ?_
  row_hasAll w_d
  refine i_region_is ?_
  rw [show roSort (once (cellsOf nholeB rows)) = cellsOf nholeB rows from g.rowC nholeB, decide_eq_true rfl]
  row_hasAll w_d
  refine i_holes g ?_
  row_hasAll w_d
  refine i_lcells g ?_
  row_hasAll w_d
  refine lk_filter (p := fun c => !decide (c ∈ cellsOf nholeB rows)) (f := pr) (fun c hc => ⟨_, rfl, fun Q' h => ?_, fun _ Q' h => ?_⟩) ?_
  · row_hasAll w_d
    rw [inB_prs]
    exact h
  · row_hasAll w_d
    exact h
  row_hasAll w_d
  rw [g.holes]
  refine i_region_is ?_
  rw [show roSort (once (cellsOf holeB rows)) = cellsOf holeB rows from g.rowC holeB, decide_eq_true rfl]
  row_hasAll w_d0
  rw [List.length_map]
  refine ⟨⟨by omega, by omega⟩, ?_⟩
  refine loop_of (xs := List.range ((rows.length : Int) + 8 - 0).toNat) (g := fun i : Nat => D.int (0 + (i : Nat))) (fun l δ S' => ∃ u v w x y z, δ = [some (pic rows), some (.lst (rows.map D.str)), some (.adr p), some (.lst ((cellsOf nholeB rows).map pr)), some (.str (Txt.join "\n" rows)), u, v, w, x, y, z] ∧ S' = su S p (.lst (rows.map D.str ++ [.str "a"]))) ?_ ?_ ?_
  rotate_left 2
  · exact ⟨_, _, _, _, _, _, rfl, rfl⟩
  · rintro i l δ S' ⟨u, v, w, x, y, z, rfl, rfl⟩
    refine ⟨_, rfl, fun N hN => ?_⟩
    row_hasAll w_d0
    refine g.ik0 fun r hw => ?_
    row_hasAll w_d0
    rw [hw]
    refine ⟨⟨by omega, by omega⟩, ?_⟩
    refine loop_of (xs := List.range (wid rows + 8 - 0).toNat) (g := fun i : Nat => D.int (0 + (i : Nat))) (fun l δ S' => ∃ u w x y z, δ = [some (pic rows), some (.lst (rows.map D.str)), some (.adr p), some (.lst ((cellsOf nholeB rows).map pr)), some (.str (Txt.join "\n" rows)), u, some (.int (0 + (i : Nat))), w, x, y, z] ∧ S' = su S p (.lst (rows.map D.str ++ [.str "a"]))) ?_ ?_ ?_
    rotate_left 2
    · exact ⟨_, _, _, _, _, rfl, rfl⟩
    · rintro j l δ S' ⟨u, w, x, y, z, rfl, rfl⟩
      refine ⟨_, rfl, fun N2 hN2 => ?_⟩
      row_hasAll w_d
      refine i_lsign g ?_
      row_hasAll w_d
      refine i_contains ?_
      row_hasAll w_d
      refine i_getP g ?_
      row_hasAll w_d
      rw [eqB_str, dec_t rfl]
      row_hasAll w_d
      have e9 : (!eqB (D.str (sgnAt rows (0 + (j : Nat) - 4) (0 + (i : Nat) - 4))) (D.str (Str.ofString "#"))) = inP rows (0 + (j : Nat) - 4) (0 + (i : Nat) - 4) := by rw [eqB_str]; exact (inP_edge g _ _).symm
      rw [e9, eqB_blS]
      row_hasAll w_d
      exact hN2 _ _ ⟨_, _, _, _, _, rfl, rfl⟩
    · rintro δ S' ⟨u, w, x, y, z, rfl, rfl⟩
      exact hN _ _ ⟨_, _, _, _, _, _, rfl, rfl⟩
  · rintro δ S' ⟨u, v, w, x, y, z, rfl, rfl⟩
    row_hasAll w_d0
    refine And.intro ⟨by decide, by decide, by decide⟩ ?_
    row_hasAll w_d0
    refine And.intro ⟨by decide, by decide, by decide⟩ ?_
    row_hasAll w_d0
    have edge : ∀ x y : Int, ((x < 0 ∨ 8 < x) ∨ (y < 0 ∨ 8 < y)) → inP rows x y = false ∧ sgnAt rows x y = "#" := fun x y h => by
      have e : inP rows x y = false := decide_eq_false fun z => by omega
      exact ⟨e, by unfold sgnAt; rw [e]; simp⟩
    refine loop_of (xs := [(9 : Int), -9, 10 ^ 9, -10 ^ 9]) (g := D.int) (fun l δ S' => (∃ u v w x y z, δ = [some (pic rows), some (.lst (rows.map D.str)), some (.adr p), some (.lst ((cellsOf nholeB rows).map pr)), some (.str (Txt.join "\n" rows)), u, v, w, x, y, z] ∧ S' = su S p (.lst (rows.map D.str ++ [.str "a"]))) ∧ ∀ v ∈ l, v < 0 ∨ 8 < v) ?_ ?_ ?_
    rotate_left 2
    · exact ⟨⟨_, _, _, _, _, _, rfl, rfl⟩, by decide⟩
    · rintro k l δ S' ⟨⟨u, v, w, x, y, z, rfl, rfl⟩, hv⟩
      have hk := hv k (List.mem_cons_self ..)
      refine ⟨_, rfl, fun N hN => ?_⟩
      row_hasAll w_d
      refine i_getP g ?_
      rw [(edge _ _ (.inl hk)).2]
      row_hasAll w_d
      refine i_getP g ?_
      rw [(edge _ _ (.inr hk)).2]
      row_hasAll w_d
      refine i_getP g ?_
      rw [(edge _ _ (.inr hk)).2]
      row_hasAll w_d
      refine i_contains ?_
      rw [(edge _ _ (.inl hk)).1]
      row_hasAll w_d
      refine i_contains ?_
      rw [(edge _ _ (.inr hk)).1]
      row_hasAll w_d
      exact hN _ _ ⟨⟨_, _, _, _, _, _, rfl, rfl⟩, fun a h => hv a (List.mem_cons_of_mem _ h)⟩
    · rintro δ S' ⟨⟨u, v, w, x, y, z, rfl, rfl⟩, hv⟩
      row_hasAll w_d
      exact q _ _ hp
theorem i_shows {rows : List Str} {S : Sto} {Q : DQ} {X : XQ} (g : Grid rows) (h : ∀ p o, S p = none → Q (.bl true) (su S p o)) : r_l_shows [pic rows, .lst (rows.map D.str)] S Q X := by unfold r_l_shows; exact ⟨rows, rfl, g, h⟩
--#CALL refine i_lstones (by assumption) ?_
--#CALL refine And.intro (by rw [pln_prs 6]; rfl) ?_
--#CALL refine And.intro (by rw [pln_strs 7]; rfl) ?_
--#CALL rw [eqB_prs]
--#CALL rw [eqB_strs]
--#CALL rw [eqB_str]
--#CALL rw [eqB_int]
end SM

set_option Elab.async false
set_option linter.all false
set_option maxRecDepth 100000
set_option maxHeartbeats 4000000
--#ONETAC
local macro_rules | `(tactic| row_hasAll w_c) => `(tactic| first
  | refine i_lstones (by assumption) ?_
  | refine And.intro (by rw [pln_prs 6]; rfl) ?_
  | refine And.intro (by rw [pln_strs 7]; rfl) ?_
  | rw [eqB_prs]
  | rw [eqB_strs]
  | rw [eqB_str]
  | rw [eqB_int])
namespace SM
open PySem PySem.Spec PyProof.Rows L2
/-! ### a picture or its refusal (k05) -/
def t_l_answers_k05 : DTS := (dSeq (dTryAs [(21, true)] 4 (dIf (dTru (dVar 2)) (dSet 3 (dCall (fun ds => r_Picture_read (.cls 1 :: ds)) [] (dCons (dBM .str joinD (dC (.str "\n")) (dCons (dVar 0) dNil)) dNil))) (dSet 3 (dMake mkF 1 r_Picture_init [] (dCons (dCB (on1 listD) (dCons (dVar 0) dNil)) dNil)))) (fun a_ d_ c_ => (dSeq (dIf (dOr (dNot (dTru (dIsE [(21, true)] a_ d_ c_ (dVar 4)))) (dNot (dTru (dIsE [(21, true)] a_ d_ c_ (dVar 4))))) (dRet (dC (.bl false))) dNext) (dSeq (dIf (dOr (dTru (dIsE [(21, false)] a_ d_ c_ (dVar 4))) (dTru (dIsE [(21, false)] a_ d_ c_ (dVar 4)))) (dRet (dC (.bl false))) dNext) (dRet (dAndV (dCall r_l_is_int [] (dCons (dXf [(21, 0)] a_ d_ c_ (dVar 4)) dNil)) (dAndV (dOp oEq (dXf [(21, 0)] a_ d_ c_ (dVar 4)) (dVar 1)) (dOp oGt (dVar 1) (dC (.int 0)))))))))) (dRet (dAndV (dOp oEq (dVar 1) (dC (.int 0))) (dOp oEq (dFz (dMeth 1 r_Picture_lines [] (dVar 3) dNil)) (dVar 0)))))
abbrev N_l_answers_k05 : List Str := ["_law_rows", "_law_line", "_law_read", "_law_picture", "e"]
/-- the answer: does the refused line agree -/
def ansB (rows : List Str) (line : Int) : Bool := match bad rows with
  | none => decide (line = 0)
  | some k => decide ((k : Int) = line) && decide (0 < line)
@[irreducible] def r_l_answers_k05 : DSp := fun ds S Q _ => ∃ rows line b, ds = [.lst (rows.map D.str), .int line, .bl b] ∧ rows.length ≤ 20 ∧ (∀ r ∈ rows, r.length ≤ 20 ∧ okS r ∧ 10 ∉ r.cps.toList) ∧ Q (.bl (ansB rows line)) S
theorem len_l_answers_k05 : Ln 3 r_l_answers_k05 := fun ds S Q E h => by unfold r_l_answers_k05 at h; obtain ⟨a, b, c, rfl, _⟩ := h; rfl
theorem bad_read {rows : List Str} (h : ∀ r ∈ rows, 10 ∉ r.cps.toList) : (rows ≠ [] ∧ Txt.split (Txt.join "\n" rows) "\n" = rows) ∨ (rows = [] ∧ bad (Txt.split (Txt.join "\n" rows) "\n") = some 1) := by
  by_cases e : rows = []
  · subst e
    exact .inr ⟨rfl, by decide +kernel⟩
  · exact .inl ⟨e, TL.split_join (s := 10) (S := []) rfl (by decide +kernel) e fun p hp hc => h p hp hc⟩
theorem rd_l_answers_k05 : Rd t_l_answers_k05 N_l_answers_k05 r_l_answers_k05 := by
  intro ds S QD XD h
  unfold r_l_answers_k05 at h
  obtain ⟨rows, line, b, rfl, hl, hr, q⟩ := h
  cases b
  · row_hasAll w_d
    refine mk_pic (rows := rows) (.inl rfl) (by omega) ?_
    unfold ansB at q
    cases e : bad rows with
    | none =>
      rw [e] at q
      row_hasAll w_d
      rw [eqB_int]
      refine brP (fun h => ?_) (fun h => ?_)
      · simp only [decide_eq_true h] at q
        row_hasAll w_d
        refine i_linesO fun p hp => ?_
        row_hasAll w_d
        rw [sd_su_new hp, eqB_strs, decide_eq_true rfl]
        exact ⟨by rw [pln_strs 7]; rfl, q⟩
      · simp only [decide_eq_false h] at q
        exact q
    | some n =>
      rw [e] at q
      row_hasAll w_d
      intro a d
      row_hasAll w_d
      refine i_is_int ?_
      row_hasAll w_d
      rw [eqB_int]
      refine brP (fun h => ?_) (fun h => ?_)
      · simp only [decide_eq_true h, Bool.true_and] at q
        row_hasAll w_d
        exact q
      · simp only [decide_eq_false h, Bool.false_and] at q
        exact q
  · row_hasAll w_d
    rw [strsD_id]
    have hs : (rows.map (·.length)).sum ≤ rows.length * 20 := sum_le (fun s : Str => s.length) 20 rows fun r h => (hr r h).1
    have e1 : (Str.ofString "\n").length = 1 := rfl
    have hj : (rows.map (·.length)).sum + rows.length * (Str.ofString "\n").length ≤ 16777216 := by rw [e1]; omega
    refine ⟨hj, ?_⟩
    row_hasAll w_d
    refine i_read ?_ (okS_join (by decide +kernel) (fun s h => (hr s h).2.1) hj) ?_
    · have e : (TL.tl (Str.join "\n" rows)) = TL.joinL (TL.tl "\n") (rows.map TL.tl) := TL.tl_join "\n" rows
      rw [TL.join_eq, len_tl, e]
      refine Nat.le_trans joinL_len ?_
      have h1 := sum_le (fun s : Str => (TL.tl s).length) 20 rows fun r h => by rw [← len_tl]; exact (hr r h).1
      rw [List.map_map, List.length_map]
      have e2 : (TL.tl (Str.ofString "\n")).length = 1 := rfl
      rw [e2]
      have h2 : (rows.map ((fun x : List Nat => x.length) ∘ TL.tl)).sum ≤ rows.length * 20 := h1
      omega
    · unfold ansB at q
      rcases bad_read (fun r h => (hr r h).2.2) with ⟨_, e⟩ | ⟨e0, e⟩
      · rw [e]
        cases e9 : bad rows with
        | none =>
          rw [e9] at q
          row_hasAll w_d
          rw [eqB_int]
          refine brP (fun h => ?_) (fun h => ?_)
          · simp only [decide_eq_true h] at q
            row_hasAll w_d
            refine i_linesO fun p hp => ?_
            row_hasAll w_d
            rw [sd_su_new hp, eqB_strs, decide_eq_true rfl]
            exact ⟨by rw [pln_strs 7]; rfl, q⟩
          · simp only [decide_eq_false h] at q
            exact q
        | some n =>
          rw [e9] at q
          row_hasAll w_d
          intro a d
          row_hasAll w_d
          refine i_is_int ?_
          row_hasAll w_d
          rw [eqB_int]
          refine brP (fun h => ?_) (fun h => ?_)
          · simp only [decide_eq_true h, Bool.true_and] at q
            row_hasAll w_d
            exact q
          · simp only [decide_eq_false h, Bool.false_and] at q
            exact q
      · rw [e]
        have e9 : bad rows = some 1 := by rw [e0]; rfl
        rw [e9] at q
        row_hasAll w_d
        intro a d
        row_hasAll w_d
        refine i_is_int ?_
        row_hasAll w_d
        rw [eqB_int]
        refine brP (fun h => ?_) (fun h => ?_)
        · simp only [decide_eq_true h, Bool.true_and] at q
          row_hasAll w_d
          exact q
        · simp only [decide_eq_false h, Bool.false_and] at q
          exact q
theorem i_answers {rows : List Str} {line : Int} {b : Bool} {S : Sto} {Q : DQ} {X : XQ} (hl : rows.length ≤ 20) (hr : ∀ r ∈ rows, r.length ≤ 20 ∧ okS r ∧ 10 ∉ r.cps.toList) (h : Q (.bl (ansB rows line)) S) : r_l_answers_k05 [.lst (rows.map D.str), .int line, .bl b] S Q X := by unfold r_l_answers_k05; exact ⟨rows, line, b, rfl, hl, hr, h⟩
end SM

set_option Elab.async false
set_option linter.all false
set_option maxRecDepth 100000
set_option maxHeartbeats 4000000
--#ONETAC

namespace SM
open PySem PySem.Spec PyProof.Rows L2
/-! ### the law's own line -/
def t_l_is_row : DTS := (dSeq (dIf (dOr (dTestB (dOp oNe (dCB (on1 lenD) (dCons (dVar 0) dNil)) (dVar 1))) (dOr (dTestB (dOp oLt (dVar 1) (dC (.int 1)))) (dTestB (dOp oGt (dVar 1) (dC (.int 8)))))) (dRet (dC (.bl false))) dNext) (dSeq (dFor (dItems (dVar 0)) (.nm 2) (dIf (dTestB (dOp oNotIn (dVar 2) (dC (.str ".abcdefghijklmnopqrstuvwxyz")))) (dRet (dC (.bl false))) dNext)) (dRet (dC (.bl true)))))
abbrev N_l_is_row : List Str := ["_law_row_here", "_law_wide", "_law_sign"]
@[irreducible] def r_l_is_row : DSp := fun ds S Q _ => ∃ r w, ds = [.str r, .int w] ∧ Q (.bl (rowB r w)) S
theorem len_l_is_row : Ln 2 r_l_is_row := fun ds S Q E h => by unfold r_l_is_row at h; obtain ⟨a, b, rfl, _⟩ := h; rfl
theorem inS_dot (c : Nat) : inS (one c) (Str.ofString ".abcdefghijklmnopqrstuvwxyz") = signB (one c) := by
  show decide (c ∈ [46, 97, 98, 99, 100, 101, 102, 103, 104, 105, 106, 107, 108, 109, 110, 111, 112, 113, 114, 115, 116, 117, 118, 119, 120, 121, 122]) = (decide (c = 46) || letB c)
  unfold letB
  rw [← Bool.decide_or]
  refine decide_eq_decide.mpr ⟨fun h => ?_, fun h => ?_⟩
  · simp at h; omega
  · simp; omega
theorem rd_l_is_row : Rd t_l_is_row N_l_is_row r_l_is_row := by
  intro ds S QD XD h
  unfold r_l_is_row at h
  obtain ⟨r, w, rfl, q⟩ := h
  unfold rowB at q
  have no : ¬ ((r.length : Int) = w ∧ 1 ≤ w ∧ w ≤ 8) → QD (.bl false) S := fun hn => by rw [decide_eq_false hn] at q; exact q
  row_hasAll w_d
  refine brN (c := ((r.length : Nat) : Int) = w) (fun h1 => ?_) (fun h1 => ?_)
  · row_hasAll w_d
    exact no fun z => h1 z.1
  · row_hasAll w_d
    refine brP (fun h2 => ?_) (fun h2 => ?_)
    · row_hasAll w_d
      exact no fun z => by omega
    · row_hasAll w_d
      refine brP (fun h3 => ?_) (fun h3 => ?_)
      · row_hasAll w_d
        exact no fun z => by omega
      · row_hasAll w_d
        rw [decide_eq_true (show ((r.length : Int) = w ∧ 1 ≤ w ∧ w ≤ 8) by exact ⟨h1, by omega, by omega⟩), Bool.true_and] at q
        refine loop_of (g := fun c => D.str (one c)) (fun l δ S' => S' = S ∧ (∃ x, δ = [some (.str r), some (.int w), x]) ∧ (l.all fun c => signB (one c)) = r.cps.toList.all fun c => signB (one c)) ?_ ?_ ⟨rfl, ⟨_, rfl⟩, rfl⟩
        · rintro c l δ S' ⟨rfl, ⟨x, rfl⟩, e⟩
          refine ⟨_, rfl, fun N hN => ?_⟩
          row_hasAll w_d
          rw [inS_dot]
          rw [List.all_cons] at e
          cases hs : signB (one c) with
          | true =>
            rw [hs, Bool.true_and] at e
            row_hasAll w_d
            exact hN _ _ ⟨rfl, ⟨_, rfl⟩, e⟩
          | false =>
            rw [hs, Bool.false_and] at e
            row_hasAll w_d
            rw [← e] at q
            exact q
        · rintro δ S' ⟨rfl, ⟨x, rfl⟩, e⟩
          row_hasAll w_d
          rw [← e] at q
          exact q
theorem i_lisrow {r : Str} {w : Int} {S : Sto} {Q : DQ} {X : XQ} (h : Q (.bl (rowB r w)) S) : r_l_is_row [.str r, .int w] S Q X := by unfold r_l_is_row; exact ⟨r, w, rfl, h⟩
def t_l_bad_line : DTS := (dSeq (dFor (dRng1 (dCons (dCB (on1 lenD) (dCons (dVar 0) dNil)) dNil)) (.nm 1) (dIf (dOr (dTestB (dOp oGt (dVar 1) (dC (.int 7)))) (dNot (dTru (dCall r_l_is_row [] (dCons (dOp oIx (dVar 0) (dVar 1)) (dCons (dCB (on1 lenD) (dCons (dOp oIx (dVar 0) (dC (.int 0))) dNil)) dNil)))))) (dRet (dOp oAdd (dVar 1) (dC (.int 1)))) dNext)) (dSeq (dIf (dTestB (dOp oEq (dVar 0) (dLst dNil))) (dRet (dC (.int 1))) dNext) (dRet (dC (.int 0)))))
abbrev N_l_bad_line : List Str := ["_law_rows", "_law_k"]
@[irreducible] def r_l_bad_line : DSp := fun ds S Q _ => ∃ rows, ds = [.lst (rows.map D.str)] ∧ rows.length ≤ 20 ∧ Q (.int ((bad rows).getD 0 : Nat)) S
theorem len_l_bad_line : Ln 1 r_l_bad_line := fun ds S Q E h => by unfold r_l_bad_line at h; obtain ⟨a, rfl, _⟩ := h; rfl
theorem rd_l_bad_line : Rd t_l_bad_line N_l_bad_line r_l_bad_line := by
  intro ds S QD XD h
  unfold r_l_bad_line at h
  obtain ⟨rows, rfl, hl, q⟩ := h
  row_hasAll w_d
  rw [List.length_map]
  refine ⟨⟨by omega, by omega⟩, ?_⟩
  refine loop_of (xs := List.range ((rows.length : Int) - 0).toNat) (g := fun i : Nat => D.int (0 + (i : Nat))) (fun l δ S' => ∃ i x, δ = [some (.lst (rows.map D.str)), x] ∧ S' = S ∧ l = List.range' i (rows.length - i) ∧ i ≤ rows.length ∧ (rows ≠ [] → badFrom (wid rows) i (rows.drop i) = bad rows)) ?_ ?_ ?_
  rotate_left 2
  · refine ⟨0, _, rfl, rfl, by rw [List.range_eq_range']; congr 1, Nat.zero_le _, fun h => ?_⟩
    unfold bad
    rw [if_neg h]; rfl
  · rintro k l δ S' ⟨i, x, rfl, rfl, e, hi, hb⟩
    have hlt : i < rows.length := by
      rcases Nat.lt_or_ge i rows.length with h | h
      · exact h
      · rw [show rows.length - i = 0 by omega] at e; cases e
    obtain ⟨m, hm⟩ : ∃ m, rows.length - i = m + 1 := ⟨rows.length - i - 1, by omega⟩
    rw [hm, List.range'_succ] at e
    simp only [List.cons.injEq] at e
    obtain ⟨rfl, rfl⟩ := e
    have hne : rows ≠ [] := fun z => by rw [z] at hlt; cases hlt
    have hb := hb hne
    rw [List.drop_eq_getElem_cons hlt, badFrom] at hb
    refine ⟨_, rfl, fun N hN => ?_⟩
    row_hasAll w_d
    refine brP (fun h => ?_) (fun h => ?_)
    · row_hasAll w_d
      rw [if_pos (.inl (by omega))] at hb
      rw [← hb] at q
      have e2 : (0 : Int) + (k : Nat) + 1 = (((some (k + 1) : Option Nat).getD 0 : Nat) : Int) := by simp
      rw [e2]
      exact q
    · row_hasAll w_d
      refine ik_at (i := 0 + ((k : Nat) : Int)) (by omega) (v := D.str rows[k]) (by rw [List.getElem?_map, show ((0 : Int) + (k : Nat)).toNat = k by omega, List.getElem?_eq_getElem hlt]; rfl) ?_
      row_hasAll w_d
      obtain ⟨r0, er, hw⟩ : ∃ r, rows[0]? = some r ∧ (r.length : Int) = wid rows := by
        cases rows with
        | nil => exact absurd rfl hne
        | cons r rest => exact ⟨r, rfl, rfl⟩
      refine ik_at (i := 0) (by decide) (v := D.str r0) (by rw [List.getElem?_map]; show Option.map D.str rows[0]? = _; rw [er]; rfl) ?_
      row_hasAll w_d
      rw [hw]
      refine i_lisrow ?_
      row_hasAll w_d
      cases hs : rowB rows[k] (wid rows) with
      | true =>
        rw [hs, if_neg (by simp; omega)] at hb
        row_hasAll w_d
        exact hN _ _ ⟨k + 1, _, rfl, rfl, by congr 1; omega, hlt, fun _ => hb⟩
      | false =>
        rw [if_pos (.inr hs)] at hb
        rw [← hb] at q
        row_hasAll w_d
        have e2 : (0 : Int) + (k : Nat) + 1 = (((some (k + 1) : Option Nat).getD 0 : Nat) : Int) := by simp
        rw [e2]
        exact q
  · rintro δ S' ⟨i, x, rfl, rfl, e, hi, hb⟩
    have ei : i = rows.length := by
      rcases Nat.lt_or_ge i rows.length with h | h
      · obtain ⟨m, hm⟩ : ∃ m, rows.length - i = m + 1 := ⟨rows.length - i - 1, by omega⟩
        rw [hm, List.range'_succ] at e; cases e
      · omega
    subst ei
    row_hasAll w_d
    have e5 : eqB (.lst (rows.map D.str)) (.lst []) = decide (rows = []) := eqB_strs rows []
    rw [e5]
    refine ⟨by rw [pln_strs 7]; rfl, ?_⟩
    refine brP (fun h => ?_) (fun h => ?_)
    · row_hasAll w_d
      subst h
      exact q
    · row_hasAll w_d
      have hb := hb h
      rw [List.drop_length, badFrom] at hb
      rw [← hb] at q
      exact q
theorem i_badline {rows : List Str} {S : Sto} {Q : DQ} {X : XQ} (hl : rows.length ≤ 20) (h : Q (.int ((bad rows).getD 0 : Nat)) S) : r_l_bad_line [.lst (rows.map D.str)] S Q X := by unfold r_l_bad_line; exact ⟨rows, rfl, hl, h⟩
end SM

set_option Elab.async false
set_option linter.all false
set_option maxRecDepth 100000
set_option maxHeartbeats 4000000
--#ONETAC

namespace SM
open PySem PySem.Spec PyProof.Rows L2
def t_l_spoilt : DTS := (dSeq (dSet 1 (dCB (on1 listDO) (dCons (dVar 1) dNil))) (dSeq (dSet 2 (dCall r_l_take [] (dCons (dVar 0) (dCons (dCB (on1 lenD) (dCons (dVar 1) dNil)) dNil)))) (dSeq (dSet 3 (dOp oIx (dVar 1) (dVar 2))) (dSeq (dSet 4 (dCall r_l_take [] (dCons (dVar 0) (dCons (dC (.int 5)) dNil)))) (dSeq (dIf (dTestB (dOp oEq (dVar 4) (dC (.int 0)))) (dSetL (dVar 1) (dVar 2) (dOp oAdd (dVar 3) (dC (.str "a")))) dNext) (dSeq (dIf (dTestB (dOp oEq (dVar 4) (dC (.int 1)))) (dSetL (dVar 1) (dVar 2) (dSl oSl (dVar 3) dNoPart (dPart (dNeg (dC (.int 1)))))) dNext) (dSeq (dIf (dTestB (dOp oEq (dVar 4) (dC (.int 2)))) (dSetL (dVar 1) (dVar 2) (dC (.str ""))) dNext) (dSeq (dIf (dAnd (dTestB (dOp oGt (dVar 4) (dC (.int 2)))) (dTestB (dOp oNe (dVar 3) (dC (.str ""))))) (dSeq (dSet 5 (dCall r_l_take [] (dCons (dVar 0) (dCons (dCB (on1 lenD) (dCons (dVar 3) dNil)) dNil)))) (dSeq (dSet 6 (dOp oIx (dLst (dCons (dC (.str "A")) (dCons (dC (.str "#")) (dCons (dC (.str "0")) (dCons (dC (.str " ")) (dCons (dC (.str "-")) (dCons (dC (.str "{")) (dCons (dC (.str "~")) (dCons (dC (.str "Z")) (dCons (dC (.str "_")) dNil)))))))))) (dCall r_l_take [] (dCons (dVar 0) (dCons (dC (.int 9)) dNil))))) (dSetL (dVar 1) (dVar 2) (dOp oAdd (dOp oAdd (dSl oSl (dVar 3) dNoPart (dPart (dVar 5))) (dVar 6)) (dSl oSl (dVar 3) (dPart (dOp oAdd (dVar 5) (dC (.int 1)))) dNoPart))))) dNext) (dRet (dVarM 1))))))))))
abbrev N_l_spoilt : List Str := ["_law_bag_here", "_law_rows", "_law_at", "_law_row_here", "_law_way", "_law_spot", "_law_sign"]
theorem cut_mem {z : Str} {lo hi : Option Int} : (cutS z lo hi).length ≤ z.length ∧ ∀ c ∈ (cutS z lo hi).cps.toList, c ∈ z.cps.toList := by
  constructor
  · show ((z.cps.toList.drop (HT.sIx z.length 0 lo)).take (HT.sIx z.length z.length hi - HT.sIx z.length 0 lo)).toArray.size ≤ z.cps.size
    rw [List.size_toArray, List.length_take, List.length_drop, Array.length_toList]
    omega
  · intro c hc
    have : c ∈ (z.cps.toList.drop (HT.sIx z.length 0 lo)).take (HT.sIx z.length z.length hi - HT.sIx z.length 0 lo) := by simpa [cutS] using hc
    exact List.mem_of_mem_drop (List.mem_of_mem_take this)
theorem cut_two {z : Str} {i : Int} (h0 : 0 ≤ i) (h1 : i < (z.length : Nat)) : (cutS z none (some i)).length + (cutS z (some (i + 1)) none).length + 1 ≤ z.length := by
  have e : ∀ lo hi, (cutS z lo hi).length = ((z.cps.toList.drop (HT.sIx z.length 0 lo)).take (HT.sIx z.length z.length hi - HT.sIx z.length 0 lo)).length := fun lo hi => List.size_toArray
  have hz : z.cps.toList.length = z.length := Array.length_toList
  rw [e, e, List.length_take, List.length_drop, List.length_take, List.length_drop, hz]
  have s1 : HT.sIx z.length 0 none = 0 := rfl
  have s2 : HT.sIx z.length z.length none = z.length := rfl
  have s3 : HT.sIx z.length z.length (some i) = i.toNat := by
    show (if i < 0 then (i + (z.length : Int)).toNat else min i.toNat z.length) = _
    rw [if_neg (by omega)]; omega
  have s4 : HT.sIx z.length 0 (some (i + 1)) = (i + 1).toNat := by
    show (if i + 1 < 0 then (i + 1 + (z.length : Int)).toNat else min (i + 1).toNat z.length) = _
    rw [if_neg (by omega)]; omega
  rw [s1, s2, s3, s4]
  omega
theorem odd_at {t : Int} (h0 : 0 ≤ t) (h1 : t < 9) : ∃ z : Str, ([D.str (Str.ofString "A"), D.str (Str.ofString "#"), D.str (Str.ofString "0"), D.str (Str.ofString " "), D.str (Str.ofString "-"), D.str (Str.ofString "{"), D.str (Str.ofString "~"), D.str (Str.ofString "Z"), D.str (Str.ofString "_")] : List D)[t.toNat]? = some (.str z) ∧ z.length = 1 ∧ ∀ c ∈ z.cps.toList, c < 128 ∧ c ≠ 10 := by
  have : t = 0 ∨ t = 1 ∨ t = 2 ∨ t = 3 ∨ t = 4 ∨ t = 5 ∨ t = 6 ∨ t = 7 ∨ t = 8 := by omega
  rcases this with rfl | rfl | rfl | rfl | rfl | rfl | rfl | rfl | rfl <;> exact ⟨_, rfl, rfl, by decide +kernel⟩
/-- rows that may be spoilt -/
structure Bent (n : Nat) (rows : List Str) : Prop where
  ne : rows ≠ []
  le : rows.length ≤ 8
  row : ∀ r ∈ rows, r.length ≤ n ∧ ∀ c ∈ r.cps.toList, c < 128 ∧ c ≠ 10
@[irreducible] def r_l_spoilt : DSp := fun ds S Q _ => ∃ a b n rows, ds = [.adr a, .lst (rows.map D.str)] ∧ S a = some (bagO b) ∧ n ≤ 12 ∧ Bent n rows ∧ ∀ rows' b', Bent (n + 1) rows' → Q (.lst (rows'.map D.str)) (su S a (bagO b'))
theorem len_l_spoilt : Ln 2 r_l_spoilt := fun ds S Q E h => by unfold r_l_spoilt at h; obtain ⟨a, b, n, c, rfl, _⟩ := h; rfl
theorem rd_l_spoilt : Rd t_l_spoilt N_l_spoilt r_l_spoilt := by
  intro ds S QD XD h
  unfold r_l_spoilt at h
  obtain ⟨a, b, n, rows, rfl, hS, hn, g, q⟩ := h
  have gl := g.le
  have g0 : 0 < rows.length := List.length_pos_iff.mpr g.ne
  row_hasAll w_d
  intro p hp
  have hpa : a ≠ p := fun e => by rw [e, hp] at hS; cases hS
  row_hasAll w_d
  refine i_take (b := b) (by rw [su_ne hpa]; exact hS) ?_ ?_ fun v b1 h0 h1 => ?_
  · rw [List.length_map]; omega
  · rw [List.length_map]; omega
  rw [List.length_map] at h1
  row_hasAll w_d
  have hv : v.toNat < rows.length := by omega
  refine ik_at h0 (v := D.str rows[v.toNat]) (by rw [List.getElem?_map, List.getElem?_eq_getElem hv]; rfl) ?_
  row_hasAll w_d
  refine i_takeB (by decide) (by decide) fun way b2 h2 h3 => ?_
  have rr := g.row rows[v.toNat] (List.getElem_mem hv)
  have fin : ∀ (r' : Str) b', (r'.length ≤ n + 1 ∧ ∀ c ∈ r'.cps.toList, c < 128 ∧ c ≠ 10) → QD (.lst ((rows.set v.toNat r').map D.str)) (su S a (bagO b')) := fun r' b' h => q _ b' ⟨fun e => g.ne (by simpa using e), by rw [List.length_set]; exact gl, fun r hr => by
    rcases List.mem_or_eq_of_mem_set hr with h4 | h4
    · have := g.row r h4
      exact ⟨by omega, this.2⟩
    · rw [h4]; exact h⟩
  have same : ∀ b', QD (.lst (rows.map D.str)) (su S a (bagO b')) := fun b' => q _ b' ⟨g.ne, gl, fun r hr => by
    have := g.row r hr
    exact ⟨by omega, this.2⟩⟩
  have hx : ixN (rows.map D.str).length v = some v.toNat := by
    unfold ixN
    rw [if_pos h0, if_pos (by rw [List.length_map]; exact h1)]
  have hst : ∀ o1 bg o, sd (su (su (su S p o1) a bg) p o) p = su S a bg := fun o1 bg o => by row_hasAll w_steq
  have hst2 : ∀ o1 bg, sd (su (su S p o1) a bg) p = su S a bg := fun o1 bg => by row_hasAll w_steq
  have hcut : ∀ lo hi, (cutS rows[v.toNat] lo hi).length ≤ n + 1 ∧ ∀ c ∈ (cutS rows[v.toNat] lo hi).cps.toList, c < 128 ∧ c ≠ 10 := fun lo hi => ⟨by have := (cut_mem (z := rows[v.toNat]) (lo := lo) (hi := hi)).1; omega, fun c hc => rr.2 c ((cut_mem (z := rows[v.toNat]) (lo := lo) (hi := hi)).2 c hc)⟩
  have hpa2 : p ≠ a := Ne.symm hpa
  have l1 : (Str.ofString "a").length = 1 := rfl
  row_hasAll w_d
  rw [eqB_int]
  refine brP (fun w0 => ?_) (fun w0 => ?_)
  · subst w0
    row_hasAll w_d
    refine ⟨by rw [sizeLine_eq, l1]; omega, ?_⟩
    row_hasAll w_d
    rw [hx]
    row_hasAll w_d
    rw [hst, ← List.map_set]
    refine fin _ _ ⟨by rw [slen_app, l1]; omega, fun c hc => ?_⟩
    rw [app_codes] at hc
    rcases List.mem_append.mp hc with h | h
    · exact rr.2 c h
    · have : c = 97 := by simpa using (show c ∈ [97] from h)
      omega
  · row_hasAll w_d
    rw [eqB_int]
    refine brP (fun w1 => ?_) (fun w1 => ?_)
    · subst w1
      row_hasAll w_d
      rw [hx]
      row_hasAll w_d
      rw [hst, ← List.map_set]
      refine fin _ _ (hcut _ _)
    · row_hasAll w_d
      rw [eqB_int]
      refine brP (fun w2 => ?_) (fun w2 => ?_)
      · subst w2
        row_hasAll w_d
        rw [hx]
        row_hasAll w_d
        rw [hst, ← List.map_set]
        exact fin _ _ ⟨Nat.zero_le _, fun c hc => by cases hc⟩
      · row_hasAll w_d
        refine brP (fun w3 => ?_) (fun w3 => ?_)
        · row_hasAll w_d
          rw [eqB_str]
          refine brN (fun hne => ?_) (fun hne => ?_)
          · row_hasAll w_d
            have hlen : 0 < rows[v.toNat].length := by
              rcases Nat.eq_zero_or_pos rows[v.toNat].length with h | h
              · exact absurd (str_ext (by rw [show rows[v.toNat].cps.toList = [] from List.length_eq_zero_iff.mp (by rw [Array.length_toList]; exact h)]; rfl)) hne
              · exact h
            refine i_takeB (by omega) (by omega) fun spot b3 h4 h5 => ?_
            row_hasAll w_d
            refine i_takeB (by decide) (by decide) fun t b4 h6 h7 => ?_
            row_hasAll w_d
            obtain ⟨z, ez, lz, cz⟩ := odd_at h6 h7
            refine ik_at h6 ez ?_
            have c1 := cut_mem (z := rows[v.toNat]) (lo := none) (hi := some spot)
            have c2 := cut_mem (z := rows[v.toNat]) (lo := some (spot + 1)) (hi := none)
            have d1 : (cutS rows[v.toNat] none (some spot)).length + (cutS rows[v.toNat] (some (spot + 1)) none).length + 1 ≤ rows[v.toNat].length := cut_two h4 h5
            have a1 := slen_app (cutS rows[v.toNat] none (some spot)) z
            row_hasAll w_d
            refine ⟨by rw [sizeLine_eq]; omega, ?_⟩
            row_hasAll w_d
            refine ⟨by rw [sizeLine_eq]; omega, ?_⟩
            row_hasAll w_d
            rw [hx]
            row_hasAll w_d
            rw [hst, ← List.map_set]
            refine fin _ _ ⟨by rw [slen_app]; omega, fun c hc => ?_⟩
            rw [app_codes, app_codes] at hc
            rcases List.mem_append.mp hc with h | h
            · rcases List.mem_append.mp h with h | h
              · exact rr.2 c (c1.2 c h)
              · exact cz c h
            · exact rr.2 c (c2.2 c h)
          · row_hasAll w_d
            rw [hst2]
            exact same _
        · row_hasAll w_d
          rw [hst2]
          exact same _
theorem i_spoilt {a : Addr} {b : Bag} {n : Nat} {rows : List Str} {S : Sto} {Q : DQ} {X : XQ} (hS : S a = some (bagO b)) (hn : n ≤ 12) (g : Bent n rows) (q : ∀ rows' b', Bent (n + 1) rows' → Q (.lst (rows'.map D.str)) (su S a (bagO b'))) : r_l_spoilt [.adr a, .lst (rows.map D.str)] S Q X := by unfold r_l_spoilt; exact ⟨a, b, n, rows, rfl, hS, hn, g, q⟩
/-- a slice of rows -/
def cutR (l : List Str) (lo hi : Option Int) : List Str := (l.drop (HT.sIx l.length 0 lo)).take (HT.sIx l.length l.length hi - HT.sIx l.length 0 lo)
theorem cutD_map (l : List Str) (lo hi : Option Int) : cutD (l.map D.str) lo hi = (cutR l lo hi).map D.str := by
  unfold cutD cutR
  rw [List.length_map, List.map_take, List.map_drop]
theorem cutR_mem {l : List Str} {lo hi : Option Int} {r : Str} (h : r ∈ cutR l lo hi) : r ∈ l := List.mem_of_mem_drop (List.mem_of_mem_take h)
end SM

set_option Elab.async false
set_option linter.all false
set_option maxRecDepth 100000
set_option maxHeartbeats 4000000
--#ONETAC

namespace SM
open PySem PySem.Spec PyProof.Rows L2
/-! ### one sign put into a grid -/
theorem sIx_hi {n d : Nat} {i : Int} (h0 : 0 ≤ i) (h1 : i ≤ (n : Nat)) : HT.sIx n d (some i) = i.toNat := by
  show (if i < 0 then (i + (n : Int)).toNat else min i.toNat n) = _
  rw [if_neg (by omega)]; omega
theorem cutS_codes (z : Str) (lo hi : Option Int) : (cutS z lo hi).cps.toList = (z.cps.toList.drop (HT.sIx z.length 0 lo)).take (HT.sIx z.length z.length hi - HT.sIx z.length 0 lo) := by simp [cutS]
theorem slen_codes (z : Str) : z.cps.toList.length = z.length := Array.length_toList
/-- r[:x] + s + r[x + 1:] -/
def putS (r : Str) (x : Int) (s : Str) : Str := cutS r none (some x) ++ s ++ cutS r (some (x + 1)) none
theorem putS_codes {r : Str} {x : Int} {c : Nat} (h0 : 0 ≤ x) (h1 : x < (r.length : Nat)) : (putS r x (one c)).cps.toList = r.cps.toList.set x.toNat c := by
  unfold putS
  rw [app_codes, app_codes, cutS_codes, cutS_codes]
  have s1 : HT.sIx r.length 0 none = 0 := rfl
  have s2 : HT.sIx r.length r.length none = r.length := rfl
  rw [s1, s2, sIx_hi h0 (by omega), sIx_hi (by omega) (by omega), List.drop_zero, Nat.sub_zero]
  have hl := slen_codes r
  have e1 : (r.cps.toList.drop (x + 1).toNat).take (r.length - (x + 1).toNat) = r.cps.toList.drop (x + 1).toNat := List.take_of_length_le (by rw [List.length_drop]; omega)
  rw [e1, List.set_eq_take_append_cons_drop, if_pos (by omega)]
  have e2 : (x + 1).toNat = x.toNat + 1 := by omega
  have e3 : (one c).cps.toList = [c] := rfl
  rw [e2, e3, List.append_assoc]
  rfl
theorem putS_len {r : Str} {x : Int} {c : Nat} (h0 : 0 ≤ x) (h1 : x < (r.length : Nat)) : (putS r x (one c)).length = r.length := by
  rw [← slen_codes, putS_codes h0 h1, List.length_set, slen_codes]
def putR (rows : List Str) (x y : Int) (s : Str) : List Str := match rows[y.toNat]? with
  | some r => rows.set y.toNat (putS r x s)
  | none => rows
theorem putR_is {rows : List Str} {x y : Int} {s r : Str} (h0 : 0 ≤ y) (hr : rows[y.toNat]? = some r) : cutR rows none (some y) ++ [putS r x s] ++ cutR rows (some (y + 1)) none = putR rows x y s := by
  unfold putR cutR
  rw [hr]
  have hy : y.toNat < rows.length := (List.getElem?_eq_some_iff.mp hr).1
  have s1 : HT.sIx rows.length 0 none = 0 := rfl
  have s2 : HT.sIx rows.length rows.length none = rows.length := rfl
  rw [s1, s2, sIx_hi h0 (by omega), sIx_hi (by omega) (by omega), List.drop_zero, Nat.sub_zero]
  have e1 : (rows.drop (y + 1).toNat).take (rows.length - (y + 1).toNat) = rows.drop (y + 1).toNat := List.take_of_length_le (by rw [List.length_drop]; omega)
  show _ = rows.set y.toNat (putS r x s)
  rw [e1, List.set_eq_take_append_cons_drop, if_pos hy]
  have e2 : (y + 1).toNat = y.toNat + 1 := by omega
  rw [e2, List.append_assoc]
  rfl
theorem putR_len (rows : List Str) (x y : Int) (s : Str) : (putR rows x y s).length = rows.length := by
  unfold putR
  split
  · rw [List.length_set]
  · rfl
theorem wid_head {rows : List Str} {r : Str} (h : rows[0]? = some r) : wid rows = (r.length : Nat) := by
  cases rows with
  | nil => cases h
  | cons a l => cases h; rfl
theorem Grid.wput {rows : List Str} (g : Grid rows) {x y : Int} (h : inP rows x y = true) (c : Nat) : wid (putR rows x y (one c)) = wid rows := by
  obtain ⟨r, k, e1, e2, hr, hc, e3⟩ := g.get h
  have h' := of_decide_eq_true (show decide ((0 ≤ x ∧ x < wid rows) ∧ (0 ≤ y ∧ y < (rows.length : Nat))) = true from h)
  have hl := (g.row r hr).1
  unfold putR
  rw [e1]
  obtain ⟨r0, e0, hw⟩ := g.head
  show wid (rows.set y.toNat (putS r x (one c))) = _
  by_cases hy : y.toNat = 0
  · have : (rows.set y.toNat (putS r x (one c)))[0]? = some (putS r x (one c)) := by
      rw [hy, List.getElem?_set_self (by have := (List.getElem?_eq_some_iff.mp e0).1; omega)]
    rw [wid_head this, putS_len h'.1.1 (by omega)]
    omega
  · have : (rows.set y.toNat (putS r x (one c)))[0]? = some r0 := by rw [List.getElem?_set_ne hy]; exact e0
    rw [wid_head this]; omega
theorem Grid.put {rows : List Str} (g : Grid rows) {x y : Int} (h : inP rows x y = true) {c : Nat} (hs : signB (one c) = true) : Grid (putR rows x y (one c)) := by
  have hw := g.wput h c
  obtain ⟨r, k, e1, e2, hr, hc, e3⟩ := g.get h
  have h' := of_decide_eq_true (show decide ((0 ≤ x ∧ x < wid rows) ∧ (0 ≤ y ∧ y < (rows.length : Nat))) = true from h)
  have hl := (g.row r hr).1
  refine ⟨fun e => ?_, by rw [putR_len]; exact g.le, by rw [hw]; exact g.w1, by rw [hw]; exact g.w8, fun s hs2 => ?_⟩
  · have := putR_len rows x y (one c)
    rw [e] at this
    exact g.ne (List.length_eq_zero_iff.mp this.symm)
  · rw [hw]
    unfold putR at hs2
    rw [e1] at hs2
    rcases List.mem_or_eq_of_mem_set hs2 with h9 | rfl
    · exact g.row s h9
    · refine ⟨by rw [putS_len h'.1.1 (by omega)]; exact hl, fun d hd => ?_⟩
      rw [putS_codes h'.1.1 (by omega)] at hd
      rcases List.mem_or_eq_of_mem_set hd with h9 | rfl
      · exact (g.row r hr).2 d h9
      · exact hs
/-! ### the difference -/
def diffC (rows rows' : List Str) : List Cell := (allC (wid rows).toNat rows.length).filter fun c => !decide (codeAt rows c = codeAt rows' c)
theorem lc_allC (w h : Nat) (P : Cell → Bool) : ((List.range h).flatMap fun (y : Nat) => ((List.range w).filter fun (x : Nat) => P (((x : Nat) : Int), ((y : Nat) : Int))).map fun (x : Nat) => D.tup [.int (0 + (x : Nat)), .int (0 + (y : Nat))]) = ((allC w h).filter P).map pr := by
  unfold allC
  rw [List.filter_flatMap, List.map_flatMap]
  congr 1
  funext y
  rw [List.filter_map, List.map_map]
  congr 1
  funext x
  show D.tup [.int (0 + (x : Nat)), .int (0 + (y : Nat))] = pr (((x : Nat) : Int), ((y : Nat) : Int))
  rw [Int.zero_add, Int.zero_add]
  rfl
theorem diff_len (rows rows' : List Str) (g : Grid rows) : (diffC rows rows').length ≤ 64 := by
  unfold diffC
  refine Nat.le_trans (List.length_filter_le ..) ?_
  rw [allC_len]
  have this8 := g.le
  have := g.w8
  exact (Nat.mul_le_mul this8 (by omega : (wid rows).toNat ≤ 8) : rows.length * (wid rows).toNat ≤ 8 * 8)
theorem Grid.at {rows : List Str} (g : Grid rows) {x y : Nat} (hx : x < (wid rows).toNat) (hy : y < rows.length) : ∃ r, rows[y]? = some r ∧ r.cps.toList[x]? = some (codeAt rows (((x : Nat) : Int), ((y : Nat) : Int))) := by
  obtain ⟨r, k, e1, e2, _, _, e3⟩ := g.get (x := (x : Nat)) (y := (y : Nat)) (decide_eq_true ⟨⟨by omega, by omega⟩, by omega, by omega⟩)
  refine ⟨r, e1, ?_⟩
  have e : codeAt rows (((x : Nat) : Int), ((y : Nat) : Int)) = k := by unfold codeAt; rw [e1]; show (r.cps.toList[((x : Nat) : Int).toNat]?).getD 0 = k; rw [e2]; rfl
  rw [e]; exact e2
theorem one_eq (a b : Nat) : decide (one a = one b) = decide (a = b) := by
  refine decide_eq_decide.mpr ⟨fun h => ?_, fun h => by rw [h]⟩
  have e3 := congrArg (fun s : Str => s.cps.toList) h
  have e4 : [a] = [b] := e3
  simpa using e4
def t_Picture_sub : DTS := (dSeq (dIf (dNot (dTru (dUn (isiD ti_Picture) (dVar 1)))) dDead dNext) (dSeq (dIf (dOr (dTestB (dOp oNe (dFld [(1, 1)] (dVar 0)) (dFld [(1, 1)] (dVar 1)))) (dTestB (dOp oNe (dFld [(1, 2)] (dVar 0)) (dFld [(1, 2)] (dVar 1))))) (dRaise0 48) dNext) (dRet (dMake mkF 0 r_Region_init [] (dCons (dLc2 (dRng1 (dCons (dFld [(1, 2)] (dVar 0)) dNil)) (.nm 2) dYes (dRng1 (dCons (dFld [(1, 1)] (dVar 0)) dNil)) (.nm 3) (dTestB (dOp oNe (dOp oIx (dOp oIx (dFld [(1, 0)] (dVar 0)) (dVar 2)) (dVar 3)) (dOp oIx (dOp oIx (dFld [(1, 0)] (dVar 1)) (dVar 2)) (dVar 3)))) (dTup (dCons (dVar 3) (dCons (dVar 2) dNil))) [2, 3] [3]) dNil)))))
abbrev N_Picture_sub : List Str := ["self", "other", "y", "x"]
@[irreducible] def r_Picture_sub : DSp := fun ds S Q X => ∃ rows rows', ds = [pic rows, pic rows'] ∧ Grid rows ∧ Grid rows' ∧ (if wid rows = wid rows' ∧ rows.length = rows'.length then Q (rg (diffC rows rows')) S else X ⟨48, []⟩ S)
theorem len_Picture_sub : Ln 2 r_Picture_sub := fun ds S Q E h => by unfold r_Picture_sub at h; obtain ⟨a, b, rfl, _⟩ := h; rfl
theorem rd_Picture_sub : Rd t_Picture_sub N_Picture_sub r_Picture_sub := by
  intro ds S QD XD h
  unfold r_Picture_sub at h
  obtain ⟨rows, rows', rfl, g, g', q⟩ := h
  rw [pic_is, pic_is]
  have g8 := g.w8
  have g1 := g.w1
  have gl := g.le
  row_hasAll w_d
  rw [eqB_int]
  by_cases h1 : wid rows = wid rows'
  · by_cases h2 : rows.length = rows'.length
    · rw [if_pos ⟨h1, h2⟩] at q
      rw [decide_eq_true h1]
      row_hasAll w_d
      rw [eqB_int, decide_eq_true (by omega : ((rows.length : Nat) : Int) = ((rows'.length : Nat) : Int))]
      row_hasAll w_d
      refine lk2_of (xs := List.range ((rows.length : Int) - 0).toNat) (g := fun y : Nat => D.int (0 + (y : Nat))) (gi := fun x : Nat => D.int (0 + (x : Nat))) (ys := fun _ => List.range (wid rows - 0).toNat) (p := fun y x => !decide (codeAt rows (((x : Nat) : Int), ((y : Nat) : Int)) = codeAt rows' (((x : Nat) : Int), ((y : Nat) : Int)))) (f := fun y x => D.tup [.int (0 + (x : Nat)), .int (0 + (y : Nat))]) (by rw [List.length_range]; omega) (fun y hy => ⟨_, rfl, fun Q' h => ?_, ?_, fun x hx => ⟨_, rfl, fun Q' h => ?_, fun _ Q' h => ?_⟩⟩) ?_
      · row_hasAll w_d
        exact h
      · rw [List.length_range]; omega
      · have hy' := List.mem_range.mp hy
        have hx' := List.mem_range.mp hx
        obtain ⟨r, e1, e2⟩ := g.at (x := x) (y := y) (by omega) (by omega)
        obtain ⟨r', e1', e2'⟩ := g'.at (x := x) (y := y) (by omega) (by omega)
        row_hasAll w_d
        refine ik_at (i := 0 + ((y : Nat) : Int)) (by omega) (v := D.str r) (by rw [List.getElem?_map, Int.zero_add, Int.toNat_natCast, e1]; rfl) ?_
        row_hasAll w_d
        refine ik_at (i := 0 + ((x : Nat) : Int)) (by omega) (by rw [Int.zero_add, Int.toNat_natCast]; exact e2) ?_
        row_hasAll w_d
        refine ik_at (i := 0 + ((y : Nat) : Int)) (by omega) (v := D.str r') (by rw [List.getElem?_map, Int.zero_add, Int.toNat_natCast, e1']; rfl) ?_
        row_hasAll w_d
        refine ik_at (i := 0 + ((x : Nat) : Int)) (by omega) (by rw [Int.zero_add, Int.toNat_natCast]; exact e2') ?_
        row_hasAll w_d
        rw [eqB_str, one_eq]
        exact h
      · row_hasAll w_d
        exact h
      · row_hasAll w_d
        have e := lc_allC (wid rows).toNat rows.length fun c => !decide (codeAt rows c = codeAt rows' c)
        have e' : ((List.range ((rows.length : Int) - 0).toNat).flatMap fun (y : Nat) => ((List.range (wid rows - 0).toNat).filter fun (x : Nat) => !decide (codeAt rows (((x : Nat) : Int), ((y : Nat) : Int)) = codeAt rows' (((x : Nat) : Int), ((y : Nat) : Int)))).map fun (x : Nat) => D.tup [.int (0 + (x : Nat)), .int (0 + (y : Nat))]) = (diffC rows rows').map pr := by
          have z1 : ((rows.length : Int) - 0).toNat = rows.length := by omega
          rw [Int.sub_zero (wid rows), z1]
          exact e
        rw [e']
        exact mk_region (by have := diff_len rows rows' g; omega) q
    · rw [if_neg (fun z => h2 z.2)] at q
      rw [decide_eq_true h1]
      row_hasAll w_d
      rw [eqB_int, decide_eq_false (by omega : ¬ ((rows.length : Nat) : Int) = ((rows'.length : Nat) : Int))]
      row_hasAll w_d
      exact q
  · rw [if_neg (fun z => h1 z.1)] at q
    rw [decide_eq_false h1]
    row_hasAll w_d
    exact q
theorem i_subP {rows rows' : List Str} {S : Sto} {Q : DQ} {X : XQ} (g : Grid rows) (g' : Grid rows') (h : if wid rows = wid rows' ∧ rows.length = rows'.length then Q (rg (diffC rows rows')) S else X ⟨48, []⟩ S) : r_Picture_sub [pic rows, pic rows'] S Q X := by unfold r_Picture_sub; exact ⟨rows, rows', rfl, g, g', h⟩
theorem i_opP {rows rows' : List Str} {S : Sto} {Q : DQ} {X : XQ} (g : Grid rows) (g' : Grid rows') (h : if wid rows = wid rows' ∧ rows.length = rows'.length then Q (rg (diffC rows rows')) S else X ⟨48, []⟩ S) : opX 1 r_Picture_sub (pic rows) (pic rows') S Q X := by
  unfold opX
  exact vk_ins ⟨rfl, vk_ins ⟨rfl, i_subP g g' h⟩⟩
/-! ### with_sign, plain -/
theorem sign_one {s : Str} (h : signB s = true) : ∃ c, s = one c := by
  unfold signB at h
  split at h
  · rename_i c hc
    exact ⟨c, str_ext (by rw [hc]; rfl)⟩
  · cases h
def t_Picture_with_sign : DTS := (dSeq (dIf (dNot (dTru (dMeth 1 r_Picture_contains [] (dVar 0) (dCons (dVar 1) (dCons (dVar 2) dNil))))) (dRaise 30 (dCons (dVar 1) (dCons (dVar 2) dNil))) dNext) (dSeq (dIf (dNot (dTru (dCall r_p_is_sign [] (dCons (dVar 3) dNil)))) (dRaise 26 (dCons (dVar 3) dNil)) dNext) (dSeq (dSet 4 (dCB (on1 listDO) (dCons (dFld [(1, 0)] (dVar 0)) dNil))) (dSeq (dSetL (dVar 4) (dVar 2) (dOp oAdd (dOp oAdd (dSl oSl (dOp oIx (dVar 4) (dVar 2)) dNoPart (dPart (dVar 1))) (dVar 3)) (dSl oSl (dOp oIx (dVar 4) (dVar 2)) (dPart (dOp oAdd (dVar 1) (dC (.int 1)))) dNoPart))) (dRet (dMake mkF 1 r_Picture_init [] (dCons (dVar 4) dNil)))))))
abbrev N_Picture_with_sign : List Str := ["self", "x", "y", "sign", "rows"]
@[irreducible] def r_Picture_with_sign : DSp := fun ds S Q X => ∃ rows x y s, ds = [pic rows, .int x, .int y, .str s] ∧ Grid rows ∧ (if inP rows x y = true then (if signB s = true then ∀ p o, S p = none → Q (pic (putR rows x y s)) (su S p o) else X ⟨26, [.str s]⟩ S) else X ⟨30, [.int x, .int y]⟩ S)
theorem len_Picture_with_sign : Ln 4 r_Picture_with_sign := fun ds S Q E h => by unfold r_Picture_with_sign at h; obtain ⟨a, b, c, d, rfl, _⟩ := h; rfl
theorem rd_Picture_with_sign : Rd t_Picture_with_sign N_Picture_with_sign r_Picture_with_sign := by
  intro ds S QD XD h
  unfold r_Picture_with_sign at h
  obtain ⟨rows, x, y, s, rfl, g, q⟩ := h
  row_hasAll w_d
  refine i_contains ?_
  cases h1 : inP rows x y with
  | false =>
    rw [h1, if_neg (by simp)] at q
    row_hasAll w_d
    exact q
  | true =>
    rw [h1, if_pos rfl] at q
    row_hasAll w_d
    refine i_sign ?_
    cases h2 : signB s with
    | false =>
      rw [h2, if_neg (by simp)] at q
      row_hasAll w_d
      exact q
    | true =>
      rw [h2, if_pos rfl] at q
      obtain ⟨c, rfl⟩ := sign_one h2
      obtain ⟨r, k, e1, e2, hr, hc, e3⟩ := g.get h1
      have h' := of_decide_eq_true (show decide ((0 ≤ x ∧ x < wid rows) ∧ (0 ≤ y ∧ y < (rows.length : Nat))) = true from h1)
      have g8 := g.w8
      have hl := (g.row r hr).1
      have er : (rows.map D.str)[y.toNat]? = some (D.str r) := by rw [List.getElem?_map, e1]; rfl
      have hx : ixN (rows.map D.str).length y = some y.toNat := by
        unfold ixN
        rw [if_pos h'.2.1, if_pos (by rw [List.length_map]; omega)]
      row_hasAll w_d
      intro p hp
      have c1 := cut_mem (z := r) (lo := none) (hi := some x)
      have c2 := cut_mem (z := r) (lo := some (x + 1)) (hi := none)
      have l1 : (one c).length = 1 := rfl
      have l2 := slen_app (cutS r none (some x)) (one c)
      have hz := sizeLine_eq
      row_hasAll w_d
      refine ik_at h'.2.1 er ?_
      row_hasAll w_d
      refine ik_at h'.2.1 er ?_
      row_hasAll w_d
      rw [hx]
      row_hasAll w_d
      have em : ((rows.map D.str).set y.toNat (D.str (cutS r none (some x) ++ one c ++ cutS r (some (x + 1)) none))) = (putR rows x y (one c)).map D.str := by
        unfold putR
        rw [e1]
        show _ = (rows.set y.toNat (putS r x (one c))).map D.str
        rw [List.map_set]
        rfl
      rw [em]
      refine mk_picG (rows := putR rows x y (one c)) (.inr ⟨_, rfl, su_same⟩) (g.put h1 h2) ?_
      exact q _ _ hp
theorem i_with {rows : List Str} {x y : Int} {s : Str} {S : Sto} {Q : DQ} {X : XQ} (g : Grid rows) (h : if inP rows x y = true then (if signB s = true then ∀ p o, S p = none → Q (pic (putR rows x y s)) (su S p o) else X ⟨26, [.str s]⟩ S) else X ⟨30, [.int x, .int y]⟩ S) : r_Picture_with_sign [pic rows, .int x, .int y, .str s] S Q X := by unfold r_Picture_with_sign; exact ⟨rows, x, y, s, rfl, g, h⟩
theorem plain_grid {w h : Int} {c : Nat} (hs : signB (one c) = true) (w1 : 1 ≤ w) (w8 : w ≤ 8) (h1 : 1 ≤ h) (h8 : h ≤ 8) : Grid (List.replicate h.toNat (repS (one c) w.toNat)) := by
  have hl : ((repS (one c) w.toNat).length : Int) = w := by
    have : (one c).length = 1 := rfl
    rw [repS_len, this]; omega
  have hw : wid (List.replicate h.toNat (repS (one c) w.toNat)) = w := by
    obtain ⟨n, e⟩ : ∃ n, h.toNat = n + 1 := ⟨h.toNat - 1, by omega⟩
    rw [e, List.replicate_succ]
    exact hl
  refine ⟨fun e => ?_, by rw [List.length_replicate]; omega, by omega, by omega, fun r hr => ?_⟩
  · have := congrArg List.length e
    rw [List.length_replicate, List.length_nil] at this
    omega
  · rw [hw, List.eq_of_mem_replicate hr]
    refine ⟨hl, fun d hd => ?_⟩
    rw [repS_codes] at hd
    obtain ⟨l2, h1, h2⟩ := List.mem_flatten.mp hd
    rw [List.eq_of_mem_replicate h1] at h2
    have : d = c := by simpa [one] using h2
    rw [this]; exact hs
theorem rep_range {α : Type} (n : Nat) (f : α) : (List.range n).map (fun _ => f) = List.replicate n f := by
  apply List.ext_getElem? ; intro i
  rw [List.getElem?_map, List.getElem?_replicate]
  rcases Nat.lt_or_ge i n with h | h
  · rw [List.getElem?_range h, if_pos h]; rfl
  · rw [List.getElem?_eq_none (by simpa using h), if_neg (by omega)]; rfl
def t_Picture_plain : DTS := (dSeq (dIf (dNot (dTru (dCall r_p_is_sign [] (dCons (dVar 3) dNil)))) (dRaise 26 (dCons (dVar 3) dNil)) dNext) (dRet (dMakeL 0 mkF 1 r_Picture_init (dCons (dLc (dRng1 (dCons (dVar 2) dNil)) (.nm 4) dYes (dOp oMulS (dVar 3) (dVar 1)) [4]) dNil))))
abbrev N_Picture_plain : List Str := ["cls", "width", "height", "sign", "row"]
@[irreducible] def r_Picture_plain : DSp := fun ds S Q X => ∃ w h s, ds = [.cls 1, .int w, .int h, .str s] ∧ 1 ≤ w ∧ w ≤ 8 ∧ 1 ≤ h ∧ h ≤ 8 ∧ (if signB s = true then Q (pic (List.replicate h.toNat (repS s w.toNat))) S else X ⟨26, [.str s]⟩ S)
theorem len_Picture_plain : Ln 4 r_Picture_plain := fun ds S Q E h => by unfold r_Picture_plain at h; obtain ⟨a, b, c, rfl, _⟩ := h; rfl
theorem rd_Picture_plain : Rd t_Picture_plain N_Picture_plain r_Picture_plain := by
  intro ds S QD XD h
  unfold r_Picture_plain at h
  obtain ⟨w, h, s, rfl, w1, w8, h1, h8, q⟩ := h
  row_hasAll w_d
  refine i_sign ?_
  cases h2 : signB s with
  | false =>
    rw [h2, if_neg (by simp)] at q
    row_hasAll w_d
    exact q
  | true =>
    rw [h2, if_pos rfl] at q
    obtain ⟨c, rfl⟩ := sign_one h2
    have l1 : (one c).length = 1 := rfl
    have hz := sizeLine_eq
    row_hasAll w_d
    refine lk_map (xs := List.range (h - 0).toNat) (g := fun y : Nat => D.int (0 + (y : Nat))) (f := fun _ => D.str (repS (one c) w.toNat)) (fun y hy => ⟨_, rfl, fun Q' hh => ?_⟩) ?_
    · row_hasAll w_d
      exact hh
    · row_hasAll w_d
      have e : (List.range (h - 0).toNat).map (fun _ : Nat => D.str (repS (one c) w.toNat)) = (List.replicate h.toNat (repS (one c) w.toNat)).map D.str := by
        rw [rep_range, List.map_replicate, Int.sub_zero]
      rw [e]
      exact mk_picG (.inl rfl) (plain_grid h2 w1 w8 h1 h8) q
theorem i_plain {w h : Int} {s : Str} {S : Sto} {Q : DQ} {X : XQ} (w1 : 1 ≤ w) (w8 : w ≤ 8) (h1 : 1 ≤ h) (h8 : h ≤ 8) (q : if signB s = true then Q (pic (List.replicate h.toNat (repS s w.toNat))) S else X ⟨26, [.str s]⟩ S) : r_Picture_plain [.cls 1, .int w, .int h, .str s] S Q X := by unfold r_Picture_plain; exact ⟨w, h, s, rfl, w1, w8, h1, h8, q⟩
def t_l_put_k07 : DTS := (dSeq (dSet 4 (dOp oIx (dVar 0) (dVar 2))) (dSeq (dSet 5 (dOp oAdd (dOp oAdd (dSl oSl (dVar 4) dNoPart (dPart (dVar 1))) (dVar 3)) (dSl oSl (dVar 4) (dPart (dOp oAdd (dVar 1) (dC (.int 1)))) dNoPart))) (dRet (dOp oAdd (dOp oAdd (dSl oSl (dVar 0) dNoPart (dPart (dVar 2))) (dLst (dCons (dVar 5) dNil))) (dSl oSl (dVar 0) (dPart (dOp oAdd (dVar 2) (dC (.int 1)))) dNoPart)))))
abbrev N_l_put_k07 : List Str := ["_law_rows", "_law_cx", "_law_cy", "_law_sign", "_law_row_here", "_law_changed"]
@[irreducible] def r_l_put_k07 : DSp := fun ds S Q _ => ∃ rows x y c, ds = [.lst (rows.map D.str), .int x, .int y, .str (one c)] ∧ Grid rows ∧ inP rows x y = true ∧ Q (.lst ((putR rows x y (one c)).map D.str)) S
theorem len_l_put_k07 : Ln 4 r_l_put_k07 := fun ds S Q E h => by unfold r_l_put_k07 at h; obtain ⟨a, b, c, d, rfl, _⟩ := h; rfl
theorem rd_l_put_k07 : Rd t_l_put_k07 N_l_put_k07 r_l_put_k07 := by
  intro ds S QD XD h
  unfold r_l_put_k07 at h
  obtain ⟨rows, x, y, c, rfl, g, h1, q⟩ := h
  obtain ⟨r, k, e1, e2, hr, hc, e3⟩ := g.get h1
  have h' := of_decide_eq_true (show decide ((0 ≤ x ∧ x < wid rows) ∧ (0 ≤ y ∧ y < (rows.length : Nat))) = true from h1)
  have g8 := g.w8
  have gl := g.le
  have hl := (g.row r hr).1
  have er : (rows.map D.str)[y.toNat]? = some (D.str r) := by rw [List.getElem?_map, e1]; rfl
  have c1 := cut_mem (z := r) (lo := none) (hi := some x)
  have c2 := cut_mem (z := r) (lo := some (x + 1)) (hi := none)
  have d1 := cut_len (rows.map D.str) none (some y)
  have d2 := cut_len (rows.map D.str) (some (y + 1)) none
  rw [List.length_map] at d1 d2
  have l1 : (one c).length = 1 := rfl
  have l2 := slen_app (cutS r none (some x)) (one c)
  have hz := sizeLine_eq
  row_hasAll w_d
  refine ik_at h'.2.1 er ?_
  row_hasAll w_d
  refine ⟨by show _ + 1 ≤ _; omega, ?_⟩
  row_hasAll w_d
  refine ⟨by rw [List.length_append]; show _ + 1 + _ ≤ _; omega, ?_⟩
  rw [← putR_is h'.2.1 e1, List.map_append, List.map_append, ← cutD_map, ← cutD_map] at q
  exact q
theorem i_put7 {rows : List Str} {x y : Int} {c : Nat} {S : Sto} {Q : DQ} {X : XQ} (g : Grid rows) (h1 : inP rows x y = true) (q : Q (.lst ((putR rows x y (one c)).map D.str)) S) : r_l_put_k07 [.lst (rows.map D.str), .int x, .int y, .str (one c)] S Q X := by unfold r_l_put_k07; exact ⟨rows, x, y, c, rfl, g, h1, q⟩
end SM

set_option Elab.async false
set_option linter.all false
set_option maxRecDepth 100000
set_option maxHeartbeats 4000000
--#ONETAC

namespace SM
open PySem PySem.Spec PyProof.Rows L2
/-! ### the signs of a condition -/
def cdF : List Nat → List Nat → Bool
  | _, [] => true
  | pre, c :: r => !decide (c ∈ pre) && ((decide (c = 35) || letB c) && cdF (pre ++ [c]) r)
def condB (s : Str) : Bool := cdF [] s.cps.toList && decide (0 < s.length)
theorem one_hash (c : Nat) : decide (one c = "#") = decide (c = 35) := by
  refine decide_eq_decide.mpr ⟨fun h => ?_, fun h => by rw [h]; rfl⟩
  have : (one c).cps.toList = [35] := by rw [h]; rfl
  simpa [one] using this
theorem stone_one (c : Nat) : stoneB (one c) = letB c := rfl
theorem cut_take {s : Str} {i : Nat} (h : i ≤ s.length) : (cutS s none (some (i : Nat))).cps.toList = s.cps.toList.take i := by
  rw [cutS_codes]
  have s1 : HT.sIx s.length 0 none = 0 := rfl
  rw [s1, sIx_hi (by omega) (by omega), List.drop_zero, Nat.sub_zero, Int.toNat_natCast]
def t_p_are_condition_signs : DTS := (dSeq (dFor (dEnumS (dCons (dVar 0) dNil)) (.tp [(.nm 1), (.nm 2)]) (dIf (dOr (dTestB (dOp oIn (dVar 2) (dSl oSl (dVar 0) dNoPart (dPart (dVar 1))))) (dAnd (dTestB (dOp oNe (dVar 2) (dC (.str "#")))) (dNot (dTru (dCall r_p_is_stone [] (dCons (dVar 2) dNil)))))) (dRet (dC (.bl false))) dNext)) (dRet (dOp oGt (dCB (on1 lenD) (dCons (dVar 0) dNil)) (dC (.int 0)))))
abbrev N_p_are_condition_signs : List Str := ["signs", "at", "sign"]
@[irreducible] def r_p_are_condition_signs : DSp := fun ds S Q _ => ∃ s, ds = [.str s] ∧ Q (.bl (condB s)) S
theorem len_p_are_condition_signs : Ln 1 r_p_are_condition_signs := fun ds S Q E h => by unfold r_p_are_condition_signs at h; obtain ⟨a, rfl, _⟩ := h; rfl
theorem rd_p_are_condition_signs : Rd t_p_are_condition_signs N_p_are_condition_signs r_p_are_condition_signs := by
  intro ds S QD XD h
  unfold r_p_are_condition_signs at h
  obtain ⟨s, rfl, q⟩ := h
  row_hasAll w_d
  rw [enumS_map]
  refine loop_of (g := fun cx : Nat × Nat => .tup [.int (cx.2 : Nat), .str (one cx.1)]) (fun l δ S' => S' = S ∧ (∃ x y, δ = [some (.str s), x, y]) ∧ ∃ i, l = (s.cps.toList.drop i).zipIdx i ∧ i ≤ s.cps.toList.length ∧ cdF (s.cps.toList.take i) (s.cps.toList.drop i) = cdF [] s.cps.toList) ?_ ?_ ⟨rfl, ⟨_, _, rfl⟩, 0, rfl, Nat.zero_le _, rfl⟩
  · rintro ⟨c, j⟩ l δ S' ⟨rfl, ⟨x, y, rfl⟩, i, el, hi, ec⟩
    have hlt : i < s.cps.toList.length := by
      rcases Nat.lt_or_ge i s.cps.toList.length with h | h
      · exact h
      · rw [List.drop_eq_nil_of_le h] at el; cases el
    rw [List.drop_eq_getElem_cons hlt, List.zipIdx_cons] at el
    simp only [List.cons.injEq, Prod.mk.injEq] at el
    obtain ⟨⟨rfl, rfl⟩, rfl⟩ := el
    rw [List.drop_eq_getElem_cons hlt, cdF, List.take_append_getElem hlt] at ec
    refine ⟨_, rfl, fun N hN => ?_⟩
    row_hasAll w_d
    have hs := slen_codes s
    have ei : inS (one s.cps.toList[j]) (cutS s none (some (j : Nat))) = decide (s.cps.toList[j] ∈ s.cps.toList.take j) := by
      unfold inS
      have e1 : (one s.cps.toList[j]).cps.toList = [s.cps.toList[j]] := rfl
      rw [e1, cut_take (by omega)]
    rw [ei]
    have no : cdF [] s.cps.toList = false → QD (.bl false) S' := fun e => by unfold condB at q; rw [e, Bool.false_and] at q; exact q
    cases h1 : decide (s.cps.toList[j] ∈ s.cps.toList.take j) with
    | true =>
      rw [h1] at ec
      row_hasAll w_d
      exact no ec.symm
    | false =>
      rw [h1] at ec
      have e35 : eqB (D.str (one s.cps.toList[j])) (D.str (Str.ofString "#")) = decide (s.cps.toList[j] = 35) := (eqv_str _ _).trans (one_hash _)
      row_hasAll w_d
      rw [e35]
      cases h2 : decide (s.cps.toList[j] = 35) with
      | true =>
        rw [h2] at ec
        row_hasAll w_d
        exact hN _ _ ⟨rfl, ⟨_, _, rfl⟩, j + 1, rfl, hlt, ec⟩
      | false =>
        rw [h2] at ec
        row_hasAll w_d
        refine i_stone ?_
        rw [stone_one]
        cases h3 : letB s.cps.toList[j] with
        | true =>
          rw [h3] at ec
          row_hasAll w_d
          exact hN _ _ ⟨rfl, ⟨_, _, rfl⟩, j + 1, rfl, hlt, ec⟩
        | false =>
          rw [h3] at ec
          row_hasAll w_d
          exact no ec.symm
  · rintro δ S' ⟨rfl, ⟨x, y, rfl⟩, i, el, hi, ec⟩
    have hi2 : i = s.cps.toList.length := by
      rcases Nat.lt_or_ge i s.cps.toList.length with h | h
      · rw [List.drop_eq_getElem_cons h, List.zipIdx_cons] at el; cases el
      · omega
    rw [hi2, List.drop_eq_nil_of_le (Nat.le_refl _), cdF] at ec
    unfold condB at q
    rw [← ec, Bool.true_and] at q
    row_hasAll w_d
    have ez : decide ((0 : Int) < ((s.length : Nat) : Int)) = decide (0 < s.length) := decide_eq_decide.mpr ⟨fun h => by omega, fun h => by omega⟩
    rw [ez]
    exact q
theorem i_cond {s : Str} {S : Sto} {Q : DQ} {X : XQ} (q : Q (.bl (condB s)) S) : r_p_are_condition_signs [.str s] S Q X := by unfold r_p_are_condition_signs; exact ⟨s, rfl, q⟩
def offB (x y : Int) : Bool := decide (¬ (x = 0 ∧ y = 0) ∧ -3 ≤ x ∧ x ≤ 3 ∧ -3 ≤ y ∧ y ≤ 3)
def t_p_is_offset : DTS := (dSeq (dIf (dAnd (dTestB (dOp oEq (dVar 0) (dC (.int 0)))) (dTestB (dOp oEq (dVar 1) (dC (.int 0))))) (dRet (dC (.bl false))) dNext) (dRet (dAndV (dChain oLe oLe (dNeg (dC (.int 3))) (dVar 0) (dC (.int 3))) (dChain oLe oLe (dNeg (dC (.int 3))) (dVar 1) (dC (.int 3))))))
abbrev N_p_is_offset : List Str := ["dx", "dy"]
@[irreducible] def r_p_is_offset : DSp := fun ds S Q _ => ∃ x y, ds = [.int x, .int y] ∧ Q (.bl (offB x y)) S
theorem len_p_is_offset : Ln 2 r_p_is_offset := fun ds S Q E h => by unfold r_p_is_offset at h; obtain ⟨a, b, rfl, _⟩ := h; rfl
theorem off_tail {x y : Int} {S : Sto} {QD : DQ} {XD : XQ} (hz : ¬ (x = 0 ∧ y = 0)) (q : QD (.bl (offB x y)) S) : dAndV (dChain oLe oLe (dNeg (dC (.int 3))) (dVar 0) (dC (.int 3))) (dChain oLe oLe (dNeg (dC (.int 3))) (dVar 1) (dC (.int 3))) [some (.int x), some (.int y)] S QD (fun x S1 => XD x S1) := by
  have no : ¬ (¬ (x = 0 ∧ y = 0) ∧ -3 ≤ x ∧ x ≤ 3 ∧ -3 ≤ y ∧ y ≤ 3) → QD (.bl false) S := fun hn => by unfold offB at q; rw [decide_eq_false hn] at q; exact q
  row_hasAll w_d
  refine brP (fun h1 => ?_) (fun h1 => ?_)
  · row_hasAll w_d
    refine brP (fun h2 => ?_) (fun h2 => ?_)
    · row_hasAll w_d
      refine brP (fun h3 => ?_) (fun h3 => ?_)
      · row_hasAll w_d
        unfold offB at q
        have e : decide (¬ (x = 0 ∧ y = 0) ∧ -3 ≤ x ∧ x ≤ 3 ∧ -3 ≤ y ∧ y ≤ 3) = decide (y ≤ 3) := decide_eq_decide.mpr ⟨fun h => h.2.2.2.2, fun h => ⟨hz, h1, h2, h3, h⟩⟩
        rw [e] at q
        exact q
      · row_hasAll w_d
        exact no fun z => h3 z.2.2.2.1
    · row_hasAll w_d
      exact no fun z => h2 z.2.2.1
  · row_hasAll w_d
    exact no fun z => h1 z.2.1
theorem rd_p_is_offset : Rd t_p_is_offset N_p_is_offset r_p_is_offset := by
  intro ds S QD XD h
  unfold r_p_is_offset at h
  obtain ⟨x, y, rfl, q⟩ := h
  have no : ¬ (¬ (x = 0 ∧ y = 0) ∧ -3 ≤ x ∧ x ≤ 3 ∧ -3 ≤ y ∧ y ≤ 3) → QD (.bl false) S := fun hn => by unfold offB at q; rw [decide_eq_false hn] at q; exact q
  row_hasAll w_d
  rw [eqB_int]
  refine brP (fun h1 => ?_) (fun h1 => ?_)
  · row_hasAll w_d
    rw [eqB_int]
    refine brP (fun h2 => ?_) (fun h2 => ?_)
    · row_hasAll w_d
      exact no fun z => z.1 ⟨h1, h2⟩
    · exact off_tail (fun z => h2 z.2) q
  · refine brF ?_
    exact off_tail (fun z => h1 z.1) q
theorem i_offset {x y : Int} {S : Sto} {Q : DQ} {X : XQ} (q : Q (.bl (offB x y)) S) : r_p_is_offset [.int x, .int y] S Q X := by unfold r_p_is_offset; exact ⟨x, y, rfl, q⟩
/-! ### the parts of a rule -/
abbrev Part := Int × Int × Str
def prt (p : Part) : D := .tup [.int p.1, .int p.2.1, .str p.2.2]
def pk (p : Part) : Cell := (p.1, p.2.1)
def srtS (s : Str) : Str := Txt.join "" ((s.cps.toList.mergeSort (PySem.W.dataLe false fun c => PyData.str (one c))).map one)
def badPF : Nat → List Cell → List Part → Option Nat
  | _, _, [] => none
  | i, ks, p :: r => if 8 ≤ i ∨ offB p.1 p.2.1 = false ∨ pk p ∈ ks ∨ condB p.2.2 = false then some (i + 1) else badPF (i + 1) (ks ++ [pk p]) r
def badP (ps : List Part) : Option Nat := badPF 0 [] ps
def tabP (ps : List Part) : List (List Key × D) := ps.map fun p => (cKey (pk p), .str (srtS p.2.2))
def signsAt (ps : List Part) (c : Cell) : Str := ((ps.find? fun p => decide (pk p = c)).map (·.2.2)).getD ""
def sortP (ps : List Part) : List Part := (roSort (ps.map pk)).map fun c => (c.1, c.2, srtS (signsAt ps c))
theorem valD_tab : ∀ (ps : List Part) (c : Cell), valD (tabP ps) (cKey c) = (ps.find? fun p => decide (pk p = c)).map fun p => .str (srtS p.2.2)
  | [], c => rfl
  | p :: r, c => by
    have ih := valD_tab r c
    unfold valD tabP at ih ⊢
    rw [List.map_cons, List.find?_cons, List.find?_cons]
    by_cases h : pk p = c
    · have e1 : decide (cKey (pk p) = cKey c) = true := decide_eq_true (by rw [h])
      rw [e1, decide_eq_true h]
      rfl
    · have e1 : decide (cKey (pk p) = cKey c) = false := decide_eq_false fun z => h (cKey_inj z)
      rw [e1, decide_eq_false h]
      exact ih
theorem inB_tab (ps : List Part) (c : Cell) : (valD (tabP ps) (cKey c)).isSome = decide (c ∈ ps.map pk) := by
  rw [valD_tab, Option.isSome_map, Bool.eq_iff_iff, List.find?_isSome]
  simp only [decide_eq_true_eq, List.mem_map]
theorem putD_tab {ps : List Part} {p : Part} (h : pk p ∉ ps.map pk) : putD (tabP ps) (cKey (pk p)) (.str (srtS p.2.2)) = tabP (ps ++ [p]) := by
  have e : ¬ ((tabP ps).any fun q => decide (q.1 = cKey (pk p))) = true := by
    intro z
    rw [List.any_eq_true] at z
    obtain ⟨q, hq, e⟩ := z
    unfold tabP at hq
    obtain ⟨x, hx, rfl⟩ := List.mem_map.mp hq
    exact h (List.mem_map.mpr ⟨x, hx, cKey_inj (of_decide_eq_true e)⟩)
  unfold putD
  rw [if_neg e]
  simp [tabP]
theorem keysD_tab (ps : List Part) : keysD (tabP ps) = (ps.map pk).map pr := by
  unfold keysD tabP
  rw [List.map_map, List.map_map]
  rfl
theorem badPF_len : ∀ {ps : List Part} {i : Nat} {ks : List Cell}, badPF i ks ps = none → i ≤ 8 → i + ps.length ≤ 8
  | [], i, ks, _, h => by simpa using h
  | p :: r, i, ks, h, hi => by
    rw [badPF] at h
    split at h
    · cases h
    · rename_i hn
      have := badPF_len h (by omega)
      simp only [List.length_cons]
      omega
theorem badPF_nd : ∀ {ps : List Part} {i : Nat} {ks : List Cell}, badPF i ks ps = none → ks.Nodup → (ks ++ ps.map pk).Nodup
  | [], i, ks, _, h => by simpa using h
  | p :: r, i, ks, h, hk => by
    rw [badPF] at h
    split at h
    · cases h
    · rename_i hn
      have hp : pk p ∉ ks := fun z => hn (.inr (.inr (.inl z)))
      have := badPF_nd h (by rw [List.nodup_append]; exact ⟨hk, by simp, fun a ha b hb => by rw [List.mem_singleton.mp hb]; exact fun z => hp (z ▸ ha)⟩)
      simpa using this
theorem strsD_codes (l : List Nat) : strsD (l.map fun c => D.str (one c)) = some (l.map one) := strsD_map one l
def t_p_checked_parts : DTS := (dSeq (dSet 1 dDictO) (dSeq (dFor (dEnum (dCons (dVar 0) dNil)) (.tp [(.nm 2), (.tp [(.nm 3), (.nm 4), (.nm 5)])]) (dSeq (dIf (dOr (dTestB (dOp oGe (dVar 2) (dC (.int 8)))) (dOr (dNot (dTru (dCall r_p_is_offset [] (dCons (dVar 3) (dCons (dVar 4) dNil))))) (dOr (dTestB (dOp oIn (dTup (dCons (dVar 3) (dCons (dVar 4) dNil))) (dVar 1))) (dNot (dTru (dCall r_p_are_condition_signs [] (dCons (dVar 5) dNil))))))) (dRaise 22 (dCons (dOp oAdd (dVar 2) (dC (.int 1))) dNil)) dNext) (dSetK (dVar 1) (dTup (dCons (dVar 3) (dCons (dVar 4) dNil))) (dBM .str joinD (dC (.str "")) (dCons (dCB (on1 sortS) (dCons (dVar 5) dNil)) dNil))))) (dRet (dLc (dItems (dSortRo (dCB (on1 listKD) (dCons (dVar 1) dNil)))) (.tp [(.nm 3), (.nm 4)]) dYes (dTup (dCons (dVar 3) (dCons (dVar 4) (dCons (dOp oIx (dVar 1) (dTup (dCons (dVar 3) (dCons (dVar 4) dNil)))) dNil)))) [3, 4]))))
abbrev N_p_checked_parts : List Str := ["parts", "table", "at", "dx", "dy", "signs"]
@[irreducible] def r_p_checked_parts : DSp := fun ds S Q X => ∃ d ps, ds = [d] ∧ isL S d (ps.map prt) ∧ ps.length ≤ 1000 ∧ (∀ p ∈ ps, p.2.2.length ≤ 1000) ∧ ∀ z o, S z = none → match badP ps with
  | none => Q (.lst ((sortP ps).map prt)) (su S z o)
  | some n => X ⟨22, [.int (n : Nat)]⟩ (su S z o)
theorem len_p_checked_parts : Ln 1 r_p_checked_parts := fun ds S Q E h => by unfold r_p_checked_parts at h; obtain ⟨a, b, rfl, _⟩ := h; rfl
theorem rd_p_checked_parts : Rd t_p_checked_parts N_p_checked_parts r_p_checked_parts := by
  intro ds S QD XD h
  unfold r_p_checked_parts at h
  obtain ⟨d, ps, rfl, hL, hl, hs, q⟩ := h
  row_hasAll w_d
  intro z hz
  have hza : ∀ {a : Addr} {o : OO}, S a = some o → a ≠ z := fun ha e => by rw [e, hz] at ha; cases ha
  have q := fun o => q z o hz
  have gk : ∀ {gd : Gd}, (gd = none ∨ ∃ a, gd = some (a, ps.map prt) ∧ S a = some (.lst (ps.map prt))) → ∀ o, gok gd (su S z o) := fun {gd} h o => by
    rcases h with rfl | ⟨a, rfl, ha⟩
    · exact True.intro
    · show su S z o a = _
      rw [su_ne (hza ha)]; exact ha
  rcases hL with rfl | ⟨a, rfl, ha⟩
  · row_hasAll w_d
    have gg := gk (gd := none) (.inl rfl)
    rw [enumD_map]
    refine loop_ofG (gd := none) (g := fun x : Part × Nat => .tup [.int (x.2 : Nat), prt x.1]) (xs := ps.zipIdx) (fun l δ S' => ∃ dn r w x1 x2 x3 x4, ps = dn ++ r ∧ l = r.zipIdx dn.length ∧ δ = [w, some (.adr z), x1, x2, x3, x4] ∧ S' = su S z (.dT (tabP dn)) ∧ badPF dn.length (dn.map pk) r = badP ps ∧ dn.length ≤ 8) ?_ ?_ ?_ ?_
    · rintro l δ S' ⟨dn, r, w, x1, x2, x3, x4, _, _, _, rfl, _⟩
      exact gg _
    · rintro ⟨pt, k⟩ l δ S' ⟨dn, r, w, x1, x2, x3, x4, ep, el, rfl, rfl, hb, h8⟩
      cases r with
      | nil => cases el
      | cons p' r' =>
      rw [List.zipIdx_cons] at el
      simp only [List.cons.injEq, Prod.mk.injEq] at el
      obtain ⟨⟨rfl, rfl⟩, rfl⟩ := el
      refine ⟨_, rfl, fun N hN => ?_⟩
      rw [badPF] at hb
      have hps : pt ∈ ps := by rw [ep]; simp
      have no : (8 ≤ dn.length ∨ offB pt.1 pt.2.1 = false ∨ pk pt ∈ dn.map pk ∨ condB pt.2.2 = false) → XD ⟨22, [.int ((dn.length : Nat) + 1)]⟩ (su S z (.dT (tabP dn))) := fun hc => by
        rw [if_pos hc] at hb
        have := q (.dT (tabP dn))
        rw [← hb] at this
        exact this
      have hz3 := sizeLine_eq
      have hsg := hs pt hps
      row_hasAll w_d
      refine brP (fun c1 => ?_) (fun c1 => ?_)
      · row_hasAll w_d
        exact no (.inl (by omega))
      row_hasAll w_d
      refine i_offset ?_
      cases c2 : offB pt.1 pt.2.1 with
      | false =>
        row_hasAll w_d
        exact no (.inr (.inl c2))
      | true =>
      row_hasAll w_d
      rw [show (valD (tabP dn) [Sum.inl pt.fst, Sum.inl pt.snd.fst]).isSome = decide (pk pt ∈ dn.map pk) from inB_tab dn (pk pt)]
      refine brP (fun c3 => ?_) (fun c3 => ?_)
      · row_hasAll w_d
        exact no (.inr (.inr (.inl c3)))
      row_hasAll w_d
      refine i_cond ?_
      cases c4 : condB pt.2.2 with
      | false =>
        row_hasAll w_d
        exact no (.inr (.inr (.inr c4)))
      | true =>
      rw [if_neg (fun hc => by rcases hc with h | h | h | h; omega; rw [c2] at h; cases h; exact c3 h; rw [c4] at h; cases h)] at hb
      row_hasAll w_d
      rw [sorted_codes, strsD_codes]
      refine ⟨?_, ?_⟩
      · have e0 : (Str.ofString "").length = 0 := rfl
        rw [e0, List.map_map]
        have := sum_le (fun c : Nat => (one c).length) 1 (pt.2.2.cps.toList.mergeSort (PySem.W.dataLe false fun c => PyData.str (one c))) (fun _ _ => Nat.le_refl _)
        have hm : (pt.2.2.cps.toList.mergeSort (PySem.W.dataLe false fun c => PyData.str (one c))).length = pt.2.2.length := by rw [(List.mergeSort_perm ..).length_eq, slen_codes]
        rw [hm] at this
        simp only [Function.comp_def]
        omega
      row_hasAll w_d
      refine ⟨by show (tabP dn).length < _; unfold tabP; rw [List.length_map]; omega, ?_⟩
      rw [show putD (tabP dn) [Sum.inl pt.fst, Sum.inl pt.snd.fst] (D.str (Txt.join (Str.ofString "") (List.map one (pt.snd.snd.cps.toList.mergeSort (PySem.W.dataLe false fun c => PyData.str (one c)))))) = tabP (dn ++ [pt]) from putD_tab c3]
      exact hN _ _ ⟨dn ++ [pt], r', _, _, _, _, _, by rw [ep, List.append_assoc]; rfl, by rw [List.length_append]; rfl, rfl, rfl, by rw [List.length_append, List.map_append]; exact hb, by rw [List.length_append]; show dn.length + 1 ≤ 8; omega⟩
    · rintro δ S' ⟨dn, r, w, x1, x2, x3, x4, ep, el, rfl, rfl, hb, h8⟩
      have hr : r = [] := by cases r with | nil => rfl | cons a b => cases el
      subst hr
      rw [List.append_nil] at ep
      subst ep
      rw [badPF] at hb
      rw [← hb] at q
      have hnd : (ps.map pk).Nodup := by
        have := badPF_nd (show badPF 0 [] ps = none from hb.symm) List.nodup_nil
        simpa using this
      have hz3 := sizeLine_eq
      row_hasAll w_d
      refine ⟨fun e he => ?_, by unfold tabP; rw [List.length_map]; omega, ?_⟩
      · unfold tabP at he
        obtain ⟨y, _, rfl⟩ := List.mem_map.mp he
        exact ⟨fun t ht => by simp [cKey] at ht, by show 2 ≤ sizeLine; omega⟩
      rw [keysD_tab]
      row_hasAll w_d
      refine ⟨ps.map pk, rfl, ?_⟩
      refine lk_map (f := fun c => prt (c.1, c.2, srtS (signsAt ps c))) (fun c hc => ⟨_, rfl, fun Q' h => ?_⟩) ?_
      · have hm : c ∈ ps.map pk := mem_ro.mp hc
        obtain ⟨y, hy, rfl⟩ := List.mem_map.mp hm
        have hf : (ps.find? fun p => decide (pk p = pk y)).isSome = true := by rw [List.find?_isSome]; exact ⟨y, hy, decide_eq_true rfl⟩
        obtain ⟨y', hy'⟩ := Option.isSome_iff_exists.mp hf
        row_hasAll w_d
        rw [show valD (tabP ps) [Sum.inl (pk y).fst, Sum.inl (pk y).snd] = some (.str (srtS (signsAt ps (pk y)))) from (by
          have := valD_tab ps (pk y)
          unfold signsAt
          rw [hy'] at this ⊢
          exact this)]
        exact h
      · have e : (roSort (ps.map pk)).map (fun c => prt (c.1, c.2, srtS (signsAt ps c))) = (sortP ps).map prt := by
          unfold sortP
          rw [List.map_map]
          rfl
        row_hasAll w_d
        rw [e]
        exact q _
    · exact ⟨[], ps, _, _, _, _, _, rfl, rfl, rfl, rfl, rfl, by simp⟩
  · have haz := hza ha
    row_hasAll w_d
    have gg := gk (gd := some (a, ps.map prt)) (.inr ⟨a, rfl, ha⟩)
    rw [enumD_map]
    refine loop_ofG (gd := some (a, ps.map prt)) (g := fun x : Part × Nat => .tup [.int (x.2 : Nat), prt x.1]) (xs := ps.zipIdx) (fun l δ S' => ∃ dn r w x1 x2 x3 x4, ps = dn ++ r ∧ l = r.zipIdx dn.length ∧ δ = [w, some (.adr z), x1, x2, x3, x4] ∧ S' = su S z (.dT (tabP dn)) ∧ badPF dn.length (dn.map pk) r = badP ps ∧ dn.length ≤ 8) ?_ ?_ ?_ ?_
    · rintro l δ S' ⟨dn, r, w, x1, x2, x3, x4, _, _, _, rfl, _⟩
      exact gg _
    · rintro ⟨pt, k⟩ l δ S' ⟨dn, r, w, x1, x2, x3, x4, ep, el, rfl, rfl, hb, h8⟩
      cases r with
      | nil => cases el
      | cons p' r' =>
      rw [List.zipIdx_cons] at el
      simp only [List.cons.injEq, Prod.mk.injEq] at el
      obtain ⟨⟨rfl, rfl⟩, rfl⟩ := el
      refine ⟨_, rfl, fun N hN => ?_⟩
      rw [badPF] at hb
      have hps : pt ∈ ps := by rw [ep]; simp
      have no : (8 ≤ dn.length ∨ offB pt.1 pt.2.1 = false ∨ pk pt ∈ dn.map pk ∨ condB pt.2.2 = false) → XD ⟨22, [.int ((dn.length : Nat) + 1)]⟩ (su S z (.dT (tabP dn))) := fun hc => by
        rw [if_pos hc] at hb
        have := q (.dT (tabP dn))
        rw [← hb] at this
        exact this
      have hz3 := sizeLine_eq
      have hsg := hs pt hps
      row_hasAll w_d
      refine brP (fun c1 => ?_) (fun c1 => ?_)
      · row_hasAll w_d
        exact no (.inl (by omega))
      row_hasAll w_d
      refine i_offset ?_
      cases c2 : offB pt.1 pt.2.1 with
      | false =>
        row_hasAll w_d
        exact no (.inr (.inl c2))
      | true =>
      row_hasAll w_d
      rw [show (valD (tabP dn) [Sum.inl pt.fst, Sum.inl pt.snd.fst]).isSome = decide (pk pt ∈ dn.map pk) from inB_tab dn (pk pt)]
      refine brP (fun c3 => ?_) (fun c3 => ?_)
      · row_hasAll w_d
        exact no (.inr (.inr (.inl c3)))
      row_hasAll w_d
      refine i_cond ?_
      cases c4 : condB pt.2.2 with
      | false =>
        row_hasAll w_d
        exact no (.inr (.inr (.inr c4)))
      | true =>
      rw [if_neg (fun hc => by rcases hc with h | h | h | h; omega; rw [c2] at h; cases h; exact c3 h; rw [c4] at h; cases h)] at hb
      row_hasAll w_d
      rw [sorted_codes, strsD_codes]
      refine ⟨?_, ?_⟩
      · have e0 : (Str.ofString "").length = 0 := rfl
        rw [e0, List.map_map]
        have := sum_le (fun c : Nat => (one c).length) 1 (pt.2.2.cps.toList.mergeSort (PySem.W.dataLe false fun c => PyData.str (one c))) (fun _ _ => Nat.le_refl _)
        have hm : (pt.2.2.cps.toList.mergeSort (PySem.W.dataLe false fun c => PyData.str (one c))).length = pt.2.2.length := by rw [(List.mergeSort_perm ..).length_eq, slen_codes]
        rw [hm] at this
        simp only [Function.comp_def]
        omega
      row_hasAll w_d
      refine ⟨by show (tabP dn).length < _; unfold tabP; rw [List.length_map]; omega, ?_⟩
      rw [show putD (tabP dn) [Sum.inl pt.fst, Sum.inl pt.snd.fst] (D.str (Txt.join (Str.ofString "") (List.map one (pt.snd.snd.cps.toList.mergeSort (PySem.W.dataLe false fun c => PyData.str (one c)))))) = tabP (dn ++ [pt]) from putD_tab c3]
      exact hN _ _ ⟨dn ++ [pt], r', _, _, _, _, _, by rw [ep, List.append_assoc]; rfl, by rw [List.length_append]; rfl, rfl, rfl, by rw [List.length_append, List.map_append]; exact hb, by rw [List.length_append]; show dn.length + 1 ≤ 8; omega⟩
    · rintro δ S' ⟨dn, r, w, x1, x2, x3, x4, ep, el, rfl, rfl, hb, h8⟩
      have hr : r = [] := by cases r with | nil => rfl | cons a b => cases el
      subst hr
      rw [List.append_nil] at ep
      subst ep
      rw [badPF] at hb
      rw [← hb] at q
      have hnd : (ps.map pk).Nodup := by
        have := badPF_nd (show badPF 0 [] ps = none from hb.symm) List.nodup_nil
        simpa using this
      have hz3 := sizeLine_eq
      row_hasAll w_d
      refine ⟨fun e he => ?_, by unfold tabP; rw [List.length_map]; omega, ?_⟩
      · unfold tabP at he
        obtain ⟨y, _, rfl⟩ := List.mem_map.mp he
        exact ⟨fun t ht => by simp [cKey] at ht, by show 2 ≤ sizeLine; omega⟩
      rw [keysD_tab]
      row_hasAll w_d
      refine ⟨ps.map pk, rfl, ?_⟩
      refine lk_map (f := fun c => prt (c.1, c.2, srtS (signsAt ps c))) (fun c hc => ⟨_, rfl, fun Q' h => ?_⟩) ?_
      · have hm : c ∈ ps.map pk := mem_ro.mp hc
        obtain ⟨y, hy, rfl⟩ := List.mem_map.mp hm
        have hf : (ps.find? fun p => decide (pk p = pk y)).isSome = true := by rw [List.find?_isSome]; exact ⟨y, hy, decide_eq_true rfl⟩
        obtain ⟨y', hy'⟩ := Option.isSome_iff_exists.mp hf
        row_hasAll w_d
        rw [show valD (tabP ps) [Sum.inl (pk y).fst, Sum.inl (pk y).snd] = some (.str (srtS (signsAt ps (pk y)))) from (by
          have := valD_tab ps (pk y)
          unfold signsAt
          rw [hy'] at this ⊢
          exact this)]
        exact h
      · have e : (roSort (ps.map pk)).map (fun c => prt (c.1, c.2, srtS (signsAt ps c))) = (sortP ps).map prt := by
          unfold sortP
          rw [List.map_map]
          rfl
        row_hasAll w_d
        rw [e]
        exact q _
    · exact ⟨[], ps, _, _, _, _, _, rfl, rfl, rfl, rfl, rfl, by simp⟩
--#CALL refine i_cond ?_
--#CALL refine i_offset ?_
end SM

set_option Elab.async false
namespace SM
open PySem PySem.Spec PyProof.Rows L2
/-! ### a store that has grown -/
def Grow (S S' : Sto) : Prop := ∀ a o, S a = some o → S' a = some o
theorem Grow.refl (S : Sto) : Grow S S := fun _ _ h => h
theorem Grow.trans {S S' S2 : Sto} (h : Grow S S') (h2 : Grow S' S2) : Grow S S2 := fun a o e => h2 a o (h a o e)
theorem Grow.new {S : Sto} {p : Addr} {o : OO} (h : S p = none) : Grow S (su S p o) := fun a o' e => by
  rw [su_ne]
  · exact e
  · intro z; subst z; rw [h] at e; cases e
end SM

set_option Elab.async false
set_option linter.all false
set_option maxRecDepth 100000
set_option maxHeartbeats 4000000
--#ONETAC
local macro_rules | `(tactic| row_hasAll w_c) => `(tactic| first
  | refine i_cond ?_
  | refine i_offset ?_)
namespace SM
open PySem PySem.Spec PyProof.Rows L2
/-! ### a store that has grown, but at z -/
def GrowX (z : Addr) (S S' : Sto) : Prop := ∀ a o, a ≠ z → S a = some o → S' a = some o
def ruleOut (st : Str) (ps : List Part) : Option Nat := if stoneB st = false then some 0 else badP ps
theorem sortP_len (ps : List Part) : (sortP ps).length = ps.length := by unfold sortP; rw [List.length_map, roSort_len, List.length_map]
def t_Rule_init : DTS := (dSeq (dIf (dNot (dTru (dCall r_p_is_stone [] (dCons (dVar 1) dNil)))) (dRaise 22 (dCons (dC (.int 0)) dNil)) dNext) (dSeq (dSetF [(2, 0), (3, 0), (4, 0)] (dVar 0) (dVar 1)) (dSetF [(2, 1), (3, 1), (4, 1)] (dVar 0) (dCall r_p_checked_parts [] (dCons (dVar 2) dNil)))))
abbrev N_Rule_init : List Str := ["self", "stone", "conditions"]
@[irreducible] def r_Rule_init : DSp := fun ds S Q X => ∃ z c st d ps, ds = [.adr z, .str st, d] ∧ isL S d (ps.map prt) ∧ S z = some (.ins c []) ∧ (c = 2 ∨ c = 3 ∨ c = 4) ∧ ps.length ≤ 1000 ∧ (∀ p ∈ ps, p.2.2.length ≤ 1000) ∧ ∀ S', GrowX z S S' → match ruleOut st ps with
  | none => S' z = some (.ins c [.str st, .lst ((sortP ps).map prt)]) → Q .non S'
  | some n => X ⟨22, [.int (n : Nat)]⟩ S'
theorem len_Rule_init : Ln 3 r_Rule_init := fun ds S Q E h => by unfold r_Rule_init at h; obtain ⟨z, c, st, d, ps, rfl, _⟩ := h; rfl
theorem i_checked {d : D} {ps : List Part} {S : Sto} {Q : DQ} {X : XQ} (hL : isL S d (ps.map prt)) (hl : ps.length ≤ 1000) (hs : ∀ p ∈ ps, p.2.2.length ≤ 1000) (q : ∀ z o, S z = none → match badP ps with
  | none => Q (.lst ((sortP ps).map prt)) (su S z o)
  | some n => X ⟨22, [.int (n : Nat)]⟩ (su S z o)) : r_p_checked_parts [d] S Q X := by unfold r_p_checked_parts; exact ⟨d, ps, rfl, hL, hl, hs, q⟩
theorem rd_Rule_init : Rd t_Rule_init N_Rule_init r_Rule_init := by
  intro ds S QD XD h
  unfold r_Rule_init at h
  obtain ⟨z, c, st, d, ps, rfl, hL, hS, hc, hl, hs, q⟩ := h
  unfold ruleOut at q
  row_hasAll w_d
  refine i_stone ?_
  cases h1 : stoneB st with
  | false =>
    rw [h1, if_pos rfl] at q
    row_hasAll w_d
    exact q S fun a o _ e => e
  | true =>
    rw [h1, if_neg (by simp)] at q
    have hL2 : isL (su S z (.ins c [.str st])) d (ps.map prt) := by
      rcases hL with rfl | ⟨a, rfl, ha⟩
      · exact .inl rfl
      · refine .inr ⟨a, rfl, ?_⟩
        rw [su_ne (fun e => by rw [e, hS] at ha; cases ha)]
        exact ha
    have fin : ∀ y o, (su S z (.ins c [.str st])) y = none → match badP ps with
        | none => QD .non (su (su (su S z (.ins c [.str st])) y o) z (.ins c [.str st, .lst ((sortP ps).map prt)]))
        | some n => XD ⟨22, [.int (n : Nat)]⟩ (su (su S z (.ins c [.str st])) y o) := fun y o hy => by
      have hyz : y ≠ z := fun e => by rw [e, su_same] at hy; cases hy
      have g1 : GrowX z S (su (su S z (.ins c [.str st])) y o) := fun a u haz e => by
        rw [su_ne, su_ne haz]
        · exact e
        · intro e2; subst e2; rw [su_ne haz, e] at hy; cases hy
      cases hb : badP ps with
      | none =>
        have := q (su (su (su S z (.ins c [.str st])) y o) z (.ins c [.str st, .lst ((sortP ps).map prt)])) fun a u haz e => by rw [su_ne haz]; exact g1 a u haz e
        rw [hb] at this
        exact this su_same
      | some n =>
        have := q _ g1
        rw [hb] at this
        exact this
    rcases hc with rfl | rfl | rfl
    all_goals
      row_hasAll w_d
      refine i_checked hL2 hl hs fun y o hy => ?_
      have := fin y o hy
      have hyz : z ≠ y := fun e => by rw [← e, su_same] at hy; cases hy
      cases hb : badP ps with
      | none =>
        rw [hb] at this
        row_hasAll w_d
        exact this
      | some n =>
        rw [hb] at this
        exact this
theorem GrowX.refl {z : Addr} {S : Sto} : GrowX z S S := fun _ _ _ e => e
theorem GrowX.su {z : Addr} {S S' : Sto} {o : OO} (h : GrowX z S S') : GrowX z S (su S' z o) := fun a u haz e => by rw [su_ne haz]; exact h a u haz e
theorem i_ruleInit {z : Addr} {c : Nat} {st : Str} {d : D} {ps : List Part} {S : Sto} {Q : DQ} {X : XQ} (hL : isL S d (ps.map prt)) (hS : S z = some (.ins c [])) (hc : c = 2 ∨ c = 3 ∨ c = 4) (hl : ps.length ≤ 1000) (hs : ∀ p ∈ ps, p.2.2.length ≤ 1000) (q : ∀ S', GrowX z S S' → match ruleOut st ps with
  | none => S' z = some (.ins c [.str st, .lst ((sortP ps).map prt)]) → Q .non S'
  | some n => X ⟨22, [.int (n : Nat)]⟩ S') : r_Rule_init [.adr z, .str st, d] S Q X := by unfold r_Rule_init; exact ⟨z, c, st, d, ps, rfl, hL, hS, hc, hl, hs, q⟩
def countOut (st : Str) (ps : List Part) (nd : Int) : Option Nat := match ruleOut st ps with
  | some n => some n
  | none => if 0 ≤ nd ∧ nd ≤ (ps.length : Nat) then none else some 0
def t_CountRule_init : DTS := (dSeq (dSup [3, 4] r_Rule_init (dCons (dVar 1) (dCons (dVar 2) dNil))) (dSeq (dIf (dNot (dTestB (dChain oLe oLe (dC (.int 0)) (dVar 3) (dCB (on1 lenD) (dCons (dFld [(3, 1), (4, 1)] (dVar 0)) dNil))))) (dRaise 22 (dCons (dC (.int 0)) dNil)) dNext) (dSetF [(3, 2), (4, 2)] (dVar 0) (dVar 3))))
abbrev N_CountRule_init : List Str := ["self", "stone", "conditions", "need", "__class__"]
@[irreducible] def r_CountRule_init : DSp := fun ds S Q X => ∃ z c st d ps nd, ds = [.adr z, .str st, d, .int nd] ∧ isL S d (ps.map prt) ∧ S z = some (.ins c []) ∧ (c = 3 ∨ c = 4) ∧ ps.length ≤ 1000 ∧ (∀ p ∈ ps, p.2.2.length ≤ 1000) ∧ ∀ S', GrowX z S S' → match countOut st ps nd with
  | none => S' z = some (.ins c [.str st, .lst ((sortP ps).map prt), .int nd]) → Q .non S'
  | some n => X ⟨22, [.int (n : Nat)]⟩ S'
theorem len_CountRule_init : Ln 4 r_CountRule_init := fun ds S Q E h => by unfold r_CountRule_init at h; obtain ⟨z, c, st, d, ps, nd, rfl, _⟩ := h; rfl
theorem rd_CountRule_init : Rd t_CountRule_init N_CountRule_init r_CountRule_init := by
  intro ds S QD XD h
  unfold r_CountRule_init at h
  obtain ⟨z, c, st, d, ps, nd, rfl, hL, hS, hc, hl, hs, q⟩ := h
  unfold countOut at q
  rcases hc with rfl | rfl
  all_goals
    row_hasAll w_d
    refine i_ruleInit hL hS (by simp) hl hs fun S' hg => ?_
    cases hb : ruleOut st ps with
    | some n =>
      have := q S' hg
      rw [hb] at this
      exact this
    | none =>
      intro hz
      have q2 := fun S2 h2 => q S2 h2
      rw [hb] at q2
      have hlen : ((sortP ps).map prt).length = ps.length := by rw [List.length_map, sortP_len]
      row_hasAll w_d
      refine brP (fun c1 => ?_) (fun c1 => ?_)
      · row_hasAll w_d
        rw [hlen]
        refine brN (c := nd ≤ ((ps.length : Nat) : Int)) (fun c2 => ?_) (fun c2 => ?_)
        · row_hasAll w_d
          have := q2 S' hg
          dsimp only at this
          rw [if_neg (fun z => c2 z.2)] at this
          exact this
        · row_hasAll w_d
          have hq := fun S2 h2 => q2 S2 h2
          dsimp only at hq
          rw [if_pos ⟨c1, c2⟩] at hq
          exact hq _ hg.su su_same
      · row_hasAll w_d
        have := q2 S' hg
        dsimp only at this
        rw [if_neg (fun z => c1 z.1)] at this
        exact this
theorem i_countInit {z : Addr} {c : Nat} {st : Str} {d : D} {ps : List Part} {nd : Int} {S : Sto} {Q : DQ} {X : XQ} (hL : isL S d (ps.map prt)) (hS : S z = some (.ins c [])) (hc : c = 3 ∨ c = 4) (hl : ps.length ≤ 1000) (hs : ∀ p ∈ ps, p.2.2.length ≤ 1000) (q : ∀ S', GrowX z S S' → match countOut st ps nd with
  | none => S' z = some (.ins c [.str st, .lst ((sortP ps).map prt), .int nd]) → Q .non S'
  | some n => X ⟨22, [.int (n : Nat)]⟩ S') : r_CountRule_init [.adr z, .str st, d, .int nd] S Q X := by unfold r_CountRule_init; exact ⟨z, c, st, d, ps, nd, rfl, hL, hS, hc, hl, hs, q⟩
def placeP (cs : List Cell) : List Part := cs.map fun c => (c.1, c.2, "a")
def t_SameRule_init : DTS := (dSeq (dSup [4] r_CountRule_init (dCons (dC (.str "a")) (dCons (dLc (dItems (dVar 1)) (.tp [(.nm 4), (.nm 5)]) dYes (dTup (dCons (dVar 4) (dCons (dVar 5) (dCons (dC (.str "a")) dNil)))) [4, 5]) (dCons (dVar 2) dNil)))) (dSetF [(4, 0)] (dVar 0) (dC (.str ""))))
abbrev N_SameRule_init : List Str := ["self", "places", "need", "__class__", "dx", "dy"]
@[irreducible] def r_SameRule_init : DSp := fun ds S Q X => ∃ z d cs nd, ds = [.adr z, d, .int nd] ∧ isL S d (cs.map pr) ∧ S z = some (.ins 4 []) ∧ cs.length ≤ 1000 ∧ ∀ S', GrowX z S S' → match countOut "a" (placeP cs) nd with
  | none => S' z = some (.ins 4 [.str "", .lst ((sortP (placeP cs)).map prt), .int nd]) → Q .non S'
  | some n => X ⟨22, [.int (n : Nat)]⟩ S'
theorem len_SameRule_init : Ln 3 r_SameRule_init := fun ds S Q E h => by unfold r_SameRule_init at h; obtain ⟨z, d, cs, nd, rfl, _⟩ := h; rfl
theorem rd_SameRule_init : Rd t_SameRule_init N_SameRule_init r_SameRule_init := by
  intro ds S QD XD h
  unfold r_SameRule_init at h
  obtain ⟨z, d, cs, nd, rfl, hL, hS, hl, q⟩ := h
  have ep : cs.map (fun c : Cell => D.tup [.int c.1, .int c.2, .str "a"]) = (placeP cs).map prt := by unfold placeP; rw [List.map_map]; rfl
  have fin : r_CountRule_init [.adr z, .str "a", .lst ((placeP cs).map prt), .int nd] S (fun _ S2 => dSetF [(4, 0)] (dVar 0) (dC (.str "")) (ends QD XD) [some (.adr z), some d, some (.int nd), none, none, none] S2) (fun x S2 => XD x S2) := by
    refine i_countInit (c := 4) (.inl rfl) hS (by simp) (by unfold placeP; rw [List.length_map]; exact hl) (fun p hp => ?_) fun S' hg => ?_
    · unfold placeP at hp
      obtain ⟨c, _, rfl⟩ := List.mem_map.mp hp
      show (Str.ofString "a").length ≤ 1000
      decide
    · cases hb : countOut "a" (placeP cs) nd with
      | some n =>
        have := q S' hg
        rw [hb] at this
        exact this
      | none =>
        intro hz
        have := q (su S' z (.ins 4 [.str "", .lst ((sortP (placeP cs)).map prt), .int nd])) hg.su
        rw [hb] at this
        row_hasAll w_d
        exact this su_same
  rcases hL with rfl | ⟨a, rfl, ha⟩
  · row_hasAll w_d
    refine lk_map (f := fun c : Cell => D.tup [.int c.1, .int c.2, .str "a"]) (fun c hc => ⟨_, rfl, fun Q' h => ?_⟩) ?_
    · row_hasAll w_d
      exact h
    · row_hasAll w_d
      rw [ep]
      exact fin
  · row_hasAll w_d
    refine lk_map (f := fun c : Cell => D.tup [.int c.1, .int c.2, .str "a"]) (fun c hc => ⟨_, rfl, fun Q' h => ?_⟩) ?_
    · row_hasAll w_d
      exact h
    · row_hasAll w_d
      rw [ep]
      exact fin
/-! ### rules as data -/
def rul (k : Nat) (st : Str) (ps : List Part) (nd : Int) : D := match k with
  | 2 => .ins 2 [.str st, .lst (ps.map prt)]
  | 3 => .ins 3 [.str st, .lst (ps.map prt), .int nd]
  | _ => .ins 4 [.str st, .lst (ps.map prt), .int nd]
theorem rul_2 (st : Str) (ps : List Part) (nd : Int) : rul 2 st ps nd = .ins 2 [.str st, .lst (ps.map prt)] := rfl
theorem rul_3 (st : Str) (ps : List Part) (nd : Int) : rul 3 st ps nd = .ins 3 [.str st, .lst (ps.map prt), .int nd] := rfl
theorem rul_4 (st : Str) (ps : List Part) (nd : Int) : rul 4 st ps nd = .ins 4 [.str st, .lst (ps.map prt), .int nd] := rfl
abbrev knd (k : Nat) : Prop := k = 2 ∨ k = 3 ∨ k = 4
theorem grow_sd {z : Addr} {S S' : Sto} {o : OO} (hz : S z = none) (h : GrowX z (su S z o) S') : Grow S (sd S' z) := fun a u e => by
  have haz : a ≠ z := fun e2 => by rw [e2, hz] at e; cases e
  rw [sd_ne haz]
  exact h a u haz (by rw [su_ne haz]; exact e)
theorem isL_su {z : Addr} {S : Sto} {o : OO} {d : D} {l : List D} (hz : S z = none) (h : isL S d l) : isL (su S z o) d l := by
  rcases h with rfl | ⟨a, rfl, ha⟩
  · exact .inl rfl
  · exact .inr ⟨a, rfl, by rw [su_ne (fun e => by rw [e, hz] at ha; cases ha)]; exact ha⟩
theorem mk_rule {st : Str} {d : D} {ps : List Part} {S : Sto} {Q : DQ} {X : XQ} (hL : isL S d (ps.map prt)) (hl : ps.length ≤ 1000) (hs : ∀ p ∈ ps, p.2.2.length ≤ 1000) (q : ∀ S', Grow S S' → match ruleOut st ps with
  | none => Q (.ins 2 [.str st, .lst ((sortP ps).map prt)]) S'
  | some n => X ⟨22, [.int (n : Nat)]⟩ S') : ∀ z, S z = none → r_Rule_init [.adr z, .str st, d] (su S z (.ins 2 [])) (fun d S2 => d = .non ∧ mkF Q z S2) (fun e S2 => X e (sd S2 z)) := by
  intro z hz
  refine i_ruleInit (isL_su hz hL) su_same (.inl rfl) hl hs fun S' hg => ?_
  have := q _ (grow_sd hz hg)
  cases hb : ruleOut st ps with
  | none =>
    rw [hb] at this
    intro h
    exact ⟨rfl, ok_o h this⟩
  | some n => rw [hb] at this; exact this
theorem mk_count {st : Str} {d : D} {ps : List Part} {nd : Int} {S : Sto} {Q : DQ} {X : XQ} (hL : isL S d (ps.map prt)) (hl : ps.length ≤ 1000) (hs : ∀ p ∈ ps, p.2.2.length ≤ 1000) (q : ∀ S', Grow S S' → match countOut st ps nd with
  | none => Q (.ins 3 [.str st, .lst ((sortP ps).map prt), .int nd]) S'
  | some n => X ⟨22, [.int (n : Nat)]⟩ S') : ∀ z, S z = none → r_CountRule_init [.adr z, .str st, d, .int nd] (su S z (.ins 3 [])) (fun d S2 => d = .non ∧ mkF Q z S2) (fun e S2 => X e (sd S2 z)) := by
  intro z hz
  refine i_countInit (isL_su hz hL) su_same (.inl rfl) hl hs fun S' hg => ?_
  have := q _ (grow_sd hz hg)
  cases hb : countOut st ps nd with
  | none =>
    rw [hb] at this
    intro h
    exact ⟨rfl, ok_o h this⟩
  | some n => rw [hb] at this; exact this
theorem mk_same {d : D} {cs : List Cell} {nd : Int} {S : Sto} {Q : DQ} {X : XQ} (hL : isL S d (cs.map pr)) (hl : cs.length ≤ 1000) (q : ∀ S', Grow S S' → match countOut "a" (placeP cs) nd with
  | none => Q (.ins 4 [.str "", .lst ((sortP (placeP cs)).map prt), .int nd]) S'
  | some n => X ⟨22, [.int (n : Nat)]⟩ S') : ∀ z, S z = none → r_SameRule_init [.adr z, d, .int nd] (su S z (.ins 4 [])) (fun d S2 => d = .non ∧ mkF Q z S2) (fun e S2 => X e (sd S2 z)) := by
  intro z hz
  unfold r_SameRule_init
  refine ⟨z, d, cs, nd, rfl, isL_su hz hL, su_same, hl, fun S' hg => ?_⟩
  have := q _ (grow_sd hz hg)
  cases hb : countOut "a" (placeP cs) nd with
  | none =>
    rw [hb] at this
    intro h
    exact ⟨rfl, ok_o h this⟩
  | some n => rw [hb] at this; exact this
/-! ### what a rule tells -/
def t_Rule_lays : DTS := (dRet (dOp oEq (dVar 1) (dFld [(2, 0), (3, 0), (4, 0)] (dVar 0))))
abbrev N_Rule_lays : List Str := ["self", "stone"]
@[irreducible] def r_Rule_lays : DSp := fun ds S Q _ => ∃ k st ps nd s, ds = [rul k st ps nd, .str s] ∧ (k = 2 ∨ k = 3) ∧ Q (.bl (decide (s = st))) S
theorem len_Rule_lays : Ln 2 r_Rule_lays := fun ds S Q E h => by unfold r_Rule_lays at h; obtain ⟨k, st, ps, nd, s, rfl, _⟩ := h; rfl
theorem rd_Rule_lays : Rd t_Rule_lays N_Rule_lays r_Rule_lays := by
  intro ds S QD XD h
  unfold r_Rule_lays at h
  obtain ⟨k, st, ps, nd, s, rfl, hk, q⟩ := h
  rcases hk with rfl | rfl
  · rw [rul_2]
    row_hasAll w_d
    exact q
  · rw [rul_3]
    row_hasAll w_d
    exact q
theorem i_lays {k : Nat} {st s : Str} {ps : List Part} {nd : Int} {S : Sto} {Q : DQ} {X : XQ} (hk : k = 2 ∨ k = 3) (q : Q (.bl (decide (s = st))) S) : r_Rule_lays [rul k st ps nd, .str s] S Q X := by unfold r_Rule_lays; exact ⟨k, st, ps, nd, s, rfl, hk, q⟩
def t_SameRule_lays : DTS := (dRet (dCall r_p_is_stone [] (dCons (dVar 1) dNil)))
abbrev N_SameRule_lays : List Str := ["self", "stone"]
@[irreducible] def r_SameRule_lays : DSp := fun ds S Q _ => ∃ st ps nd s, ds = [rul 4 st ps nd, .str s] ∧ Q (.bl (stoneB s)) S
theorem len_SameRule_lays : Ln 2 r_SameRule_lays := fun ds S Q E h => by unfold r_SameRule_lays at h; obtain ⟨st, ps, nd, s, rfl, _⟩ := h; rfl
theorem rd_SameRule_lays : Rd t_SameRule_lays N_SameRule_lays r_SameRule_lays := by
  intro ds S QD XD h
  unfold r_SameRule_lays at h
  obtain ⟨st, ps, nd, s, rfl, q⟩ := h
  row_hasAll w_d
  exact i_stone q
theorem i_laysS {st s : Str} {ps : List Part} {nd : Int} {S : Sto} {Q : DQ} {X : XQ} (q : Q (.bl (stoneB s)) S) : r_SameRule_lays [rul 4 st ps nd, .str s] S Q X := by unfold r_SameRule_lays; exact ⟨st, ps, nd, s, rfl, q⟩
def t_Rule_conditions : DTS := (dSeq (dIf (dNot (dTru (dMethT [(2, r_Rule_lays), (3, r_Rule_lays), (4, r_SameRule_lays)] (dVar 0) (dCons (dVar 1) dNil)))) (dRaise 42 (dCons (dVar 1) dNil)) dNext) (dRet (dCB (on1 listDO) (dCons (dFld [(2, 1), (3, 1), (4, 1)] (dVar 0)) dNil))))
abbrev N_Rule_conditions : List Str := ["self", "stone"]
@[irreducible] def r_Rule_conditions : DSp := fun ds S Q X => ∃ k st ps nd s, ds = [rul k st ps nd, .str s] ∧ (k = 2 ∨ k = 3) ∧ ps.length ≤ 1000 ∧ (if s = st then ∀ p, S p = none → Q (.adr p) (su S p (.lst (ps.map prt))) else X ⟨42, [.str s]⟩ S)
theorem len_Rule_conditions : Ln 2 r_Rule_conditions := fun ds S Q E h => by unfold r_Rule_conditions at h; obtain ⟨k, st, ps, nd, s, rfl, _⟩ := h; rfl
theorem rd_Rule_conditions : Rd t_Rule_conditions N_Rule_conditions r_Rule_conditions := by
  intro ds S QD XD h
  unfold r_Rule_conditions at h
  obtain ⟨k, st, ps, nd, s, rfl, hk, hl, q⟩ := h
  have l2 := @i_lays k st s ps nd S
  rcases hk with rfl | rfl
  all_goals
    row_hasAll w_d
    refine l2 (by simp) ?_
    by_cases h1 : s = st
    · rw [decide_eq_true h1]
      rw [if_pos h1] at q
      row_hasAll w_d
      exact q
    · rw [decide_eq_false h1]
      rw [if_neg h1] at q
      row_hasAll w_d
      exact q
theorem i_conds {k : Nat} {st s : Str} {ps : List Part} {nd : Int} {S : Sto} {Q : DQ} {X : XQ} (hk : k = 2 ∨ k = 3) (hl : ps.length ≤ 1000) (q : if s = st then ∀ p, S p = none → Q (.adr p) (su S p (.lst (ps.map prt))) else X ⟨42, [.str s]⟩ S) : r_Rule_conditions [rul k st ps nd, .str s] S Q X := by unfold r_Rule_conditions; exact ⟨k, st, ps, nd, s, rfl, hk, hl, q⟩
def withS (ps : List Part) (s : Str) : List Part := ps.map fun p => (p.1, p.2.1, s)
def t_SameRule_conditions : DTS := (dSeq (dIf (dNot (dTru (dCall r_p_is_stone [] (dCons (dVar 1) dNil)))) (dRaise 42 (dCons (dVar 1) dNil)) dNext) (dRet (dLcO (dItems (dFld [(4, 1)] (dVar 0))) (.tp [(.nm 2), (.nm 3), (.nm 4)]) dYes (dTup (dCons (dVar 2) (dCons (dVar 3) (dCons (dVar 1) dNil)))) [2, 3, 4])))
abbrev N_SameRule_conditions : List Str := ["self", "stone", "dx", "dy", "signs"]
@[irreducible] def r_SameRule_conditions : DSp := fun ds S Q X => ∃ st ps nd s, ds = [rul 4 st ps nd, .str s] ∧ ps.length ≤ 1000 ∧ (if stoneB s = true then ∀ p, S p = none → Q (.adr p) (su S p (.lst ((withS ps s).map prt))) else X ⟨42, [.str s]⟩ S)
theorem len_SameRule_conditions : Ln 2 r_SameRule_conditions := fun ds S Q E h => by unfold r_SameRule_conditions at h; obtain ⟨st, ps, nd, s, rfl, _⟩ := h; rfl
theorem rd_SameRule_conditions : Rd t_SameRule_conditions N_SameRule_conditions r_SameRule_conditions := by
  intro ds S QD XD h
  unfold r_SameRule_conditions at h
  obtain ⟨st, ps, nd, s, rfl, hl, q⟩ := h
  row_hasAll w_d
  refine i_stone ?_
  cases h1 : stoneB s with
  | false =>
    rw [h1, if_neg (by simp)] at q
    row_hasAll w_d
    exact q
  | true =>
    rw [h1, if_pos rfl] at q
    row_hasAll w_d
    have e : ps.map (fun p : Part => D.tup [.int p.1, .int p.2.1, .str s]) = (withS ps s).map prt := by unfold withS; rw [List.map_map]; rfl
    refine lk_map (f := fun p : Part => D.tup [.int p.1, .int p.2.1, .str s]) (fun c hc => ⟨_, rfl, fun Q' h => ?_⟩) ?_
    · row_hasAll w_d
      exact h
    · rw [e]
      exact q
theorem i_condsS {st s : Str} {ps : List Part} {nd : Int} {S : Sto} {Q : DQ} {X : XQ} (hl : ps.length ≤ 1000) (q : if stoneB s = true then ∀ p, S p = none → Q (.adr p) (su S p (.lst ((withS ps s).map prt))) else X ⟨42, [.str s]⟩ S) : r_SameRule_conditions [rul 4 st ps nd, .str s] S Q X := by unfold r_SameRule_conditions; exact ⟨st, ps, nd, s, rfl, hl, q⟩
def t_Rule_len : DTS := (dRet (dCB (on1 lenD) (dCons (dFld [(2, 1), (3, 1), (4, 1)] (dVar 0)) dNil)))
abbrev N_Rule_len : List Str := ["self"]
@[irreducible] def r_Rule_len : DSp := fun ds S Q _ => ∃ k st ps nd, ds = [rul k st ps nd] ∧ knd k ∧ Q (.int (ps.length : Nat)) S
theorem len_Rule_len : Ln 1 r_Rule_len := fun ds S Q E h => by unfold r_Rule_len at h; obtain ⟨k, st, ps, nd, rfl, _⟩ := h; rfl
theorem rd_Rule_len : Rd t_Rule_len N_Rule_len r_Rule_len := by
  intro ds S QD XD h
  unfold r_Rule_len at h
  obtain ⟨k, st, ps, nd, rfl, hk, q⟩ := h
  rcases hk with rfl | rfl | rfl
  all_goals
    row_hasAll w_d
    rw [List.length_map]
    exact q
def t_Rule_slack : DTS := (dRet (dC (.int 0)))
abbrev N_Rule_slack : List Str := ["self"]
@[irreducible] def r_Rule_slack : DSp := fun ds S Q _ => ∃ d, ds = [d] ∧ Q (.int 0) S
theorem len_Rule_slack : Ln 1 r_Rule_slack := fun ds S Q E h => by unfold r_Rule_slack at h; obtain ⟨d, rfl, _⟩ := h; rfl
theorem rd_Rule_slack : Rd t_Rule_slack N_Rule_slack r_Rule_slack := by
  intro ds S QD XD h
  unfold r_Rule_slack at h
  obtain ⟨d, rfl, q⟩ := h
  exact q
def t_CountRule_slack : DTS := (dRet (dOp oSub (dCB (on1 lenD) (dCons (dFld [(3, 1), (4, 1)] (dVar 0)) dNil)) (dFld [(3, 2), (4, 2)] (dVar 0))))
abbrev N_CountRule_slack : List Str := ["self"]
@[irreducible] def r_CountRule_slack : DSp := fun ds S Q _ => ∃ k st ps nd, ds = [rul k st ps nd] ∧ (k = 3 ∨ k = 4) ∧ Q (.int ((ps.length : Nat) - nd)) S
theorem len_CountRule_slack : Ln 1 r_CountRule_slack := fun ds S Q E h => by unfold r_CountRule_slack at h; obtain ⟨k, st, ps, nd, rfl, _⟩ := h; rfl
theorem rd_CountRule_slack : Rd t_CountRule_slack N_CountRule_slack r_CountRule_slack := by
  intro ds S QD XD h
  unfold r_CountRule_slack at h
  obtain ⟨k, st, ps, nd, rfl, hk, q⟩ := h
  rcases hk with rfl | rfl
  all_goals
    row_hasAll w_d
    rw [List.length_map]
    exact q
end SM

set_option Elab.async false
set_option linter.all false
set_option maxRecDepth 100000
set_option maxHeartbeats 4000000
--#ONETAC

namespace SM
open PySem PySem.Spec PyProof.Rows L2
/-! ### rules by the law -/
def t_l_offset : DTS := (dSeq (dSet 1 (dCall r_l_take [] (dCons (dVar 0) (dCons (dC (.int 48)) dNil)))) (dCut (dIf (dTestB (dOp oGt (dCall r_l_take [] (dCons (dVar 0) (dCons (dC (.int 3)) dNil))) (dC (.int 0)))) (dSet 1 (dOp oIx (dLst (dCons (dC (.int 16)) (dCons (dC (.int 17)) (dCons (dC (.int 18)) (dCons (dC (.int 23)) (dCons (dC (.int 24)) (dCons (dC (.int 29)) (dCons (dC (.int 30)) (dCons (dC (.int 31)) dNil))))))))) (dOp oMod (dCB (on1 intD) (dCons (dVar 1) dNil)) (dC (.int 8))))) dNext) (dSeq (dSet 1 (dOp oAdd (dVar 1) (dCB (on1 intD) (dCons (dOp oGt (dVar 1) (dC (.int 23))) dNil)))) (dRet (dTup (dCons (dOp oSub (dOp oMod (dCB (on1 intD) (dCons (dVar 1) dNil)) (dC (.int 7))) (dC (.int 3))) (dCons (dOp oSub (dOp oFdiv (dVar 1) (dC (.int 7))) (dC (.int 3))) dNil)))))))
abbrev N_l_offset : List Str := ["_law_bag_here", "_law_spot"]
@[irreducible] def r_l_offset : DSp := fun ds S Q _ => ∃ a b, ds = [.adr a] ∧ S a = some (bagO b) ∧ ∀ (c : Cell) b', offB c.1 c.2 = true → Q (pr c) (su S a (bagO b'))
theorem len_l_offset : Ln 1 r_l_offset := fun ds S Q E h => by unfold r_l_offset at h; obtain ⟨a, b, rfl, _⟩ := h; rfl
theorem spot_at {t : Int} (h0 : 0 ≤ t) (h1 : t < 8) : ∃ z : Int, ([D.int 16, D.int 17, D.int 18, D.int 23, D.int 24, D.int 29, D.int 30, D.int 31] : List D)[t.toNat]? = some (.int z) ∧ 0 ≤ z ∧ z < 48 := by
  have : t = 0 ∨ t = 1 ∨ t = 2 ∨ t = 3 ∨ t = 4 ∨ t = 5 ∨ t = 6 ∨ t = 7 := by omega
  rcases this with rfl | rfl | rfl | rfl | rfl | rfl | rfl | rfl <;> exact ⟨_, rfl, by decide, by decide⟩
theorem rd_l_offset : Rd t_l_offset N_l_offset r_l_offset := by
  intro ds S QD XD h
  unfold r_l_offset at h
  obtain ⟨a, b, rfl, hS, q⟩ := h
  row_hasAll w_d
  refine i_take hS (by decide) (by decide) fun v b1 h1 h2 => ?_
  row_hasAll w_d
  refine ⟨fun δ S' => ∃ v b', δ = [some (.adr a), some (.int v)] ∧ S' = su S a (bagO b') ∧ 0 ≤ v ∧ v < 48, ?_, ?_⟩
  · row_hasAll w_d
    refine i_takeB (by decide) (by decide) fun v2 b2 h3 h4 => ?_
    row_hasAll w_d
    refine brP (fun w => ?_) (fun w => ?_)
    · row_hasAll w_d
      obtain ⟨z, ez, z0, z1⟩ := spot_at (t := v % 8) (by omega) (by omega)
      refine ik_at (by omega) ez ?_
      conv => whnf
      exact ⟨z, b2, rfl, rfl, z0, z1⟩
    · conv => whnf
      exact ⟨v, b2, rfl, rfl, h1, h2⟩
  rintro δ S' ⟨v, b2, rfl, rfl, h3, h4⟩
  row_hasAll w_d
  obtain ⟨u, hu, u0, u1, u2⟩ : ∃ u : Int, (v + if decide (23 < v) = true then 1 else 0) = u ∧ 0 ≤ u ∧ u ≤ 48 ∧ u ≠ 24 := by
    by_cases h : 23 < v
    · rw [decide_eq_true h, if_pos rfl]; exact ⟨v + 1, rfl, by omega, by omega, by omega⟩
    · rw [decide_eq_false h, if_neg (by simp)]; exact ⟨v + 0, rfl, by omega, by omega, by omega⟩
  rw [hu]
  refine q (u % 7 - 3, u / 7 - 3) b2 ?_
  exact decide_eq_true (by show ¬ (u % 7 - 3 = 0 ∧ u / 7 - 3 = 0) ∧ -3 ≤ u % 7 - 3 ∧ u % 7 - 3 ≤ 3 ∧ -3 ≤ u / 7 - 3 ∧ u / 7 - 3 ≤ 3; omega)
theorem i_offs {a : Addr} {b : Bag} {S : Sto} {Q : DQ} {X : XQ} (hS : S a = some (bagO b)) (q : ∀ (c : Cell) b', offB c.1 c.2 = true → Q (pr c) (su S a (bagO b'))) : r_l_offset [.adr a] S Q X := by unfold r_l_offset; exact ⟨a, b, rfl, hS, q⟩
/-! signs of a condition by the law -/
theorem pal3 {p : Str} (hp : palOk p) {v : Int} (h0 : 0 ≤ v) (h1 : v < 3) : ∃ c, p.cps.toList[v.toNat]? = some c ∧ letB c = true := by
  have hl := slen_codes p
  have hv : v.toNat < p.cps.toList.length := by have := hp.1; omega
  exact ⟨_, List.getElem?_eq_getElem hv, hp.2 _ (List.getElem_mem hv)⟩
theorem let_ne35 {c : Nat} (h : letB c = true) : c ≠ 35 := by
  have := of_decide_eq_true (show decide (97 ≤ c ∧ c ≤ 122) = true from h)
  omega
theorem condB_of {s : Str} {l : List Nat} (e : s.cps.toList = l) (h : cdF [] l = true) (hn : l ≠ []) : condB s = true := by
  unfold condB
  rw [e, h, Bool.true_and]
  have := slen_codes s
  rw [e] at this
  have : 0 < l.length := List.length_pos_iff.mpr hn
  exact decide_eq_true (by omega)
theorem cd1 {a : Nat} (h : letB a = true) : cdF [] [a] = true := by simp [cdF, h]
theorem cd1h {a : Nat} (h : letB a = true) : cdF [] [a, 35] = true := by simp [cdF, h, (let_ne35 h).symm]
theorem cd2 {a b : Nat} (h : letB a = true) (h2 : letB b = true) (hn : a ≠ b) : cdF [] [b, a] = true := by simp [cdF, h, h2, hn]
theorem cd2h {a b : Nat} (h : letB a = true) (h2 : letB b = true) (hn : a ≠ b) : cdF [] [b, a, 35] = true := by simp [cdF, h, h2, hn, (let_ne35 h).symm, (let_ne35 h2).symm]
def t_l_signs : DTS := (dSeq (dSet 2 (dOp oIx (dVar 1) (dCall r_l_take [] (dCons (dVar 0) (dCons (dC (.int 3)) dNil))))) (dSeq (dSet 3 (dOp oIx (dVar 1) (dCall r_l_take [] (dCons (dVar 0) (dCons (dC (.int 3)) dNil))))) (dCut (dIf (dAnd (dTestB (dOp oEq (dCall r_l_take [] (dCons (dVar 0) (dCons (dC (.int 3)) dNil))) (dC (.int 0)))) (dTestB (dOp oNotIn (dVar 3) (dVar 2)))) (dSet 2 (dOp oAdd (dVar 3) (dVar 2))) dNext) (dSeq (dIf (dTestB (dOp oEq (dCall r_l_take [] (dCons (dVar 0) (dCons (dC (.int 4)) dNil))) (dC (.int 0)))) (dSet 2 (dOp oAdd (dVar 2) (dC (.str "#")))) dNext) (dRet (dVar 2))))))
abbrev N_l_signs : List Str := ["_law_bag_here", "_law_palette_here", "_law_signs_here", "_law_other"]
@[irreducible] def r_l_signs : DSp := fun ds S Q _ => ∃ a b p, ds = [.adr a, .str p] ∧ S a = some (bagO b) ∧ palOk p ∧ ∀ s b', condB s = true → s.length ≤ 3 → Q (.str s) (su S a (bagO b'))
theorem len_l_signs : Ln 2 r_l_signs := fun ds S Q E h => by unfold r_l_signs at h; obtain ⟨a, b, c, rfl, _⟩ := h; rfl
theorem rd_l_signs : Rd t_l_signs N_l_signs r_l_signs := by
  intro ds S QD XD h
  unfold r_l_signs at h
  obtain ⟨a, b, p, rfl, hS, hp, q⟩ := h
  have hz := sizeLine_eq
  have lo : ∀ c, (one c).length = 1 := fun _ => rfl
  row_hasAll w_d
  refine i_take hS (by decide) (by decide) fun v1 b1 h1 h2 => ?_
  row_hasAll w_d
  obtain ⟨x, ex, lx⟩ := pal3 hp h1 h2
  refine ik_at h1 ex ?_
  row_hasAll w_d
  refine i_takeB (by decide) (by decide) fun v2 b2 h3 h4 => ?_
  row_hasAll w_d
  obtain ⟨y, ey, ly⟩ := pal3 hp h3 h4
  refine ik_at h3 ey ?_
  row_hasAll w_d
  refine ⟨fun δ S' => ∃ s b', δ = [some (.adr a), some (.str p), some (.str s), some (.str (one y))] ∧ S' = su S a (bagO b') ∧ (s = one x ∨ (s = one y ++ one x ∧ x ≠ y)), ?_, ?_⟩
  · row_hasAll w_d
    refine i_takeB (by decide) (by decide) fun v3 b3 h5 h6 => ?_
    row_hasAll w_d
    rw [eqB_int]
    refine brP (fun w => ?_) (fun w => ?_)
    · row_hasAll w_d
      have ei : inS (one y) (one x) = decide (y = x) := by
        unfold inS
        have e1 : (one y).cps.toList = [y] := rfl
        have e2 : (one x).cps.toList = [x] := rfl
        rw [e1, e2]
        simp
      rw [ei]
      by_cases hxy : y = x
      · rw [decide_eq_true hxy]
        row_hasAll w_d
        exact ⟨one x, b3, rfl, rfl, .inl rfl⟩
      · rw [decide_eq_false hxy]
        row_hasAll w_d
        exact ⟨one y ++ one x, b3, rfl, rfl, .inr ⟨rfl, fun e => hxy e.symm⟩⟩
    · refine brF ?_
      conv => whnf
      exact ⟨one x, b3, rfl, rfl, .inl rfl⟩
  rintro δ S' ⟨s, b3, rfl, rfl, hs⟩
  row_hasAll w_d
  refine i_takeB (by decide) (by decide) fun v4 b4 h7 h8 => ?_
  row_hasAll w_d
  have l1 : (one x).length = 1 := rfl
  have l2 : (one y).length = 1 := rfl
  have l3 : (Str.ofString "#").length = 1 := rfl
  have e1 : (one x).cps.toList = [x] := rfl
  have e2 : (one y).cps.toList = [y] := rfl
  have e3 : (Str.ofString "#").cps.toList = [35] := rfl
  have hls : s.length ≤ 2 := by
    rcases hs with rfl | ⟨rfl, _⟩
    · omega
    · rw [slen_app]; omega
  rw [eqB_int]
  refine brP (fun w => ?_) (fun w => ?_)
  · row_hasAll w_d
    refine q _ b4 ?_ (by rw [slen_app]; omega)
    rcases hs with rfl | ⟨rfl, hn⟩
    · exact condB_of (by rw [app_codes, e1, e3]; rfl) (cd1h lx) (by simp)
    · exact condB_of (by rw [app_codes, app_codes, e1, e2, e3]; rfl) (cd2h lx ly hn) (by simp)
  · row_hasAll w_d
    refine q _ b4 ?_ (by omega)
    rcases hs with rfl | ⟨rfl, hn⟩
    · exact condB_of e1 (cd1 lx) (by simp)
    · exact condB_of (by rw [app_codes, e1, e2]; rfl) (cd2 lx ly hn) (by simp)
theorem i_signs {a : Addr} {b : Bag} {p : Str} {S : Sto} {Q : DQ} {X : XQ} (hS : S a = some (bagO b)) (hp : palOk p) (q : ∀ s b', condB s = true → s.length ≤ 3 → Q (.str s) (su S a (bagO b'))) : r_l_signs [.adr a, .str p] S Q X := by unfold r_l_signs; exact ⟨a, b, p, rfl, hS, hp, q⟩
/-! parts by the law -/
structure PartsOk (ps : List Part) : Prop where
  le : ps.length ≤ 8
  nd : (ps.map pk).Nodup
  ok : ∀ p ∈ ps, offB p.1 p.2.1 = true ∧ condB p.2.2 = true ∧ p.2.2.length ≤ 30
theorem badPF_none : ∀ {ps : List Part} {i : Nat} {ks : List Cell}, i + ps.length ≤ 8 → (ks ++ ps.map pk).Nodup → (∀ p ∈ ps, offB p.1 p.2.1 = true ∧ condB p.2.2 = true) → badPF i ks ps = none
  | [], _, _, _, _, _ => rfl
  | p :: r, i, ks, hl, hn, h => by
    simp only [List.length_cons] at hl
    have hp := h p (List.mem_cons_self ..)
    rw [badPF, if_neg]
    · exact badPF_none (by omega) (by simpa using hn) fun q hq => h q (List.mem_cons_of_mem _ hq)
    · rintro (z | z | z | z)
      · omega
      · rw [hp.1] at z; cases z
      · rw [List.map_cons, List.nodup_append] at hn
        exact hn.2.2 _ z _ (List.mem_cons_self ..) rfl
      · rw [hp.2] at z; cases z
theorem PartsOk.bad {ps : List Part} (h : PartsOk ps) : badP ps = none := badPF_none (by have := h.le; omega) (by simpa using h.nd) fun p hp => ⟨(h.ok p hp).1, (h.ok p hp).2.1⟩
def t_l_parts : DTS := (dSeq (dSet 2 (dCall r_l_take [] (dCons (dVar 0) (dCons (dC (.int 4)) dNil)))) (dCut (dIf (dTestB (dOp oEq (dCall r_l_take [] (dCons (dVar 0) (dCons (dC (.int 9)) dNil))) (dC (.int 0)))) (dSet 2 (dC (.int 8))) dNext) (dSeq (dSet 3 (dLstO dNil)) (dSeq (dFor (dRng1 (dCons (dVar 2) dNil)) (.nm 4) (dSeq (dSet 5 (dCall r_l_offset [] (dCons (dVar 0) dNil))) (dSeq (dSet 6 (dCall r_l_signs [] (dCons (dVar 0) (dCons (dVar 1) dNil)))) (dIf (dTestB (dOp oNotIn (dVar 5) (dLc (dItems (dVar 3)) (.nm 7) dYes (dTup (dCons (dOp oIx (dVar 7) (dC (.int 0))) (dCons (dOp oIx (dVar 7) (dC (.int 1))) dNil))) [7]))) (dDrop (dBM .lst appD (dVar 3) (dCons (dTup (dCons (dOp oIx (dVar 5) (dC (.int 0))) (dCons (dOp oIx (dVar 5) (dC (.int 1))) (dCons (dVar 6) dNil)))) dNil))) dNext)))) (dRet (dVarM 3))))))
abbrev N_l_parts : List Str := ["_law_bag_here", "_law_palette_here", "_law_many", "_law_parts_here", "_law_k", "_law_offset_here", "_law_signs_here", "_law_part"]
@[irreducible] def r_l_parts : DSp := fun ds S Q _ => ∃ a b p, ds = [.adr a, .str p] ∧ S a = some (bagO b) ∧ palOk p ∧ ∀ ps b', PartsOk ps → Q (.lst (ps.map prt)) (su S a (bagO b'))
theorem len_l_parts : Ln 2 r_l_parts := fun ds S Q E h => by unfold r_l_parts at h; obtain ⟨a, b, c, rfl, _⟩ := h; rfl
theorem rd_l_parts : Rd t_l_parts N_l_parts r_l_parts := by
  intro ds S QD XD h
  unfold r_l_parts at h
  obtain ⟨a, b, pal, rfl, hS, hp, q⟩ := h
  have hz := sizeLine_eq
  row_hasAll w_d
  refine i_take hS (by decide) (by decide) fun v b1 h1 h2 => ?_
  row_hasAll w_d
  refine ⟨fun δ S' => ∃ v b', δ = [some (.adr a), some (.str pal), some (.int v), none, none, none, none, none] ∧ S' = su S a (bagO b') ∧ 0 ≤ v ∧ v ≤ 8, ?_, ?_⟩
  · row_hasAll w_d
    refine i_takeB (by decide) (by decide) fun v2 b2 h3 h4 => ?_
    row_hasAll w_d
    rw [eqB_int]
    refine brP (fun w => ?_) (fun w => ?_)
    · row_hasAll w_d
      exact ⟨8, b2, rfl, rfl, by decide, by decide⟩
    · conv => whnf
      exact ⟨v, b2, rfl, rfl, h1, by omega⟩
  rintro δ S' ⟨v, b2, rfl, rfl, h3, h4⟩
  row_hasAll w_d
  intro z hz0
  have hza : z ≠ a := fun e => by rw [e, su_same] at hz0; cases hz0
  have hSz : S z = none := by rw [su_ne hza] at hz0; exact hz0
  row_hasAll w_d
  have fin : ∀ (b' b3 : Bag) (l : List D), su (su (su S a (bagO b')) z (.lst l)) a (bagO b3) = su (su S a (bagO b3)) z (.lst l) := fun b' b3 l => by row_hasAll w_steq
  refine loop_of (xs := List.range (v - 0).toNat) (g := fun i : Nat => D.int (0 + (i : Nat))) (fun r δ S' => ∃ x y w b', ∃ ps : List Part, δ = [some (.adr a), some (.str pal), some (.int v), some (.adr z), x, y, w, none] ∧ S' = su (su S a (bagO b')) z (.lst (ps.map prt)) ∧ ps.length + r.length ≤ 8 ∧ PartsOk ps) ?_ ?_ ?_
  rotate_left 2
  · exact ⟨_, _, _, b2, [], rfl, rfl, by rw [List.length_range]; show 0 + _ ≤ 8; omega, ⟨by simp, by simp, by simp⟩⟩
  · rintro i r δ S' ⟨x, y, w, b', ps, rfl, rfl, hl, hk⟩
    refine ⟨_, rfl, fun N hN => ?_⟩
    row_hasAll w_d
    refine i_offs (b := b') (by row_hasAll w_sto) fun c b3 hc => ?_
    rw [fin]
    row_hasAll w_d
    refine i_signs (b := b3) (by row_hasAll w_sto) hp fun s b4 hs hsl => ?_
    rw [fin]
    row_hasAll w_d
    simp only [List.length_cons] at hl
    refine lk_map (f := fun p : Part => pr (pk p)) (fun p hp => ⟨_, rfl, fun Q' h => ?_⟩) ?_
    · row_hasAll w_d
      exact h
    · have em : ps.map (fun p : Part => pr (pk p)) = (ps.map pk).map pr := by rw [List.map_map]; rfl
      rw [em]
      row_hasAll w_d
      rw [inB_prs]
      by_cases hm : c ∈ ps.map pk
      · rw [decide_eq_true hm]
        row_hasAll w_d
        exact hN _ _ ⟨_, _, _, b4, ps, rfl, rfl, by omega, hk⟩
      · rw [decide_eq_false hm]
        row_hasAll w_d
        refine ⟨by rw [List.length_map]; omega, ?_⟩
        refine hN _ _ ⟨_, _, _, b4, ps ++ [(c.1, c.2, s)], rfl, by rw [List.map_append]; rfl, by rw [List.length_append]; show ps.length + 1 + r.length ≤ 8; omega, ?_⟩
        refine ⟨by rw [List.length_append]; show ps.length + 1 ≤ 8; omega, ?_, fun p hp => ?_⟩
        · rw [List.map_append, List.nodup_append]
          refine ⟨hk.nd, by simp, fun x hx y hy => ?_⟩
          have : y = c := by simpa [pk] using hy
          rw [this]
          exact fun e => hm (e ▸ hx)
        · rcases List.mem_append.mp hp with h | h
          · exact hk.ok p h
          · rw [List.mem_singleton.mp h]
            exact ⟨hc, hs, Nat.le_trans hsl (by decide)⟩
  · rintro δ S' ⟨x, y, w, b', ps, rfl, rfl, hl, hk⟩
    row_hasAll w_d
    have e : sd (su (su S a (bagO b')) z (.lst (ps.map prt))) z = su S a (bagO b') := by rw [sd_su, sd_none]; rw [su_ne hza]; exact hSz
    rw [e]
    exact q ps b' hk
theorem i_parts {a : Addr} {b : Bag} {p : Str} {S : Sto} {Q : DQ} {X : XQ} (hS : S a = some (bagO b)) (hp : palOk p) (q : ∀ ps b', PartsOk ps → Q (.lst (ps.map prt)) (su S a (bagO b'))) : r_l_parts [.adr a, .str p] S Q X := by unfold r_l_parts; exact ⟨a, b, p, rfl, hS, hp, q⟩
/-! a rule by the law -/
def kindS : Nat → Str
  | 2 => "all"
  | 3 => "count"
  | _ => "same"
def rulT (k : Nat) (hue : Str) (ps : List Part) (nd : Int) : D := .tup [.str (kindS k), .str hue, .lst (ps.map prt), .int nd]
structure LR (k : Nat) (hue : Str) (ps : List Part) (nd : Int) : Prop where
  kd : knd k
  hu : ∃ c, hue = one c ∧ letB c = true
  ok : PartsOk ps
  n0 : 0 ≤ nd
  n1 : nd ≤ (ps.length : Nat)
def t_l_rule : DTS := (dSeq (dSet 2 (dOp oIx (dLst (dCons (dC (.str "all")) (dCons (dC (.str "count")) (dCons (dC (.str "same")) dNil)))) (dCall r_l_take [] (dCons (dVar 0) (dCons (dC (.int 3)) dNil))))) (dSeq (dSet 3 (dOp oIx (dVar 1) (dCall r_l_take [] (dCons (dVar 0) (dCons (dC (.int 3)) dNil))))) (dSeq (dSet 4 (dCall r_l_parts [] (dCons (dVar 0) (dCons (dVar 1) dNil)))) (dSeq (dSet 5 (dCall r_l_take [] (dCons (dVar 0) (dCons (dOp oAdd (dCB (on1 lenD) (dCons (dVar 4) dNil)) (dC (.int 1))) dNil)))) (dCut (dIf (dTestB (dOp oEq (dVar 2) (dC (.str "all")))) (dSet 5 (dCB (on1 lenD) (dCons (dVar 4) dNil))) dNext) (dRet (dTup (dCons (dVar 2) (dCons (dVar 3) (dCons (dVar 4) (dCons (dVar 5) dNil)))))))))))
abbrev N_l_rule : List Str := ["_law_bag_here", "_law_palette_here", "_law_kind", "_law_hue", "_law_parts_here", "_law_need"]
@[irreducible] def r_l_rule : DSp := fun ds S Q _ => ∃ a b p, ds = [.adr a, .str p] ∧ S a = some (bagO b) ∧ palOk p ∧ ∀ k hue ps nd b', LR k hue ps nd → Q (rulT k hue ps nd) (su S a (bagO b'))
theorem len_l_rule : Ln 2 r_l_rule := fun ds S Q E h => by unfold r_l_rule at h; obtain ⟨a, b, c, rfl, _⟩ := h; rfl
theorem kind_at {t : Int} (h0 : 0 ≤ t) (h1 : t < 3) : ∃ k, knd k ∧ ([D.str (Str.ofString "all"), D.str (Str.ofString "count"), D.str (Str.ofString "same")] : List D)[t.toNat]? = some (.str (kindS k)) := by
  have : t = 0 ∨ t = 1 ∨ t = 2 := by omega
  rcases this with rfl | rfl | rfl
  · exact ⟨2, .inl rfl, rfl⟩
  · exact ⟨3, .inr (.inl rfl), rfl⟩
  · exact ⟨4, .inr (.inr rfl), rfl⟩
theorem rd_l_rule : Rd t_l_rule N_l_rule r_l_rule := by
  intro ds S QD XD h
  unfold r_l_rule at h
  obtain ⟨a, b, pal, rfl, hS, hp, q⟩ := h
  row_hasAll w_d
  refine i_take hS (by decide) (by decide) fun v b1 h1 h2 => ?_
  row_hasAll w_d
  obtain ⟨k, hk, ek⟩ := kind_at h1 h2
  refine ik_at h1 ek ?_
  row_hasAll w_d
  refine i_takeB (by decide) (by decide) fun v2 b2 h3 h4 => ?_
  row_hasAll w_d
  obtain ⟨c, ec, lc⟩ := pal3 hp h3 h4
  refine ik_at h3 ec ?_
  row_hasAll w_d
  refine i_parts (b := b2) su_same hp fun ps b3 hps => ?_
  have h8 := hps.le
  row_hasAll w_d
  refine i_takeB (by rw [List.length_map]; omega) (by rw [List.length_map]; omega) fun nd b4 h5 h6 => ?_
  rw [List.length_map] at h6
  row_hasAll w_d
  refine ⟨fun δ S' => ∃ nd b', δ = [some (.adr a), some (.str pal), some (.str (kindS k)), some (.str (one c)), some (.lst (ps.map prt)), some (.int nd)] ∧ S' = su S a (bagO b') ∧ LR k (one c) ps nd, ?_, ?_⟩
  · row_hasAll w_d
    rw [eqB_str]
    refine brP (fun w => ?_) (fun w => ?_)
    · row_hasAll w_d
      exact ⟨_, b4, rfl, rfl, hk, ⟨c, rfl, lc⟩, hps, by omega, by rw [List.length_map]; omega⟩
    · conv => whnf
      exact ⟨nd, b4, rfl, rfl, hk, ⟨c, rfl, lc⟩, hps, h5, by omega⟩
  rintro δ S' ⟨nd, b5, rfl, rfl, hlr⟩
  row_hasAll w_d
  exact q k (one c) ps nd b5 hlr
theorem i_rule {a : Addr} {b : Bag} {p : Str} {S : Sto} {Q : DQ} {X : XQ} (hS : S a = some (bagO b)) (hp : palOk p) (q : ∀ k hue ps nd b', LR k hue ps nd → Q (rulT k hue ps nd) (su S a (bagO b'))) : r_l_rule [.adr a, .str p] S Q X := by unfold r_l_rule; exact ⟨a, b, p, rfl, hS, hp, q⟩
end SM

set_option Elab.async false
set_option linter.all false
set_option maxRecDepth 100000
set_option maxHeartbeats 4000000
--#ONETAC

namespace SM
open PySem PySem.Spec PyProof.Rows L2
/-! ### the law's order of parts -/
def tsw (p : Part) : D := .tup [.int p.2.1, .int p.1, .str p.2.2]
theorem le_tsw {p q : Part} (h : pk p = pk q → p = q) : PySem.W.dataLe false toP (tsw p) (tsw q) = roLe (pk p) (pk q) := by
  obtain ⟨x, y, s⟩ := p
  obtain ⟨x', y', s'⟩ := q
  have e : PySem.W.dataLe false toP (tsw (x, y, s)) (tsw (x', y', s')) = !PyProof.Rows.lexLt itemOrd [.inl 1, .inl y', .inl 1, .inl x', .inl 1, .inr s'.cps.toList, .inl 0] [.inl 1, .inl y, .inl 1, .inl x, .inl 1, .inr s.cps.toList, .inl 0] := rfl
  rw [e]
  by_cases hk : pk (x, y, s) = pk (x', y', s')
  · have := h hk
    cases this
    have e2 : PyProof.Rows.lexLt itemOrd [.inl 1, .inl y, .inl 1, .inl x, .inl 1, .inr s.cps.toList, .inl 0] [.inl 1, .inl y, .inl 1, .inl x, .inl 1, .inr s.cps.toList, .inl 0] = false := lex_irrefl _
    rw [e2]
    simp [roLe, pk]
  · have hne : ¬ (x = x' ∧ y = y') := fun z => hk (by simp [pk, z.1, z.2])
    have L : ∀ (a b : Int) (r t : List (Int ⊕ List Nat)), PyProof.Rows.lexLt itemOrd (.inl a :: r) (.inl b :: t) = (decide (a < b) || (!decide (b < a) && PyProof.Rows.lexLt itemOrd r t)) := fun _ _ _ _ => rfl
    rw [L, L, L, L]
    simp only [roLe, pk]
    by_cases h1 : y' < y
    · have h2 : ¬ y < y' := by omega
      simp [h1, h2]
      omega
    · by_cases h2 : y < y'
      · simp [h1, h2]
      · have h3 : y = y' := by omega
        have h4 : ¬ x = x' := fun z => hne ⟨z, h3⟩
        by_cases h5 : x' < x
        · have h6 : ¬ x < x' := by omega
          simp [h1, h2, h5, h6]
          try omega
        · have h6 : x < x' := by omega
          simp [h1, h2, h5, h6]
          try omega
/-- the parts in order, their signs as they were -/
def rawP (ps : List Part) : List Part := (roSort (ps.map pk)).map fun c => (c.1, c.2, signsAt ps c)
theorem pk_inj {ps : List Part} (hn : (ps.map pk).Nodup) : ∀ p ∈ ps, ∀ q ∈ ps, pk p = pk q → p = q := by
  induction ps with
  | nil => intro p hp; cases hp
  | cons a r ih =>
    rw [List.map_cons, List.nodup_cons] at hn
    intro p hp q hq e
    rcases List.mem_cons.mp hp with h1 | h1
    · rcases List.mem_cons.mp hq with h2 | h2
      · rw [h1, h2]
      · exact absurd (show pk a ∈ r.map pk from List.mem_map.mpr ⟨q, h2, by rw [← e, h1]⟩) hn.1
    · rcases List.mem_cons.mp hq with h2 | h2
      · exact absurd (show pk a ∈ r.map pk from List.mem_map.mpr ⟨p, h1, by rw [e, h2]⟩) hn.1
      · exact ih hn.2 p h1 q h2 e
theorem signsAt_of {ps : List Part} (hn : (ps.map pk).Nodup) {p : Part} (hp : p ∈ ps) : ((pk p).1, (pk p).2, signsAt ps (pk p)) = p := by
  have hf : (ps.find? fun q => decide (pk q = pk p)).isSome = true := by rw [List.find?_isSome]; exact ⟨p, hp, decide_eq_true rfl⟩
  obtain ⟨q, hq⟩ := Option.isSome_iff_exists.mp hf
  have h1 := List.mem_of_find?_eq_some hq
  have h2 : pk q = pk p := of_decide_eq_true (show decide (pk q = pk p) = true from List.find?_some (p := fun q => decide (pk q = pk p)) hq)
  have := pk_inj hn q h1 p hp h2
  unfold signsAt
  rw [hq, this]
  rfl
theorem sorted_tsw {ps : List Part} (hn : (ps.map pk).Nodup) : sorted (ps.map tsw) = (rawP ps).map tsw := by
  have e1 : (ps.mergeSort fun p q => roLe (pk p) (pk q)).map tsw = sorted (ps.map tsw) := by
    unfold sorted
    exact PySem.W.sort_maps (s := PySem.W.dataLe false toP) tsw fun a ha b hb => (le_tsw (pk_inj hn a ha b hb)).symm
  have e2 : (ps.mergeSort fun p q => roLe (pk p) (pk q)).map pk = roSort (ps.map pk) := by
    unfold roSort
    exact PySem.W.sort_maps (s := roLe) pk fun a _ b _ => rfl
  rw [← e1]
  unfold rawP
  rw [← e2, List.map_map, List.map_map]
  refine List.map_congr_left fun p hp => ?_
  have hm : p ∈ ps := (List.mergeSort_perm ..).mem_iff.mp hp
  show tsw p = tsw ((pk p).1, (pk p).2, signsAt ps (pk p))
  rw [signsAt_of hn hm]
theorem srtOk_tsw (ps : List Part) : srtOk (ps.map tsw) := by
  refine ⟨?_, ?_, ?_⟩
  · rw [plns_all, List.all_eq_true]
    intro d hd
    obtain ⟨c, _, rfl⟩ := List.mem_map.mp hd
    rfl
  · rw [List.map_map]
    exact PySem.W.AllAlike.of fun _ _ => by simp [PySem.W.alike, PySem.W.alikeAll, tsw, toP, toPs]
  · rw [List.map_map]
    exact PySem.W.Sortable.tuples fun _ => ⟨_, _, rfl⟩
theorem rawP_len (ps : List Part) : (rawP ps).length = ps.length := by unfold rawP; rw [List.length_map, roSort_len, List.length_map]
theorem sortP_raw (ps : List Part) : sortP ps = (rawP ps).map fun p => (p.1, p.2.1, srtS p.2.2) := by unfold sortP rawP; rw [List.map_map]; rfl
def t_l_sorted_parts : DTS := (dRet (dLc (dItems (dCB (on1 sortD) (dCons (dLc (dItems (dOp oIx (dVar 0) (dC (.int 2)))) (.nm 2) dYes (dTup (dCons (dOp oIx (dVar 2) (dC (.int 1))) (dCons (dOp oIx (dVar 2) (dC (.int 0))) (dCons (dOp oIx (dVar 2) (dC (.int 2))) dNil)))) [2]) dNil))) (.nm 1) dYes (dTup (dCons (dOp oIx (dVar 1) (dC (.int 1))) (dCons (dOp oIx (dVar 1) (dC (.int 0))) (dCons (dOp oIx (dVar 1) (dC (.int 2))) dNil)))) [1]))
abbrev N_l_sorted_parts : List Str := ["_law_rule_here", "_law_part", "_law_one"]
@[irreducible] def r_l_sorted_parts : DSp := fun ds S Q _ => ∃ k hue ps nd, ds = [rulT k hue ps nd] ∧ PartsOk ps ∧ Q (.lst ((rawP ps).map prt)) S
theorem len_l_sorted_parts : Ln 1 r_l_sorted_parts := fun ds S Q E h => by unfold r_l_sorted_parts at h; obtain ⟨k, hue, ps, nd, rfl, _⟩ := h; rfl
theorem rd_l_sorted_parts : Rd t_l_sorted_parts N_l_sorted_parts r_l_sorted_parts := by
  intro ds S QD XD h
  unfold r_l_sorted_parts at h
  obtain ⟨k, hue, ps, nd, rfl, hk, q⟩ := h
  row_hasAll w_d
  refine lk_map (f := tsw) (fun p hp => ⟨_, rfl, fun Q' h => ?_⟩) ?_
  · row_hasAll w_d
    exact h
  row_hasAll w_d
  refine ⟨srtOk_tsw ps, ?_⟩
  rw [sorted_tsw hk.nd]
  row_hasAll w_d
  refine lk_map (f := prt) (fun p hp => ⟨_, rfl, fun Q' h => ?_⟩) ?_
  · row_hasAll w_d
    exact h
  · exact q
theorem i_sorted {k : Nat} {hue : Str} {ps : List Part} {nd : Int} {S : Sto} {Q : DQ} {X : XQ} (hk : PartsOk ps) (q : Q (.lst ((rawP ps).map prt)) S) : r_l_sorted_parts [rulT k hue ps nd] S Q X := by unfold r_l_sorted_parts; exact ⟨k, hue, ps, nd, rfl, hk, q⟩
/-! ### what the law says of a rule -/
theorem kind_same {k : Nat} (hk : knd k) : decide (kindS k = Str.ofString "same") = decide (k = 4) := by rcases hk with rfl | rfl | rfl <;> decide
theorem kind_all {k : Nat} (hk : knd k) : decide (kindS k = Str.ofString "all") = decide (k = 2) := by rcases hk with rfl | rfl | rfl <;> decide
theorem kind_count {k : Nat} (hk : knd k) : decide (kindS k = Str.ofString "count") = decide (k = 3) := by rcases hk with rfl | rfl | rfl <;> decide
def t_l_lays : DTS := (dRet (dOrV (dOp oEq (dOp oIx (dVar 0) (dC (.int 0))) (dC (.str "same"))) (dOp oEq (dOp oIx (dVar 0) (dC (.int 1))) (dVar 1))))
abbrev N_l_lays : List Str := ["_law_rule_here", "_law_hue"]
@[irreducible] def r_l_lays : DSp := fun ds S Q _ => ∃ k hue ps nd s, ds = [rulT k hue ps nd, .str s] ∧ knd k ∧ Q (.bl (decide (k = 4) || decide (hue = s))) S
theorem len_l_lays : Ln 2 r_l_lays := fun ds S Q E h => by unfold r_l_lays at h; obtain ⟨k, hue, ps, nd, s, rfl, _⟩ := h; rfl
theorem rd_l_lays : Rd t_l_lays N_l_lays r_l_lays := by
  intro ds S QD XD h
  unfold r_l_lays at h
  obtain ⟨k, hue, ps, nd, s, rfl, hk, q⟩ := h
  row_hasAll w_d
  rw [eqB_str, kind_same hk]
  refine brP (fun h1 => ?_) (fun h1 => ?_)
  · rw [decide_eq_true h1] at q
    exact q
  · rw [decide_eq_false h1] at q
    row_hasAll w_d
    exact q
theorem i_llays {k : Nat} {hue s : Str} {ps : List Part} {nd : Int} {S : Sto} {Q : DQ} {X : XQ} (hk : knd k) (q : Q (.bl (decide (k = 4) || decide (hue = s))) S) : r_l_lays [rulT k hue ps nd, .str s] S Q X := by unfold r_l_lays; exact ⟨k, hue, ps, nd, s, rfl, hk, q⟩
def t_l_slack : DTS := (dSeq (dIf (dTestB (dOp oEq (dOp oIx (dVar 0) (dC (.int 0))) (dC (.str "all")))) (dRet (dC (.int 0))) dNext) (dRet (dOp oSub (dCB (on1 lenD) (dCons (dOp oIx (dVar 0) (dC (.int 2))) dNil)) (dOp oIx (dVar 0) (dC (.int 3))))))
abbrev N_l_slack : List Str := ["_law_rule_here"]
@[irreducible] def r_l_slack : DSp := fun ds S Q _ => ∃ k hue ps nd, ds = [rulT k hue ps nd] ∧ knd k ∧ Q (.int (if k = 2 then 0 else (ps.length : Nat) - nd)) S
theorem len_l_slack : Ln 1 r_l_slack := fun ds S Q E h => by unfold r_l_slack at h; obtain ⟨k, hue, ps, nd, rfl, _⟩ := h; rfl
theorem rd_l_slack : Rd t_l_slack N_l_slack r_l_slack := by
  intro ds S QD XD h
  unfold r_l_slack at h
  obtain ⟨k, hue, ps, nd, rfl, hk, q⟩ := h
  row_hasAll w_d
  rw [eqB_str, kind_all hk]
  refine brP (fun h1 => ?_) (fun h1 => ?_)
  · rw [if_pos h1] at q
    exact q
  · rw [if_neg h1] at q
    row_hasAll w_d
    rw [List.length_map]
    exact q
theorem i_lslack {k : Nat} {hue : Str} {ps : List Part} {nd : Int} {S : Sto} {Q : DQ} {X : XQ} (hk : knd k) (q : Q (.int (if k = 2 then 0 else (ps.length : Nat) - nd)) S) : r_l_slack [rulT k hue ps nd] S Q X := by unfold r_l_slack; exact ⟨k, hue, ps, nd, rfl, hk, q⟩
def t_l_is_letter : DTS := (dRet (dAndV (dOp oEq (dCB (on1 lenD) (dCons (dVar 0) dNil)) (dC (.int 1))) (dOp oIn (dVar 0) (dC (.str "abcdefghijklmnopqrstuvwxyz")))))
abbrev N_l_is_letter : List Str := ["_law_text"]
@[irreducible] def r_l_is_letter : DSp := fun ds S Q _ => ∃ s, ds = [.str s] ∧ Q (.bl (stoneB s)) S
theorem len_l_is_letter : Ln 1 r_l_is_letter := fun ds S Q E h => by unfold r_l_is_letter at h; obtain ⟨s, rfl, _⟩ := h; rfl
theorem rd_l_is_letter : Rd t_l_is_letter N_l_is_letter r_l_is_letter := by
  intro ds S QD XD h
  unfold r_l_is_letter at h
  obtain ⟨s, rfl, q⟩ := h
  exact rd_p_is_stone [.str s] S QD XD (by unfold r_p_is_stone; exact ⟨s, rfl, q⟩)
theorem i_letter {s : Str} {S : Sto} {Q : DQ} {X : XQ} (q : Q (.bl (stoneB s)) S) : r_l_is_letter [.str s] S Q X := by unfold r_l_is_letter; exact ⟨s, rfl, q⟩
/-- the law's rule, made -/
def mrul (k : Nat) (hue : Str) (ps : List Part) (nd : Int) : D := if k = 4 then rul 4 "" (sortP (placeP (ps.map pk))) nd else rul k hue (sortP ps) nd
theorem place_ok {ps : List Part} (h : PartsOk ps) : badP (placeP (ps.map pk)) = none := by
  refine badPF_none ?_ ?_ fun p hp => ?_
  · unfold placeP; rw [List.length_map, List.length_map]; have := h.le; omega
  · unfold placeP
    rw [List.map_map, List.nil_append]
    have : (pk ∘ fun c : Cell => (c.1, c.2, ("a" : Str))) = id := rfl
    rw [this, List.map_id]
    exact h.nd
  · unfold placeP at hp
    obtain ⟨c, hc, rfl⟩ := List.mem_map.mp hp
    obtain ⟨q, hq, rfl⟩ := List.mem_map.mp hc
    exact ⟨(h.ok q hq).1, by show condB (Str.ofString "a") = true; decide +kernel⟩
theorem LR.out {k : Nat} {hue : Str} {ps : List Part} {nd : Int} (h : LR k hue ps nd) : ruleOut hue ps = none := by
  obtain ⟨c, rfl, hc⟩ := h.hu
  unfold ruleOut
  rw [if_neg (by rw [stone_one, hc]; simp), h.ok.bad]
theorem LR.cout {k : Nat} {hue : Str} {ps : List Part} {nd : Int} (h : LR k hue ps nd) : countOut hue ps nd = none := by
  unfold countOut
  rw [h.out]
  exact if_pos ⟨h.n0, h.n1⟩
theorem LR.sout {k : Nat} {hue : Str} {ps : List Part} {nd : Int} (h : LR k hue ps nd) : countOut "a" (placeP (ps.map pk)) nd = none := by
  have e : ruleOut "a" (placeP (ps.map pk)) = none := by
    unfold ruleOut
    rw [if_neg (by decide +kernel), place_ok h.ok]
  unfold countOut
  rw [e]
  refine if_pos ⟨h.n0, ?_⟩
  unfold placeP
  rw [List.length_map, List.length_map]
  exact h.n1
theorem LR.len {k : Nat} {hue : Str} {ps : List Part} {nd : Int} (h : LR k hue ps nd) : ∀ p ∈ ps, p.2.2.length ≤ 1000 := fun p hp => by have := (h.ok.ok p hp).2.2; omega
def t_l_made : DTS := (dSeq (dIf (dTestB (dOp oEq (dOp oIx (dVar 0) (dC (.int 0))) (dC (.str "all")))) (dRet (dMake mkF 2 r_Rule_init [] (dCons (dOp oIx (dVar 0) (dC (.int 1))) (dCons (dCB (on1 listD) (dCons (dOp oIx (dVar 0) (dC (.int 2))) dNil)) dNil)))) dNext) (dSeq (dIf (dTestB (dOp oEq (dOp oIx (dVar 0) (dC (.int 0))) (dC (.str "count")))) (dRet (dMake mkF 3 r_CountRule_init [] (dCons (dOp oIx (dVar 0) (dC (.int 1))) (dCons (dCB (on1 listD) (dCons (dOp oIx (dVar 0) (dC (.int 2))) dNil)) (dCons (dOp oIx (dVar 0) (dC (.int 3))) dNil))))) dNext) (dRet (dMake mkF 4 r_SameRule_init [] (dCons (dLc (dItems (dOp oIx (dVar 0) (dC (.int 2)))) (.nm 1) dYes (dTup (dCons (dOp oIx (dVar 1) (dC (.int 0))) (dCons (dOp oIx (dVar 1) (dC (.int 1))) dNil))) [1]) (dCons (dOp oIx (dVar 0) (dC (.int 3))) dNil))))))
abbrev N_l_made : List Str := ["_law_rule_here", "_law_part"]
@[irreducible] def r_l_made : DSp := fun ds S Q _ => ∃ k hue ps nd, ds = [rulT k hue ps nd] ∧ LR k hue ps nd ∧ ∀ S', Grow S S' → Q (mrul k hue ps nd) S'
theorem len_l_made : Ln 1 r_l_made := fun ds S Q E h => by unfold r_l_made at h; obtain ⟨k, hue, ps, nd, rfl, _⟩ := h; rfl
theorem rd_l_made : Rd t_l_made N_l_made r_l_made := by
  intro ds S QD XD h
  unfold r_l_made at h
  obtain ⟨k, hue, ps, nd, rfl, hr, q⟩ := h
  have h8 := hr.ok.le
  have ho := hr.out
  have hco := hr.cout
  have hso := hr.sout
  unfold mrul at q
  row_hasAll w_d
  rw [eqB_str, kind_all hr.kd]
  refine brP (fun h1 => ?_) (fun h1 => ?_)
  · subst h1
    row_hasAll w_d
    refine mk_rule (.inl rfl) (by omega) hr.len fun S' hg => ?_
    rw [ho]
    exact q S' hg
  · row_hasAll w_d
    rw [eqB_str, kind_count hr.kd]
    refine brP (fun h2 => ?_) (fun h2 => ?_)
    · subst h2
      row_hasAll w_d
      refine mk_count (.inl rfl) (by omega) hr.len fun S' hg => ?_
      rw [hco]
      exact q S' hg
    · have h4 : k = 4 := by rcases hr.kd with h | h | h <;> omega
      subst h4
      row_hasAll w_d
      refine lk_map (f := fun p : Part => pr (pk p)) (fun p hp => ⟨_, rfl, fun Q' h => ?_⟩) ?_
      · row_hasAll w_d
        exact h
      · have em : ps.map (fun p : Part => pr (pk p)) = (ps.map pk).map pr := by rw [List.map_map]; rfl
        row_hasAll w_d
        rw [em]
        refine mk_same (.inl rfl) (by rw [List.length_map]; omega) fun S' hg => ?_
        rw [hso]
        exact q S' hg
theorem i_made {k : Nat} {hue : Str} {ps : List Part} {nd : Int} {S : Sto} {Q : DQ} {X : XQ} (hr : LR k hue ps nd) (q : ∀ S', Grow S S' → Q (mrul k hue ps nd) S') : r_l_made [rulT k hue ps nd] S Q X := by unfold r_l_made; exact ⟨k, hue, ps, nd, rfl, hr, q⟩
/-- the parts that a rule asks for a stone -/
def dueP (k : Nat) (ps : List Part) (s : Str) : List Part := if k = 4 then withS (rawP ps) s else sortP ps
def t_l_due_parts : DTS := (dSeq (dIf (dTestB (dOp oEq (dOp oIx (dVar 0) (dC (.int 0))) (dC (.str "same")))) (dRet (dLc (dItems (dCall r_l_sorted_parts [] (dCons (dVar 0) dNil))) (.nm 2) dYes (dTup (dCons (dOp oIx (dVar 2) (dC (.int 0))) (dCons (dOp oIx (dVar 2) (dC (.int 1))) (dCons (dVar 1) dNil)))) [2])) dNext) (dRet (dLc (dItems (dCall r_l_sorted_parts [] (dCons (dVar 0) dNil))) (.nm 2) dYes (dTup (dCons (dOp oIx (dVar 2) (dC (.int 0))) (dCons (dOp oIx (dVar 2) (dC (.int 1))) (dCons (dBM .str joinD (dC (.str "")) (dCons (dCB (on1 sortS) (dCons (dOp oIx (dVar 2) (dC (.int 2))) dNil)) dNil)) dNil)))) [2])))
abbrev N_l_due_parts : List Str := ["_law_rule_here", "_law_hue", "_law_part"]
@[irreducible] def r_l_due_parts : DSp := fun ds S Q _ => ∃ k hue ps nd s, ds = [rulT k hue ps nd, .str s] ∧ LR k hue ps nd ∧ Q (.lst ((dueP k ps s).map prt)) S
theorem len_l_due_parts : Ln 2 r_l_due_parts := fun ds S Q E h => by unfold r_l_due_parts at h; obtain ⟨k, hue, ps, nd, s, rfl, _⟩ := h; rfl
theorem signs_len {ps : List Part} (h : PartsOk ps) : ∀ p ∈ rawP ps, p.2.2.length ≤ 30 := fun p hp => by
  unfold rawP at hp
  obtain ⟨c, hc, rfl⟩ := List.mem_map.mp hp
  obtain ⟨q, hq, rfl⟩ := List.mem_map.mp (mem_ro.mp hc)
  rw [signsAt_of h.nd hq]
  exact (h.ok q hq).2.2
theorem rd_l_due_parts : Rd t_l_due_parts N_l_due_parts r_l_due_parts := by
  intro ds S QD XD h
  unfold r_l_due_parts at h
  obtain ⟨k, hue, ps, nd, s, rfl, hr, q⟩ := h
  unfold dueP at q
  row_hasAll w_d
  rw [eqB_str, kind_same hr.kd]
  refine brP (fun h1 => ?_) (fun h1 => ?_)
  · rw [if_pos h1] at q
    row_hasAll w_d
    refine i_sorted hr.ok ?_
    row_hasAll w_d
    refine lk_map (f := fun p : Part => D.tup [.int p.1, .int p.2.1, .str s]) (fun p hp => ⟨_, rfl, fun Q' h => ?_⟩) ?_
    · row_hasAll w_d
      exact h
    · have e : (rawP ps).map (fun p : Part => D.tup [.int p.1, .int p.2.1, .str s]) = (withS (rawP ps) s).map prt := by unfold withS; rw [List.map_map]; rfl
      rw [e]
      exact q
  · rw [if_neg h1] at q
    row_hasAll w_d
    refine i_sorted hr.ok ?_
    row_hasAll w_d
    refine lk_map (f := fun p : Part => D.tup [.int p.1, .int p.2.1, .str (srtS p.2.2)]) (fun p hp => ⟨_, rfl, fun Q' h => ?_⟩) ?_
    · row_hasAll w_d
      rw [sorted_codes, strsD_codes]
      refine ⟨?_, ?_⟩
      · have e0 : (Str.ofString "").length = 0 := rfl
        rw [e0, List.map_map]
        have := sum_le (fun c : Nat => (one c).length) 1 (p.2.2.cps.toList.mergeSort (PySem.W.dataLe false fun c => PyData.str (one c))) (fun _ _ => Nat.le_refl _)
        have hm : (p.2.2.cps.toList.mergeSort (PySem.W.dataLe false fun c => PyData.str (one c))).length = p.2.2.length := by rw [(List.mergeSort_perm ..).length_eq, slen_codes]
        rw [hm] at this
        have := signs_len hr.ok p hp
        simp only [Function.comp_def]
        omega
      exact h
    · have e : (rawP ps).map (fun p : Part => D.tup [.int p.1, .int p.2.1, .str (srtS p.2.2)]) = (sortP ps).map prt := by rw [sortP_raw, List.map_map]; rfl
      rw [e]
      exact q
theorem i_due {k : Nat} {hue s : Str} {ps : List Part} {nd : Int} {S : Sto} {Q : DQ} {X : XQ} (hr : LR k hue ps nd) (q : Q (.lst ((dueP k ps s).map prt)) S) : r_l_due_parts [rulT k hue ps nd, .str s] S Q X := by unfold r_l_due_parts; exact ⟨k, hue, ps, nd, s, rfl, hr, q⟩
def t_l_is_parts : DTS := (dSeq (dIf (dNot (dTru (dUn (isiD ti_list) (dVar 0)))) (dRet (dC (.bl false))) dNext) (dSeq (dFor (dItems (dVar 0)) (.nm 1) (dSeq (dIf (dOr (dNot (dTru (dUn (isiD ti_tuple) (dVar 1)))) (dOr (dTestB (dOp oNe (dCB (on1 lenD) (dCons (dVar 1) dNil)) (dC (.int 3)))) (dNot (dTru (dUn (isiD ti_str) (dOp oIx (dVar 1) (dC (.int 2)))))))) (dRet (dC (.bl false))) dNext) (dIf (dOr (dNot (dTru (dCall r_l_is_int [] (dCons (dOp oIx (dVar 1) (dC (.int 0))) dNil)))) (dNot (dTru (dCall r_l_is_int [] (dCons (dOp oIx (dVar 1) (dC (.int 1))) dNil))))) (dRet (dC (.bl false))) dNext))) (dRet (dC (.bl true)))))
abbrev N_l_is_parts : List Str := ["_law_value", "_law_part"]
@[irreducible] def r_l_is_parts : DSp := fun ds S Q _ => ∃ d, ∃ ps : List Part, ds = [d] ∧ isL S d (ps.map prt) ∧ ps.length ≤ 1000 ∧ Q (.bl true) S
theorem len_l_is_parts : Ln 1 r_l_is_parts := fun ds S Q E h => by unfold r_l_is_parts at h; obtain ⟨d, ps, rfl, _⟩ := h; rfl
theorem rd_l_is_parts : Rd t_l_is_parts N_l_is_parts r_l_is_parts := by
  intro ds S QD XD h
  unfold r_l_is_parts at h
  obtain ⟨d, ps, rfl, hL, hl, q⟩ := h
  rcases hL with rfl | ⟨a, rfl, ha⟩
  · row_hasAll w_d
    refine loop_ofG (gd := none) (g := prt) (fun l δ S' => S' = S ∧ ∃ x, δ = [some (.lst (ps.map prt)), x]) (fun _ _ _ _ => True.intro) ?_ ?_ ⟨rfl, _, rfl⟩
    · rintro p l δ S' ⟨rfl, x, rfl⟩
      refine ⟨_, rfl, fun N hN => ?_⟩
      row_hasAll w_d
      refine i_is_int ?_
      row_hasAll w_d
      refine i_is_int ?_
      row_hasAll w_d
      exact hN _ _ ⟨rfl, _, rfl⟩
    · rintro δ S' ⟨rfl, x, rfl⟩
      exact q
  · row_hasAll w_d
    refine loop_ofG (g := prt) (fun l δ S' => S' = S ∧ ∃ x, δ = [some (.adr a), x]) (fun _ _ _ h => by rw [h.1]; exact ha) ?_ ?_ ⟨rfl, _, rfl⟩
    · rintro p l δ S' ⟨rfl, x, rfl⟩
      refine ⟨_, rfl, fun N hN => ?_⟩
      row_hasAll w_d
      refine i_is_int ?_
      row_hasAll w_d
      refine i_is_int ?_
      row_hasAll w_d
      exact hN _ _ ⟨rfl, _, rfl⟩
    · rintro δ S' ⟨rfl, x, rfl⟩
      exact q
theorem i_is_parts {d : D} {ps : List Part} {S : Sto} {Q : DQ} {X : XQ} (hL : isL S d (ps.map prt)) (hl : ps.length ≤ 1000) (q : Q (.bl true) S) : r_l_is_parts [d] S Q X := by unfold r_l_is_parts; exact ⟨d, ps, rfl, hL, hl, q⟩
--#CALL refine i_llays (by row_hasAll w_side) ?_
--#CALL refine i_lslack (by row_hasAll w_side) ?_
--#CALL refine i_letter ?_
end SM

set_option Elab.async false
set_option linter.all false
set_option maxRecDepth 100000
set_option maxHeartbeats 4000000
--#ONETAC
local macro_rules | `(tactic| row_hasAll w_c) => `(tactic| first
  | refine i_llays (by row_hasAll w_side) ?_
  | refine i_lslack (by row_hasAll w_side) ?_
  | refine i_letter ?_)
namespace SM
open PySem PySem.Spec PyProof.Rows L2
/-! ### refused rules (k11) -/
def badB (p : Part) (es : List Part) : Bool := decide (8 ≤ es.length ∨ offB p.1 p.2.1 = false ∨ pk p ∈ es.map pk ∨ condB p.2.2 = false)
theorem in_abch (c : Nat) : inS (one c) (Str.ofString "#abcdefghijklmnopqrstuvwxyz") = (decide (c = 35) || letB c) := by
  unfold inS letB
  have e1 : (one c).cps.toList = [c] := rfl
  rw [e1]
  show decide (c ∈ [35, 97, 98, 99, 100, 101, 102, 103, 104, 105, 106, 107, 108, 109, 110, 111, 112, 113, 114, 115, 116, 117, 118, 119, 120, 121, 122]) = (decide (c = 35) || decide (97 ≤ c ∧ c ≤ 122))
  rw [Bool.eq_iff_iff]
  simp
  omega
def t_l_bad_part : DTS := (dCut (dIf (dAnd (dTestB (dOp oEq (dOp oIx (dVar 0) (dC (.int 0))) (dC (.int 0)))) (dTestB (dOp oEq (dOp oIx (dVar 0) (dC (.int 1))) (dC (.int 0))))) (dRet (dC (.bl true))) dNext) (dCut (dIf (dOr (dTestB (dOp oLt (dOp oIx (dVar 0) (dC (.int 0))) (dNeg (dC (.int 3))))) (dOr (dTestB (dOp oGt (dOp oIx (dVar 0) (dC (.int 0))) (dC (.int 3)))) (dOr (dTestB (dOp oLt (dOp oIx (dVar 0) (dC (.int 1))) (dNeg (dC (.int 3))))) (dTestB (dOp oGt (dOp oIx (dVar 0) (dC (.int 1))) (dC (.int 3))))))) (dRet (dC (.bl true))) dNext) (dCut (dIf (dOr (dTestB (dOp oIn (dTup (dCons (dOp oIx (dVar 0) (dC (.int 0))) (dCons (dOp oIx (dVar 0) (dC (.int 1))) dNil))) (dLc (dItems (dVar 1)) (.nm 2) dYes (dTup (dCons (dOp oIx (dVar 2) (dC (.int 0))) (dCons (dOp oIx (dVar 2) (dC (.int 1))) dNil))) [2]))) (dTestB (dOp oEq (dOp oIx (dVar 0) (dC (.int 2))) (dC (.str ""))))) (dRet (dC (.bl true))) dNext) (dSeq (dFor (dRng1 (dCons (dCB (on1 lenD) (dCons (dOp oIx (dVar 0) (dC (.int 2))) dNil)) dNil)) (.nm 3) (dIf (dOr (dTestB (dOp oIn (dOp oIx (dOp oIx (dVar 0) (dC (.int 2))) (dVar 3)) (dSl oSl (dOp oIx (dVar 0) (dC (.int 2))) dNoPart (dPart (dVar 3))))) (dTestB (dOp oNotIn (dOp oIx (dOp oIx (dVar 0) (dC (.int 2))) (dVar 3)) (dC (.str "#abcdefghijklmnopqrstuvwxyz"))))) (dRet (dC (.bl true))) dNext)) (dRet (dOp oGt (dCB (on1 lenD) (dCons (dVar 1) dNil)) (dC (.int 7))))))))
abbrev N_l_bad_part : List Str := ["_law_part", "_law_earlier", "_law_one", "_law_k"]
@[irreducible] def r_l_bad_part : DSp := fun ds S Q _ => ∃ p es, ds = [prt p, .lst (es.map prt)] ∧ es.length ≤ 1000 ∧ p.2.2.length ≤ 1000 ∧ Q (.bl (badB p es)) S
theorem len_l_bad_part : Ln 2 r_l_bad_part := fun ds S Q E h => by unfold r_l_bad_part at h; obtain ⟨p, es, rfl, _⟩ := h; rfl
theorem rd_l_bad_part : Rd t_l_bad_part N_l_bad_part r_l_bad_part := by
  intro ds S QD XD h
  unfold r_l_bad_part at h
  obtain ⟨p, es, rfl, hl, hs, q⟩ := h
  have yes : (8 ≤ es.length ∨ offB p.1 p.2.1 = false ∨ pk p ∈ es.map pk ∨ condB p.2.2 = false) → QD (.bl true) S := fun hc => by unfold badB at q; rw [decide_eq_true hc] at q; exact q
  have offN : ∀ {x y : Int}, ¬ (¬ (x = 0 ∧ y = 0) ∧ -3 ≤ x ∧ x ≤ 3 ∧ -3 ≤ y ∧ y ≤ 3) → offB x y = false := fun h => decide_eq_false h
  have em : es.map (fun p : Part => pr (pk p)) = (es.map pk).map pr := by rw [List.map_map]; rfl
  have hz := sizeLine_eq
  conv => whnf
  refine ⟨fun δ S' => S' = S ∧ δ = [some (prt p), some (.lst (es.map prt)), none, none] ∧ ¬ (p.1 = 0 ∧ p.2.1 = 0), ?_, ?_⟩
  · row_hasAll w_d
    rw [eqB_int]
    refine brP (fun h1 => ?_) (fun h1 => ?_)
    · row_hasAll w_d
      rw [eqB_int]
      refine brP (fun h2 => ?_) (fun h2 => ?_)
      · row_hasAll w_d
        exact yes (.inr (.inl (offN fun z => z.1 ⟨h1, h2⟩)))
      · conv => whnf
        exact ⟨rfl, rfl, fun z => h2 z.2⟩
    · refine brF ?_
      conv => whnf
      exact ⟨rfl, rfl, fun z => h1 z.1⟩
  rintro δ S' ⟨rfl, rfl, hn0⟩
  conv => whnf
  refine ⟨fun δ S2 => S2 = S' ∧ δ = [some (prt p), some (.lst (es.map prt)), none, none] ∧ offB p.1 p.2.1 = true, ?_, ?_⟩
  · row_hasAll w_d
    refine brP (fun h1 => ?_) (fun h1 => ?_)
    · row_hasAll w_d
      exact yes (.inr (.inl (offN fun z => by omega)))
    row_hasAll w_d
    refine brP (fun h2 => ?_) (fun h2 => ?_)
    · row_hasAll w_d
      exact yes (.inr (.inl (offN fun z => by omega)))
    row_hasAll w_d
    refine brP (fun h3 => ?_) (fun h3 => ?_)
    · row_hasAll w_d
      exact yes (.inr (.inl (offN fun z => by omega)))
    row_hasAll w_d
    refine brP (fun h4 => ?_) (fun h4 => ?_)
    · row_hasAll w_d
      exact yes (.inr (.inl (offN fun z => by omega)))
    · conv => whnf
      exact ⟨rfl, rfl, decide_eq_true ⟨hn0, by omega, by omega, by omega, by omega⟩⟩
  rintro δ S2 ⟨rfl, rfl, hoff⟩
  conv => whnf
  refine ⟨fun δ S3 => S3 = S2 ∧ δ = [some (prt p), some (.lst (es.map prt)), none, none] ∧ pk p ∉ es.map pk ∧ 0 < p.2.2.length, ?_, ?_⟩
  · row_hasAll w_d
    refine lk_map (f := fun p : Part => pr (pk p)) (fun p hp => ⟨_, rfl, fun Q' h => ?_⟩) ?_
    · row_hasAll w_d
      exact h
    rw [em]
    conv => whnf
    refine vk_lst ?_
    conv => whnf
    rw [show D.tup [D.int p.1, D.int p.2.1] = pr (pk p) from rfl, inB_prs]
    refine brP (fun h1 => ?_) (fun h1 => ?_)
    · row_hasAll w_d
      exact yes (.inr (.inr (.inl h1)))
    row_hasAll w_d
    rw [eqB_str]
    refine brP (fun h2 => ?_) (fun h2 => ?_)
    · row_hasAll w_d
      refine yes (.inr (.inr (.inr ?_)))
      rw [h2]
      decide +kernel
    · conv => whnf
      refine ⟨rfl, rfl, h1, ?_⟩
      rcases Nat.eq_zero_or_pos p.2.2.length with h | h
      · exfalso
        apply h2
        refine str_ext ?_
        have := slen_codes p.2.2
        rw [h] at this
        rw [List.length_eq_zero_iff.mp this]
        rfl
      · exact h
  rintro δ S3 ⟨rfl, rfl, hk, hpos⟩
  have hsl := slen_codes p.2.2
  row_hasAll w_d
  refine loop_of (xs := List.range ((p.2.2.length : Int) - 0).toNat) (g := fun i : Nat => D.int (0 + (i : Nat))) (fun l δ S' => S' = S3 ∧ (∃ x, δ = [some (prt p), some (.lst (es.map prt)), none, x]) ∧ ∃ i, l = List.range' i (p.2.2.length - i) ∧ i ≤ p.2.2.length ∧ cdF (p.2.2.cps.toList.take i) (p.2.2.cps.toList.drop i) = cdF [] p.2.2.cps.toList) ?_ ?_ ?_
  rotate_left 2
  · exact ⟨rfl, ⟨_, rfl⟩, 0, by rw [List.range_eq_range', Int.sub_zero, Int.toNat_natCast, Nat.sub_zero], Nat.zero_le _, rfl⟩
  · rintro k l δ S' ⟨rfl, ⟨x, rfl⟩, i, el, hi, ec⟩
    have hlt : i < p.2.2.length := by
      rcases Nat.lt_or_ge i p.2.2.length with h | h
      · exact h
      · rw [show p.2.2.length - i = 0 by omega] at el; cases el
    obtain ⟨m, hm⟩ : ∃ m, p.2.2.length - i = m + 1 := ⟨p.2.2.length - i - 1, by omega⟩
    rw [hm, List.range'_succ] at el
    simp only [List.cons.injEq] at el
    obtain ⟨rfl, rfl⟩ := el
    have hlt2 : k < p.2.2.cps.toList.length := by omega
    rw [List.drop_eq_getElem_cons hlt2, cdF, List.take_append_getElem hlt2] at ec
    refine ⟨_, rfl, fun N hN => ?_⟩
    have nope : cdF [] p.2.2.cps.toList = false → QD (.bl true) S' := fun e => yes (.inr (.inr (.inr (by unfold condB; rw [e]; rfl))))
    have ei : inS (one p.2.2.cps.toList[k]) (cutS p.2.2 none (some (0 + (k : Nat)))) = decide (p.2.2.cps.toList[k] ∈ p.2.2.cps.toList.take k) := by
      unfold inS
      have e1 : (one p.2.2.cps.toList[k]).cps.toList = [p.2.2.cps.toList[k]] := rfl
      rw [e1, Int.zero_add, cut_take (by omega)]
    have hix : p.2.2.cps.toList[(0 + ((k : Nat) : Int)).toNat]? = some p.2.2.cps.toList[k] := by
      rw [Int.zero_add, Int.toNat_natCast]; exact List.getElem?_eq_getElem hlt2
    row_hasAll w_d
    refine ik_at (i := 0 + ((k : Nat) : Int)) (by omega) hix ?_
    row_hasAll w_d
    rw [ei]
    cases h1 : decide (p.2.2.cps.toList[k] ∈ p.2.2.cps.toList.take k) with
    | true =>
      rw [h1] at ec
      row_hasAll w_d
      exact nope ec.symm
    | false =>
      rw [h1] at ec
      row_hasAll w_d
      refine ik_at (i := 0 + ((k : Nat) : Int)) (by omega) hix ?_
      row_hasAll w_d
      rw [in_abch]
      cases h2 : (decide (p.2.2.cps.toList[k] = 35) || letB p.2.2.cps.toList[k]) with
      | true =>
        rw [h2] at ec
        row_hasAll w_d
        exact hN _ _ ⟨rfl, ⟨_, rfl⟩, k + 1, by congr 1; omega, hlt, ec⟩
      | false =>
        rw [h2] at ec
        row_hasAll w_d
        exact nope ec.symm
  · rintro δ S' ⟨rfl, ⟨x, rfl⟩, i, el, hi, ec⟩
    have ei : i = p.2.2.length := by
      rcases Nat.lt_or_ge i p.2.2.length with h | h
      · obtain ⟨m, hm⟩ : ∃ m, p.2.2.length - i = m + 1 := ⟨p.2.2.length - i - 1, by omega⟩
        rw [hm, List.range'_succ] at el; cases el
      · omega
    rw [ei, List.drop_eq_nil_of_le (by omega), cdF] at ec
    have hcd : condB p.2.2 = true := by unfold condB; rw [← ec, Bool.true_and]; exact decide_eq_true hpos
    row_hasAll w_d
    unfold badB at q
    rw [List.length_map]
    have ee : decide (8 ≤ es.length ∨ offB p.1 p.2.1 = false ∨ pk p ∈ es.map pk ∨ condB p.2.2 = false) = decide ((7 : Int) < ((es.length : Nat) : Int)) := by
      refine decide_eq_decide.mpr ⟨fun h => ?_, fun h => .inl (by omega)⟩
      rcases h with h | h | h | h
      · omega
      · rw [hoff] at h; cases h
      · exact absurd h hk
      · rw [hcd] at h; cases h
    rw [ee] at q
    exact q
theorem i_badpart {p : Part} {es : List Part} {S : Sto} {Q : DQ} {X : XQ} (hl : es.length ≤ 1000) (hs : p.2.2.length ≤ 1000) (q : Q (.bl (badB p es)) S) : r_l_bad_part [prt p, .lst (es.map prt)] S Q X := by unfold r_l_bad_part; exact ⟨p, es, rfl, hl, hs, q⟩
def faultF (k : Nat) (st : Str) (ps : List Part) (nd : Int) : Int := if k ≠ 4 ∧ stoneB st = false then 0 else match badP ps with
  | some n => (n : Nat)
  | none => if nd < 0 ∨ nd > (ps.length : Nat) then 0 else -1
theorem cutD_take {α : Type} (f : α → D) {l : List α} {i : Nat} (h : i ≤ l.length) : cutD (l.map f) none (some (i : Nat)) = (l.take i).map f := by
  unfold cutD
  have s1 : HT.sIx (l.map f).length 0 none = 0 := rfl
  rw [s1, sIx_hi (by omega) (by rw [List.length_map]; omega), List.drop_zero, Nat.sub_zero, Int.toNat_natCast, List.map_take]
def t_l_fault : DTS := (dCut (dIf (dAnd (dTestB (dOp oNe (dOp oIx (dVar 0) (dC (.int 0))) (dC (.str "same")))) (dNot (dTru (dCall r_l_is_letter [] (dCons (dOp oIx (dVar 0) (dC (.int 1))) dNil))))) (dRet (dC (.int 0))) dNext) (dSeq (dFor (dRng1 (dCons (dCB (on1 lenD) (dCons (dOp oIx (dVar 0) (dC (.int 2))) dNil)) dNil)) (.nm 1) (dIf (dTru (dCall r_l_bad_part [] (dCons (dOp oIx (dOp oIx (dVar 0) (dC (.int 2))) (dVar 1)) (dCons (dSl oSl (dOp oIx (dVar 0) (dC (.int 2))) dNoPart (dPart (dVar 1))) dNil)))) (dRet (dOp oAdd (dVar 1) (dC (.int 1)))) dNext)) (dSeq (dIf (dOr (dTestB (dOp oLt (dOp oIx (dVar 0) (dC (.int 3))) (dC (.int 0)))) (dTestB (dOp oGt (dOp oIx (dVar 0) (dC (.int 3))) (dCB (on1 lenD) (dCons (dOp oIx (dVar 0) (dC (.int 2))) dNil))))) (dRet (dC (.int 0))) dNext) (dRet (dNeg (dC (.int 1)))))))
abbrev N_l_fault : List Str := ["_law_rule_here", "_law_k"]
@[irreducible] def r_l_fault : DSp := fun ds S Q _ => ∃ k st ps nd, ds = [rulT k st ps nd] ∧ knd k ∧ ps.length ≤ 1000 ∧ (∀ p ∈ ps, p.2.2.length ≤ 1000) ∧ Q (.int (faultF k st ps nd)) S
theorem len_l_fault : Ln 1 r_l_fault := fun ds S Q E h => by unfold r_l_fault at h; obtain ⟨k, st, ps, nd, rfl, _⟩ := h; rfl
theorem rd_l_fault : Rd t_l_fault N_l_fault r_l_fault := by
  intro ds S QD XD h
  unfold r_l_fault at h
  obtain ⟨k, st, ps, nd, rfl, hk, hl, hs, q⟩ := h
  unfold faultF at q
  have hz := sizeLine_eq
  conv => whnf
  refine ⟨fun δ S' => S' = S ∧ δ = [some (rulT k st ps nd), none] ∧ ¬ (k ≠ 4 ∧ stoneB st = false), ?_, ?_⟩
  · row_hasAll w_d
    rw [eqB_str, kind_same hk]
    by_cases h4 : k = 4
    · rw [decide_eq_true h4]
      row_hasAll w_d
      exact fun z => z.1 h4
    · rw [decide_eq_false h4]
      row_hasAll w_d
      refine i_letter ?_
      cases hst : stoneB st with
      | true =>
        row_hasAll w_d
        exact fun z => by simp at z
      | false =>
        rw [if_pos ⟨h4, hst⟩] at q
        row_hasAll w_d
        exact q
  rintro δ S' ⟨rfl, rfl, hc⟩
  rw [if_neg hc] at q
  row_hasAll w_d
  rw [List.length_map]
  refine ⟨by omega, ?_⟩
  refine loop_of (xs := List.range ((ps.length : Int) - 0).toNat) (g := fun i : Nat => D.int (0 + (i : Nat))) (fun l δ S2 => S2 = S' ∧ (∃ x, δ = [some (rulT k st ps nd), x]) ∧ ∃ i, l = List.range' i (ps.length - i) ∧ i ≤ ps.length ∧ badPF i ((ps.take i).map pk) (ps.drop i) = badP ps) ?_ ?_ ?_
  rotate_left 2
  · exact ⟨rfl, ⟨_, rfl⟩, 0, by rw [List.range_eq_range', Int.sub_zero, Int.toNat_natCast, Nat.sub_zero], Nat.zero_le _, rfl⟩
  · rintro j l δ S2 ⟨rfl, ⟨x, rfl⟩, i, el, hi, ec⟩
    have hlt : i < ps.length := by
      rcases Nat.lt_or_ge i ps.length with h | h
      · exact h
      · rw [show ps.length - i = 0 by omega] at el; cases el
    obtain ⟨m, hm⟩ : ∃ m, ps.length - i = m + 1 := ⟨ps.length - i - 1, by omega⟩
    rw [hm, List.range'_succ] at el
    simp only [List.cons.injEq] at el
    obtain ⟨rfl, rfl⟩ := el
    rw [List.drop_eq_getElem_cons hlt, badPF] at ec
    refine ⟨_, rfl, fun N hN => ?_⟩
    have hix : (ps.map prt)[(0 + ((j : Nat) : Int)).toNat]? = some (prt ps[j]) := by
      rw [Int.zero_add, Int.toNat_natCast, List.getElem?_map, List.getElem?_eq_getElem hlt]; rfl
    have ecut : cutD (ps.map prt) none (some (0 + (j : Nat))) = (ps.take j).map prt := by rw [Int.zero_add]; exact cutD_take prt (by omega)
    row_hasAll w_d
    refine ik_at (i := 0 + ((j : Nat) : Int)) (by omega) hix ?_
    row_hasAll w_d
    rw [ecut]
    refine i_badpart (by rw [List.length_take]; omega) (hs _ (List.getElem_mem hlt)) ?_
    unfold badB
    have hlt2 : (ps.take j).length = j := by rw [List.length_take]; omega
    rw [hlt2]
    by_cases hcc : 8 ≤ j ∨ offB ps[j].1 ps[j].2.1 = false ∨ pk ps[j] ∈ (ps.take j).map pk ∨ condB ps[j].2.2 = false
    · rw [if_pos hcc] at ec
      rw [decide_eq_true hcc]
      rw [← ec] at q
      row_hasAll w_d
      rw [Int.zero_add]
      exact q
    · rw [if_neg hcc] at ec
      rw [decide_eq_false hcc]
      row_hasAll w_d
      refine hN _ _ ⟨rfl, ⟨_, rfl⟩, j + 1, by congr 1; omega, hlt, ?_⟩
      rw [← ec, ← List.take_append_getElem hlt, List.map_append]
      rfl
  · rintro δ S2 ⟨rfl, ⟨x, rfl⟩, i, el, hi, ec⟩
    have ei : i = ps.length := by
      rcases Nat.lt_or_ge i ps.length with h | h
      · obtain ⟨m, hm⟩ : ∃ m, ps.length - i = m + 1 := ⟨ps.length - i - 1, by omega⟩
        rw [hm, List.range'_succ] at el; cases el
      · omega
    rw [ei, List.drop_eq_nil_of_le (Nat.le_refl _), badPF] at ec
    rw [← ec] at q
    row_hasAll w_d
    refine brP (fun h1 => ?_) (fun h1 => ?_)
    · row_hasAll w_d
      dsimp only at q
      rw [if_pos (.inl h1)] at q
      exact q
    row_hasAll w_d
    rw [List.length_map]
    refine brP (fun h2 => ?_) (fun h2 => ?_)
    · row_hasAll w_d
      dsimp only at q
      rw [if_pos (.inr h2)] at q
      exact q
    · row_hasAll w_d
      dsimp only at q
      rw [if_neg (fun z => z.elim h1 h2)] at q
      exact q
theorem i_fault {k : Nat} {st : Str} {ps : List Part} {nd : Int} {S : Sto} {Q : DQ} {X : XQ} (hk : knd k) (hl : ps.length ≤ 1000) (hs : ∀ p ∈ ps, p.2.2.length ≤ 1000) (q : Q (.int (faultF k st ps nd)) S) : r_l_fault [rulT k st ps nd] S Q X := by unfold r_l_fault; exact ⟨k, st, ps, nd, rfl, hk, hl, hs, q⟩
def outK (k : Nat) (st : Str) (ps : List Part) (nd : Int) : Option Nat := if k = 2 then ruleOut st ps else if k = 3 then countOut st ps nd else countOut "a" (placeP (ps.map pk)) nd
def t_l_made_k11 : DTS := (dSeq (dIf (dTestB (dOp oEq (dOp oIx (dVar 0) (dC (.int 0))) (dC (.str "all")))) (dRet (dMake mkF 2 r_Rule_init [] (dCons (dOp oIx (dVar 0) (dC (.int 1))) (dCons (dCB (on1 listD) (dCons (dOp oIx (dVar 0) (dC (.int 2))) dNil)) dNil)))) dNext) (dSeq (dIf (dTestB (dOp oEq (dOp oIx (dVar 0) (dC (.int 0))) (dC (.str "count")))) (dRet (dMake mkF 3 r_CountRule_init [] (dCons (dOp oIx (dVar 0) (dC (.int 1))) (dCons (dCB (on1 listD) (dCons (dOp oIx (dVar 0) (dC (.int 2))) dNil)) (dCons (dOp oIx (dVar 0) (dC (.int 3))) dNil))))) dNext) (dRet (dMake mkF 4 r_SameRule_init [] (dCons (dLc (dItems (dOp oIx (dVar 0) (dC (.int 2)))) (.nm 1) dYes (dTup (dCons (dOp oIx (dVar 1) (dC (.int 0))) (dCons (dOp oIx (dVar 1) (dC (.int 1))) dNil))) [1]) (dCons (dOp oIx (dVar 0) (dC (.int 3))) dNil))))))
abbrev N_l_made_k11 : List Str := ["_law_rule_here", "_law_part"]
@[irreducible] def r_l_made_k11 : DSp := fun ds S Q X => ∃ k st ps nd, ds = [rulT k st ps nd] ∧ knd k ∧ ps.length ≤ 1000 ∧ (∀ p ∈ ps, p.2.2.length ≤ 1000) ∧ ∀ S', Grow S S' → match outK k st ps nd with
  | none => Q (mrul k st ps nd) S'
  | some n => X ⟨22, [.int (n : Nat)]⟩ S'
theorem len_l_made_k11 : Ln 1 r_l_made_k11 := fun ds S Q E h => by unfold r_l_made_k11 at h; obtain ⟨k, hue, ps, nd, rfl, _⟩ := h; rfl
theorem rd_l_made_k11 : Rd t_l_made_k11 N_l_made_k11 r_l_made_k11 := by
  intro ds S QD XD h
  unfold r_l_made_k11 at h
  obtain ⟨k, hue, ps, nd, rfl, hk, hl, hs, q⟩ := h
  unfold mrul outK at q
  row_hasAll w_d
  rw [eqB_str, kind_all hk]
  refine brP (fun h1 => ?_) (fun h1 => ?_)
  · subst h1
    row_hasAll w_d
    exact mk_rule (.inl rfl) (by omega) hs fun S' hg => q S' hg
  · row_hasAll w_d
    rw [eqB_str, kind_count hk]
    refine brP (fun h2 => ?_) (fun h2 => ?_)
    · subst h2
      row_hasAll w_d
      exact mk_count (.inl rfl) (by omega) hs fun S' hg => q S' hg
    · have h4 : k = 4 := by rcases hk with h | h | h <;> omega
      subst h4
      row_hasAll w_d
      refine lk_map (f := fun p : Part => pr (pk p)) (fun p hp => ⟨_, rfl, fun Q' h => ?_⟩) ?_
      · row_hasAll w_d
        exact h
      · have em : ps.map (fun p : Part => pr (pk p)) = (ps.map pk).map pr := by rw [List.map_map]; rfl
        row_hasAll w_d
        rw [em]
        exact mk_same (.inl rfl) (by rw [List.length_map]; omega) fun S' hg => q S' hg
theorem i_made11 {k : Nat} {st : Str} {ps : List Part} {nd : Int} {S : Sto} {Q : DQ} {X : XQ} (hk : knd k) (hl : ps.length ≤ 1000) (hs : ∀ p ∈ ps, p.2.2.length ≤ 1000) (q : ∀ S', Grow S S' → match outK k st ps nd with
  | none => Q (mrul k st ps nd) S'
  | some n => X ⟨22, [.int (n : Nat)]⟩ S') : r_l_made_k11 [rulT k st ps nd] S Q X := by unfold r_l_made_k11; exact ⟨k, st, ps, nd, rfl, hk, hl, hs, q⟩
theorem mlenG {k : Nat} {st : Str} {ps : List Part} {nd : Int} {S : Sto} {Q : DQ} (hk : knd k) (hl : ps.length ≤ 1000) (q : Q (.int (ps.length : Nat)) S) : lenT [(2, r_Rule_len), (3, r_Rule_len), (4, r_Rule_len)] (mrul k st ps nd) S Q := by
  have e4 : (sortP (placeP (ps.map pk))).length = ps.length := by rw [sortP_len]; unfold placeP; rw [List.length_map, List.length_map]
  unfold lenT
  rcases hk with rfl | rfl | rfl
  · refine vk_ins ?_
    show r_Rule_len [rul 2 st (sortP ps) nd] S _ _
    unfold r_Rule_len
    refine ⟨2, st, sortP ps, nd, rfl, .inl rfl, ?_⟩
    rw [sortP_len]
    exact ⟨⟨by omega, by omega⟩, q⟩
  · refine vk_ins ?_
    show r_Rule_len [rul 3 st (sortP ps) nd] S _ _
    unfold r_Rule_len
    refine ⟨3, st, sortP ps, nd, rfl, .inr (.inl rfl), ?_⟩
    rw [sortP_len]
    exact ⟨⟨by omega, by omega⟩, q⟩
  · refine vk_ins ?_
    show r_Rule_len [rul 4 "" (sortP (placeP (ps.map pk))) nd] S _ _
    unfold r_Rule_len
    refine ⟨4, "", _, nd, rfl, .inr (.inr rfl), ?_⟩
    rw [e4]
    exact ⟨⟨by omega, by omega⟩, q⟩
def partOf (k : Nat) (st : Str) (ps : List Part) (nd : Int) : Int := match outK k st ps nd with
  | some n => (n : Nat)
  | none => -1
def t_l_part_of : DTS := (dSeq (dTryAs [(22, true)] 2 (dSet 1 (dCall r_l_made_k11 [] (dCons (dVar 0) dNil))) (fun a_ d_ c_ => (dSeq (dIf (dOr (dNot (dTru (dIsE [(22, true)] a_ d_ c_ (dVar 2)))) (dOr (dTru (dIsE [(22, false)] a_ d_ c_ (dVar 2))) (dNot (dTru (dCall r_l_is_int [] (dCons (dXf [(22, 0)] a_ d_ c_ (dVar 2)) dNil)))))) (dRet (dNeg (dC (.int 2)))) dNext) (dRet (dXf [(22, 0)] a_ d_ c_ (dVar 2)))))) (dSeq (dIf (dTestB (dOp oNe (dCB (on1 (lenT [(2, r_Rule_len), (3, r_Rule_len), (4, r_Rule_len)])) (dCons (dVar 1) dNil)) (dCB (on1 lenD) (dCons (dOp oIx (dVar 0) (dC (.int 2))) dNil)))) (dRet (dNeg (dC (.int 2)))) dNext) (dRet (dNeg (dC (.int 1))))))
abbrev N_l_part_of : List Str := ["_law_rule_here", "_law_made_here", "e"]
@[irreducible] def r_l_part_of : DSp := fun ds S Q _ => ∃ k st ps nd, ds = [rulT k st ps nd] ∧ knd k ∧ ps.length ≤ 1000 ∧ (∀ p ∈ ps, p.2.2.length ≤ 1000) ∧ ∀ S', Grow S S' → Q (.int (partOf k st ps nd)) S'
theorem len_l_part_of : Ln 1 r_l_part_of := fun ds S Q E h => by unfold r_l_part_of at h; obtain ⟨k, hue, ps, nd, rfl, _⟩ := h; rfl
theorem rd_l_part_of : Rd t_l_part_of N_l_part_of r_l_part_of := by
  intro ds S QD XD h
  unfold r_l_part_of at h
  obtain ⟨k, st, ps, nd, rfl, hk, hl, hs, q⟩ := h
  unfold partOf at q
  row_hasAll w_d
  refine i_made11 hk hl hs fun S' hg => ?_
  have q := q S' hg
  cases hb : outK k st ps nd with
  | none =>
    rw [hb] at q
    row_hasAll w_d
    refine mlenG hk hl ?_
    row_hasAll w_d
    rw [List.length_map, eqB_int, dec_t rfl]
    row_hasAll w_d
    exact q
  | some n =>
    rw [hb] at q
    row_hasAll w_d
    intro a d
    row_hasAll w_d
    refine i_is_int ?_
    row_hasAll w_d
    exact q
theorem i_partOf {k : Nat} {st : Str} {ps : List Part} {nd : Int} {S : Sto} {Q : DQ} {X : XQ} (hk : knd k) (hl : ps.length ≤ 1000) (hs : ∀ p ∈ ps, p.2.2.length ≤ 1000) (q : ∀ S', Grow S S' → Q (.int (partOf k st ps nd)) S') : r_l_part_of [rulT k st ps nd] S Q X := by unfold r_l_part_of; exact ⟨k, st, ps, nd, rfl, hk, hl, hs, q⟩
end SM

set_option Elab.async false
set_option linter.all false
set_option maxRecDepth 100000
set_option maxHeartbeats 4000000
--#ONETAC

namespace SM
open PySem PySem.Spec PyProof.Rows L2
def t_l_subset : DTS := (dSeq (dSet 3 (dLstO dNil)) (dSeq (dFor (dItems (dVar 1)) (.nm 4) (dSeq (dSet 5 (dCall r_l_take [] (dCons (dVar 0) (dCons (dVar 2) dNil)))) (dIf (dTestB (dOp oEq (dVar 5) (dC (.int 0)))) (dDrop (dBM .lst appD (dVar 3) (dCons (dVar 4) dNil))) dNext))) (dRet (dVarM 3))))
abbrev N_l_subset : List Str := ["_law_bag_here", "_law_cells", "_law_share", "_law_found", "_law_cell", "_law_pick"]
@[irreducible] def r_l_subset : DSp := fun ds S Q _ => ∃ a b n, ∃ cs : List Cell, ds = [.adr a, .lst (cs.map pr), .int n] ∧ S a = some (bagO b) ∧ 0 < n ∧ n ≤ 1000 ∧ cs.length ≤ 1000 ∧ ∀ (fs : List Cell) b', fs.Sublist cs → Q (.lst (fs.map pr)) (su S a (bagO b'))
theorem len_l_subset : Ln 3 r_l_subset := fun ds S Q E h => by unfold r_l_subset at h; obtain ⟨a, b, n, cs, rfl, _⟩ := h; rfl
theorem rd_l_subset : Rd t_l_subset N_l_subset r_l_subset := by
  intro ds S QD XD h
  unfold r_l_subset at h
  obtain ⟨a, b, n, cs, rfl, hS, h0, h1, hl, q⟩ := h
  row_hasAll w_d
  intro p hp
  have hpa : p ≠ a := fun e => by rw [e, hS] at hp; cases hp
  row_hasAll w_d
  refine loop_of (fun r δ S' => ∃ x y b', ∃ fs pre : List Cell, δ = [some (.adr a), some (.lst (cs.map pr)), some (.int n), some (.adr p), x, y] ∧ S' = su (su S a (bagO b')) p (.lst (fs.map pr)) ∧ pre ++ r = cs ∧ fs.Sublist pre) ?_ ?_ ?_
  rotate_left 2
  · exact ⟨_, _, b, [], [], rfl, by rw [su_self hS]; rfl, rfl, List.Sublist.slnil⟩
  · rintro c r δ S' ⟨x, y, b', fs, pre, rfl, rfl, e, hs⟩
    refine ⟨_, rfl, fun N hN => ?_⟩
    have fin : ∀ b3 : Bag, su (su (su S a (bagO b')) p (.lst (fs.map pr))) a (bagO b3) = su (su S a (bagO b3)) p (.lst (fs.map pr)) := fun b3 => by row_hasAll w_steq
    have hlen : fs.length ≤ 1000 := by
      have := hs.length_le
      have e2 : pre.length + (r.length + 1) = cs.length := by rw [← e]; simp
      omega
    row_hasAll w_d
    refine i_take (b := b') (by row_hasAll w_sto) h0 (by omega) fun v b2 g0 g1 => ?_
    rw [fin]
    row_hasAll w_d
    refine brP (c := v = 0) (fun hv => ?_) (fun hv => ?_)
    · row_hasAll w_d
      refine ⟨by rw [List.length_map, sizeLine_eq]; omega, hN _ _ ⟨_, _, b2, fs ++ [c], pre ++ [c], rfl, by simp, by simpa using e, hs.append_right [c]⟩⟩
    · row_hasAll w_d
      exact hN _ _ ⟨_, _, b2, fs, pre ++ [c], rfl, rfl, by simpa using e, hs.trans (List.sublist_append_left ..)⟩
  · rintro δ S' ⟨x, y, b', fs, pre, rfl, rfl, e, hs⟩
    row_hasAll w_d
    have e2 : sd (su (su S a (bagO b')) p (.lst (fs.map pr))) p = su S a (bagO b') := by rw [sd_su, sd_none]; rw [su_ne hpa]; exact hp
    rw [e2]
    exact q fs b' (by rw [← e, List.append_nil]; exact hs)
theorem i_subset {a : Addr} {b : Bag} {n : Int} {cs : List Cell} {S : Sto} {Q : DQ} {X : XQ} (hS : S a = some (bagO b)) (h0 : 0 < n) (h1 : n ≤ 1000) (hl : cs.length ≤ 1000) (q : ∀ (fs : List Cell) b', fs.Sublist cs → Q (.lst (fs.map pr)) (su S a (bagO b'))) : r_l_subset [.adr a, .lst (cs.map pr), .int n] S Q X := by unfold r_l_subset; exact ⟨a, b, n, cs, rfl, hS, h0, h1, hl, q⟩
end SM

set_option Elab.async false
set_option linter.all false
set_option maxRecDepth 100000
set_option maxHeartbeats 4000000
--#ONETAC

namespace SM
open PySem PySem.Spec PyProof.Rows L2
/-! ### conditions that clash -/
def clB (rows : List Str) (x y : Int) (fr : List Cell) (p : Part) : Bool :=
  !decide (sgnAt rows (x + p.1) (y + p.2.1) = ".") && ((decide (sgnAt rows (x + p.1) (y + p.2.1) = "#") || !decide ((x + p.1, y + p.2.1) ∈ fr)) && !inS (sgnAt rows (x + p.1) (y + p.2.1)) p.2.2)
def shf (x y : Int) (p : Part) : Cell := (x + p.1, y + p.2.1)
def clL (rows : List Str) (x y : Int) (fr : List Cell) (ps : List Part) : List Cell := (ps.filter (clB rows x y fr)).map (shf x y)
def laysP (k : Nat) (st s : Str) : Bool := if k = 4 then stoneB s else decide (s = st)
def askP (k : Nat) (ps : List Part) (s : Str) : List Part := if k = 4 then withS ps s else ps
def looseD (lo : D) (fr : List Cell) : Prop := (lo = .non ∧ fr = []) ∨ lo = rg fr
theorem askP_len (k : Nat) (ps : List Part) (s : Str) : (askP k ps s).length = ps.length := by
  unfold askP withS
  split
  · rw [List.length_map]
  · rfl
set_option hygiene false in
local macro_rules | `(tactic| row_hasAll w_tail19) => `(tactic| (
  rw [eqB_str]
  refine brN (c := sgnAt rows (x + t.1) (y + t.2.1) = Str.ofString ".") (fun h3 => ?_) (fun h3 => ?_)
  · row_hasAll w_d
    cases h4 : inS (sgnAt rows (x + t.1) (y + t.2.1)) t.2.2 with
    | true =>
      row_hasAll w_d
      exact no (by simp [h4])
    | false =>
      row_hasAll w_d
      refine ⟨by rw [List.length_map, sizeLine_eq]; omega, ?_⟩
      exact yes (by simp [h3, h4, hf])
  · row_hasAll w_d
    exact no (by simp [h3])))
def t_Rule_clashes : DTS := (dSeq (dIf (dNot (dTru (dMeth 1 r_Picture_contains [] (dVar 1) (dCons (dVar 2) (dCons (dVar 3) dNil))))) (dRaise 30 (dCons (dVar 2) (dCons (dVar 3) dNil))) dNext) (dSeq (dSet 6 (dLstO dNil)) (dSeq (dFor (dItems (dFz (dMethT [(2, r_Rule_conditions), (3, r_Rule_conditions), (4, r_SameRule_conditions)] (dVar 0) (dCons (dVar 4) dNil)))) (.tp [(.nm 7), (.nm 8), (.nm 9)]) (dSeq (dSet 10 (dTup (dCons (dOp oAdd (dVar 2) (dVar 7)) (dCons (dOp oAdd (dVar 3) (dVar 8)) dNil)))) (dSeq (dSet 11 (dOp (ixI 1 r_Picture_getitem) (dVar 1) (dTup (dCons (dOp oAdd (dVar 2) (dVar 7)) (dCons (dOp oAdd (dVar 3) (dVar 8)) dNil))))) (dSeq (dIf (dAnd (dTestB (dOp oNe (dVar 11) (dC (.str "#")))) (dAnd (dTestB (dOp oIsNot (dVar 5) (dC .non))) (dTestB (dOp (inI 0 r_Region_contains false) (dVar 10) (dVar 5))))) dCont dNext) (dIf (dAnd (dTestB (dOp oNe (dVar 11) (dC (.str ".")))) (dTestB (dOp oNotIn (dVar 11) (dVar 9)))) (dDrop (dBM .lst appD (dVar 6) (dCons (dVar 10) dNil))) dNext))))) (dRet (dVar 6)))))
abbrev N_Rule_clashes : List Str := ["self", "picture", "x", "y", "stone", "loose", "places", "dx", "dy", "signs", "place", "sign"]
@[irreducible] def r_Rule_clashes : DSp := fun ds S Q X => ∃ k st ps nd rows x y s lo fr, ds = [rul k st ps nd, pic rows, .int x, .int y, .str s, lo] ∧ knd k ∧ ps.length ≤ 1000 ∧ Grid rows ∧ looseD lo fr ∧
  (if inP rows x y = true then (if laysP k st s = true then ∀ p, S p = none → Q (.adr p) (su S p (.lst ((clL rows x y fr (askP k ps s)).map pr))) else ∀ S', Grow S S' → X ⟨42, [.str s]⟩ S') else X ⟨30, [.int x, .int y]⟩ S)
theorem len_Rule_clashes : Ln 6 r_Rule_clashes := fun ds S Q E h => by unfold r_Rule_clashes at h; obtain ⟨k, st, ps, nd, rows, x, y, s, lo, fr, rfl, _⟩ := h; rfl
theorem rd_Rule_clashes : Rd t_Rule_clashes N_Rule_clashes r_Rule_clashes := by
  intro ds S QD XD h
  unfold r_Rule_clashes at h
  obtain ⟨k, st, ps, nd, rows, x, y, s, lo, fr, rfl, hk, hl, g, hlo, q⟩ := h
  row_hasAll w_d
  refine i_contains ?_
  cases hin : inP rows x y with
  | false =>
    rw [hin, if_neg (by simp)] at q
    row_hasAll w_d
    exact q
  | true =>
    rw [hin, if_pos rfl] at q
    row_hasAll w_d
    intro p hp
    have hal := askP_len k ps s
    obtain ⟨bb, hbb⟩ : ∃ bb, laysP k st s = bb := ⟨_, rfl⟩
    obtain ⟨qs, hqs⟩ : ∃ qs, askP k ps s = qs := ⟨_, rfl⟩
    rw [hbb, hqs] at q
    rw [hqs] at hal
    rcases hk with rfl | rfl | rfl
    all_goals
      row_hasAll w_d
      first | refine i_conds (k := 2) (.inl rfl) hl ?_ | refine i_conds (k := 3) (.inr rfl) hl ?_ | refine i_condsS hl ?_
      cases bb with
      | true =>
        rw [if_pos rfl] at q
        rw [if_pos (by simpa [laysP] using hbb)]
        intro p2 hp2
        refine fz_new hp2 ?_
        row_hasAll w_d
        refine loop_of (fun r δ S' => ∃ o a b c d e, ∃ dn : List Part, δ = [o, some (pic rows), some (.int x), some (.int y), some (.str s), some lo, some (.adr p), a, b, c, d, e] ∧ S' = su S p (.lst ((clL rows x y fr dn).map pr)) ∧ dn ++ r = qs) ?_ ?_ ?_
        rotate_left 2
        · exact ⟨_, _, _, _, _, _, [], rfl, rfl, hqs⟩
        · rintro t r δ S' ⟨o, a, b, c, d, e, dn, rfl, rfl, he⟩
          refine ⟨_, rfl, fun N hN => ?_⟩
          have hlen : (clL rows x y fr dn).length ≤ 1000 := by
            have h1 : (clL rows x y fr dn).length ≤ dn.length := by unfold clL; rw [List.length_map]; exact List.length_filter_le ..
            have h2 := congrArg List.length he
            rw [hal, List.length_append] at h2
            omega
          have yes : clB rows x y fr t = true → N [o, some (pic rows), some (.int x), some (.int y), some (.str s), some lo, some (.adr p), some (.int t.1), some (.int t.2.1), some (.str t.2.2), some (pr (shf x y t)), some (.str (sgnAt rows (x + t.1) (y + t.2.1)))] (su S p (.lst ((clL rows x y fr dn).map pr ++ [pr (shf x y t)]))) := fun hc => by
            refine hN _ _ ⟨_, _, _, _, _, _, dn ++ [t], rfl, ?_, by rw [List.append_assoc]; exact he⟩
            unfold clL
            rw [List.filter_append, List.map_append, List.map_append]
            simp [hc]
          have no : clB rows x y fr t = false → N [o, some (pic rows), some (.int x), some (.int y), some (.str s), some lo, some (.adr p), some (.int t.1), some (.int t.2.1), some (.str t.2.2), some (pr (shf x y t)), some (.str (sgnAt rows (x + t.1) (y + t.2.1)))] (su S p (.lst ((clL rows x y fr dn).map pr))) := fun hc => by
            refine hN _ _ ⟨_, _, _, _, _, _, dn ++ [t], rfl, ?_, by rw [List.append_assoc]; exact he⟩
            unfold clL
            rw [List.filter_append]
            simp [hc]
          unfold clB at yes no
          row_hasAll w_d
          refine i_getP g ?_
          row_hasAll w_d
          rw [eqB_str]
          refine brN (c := sgnAt rows (x + t.1) (y + t.2.1) = Str.ofString "#") (fun h1 => ?_) (fun h1 => ?_)
          · rcases hlo with ⟨rfl, rfl⟩ | rfl
            · have hf : (decide (sgnAt rows (x + t.1) (y + t.2.1) = Str.ofString "#") || !decide ((x + t.1, y + t.2.1) ∈ ([] : List Cell))) = true := by simp
              row_hasAll w_d
              row_hasAll w_tail19
            · row_hasAll w_d
              refine i_inR (c := (x + t.1, y + t.2.1)) ?_
              by_cases hm : (x + t.1, y + t.2.1) ∈ fr
              · rw [decide_eq_true hm]
                row_hasAll w_d
                exact no (by simp [h1, hm])
              · have hf : (decide (sgnAt rows (x + t.1) (y + t.2.1) = Str.ofString "#") || !decide ((x + t.1, y + t.2.1) ∈ fr)) = true := by simp [hm]
                rw [decide_eq_false hm]
                row_hasAll w_d
                row_hasAll w_tail19
          · have hf : (decide (sgnAt rows (x + t.1) (y + t.2.1) = Str.ofString "#") || !decide ((x + t.1, y + t.2.1) ∈ fr)) = true := by simp [h1]
            row_hasAll w_d
            row_hasAll w_tail19
        · rintro δ S' ⟨o, a, b, c, d, e, dn, rfl, rfl, he⟩
          rw [List.append_nil] at he
          subst he
          row_hasAll w_d
          exact q p hp
      | false =>
        rw [if_neg (by simp)] at q
        rw [if_neg (by simpa [laysP] using hbb)]
        exact q _ (Grow.new hp)
end SM

set_option Elab.async false
set_option linter.all false
set_option maxRecDepth 100000
set_option maxHeartbeats 4000000
--#ONETAC

namespace SM
open PySem PySem.Spec PyProof.Rows L2
theorem i_clashes {k : Nat} {st s : Str} {ps : List Part} {nd x y : Int} {rows : List Str} {lo : D} {fr : List Cell} {S : Sto} {Q : DQ} {X : XQ} (hk : knd k) (hl : ps.length ≤ 1000) (g : Grid rows) (hlo : looseD lo fr) (q : if inP rows x y = true then (if laysP k st s = true then ∀ p, S p = none → Q (.adr p) (su S p (.lst ((clL rows x y fr (askP k ps s)).map pr))) else ∀ S', Grow S S' → X ⟨42, [.str s]⟩ S') else X ⟨30, [.int x, .int y]⟩ S) : r_Rule_clashes [rul k st ps nd, pic rows, .int x, .int y, .str s, lo] S Q X := by unfold r_Rule_clashes; exact ⟨k, st, ps, nd, rows, x, y, s, lo, fr, rfl, hk, hl, g, hlo, q⟩
def slkZ (k : Nat) (ps : List Part) (nd : Int) : Int := if k = 2 then 0 else (ps.length : Nat) - nd
def fitB (k : Nat) (st : Str) (ps : List Part) (nd : Int) (rows : List Str) (x y : Int) (s : Str) (fr : List Cell) : Bool := laysP k st s && decide (((clL rows x y fr (askP k ps s)).length : Int) ≤ slkZ k ps nd)
def t_Rule_fits : DTS := (dSeq (dIf (dNot (dTru (dMeth 1 r_Picture_contains [] (dVar 1) (dCons (dVar 2) (dCons (dVar 3) dNil))))) (dRaise 30 (dCons (dVar 2) (dCons (dVar 3) dNil))) dNext) (dSeq (dIf (dNot (dTru (dMethT [(2, r_Rule_lays), (3, r_Rule_lays), (4, r_SameRule_lays)] (dVar 0) (dCons (dVar 4) dNil)))) (dRet (dC (.bl false))) dNext) (dRet (dOp oLe (dCB (on1 lenD) (dCons (dFz (dMethTK [(2, r_Rule_clashes), (3, r_Rule_clashes), (4, r_Rule_clashes)] 5 (dVar 0) (dCons (dVar 1) (dCons (dVar 2) (dCons (dVar 3) (dCons (dVar 4) dNil)))) (dVar 5))) dNil)) (dPropT [(2, r_Rule_slack), (3, r_CountRule_slack), (4, r_CountRule_slack)] (dVar 0))))))
abbrev N_Rule_fits : List Str := ["self", "picture", "x", "y", "stone", "loose"]
@[irreducible] def r_Rule_fits : DSp := fun ds S Q X => ∃ k st ps nd rows x y s lo fr, ds = [rul k st ps nd, pic rows, .int x, .int y, .str s, lo] ∧ knd k ∧ ps.length ≤ 1000 ∧ Grid rows ∧ looseD lo fr ∧
  (if inP rows x y = true then Q (.bl (fitB k st ps nd rows x y s fr)) S else X ⟨30, [.int x, .int y]⟩ S)
theorem len_Rule_fits : Ln 6 r_Rule_fits := fun ds S Q E h => by unfold r_Rule_fits at h; obtain ⟨k, st, ps, nd, rows, x, y, s, lo, fr, rfl, _⟩ := h; rfl
theorem i_slack2 {d : D} {S : Sto} {Q : DQ} {X : XQ} (q : Q (.int 0) S) : r_Rule_slack [d] S Q X := by unfold r_Rule_slack; exact ⟨d, rfl, q⟩
theorem i_slackC {k : Nat} {st : Str} {ps : List Part} {nd : Int} {S : Sto} {Q : DQ} {X : XQ} (hk : k = 3 ∨ k = 4) (q : Q (.int ((ps.length : Nat) - nd)) S) : r_CountRule_slack [rul k st ps nd] S Q X := by unfold r_CountRule_slack; exact ⟨k, st, ps, nd, rfl, hk, q⟩
theorem rd_Rule_fits : Rd t_Rule_fits N_Rule_fits r_Rule_fits := by
  intro ds S QD XD h
  unfold r_Rule_fits at h
  obtain ⟨k, st, ps, nd, rows, x, y, s, lo, fr, rfl, hk, hl, g, hlo, q⟩ := h
  row_hasAll w_d
  refine i_contains ?_
  cases hin : inP rows x y with
  | false =>
    rw [hin, if_neg (by simp)] at q
    row_hasAll w_d
    exact q
  | true =>
    rw [hin, if_pos rfl] at q
    unfold fitB at q
    have hcl : ∀ {S : Sto} {Q : DQ} {X : XQ}, laysP k st s = true → (Q (.lst ((clL rows x y fr (askP k ps s)).map pr)) S) → r_Rule_clashes [rul k st ps nd, pic rows, .int x, .int y, .str s, lo] S (fun d S1 => fzD d S1 Q) X := fun hb q => i_clashes hk hl g hlo (by rw [hin, if_pos rfl, if_pos hb]; exact fun p hp => fz_new hp q)
    have hlen : (clL rows x y fr (askP k ps s)).length ≤ 1000 := by
      have h1 : (clL rows x y fr (askP k ps s)).length ≤ (askP k ps s).length := by unfold clL; rw [List.length_map]; exact List.length_filter_le ..
      rw [askP_len] at h1
      omega
    row_hasAll w_d
    rcases hk with rfl | rfl | rfl
    · row_hasAll w_d
      refine i_lays (k := 2) (.inl rfl) ?_
      cases hb : laysP 2 st s with
      | false =>
        rw [hb] at q
        rw [show decide (s = st) = false from hb]
        row_hasAll w_d
        exact q
      | true =>
        rw [hb] at q
        rw [show decide (s = st) = true from hb]
        row_hasAll w_d
        refine hcl hb ?_
        row_hasAll w_d
        refine i_slack2 ?_
        row_hasAll w_d
        rw [List.length_map]
        exact q
    · row_hasAll w_d
      refine i_lays (k := 3) (.inr rfl) ?_
      cases hb : laysP 3 st s with
      | false =>
        rw [hb] at q
        rw [show decide (s = st) = false from hb]
        row_hasAll w_d
        exact q
      | true =>
        rw [hb] at q
        rw [show decide (s = st) = true from hb]
        row_hasAll w_d
        refine hcl hb ?_
        row_hasAll w_d
        refine i_slackC (k := 3) (.inl rfl) ?_
        row_hasAll w_d
        rw [List.length_map]
        exact q
    · row_hasAll w_d
      refine i_laysS ?_
      cases hb : laysP 4 st s with
      | false =>
        rw [hb] at q
        rw [show stoneB s = false from hb]
        row_hasAll w_d
        exact q
      | true =>
        rw [hb] at q
        rw [show stoneB s = true from hb]
        row_hasAll w_d
        refine hcl hb ?_
        row_hasAll w_d
        refine i_slackC (k := 4) (.inr rfl) ?_
        row_hasAll w_d
        rw [List.length_map]
        exact q
theorem i_fits {k : Nat} {st s : Str} {ps : List Part} {nd x y : Int} {rows : List Str} {lo : D} {fr : List Cell} {S : Sto} {Q : DQ} {X : XQ} (hk : knd k) (hl : ps.length ≤ 1000) (g : Grid rows) (hlo : looseD lo fr) (q : if inP rows x y = true then Q (.bl (fitB k st ps nd rows x y s fr)) S else X ⟨30, [.int x, .int y]⟩ S) : r_Rule_fits [rul k st ps nd, pic rows, .int x, .int y, .str s, lo] S Q X := by unfold r_Rule_fits; exact ⟨k, st, ps, nd, rows, x, y, s, lo, fr, rfl, hk, hl, g, hlo, q⟩
/-! ### small grids -/
def t_l_grid : DTS := (dSeq (dSet 2 (dOp oAdd (dC (.int 1)) (dCall r_l_take [] (dCons (dVar 0) (dCons (dC (.int 4)) dNil))))) (dSeq (dSet 3 (dOp oAdd (dC (.int 1)) (dCall r_l_take [] (dCons (dVar 0) (dCons (dC (.int 3)) dNil))))) (dSeq (dSet 4 (dCall r_l_take [] (dCons (dVar 0) (dCons (dC (.int 5)) dNil)))) (dCut (dIf (dTestB (dOp oEq (dVar 4) (dC (.int 0)))) (dSeq (dSet 2 (dOp oAdd (dOp oAdd (dVar 2) (dVar 3)) (dC (.int 1)))) (dSet 3 (dC (.int 1)))) dNext) (dCut (dIf (dTestB (dOp oEq (dVar 4) (dC (.int 1)))) (dSeq (dSet 3 (dOp oAdd (dOp oAdd (dVar 2) (dVar 3)) (dC (.int 1)))) (dSet 2 (dC (.int 1)))) dNext) (dRet (dLc (dRng1 (dCons (dVar 3) dNil)) (.nm 5) dYes (dCall r_l_row [] (dCons (dVar 0) (dCons (dVar 1) (dCons (dVar 2) dNil)))) [5])))))))
abbrev N_l_grid : List Str := ["_law_bag_here", "_law_palette_here", "_law_wide", "_law_high", "_law_shape", "_law_k"]
@[irreducible] def r_l_grid : DSp := fun ds S Q _ => ∃ a b p, ds = [.adr a, .str p] ∧ S a = some (bagO b) ∧ palOk p ∧ ∀ rows b', Grid rows → wid rows * (rows.length : Nat) ≤ 12 → Q (.lst (rows.map D.str)) (su S a (bagO b'))
theorem len_l_grid : Ln 2 r_l_grid := fun ds S Q E h => by unfold r_l_grid at h; obtain ⟨a, b, c, rfl, _⟩ := h; rfl
theorem rd_l_grid : Rd t_l_grid N_l_grid r_l_grid := by
  intro ds S QD XD h
  unfold r_l_grid at h
  obtain ⟨a, b, p, rfl, hS, hp, q⟩ := h
  row_hasAll w_d
  refine i_take hS (by decide) (by decide) fun v1 b1 h1 h2 => ?_
  row_hasAll w_d
  refine i_takeB (by decide) (by decide) fun v2 b2 h3 h4 => ?_
  row_hasAll w_d
  refine i_takeB (by decide) (by decide) fun v3 b3 h5 h6 => ?_
  row_hasAll w_d
  refine ⟨fun δ S' => ∃ w h : Int, δ = [some (.adr a), some (.str p), some (.int w), some (.int h), some (.int v3), none] ∧ S' = su S a (bagO b3) ∧ 1 ≤ w ∧ w ≤ 8 ∧ 1 ≤ h ∧ h ≤ 3 ∧ ((w ≤ 4 ∧ v3 ≠ 0) ∨ (h = 1 ∧ v3 = 0)), ?_, ?_⟩
  · row_hasAll w_d
    rw [eqB_int]
    refine brP (fun w => ?_) (fun w => ?_)
    · row_hasAll w_d
      exact ⟨_, 1, rfl, by first | rfl | trivial, by omega, by omega, by omega, by omega, .inr ⟨rfl, w⟩⟩
    · conv => whnf
      exact ⟨1 + v1, 1 + v2, rfl, rfl, by omega, by omega, by omega, by omega, .inl ⟨by omega, w⟩⟩
  rintro δ S' ⟨w, h, rfl, rfl, g1, g2, g3, g4, g5⟩
  row_hasAll w_d
  refine ⟨fun δ S' => ∃ w h : Int, δ = [some (.adr a), some (.str p), some (.int w), some (.int h), some (.int v3), none] ∧ S' = su S a (bagO b3) ∧ 1 ≤ w ∧ w ≤ 8 ∧ 1 ≤ h ∧ h ≤ 8 ∧ w * h ≤ 12, ?_, ?_⟩
  · row_hasAll w_d
    rw [eqB_int]
    refine brP (fun z => ?_) (fun z => ?_)
    · row_hasAll w_d
      exact ⟨1, _, rfl, by first | rfl | trivial, by omega, by omega, by omega, by omega, by omega⟩
    · conv => whnf
      refine ⟨w, h, rfl, rfl, by omega, by omega, by omega, by omega, ?_⟩
      rcases g5 with g5 | g5
      · have : h = 1 ∨ h = 2 ∨ h = 3 := by omega
        rcases this with rfl | rfl | rfl <;> omega
      · rw [g5.1]; omega
  rintro δ S' ⟨w, h, rfl, rfl, g1, g2, g3, g4, g5⟩
  row_hasAll w_d
  refine lk_st (xs := List.range (h - 0).toNat) (g := fun i : Nat => D.int (0 + (i : Nat))) (fun l acc S' => ∃ b', ∃ rows : List Str, acc = rows.map D.str ∧ S' = su S a (bagO b') ∧ ((rows.length + l.length : Nat) : Int) = h ∧ ∀ r ∈ rows, (r.length : Int) = w ∧ rowOk r) ?_ ⟨b3, [], rfl, rfl, by simp; omega, by simp⟩ ?_
  · rintro i l acc S' ⟨b', rows, rfl, rfl, hl, hr⟩
    refine ⟨True.intro, _, rfl, fun Q' h => ?_⟩
    row_hasAll w_d
    refine i_lrow (b := b') su_same hp (by omega) (by omega) fun r b3 e1 e2 e3 => ?_
    rw [su_su]
    refine h _ _ ⟨b3, rows ++ [r], by simp, rfl, by simp at hl ⊢; omega, fun s hs => ?_⟩
    rcases List.mem_append.mp hs with h | h
    · exact hr s h
    · simp at h; subst h; exact ⟨e1, e2⟩
  · rintro acc S' ⟨b', rows, rfl, rfl, hl, hr⟩
    refine ⟨True.intro, ?_⟩
    have hn : rows ≠ [] := fun e => by rw [e] at hl; simp at hl; omega
    have hw : wid rows = w := by
      cases rows with
      | nil => exact absurd rfl hn
      | cons r rest => exact (hr r (List.mem_cons_self ..)).1
    have hh : ((rows.length : Nat) : Int) = h := by simpa using hl
    exact q rows b' ⟨hn, by omega, by omega, by omega, fun r h => by rw [hw]; exact hr r h⟩ (by rw [hw, hh]; exact g5)
theorem i_grid {a : Addr} {b : Bag} {p : Str} {S : Sto} {Q : DQ} {X : XQ} (hS : S a = some (bagO b)) (hp : palOk p) (q : ∀ rows b', Grid rows → wid rows * (rows.length : Nat) ≤ 12 → Q (.lst (rows.map D.str)) (su S a (bagO b'))) : r_l_grid [.adr a, .str p] S Q X := by unfold r_l_grid; exact ⟨a, b, p, rfl, hS, hp, q⟩
end SM

set_option Elab.async false
set_option linter.all false
set_option maxRecDepth 100000
set_option maxHeartbeats 4000000
--#ONETAC

namespace SM
open PySem PySem.Spec PyProof.Rows L2
/-! ### clashing by the law -/
theorem inS_one (c : Nat) (s : Str) : inS (one c) s = decide (c ∈ s.cps.toList) := by
  unfold inS
  have e1 : (one c).cps.toList = [c] := rfl
  rw [e1]
theorem roSort_shift (x y : Int) (l : List Cell) : roSort (l.map fun c => (x + c.1, y + c.2)) = (roSort l).map fun c => (x + c.1, y + c.2) := by
  unfold roSort
  refine (PySem.W.sort_maps (s := roLe) (fun c : Cell => (x + c.1, y + c.2)) fun a _ b _ => ?_).symm
  exact decide_eq_decide.mpr (by constructor <;> intro h <;> simp only at * <;> omega)
theorem roSort_filter (f : Cell → Bool) (l : List Cell) : roSort (l.filter f) = (roSort l).filter f :=
  List.Perm.eq_of_pairwise (fun x y _ _ => roLe_anti) (roSort_pw _) ((roSort_pw l).filter f) ((roSort_perm _).trans ((roSort_perm l).symm.filter f))
/-- clashing, told by places -/
theorem clL_places (rows : List Str) (x y : Int) (fr : List Cell) (ps : List Part) (f : Cell → Bool) (h : ∀ p ∈ ps, clB rows x y fr p = f (pk p)) : clL rows x y fr ps = ((ps.map pk).filter f).map fun c => (x + c.1, y + c.2) := by
  unfold clL
  induction ps with
  | nil => rfl
  | cons p r ih =>
    have h1 := h p (List.mem_cons_self ..)
    have ih := ih fun q hq => h q (List.mem_cons_of_mem _ hq)
    rw [List.map_cons, List.filter_cons, List.filter_cons, h1]
    cases f (pk p) with
    | false => simpa using ih
    | true => simp only [if_true, List.map_cons, ih]; rfl
def t_l_clashing : DTS := (dSeq (dSet 6 (dLstO dNil)) (dSeq (dFor (dItems (dOp oIx (dVar 0) (dC (.int 2)))) (.nm 7) (dSeq (dSet 8 (dTup (dCons (dOp oAdd (dVar 2) (dOp oIx (dVar 7) (dC (.int 0)))) (dCons (dOp oAdd (dVar 3) (dOp oIx (dVar 7) (dC (.int 1)))) dNil)))) (dSeq (dSet 9 (dCall r_l_sign [] (dCons (dVar 1) (dCons (dOp oIx (dVar 8) (dC (.int 0))) (dCons (dOp oIx (dVar 8) (dC (.int 1))) dNil))))) (dSeq (dSet 10 (dOp oIx (dVar 7) (dC (.int 2)))) (dCut (dIf (dTestB (dOp oEq (dOp oIx (dVar 0) (dC (.int 0))) (dC (.str "same")))) (dSet 10 (dVar 4)) dNext) (dIf (dAnd (dTestB (dOp oNe (dVar 9) (dC (.str ".")))) (dAnd (dOr (dTestB (dOp oEq (dVar 9) (dC (.str "#")))) (dTestB (dOp oNotIn (dVar 8) (dVar 5)))) (dTestB (dOp oNotIn (dVar 9) (dVar 10))))) (dDrop (dBM .lst appD (dVar 6) (dCons (dVar 8) dNil))) dNext)))))) (dRet (dCall r_l_reading [] (dCons (dVarM 6) dNil)))))
abbrev N_l_clashing : List Str := ["_law_rule_here", "_law_rows", "_law_cx", "_law_cy", "_law_hue", "_law_free", "_law_found", "_law_part", "_law_place", "_law_sign_here", "_law_wanted"]
@[irreducible] def r_l_clashing : DSp := fun ds S Q _ => ∃ k hue ps nd rows x y s fr, ds = [rulT k hue ps nd, .lst (rows.map D.str), .int x, .int y, .str s, .lst (fr.map pr)] ∧ knd k ∧ ps.length ≤ 1000 ∧ Grid rows ∧ Q (.lst ((roSort (clL rows x y fr (askP k ps s))).map pr)) S
theorem len_l_clashing : Ln 6 r_l_clashing := fun ds S Q E h => by unfold r_l_clashing at h; obtain ⟨k, hue, ps, nd, rows, x, y, s, fr, rfl, _⟩ := h; rfl
theorem rd_l_clashing : Rd t_l_clashing N_l_clashing r_l_clashing := by
  intro ds S QD XD h
  unfold r_l_clashing at h
  obtain ⟨k, hue, ps, nd, rows, x, y, s, fr, rfl, hk, hl, g, q⟩ := h
  row_hasAll w_d
  intro p hp
  row_hasAll w_d
  refine loop_of (fun r δ S' => ∃ a b c d, ∃ dn : List Part, δ = [some (rulT k hue ps nd), some (.lst (rows.map D.str)), some (.int x), some (.int y), some (.str s), some (.lst (fr.map pr)), some (.adr p), a, b, c, d] ∧ S' = su S p (.lst ((clL rows x y fr (askP k dn s)).map pr)) ∧ dn ++ r = ps) ?_ ?_ ?_
  rotate_left 2
  · refine ⟨_, _, _, _, [], rfl, ?_, rfl⟩
    unfold askP withS
    rw [List.map_nil, ite_self]
    rfl
  · rintro t r δ S' ⟨a, b, c, d, dn, rfl, rfl, he⟩
    refine ⟨_, rfl, fun N hN => ?_⟩
    row_hasAll w_d
    refine i_lsign g ?_
    row_hasAll w_d
    refine ⟨fun δ S' => ∃ w, δ = [some (rulT k hue ps nd), some (.lst (rows.map D.str)), some (.int x), some (.int y), some (.str s), some (.lst (fr.map pr)), some (.adr p), some (prt t), some (pr (shf x y t)), some (.str (sgnAt rows (x + t.1) (y + t.2.1))), some (.str w)] ∧ S' = su S p (.lst ((clL rows x y fr (askP k dn s)).map pr)) ∧ askP k [t] s = [(t.1, t.2.1, w)], ?_, ?_⟩
    · row_hasAll w_d
      rw [eqB_str, kind_same hk]
      refine brP (fun h1 => ?_) (fun h1 => ?_)
      · row_hasAll w_d
        exact ⟨s, rfl, by first | rfl | trivial, by unfold askP; rw [if_pos h1]; rfl⟩
      · conv => whnf
        exact ⟨t.2.2, rfl, rfl, by unfold askP; rw [if_neg h1]⟩
    rintro δ S' ⟨w, rfl, rfl, hw⟩
    have hap : askP k (dn ++ [t]) s = askP k dn s ++ [(t.1, t.2.1, w)] := by
      rw [← hw]
      unfold askP withS
      split
      · rw [List.map_append]
      · rfl
    have hlen : (clL rows x y fr (askP k dn s)).length ≤ 1000 := by
      have h1 : (clL rows x y fr (askP k dn s)).length ≤ (askP k dn s).length := by unfold clL; rw [List.length_map]; exact List.length_filter_le ..
      have h2 := congrArg List.length he
      rw [List.length_append] at h2
      rw [askP_len] at h1
      omega
    have yes : clB rows x y fr (t.1, t.2.1, w) = true → N [some (rulT k hue ps nd), some (.lst (rows.map D.str)), some (.int x), some (.int y), some (.str s), some (.lst (fr.map pr)), some (.adr p), some (prt t), some (pr (shf x y t)), some (.str (sgnAt rows (x + t.1) (y + t.2.1))), some (.str w)] (su S p (.lst ((clL rows x y fr (askP k dn s)).map pr ++ [pr (shf x y t)]))) := fun hc => by
      refine hN _ _ ⟨_, _, _, _, dn ++ [t], rfl, ?_, by rw [List.append_assoc]; exact he⟩
      rw [hap]
      unfold clL
      rw [List.filter_append, List.map_append, List.map_append]
      simp [hc]
      rfl
    have no : clB rows x y fr (t.1, t.2.1, w) = false → N [some (rulT k hue ps nd), some (.lst (rows.map D.str)), some (.int x), some (.int y), some (.str s), some (.lst (fr.map pr)), some (.adr p), some (prt t), some (pr (shf x y t)), some (.str (sgnAt rows (x + t.1) (y + t.2.1))), some (.str w)] (su S p (.lst ((clL rows x y fr (askP k dn s)).map pr))) := fun hc => by
      refine hN _ _ ⟨_, _, _, _, dn ++ [t], rfl, ?_, by rw [List.append_assoc]; exact he⟩
      rw [hap]
      unfold clL
      rw [List.filter_append]
      simp [hc]
    unfold clB at yes no
    row_hasAll w_d
    rw [eqB_str]
    refine brN (c := sgnAt rows (x + t.1) (y + t.2.1) = Str.ofString ".") (fun h3 => ?_) (fun h3 => ?_)
    · row_hasAll w_d
      rw [eqB_str]
      refine brP (c := sgnAt rows (x + t.1) (y + t.2.1) = Str.ofString "#") (fun h1 => ?_) (fun h1 => ?_)
      · row_hasAll w_d
        cases h4 : inS (sgnAt rows (x + t.1) (y + t.2.1)) w with
        | true =>
          row_hasAll w_d
          exact no (by simp [h4])
        | false =>
          row_hasAll w_d
          refine ⟨by rw [List.length_map, sizeLine_eq]; omega, ?_⟩
          exact yes (by rw [decide_eq_false h3, decide_eq_true h1, h4]; rfl)
      · row_hasAll w_d
        rw [show inB (pr (shf x y t)) (.lst (fr.map pr)) = some (decide ((x + t.1, y + t.2.1) ∈ fr)) from inB_prs (x + t.1, y + t.2.1) fr]
        by_cases hm : (x + t.1, y + t.2.1) ∈ fr
        · rw [decide_eq_true hm]
          row_hasAll w_d
          exact no (by rw [decide_eq_false h1, decide_eq_true hm]; simp)
        · rw [decide_eq_false hm]
          row_hasAll w_d
          cases h4 : inS (sgnAt rows (x + t.1) (y + t.2.1)) w with
          | true =>
            row_hasAll w_d
            exact no (by simp [h4])
          | false =>
            row_hasAll w_d
            refine ⟨by rw [List.length_map, sizeLine_eq]; omega, ?_⟩
            exact yes (by rw [decide_eq_false h3, decide_eq_false hm, h4]; simp)
    · row_hasAll w_d
      exact no (by simp [h3])
  · rintro δ S' ⟨a, b, c, d, dn, rfl, rfl, he⟩
    rw [List.append_nil] at he
    subst he
    row_hasAll w_d
    refine i_reading ?_
    rw [sd_su_new hp]
    exact q
theorem i_lclash {k : Nat} {hue s : Str} {ps : List Part} {nd x y : Int} {rows : List Str} {fr : List Cell} {S : Sto} {Q : DQ} {X : XQ} (hk : knd k) (hl : ps.length ≤ 1000) (g : Grid rows) (q : Q (.lst ((roSort (clL rows x y fr (askP k ps s))).map pr)) S) : r_l_clashing [rulT k hue ps nd, .lst (rows.map D.str), .int x, .int y, .str s, .lst (fr.map pr)] S Q X := by unfold r_l_clashing; exact ⟨k, hue, ps, nd, rows, x, y, s, fr, rfl, hk, hl, g, q⟩
/-! ### the two agree -/
/-- the parts of the made rule -/
def mparts (k : Nat) (ps : List Part) : List Part := if k = 4 then sortP (placeP (ps.map pk)) else sortP ps
def mhue (k : Nat) (hue : Str) : Str := if k = 4 then "" else hue
theorem mrul_is (k : Nat) (hue : Str) (ps : List Part) (nd : Int) : mrul k hue ps nd = rul k (mhue k hue) (mparts k ps) nd := by
  unfold mrul mhue mparts
  by_cases h : k = 4
  · subst h; rfl
  · rw [if_neg h, if_neg h, if_neg h]
theorem mparts_len (k : Nat) (ps : List Part) : (mparts k ps).length = ps.length := by
  unfold mparts
  split
  · rw [sortP_len]; unfold placeP; rw [List.length_map, List.length_map]
  · rw [sortP_len]
theorem sgn_one {rows : List Str} (g : Grid rows) (x y : Int) : ∃ c, sgnAt rows x y = one c := by
  by_cases h : inP rows x y = true
  · obtain ⟨r, c, _, _, _, _, e⟩ := g.get h
    exact ⟨c, e⟩
  · unfold sgnAt
    rw [if_neg h]
    exact ⟨35, rfl⟩
theorem joinL_ones : ∀ l : List Nat, TL.joinL [] (l.map fun c => [c]) = l
  | [] => rfl
  | [c] => rfl
  | c :: d :: r => by
    show [c] ++ [] ++ TL.joinL [] ((d :: r).map fun c => [c]) = _
    rw [joinL_ones (d :: r)]
    rfl
theorem join_codes (l : List Nat) : (Txt.join "" (l.map one)).cps.toList = l := by
  have h := TL.tl_join (Str.ofString "") (l.map one)
  rw [← TL.join_eq] at h
  have e : TL.tl (Str.ofString "") = [] := rfl
  rw [e, List.map_map] at h
  exact h.trans (joinL_ones l)
theorem srtS_codes (s : Str) : (srtS s).cps.toList.Perm s.cps.toList := by
  unfold srtS
  rw [join_codes]
  exact List.mergeSort_perm ..
theorem inS_srt (c : Nat) (s : Str) : inS (one c) (srtS s) = inS (one c) s := by
  rw [inS_one, inS_one]
  exact decide_eq_decide.mpr (srtS_codes s).mem_iff
theorem pk_sortP (ps : List Part) : (sortP ps).map pk = roSort (ps.map pk) := by unfold sortP; rw [List.map_map]; exact List.map_id _
theorem clB_srt {rows : List Str} (g : Grid rows) (x y : Int) (fr : List Cell) (c : Cell) (s : Str) : clB rows x y fr (c.1, c.2, srtS s) = clB rows x y fr (c.1, c.2, s) := by
  unfold clB
  obtain ⟨d, e⟩ := sgn_one g (x + c.1) (y + c.2)
  simp only
  rw [e, inS_srt]
theorem clash_agree {k : Nat} {hue s : Str} {ps : List Part} {nd x y : Int} {rows : List Str} {fr : List Cell} (hr : LR k hue ps nd) (g : Grid rows) : roSort (clL rows x y fr (askP k ps s)) = clL rows x y fr (askP k (mparts k ps) s) := by
  by_cases h4 : k = 4
  · unfold askP mparts
    rw [if_pos h4, if_pos h4, if_pos h4]
    rw [clL_places rows x y fr (withS ps s) (fun c => clB rows x y fr (c.1, c.2, s)) (fun p hp => by
      obtain ⟨q, _, rfl⟩ := List.mem_map.mp hp
      rfl)]
    rw [clL_places rows x y fr (withS (sortP (placeP (ps.map pk))) s) (fun c => clB rows x y fr (c.1, c.2, s)) (fun p hp => by
      obtain ⟨q, _, rfl⟩ := List.mem_map.mp hp
      rfl)]
    rw [roSort_shift, roSort_filter]
    have e1 : (withS ps s).map pk = ps.map pk := by unfold withS; rw [List.map_map]; rfl
    have e2 : (withS (sortP (placeP (ps.map pk))) s).map pk = roSort (ps.map pk) := by
      have e : (placeP (ps.map pk)).map pk = ps.map pk := by
        unfold placeP
        rw [List.map_map]
        exact List.map_id _
      rw [← e, ← pk_sortP]
      unfold withS
      rw [List.map_map, e]
      rfl
    rw [e1, e2]
  · unfold askP mparts
    rw [if_neg h4, if_neg h4, if_neg h4]
    rw [clL_places rows x y fr ps (fun c => clB rows x y fr (c.1, c.2, signsAt ps c)) (fun p hp => by rw [signsAt_of hr.ok.nd hp])]
    rw [clL_places rows x y fr (sortP ps) (fun c => clB rows x y fr (c.1, c.2, signsAt ps c)) (fun p hp => by
      unfold sortP at hp
      obtain ⟨c, _, rfl⟩ := List.mem_map.mp hp
      exact clB_srt g x y fr c _)]
    rw [roSort_shift, roSort_filter, pk_sortP]
end SM

set_option Elab.async false
set_option linter.all false
set_option maxRecDepth 100000
set_option maxHeartbeats 4000000
namespace SM
open PySem PySem.Spec PyProof.Rows L2
/-- a loop over range(n), its invariant by the index -/
theorem loop_ix {q : Pat} {tb : DTS} {E : DEnds} (n : Nat) (I : Nat → DS → Sto → Prop) (hs : ∀ i δ S, i < n → I i δ S → ∃ δ1, bindP q (D.int (0 + (i : Nat))) δ = some δ1 ∧ ∀ N : DS → Sto → Prop, (∀ δ2 S2, I (i + 1) δ2 S2 → N δ2 S2) → tb { E with nx := N, ct := N, bk := E.nx } δ1 S) (hd : ∀ δ S, I n δ S → E.nx δ S) {δ : DS} {S : Sto} (h : I 0 δ S) : loopK none q tb E ((List.range n).map fun i : Nat => D.int (0 + (i : Nat))) δ S := by
  refine loop_of (fun r δ S => ∃ i, i ≤ n ∧ r = List.range' i (n - i) ∧ I i δ S) ?_ ?_ ⟨0, Nat.zero_le _, by rw [List.range_eq_range', Nat.sub_zero], h⟩
  · rintro x r δ S ⟨i, hi, e, hI⟩
    have hlt : i < n := by
      rcases Nat.lt_or_ge i n with h | h
      · exact h
      · rw [show n - i = 0 by omega] at e; cases e
    obtain ⟨m, hm⟩ : ∃ m, n - i = m + 1 := ⟨n - i - 1, by omega⟩
    rw [hm, List.range'_succ] at e
    simp only [List.cons.injEq] at e
    obtain ⟨rfl, rfl⟩ := e
    obtain ⟨δ1, e1, hN⟩ := hs x δ S hlt hI
    exact ⟨δ1, e1, fun N h => hN N fun δ2 S2 h2 => h δ2 S2 ⟨x + 1, hlt, by congr 1; omega, h2⟩⟩
  · rintro δ S ⟨i, hi, e, hI⟩
    have ei : i = n := by
      rcases Nat.lt_or_ge i n with h | h
      · obtain ⟨m, hm⟩ : ∃ m, n - i = m + 1 := ⟨n - i - 1, by omega⟩
        rw [hm, List.range'_succ] at e; cases e
      · omega
    subst ei
    exact hd δ S hI
end SM

set_option Elab.async false
set_option linter.all false
set_option maxRecDepth 100000
set_option maxHeartbeats 4000000
--#ONETAC

namespace SM
open PySem PySem.Spec PyProof.Rows L2
/-- a method that is the same for all three kinds of rules -/
theorem vk_T3 {k : Nat} {st : Str} {ps : List Part} {nd : Int} {S : Sto} {r : DSp} {F : DSp → Prop} (hk : knd k) (h : F r) : vwk S (rul k st ps nd) (fun x' => tabK [(2, r), (3, r), (4, r)] x' F) := by
  rcases hk with rfl | rfl | rfl
  · exact vk_ins (tab_r rfl h)
  · exact vk_ins (tab_r rfl h)
  · exact vk_ins (tab_r rfl h)
/-! ### fits by the law -/
def lfitB (k : Nat) (hue s : Str) (ps : List Part) (nd x y : Int) (rows : List Str) (fr : List Cell) : Bool := (decide (k = 4) || decide (hue = s)) && decide (((clL rows x y fr (askP k ps s)).length : Int) ≤ slkZ k ps nd)
def t_l_fit : DTS := (dSeq (dIf (dNot (dTru (dCall r_l_lays [] (dCons (dVar 0) (dCons (dVar 4) dNil))))) (dRet (dC (.bl false))) dNext) (dRet (dOp oLe (dCB (on1 lenD) (dCons (dCall r_l_clashing [] (dCons (dVar 0) (dCons (dVar 1) (dCons (dVar 2) (dCons (dVar 3) (dCons (dVar 4) (dCons (dVar 5) dNil))))))) dNil)) (dCall r_l_slack [] (dCons (dVar 0) dNil)))))
abbrev N_l_fit : List Str := ["_law_rule_here", "_law_rows", "_law_cx", "_law_cy", "_law_hue", "_law_free"]
@[irreducible] def r_l_fit : DSp := fun ds S Q _ => ∃ k hue ps nd rows x y s fr, ds = [rulT k hue ps nd, .lst (rows.map D.str), .int x, .int y, .str s, .lst (fr.map pr)] ∧ knd k ∧ ps.length ≤ 1000 ∧ Grid rows ∧ Q (.bl (lfitB k hue s ps nd x y rows fr)) S
theorem len_l_fit : Ln 6 r_l_fit := fun ds S Q E h => by unfold r_l_fit at h; obtain ⟨k, hue, ps, nd, rows, x, y, s, fr, rfl, _⟩ := h; rfl
theorem rd_l_fit : Rd t_l_fit N_l_fit r_l_fit := by
  intro ds S QD XD h
  unfold r_l_fit at h
  obtain ⟨k, hue, ps, nd, rows, x, y, s, fr, rfl, hk, hl, g, q⟩ := h
  have hlen : (clL rows x y fr (askP k ps s)).length ≤ 1000 := by
    have h1 : (clL rows x y fr (askP k ps s)).length ≤ (askP k ps s).length := by unfold clL; rw [List.length_map]; exact List.length_filter_le ..
    rw [askP_len] at h1
    omega
  unfold lfitB at q
  row_hasAll w_d
  refine i_llays hk ?_
  cases hb : (decide (k = 4) || decide (hue = s)) with
  | false =>
    rw [hb] at q
    row_hasAll w_d
    exact q
  | true =>
    rw [hb] at q
    row_hasAll w_d
    refine i_lclash hk hl g ?_
    row_hasAll w_d
    rw [List.length_map, roSort_len]
    refine i_lslack hk ?_
    exact q
theorem i_lfit {k : Nat} {hue s : Str} {ps : List Part} {nd x y : Int} {rows : List Str} {fr : List Cell} {S : Sto} {Q : DQ} {X : XQ} (hk : knd k) (hl : ps.length ≤ 1000) (g : Grid rows) (q : Q (.bl (lfitB k hue s ps nd x y rows fr)) S) : r_l_fit [rulT k hue ps nd, .lst (rows.map D.str), .int x, .int y, .str s, .lst (fr.map pr)] S Q X := by unfold r_l_fit; exact ⟨k, hue, ps, nd, rows, x, y, s, fr, rfl, hk, hl, g, q⟩
theorem fit_agree {k : Nat} {hue s : Str} {ps : List Part} {nd x y : Int} {rows : List Str} {fr : List Cell} (hr : LR k hue ps nd) (g : Grid rows) : fitB k (mhue k hue) (mparts k ps) nd rows x y s fr = (stoneB s && lfitB k hue s ps nd x y rows fr) := by
  unfold fitB lfitB
  rw [← clash_agree hr g, roSort_len, show slkZ k (mparts k ps) nd = slkZ k ps nd by unfold slkZ; rw [mparts_len], ← Bool.and_assoc]
  congr 1
  unfold laysP mhue
  by_cases h4 : k = 4
  · rw [if_pos h4, decide_eq_true h4, Bool.true_or, Bool.and_true]
  · rw [if_neg h4, if_neg h4, decide_eq_false h4, Bool.false_or]
    obtain ⟨c, rfl, hc⟩ := hr.hu
    by_cases e : s = one c
    · rw [e, stone_one, hc]
      simp
    · rw [decide_eq_false e, decide_eq_false (fun z => e z.symm), Bool.and_false]
theorem i_mfits {k : Nat} {hue s : Str} {ps : List Part} {nd x y : Int} {rows : List Str} {lo : D} {fr : List Cell} {S : Sto} {Q : DQ} {X : XQ} (hr : LR k hue ps nd) (g : Grid rows) (hlo : looseD lo fr) (q : if inP rows x y = true then Q (.bl (stoneB s && lfitB k hue s ps nd x y rows fr)) S else X ⟨30, [.int x, .int y]⟩ S) : r_Rule_fits [rul k (mhue k hue) (mparts k ps) nd, pic rows, .int x, .int y, .str s, lo] S Q X := by
  have h8 := hr.ok.le
  refine i_fits hr.kd (by rw [mparts_len]; omega) g hlo ?_
  rw [fit_agree hr g]
  exact q
end SM

set_option Elab.async false
set_option linter.all false
set_option maxRecDepth 100000
set_option maxHeartbeats 4000000
--#ONETAC

namespace SM
open PySem PySem.Spec PyProof.Rows L2
theorem sgn_edge {rows : List Str} (g : Grid rows) (x y : Int) : decide (sgnAt rows x y = Str.ofString "#") = !inP rows x y := by
  cases h : inP rows x y with
  | false =>
    unfold sgnAt
    rw [h, if_neg (by simp)]
    exact decide_eq_true rfl
  | true =>
    obtain ⟨r, c, _, _, hr, hc, e⟩ := g.get h
    rw [e]
    refine decide_eq_false fun z => ?_
    have hs := (g.row r hr).2 c hc
    rw [z] at hs
    exact absurd hs (by decide +kernel)
def outT (x y : Int) : D := .tup [.str "out", .int x, .int y, .bl true]
def wrT (s : Str) : D := .tup [.str "wrong", .str s, .bl true]
set_option hygiene false in
local macro_rules | `(tactic| row_hasAll w_ask9) => `(tactic| (
  refine i_clashes (by first | exact .inl rfl | exact .inr (.inl rfl) | exact .inr (.inr rfl)) hl g hlo ?_
  rw [hbb]
  cases hin : inP rows x y with
  | false =>
    rw [hin, if_neg (by simp)] at q
    rw [if_neg (by simp)]
    row_hasAll w_d
    intro a d
    row_hasAll w_d
    exact q
  | true =>
    rw [hin, if_pos rfl] at q
    rw [if_pos rfl]
    cases bb with
    | true =>
      rw [if_pos rfl] at q
      rw [if_pos rfl]
      exact q
    | false =>
      rw [if_neg (by simp)] at q
      rw [if_neg (by simp)]
      intro S' hg
      row_hasAll w_d
      intro a d
      row_hasAll w_d
      exact q S' hg))
def t_l_asked_k09 : DTS := (dTryCl [([(30, true), (42, false)], (some 6), fun a_ d_ c_ => (dRet (dTup (dCons (dC (.str "out")) (dCons (dXf [(30, 0)] a_ d_ c_ (dVar 6)) (dCons (dXf [(30, 1)] a_ d_ c_ (dVar 6)) (dCons (dIsE [(30, true)] a_ d_ c_ (dVar 6)) dNil))))))), ([(42, true)], (some 6), fun a_ d_ c_ => (dRet (dTup (dCons (dC (.str "wrong")) (dCons (dXf [(42, 0)] a_ d_ c_ (dVar 6)) (dCons (dIsE [(42, true)] a_ d_ c_ (dVar 6)) dNil))))))] (dSeq (dIf (dTestB (dOp (eqV 0 [] r_Region_eq) (dVar 5) (dC (.str "left out")))) (dRet (dMethTD [(2, r_Rule_clashes), (3, r_Rule_clashes), (4, r_Rule_clashes)] [.non] (dVar 0) (dCons (dVar 1) (dCons (dVar 2) (dCons (dVar 3) (dCons (dVar 4) dNil)))))) dNext) (dRet (dMethTK [(2, r_Rule_clashes), (3, r_Rule_clashes), (4, r_Rule_clashes)] 5 (dVar 0) (dCons (dVar 1) (dCons (dVar 2) (dCons (dVar 3) (dCons (dVar 4) dNil)))) (dVar 5)))))
abbrev N_l_asked_k09 : List Str := ["_law_made_here", "_law_picture", "_law_cx", "_law_cy", "_law_hue", "_law_region", "e"]
@[irreducible] def r_l_asked_k09 : DSp := fun ds S Q _ => ∃ k st ps nd rows x y s lo fr, ds = [rul k st ps nd, pic rows, .int x, .int y, .str s, lo] ∧ knd k ∧ ps.length ≤ 1000 ∧ Grid rows ∧ (looseD lo fr ∨ (lo = .str "left out" ∧ fr = [])) ∧
  (if inP rows x y = true then (if laysP k st s = true then ∀ p, S p = none → Q (.adr p) (su S p (.lst ((clL rows x y fr (askP k ps s)).map pr))) else ∀ S', Grow S S' → Q (wrT s) S') else Q (outT x y) S)
theorem len_l_asked_k09 : Ln 6 r_l_asked_k09 := fun ds S Q E h => by unfold r_l_asked_k09 at h; obtain ⟨k, st, ps, nd, rows, x, y, s, lo, fr, rfl, _⟩ := h; rfl
theorem rd_l_asked_k09 : Rd t_l_asked_k09 N_l_asked_k09 r_l_asked_k09 := by
  intro ds S QD XD h
  unfold r_l_asked_k09 at h
  obtain ⟨k, st, ps, nd, rows, x, y, s, lo, fr, rfl, hk, hl, g, hlo, q⟩ := h
  obtain ⟨bb, hbb⟩ : ∃ bb, laysP k st s = bb := ⟨_, rfl⟩
  rw [hbb] at q
  rcases hlo with (⟨rfl, rfl⟩ | rfl) | ⟨rfl, rfl⟩
  · have hlo : looseD .non [] := .inl ⟨rfl, rfl⟩
    row_hasAll w_d
    rcases hk with rfl | rfl | rfl
    all_goals
      row_hasAll w_d
      row_hasAll w_ask9
  · have hlo : looseD (rg fr) fr := .inr rfl
    row_hasAll w_d
    refine i_eqS ?_
    row_hasAll w_d
    rcases hk with rfl | rfl | rfl
    all_goals
      row_hasAll w_d
      row_hasAll w_ask9
  · have hlo : looseD .non [] := .inl ⟨rfl, rfl⟩
    row_hasAll w_d
    rcases hk with rfl | rfl | rfl
    all_goals
      row_hasAll w_d
      row_hasAll w_ask9
theorem i_asked9 {k : Nat} {st s : Str} {ps : List Part} {nd x y : Int} {rows : List Str} {lo : D} {fr : List Cell} {S : Sto} {Q : DQ} {X : XQ} (hk : knd k) (hl : ps.length ≤ 1000) (g : Grid rows) (hlo : looseD lo fr ∨ (lo = .str "left out" ∧ fr = [])) (q : if inP rows x y = true then (if laysP k st s = true then ∀ p, S p = none → Q (.adr p) (su S p (.lst ((clL rows x y fr (askP k ps s)).map pr))) else ∀ S', Grow S S' → Q (wrT s) S') else Q (outT x y) S) : r_l_asked_k09 [rul k st ps nd, pic rows, .int x, .int y, .str s, lo] S Q X := by unfold r_l_asked_k09; exact ⟨k, st, ps, nd, rows, x, y, s, lo, fr, rfl, hk, hl, g, hlo, q⟩
def t_l_due_k09 : DTS := (dSeq (dIf (dTestB (dOp oEq (dCall r_l_sign [] (dCons (dVar 1) (dCons (dVar 2) (dCons (dVar 3) dNil)))) (dC (.str "#")))) (dRet (dTup (dCons (dC (.str "out")) (dCons (dVar 2) (dCons (dVar 3) (dCons (dC (.bl true)) dNil)))))) dNext) (dSeq (dIf (dNot (dTru (dCall r_l_lays [] (dCons (dVar 0) (dCons (dVar 4) dNil))))) (dRet (dTup (dCons (dC (.str "wrong")) (dCons (dVar 4) (dCons (dC (.bl true)) dNil))))) dNext) (dRet (dCall r_l_clashing [] (dCons (dVar 0) (dCons (dVar 1) (dCons (dVar 2) (dCons (dVar 3) (dCons (dVar 4) (dCons (dVar 5) dNil))))))))))
abbrev N_l_due_k09 : List Str := ["_law_rule_here", "_law_rows", "_law_cx", "_law_cy", "_law_hue", "_law_free"]
@[irreducible] def r_l_due_k09 : DSp := fun ds S Q _ => ∃ k hue ps nd rows x y s fr, ds = [rulT k hue ps nd, .lst (rows.map D.str), .int x, .int y, .str s, .lst (fr.map pr)] ∧ knd k ∧ ps.length ≤ 1000 ∧ Grid rows ∧ 
  Q (if inP rows x y = true then (if k = 4 ∨ hue = s then .lst ((roSort (clL rows x y fr (askP k ps s))).map pr) else wrT s) else outT x y) S
theorem len_l_due_k09 : Ln 6 r_l_due_k09 := fun ds S Q E h => by unfold r_l_due_k09 at h; obtain ⟨k, hue, ps, nd, rows, x, y, s, fr, rfl, _⟩ := h; rfl
theorem rd_l_due_k09 : Rd t_l_due_k09 N_l_due_k09 r_l_due_k09 := by
  intro ds S QD XD h
  unfold r_l_due_k09 at h
  obtain ⟨k, hue, ps, nd, rows, x, y, s, fr, rfl, hk, hl, g, q⟩ := h
  row_hasAll w_d
  refine i_lsign g ?_
  row_hasAll w_d
  rw [eqB_str, sgn_edge g]
  cases hin : inP rows x y with
  | false =>
    rw [hin, if_neg (by simp)] at q
    row_hasAll w_d
    exact q
  | true =>
    rw [hin, if_pos rfl] at q
    row_hasAll w_d
    refine i_llays hk ?_
    rw [← Bool.decide_or]
    by_cases hb : k = 4 ∨ hue = s
    · rw [if_pos hb] at q
      rw [decide_eq_true hb]
      row_hasAll w_d
      exact i_lclash hk hl g q
    · rw [if_neg hb] at q
      rw [decide_eq_false hb]
      row_hasAll w_d
      exact q
theorem i_due9 {k : Nat} {hue s : Str} {ps : List Part} {nd x y : Int} {rows : List Str} {fr : List Cell} {S : Sto} {Q : DQ} {X : XQ} (hk : knd k) (hl : ps.length ≤ 1000) (g : Grid rows) (q : Q (if inP rows x y = true then (if k = 4 ∨ hue = s then .lst ((roSort (clL rows x y fr (askP k ps s))).map pr) else wrT s) else outT x y) S) : r_l_due_k09 [rulT k hue ps nd, .lst (rows.map D.str), .int x, .int y, .str s, .lst (fr.map pr)] S Q X := by unfold r_l_due_k09; exact ⟨k, hue, ps, nd, rows, x, y, s, fr, rfl, hk, hl, g, q⟩
def t_l_right_k09 : DTS := (dSeq (dIf (dAnd (dTru (dUn (isiD ti_list) (dVar 1))) (dNot (dTru (dCall r_l_is_cells [] (dCons (dVar 0) dNil))))) (dRet (dC (.bl false))) dNext) (dRet (dOp oEq (dVar 0) (dVar 1))))
abbrev N_l_right_k09 : List Str := ["_law_told", "_law_due_here"]
def tupOk (d : D) : Prop := (∃ x y, d = outT x y) ∨ ∃ s, d = wrT s
theorem eqB_tup {d : D} (h : tupOk d) : eqB d d = true := by
  rcases h with ⟨x, y, rfl⟩ | ⟨s, rfl⟩
  · simp [outT, eqB, toP, toPs, PyData.eqv, PyData.eqvAll]
  · simp [wrT, eqB, toP, toPs, PyData.eqv, PyData.eqvAll]
@[irreducible] def r_l_right_k09 : DSp := fun ds S Q _ => ∃ d e, ds = [d, e] ∧ ((∃ cs : List Cell, isL S d (cs.map pr) ∧ e = .lst (cs.map pr)) ∨ (d = e ∧ tupOk e)) ∧ Q (.bl true) S
theorem len_l_right_k09 : Ln 2 r_l_right_k09 := fun ds S Q E h => by unfold r_l_right_k09 at h; obtain ⟨d, e, rfl, _⟩ := h; rfl
theorem rd_l_right_k09 : Rd t_l_right_k09 N_l_right_k09 r_l_right_k09 := by
  intro ds S QD XD h
  unfold r_l_right_k09 at h
  obtain ⟨d, e, rfl, h, q⟩ := h
  rcases h with ⟨cs, hL, rfl⟩ | ⟨rfl, ht⟩
  · row_hasAll w_d
    refine i_is_cellsL hL ?_
    row_hasAll w_d
    rcases hL with rfl | ⟨a, rfl, ha⟩
    · row_hasAll w_d
      refine ⟨by rw [pln_prs 6]; rfl, ?_⟩
      rw [eqB_prs, decide_eq_true rfl]
      exact q
    · row_hasAll w_d
      refine ⟨by rw [pln_prs 6]; rfl, ?_⟩
      rw [eqB_prs, decide_eq_true rfl]
      exact q
  · have he := eqB_tup ht
    rcases ht with ⟨x, y, rfl⟩ | ⟨s, rfl⟩
    · unfold outT at he ⊢
      row_hasAll w_d
      rw [he]
      exact q
    · unfold wrT at he ⊢
      row_hasAll w_d
      rw [he]
      exact q
theorem i_right9 {d e : D} {S : Sto} {Q : DQ} {X : XQ} (h : (∃ cs : List Cell, isL S d (cs.map pr) ∧ e = .lst (cs.map pr)) ∨ (d = e ∧ tupOk e)) (q : Q (.bl true) S) : r_l_right_k09 [d, e] S Q X := by unfold r_l_right_k09; exact ⟨d, e, rfl, h, q⟩
/-- what the rule's lays and the law's say of a stone -/
theorem lays_agree {k : Nat} {hue s : Str} {ps : List Part} {nd : Int} (h : LR k hue ps nd) (hs : stoneB s = true) : laysP k (mhue k hue) s = decide (k = 4 ∨ hue = s) := by
  unfold laysP mhue
  by_cases h4 : k = 4
  · rw [if_pos h4, hs, decide_eq_true (.inl h4)]
  · rw [if_neg h4, if_neg h4]
    exact decide_eq_decide.mpr ⟨fun e => .inr e.symm, fun e => (e.resolve_left h4).symm⟩
theorem lays_no {k : Nat} {hue s : Str} {ps : List Part} {nd : Int} (h : LR k hue ps nd) (hs : stoneB s = false) : laysP k (mhue k hue) s = false := by
  unfold laysP mhue
  by_cases h4 : k = 4
  · rw [if_pos h4, hs]
  · rw [if_neg h4, if_neg h4]
    refine decide_eq_false fun e => ?_
    obtain ⟨c, rfl, hc⟩ := h.hu
    rw [e, stone_one, hc] at hs
    cases hs
/-- asked, then told right -/
theorem ask_right {k : Nat} {hue s : Str} {ps : List Part} {nd x y : Int} {rows : List Str} {lo : D} {fr : List Cell} {S : Sto} {Q : DQ} {X : XQ} (hr : LR k hue ps nd) (g : Grid rows) (hs : stoneB s = true) (hlo : looseD lo fr ∨ (lo = .str "left out" ∧ fr = []))
    (q : ∀ d S', Grow S S' → ((∃ a l, d = .adr a ∧ S' a = some (.lst l) ∧ l.length ≤ 1000) ∨ tupOk d) → (∀ e, e = (if inP rows x y = true then (if k = 4 ∨ hue = s then .lst ((roSort (clL rows x y fr (askP k ps s))).map pr) else wrT s) else outT x y) → ((∃ cs : List Cell, isL S' d (cs.map pr) ∧ e = .lst (cs.map pr)) ∨ (d = e ∧ tupOk e))) → Q d S') : r_l_asked_k09 [mrul k hue ps nd, pic rows, .int x, .int y, .str s, lo] S Q X := by
  have h8 := hr.ok.le
  have hlen : (clL rows x y fr (askP k ps s)).length ≤ 1000 := by
    have h1 : (clL rows x y fr (askP k ps s)).length ≤ (askP k ps s).length := by unfold clL; rw [List.length_map]; exact List.length_filter_le ..
    rw [askP_len] at h1
    omega
  rw [mrul_is]
  refine i_asked9 hr.kd (by rw [mparts_len]; omega) g hlo ?_
  rw [lays_agree hr hs, ← clash_agree hr g]
  by_cases hin : inP rows x y = true
  · rw [if_pos hin]
    by_cases hb : k = 4 ∨ hue = s
    · rw [decide_eq_true hb, if_pos rfl]
      intro p hp
      refine q _ _ (Grow.new hp) (.inl ⟨p, _, rfl, su_same, by rw [List.length_map, roSort_len]; exact hlen⟩) fun e he => .inl ?_
      rw [if_pos hin, if_pos hb] at he
      exact ⟨_, .inr ⟨p, rfl, su_same⟩, he⟩
    · rw [decide_eq_false hb, if_neg (by simp)]
      intro S' hg
      refine q _ _ hg (.inr (.inr ⟨s, rfl⟩)) fun e he => .inr ?_
      rw [if_pos hin, if_neg hb] at he
      exact ⟨he.symm, .inr ⟨s, he⟩⟩
  · rw [if_neg hin]
    refine q _ _ (Grow.refl S) (.inr (.inl ⟨x, y, rfl⟩)) fun e he => .inr ?_
    rw [if_neg hin] at he
    exact ⟨he.symm, .inl ⟨x, y, he⟩⟩
def dueD (k : Nat) (hue s : Str) (ps : List Part) (x y : Int) (rows : List Str) (fr : List Cell) : D := if inP rows x y = true then (if k = 4 ∨ hue = s then .lst ((roSort (clL rows x y fr (askP k ps s))).map pr) else wrT s) else outT x y
theorem due_kind (k : Nat) (hue s : Str) (ps : List Part) (x y : Int) (rows : List Str) (fr : List Cell) : (∃ cs : List Cell, dueD k hue s ps x y rows fr = .lst (cs.map pr)) ∨ tupOk (dueD k hue s ps x y rows fr) := by
  unfold dueD
  split
  · split
    · exact .inl ⟨_, rfl⟩
    · exact .inr (.inr ⟨s, rfl⟩)
  · exact .inr (.inl ⟨x, y, rfl⟩)
/-- asked, the answer frozen -/
theorem ask_due {k : Nat} {hue s : Str} {ps : List Part} {nd x y : Int} {rows : List Str} {lo : D} {fr : List Cell} {S : Sto} {Q : DQ} {X : XQ} (hr : LR k hue ps nd) (g : Grid rows) (hs : stoneB s = true) (hlo : looseD lo fr ∨ (lo = .str "left out" ∧ fr = []))
    (q : ∀ S', Grow S S' → Q (dueD k hue s ps x y rows fr) S') : r_l_asked_k09 [mrul k hue ps nd, pic rows, .int x, .int y, .str s, lo] S (fun d S1 => fzD d S1 Q) X := by
  have h8 := hr.ok.le
  unfold dueD at q
  rw [mrul_is]
  refine i_asked9 hr.kd (by rw [mparts_len]; omega) g hlo ?_
  rw [lays_agree hr hs, ← clash_agree hr g]
  by_cases hin : inP rows x y = true
  · rw [if_pos hin] at q ⊢
    by_cases hb : k = 4 ∨ hue = s
    · rw [if_pos hb] at q
      rw [decide_eq_true hb, if_pos rfl]
      intro p hp
      exact fz_new hp (q _ (Grow.refl S))
    · rw [if_neg hb] at q
      rw [decide_eq_false hb, if_neg (by simp)]
      intro S' hg
      exact q S' hg
  · rw [if_neg hin] at q ⊢
    exact q _ (Grow.refl S)
theorem ask_no {k : Nat} {hue s : Str} {ps : List Part} {nd x y : Int} {rows : List Str} {lo : D} {fr : List Cell} {S : Sto} {Q : DQ} {X : XQ} (hr : LR k hue ps nd) (g : Grid rows) (hs : stoneB s = false) (hlo : looseD lo fr ∨ (lo = .str "left out" ∧ fr = []))
    (q : ∀ S', Grow S S' → Q (if inP rows x y = true then wrT s else outT x y) S') : r_l_asked_k09 [mrul k hue ps nd, pic rows, .int x, .int y, .str s, lo] S (fun d S1 => fzD d S1 Q) X := by
  have h8 := hr.ok.le
  rw [mrul_is]
  refine i_asked9 hr.kd (by rw [mparts_len]; omega) g hlo ?_
  rw [lays_no hr hs]
  by_cases hin : inP rows x y = true
  · rw [if_pos hin] at q ⊢
    rw [if_neg (by simp)]
    intro S' hg
    exact q S' hg
  · rw [if_neg hin] at q ⊢
    exact q _ (Grow.refl S)
end SM

set_option Elab.async false
set_option linter.all false
set_option maxRecDepth 100000
set_option maxHeartbeats 4000000
--#ONETAC

namespace SM
open PySem PySem.Spec PyProof.Rows L2
/-! ### holes put into a grid -/
theorem inP_iff {rows : List Str} {x y : Int} : inP rows x y = true ↔ (0 ≤ x ∧ x < wid rows) ∧ (0 ≤ y ∧ y < (rows.length : Nat)) := by unfold inP; exact decide_eq_true_iff
theorem Grid.inP_putR {rows : List Str} (g : Grid rows) {x y : Int} (h : inP rows x y = true) (c : Nat) (x' y' : Int) : inP (putR rows x y (one c)) x' y' = inP rows x' y' := by
  unfold inP
  rw [g.wput h, putR_len]
theorem Grid.sgn_put {rows : List Str} (g : Grid rows) {x y : Int} (h : inP rows x y = true) (c : Nat) (x' y' : Int) : sgnAt (putR rows x y (one c)) x' y' = if x' = x ∧ y' = y then one c else sgnAt rows x' y' := by
  obtain ⟨r, k, e1, e2, hr, hc, e3⟩ := g.get h
  have h' := inP_iff.mp h
  have hl := (g.row r hr).1
  have hy := (List.getElem?_eq_some_iff.mp e1).1
  have hx := (List.getElem?_eq_some_iff.mp e2).1
  have e4 : putR rows x y (one c) = rows.set y.toNat (putS r x (one c)) := by unfold putR; rw [e1]
  unfold sgnAt
  rw [g.inP_putR h]
  by_cases hin : inP rows x' y' = true
  · rw [if_pos hin, if_pos hin, e4]
    have h2 := inP_iff.mp hin
    by_cases hy' : y' = y
    · subst hy'
      rw [List.getElem?_set_self hy, e1]
      simp only
      rw [putS_codes h'.1.1 (by omega)]
      by_cases hx' : x' = x
      · subst hx'
        rw [List.getElem?_set_self hx]; simp
      · rw [List.getElem?_set_ne (by omega), if_neg (fun z => hx' z.1)]
    · rw [List.getElem?_set_ne (by omega), if_neg (fun z => hy' z.2)]
  · rw [if_neg hin, if_neg hin, if_neg]
    rintro ⟨rfl, rfl⟩
    exact hin h
/-- rows with the cells of fr as holes -/
structure Bare (rows bare : List Str) (fr : List Cell) : Prop where
  g : Grid bare
  w : wid bare = wid rows
  l : bare.length = rows.length
  s : ∀ x y, sgnAt bare x y = if inP rows x y = true ∧ (x, y) ∈ fr then Str.ofString "." else sgnAt rows x y
theorem Bare.inP {rows bare : List Str} {fr : List Cell} (h : Bare rows bare fr) (x y : Int) : inP bare x y = inP rows x y := by
  unfold SM.inP
  rw [h.w, h.l]
theorem Bare.refl {rows : List Str} (g : Grid rows) : Bare rows rows [] := ⟨g, rfl, rfl, fun x y => by rw [if_neg]; simp⟩
theorem Bare.put {rows bare : List Str} {fr : List Cell} (h : Bare rows bare fr) {c : Cell} (hc : SM.inP rows c.1 c.2 = true) : Bare rows (putR bare c.1 c.2 ".") (fr ++ [c]) := by
  have hb : SM.inP bare c.1 c.2 = true := by rw [h.inP]; exact hc
  refine ⟨h.g.put (c := 46) hb (by decide +kernel), by rw [← h.w]; exact h.g.wput hb 46, by rw [putR_len]; exact h.l, fun x y => ?_⟩
  rw [show putR bare c.1 c.2 "." = putR bare c.1 c.2 (one 46) from rfl, h.g.sgn_put hb, h.s]
  by_cases e : x = c.1 ∧ y = c.2
  · obtain ⟨rfl, rfl⟩ := e
    rw [if_pos ⟨rfl, rfl⟩, if_pos ⟨hc, by simp⟩]
    rfl
  · rw [if_neg e]
    have : (x, y) ∈ fr ++ [c] ↔ (x, y) ∈ fr := by
      rw [List.mem_append, List.mem_singleton]
      refine ⟨fun z => z.resolve_right fun q => e ?_, .inl⟩
      rw [← q]; exact ⟨rfl, rfl⟩
    simp only [this]
theorem Bare.skip {rows bare : List Str} {fr : List Cell} (h : Bare rows bare fr) {c : Cell} (hc : SM.inP rows c.1 c.2 = false) : Bare rows bare (fr ++ [c]) := by
  refine ⟨h.g, h.w, h.l, fun x y => ?_⟩
  rw [h.s]
  have : (SM.inP rows x y = true ∧ (x, y) ∈ fr ++ [c]) ↔ (SM.inP rows x y = true ∧ (x, y) ∈ fr) := by
    refine and_congr_right fun hi => ?_
    rw [List.mem_append, List.mem_singleton]
    refine ⟨fun z => z.resolve_right fun q => ?_, .inl⟩
    rw [← q] at hc
    rw [hc] at hi
    cases hi
  by_cases hq : SM.inP rows x y = true ∧ (x, y) ∈ fr
  · rw [if_pos hq, if_pos (this.mpr hq)]
  · rw [if_neg hq, if_neg (fun z => hq (this.mp z))]
theorem clB_bare {rows bare : List Str} {fr : List Cell} (g : Grid rows) (h : Bare rows bare fr) (x y : Int) (p : Part) : clB bare x y [] p = clB rows x y fr p := by
  unfold clB
  rw [h.s, sgn_edge g]
  have hs : (fun s => decide (s = Str.ofString "#")) (sgnAt rows (x + p.1) (y + p.2.1)) = !SM.inP rows (x + p.1) (y + p.2.1) := sgn_edge g _ _
  by_cases hq : SM.inP rows (x + p.1) (y + p.2.1) = true ∧ (x + p.1, y + p.2.1) ∈ fr
  · rw [if_pos hq, hq.1, decide_eq_true hq.2, decide_eq_true (rfl : Str.ofString "." = Str.ofString ".")]
    simp
  · rw [if_neg hq, sgn_edge g]
    congr 1
    cases hi : SM.inP rows (x + p.1) (y + p.2.1) with
    | false => simp
    | true =>
      have : (x + p.1, y + p.2.1) ∉ fr := fun z => hq ⟨hi, z⟩
      simp [this]
theorem clL_bare {rows bare : List Str} {fr : List Cell} (g : Grid rows) (h : Bare rows bare fr) (x y : Int) (ps : List Part) : clL bare x y [] ps = clL rows x y fr ps := by
  unfold clL
  rw [show clB bare x y [] = clB rows x y fr from funext fun p => clB_bare g h x y p]
def keepC (rows : List Str) (fr : List Cell) (c : Cell) : Bool := !decide (c ∈ fr) || !inP rows c.1 c.2
theorem clL_less {rows : List Str} {fr : List Cell} (g : Grid rows) (x y : Int) (ps : List Part) : (clL rows x y [] ps).filter (keepC rows fr) = clL rows x y fr ps := by
  unfold clL
  rw [List.filter_map, List.filter_filter]
  congr 1
  apply List.filter_congr
  intro p _
  unfold clB keepC
  rw [sgn_edge g]
  simp only [Function.comp, shf]
  by_cases hm : (x + p.1, y + p.2.1) ∈ fr <;> cases decide (sgnAt rows (x + p.1) (y + p.2.1) = Str.ofString ".") <;> cases inP rows (x + p.1) (y + p.2.1) <;> cases inS (sgnAt rows (x + p.1) (y + p.2.1)) p.2.2 <;> simp [hm]
theorem clL_le {rows : List Str} {fr : List Cell} (g : Grid rows) (x y : Int) (ps : List Part) : (clL rows x y fr ps).length ≤ (clL rows x y [] ps).length := by
  rw [← clL_less g]
  exact List.length_filter_le ..
end SM

set_option Elab.async false
set_option linter.all false
set_option maxRecDepth 100000
set_option maxHeartbeats 4000000
namespace SM
open PySem PySem.Spec PyProof.Rows L2
/-- the same, over enumerate(..) -/
theorem loop_en {q : Pat} {tb : DTS} {E : DEnds} {α : Type} {f : α → D} (ix : List Nat) (J : Nat → List α → DS → Sto → Prop) {δ0 δl : DS} {S0 : Sto} {xs : List α} {n : Nat} (hδ : δ0 = δl)
    (hs : ∀ i x r ws S, J i (x :: r) ws S → ∃ δ1, bindP q (.tup [.int (i : Nat), f x]) (sets δl ix ws) = some δ1 ∧ ∀ N : DS → Sto → Prop, (∀ δ2 S2, δ2 = sets δl ix (gets δ2 ix) → J (i + 1) r (gets δ2 ix) S2 → N δ2 S2) → tb { E with nx := N, ct := N, bk := E.nx } δ1 S)
    (hd : ∀ i ws S, J i [] ws S → E.nx (sets δl ix ws) S) (h : J n xs (gets δ0 ix) S0) : loopK none q tb E (enumD n (xs.map f)) δ0 S0 := by
  rw [enumD_map]
  refine loop_e (xs := xs.zipIdx n) (g := fun p : α × Nat => D.tup [.int (p.2 : Nat), f p.1]) ix (fun r ws S => ∃ i l, r = List.zipIdx l i ∧ J i l ws S) hδ ?_ ?_ ⟨n, xs, rfl, h⟩
  · rintro x r ws S ⟨i, l, e, hJ⟩
    cases l with
    | nil => cases e
    | cons y l =>
      rw [List.zipIdx_cons, List.cons.injEq] at e
      obtain ⟨rfl, rfl⟩ := e
      obtain ⟨δ1, e1, hN⟩ := hs i y l ws S hJ
      exact ⟨δ1, e1, fun N h => hN N fun δ2 S2 a h2 => h δ2 S2 a ⟨i + 1, l, rfl, h2⟩⟩
  · rintro ws S ⟨i, l, e, hJ⟩
    cases l with
    | nil => exact hd i ws S hJ
    | cons y l => rw [List.zipIdx_cons] at e; cases e
/-! ### methods by the kind of a rule -/
@[irreducible] def r_laysK (k : Nat) : DSp := fun ds S Q _ => ∃ st ps nd s, ds = [rul k st ps nd, .str s] ∧ Q (.bl (laysP k st s)) S
theorem i_laysK {k : Nat} {st s : Str} {ps : List Part} {nd : Int} {S : Sto} {Q : DQ} {X : XQ} (q : Q (.bl (laysP k st s)) S) : r_laysK k [rul k st ps nd, .str s] S Q X := by unfold r_laysK; exact ⟨st, ps, nd, s, rfl, q⟩
theorem vk_lays {k : Nat} {st : Str} {ps : List Part} {nd : Int} {S : Sto} {F : DSp → Prop} (hk : knd k) (h : F (r_laysK k)) : vwk S (rul k st ps nd) (fun x' => tabK [(2, r_Rule_lays), (3, r_Rule_lays), (4, r_SameRule_lays)] x' F) := by
  rcases hk with rfl | rfl | rfl
  · refine vk_ins (tab_o (R0 := r_laysK 2) rfl (fun ds S Q X z => ?_) h)
    unfold r_laysK at z
    obtain ⟨st, ps, nd, s, rfl, z⟩ := z
    exact i_lays (k := 2) (.inl rfl) z
  · refine vk_ins (tab_o (R0 := r_laysK 3) rfl (fun ds S Q X z => ?_) h)
    unfold r_laysK at z
    obtain ⟨st, ps, nd, s, rfl, z⟩ := z
    exact i_lays (k := 3) (.inr rfl) z
  · refine vk_ins (tab_o (R0 := r_laysK 4) rfl (fun ds S Q X z => ?_) h)
    unfold r_laysK at z
    obtain ⟨st, ps, nd, s, rfl, z⟩ := z
    exact i_laysS z
@[irreducible] def r_slackK (k : Nat) : DSp := fun ds S Q _ => ∃ st ps nd, ds = [rul k st ps nd] ∧ Q (.int (slkZ k ps nd)) S
theorem i_slackK {k : Nat} {st : Str} {ps : List Part} {nd : Int} {S : Sto} {Q : DQ} {X : XQ} (q : Q (.int (slkZ k ps nd)) S) : r_slackK k [rul k st ps nd] S Q X := by unfold r_slackK; exact ⟨st, ps, nd, rfl, q⟩
theorem vk_slack {k : Nat} {st : Str} {ps : List Part} {nd : Int} {S : Sto} {F : DSp → Prop} (hk : knd k) (h : F (r_slackK k)) : vwk S (rul k st ps nd) (fun x' => tabK [(2, r_Rule_slack), (3, r_CountRule_slack), (4, r_CountRule_slack)] x' F) := by
  rcases hk with rfl | rfl | rfl
  · refine vk_ins (tab_o (R0 := r_slackK 2) rfl (fun ds S Q X z => ?_) h)
    unfold r_slackK at z
    obtain ⟨st, ps, nd, rfl, z⟩ := z
    exact i_slack2 z
  · refine vk_ins (tab_o (R0 := r_slackK 3) rfl (fun ds S Q X z => ?_) h)
    unfold r_slackK at z
    obtain ⟨st, ps, nd, rfl, z⟩ := z
    exact i_slackC (k := 3) (.inl rfl) z
  · refine vk_ins (tab_o (R0 := r_slackK 4) rfl (fun ds S Q X z => ?_) h)
    unfold r_slackK at z
    obtain ⟨st, ps, nd, rfl, z⟩ := z
    exact i_slackC (k := 4) (.inr rfl) z
/-- clashes, the list frozen -/
theorem i_clashF {k : Nat} {st s : Str} {ps : List Part} {nd x y : Int} {rows : List Str} {lo : D} {fr : List Cell} {S : Sto} {Q : DQ} {X : XQ} (hk : knd k) (hl : ps.length ≤ 1000) (g : Grid rows) (hlo : looseD lo fr) (hin : inP rows x y = true) (hly : laysP k st s = true) (q : Q (.lst ((clL rows x y fr (askP k ps s)).map pr)) S) : r_Rule_clashes [rul k st ps nd, pic rows, .int x, .int y, .str s, lo] S (fun d S1 => fzD d S1 Q) X :=
  i_clashes hk hl g hlo (by rw [hin, if_pos rfl, if_pos hly]; exact fun p hp => fz_new hp q)
--#CALL refine i_laysK ?_
--#CALL refine i_slackK ?_
--#CALL refine vk_lays (by row_hasAll w_side) ?_
--#CALL refine vk_slack (by row_hasAll w_side) ?_
--#CALL refine vk_T3 (by row_hasAll w_side) ?_
end SM

set_option Elab.async false
set_option linter.all false
set_option maxRecDepth 100000
set_option maxHeartbeats 4000000
--#ONETAC
local macro_rules | `(tactic| row_hasAll w_c) => `(tactic| first
  | refine i_laysK ?_
  | refine i_slackK ?_
  | refine vk_lays (by row_hasAll w_side) ?_
  | refine vk_slack (by row_hasAll w_side) ?_
  | refine vk_T3 (by row_hasAll w_side) ?_)
namespace SM
open PySem PySem.Spec PyProof.Rows L2
def t_l_less : DTS := (dRet (dLc (dItems (dVar 0)) (.nm 3) (dOr (dTestB (dOp oNotIn (dVar 3) (dVar 1))) (dTestB (dOp oEq (dCall r_l_sign [] (dCons (dVar 2) (dCons (dOp oIx (dVar 3) (dC (.int 0))) (dCons (dOp oIx (dVar 3) (dC (.int 1))) dNil)))) (dC (.str "#"))))) (dVar 3) [3]))
abbrev N_l_less : List Str := ["_law_told", "_law_free", "_law_rows", "_law_place"]
@[irreducible] def r_l_less : DSp := fun ds S Q _ => ∃ (cs fr : List Cell) (rows : List Str), ds = [.lst (cs.map pr), .lst (fr.map pr), .lst (rows.map D.str)] ∧ Grid rows ∧ cs.length ≤ 1000 ∧ Q (.lst ((cs.filter (keepC rows fr)).map pr)) S
theorem len_l_less : Ln 3 r_l_less := fun ds S Q E h => by unfold r_l_less at h; obtain ⟨cs, fr, rows, rfl, _⟩ := h; rfl
theorem rd_l_less : Rd t_l_less N_l_less r_l_less := by
  intro ds S QD XD h
  unfold r_l_less at h
  obtain ⟨cs, fr, rows, rfl, g, hl, q⟩ := h
  row_hasAll w_e
  refine lk_filter (xs := cs) (g := pr) (f := pr) (p := keepC rows fr) (fun c hc => ⟨_, rfl, fun Q' hh => ?_, fun _ Q' hh => ?_⟩) ?_
  · row_hasAll w_e
    rw [inB_prs]
    unfold keepC at hh
    by_cases hm : c ∈ fr
    · rw [decide_eq_true hm] at hh ⊢
      row_hasAll w_e
      refine i_lsign g ?_
      row_hasAll w_e
      rw [eqB_str, sgn_edge g]
      exact hh
    · rw [decide_eq_false hm] at hh ⊢
      row_hasAll w_e
      exact hh
  · row_hasAll w_e
    exact hh
  · row_hasAll w_e
    exact q
theorem i_less {cs fr : List Cell} {rows : List Str} {S : Sto} {Q : DQ} {X : XQ} (g : Grid rows) (hl : cs.length ≤ 1000) (q : Q (.lst ((cs.filter (keepC rows fr)).map pr)) S) : r_l_less [.lst (cs.map pr), .lst (fr.map pr), .lst (rows.map D.str)] S Q X := by unfold r_l_less; exact ⟨cs, fr, rows, rfl, g, hl, q⟩
def t_l_cell_agrees : DTS := (dSeq (dSet 7 (dFz (dMethTD [(2, r_Rule_clashes), (3, r_Rule_clashes), (4, r_Rule_clashes)] [.non] (dVar 0) (dCons (dOp oIx (dVar 1) (dC (.int 0))) (dCons (dOp oIx (dVar 5) (dC (.int 0))) (dCons (dOp oIx (dVar 5) (dC (.int 1))) (dCons (dVar 6) dNil))))))) (dSeq (dSet 8 (dFz (dMethTD [(2, r_Rule_clashes), (3, r_Rule_clashes), (4, r_Rule_clashes)] [.non] (dVar 0) (dCons (dOp oIx (dVar 1) (dC (.int 1))) (dCons (dOp oIx (dVar 5) (dC (.int 0))) (dCons (dOp oIx (dVar 5) (dC (.int 1))) (dCons (dVar 6) dNil))))))) (dSeq (dSet 9 (dFz (dMethTK [(2, r_Rule_clashes), (3, r_Rule_clashes), (4, r_Rule_clashes)] 5 (dVar 0) (dCons (dOp oIx (dVar 1) (dC (.int 0))) (dCons (dOp oIx (dVar 5) (dC (.int 0))) (dCons (dOp oIx (dVar 5) (dC (.int 1))) (dCons (dVar 6) dNil)))) (dVar 2)))) (dSeq (dIf (dOr (dNot (dTru (dCall r_l_is_cells [] (dCons (dVar 7) dNil)))) (dOr (dNot (dTru (dCall r_l_is_cells [] (dCons (dVar 8) dNil)))) (dNot (dTru (dCall r_l_is_cells [] (dCons (dVar 9) dNil)))))) (dRet (dC (.bl false))) dNext) (dSeq (dIf (dOr (dTestB (dOp oNe (dVar 9) (dVar 8))) (dTestB (dOp oNe (dVar 9) (dCall r_l_less [] (dCons (dVar 7) (dCons (dVar 3) (dCons (dVar 4) dNil))))))) (dRet (dC (.bl false))) dNext) (dSeq (dSet 10 (dMethTD [(2, r_Rule_fits), (3, r_Rule_fits), (4, r_Rule_fits)] [.non] (dVar 0) (dCons (dOp oIx (dVar 1) (dC (.int 0))) (dCons (dOp oIx (dVar 5) (dC (.int 0))) (dCons (dOp oIx (dVar 5) (dC (.int 1))) (dCons (dVar 6) dNil)))))) (dSeq (dSet 11 (dMethTD [(2, r_Rule_fits), (3, r_Rule_fits), (4, r_Rule_fits)] [.non] (dVar 0) (dCons (dOp oIx (dVar 1) (dC (.int 1))) (dCons (dOp oIx (dVar 5) (dC (.int 0))) (dCons (dOp oIx (dVar 5) (dC (.int 1))) (dCons (dVar 6) dNil)))))) (dSeq (dIf (dAnd (dTru (dVar 10)) (dNot (dTru (dVar 11)))) (dRet (dC (.bl false))) dNext) (dSeq (dIf (dTestB (dOp oNe (dMethTK [(2, r_Rule_fits), (3, r_Rule_fits), (4, r_Rule_fits)] 5 (dVar 0) (dCons (dOp oIx (dVar 1) (dC (.int 0))) (dCons (dOp oIx (dVar 5) (dC (.int 0))) (dCons (dOp oIx (dVar 5) (dC (.int 1))) (dCons (dVar 6) dNil)))) (dVar 2)) (dVar 11))) (dRet (dC (.bl false))) dNext) (dRet (dOp oEq (dVar 11) (dOp oLe (dCB (on1 lenD) (dCons (dVar 9) dNil)) (dPropT [(2, r_Rule_slack), (3, r_CountRule_slack), (4, r_CountRule_slack)] (dVar 0))))))))))))))
abbrev N_l_cell_agrees : List Str := ["_law_made_here", "_law_pair", "_law_region", "_law_free", "_law_rows", "_law_cell", "_law_hue", "_law_whole", "_law_bare", "_law_seen", "_law_before", "_law_after"]
@[irreducible] def r_l_cell_agrees : DSp := fun ds S Q _ => ∃ k hue ps nd rows bare fr c s, ds = [rul k (mhue k hue) (mparts k ps) nd, .lst [pic rows, pic bare], rg fr, .lst (fr.map pr), .lst (rows.map D.str), pr c, .str s] ∧ LR k hue ps nd ∧ Grid rows ∧ Bare rows bare fr ∧ inP rows c.1 c.2 = true ∧ laysP k (mhue k hue) s = true ∧ Q (.bl true) S
theorem len_l_cell_agrees : Ln 7 r_l_cell_agrees := fun ds S Q E h => by unfold r_l_cell_agrees at h; obtain ⟨k, hue, ps, nd, rows, bare, fr, c, s, rfl, _⟩ := h; rfl
theorem rd_l_cell_agrees : Rd t_l_cell_agrees N_l_cell_agrees r_l_cell_agrees := by
  intro ds S QD XD h
  unfold r_l_cell_agrees at h
  obtain ⟨k, hue, ps, nd, rows, bare, fr, c, s, rfl, hr, g, hb, hin, hly, q⟩ := h
  have h8 := hr.ok.le
  have hml := mparts_len k ps
  obtain ⟨A, hA⟩ : ∃ A, clL rows c.1 c.2 [] (askP k (mparts k ps) s) = A := ⟨_, rfl⟩
  obtain ⟨B, hB⟩ : ∃ B, clL rows c.1 c.2 fr (askP k (mparts k ps) s) = B := ⟨_, rfl⟩
  have hbin : inP bare c.1 c.2 = true := by rw [hb.inP]; exact hin
  have hAB : A.filter (keepC rows fr) = B := by rw [← hA, ← hB, clL_less g]
  have hBb : clL bare c.1 c.2 [] (askP k (mparts k ps) s) = B := by rw [← hB, clL_bare g hb]
  have hAl : A.length ≤ 1000 := by
    have h1 : (clL rows c.1 c.2 [] (askP k (mparts k ps) s)).length ≤ (askP k (mparts k ps) s).length := by unfold clL; rw [List.length_map]; exact List.length_filter_le ..
    rw [askP_len, hA] at h1
    omega
  have hBl : B.length ≤ A.length := by rw [← hAB]; exact List.length_filter_le ..
  row_hasAll w_e
  refine vk_T3 hr.kd ?_
  row_hasAll w_e
  refine i_clashes hr.kd (by omega) g (.inl ⟨rfl, rfl⟩) ?_
  rw [hin, if_pos rfl, if_pos hly, hA]
  intro p hp
  refine fz_new hp ?_
  row_hasAll w_e
  refine vk_T3 hr.kd ?_
  row_hasAll w_e
  refine i_clashes hr.kd (by omega) hb.g (.inl ⟨rfl, rfl⟩) ?_
  rw [hbin, if_pos rfl, if_pos hly, hBb]
  intro p hp
  refine fz_new hp ?_
  row_hasAll w_e
  refine vk_T3 hr.kd ?_
  row_hasAll w_e
  refine i_clashes hr.kd (by omega) g (.inr rfl) ?_
  rw [hin, if_pos rfl, if_pos hly, hB]
  intro p hp
  refine fz_new hp ?_
  row_hasAll w_e
  refine i_is_cells ?_
  row_hasAll w_e
  refine i_is_cells ?_
  row_hasAll w_e
  refine i_is_cells ?_
  row_hasAll w_e
  refine ⟨by rw [pln_prs 6]; rfl, ?_⟩
  rw [eqB_prs, decide_eq_true rfl]
  row_hasAll w_e
  refine i_less g hAl ?_
  rw [hAB]
  row_hasAll w_e
  refine ⟨by rw [pln_prs 6]; rfl, ?_⟩
  rw [eqB_prs, decide_eq_true rfl]
  row_hasAll w_e
  refine vk_T3 hr.kd ?_
  row_hasAll w_e
  refine i_fits hr.kd (by omega) g (.inl ⟨rfl, rfl⟩) ?_
  rw [hin, if_pos rfl]
  unfold fitB
  rw [hly, hA]
  row_hasAll w_e
  refine vk_T3 hr.kd ?_
  row_hasAll w_e
  refine i_fits hr.kd (by omega) hb.g (.inl ⟨rfl, rfl⟩) ?_
  rw [hbin, if_pos rfl]
  unfold fitB
  rw [hly, hBb]
  row_hasAll w_e
  have hmono : decide ((A.length : Int) ≤ slkZ k (mparts k ps) nd) = true → decide ((B.length : Int) ≤ slkZ k (mparts k ps) nd) = true := fun z => decide_eq_true (by have := of_decide_eq_true z; omega)
  generalize hs1 : decide ((A.length : Int) ≤ slkZ k (mparts k ps) nd) = f1 at *
  generalize hs2 : decide ((B.length : Int) ≤ slkZ k (mparts k ps) nd) = f2 at *
  have hkd := hr.kd
  cases f1 <;> cases f2
  case true.false => cases hmono rfl
  all_goals
    row_hasAll w_w
    refine i_fits hr.kd (by omega) g (.inr rfl) ?_
    rw [hin, if_pos rfl]
    unfold fitB
    rw [hly, hB, hs2]
    row_hasAll w_w
    rw [List.length_map, hs2]
    exact q
theorem i_agrees14 {k : Nat} {hue s : Str} {ps : List Part} {nd : Int} {rows bare : List Str} {fr : List Cell} {c : Cell} {S : Sto} {Q : DQ} {X : XQ} (hr : LR k hue ps nd) (g : Grid rows) (hb : Bare rows bare fr) (hin : inP rows c.1 c.2 = true) (hly : laysP k (mhue k hue) s = true) (q : Q (.bl true) S) : r_l_cell_agrees [rul k (mhue k hue) (mparts k ps) nd, .lst [pic rows, pic bare], rg fr, .lst (fr.map pr), .lst (rows.map D.str), pr c, .str s] S Q X := by unfold r_l_cell_agrees; exact ⟨k, hue, ps, nd, rows, bare, fr, c, s, rfl, hr, g, hb, hin, hly, q⟩
def t_law_k14 (a : Addr) (ns : List Int) : DTS := (dSeq (dSet 1 (dCall (rScr a ns r_l_bag) [] (dCons (dVar 0) dNil))) (dSeq (dSet 2 (dCall r_l_palette [] (dCons (dVar 1) dNil))) (dSeq (dSet 3 (dCall r_l_grid [] (dCons (dVar 1) (dCons (dVar 2) dNil)))) (dSeq (dSet 4 (dCall r_l_rule [] (dCons (dVar 1) (dCons (dVar 2) dNil)))) (dSeq (dSet 5 (dCall r_l_made [] (dCons (dVar 4) dNil))) (dSeq (dSet 6 (dOp oAdd (dCall r_l_cells [] (dCons (dVar 3) dNil)) (dLst (dCons (dTup (dCons (dNeg (dC (.int 1))) (dCons (dC (.int 0)) dNil))) (dCons (dTup (dCons (dC (.int 0)) (dCons (dNeg (dC (.int 1))) dNil))) (dCons (dTup (dCons (dCB (on1 lenD) (dCons (dOp oIx (dVar 3) (dC (.int 0))) dNil)) (dCons (dC (.int 0)) dNil))) (dCons (dTup (dCons (dC (.int 0)) (dCons (dCB (on1 lenD) (dCons (dVar 3) dNil)) dNil))) (dCons (dTup (dCons (dNeg (dC (.int 1))) (dCons (dNeg (dC (.int 1))) dNil))) dNil)))))))) (dSeq (dSet 7 (dCall r_l_subset [] (dCons (dVar 1) (dCons (dVar 6) (dCons (dOp oAdd (dC (.int 2)) (dCall r_l_take [] (dCons (dVar 1) (dCons (dC (.int 3)) dNil)))) dNil))))) (dSeq (dSet 8 (dVar 3)) (dSeq (dFor (dItems (dVar 7)) (.nm 9) (dIf (dTestB (dOp oNe (dCall r_l_sign [] (dCons (dVar 3) (dCons (dOp oIx (dVar 9) (dC (.int 0))) (dCons (dOp oIx (dVar 9) (dC (.int 1))) dNil)))) (dC (.str "#")))) (dSet 8 (dCall r_l_put_k07 [] (dCons (dVar 8) (dCons (dOp oIx (dVar 9) (dC (.int 0))) (dCons (dOp oIx (dVar 9) (dC (.int 1))) (dCons (dC (.str ".")) dNil)))))) dNext)) (dSeq (dSet 10 (dLst (dCons (dMake mkF 1 r_Picture_init [] (dCons (dCB (on1 listD) (dCons (dVar 3) dNil)) dNil)) (dCons (dMake mkF 1 r_Picture_init [] (dCons (dCB (on1 listD) (dCons (dVar 8) dNil)) dNil)) dNil)))) (dSeq (dSet 11 (dMake mkF 0 r_Region_init [] (dCons (dCB (on1 listD) (dCons (dVar 7) dNil)) dNil))) (dSeq (dFor (dItems (dCall r_l_cells [] (dCons (dVar 3) dNil))) (.nm 9) (dFor (dItems (dVar 2)) (.nm 12) (dSeq (dSet 13 (dC (.bl true))) (dCut (dIf (dTru (dMethT [(2, r_Rule_lays), (3, r_Rule_lays), (4, r_SameRule_lays)] (dVar 5) (dCons (dVar 12) dNil))) (dSet 13 (dCall r_l_cell_agrees [] (dCons (dVar 5) (dCons (dVar 10) (dCons (dVar 11) (dCons (dVar 7) (dCons (dVar 3) (dCons (dVar 9) (dCons (dVar 12) dNil))))))))) dNext) (dIf (dNot (dTru (dVar 13))) (dRet (dC (.bl false))) dNext))))) (dRet (dAndV (dOp oEq (dFz (dMeth 1 r_Picture_lines [] (dOp oIx (dVar 10) (dC (.int 0))) dNil)) (dVar 3)) (dOp oEq (dFz (dMeth 1 r_Picture_lines [] (dOp oIx (dVar 10) (dC (.int 1))) dNil)) (dVar 8))))))))))))))))
abbrev N_law_k14 : List Str := ["_law_script", "_law_bag_here", "_law_palette_here", "_law_rows", "_law_rule_here", "_law_made_here", "_law_around", "_law_free", "_law_bare", "_law_cell", "_law_pair", "_law_region", "_law_hue", "_law_agrees"]
theorem rd_law_k14 (a : Addr) (ns : List Int) (hn : ns.length ≤ 63) : Rd (t_law_k14 a ns) N_law_k14 (rLaw a ns) := by
  intro ds S QD XD h
  unfold rLaw at h
  obtain ⟨rfl, q⟩ := h
  have hz := sizeLine_eq
  row_hasAll w_e
  refine i_bag fun p b hp => ?_
  row_hasAll w_e
  refine i_palette (b := b) su_same fun pal b1 hpal => ?_
  row_hasAll w_e
  refine i_grid (b := b1) su_same hpal fun rows b2 g g12 => ?_
  row_hasAll w_e
  refine i_rule (b := b2) su_same hpal fun k hue ps nd b3 hr => ?_
  row_hasAll w_e
  refine i_made hr fun S1 hg1 => ?_
  rw [mrul_is]
  have hb1 := hg1 _ _ su_same
  have gl := g.le
  have g1 := g.w1
  have g8 := g.w8
  have h8 := hr.ok.le
  have hall := allC_len (wid rows).toNat rows.length
  have h64 : rows.length * (wid rows).toNat ≤ 8 * 8 := Nat.mul_le_mul gl (by omega)
  row_hasAll w_e
  refine i_lcells g ?_
  row_hasAll w_e
  refine g.ik0 fun r hw => ?_
  row_hasAll w_e
  rw [hw, List.length_map]
  refine i_take hb1 (by decide) (by decide) fun v b4 v0 v1 => ?_
  row_hasAll w_e
  have eA : (List.map pr (allC (wid rows).toNat rows.length) ++ [D.tup [D.int (-1), D.int 0], D.tup [D.int 0, D.int (-1)], D.tup [D.int (wid rows), D.int 0], D.tup [D.int 0, D.int (rows.length : Nat)], D.tup [D.int (-1), D.int (-1)]]) = (allC (wid rows).toNat rows.length ++ ([(-1, 0), (0, -1), (wid rows, 0), (0, (rows.length : Nat)), (-1, -1)] : List Cell)).map pr := by rw [List.map_append]; rfl
  rw [eA]
  refine i_subset (b := b4) su_same (by omega) (by omega) (by rw [List.length_append, hall]; show _ + 5 ≤ _; omega) fun fr b5 hsub => ?_
  rw [su_su]
  generalize hS2 : su S1 p (bagO b5) = S2
  have hfl : fr.length ≤ 100 := by have := hsub.length_le; rw [List.length_append, hall] at this; have e5 : ([(-1, 0), (0, -1), (wid rows, 0), (0, (rows.length : Nat)), (-1, -1)] : List Cell).length = 5 := rfl; omega
  row_hasAll w_e
  refine loop_e [8, 9] (fun r ws S' => S' = S2 ∧ ∃ w dn bare, ws = [some (.lst (bare.map D.str)), w] ∧ dn ++ r = fr ∧ Bare rows bare dn) (by row_hasAll w_env) ?_ ?_ ⟨rfl, _, [], rows, rfl, rfl, Bare.refl g⟩
  · rintro c r _ _ ⟨rfl, w, dn, bare, rfl, e, hb⟩
    refine ⟨_, rfl, fun N hN => ?_⟩
    row_hasAll w_w
    rw [sgn_edge g]
    cases hin : inP rows c.1 c.2 with
    | true =>
      row_hasAll w_w
      refine i_put7 (c := 46) hb.g (by rw [hb.inP]; exact hin) ?_
      exact hN _ _ (by row_hasAll w_env) ⟨rfl, _, dn ++ [c], _, rfl, by simpa using e, hb.put hin⟩
    | false =>
      row_hasAll w_w
      exact hN _ _ (by row_hasAll w_env) ⟨rfl, _, dn ++ [c], _, rfl, by simpa using e, hb.skip hin⟩
  rintro _ _ ⟨rfl, w, dn, bare, rfl, e, hb⟩
  rw [List.append_nil] at e
  subst e
  have gb := hb.g
  have hkd := hr.kd
  row_hasAll w_w
  refine loop_e [9, 12, 13] (fun r ws _ => (∃ w0 w1 w2, ws = [w0, w1, w2]) ∧ ∀ c ∈ r, inP rows c.1 c.2 = true) (by row_hasAll w_env) ?_ ?_ ⟨⟨_, _, _, rfl⟩, fun c hc => ?_⟩
  rotate_left 2
  · obtain ⟨x, y, hx, hy, rfl⟩ := mem_allC.mp hc
    exact decide_eq_true ⟨⟨by omega, by omega⟩, by omega, by omega⟩
  · rintro c r _ S3 ⟨⟨w0, w1, w2, rfl⟩, hc⟩
    refine ⟨_, rfl, fun N hN => ?_⟩
    have hcin := hc c (List.mem_cons_self ..)
    row_hasAll w_w
    refine loop_e (xs := pal.cps.toList) (g := fun c => D.str (one c)) [12, 13] (fun r ws _ => ∃ w1 w2, ws = [w1, w2]) (by row_hasAll w_env) ?_ ?_ ⟨_, _, rfl⟩
    · rintro s r2 _ S4 ⟨v1, v2, rfl⟩
      refine ⟨_, rfl, fun N2 hN2 => ?_⟩
      row_hasAll w_w
      refine cut_e [13] (fun ws _ => ws = [some (.bl true)]) (by row_hasAll w_env) ?_ ?_
      · row_hasAll w_w
        cases hly : laysP k (mhue k hue) (one s) with
        | true =>
          row_hasAll w_w
          exact i_agrees14 hr g hb hcin hly ⟨by row_hasAll w_env, rfl⟩
        | false =>
          row_hasAll w_w
          exact rfl
      · rintro _ S5 rfl
        row_hasAll w_w
        exact hN2 _ _ (by row_hasAll w_env) ⟨_, _, rfl⟩
    · rintro _ S4 ⟨v1, v2, rfl⟩
      exact hN _ _ (by row_hasAll w_env) ⟨⟨_, _, _, rfl⟩, fun c h => hc c (List.mem_cons_of_mem _ h)⟩
  · rintro _ S3 ⟨⟨w0, w1, w2, rfl⟩, _⟩
    row_hasAll w_w
    exact q _
end SM

set_option maxHeartbeats 0
namespace LAW
open PySem PySem.Spec PyProof.Rows L2 SM
def top (i : Nat) : Stmt := PySem.Challenge.pw_smalti_k14_whole_holes_never_hurt.main.body.getD i (.Pass ⟨0, 0, 0, 0⟩)
variable {P : Program} {w : World} {K : PySem.W.Frag} {mg : Str → Option Value} {base : Heap} {f : Addr} {fd : FuncData}
abbrev s_l_bag : Stmt := top 28
theorem sc_l_bag : FnScope N_l_bag ["_law_script"] (defScope s_l_bag) := ⟨rfl, rfl, rfl, by decide +kernel, rfl, by decide +kernel, by decide +kernel⟩
theorem ok_l_bag (F : FunD K "_law_bag" "_law_bag" (defArgs s_l_bag) (defBody s_l_bag) (defScope s_l_bag) [] [] f fd) (n_int : mg "int" = none) : FnOk P w K mg base (L2N.CX P w) 1 f fd ["_law_script"] (spScr K 63 r_l_bag) :=
  fnScr F sc_l_bag r_l_bag (fun a ns ds S Q E h => len_l_bag a ns ds S Q E h) (by decide) fun cdv A outer s H E a ns hr hz hn => ⟨t_l_bag a ns, (dss_one (ds_ret (de_lstO (da_cons (de_lc (own := [("_law_cell", 1)]) rfl sc_l_bag.nd (di_items (de_sliceScr (a := a) (ns := ns) hz (Nat.le_trans hn (by decide)) (dv 0) do_none (do_some de_int))) (blk_of (by kernel_rfl)) (fun s H C cl fp => (dp_nm (i := 1) sc_l_bag.nd)) (fun s H C cl fp => dts_nil) (fun s H C cl fp => (de_callTy c_int (by rfl) n_int (by decide +kernel) (da_cons (dv 1) da_nil)))) (da_cons de_int (da_cons de_int (da_cons de_int da_nil))))))), rd_l_bag a ns hn⟩
abbrev s_l_take : Stmt := top 29
theorem sc_l_take : FnScope N_l_take ["_law_bag_here", "_law_size"] (defScope s_l_take) := ⟨rfl, rfl, rfl, by decide +kernel, rfl, by decide +kernel, by decide +kernel⟩
theorem ok_l_take (F : FunD K "_law_take" "_law_take" (defArgs s_l_take) (defBody s_l_take) (defScope s_l_take) [] [] f fd) (n_len : mg "len" = none) (n_int : mg "int" = none) : FnOk P w K mg base (L2N.CX P w) 1 f fd ["_law_bag_here", "_law_size"] (toSp K r_l_take) :=
  fnT F sc_l_take len_l_take rd_l_take fun cdv A outer s H E hr => (dss_cut (ds_if (PDW.pt (dw_and (dt_cmp (o_eq (k := 0) hr) (de_ix (k := 0) hr (dv 0) de_int) de_int) (dw_and1 (dt_cmp o_lt (de_ix (k := 0) hr (dv 0) de_int) (de_callB c_len (by rfl) n_len PySem.boot_len (da_cons (de_ix (k := 0) hr (dv 0) de_int) da_nil)))))) (dss_cons (ds_set (i := 2) sc_l_take.nd (de_ix (k := 0) hr (de_ix (k := 0) hr (dv 0) de_int) (de_ix (k := 0) hr (dv 0) de_int))) (dss_cons (ds_setL (de_op o_add (de_ix (k := 0) hr (dv 0) de_int) de_int) (dv 0) de_int) (dss_one (ds_if (dt_cmp o_ge (dv 2) (de_op o_pow de_int de_int)) (dss_one (ds_setL (dv 2) (dv 0) de_int)) (dss_one (ds_setL (de_op o_mod (de_callTy c_int (by rfl) n_int (by decide +kernel) (da_cons (de_op o_add (de_op o_add (de_op o_mul (de_ix (k := 0) hr (dv 0) de_int) de_int) (de_op o_mul (dv 2) de_int)) de_int) da_nil)) de_int) (dv 0) de_int)))))) dss_nil) (dss_cons (ds_if (dt_cmp o_gt (de_ix (k := 0) hr (dv 0) de_int) de_int) (dss_cons (ds_set (i := 3) sc_l_take.nd (de_op o_mod (de_callTy c_int (by rfl) n_int (by decide +kernel) (da_cons (de_ix (k := 0) hr (dv 0) de_int) da_nil)) (dv 1))) (dss_cons (ds_setL (de_op o_fdiv (de_ix (k := 0) hr (dv 0) de_int) (dv 1)) (dv 0) de_int) (dss_one (ds_ret (dv 3))))) dss_nil) (dss_cons (ds_setL (de_op o_mod (de_callTy c_int (by rfl) n_int (by decide +kernel) (da_cons (de_op o_add (de_op o_mul (de_ix (k := 0) hr (dv 0) de_int) de_int) de_int) da_nil)) de_int) (dv 0) de_int) (dss_one (ds_ret (de_op o_mod (de_callTy c_int (by rfl) n_int (by decide +kernel) (da_cons (de_op o_fdiv (de_ix (k := 0) hr (dv 0) de_int) de_int) da_nil)) (dv 1)))))))
abbrev s_l_palette : Stmt := top 33
theorem sc_l_palette : FnScope N_l_palette ["_law_bag_here"] (defScope s_l_palette) := ⟨rfl, rfl, rfl, by decide +kernel, rfl, by decide +kernel, by decide +kernel⟩
theorem ok_l_palette (F : FunD K "_law_palette" "_law_palette" (defArgs s_l_palette) (defBody s_l_palette) (defScope s_l_palette) [] [] f fd) (n_int : mg "int" = none) (g__law_take : Gf P w K mg base 1 "_law_take" ["_law_bag_here", "_law_size"] r_l_take) : FnOk P w K mg base (L2N.CX P w) 2 f fd ["_law_bag_here"] (toSp K r_l_palette) :=
  fnT F sc_l_palette len_l_palette rd_l_palette fun cdv A outer s H E hr => (dss_cons (ds_set (i := 1) sc_l_palette.nd de_str) (dss_cons (ds_set (i := 2) sc_l_palette.nd (de_g g__law_take hr (by rfl) (da_cons (dv 0) (da_cons de_int da_nil)))) (dss_cons (ds_set (i := 3) sc_l_palette.nd (de_op o_mod (de_callTy c_int (by rfl) n_int (by decide +kernel) (da_cons (de_op o_add (de_op o_add (dv 2) de_int) (de_g g__law_take hr (by rfl) (da_cons (dv 0) (da_cons de_int da_nil)))) da_nil)) de_int)) (dss_cons (ds_set (i := 4) sc_l_palette.nd (de_op o_mod (de_callTy c_int (by rfl) n_int (by decide +kernel) (da_cons (de_op o_add (de_op o_add (dv 3) de_int) (de_g g__law_take hr (by rfl) (da_cons (dv 0) (da_cons de_int da_nil)))) da_nil)) de_int)) (dss_one (ds_ret (de_op o_add (de_op o_add (de_ix (k := 1) hr (dv 1) (dv 2)) (de_ix (k := 1) hr (dv 1) (dv 3))) (de_ix (k := 1) hr (dv 1) (dv 4)))))))))
abbrev s_l_row : Stmt := top 34
theorem sc_l_row : FnScope N_l_row ["_law_bag_here", "_law_palette_here", "_law_wide"] (defScope s_l_row) := ⟨rfl, rfl, rfl, by decide +kernel, rfl, by decide +kernel, by decide +kernel⟩
theorem ok_l_row (F : FunD K "_law_row" "_law_row" (defArgs s_l_row) (defBody s_l_row) (defScope s_l_row) [] [] f fd) (n_range : mg "range" = none) (g__law_take : Gf P w K mg base 1 "_law_take" ["_law_bag_here", "_law_size"] r_l_take) : FnOk P w K mg base (L2N.CX P w) 2 f fd ["_law_bag_here", "_law_palette_here", "_law_wide"] (toSp K r_l_row) :=
  fnT F sc_l_row len_l_row rd_l_row fun cdv A outer s H E hr => (dss_cons (ds_set (i := 3) sc_l_row.nd de_str) (dss_cons (ds_for rfl (di_rng1 (by rfl) n_range (da_cons (dv 2) da_nil)) (dp_nm (i := 4) sc_l_row.nd) (dss_one (ds_set (i := 3) sc_l_row.nd (de_op o_add (dv 3) (de_ix (k := 1) hr (de_op o_add (de_op o_add de_str (dv 1)) (dv 1)) (de_g g__law_take hr (by rfl) (da_cons (dv 0) (da_cons de_int da_nil)))))))) (dss_one (ds_ret (dv 3)))))
abbrev s_l_grid : Stmt := top 35
theorem sc_l_grid : FnScope N_l_grid ["_law_bag_here", "_law_palette_here"] (defScope s_l_grid) := ⟨rfl, rfl, rfl, by decide +kernel, rfl, by decide +kernel, by decide +kernel⟩
theorem ok_l_grid (F : FunD K "_law_grid" "_law_grid" (defArgs s_l_grid) (defBody s_l_grid) (defScope s_l_grid) [] [] f fd) (n_range : mg "range" = none) (g__law_take : Gf P w K mg base 1 "_law_take" ["_law_bag_here", "_law_size"] r_l_take) (g__law_row : Gf P w K mg base 2 "_law_row" ["_law_bag_here", "_law_palette_here", "_law_wide"] r_l_row) : FnOk P w K mg base (L2N.CX P w) 3 f fd ["_law_bag_here", "_law_palette_here"] (toSp K r_l_grid) :=
  fnT F sc_l_grid len_l_grid rd_l_grid fun cdv A outer s H E hr => (dss_cons (ds_set (i := 2) sc_l_grid.nd (de_op o_add de_int (de_g g__law_take hr (by rfl) (da_cons (dv 0) (da_cons de_int da_nil))))) (dss_cons (ds_set (i := 3) sc_l_grid.nd (de_op o_add de_int (de_g g__law_take hr (by rfl) (da_cons (dv 0) (da_cons de_int da_nil))))) (dss_cons (ds_set (i := 4) sc_l_grid.nd (de_g g__law_take hr (by rfl) (da_cons (dv 0) (da_cons de_int da_nil)))) (dss_cut (ds_if (dt_cmp (o_eq (k := 2) hr) (dv 4) de_int) (dss_cons (ds_set (i := 2) sc_l_grid.nd (de_op o_add (de_op o_add (dv 2) (dv 3)) de_int)) (dss_one (ds_set (i := 3) sc_l_grid.nd de_int))) dss_nil) (dss_cut (ds_if (dt_cmp (o_eq (k := 2) hr) (dv 4) de_int) (dss_cons (ds_set (i := 3) sc_l_grid.nd (de_op o_add (de_op o_add (dv 2) (dv 3)) de_int)) (dss_one (ds_set (i := 2) sc_l_grid.nd de_int))) dss_nil) (dss_one (ds_ret (de_lc (own := [("_law_k", 5)]) rfl sc_l_grid.nd (di_rng1 (by rfl) n_range (da_cons (dv 3) da_nil)) (blk_of (by kernel_rfl)) (fun s H C cl fp => (dp_nm (i := 5) sc_l_grid.nd)) (fun s H C cl fp => dts_nil) (fun s H C cl fp => (de_g g__law_row hr (by rfl) (da_cons (dv 0) (da_cons (dv 1) (da_cons (dv 2) da_nil)))))))))))))
abbrev s_l_offset : Stmt := top 36
theorem sc_l_offset : FnScope N_l_offset ["_law_bag_here"] (defScope s_l_offset) := ⟨rfl, rfl, rfl, by decide +kernel, rfl, by decide +kernel, by decide +kernel⟩
theorem ok_l_offset (F : FunD K "_law_offset" "_law_offset" (defArgs s_l_offset) (defBody s_l_offset) (defScope s_l_offset) [] [] f fd) (n_int : mg "int" = none) (g__law_take : Gf P w K mg base 1 "_law_take" ["_law_bag_here", "_law_size"] r_l_take) : FnOk P w K mg base (L2N.CX P w) 2 f fd ["_law_bag_here"] (toSp K r_l_offset) :=
  fnT F sc_l_offset len_l_offset rd_l_offset fun cdv A outer s H E hr => (dss_cons (ds_set (i := 1) sc_l_offset.nd (de_g g__law_take hr (by rfl) (da_cons (dv 0) (da_cons de_int da_nil)))) (dss_cut (ds_if (dt_cmp o_gt (de_g g__law_take hr (by rfl) (da_cons (dv 0) (da_cons de_int da_nil))) de_int) (dss_one (ds_set (i := 1) sc_l_offset.nd (de_ix (k := 1) hr (de_lst (da_cons de_int (da_cons de_int (da_cons de_int (da_cons de_int (da_cons de_int (da_cons de_int (da_cons de_int (da_cons de_int da_nil))))))))) (de_op o_mod (de_callTy c_int (by rfl) n_int (by decide +kernel) (da_cons (dv 1) da_nil)) de_int)))) dss_nil) (dss_cons (ds_set (i := 1) sc_l_offset.nd (de_op o_add (dv 1) (de_callTy c_int (by rfl) n_int (by decide +kernel) (da_cons (de_cmp o_gt (dv 1) de_int) da_nil)))) (dss_one (ds_ret (de_tup (da_cons (de_op o_sub (de_op o_mod (de_callTy c_int (by rfl) n_int (by decide +kernel) (da_cons (dv 1) da_nil)) de_int) de_int) (da_cons (de_op o_sub (de_op o_fdiv (dv 1) de_int) de_int) da_nil))))))))
abbrev s_l_signs : Stmt := top 37
theorem sc_l_signs : FnScope N_l_signs ["_law_bag_here", "_law_palette_here"] (defScope s_l_signs) := ⟨rfl, rfl, rfl, by decide +kernel, rfl, by decide +kernel, by decide +kernel⟩
theorem ok_l_signs (F : FunD K "_law_signs" "_law_signs" (defArgs s_l_signs) (defBody s_l_signs) (defScope s_l_signs) [] [] f fd) (g__law_take : Gf P w K mg base 1 "_law_take" ["_law_bag_here", "_law_size"] r_l_take) : FnOk P w K mg base (L2N.CX P w) 2 f fd ["_law_bag_here", "_law_palette_here"] (toSp K r_l_signs) :=
  fnT F sc_l_signs len_l_signs rd_l_signs fun cdv A outer s H E hr => (dss_cons (ds_set (i := 2) sc_l_signs.nd (de_ix (k := 1) hr (dv 1) (de_g g__law_take hr (by rfl) (da_cons (dv 0) (da_cons de_int da_nil))))) (dss_cons (ds_set (i := 3) sc_l_signs.nd (de_ix (k := 1) hr (dv 1) (de_g g__law_take hr (by rfl) (da_cons (dv 0) (da_cons de_int da_nil))))) (dss_cut (ds_if (PDW.pt (dw_and (dt_cmp (o_eq (k := 1) hr) (de_g g__law_take hr (by rfl) (da_cons (dv 0) (da_cons de_int da_nil))) de_int) (dw_and1 (dt_cmp (o_notin (k := 1) hr) (dv 3) (dv 2))))) (dss_one (ds_set (i := 2) sc_l_signs.nd (de_op o_add (dv 3) (dv 2)))) dss_nil) (dss_cons (ds_if (dt_cmp (o_eq (k := 1) hr) (de_g g__law_take hr (by rfl) (da_cons (dv 0) (da_cons de_int da_nil))) de_int) (dss_one (ds_set (i := 2) sc_l_signs.nd (de_op o_add (dv 2) de_str))) dss_nil) (dss_one (ds_ret (dv 2)))))))
abbrev s_l_parts : Stmt := top 38
theorem sc_l_parts : FnScope N_l_parts ["_law_bag_here", "_law_palette_here"] (defScope s_l_parts) := ⟨rfl, rfl, rfl, by decide +kernel, rfl, by decide +kernel, by decide +kernel⟩
theorem ok_l_parts (F : FunD K "_law_parts" "_law_parts" (defArgs s_l_parts) (defBody s_l_parts) (defScope s_l_parts) [] [] f fd) (n_range : mg "range" = none) (g__law_take : Gf P w K mg base 1 "_law_take" ["_law_bag_here", "_law_size"] r_l_take) (g__law_offset : Gf P w K mg base 2 "_law_offset" ["_law_bag_here"] r_l_offset) (g__law_signs : Gf P w K mg base 2 "_law_signs" ["_law_bag_here", "_law_palette_here"] r_l_signs) : FnOk P w K mg base (L2N.CX P w) 3 f fd ["_law_bag_here", "_law_palette_here"] (toSp K r_l_parts) :=
  fnT F sc_l_parts len_l_parts rd_l_parts fun cdv A outer s H E hr => (dss_cons (ds_set (i := 2) sc_l_parts.nd (de_g g__law_take hr (by rfl) (da_cons (dv 0) (da_cons de_int da_nil)))) (dss_cut (ds_if (dt_cmp (o_eq (k := 2) hr) (de_g g__law_take hr (by rfl) (da_cons (dv 0) (da_cons de_int da_nil))) de_int) (dss_one (ds_set (i := 2) sc_l_parts.nd de_int)) dss_nil) (dss_cons (ds_set (i := 3) sc_l_parts.nd (de_lstO da_nil)) (dss_cons (ds_for rfl (di_rng1 (by rfl) n_range (da_cons (dv 2) da_nil)) (dp_nm (i := 4) sc_l_parts.nd) (dss_cons (ds_set (i := 5) sc_l_parts.nd (de_g g__law_offset hr (by rfl) (da_cons (dv 0) da_nil))) (dss_cons (ds_set (i := 6) sc_l_parts.nd (de_g g__law_signs hr (by rfl) (da_cons (dv 0) (da_cons (dv 1) da_nil)))) (dss_one (ds_if (dt_cmp (o_notin (k := 2) hr) (dv 5) (de_lc (own := [("_law_part", 7)]) rfl sc_l_parts.nd (di_items (dv 3)) (blk_of (by kernel_rfl)) (fun s H C cl fp => (dp_nm (i := 7) sc_l_parts.nd)) (fun s H C cl fp => dts_nil) (fun s H C cl fp => (de_tup (da_cons (de_ix (k := 2) hr (dv 7) de_int) (da_cons (de_ix (k := 2) hr (dv 7) de_int) da_nil)))))) (dss_one (ds_expr (de_bm (by simp) PySem.F.plainAttrs_list PySem.F.slot_list_append PySem.F.type_list_append m_append (dv 3) (da_cons (de_tup (da_cons (de_ix (k := 2) hr (dv 5) de_int) (da_cons (de_ix (k := 2) hr (dv 5) de_int) (da_cons (dv 6) da_nil)))) da_nil)))) dss_nil))))) (dss_one (ds_ret (dvM 3)))))))
abbrev s_l_rule : Stmt := top 39
theorem sc_l_rule : FnScope N_l_rule ["_law_bag_here", "_law_palette_here"] (defScope s_l_rule) := ⟨rfl, rfl, rfl, by decide +kernel, rfl, by decide +kernel, by decide +kernel⟩
theorem ok_l_rule (F : FunD K "_law_rule" "_law_rule" (defArgs s_l_rule) (defBody s_l_rule) (defScope s_l_rule) [] [] f fd) (n_len : mg "len" = none) (g__law_take : Gf P w K mg base 1 "_law_take" ["_law_bag_here", "_law_size"] r_l_take) (g__law_parts : Gf P w K mg base 3 "_law_parts" ["_law_bag_here", "_law_palette_here"] r_l_parts) : FnOk P w K mg base (L2N.CX P w) 4 f fd ["_law_bag_here", "_law_palette_here"] (toSp K r_l_rule) :=
  fnT F sc_l_rule len_l_rule rd_l_rule fun cdv A outer s H E hr => (dss_cons (ds_set (i := 2) sc_l_rule.nd (de_ix (k := 3) hr (de_lst (da_cons de_str (da_cons de_str (da_cons de_str da_nil)))) (de_g g__law_take hr (by rfl) (da_cons (dv 0) (da_cons de_int da_nil))))) (dss_cons (ds_set (i := 3) sc_l_rule.nd (de_ix (k := 3) hr (dv 1) (de_g g__law_take hr (by rfl) (da_cons (dv 0) (da_cons de_int da_nil))))) (dss_cons (ds_set (i := 4) sc_l_rule.nd (de_g g__law_parts hr (by rfl) (da_cons (dv 0) (da_cons (dv 1) da_nil)))) (dss_cons (ds_set (i := 5) sc_l_rule.nd (de_g g__law_take hr (by rfl) (da_cons (dv 0) (da_cons (de_op o_add (de_callB c_len (by rfl) n_len PySem.boot_len (da_cons (dv 4) da_nil)) de_int) da_nil)))) (dss_cut (ds_if (dt_cmp (o_eq (k := 3) hr) (dv 2) de_str) (dss_one (ds_set (i := 5) sc_l_rule.nd (de_callB c_len (by rfl) n_len PySem.boot_len (da_cons (dv 4) da_nil)))) dss_nil) (dss_one (ds_ret (de_tup (da_cons (dv 2) (da_cons (dv 3) (da_cons (dv 4) (da_cons (dv 5) da_nil))))))))))))
abbrev s_p_is_stone : Stmt := top 14
theorem sc_p_is_stone : FnScope N_p_is_stone ["sign"] (defScope s_p_is_stone) := ⟨rfl, rfl, rfl, by decide +kernel, rfl, by decide +kernel, by decide +kernel⟩
theorem ok_p_is_stone (F : FunD K "is_stone" "is_stone" (defArgs s_p_is_stone) (defBody s_p_is_stone) (defScope s_p_is_stone) [] [] f fd) (n_len : mg "len" = none) (c_LETTERS : ∃ u, mg "LETTERS" = some u ∧ RelV (.str "abcdefghijklmnopqrstuvwxyz") u) : FnOk P w K mg base (L2N.CX P w) 1 f fd ["sign"] (toSp K r_p_is_stone) :=
  fnT F sc_p_is_stone len_p_is_stone rd_p_is_stone fun cdv A outer s H E hr => (dss_one (ds_ret (de_and (de_cmp (o_eq (k := 0) hr) (de_callB c_len (by rfl) n_len PySem.boot_len (da_cons (dv 0) da_nil)) de_int) (de_one (de_cmp (o_in (k := 0) hr) (dv 0) (de_gl (by rfl) c_LETTERS (fun _ => .str (by decide +kernel))))))))
abbrev s_p_is_offset : Stmt := top 22
theorem sc_p_is_offset : FnScope N_p_is_offset ["dx", "dy"] (defScope s_p_is_offset) := ⟨rfl, rfl, rfl, by decide +kernel, rfl, by decide +kernel, by decide +kernel⟩
theorem ok_p_is_offset (F : FunD K "is_offset" "is_offset" (defArgs s_p_is_offset) (defBody s_p_is_offset) (defScope s_p_is_offset) [] [] f fd) (c_REACH : ∃ u, mg "REACH" = some u ∧ RelV (.int (3)) u) : FnOk P w K mg base (L2N.CX P w) 1 f fd ["dx", "dy"] (toSp K r_p_is_offset) :=
  fnT F sc_p_is_offset len_p_is_offset rd_p_is_offset fun cdv A outer s H E hr => (dss_cons (ds_if (PDW.pt (dw_and (dt_cmp (o_eq (k := 0) hr) (dv 0) de_int) (dw_and1 (dt_cmp (o_eq (k := 0) hr) (dv 1) de_int)))) (dss_one (ds_ret de_bl)) dss_nil) (dss_one (ds_ret (de_and (de_chain o_le o_le (de_neg (de_gl (by rfl) c_REACH (fun _ => .int _))) (dv 0) (de_gl (by rfl) c_REACH (fun _ => .int _))) (de_one (de_chain o_le o_le (de_neg (de_gl (by rfl) c_REACH (fun _ => .int _))) (dv 1) (de_gl (by rfl) c_REACH (fun _ => .int _))))))))
abbrev s_p_are_condition_signs : Stmt := top 21
theorem sc_p_are_condition_signs : FnScope N_p_are_condition_signs ["signs"] (defScope s_p_are_condition_signs) := ⟨rfl, rfl, rfl, by decide +kernel, rfl, by decide +kernel, by decide +kernel⟩
theorem ok_p_are_condition_signs (F : FunD K "are_condition_signs" "are_condition_signs" (defArgs s_p_are_condition_signs) (defBody s_p_are_condition_signs) (defScope s_p_are_condition_signs) [] [] f fd) (n_enumerate : mg "enumerate" = none) (n_len : mg "len" = none) (g_is_stone : Gf P w K mg base 1 "is_stone" ["sign"] r_p_is_stone) : FnOk P w K mg base (L2N.CX P w) 2 f fd ["signs"] (toSp K r_p_are_condition_signs) :=
  fnT F sc_p_are_condition_signs len_p_are_condition_signs rd_p_are_condition_signs fun cdv A outer s H E hr => (dss_cons (ds_for rfl (di_enumS (by rfl) n_enumerate (da_cons (dv 0) da_nil)) (dp_tp rfl (dps_cons (dp_nm (i := 1) sc_p_are_condition_signs.nd) (dps_cons (dp_nm (i := 2) sc_p_are_condition_signs.nd) dps_nil))) (dss_one (ds_if (PDW.pt (dw_or (dt_cmp (o_in (k := 1) hr) (dv 2) (de_slice (dv 0) do_none (do_some (dv 1)))) (dw_or1 (PDW.pt (dw_and (dt_cmp (o_ne (k := 1) hr) (dv 2) de_str) (dw_and1 (dt_not (dt_val (de_g g_is_stone hr (by rfl) (da_cons (dv 2) da_nil)))))))))) (dss_one (ds_ret de_bl)) dss_nil))) (dss_one (ds_ret (de_cmp o_gt (de_callB c_len (by rfl) n_len PySem.boot_len (da_cons (dv 0) da_nil)) de_int))))
abbrev s_p_reading_order : Stmt := top 2
abbrev s_p_checked_parts : Stmt := top 23
theorem sc_p_checked_parts : FnScope N_p_checked_parts ["parts"] (defScope s_p_checked_parts) := ⟨rfl, rfl, rfl, by decide +kernel, rfl, by decide +kernel, by decide +kernel⟩
theorem ok_p_checked_parts (F : FunD K "checked_parts" "checked_parts" (defArgs s_p_checked_parts) (defBody s_p_checked_parts) (defScope s_p_checked_parts) [] [] f fd) (n_enumerate : mg "enumerate" = none) (c_MOST_PARTS : ∃ u, mg "MOST_PARTS" = some u ∧ RelV (.int (8)) u) (x_InvalidRule : Gx P w K mg base 22 "InvalidRule") (n_sorted : mg "sorted" = none) (n_list : mg "list" = none) (ro_f : ∃ f, RoF K f ∧ mg "reading_order" = some (.ref f)) (g_is_offset : Gf P w K mg base 1 "is_offset" ["dx", "dy"] r_p_is_offset) (g_are_condition_signs : Gf P w K mg base 2 "are_condition_signs" ["signs"] r_p_are_condition_signs) : FnOk P w K mg base (L2N.CX P w) 3 f fd ["parts"] (toSp K r_p_checked_parts) :=
  fnT F sc_p_checked_parts len_p_checked_parts rd_p_checked_parts fun cdv A outer s H E hr => (dss_cons (ds_set (i := 1) sc_p_checked_parts.nd de_dictO) (dss_cons (ds_for rfl (di_enum (by rfl) n_enumerate (da_cons (dv 0) da_nil)) (dp_tp rfl (dps_cons (dp_nm (i := 2) sc_p_checked_parts.nd) (dps_cons (dp_tp rfl (dps_cons (dp_nm (i := 3) sc_p_checked_parts.nd) (dps_cons (dp_nm (i := 4) sc_p_checked_parts.nd) (dps_cons (dp_nm (i := 5) sc_p_checked_parts.nd) dps_nil)))) dps_nil))) (dss_cons (ds_if (PDW.pt (dw_or (dt_cmp o_ge (dv 2) (de_gl (by rfl) c_MOST_PARTS (fun _ => .int _))) (dw_or (dt_not (dt_val (de_g g_is_offset hr (by rfl) (da_cons (dv 3) (da_cons (dv 4) da_nil))))) (dw_or (dt_cmp (o_in (k := 2) hr) (de_tup (da_cons (dv 3) (da_cons (dv 4) da_nil))) (dv 1)) (dw_or1 (dt_not (dt_val (de_g g_are_condition_signs hr (by rfl) (da_cons (dv 5) da_nil))))))))) (dss_one (ds_raise x_InvalidRule hr rfl (by rfl) (da_cons (de_op o_add (dv 2) de_int) da_nil))) dss_nil) (dss_one (ds_setK (k := 2) hr (de_bm (by simp) PySem.F.plainAttrs_str PySem.F.slot_str_join PySem.F.type_str_join m_join de_str (da_cons (de_callB (c_sortedS (k := 2) hr) (by rfl) n_sorted (by decide +kernel) (da_cons (dv 5) da_nil)) da_nil)) (dv 1) (de_tup (da_cons (dv 3) (da_cons (dv 4) da_nil))))))) (dss_one (ds_ret (de_lc (own := [("dx", 3), ("dy", 4)]) rfl sc_p_checked_parts.nd (di_items (de_sortRoE (k := 2) hr ro_f (de_callTy (c_listK rfl) (by rfl) n_list (by decide +kernel) (da_cons (dv 1) da_nil)) (by rfl) (by rfl) n_sorted (by decide +kernel))) (blk_of (by kernel_rfl)) (fun s H C cl fp => (dp_tp rfl (dps_cons (dp_nm (i := 3) sc_p_checked_parts.nd) (dps_cons (dp_nm (i := 4) sc_p_checked_parts.nd) dps_nil)))) (fun s H C cl fp => dts_nil) (fun s H C cl fp => (de_tup (da_cons (dv 3) (da_cons (dv 4) (da_cons (de_ix (k := 2) hr (dv 1) (de_tup (da_cons (dv 3) (da_cons (dv 4) da_nil)))) da_nil))))))))))
abbrev s_Rule_init : Stmt := inClass (top 24) 1
theorem sc_Rule_init : FnScope N_Rule_init ["self", "stone", "conditions"] (defScope s_Rule_init) := ⟨rfl, rfl, rfl, by decide +kernel, rfl, by decide +kernel, by decide +kernel⟩
theorem ok_Rule_init (F : FunD K "__init__" "Rule.__init__" (defArgs s_Rule_init) (defBody s_Rule_init) (defScope s_Rule_init) [] [] f fd) (x_InvalidRule : Gx P w K mg base 22 "InvalidRule") (f_stone_2_3_4 : FOk K "stone" [(2, 0), (3, 0), (4, 0)]) (f_parts_2_3_4 : FOk K "parts" [(2, 1), (3, 1), (4, 1)]) (g_is_stone : Gf P w K mg base 1 "is_stone" ["sign"] r_p_is_stone) (g_checked_parts : Gf P w K mg base 3 "checked_parts" ["parts"] r_p_checked_parts) : FnOk P w K mg base (L2N.CX P w) 4 f fd ["self", "stone", "conditions"] (toSp K r_Rule_init) :=
  fnT F sc_Rule_init len_Rule_init rd_Rule_init fun cdv A outer s H E hr => (dss_cons (ds_if (dt_not (dt_val (de_g g_is_stone hr (by rfl) (da_cons (dv 1) da_nil)))) (dss_one (ds_raise x_InvalidRule hr rfl (by rfl) (da_cons de_int da_nil))) dss_nil) (dss_cons (ds_setF (dv 0) (dv 1) f_stone_2_3_4) (dss_one (ds_setF (dv 0) (de_g g_checked_parts hr (by rfl) (da_cons (dv 2) da_nil)) f_parts_2_3_4))))
abbrev s_CountRule_init : Stmt := inClass (top 25) 1
theorem sc_CountRule_init : NdefX.NScope N_CountRule_init ["self", "stone", "conditions", "need"] ["__class__"] (defScope s_CountRule_init) := NdefX.nscope_by (by decide +kernel)
theorem ok_CountRule_init {cc c f2 : Addr} {fd2 : FuncData} (F : FunS K "__init__" "CountRule.__init__" (defArgs s_CountRule_init) (defBody s_CountRule_init) (defScope s_CountRule_init) f fd cc c) (U : SupF P K mg cc c (cad K 3) f2 [3, 4]) (F2 : FnOk P w K mg base (L2N.CX P w) 4 f2 fd2 ["self", "stone", "conditions"] (toSp K r_Rule_init)) (hb2 : Binds K fd2 ["self", "stone", "conditions"] []) (f_parts_3_4 : FOk K "parts" [(3, 1), (4, 1)]) (n_len : mg "len" = none) (x_InvalidRule : Gx P w K mg base 22 "InvalidRule") (f_need_3_4 : FOk K "need" [(3, 2), (4, 2)]) : FnOk P w K mg base (L2N.CX P w) 5 f fd ["self", "stone", "conditions", "need"] (toSp K r_CountRule_init) :=
  fnS F sc_CountRule_init rfl rfl rfl U F2 hb2 len_CountRule_init rd_CountRule_init fun A outer s H E hr => ⟨(da_cons (dv 1) (da_cons (dv 2) da_nil)), (dss_cons (ds_if (dt_not (dt_chain o_le o_le de_int (dv 3) (de_callB c_len (by rfl) n_len PySem.boot_len (da_cons (de_fld (dv 0) f_parts_3_4) da_nil)))) (dss_one (ds_raise x_InvalidRule hr rfl (by rfl) (da_cons de_int da_nil))) dss_nil) (dss_one (ds_setF (dv 0) (dv 3) f_need_3_4)))⟩
abbrev s_SameRule_init : Stmt := inClass (top 26) 1
theorem sc_SameRule_init : NdefX.NScope N_SameRule_init ["self", "places", "need"] ["__class__"] (defScope s_SameRule_init) := NdefX.nscope_by (by decide +kernel)
theorem ok_SameRule_init {cc c f2 : Addr} {fd2 : FuncData} (F : FunS K "__init__" "SameRule.__init__" (defArgs s_SameRule_init) (defBody s_SameRule_init) (defScope s_SameRule_init) f fd cc c) (U : SupF P K mg cc c (cad K 4) f2 [4]) (F2 : FnOk P w K mg base (L2N.CX P w) 5 f2 fd2 ["self", "stone", "conditions", "need"] (toSp K r_CountRule_init)) (hb2 : Binds K fd2 ["self", "stone", "conditions", "need"] []) (f_stone_4 : FOk K "stone" [(4, 0)]) : FnOk P w K mg base (L2N.CX P w) 6 f fd ["self", "places", "need"] (toSp K r_SameRule_init) :=
  fnS F sc_SameRule_init rfl rfl rfl U F2 hb2 len_SameRule_init rd_SameRule_init fun A outer s H E hr => ⟨(da_cons de_str (da_cons (de_lc (own := [("dx", 4), ("dy", 5)]) rfl sc_SameRule_init.nd (di_items (dv 1)) (blk_of (by kernel_rfl)) (fun s H C cl fp => (dp_tp rfl (dps_cons (dp_nm (i := 4) sc_SameRule_init.nd) (dps_cons (dp_nm (i := 5) sc_SameRule_init.nd) dps_nil)))) (fun s H C cl fp => dts_nil) (fun s H C cl fp => (de_tup (da_cons (dv 4) (da_cons (dv 5) (da_cons de_str da_nil)))))) (da_cons (dv 2) da_nil))), (dss_one (ds_setF (dv 0) de_str f_stone_4))⟩
abbrev s_l_made : Stmt := top 44
theorem sc_l_made : FnScope N_l_made ["_law_rule_here"] (defScope s_l_made) := ⟨rfl, rfl, rfl, by decide +kernel, rfl, by decide +kernel, by decide +kernel⟩
theorem ok_l_made (F : FunD K "_law_made" "_law_made" (defArgs s_l_made) (defBody s_l_made) (defScope s_l_made) [] [] f fd) (n_list : mg "list" = none) (i_Rule : Gi P w K mg base 4 2 "Rule" ["self", "stone", "conditions"] r_Rule_init) (i_CountRule : Gi P w K mg base 5 3 "CountRule" ["self", "stone", "conditions", "need"] r_CountRule_init) (i_SameRule : Gi P w K mg base 6 4 "SameRule" ["self", "places", "need"] r_SameRule_init) : FnOk P w K mg base (L2N.CX P w) 8 f fd ["_law_rule_here"] (toSp K r_l_made) :=
  fnT F sc_l_made len_l_made rd_l_made fun cdv A outer s H E hr => (dss_cons (ds_if (dt_cmp (o_eq (k := 7) hr) (de_ix (k := 7) hr (dv 0) de_int) de_str) (dss_one (ds_ret (de_mk mkF_ok i_Rule hr (by rfl) (da_cons (de_ix (k := 7) hr (dv 0) de_int) (da_cons (de_callTy c_list (by rfl) n_list (by decide +kernel) (da_cons (de_ix (k := 7) hr (dv 0) de_int) da_nil)) da_nil))))) dss_nil) (dss_cons (ds_if (dt_cmp (o_eq (k := 7) hr) (de_ix (k := 7) hr (dv 0) de_int) de_str) (dss_one (ds_ret (de_mk mkF_ok i_CountRule hr (by rfl) (da_cons (de_ix (k := 7) hr (dv 0) de_int) (da_cons (de_callTy c_list (by rfl) n_list (by decide +kernel) (da_cons (de_ix (k := 7) hr (dv 0) de_int) da_nil)) (da_cons (de_ix (k := 7) hr (dv 0) de_int) da_nil)))))) dss_nil) (dss_one (ds_ret (de_mk mkF_ok i_SameRule hr (by rfl) (da_cons (de_lc (own := [("_law_part", 1)]) rfl sc_l_made.nd (di_items (de_ix (k := 7) hr (dv 0) de_int)) (blk_of (by kernel_rfl)) (fun s H C cl fp => (dp_nm (i := 1) sc_l_made.nd)) (fun s H C cl fp => dts_nil) (fun s H C cl fp => (de_tup (da_cons (de_ix (k := 7) hr (dv 1) de_int) (da_cons (de_ix (k := 7) hr (dv 1) de_int) da_nil))))) (da_cons (de_ix (k := 7) hr (dv 0) de_int) da_nil)))))))
abbrev s_l_cells : Stmt := top 41
theorem sc_l_cells : FnScope N_l_cells ["_law_rows"] (defScope s_l_cells) := ⟨rfl, rfl, rfl, by decide +kernel, rfl, by decide +kernel, by decide +kernel⟩
theorem ok_l_cells (F : FunD K "_law_cells" "_law_cells" (defArgs s_l_cells) (defBody s_l_cells) (defScope s_l_cells) [] [] f fd) (n_len : mg "len" = none) (n_range : mg "range" = none) : FnOk P w K mg base (L2N.CX P w) 1 f fd ["_law_rows"] (toSp K r_l_cells) :=
  fnT F sc_l_cells len_l_cells rd_l_cells fun cdv A outer s H E hr => (dss_cons (ds_set (i := 1) sc_l_cells.nd (de_lstO da_nil)) (dss_cons (ds_for rfl (di_rng1 (by rfl) n_range (da_cons (de_callB c_len (by rfl) n_len PySem.boot_len (da_cons (dv 0) da_nil)) da_nil)) (dp_nm (i := 2) sc_l_cells.nd) (dss_one (ds_for rfl (di_rng1 (by rfl) n_range (da_cons (de_callB c_len (by rfl) n_len PySem.boot_len (da_cons (de_ix (k := 0) hr (dv 0) de_int) da_nil)) da_nil)) (dp_nm (i := 3) sc_l_cells.nd) (dss_one (ds_expr (de_bm (by simp) PySem.F.plainAttrs_list PySem.F.slot_list_append PySem.F.type_list_append m_append (dv 1) (da_cons (de_tup (da_cons (dv 3) (da_cons (dv 2) da_nil))) da_nil))))))) (dss_one (ds_ret (dvM 1)))))
abbrev N_l_subset : List Str := ["_law_bag_here", "_law_cells_here", "_law_share", "_law_found", "_law_cell", "_law_pick"]
theorem rd_l_subset : Rd t_l_subset N_l_subset r_l_subset := SM.Rd.ren SM.rd_l_subset rfl
abbrev s_l_subset : Stmt := top 43
theorem sc_l_subset : FnScope N_l_subset ["_law_bag_here", "_law_cells_here", "_law_share"] (defScope s_l_subset) := ⟨rfl, rfl, rfl, by decide +kernel, rfl, by decide +kernel, by decide +kernel⟩
theorem ok_l_subset (F : FunD K "_law_subset" "_law_subset" (defArgs s_l_subset) (defBody s_l_subset) (defScope s_l_subset) [] [] f fd) (g__law_take : Gf P w K mg base 1 "_law_take" ["_law_bag_here", "_law_size"] r_l_take) : FnOk P w K mg base (L2N.CX P w) 2 f fd ["_law_bag_here", "_law_cells_here", "_law_share"] (toSp K r_l_subset) :=
  fnT F sc_l_subset len_l_subset rd_l_subset fun cdv A outer s H E hr => (dss_cons (ds_set (i := 3) sc_l_subset.nd (de_lstO da_nil)) (dss_cons (ds_for rfl (di_items (dv 1)) (dp_nm (i := 4) sc_l_subset.nd) (dss_cons (ds_set (i := 5) sc_l_subset.nd (de_g g__law_take hr (by rfl) (da_cons (dv 0) (da_cons (dv 2) da_nil)))) (dss_one (ds_if (dt_cmp (o_eq (k := 1) hr) (dv 5) de_int) (dss_one (ds_expr (de_bm (by simp) PySem.F.plainAttrs_list PySem.F.slot_list_append PySem.F.type_list_append m_append (dv 3) (da_cons (dv 4) da_nil)))) dss_nil)))) (dss_one (ds_ret (dvM 3)))))
abbrev s_l_sign : Stmt := top 40
theorem sc_l_sign : FnScope N_l_sign ["_law_rows", "_law_cx", "_law_cy"] (defScope s_l_sign) := ⟨rfl, rfl, rfl, by decide +kernel, rfl, by decide +kernel, by decide +kernel⟩
theorem ok_l_sign (F : FunD K "_law_sign" "_law_sign" (defArgs s_l_sign) (defBody s_l_sign) (defScope s_l_sign) [] [] f fd) (n_len : mg "len" = none) : FnOk P w K mg base (L2N.CX P w) 1 f fd ["_law_rows", "_law_cx", "_law_cy"] (toSp K r_l_sign) :=
  fnT F sc_l_sign len_l_sign rd_l_sign fun cdv A outer s H E hr => (dss_cons (ds_if (PDW.pt (dw_or (dt_cmp o_lt (dv 2) de_int) (dw_or (dt_cmp o_ge (dv 2) (de_callB c_len (by rfl) n_len PySem.boot_len (da_cons (dv 0) da_nil))) (dw_or (dt_cmp o_lt (dv 1) de_int) (dw_or1 (dt_cmp o_ge (dv 1) (de_callB c_len (by rfl) n_len PySem.boot_len (da_cons (de_ix (k := 0) hr (dv 0) de_int) da_nil)))))))) (dss_one (ds_ret de_str)) dss_nil) (dss_one (ds_ret (de_ix (k := 0) hr (de_ix (k := 0) hr (dv 0) (dv 2)) (dv 1)))))
abbrev N_l_put_k07 : List Str := ["_law_rows", "_law_cx", "_law_cy", "_law_sign_here", "_law_row_here", "_law_changed"]
theorem rd_l_put_k07 : Rd t_l_put_k07 N_l_put_k07 r_l_put_k07 := SM.Rd.ren SM.rd_l_put_k07 rfl
abbrev s_l_put_k07 : Stmt := top 42
theorem sc_l_put_k07 : FnScope N_l_put_k07 ["_law_rows", "_law_cx", "_law_cy", "_law_sign_here"] (defScope s_l_put_k07) := ⟨rfl, rfl, rfl, by decide +kernel, rfl, by decide +kernel, by decide +kernel⟩
theorem ok_l_put_k07 (F : FunD K "_law_put" "_law_put" (defArgs s_l_put_k07) (defBody s_l_put_k07) (defScope s_l_put_k07) [] [] f fd)  : FnOk P w K mg base (L2N.CX P w) 1 f fd ["_law_rows", "_law_cx", "_law_cy", "_law_sign_here"] (toSp K r_l_put_k07) :=
  fnT F sc_l_put_k07 len_l_put_k07 rd_l_put_k07 fun cdv A outer s H E hr => (dss_cons (ds_set (i := 4) sc_l_put_k07.nd (de_ix (k := 0) hr (dv 0) (dv 2))) (dss_cons (ds_set (i := 5) sc_l_put_k07.nd (de_op o_add (de_op o_add (de_slice (dv 4) do_none (do_some (dv 1))) (dv 3)) (de_slice (dv 4) (do_some (de_op o_add (dv 1) de_int)) do_none))) (dss_one (ds_ret (de_op o_add (de_op o_add (de_slice (dv 0) do_none (do_some (dv 2))) (de_lst (da_cons (dv 5) da_nil))) (de_slice (dv 0) (do_some (de_op o_add (dv 2) de_int)) do_none))))))
abbrev s_p_is_sign : Stmt := top 15
theorem sc_p_is_sign : FnScope N_p_is_sign ["sign"] (defScope s_p_is_sign) := ⟨rfl, rfl, rfl, by decide +kernel, rfl, by decide +kernel, by decide +kernel⟩
theorem ok_p_is_sign (F : FunD K "is_sign" "is_sign" (defArgs s_p_is_sign) (defBody s_p_is_sign) (defScope s_p_is_sign) [] [] f fd) (g_is_stone : Gf P w K mg base 1 "is_stone" ["sign"] r_p_is_stone) : FnOk P w K mg base (L2N.CX P w) 2 f fd ["sign"] (toSp K r_p_is_sign) :=
  fnT F sc_p_is_sign len_p_is_sign rd_p_is_sign fun cdv A outer s H E hr => (dss_one (ds_ret (de_or (de_cmp (o_eq (k := 1) hr) (dv 0) de_str) (de_one (de_g g_is_stone hr (by rfl) (da_cons (dv 0) da_nil))))))
abbrev s_p_is_row : Stmt := top 16
theorem sc_p_is_row : FnScope N_p_is_row ["row", "width"] (defScope s_p_is_row) := ⟨rfl, rfl, rfl, by decide +kernel, rfl, by decide +kernel, by decide +kernel⟩
theorem ok_p_is_row (F : FunD K "is_row" "is_row" (defArgs s_p_is_row) (defBody s_p_is_row) (defScope s_p_is_row) [] [] f fd) (n_len : mg "len" = none) (c_MOST : ∃ u, mg "MOST" = some u ∧ RelV (.int (8)) u) (g_is_sign : Gf P w K mg base 2 "is_sign" ["sign"] r_p_is_sign) : FnOk P w K mg base (L2N.CX P w) 3 f fd ["row", "width"] (toSp K r_p_is_row) :=
  fnT F sc_p_is_row len_p_is_row rd_p_is_row fun cdv A outer s H E hr => (dss_cons (ds_if (PDW.pt (dw_or (dt_cmp (o_ne (k := 2) hr) (de_callB c_len (by rfl) n_len PySem.boot_len (da_cons (dv 0) da_nil)) (dv 1)) (dw_or (dt_cmp o_lt (dv 1) de_int) (dw_or1 (dt_cmp o_gt (dv 1) (de_gl (by rfl) c_MOST (fun _ => .int _))))))) (dss_one (ds_ret de_bl)) dss_nil) (dss_cons (ds_for rfl (di_items (dv 0)) (dp_nm (i := 2) sc_p_is_row.nd) (dss_one (ds_if (dt_not (dt_val (de_g g_is_sign hr (by rfl) (da_cons (dv 2) da_nil)))) (dss_one (ds_ret de_bl)) dss_nil))) (dss_one (ds_ret de_bl))))
abbrev s_Picture_init : Stmt := inClass (top 17) 2
theorem sc_Picture_init : FnScope N_Picture_init ["self", "rows"] (defScope s_Picture_init) := ⟨rfl, rfl, rfl, by decide +kernel, rfl, by decide +kernel, by decide +kernel⟩
theorem ok_Picture_init (F : FunD K "__init__" "Picture.__init__" (defArgs s_Picture_init) (defBody s_Picture_init) (defScope s_Picture_init) [] [] f fd) (n_len : mg "len" = none) (x_InvalidPicture : Gx P w K mg base 21 "InvalidPicture") (n_enumerate : mg "enumerate" = none) (c_MOST : ∃ u, mg "MOST" = some u ∧ RelV (.int (8)) u) (n_list : mg "list" = none) (f_grid_1 : FOk K "grid" [(1, 0)]) (f_width_1 : FOk K "width" [(1, 1)]) (f_height_1 : FOk K "height" [(1, 2)]) (g_is_row : Gf P w K mg base 3 "is_row" ["row", "width"] r_p_is_row) : FnOk P w K mg base (L2N.CX P w) 4 f fd ["self", "rows"] (toSp K r_Picture_init) :=
  fnT F sc_Picture_init len_Picture_init rd_Picture_init fun cdv A outer s H E hr => (dss_cons (ds_if (dt_cmp (o_eq (k := 3) hr) (de_callB c_len (by rfl) n_len PySem.boot_len (da_cons (dv 1) da_nil)) de_int) (dss_one (ds_raise x_InvalidPicture hr rfl (by rfl) (da_cons de_int da_nil))) dss_nil) (dss_cons (ds_for rfl (di_enum (by rfl) n_enumerate (da_cons (dv 1) da_nil)) (dp_tp rfl (dps_cons (dp_nm (i := 2) sc_Picture_init.nd) (dps_cons (dp_nm (i := 3) sc_Picture_init.nd) dps_nil))) (dss_one (ds_if (PDW.pt (dw_or (dt_cmp o_ge (dv 2) (de_gl (by rfl) c_MOST (fun _ => .int _))) (dw_or1 (dt_not (dt_val (de_g g_is_row hr (by rfl) (da_cons (dv 3) (da_cons (de_callB c_len (by rfl) n_len PySem.boot_len (da_cons (de_ix (k := 3) hr (dv 1) de_int) da_nil)) da_nil)))))))) (dss_one (ds_raise x_InvalidPicture hr rfl (by rfl) (da_cons (de_op o_add (dv 2) de_int) da_nil))) dss_nil))) (dss_cons (ds_setF (dv 0) (de_callTy c_list (by rfl) n_list (by decide +kernel) (da_cons (dv 1) da_nil)) f_grid_1) (dss_cons (ds_setF (dv 0) (de_callB c_len (by rfl) n_len PySem.boot_len (da_cons (de_ix (k := 3) hr (dv 1) de_int) da_nil)) f_width_1) (dss_one (ds_setF (dv 0) (de_callB c_len (by rfl) n_len PySem.boot_len (da_cons (dv 1) da_nil)) f_height_1))))))
abbrev s_Region_init : Stmt := inClass (top 3) 0
theorem sc_Region_init : FnScope N_Region_init ["self", "cells"] (defScope s_Region_init) := ⟨rfl, rfl, rfl, by decide +kernel, rfl, by decide +kernel, by decide +kernel⟩
theorem ok_Region_init (F : FunD K "__init__" "Region.__init__" (defArgs s_Region_init) (defBody s_Region_init) (defScope s_Region_init) [] [] f fd) (f_found_0 : FOk K "found" [(0, 0)]) (n_list : mg "list" = none) (ro_f : ∃ f, RoF K f ∧ mg "reading_order" = some (.ref f)) (n_sorted : mg "sorted" = none) (f_row_0 : FOk K "row" [(0, 1)]) : FnOk P w K mg base (L2N.CX P w) 1 f fd ["self", "cells"] (toSp K r_Region_init) :=
  fnT F sc_Region_init len_Region_init rd_Region_init fun cdv A outer s H E hr => (dss_cons (ds_setF (dv 0) (de_dc (own := [("cell", 2)]) (k := 0) hr rfl sc_Region_init.nd (di_items (dv 1)) (blk_of (by kernel_rfl)) (fun s H C cl fp => (dp_nm (i := 2) sc_Region_init.nd)) (fun s H C cl fp => dts_nil) (fun s H C cl fp => (de_tup (da_cons (de_ix (k := 0) hr (dv 2) de_int) (da_cons (de_ix (k := 0) hr (dv 2) de_int) da_nil)))) (fun s H C cl fp => de_bl)) f_found_0) (dss_one (ds_setF (dv 0) (de_sortRoE (k := 0) hr ro_f (de_callTy (c_listK rfl) (by rfl) n_list (by decide +kernel) (da_cons (de_fld (dv 0) f_found_0) da_nil)) (by rfl) (by rfl) n_sorted (by decide +kernel)) f_row_0)))
abbrev s_Rule_lays : Stmt := inClass (top 24) 3
theorem sc_Rule_lays : FnScope N_Rule_lays ["self", "stone"] (defScope s_Rule_lays) := ⟨rfl, rfl, rfl, by decide +kernel, rfl, by decide +kernel, by decide +kernel⟩
theorem ok_Rule_lays (F : FunD K "lays" "Rule.lays" (defArgs s_Rule_lays) (defBody s_Rule_lays) (defScope s_Rule_lays) [] [] f fd) (f_stone_2_3_4 : FOk K "stone" [(2, 0), (3, 0), (4, 0)]) : FnOk P w K mg base (L2N.CX P w) 1 f fd ["self", "stone"] (toSp K r_Rule_lays) :=
  fnT F sc_Rule_lays len_Rule_lays rd_Rule_lays fun cdv A outer s H E hr => (dss_one (ds_ret (de_cmp (o_eq (k := 0) hr) (dv 1) (de_fld (dv 0) f_stone_2_3_4))))
abbrev s_SameRule_lays : Stmt := inClass (top 26) 2
theorem sc_SameRule_lays : FnScope N_SameRule_lays ["self", "stone"] (defScope s_SameRule_lays) := ⟨rfl, rfl, rfl, by decide +kernel, rfl, by decide +kernel, by decide +kernel⟩
theorem ok_SameRule_lays (F : FunD K "lays" "SameRule.lays" (defArgs s_SameRule_lays) (defBody s_SameRule_lays) (defScope s_SameRule_lays) [] [] f fd) (g_is_stone : Gf P w K mg base 1 "is_stone" ["sign"] r_p_is_stone) : FnOk P w K mg base (L2N.CX P w) 2 f fd ["self", "stone"] (toSp K r_SameRule_lays) :=
  fnT F sc_SameRule_lays len_SameRule_lays rd_SameRule_lays fun cdv A outer s H E hr => (dss_one (ds_ret (de_g g_is_stone hr (by rfl) (da_cons (dv 1) da_nil))))
abbrev s_Picture_contains : Stmt := inClass (top 17) 6
theorem sc_Picture_contains : FnScope N_Picture_contains ["self", "x", "y"] (defScope s_Picture_contains) := ⟨rfl, rfl, rfl, by decide +kernel, rfl, by decide +kernel, by decide +kernel⟩
theorem ok_Picture_contains (F : FunD K "contains" "Picture.contains" (defArgs s_Picture_contains) (defBody s_Picture_contains) (defScope s_Picture_contains) [] [] f fd) (f_width_1 : FOk K "width" [(1, 1)]) (f_height_1 : FOk K "height" [(1, 2)]) : FnOk P w K mg base (L2N.CX P w) 1 f fd ["self", "x", "y"] (toSp K r_Picture_contains) :=
  fnT F sc_Picture_contains len_Picture_contains rd_Picture_contains fun cdv A outer s H E hr => (dss_one (ds_ret (de_and (de_chain o_le o_lt de_int (dv 1) (de_fld (dv 0) f_width_1)) (de_one (de_chain o_le o_lt de_int (dv 2) (de_fld (dv 0) f_height_1))))))
abbrev s_Rule_conditions : Stmt := inClass (top 24) 4
theorem sc_Rule_conditions : FnScope N_Rule_conditions ["self", "stone"] (defScope s_Rule_conditions) := ⟨rfl, rfl, rfl, by decide +kernel, rfl, by decide +kernel, by decide +kernel⟩
theorem ok_Rule_conditions (F : FunD K "conditions" "Rule.conditions" (defArgs s_Rule_conditions) (defBody s_Rule_conditions) (defScope s_Rule_conditions) [] [] f fd) (x_WrongStone : Gx P w K mg base 42 "WrongStone") (f_parts_2_3_4 : FOk K "parts" [(2, 1), (3, 1), (4, 1)]) (n_list : mg "list" = none) (mi_Rule_lays : Gm P w K mg base 1 2 "lays" ["self", "stone"] r_Rule_lays) (mi_CountRule_lays : Gm P w K mg base 1 3 "lays" ["self", "stone"] r_Rule_lays) (mi_SameRule_lays : Gm P w K mg base 2 4 "lays" ["self", "stone"] r_SameRule_lays) : FnOk P w K mg base (L2N.CX P w) 3 f fd ["self", "stone"] (toSp K r_Rule_conditions) :=
  fnT F sc_Rule_conditions len_Rule_conditions rd_Rule_conditions fun cdv A outer s H E hr => (dss_cons (ds_if (dt_not (dt_val (de_methT (k := 2) (T := [(2, r_Rule_lays), (3, r_Rule_lays), (4, r_SameRule_lays)]) (dv 0) ⟨⟨_, _, by decide, mi_Rule_lays⟩, ⟨_, _, by decide, mi_CountRule_lays⟩, ⟨_, _, by decide, mi_SameRule_lays⟩, trivial⟩ hr (da_cons (dv 1) da_nil)))) (dss_one (ds_raise x_WrongStone hr rfl (by rfl) (da_cons (dv 1) da_nil))) dss_nil) (dss_one (ds_ret (de_callTy c_listO (by rfl) n_list (by decide +kernel) (da_cons (de_fld (dv 0) f_parts_2_3_4) da_nil)))))
abbrev s_SameRule_conditions : Stmt := inClass (top 26) 3
theorem sc_SameRule_conditions : FnScope N_SameRule_conditions ["self", "stone"] (defScope s_SameRule_conditions) := ⟨rfl, rfl, rfl, by decide +kernel, rfl, by decide +kernel, by decide +kernel⟩
theorem ok_SameRule_conditions (F : FunD K "conditions" "SameRule.conditions" (defArgs s_SameRule_conditions) (defBody s_SameRule_conditions) (defScope s_SameRule_conditions) [] [] f fd) (x_WrongStone : Gx P w K mg base 42 "WrongStone") (f_parts_4 : FOk K "parts" [(4, 1)]) (g_is_stone : Gf P w K mg base 1 "is_stone" ["sign"] r_p_is_stone) : FnOk P w K mg base (L2N.CX P w) 3 f fd ["self", "stone"] (toSp K r_SameRule_conditions) :=
  fnT F sc_SameRule_conditions len_SameRule_conditions rd_SameRule_conditions fun cdv A outer s H E hr => (dss_cons (ds_if (dt_not (dt_val (de_g g_is_stone hr (by rfl) (da_cons (dv 1) da_nil)))) (dss_one (ds_raise x_WrongStone hr rfl (by rfl) (da_cons (dv 1) da_nil))) dss_nil) (dss_one (ds_ret (de_lcO (own := [("dx", 2), ("dy", 3), ("signs", 4)]) rfl sc_SameRule_conditions.nd (di_items (de_fld (dv 0) f_parts_4)) (blk_of (by kernel_rfl)) (fun s H C cl fp => (dp_tp rfl (dps_cons (dp_nm (i := 2) sc_SameRule_conditions.nd) (dps_cons (dp_nm (i := 3) sc_SameRule_conditions.nd) (dps_cons (dp_nm (i := 4) sc_SameRule_conditions.nd) dps_nil))))) (fun s H C cl fp => dts_nil) (fun s H C cl fp => (de_tup (da_cons (dv 2) (da_cons (dv 3) (da_cons (dv 1) da_nil)))))))))
abbrev s_Picture_getitem : Stmt := inClass (top 17) 10
theorem sc_Picture_getitem : FnScope N_Picture_getitem ["self", "at"] (defScope s_Picture_getitem) := ⟨rfl, rfl, rfl, by decide +kernel, rfl, by decide +kernel, by decide +kernel⟩
theorem ok_Picture_getitem (F : FunD K "__getitem__" "Picture.__getitem__" (defArgs s_Picture_getitem) (defBody s_Picture_getitem) (defScope s_Picture_getitem) [] [] f fd) (f_width_1 : FOk K "width" [(1, 1)]) (f_height_1 : FOk K "height" [(1, 2)]) (f_grid_1 : FOk K "grid" [(1, 0)]) : FnOk P w K mg base (L2N.CX P w) 1 f fd ["self", "at"] (toSp K r_Picture_getitem) :=
  fnT F sc_Picture_getitem len_Picture_getitem rd_Picture_getitem fun cdv A outer s H E hr => (dss_cons (ds_unp (dv 1) (dp_tp rfl (dps_cons (dp_nm (i := 2) sc_Picture_getitem.nd) (dps_cons (dp_nm (i := 3) sc_Picture_getitem.nd) dps_nil)))) (dss_cons (ds_if (PDW.pt (dw_and (dt_chain o_le o_lt de_int (dv 2) (de_fld (dv 0) f_width_1)) (dw_and1 (dt_chain o_le o_lt de_int (dv 3) (de_fld (dv 0) f_height_1))))) (dss_one (ds_ret (de_ix (k := 0) hr (de_ix (k := 0) hr (de_fld (dv 0) f_grid_1) (dv 3)) (dv 2)))) dss_nil) (dss_one (ds_ret de_str))))
abbrev s_Region_contains : Stmt := inClass (top 3) 8
theorem sc_Region_contains : FnScope N_Region_contains ["self", "cell"] (defScope s_Region_contains) := ⟨rfl, rfl, rfl, by decide +kernel, rfl, by decide +kernel, by decide +kernel⟩
theorem ok_Region_contains (F : FunD K "__contains__" "Region.__contains__" (defArgs s_Region_contains) (defBody s_Region_contains) (defScope s_Region_contains) [] [] f fd) (f_found_0 : FOk K "found" [(0, 0)]) : FnOk P w K mg base (L2N.CX P w) 1 f fd ["self", "cell"] (toSp K r_Region_contains) :=
  fnT F sc_Region_contains len_Region_contains rd_Region_contains fun cdv A outer s H E hr => (dss_one (ds_ret (de_cmp (o_in (k := 0) hr) (dv 1) (de_fld (dv 0) f_found_0))))
abbrev s_Rule_clashes : Stmt := inClass (top 24) 5
theorem sc_Rule_clashes : FnScope N_Rule_clashes ["self", "picture", "x", "y", "stone", "loose"] (defScope s_Rule_clashes) := ⟨rfl, rfl, rfl, by decide +kernel, rfl, by decide +kernel, by decide +kernel⟩
theorem ok_Rule_clashes (F : FunD K "clashes" "Rule.clashes" (defArgs s_Rule_clashes) (defBody s_Rule_clashes) (defScope s_Rule_clashes) [] [("loose", .non)] f fd) (x_OutOfPicture : Gx P w K mg base 30 "OutOfPicture") (fi_1 : ∀ f, Meth K (cad K 1) "__getitem__" f → PySem.W.fnIn K f = true) (m_Picture_contains : Gm P w K mg base 1 1 "contains" ["self", "x", "y"] r_Picture_contains) (mi_Rule_conditions : Gm P w K mg base 3 2 "conditions" ["self", "stone"] r_Rule_conditions) (mi_CountRule_conditions : Gm P w K mg base 3 3 "conditions" ["self", "stone"] r_Rule_conditions) (mi_SameRule_conditions : Gm P w K mg base 3 4 "conditions" ["self", "stone"] r_SameRule_conditions) (d_getitem_1 : Go P w K mg base 1 1 "__getitem__" ["self", "at"] r_Picture_getitem) (d_contains_0 : Go P w K mg base 1 0 "__contains__" ["self", "cell"] r_Region_contains) : FnOk P w K mg base (L2N.CX P w) 4 f fd ["self", "picture", "x", "y", "stone", "loose"] (toSp K r_Rule_clashes) :=
  fnT F sc_Rule_clashes len_Rule_clashes rd_Rule_clashes fun cdv A outer s H E hr => (dss_cons (ds_if (dt_not (dt_val (de_gm (dv 1) m_Picture_contains hr (da_cons (dv 2) (da_cons (dv 3) da_nil))))) (dss_one (ds_raise x_OutOfPicture hr rfl (by rfl) (da_cons (dv 2) (da_cons (dv 3) da_nil)))) dss_nil) (dss_cons (ds_set (i := 6) sc_Rule_clashes.nd (de_lstO da_nil)) (dss_cons (ds_for rfl (di_items (de_fz (de_methT (k := 3) (T := [(2, r_Rule_conditions), (3, r_Rule_conditions), (4, r_SameRule_conditions)]) (dv 0) ⟨⟨_, _, by decide, mi_Rule_conditions⟩, ⟨_, _, by decide, mi_CountRule_conditions⟩, ⟨_, _, by decide, mi_SameRule_conditions⟩, trivial⟩ hr (da_cons (dv 4) da_nil)))) (dp_tp rfl (dps_cons (dp_nm (i := 7) sc_Rule_clashes.nd) (dps_cons (dp_nm (i := 8) sc_Rule_clashes.nd) (dps_cons (dp_nm (i := 9) sc_Rule_clashes.nd) dps_nil)))) (dss_cons (ds_set (i := 10) sc_Rule_clashes.nd (de_tup (da_cons (de_op o_add (dv 2) (dv 7)) (da_cons (de_op o_add (dv 3) (dv 8)) da_nil)))) (dss_cons (ds_set (i := 11) sc_Rule_clashes.nd (de_ixG d_getitem_1 fi_1 hr (dv 1) (de_tup (da_cons (de_op o_add (dv 2) (dv 7)) (da_cons (de_op o_add (dv 3) (dv 8)) da_nil))))) (dss_cons (ds_if (PDW.pt (dw_and (dt_cmp (o_ne (k := 3) hr) (dv 11) de_str) (dw_and (dt_cmp o_isnot (dv 5) de_non) (dw_and1 (dt_cmp (o_inG d_contains_0 hr) (dv 10) (dv 5)))))) (dss_one ds_continue) dss_nil) (dss_one (ds_if (PDW.pt (dw_and (dt_cmp (o_ne (k := 3) hr) (dv 11) de_str) (dw_and1 (dt_cmp (o_notin (k := 3) hr) (dv 11) (dv 9))))) (dss_one (ds_expr (de_bm (by simp) PySem.F.plainAttrs_list PySem.F.slot_list_append PySem.F.type_list_append m_append (dv 6) (da_cons (dv 10) da_nil)))) dss_nil)))))) (dss_one (ds_ret (dv 6))))))
abbrev s_l_is_int : Stmt := top 30
theorem sc_l_is_int : FnScope N_l_is_int ["_law_value"] (defScope s_l_is_int) := ⟨rfl, rfl, rfl, by decide +kernel, rfl, by decide +kernel, by decide +kernel⟩
theorem ok_l_is_int (F : FunD K "_law_is_int" "_law_is_int" (defArgs s_l_is_int) (defBody s_l_is_int) (defScope s_l_is_int) [] [] f fd) (b_int : isiB K (.type "int") ti_int = true) (n_isinstance : mg "isinstance" = none) (n_int : mg "int" = none) (b_bool : isiB K (.type "bool") ti_bool = true) (n_bool : mg "bool" = none) : FnOk P w K mg base (L2N.CX P w) 1 f fd ["_law_value"] (toSp K r_l_is_int) :=
  fnT F sc_l_is_int len_l_is_int rd_l_is_int fun cdv A outer s H E hr => (dss_one (ds_ret (de_and (de_isi (by rfl) n_isinstance (.ty "int") (pe_bltn (by rfl) n_int (by decide +kernel) rfl) b_int rfl (dv 0)) (de_one (de_not (de_isi (by rfl) n_isinstance (.ty "bool") (pe_bltn (by rfl) n_bool (by decide +kernel) rfl) b_bool rfl (dv 0)))))))
abbrev s_l_is_cell : Stmt := top 31
theorem sc_l_is_cell : FnScope N_l_is_cell ["_law_value"] (defScope s_l_is_cell) := ⟨rfl, rfl, rfl, by decide +kernel, rfl, by decide +kernel, by decide +kernel⟩
theorem ok_l_is_cell (F : FunD K "_law_is_cell" "_law_is_cell" (defArgs s_l_is_cell) (defBody s_l_is_cell) (defScope s_l_is_cell) [] [] f fd) (b_tuple : isiB K (.type "tuple") ti_tuple = true) (n_isinstance : mg "isinstance" = none) (n_tuple : mg "tuple" = none) (n_len : mg "len" = none) (g__law_is_int : Gf P w K mg base 1 "_law_is_int" ["_law_value"] r_l_is_int) : FnOk P w K mg base (L2N.CX P w) 2 f fd ["_law_value"] (toSp K r_l_is_cell) :=
  fnT F sc_l_is_cell len_l_is_cell rd_l_is_cell fun cdv A outer s H E hr => (dss_one (ds_ret (de_and (de_isi (by rfl) n_isinstance (.ty "tuple") (pe_bltn (by rfl) n_tuple (by decide +kernel) rfl) b_tuple rfl (dv 0)) (de_and (de_cmp (o_eq (k := 1) hr) (de_callB c_len (by rfl) n_len PySem.boot_len (da_cons (dv 0) da_nil)) de_int) (de_and (de_g g__law_is_int hr (by rfl) (da_cons (de_ix (k := 1) hr (dv 0) de_int) da_nil)) (de_one (de_g g__law_is_int hr (by rfl) (da_cons (de_ix (k := 1) hr (dv 0) de_int) da_nil))))))))
abbrev s_l_is_cells : Stmt := top 32
theorem sc_l_is_cells : FnScope N_l_is_cells ["_law_value"] (defScope s_l_is_cells) := ⟨rfl, rfl, rfl, by decide +kernel, rfl, by decide +kernel, by decide +kernel⟩
theorem ok_l_is_cells (F : FunD K "_law_is_cells" "_law_is_cells" (defArgs s_l_is_cells) (defBody s_l_is_cells) (defScope s_l_is_cells) [] [] f fd) (b_list : isiB K (.type "list") ti_list = true) (n_isinstance : mg "isinstance" = none) (n_list : mg "list" = none) (g__law_is_cell : Gf P w K mg base 2 "_law_is_cell" ["_law_value"] r_l_is_cell) : FnOk P w K mg base (L2N.CX P w) 3 f fd ["_law_value"] (toSp K r_l_is_cells) :=
  fnT F sc_l_is_cells len_l_is_cells rd_l_is_cells fun cdv A outer s H E hr => (dss_cons (ds_if (dt_not (dt_val (de_isi (by rfl) n_isinstance (.ty "list") (pe_bltn (by rfl) n_list (by decide +kernel) rfl) b_list rfl (dv 0)))) (dss_one (ds_ret de_bl)) dss_nil) (dss_cons (ds_for rfl (di_items (dv 0)) (dp_nm (i := 1) sc_l_is_cells.nd) (dss_one (ds_if (dt_not (dt_val (de_g g__law_is_cell hr (by rfl) (da_cons (dv 1) da_nil)))) (dss_one (ds_ret de_bl)) dss_nil))) (dss_one (ds_ret de_bl))))
abbrev s_l_less : Stmt := top 45
theorem sc_l_less : FnScope N_l_less ["_law_told", "_law_free", "_law_rows"] (defScope s_l_less) := ⟨rfl, rfl, rfl, by decide +kernel, rfl, by decide +kernel, by decide +kernel⟩
theorem ok_l_less (F : FunD K "_law_less" "_law_less" (defArgs s_l_less) (defBody s_l_less) (defScope s_l_less) [] [] f fd) (g__law_sign : Gf P w K mg base 1 "_law_sign" ["_law_rows", "_law_cx", "_law_cy"] r_l_sign) : FnOk P w K mg base (L2N.CX P w) 2 f fd ["_law_told", "_law_free", "_law_rows"] (toSp K r_l_less) :=
  fnT F sc_l_less len_l_less rd_l_less fun cdv A outer s H E hr => (dss_one (ds_ret (de_lc (own := [("_law_place", 3)]) rfl sc_l_less.nd (di_items (dv 0)) (blk_of (by kernel_rfl)) (fun s H C cl fp => (dp_nm (i := 3) sc_l_less.nd)) (fun s H C cl fp => (dts_one (PDW.pt (dw_or (dt_cmp (o_notin (k := 1) hr) (dv 3) (dv 1)) (dw_or1 (dt_cmp (o_eq (k := 1) hr) (de_g g__law_sign hr (by rfl) (da_cons (dv 2) (da_cons (de_ix (k := 1) hr (dv 3) de_int) (da_cons (de_ix (k := 1) hr (dv 3) de_int) da_nil)))) de_str)))))) (fun s H C cl fp => (dv 3)))))
abbrev s_Rule_slack : Stmt := inClass (top 24) 2
theorem sc_Rule_slack : FnScope N_Rule_slack ["self"] (defScope s_Rule_slack) := ⟨rfl, rfl, rfl, by decide +kernel, rfl, by decide +kernel, by decide +kernel⟩
theorem ok_Rule_slack (F : FunD K "slack" "Rule.slack" (defArgs s_Rule_slack) (defBody s_Rule_slack) (defScope s_Rule_slack) [] [] f fd)  : FnOk P w K mg base (L2N.CX P w) 1 f fd ["self"] (toSp K r_Rule_slack) :=
  fnT F sc_Rule_slack len_Rule_slack rd_Rule_slack fun cdv A outer s H E hr => (dss_one (ds_ret de_int))
abbrev s_CountRule_slack : Stmt := inClass (top 25) 2
theorem sc_CountRule_slack : FnScope N_CountRule_slack ["self"] (defScope s_CountRule_slack) := ⟨rfl, rfl, rfl, by decide +kernel, rfl, by decide +kernel, by decide +kernel⟩
theorem ok_CountRule_slack (F : FunD K "slack" "CountRule.slack" (defArgs s_CountRule_slack) (defBody s_CountRule_slack) (defScope s_CountRule_slack) [] [] f fd) (f_parts_3_4 : FOk K "parts" [(3, 1), (4, 1)]) (n_len : mg "len" = none) (f_need_3_4 : FOk K "need" [(3, 2), (4, 2)]) : FnOk P w K mg base (L2N.CX P w) 1 f fd ["self"] (toSp K r_CountRule_slack) :=
  fnT F sc_CountRule_slack len_CountRule_slack rd_CountRule_slack fun cdv A outer s H E hr => (dss_one (ds_ret (de_op o_sub (de_callB c_len (by rfl) n_len PySem.boot_len (da_cons (de_fld (dv 0) f_parts_3_4) da_nil)) (de_fld (dv 0) f_need_3_4))))
abbrev s_Rule_fits : Stmt := inClass (top 24) 6
theorem sc_Rule_fits : FnScope N_Rule_fits ["self", "picture", "x", "y", "stone", "loose"] (defScope s_Rule_fits) := ⟨rfl, rfl, rfl, by decide +kernel, rfl, by decide +kernel, by decide +kernel⟩
theorem ok_Rule_fits (F : FunD K "fits" "Rule.fits" (defArgs s_Rule_fits) (defBody s_Rule_fits) (defScope s_Rule_fits) [] [("loose", .non)] f fd) (x_OutOfPicture : Gx P w K mg base 30 "OutOfPicture") (n_len : mg "len" = none) (m_Picture_contains : Gm P w K mg base 1 1 "contains" ["self", "x", "y"] r_Picture_contains) (mi_Rule_lays : Gm P w K mg base 1 2 "lays" ["self", "stone"] r_Rule_lays) (mi_CountRule_lays : Gm P w K mg base 1 3 "lays" ["self", "stone"] r_Rule_lays) (mi_SameRule_lays : Gm P w K mg base 2 4 "lays" ["self", "stone"] r_SameRule_lays) (mki_Rule_clashes : Gmk P w K mg base 4 2 "clashes" 5 "loose" ["self", "picture", "x", "y", "stone", "loose"] r_Rule_clashes) (mki_CountRule_clashes : Gmk P w K mg base 4 3 "clashes" 5 "loose" ["self", "picture", "x", "y", "stone", "loose"] r_Rule_clashes) (mki_SameRule_clashes : Gmk P w K mg base 4 4 "clashes" 5 "loose" ["self", "picture", "x", "y", "stone", "loose"] r_Rule_clashes) (pi_Rule_slack : Gp P w K mg base 1 2 "slack" ["self"] r_Rule_slack) (pi_CountRule_slack : Gp P w K mg base 1 3 "slack" ["self"] r_CountRule_slack) (pi_SameRule_slack : Gp P w K mg base 1 4 "slack" ["self"] r_CountRule_slack) : FnOk P w K mg base (L2N.CX P w) 5 f fd ["self", "picture", "x", "y", "stone", "loose"] (toSp K r_Rule_fits) :=
  fnT F sc_Rule_fits len_Rule_fits rd_Rule_fits fun cdv A outer s H E hr => (dss_cons (ds_if (dt_not (dt_val (de_gm (dv 1) m_Picture_contains hr (da_cons (dv 2) (da_cons (dv 3) da_nil))))) (dss_one (ds_raise x_OutOfPicture hr rfl (by rfl) (da_cons (dv 2) (da_cons (dv 3) da_nil)))) dss_nil) (dss_cons (ds_if (dt_not (dt_val (de_methT (k := 4) (T := [(2, r_Rule_lays), (3, r_Rule_lays), (4, r_SameRule_lays)]) (dv 0) ⟨⟨_, _, by decide, mi_Rule_lays⟩, ⟨_, _, by decide, mi_CountRule_lays⟩, ⟨_, _, by decide, mi_SameRule_lays⟩, trivial⟩ hr (da_cons (dv 4) da_nil)))) (dss_one (ds_ret de_bl)) dss_nil) (dss_one (ds_ret (de_cmp o_le (de_callB c_len (by rfl) n_len PySem.boot_len (da_cons (de_fz (de_methTK (k := 4) (T := [(2, r_Rule_clashes), (3, r_Rule_clashes), (4, r_Rule_clashes)]) (dv 0) ⟨⟨_, _, by decide, mki_Rule_clashes⟩, ⟨_, _, by decide, mki_CountRule_clashes⟩, ⟨_, _, by decide, mki_SameRule_clashes⟩, trivial⟩ hr (da_cons (dv 1) (da_cons (dv 2) (da_cons (dv 3) (da_cons (dv 4) da_nil)))) (dv 5))) da_nil)) (de_propT (k := 3) (T := [(2, r_Rule_slack), (3, r_CountRule_slack), (4, r_CountRule_slack)]) (dv 0) ⟨⟨_, _, by decide, pi_Rule_slack⟩, ⟨_, _, by decide, pi_CountRule_slack⟩, ⟨_, _, by decide, pi_SameRule_slack⟩, trivial⟩ hr))))))
abbrev s_l_cell_agrees : Stmt := top 46
theorem sc_l_cell_agrees : FnScope N_l_cell_agrees ["_law_made_here", "_law_pair", "_law_region", "_law_free", "_law_rows", "_law_cell", "_law_hue"] (defScope s_l_cell_agrees) := ⟨rfl, rfl, rfl, by decide +kernel, rfl, by decide +kernel, by decide +kernel⟩
theorem ok_l_cell_agrees (F : FunD K "_law_cell_agrees" "_law_cell_agrees" (defArgs s_l_cell_agrees) (defBody s_l_cell_agrees) (defScope s_l_cell_agrees) [] [] f fd) (n_len : mg "len" = none) (mdi_Rule_clashes : Gmd P w K mg base 4 2 "clashes" ["self", "picture", "x", "y", "stone", "loose"] [.non] r_Rule_clashes) (mdi_CountRule_clashes : Gmd P w K mg base 4 3 "clashes" ["self", "picture", "x", "y", "stone", "loose"] [.non] r_Rule_clashes) (mdi_SameRule_clashes : Gmd P w K mg base 4 4 "clashes" ["self", "picture", "x", "y", "stone", "loose"] [.non] r_Rule_clashes) (mki_Rule_clashes : Gmk P w K mg base 4 2 "clashes" 5 "loose" ["self", "picture", "x", "y", "stone", "loose"] r_Rule_clashes) (mki_CountRule_clashes : Gmk P w K mg base 4 3 "clashes" 5 "loose" ["self", "picture", "x", "y", "stone", "loose"] r_Rule_clashes) (mki_SameRule_clashes : Gmk P w K mg base 4 4 "clashes" 5 "loose" ["self", "picture", "x", "y", "stone", "loose"] r_Rule_clashes) (g__law_is_cells : Gf P w K mg base 3 "_law_is_cells" ["_law_value"] r_l_is_cells) (g__law_less : Gf P w K mg base 2 "_law_less" ["_law_told", "_law_free", "_law_rows"] r_l_less) (mdi_Rule_fits : Gmd P w K mg base 5 2 "fits" ["self", "picture", "x", "y", "stone", "loose"] [.non] r_Rule_fits) (mdi_CountRule_fits : Gmd P w K mg base 5 3 "fits" ["self", "picture", "x", "y", "stone", "loose"] [.non] r_Rule_fits) (mdi_SameRule_fits : Gmd P w K mg base 5 4 "fits" ["self", "picture", "x", "y", "stone", "loose"] [.non] r_Rule_fits) (mki_Rule_fits : Gmk P w K mg base 5 2 "fits" 5 "loose" ["self", "picture", "x", "y", "stone", "loose"] r_Rule_fits) (mki_CountRule_fits : Gmk P w K mg base 5 3 "fits" 5 "loose" ["self", "picture", "x", "y", "stone", "loose"] r_Rule_fits) (mki_SameRule_fits : Gmk P w K mg base 5 4 "fits" 5 "loose" ["self", "picture", "x", "y", "stone", "loose"] r_Rule_fits) (pi_Rule_slack : Gp P w K mg base 1 2 "slack" ["self"] r_Rule_slack) (pi_CountRule_slack : Gp P w K mg base 1 3 "slack" ["self"] r_CountRule_slack) (pi_SameRule_slack : Gp P w K mg base 1 4 "slack" ["self"] r_CountRule_slack) : FnOk P w K mg base (L2N.CX P w) 6 f fd ["_law_made_here", "_law_pair", "_law_region", "_law_free", "_law_rows", "_law_cell", "_law_hue"] (toSp K r_l_cell_agrees) :=
  fnT F sc_l_cell_agrees len_l_cell_agrees rd_l_cell_agrees fun cdv A outer s H E hr => (dss_cons (ds_set (i := 7) sc_l_cell_agrees.nd (de_fz (de_methTD (k := 5) (T := [(2, r_Rule_clashes), (3, r_Rule_clashes), (4, r_Rule_clashes)]) (dv 0) ⟨⟨_, _, by decide, mdi_Rule_clashes⟩, ⟨_, _, by decide, mdi_CountRule_clashes⟩, ⟨_, _, by decide, mdi_SameRule_clashes⟩, trivial⟩ hr (da_cons (de_ix (k := 5) hr (dv 1) de_int) (da_cons (de_ix (k := 5) hr (dv 5) de_int) (da_cons (de_ix (k := 5) hr (dv 5) de_int) (da_cons (dv 6) da_nil))))))) (dss_cons (ds_set (i := 8) sc_l_cell_agrees.nd (de_fz (de_methTD (k := 5) (T := [(2, r_Rule_clashes), (3, r_Rule_clashes), (4, r_Rule_clashes)]) (dv 0) ⟨⟨_, _, by decide, mdi_Rule_clashes⟩, ⟨_, _, by decide, mdi_CountRule_clashes⟩, ⟨_, _, by decide, mdi_SameRule_clashes⟩, trivial⟩ hr (da_cons (de_ix (k := 5) hr (dv 1) de_int) (da_cons (de_ix (k := 5) hr (dv 5) de_int) (da_cons (de_ix (k := 5) hr (dv 5) de_int) (da_cons (dv 6) da_nil))))))) (dss_cons (ds_set (i := 9) sc_l_cell_agrees.nd (de_fz (de_methTK (k := 5) (T := [(2, r_Rule_clashes), (3, r_Rule_clashes), (4, r_Rule_clashes)]) (dv 0) ⟨⟨_, _, by decide, mki_Rule_clashes⟩, ⟨_, _, by decide, mki_CountRule_clashes⟩, ⟨_, _, by decide, mki_SameRule_clashes⟩, trivial⟩ hr (da_cons (de_ix (k := 5) hr (dv 1) de_int) (da_cons (de_ix (k := 5) hr (dv 5) de_int) (da_cons (de_ix (k := 5) hr (dv 5) de_int) (da_cons (dv 6) da_nil)))) (dv 2)))) (dss_cons (ds_if (PDW.pt (dw_or (dt_not (dt_val (de_g g__law_is_cells hr (by rfl) (da_cons (dv 7) da_nil)))) (dw_or (dt_not (dt_val (de_g g__law_is_cells hr (by rfl) (da_cons (dv 8) da_nil)))) (dw_or1 (dt_not (dt_val (de_g g__law_is_cells hr (by rfl) (da_cons (dv 9) da_nil)))))))) (dss_one (ds_ret de_bl)) dss_nil) (dss_cons (ds_if (PDW.pt (dw_or (dt_cmp (o_ne (k := 5) hr) (dv 9) (dv 8)) (dw_or1 (dt_cmp (o_ne (k := 5) hr) (dv 9) (de_g g__law_less hr (by rfl) (da_cons (dv 7) (da_cons (dv 3) (da_cons (dv 4) da_nil)))))))) (dss_one (ds_ret de_bl)) dss_nil) (dss_cons (ds_set (i := 10) sc_l_cell_agrees.nd (de_methTD (k := 5) (T := [(2, r_Rule_fits), (3, r_Rule_fits), (4, r_Rule_fits)]) (dv 0) ⟨⟨_, _, by decide, mdi_Rule_fits⟩, ⟨_, _, by decide, mdi_CountRule_fits⟩, ⟨_, _, by decide, mdi_SameRule_fits⟩, trivial⟩ hr (da_cons (de_ix (k := 5) hr (dv 1) de_int) (da_cons (de_ix (k := 5) hr (dv 5) de_int) (da_cons (de_ix (k := 5) hr (dv 5) de_int) (da_cons (dv 6) da_nil)))))) (dss_cons (ds_set (i := 11) sc_l_cell_agrees.nd (de_methTD (k := 5) (T := [(2, r_Rule_fits), (3, r_Rule_fits), (4, r_Rule_fits)]) (dv 0) ⟨⟨_, _, by decide, mdi_Rule_fits⟩, ⟨_, _, by decide, mdi_CountRule_fits⟩, ⟨_, _, by decide, mdi_SameRule_fits⟩, trivial⟩ hr (da_cons (de_ix (k := 5) hr (dv 1) de_int) (da_cons (de_ix (k := 5) hr (dv 5) de_int) (da_cons (de_ix (k := 5) hr (dv 5) de_int) (da_cons (dv 6) da_nil)))))) (dss_cons (ds_if (PDW.pt (dw_and (dt_val (dv 10)) (dw_and1 (dt_not (dt_val (dv 11)))))) (dss_one (ds_ret de_bl)) dss_nil) (dss_cons (ds_if (dt_cmp (o_ne (k := 5) hr) (de_methTK (k := 5) (T := [(2, r_Rule_fits), (3, r_Rule_fits), (4, r_Rule_fits)]) (dv 0) ⟨⟨_, _, by decide, mki_Rule_fits⟩, ⟨_, _, by decide, mki_CountRule_fits⟩, ⟨_, _, by decide, mki_SameRule_fits⟩, trivial⟩ hr (da_cons (de_ix (k := 5) hr (dv 1) de_int) (da_cons (de_ix (k := 5) hr (dv 5) de_int) (da_cons (de_ix (k := 5) hr (dv 5) de_int) (da_cons (dv 6) da_nil)))) (dv 2)) (dv 11)) (dss_one (ds_ret de_bl)) dss_nil) (dss_one (ds_ret (de_cmp (o_eq (k := 5) hr) (dv 11) (de_cmp o_le (de_callB c_len (by rfl) n_len PySem.boot_len (da_cons (dv 9) da_nil)) (de_propT (k := 4) (T := [(2, r_Rule_slack), (3, r_CountRule_slack), (4, r_CountRule_slack)]) (dv 0) ⟨⟨_, _, by decide, pi_Rule_slack⟩, ⟨_, _, by decide, pi_CountRule_slack⟩, ⟨_, _, by decide, pi_SameRule_slack⟩, trivial⟩ hr))))))))))))))
abbrev s_Picture_lines : Stmt := inClass (top 17) 5
theorem sc_Picture_lines : FnScope N_Picture_lines ["self"] (defScope s_Picture_lines) := ⟨rfl, rfl, rfl, by decide +kernel, rfl, by decide +kernel, by decide +kernel⟩
theorem ok_Picture_lines (F : FunD K "lines" "Picture.lines" (defArgs s_Picture_lines) (defBody s_Picture_lines) (defScope s_Picture_lines) [] [] f fd) (f_grid_1 : FOk K "grid" [(1, 0)]) (n_list : mg "list" = none) : FnOk P w K mg base (L2N.CX P w) 1 f fd ["self"] (toSp K r_Picture_lines) :=
  fnT F sc_Picture_lines len_Picture_lines rd_Picture_lines fun cdv A outer s H E hr => (dss_one (ds_ret (de_callTy c_listO (by rfl) n_list (by decide +kernel) (da_cons (de_fld (dv 0) f_grid_1) da_nil))))
abbrev s_law_k14 : Stmt := top 47
theorem sc_law_k14 : FnScope N_law_k14 ["_law_script"] (defScope s_law_k14) := ⟨rfl, rfl, rfl, by decide +kernel, rfl, by decide +kernel, by decide +kernel⟩
theorem ok_law_k14 (F : FunD K "law" "law" (defArgs s_law_k14) (defBody s_law_k14) (defScope s_law_k14) [] [] f fd) (n_len : mg "len" = none) (n_list : mg "list" = none) (g__law_bag : Gz P w K mg base 1 "_law_bag" ["_law_script"] 63 r_l_bag) (g__law_palette : Gf P w K mg base 2 "_law_palette" ["_law_bag_here"] r_l_palette) (g__law_grid : Gf P w K mg base 3 "_law_grid" ["_law_bag_here", "_law_palette_here"] r_l_grid) (g__law_rule : Gf P w K mg base 4 "_law_rule" ["_law_bag_here", "_law_palette_here"] r_l_rule) (g__law_made : Gf P w K mg base 8 "_law_made" ["_law_rule_here"] r_l_made) (g__law_cells : Gf P w K mg base 1 "_law_cells" ["_law_rows"] r_l_cells) (g__law_subset : Gf P w K mg base 2 "_law_subset" ["_law_bag_here", "_law_cells_here", "_law_share"] r_l_subset) (g__law_take : Gf P w K mg base 1 "_law_take" ["_law_bag_here", "_law_size"] r_l_take) (g__law_sign : Gf P w K mg base 1 "_law_sign" ["_law_rows", "_law_cx", "_law_cy"] r_l_sign) (g__law_put : Gf P w K mg base 1 "_law_put" ["_law_rows", "_law_cx", "_law_cy", "_law_sign_here"] r_l_put_k07) (i_Picture : Gi P w K mg base 4 1 "Picture" ["self", "rows"] r_Picture_init) (i_Region : Gi P w K mg base 1 0 "Region" ["self", "cells"] r_Region_init) (mi_Rule_lays : Gm P w K mg base 1 2 "lays" ["self", "stone"] r_Rule_lays) (mi_CountRule_lays : Gm P w K mg base 1 3 "lays" ["self", "stone"] r_Rule_lays) (mi_SameRule_lays : Gm P w K mg base 2 4 "lays" ["self", "stone"] r_SameRule_lays) (g__law_cell_agrees : Gf P w K mg base 6 "_law_cell_agrees" ["_law_made_here", "_law_pair", "_law_region", "_law_free", "_law_rows", "_law_cell", "_law_hue"] r_l_cell_agrees) (m_Picture_lines : Gm P w K mg base 1 1 "lines" ["self"] r_Picture_lines) : FnOk P w K mg base (L2N.CX P w) 9 f fd ["_law_script"] (spScr K 63 rLaw) :=
  fnScr F sc_law_k14 rLaw (fun a ns ds S Q E h => len_law a ns ds S Q E h) (by decide) fun cdv A outer s H E a ns hr hz hn => ⟨t_law_k14 a ns, (dss_cons (ds_set (i := 1) sc_law_k14.nd (de_gScr g__law_bag hz (Nat.le_trans hn (by decide)) hr (by rfl) (da_cons (dv 0) da_nil))) (dss_cons (ds_set (i := 2) sc_law_k14.nd (de_g g__law_palette hr (by rfl) (da_cons (dv 1) da_nil))) (dss_cons (ds_set (i := 3) sc_law_k14.nd (de_g g__law_grid hr (by rfl) (da_cons (dv 1) (da_cons (dv 2) da_nil)))) (dss_cons (ds_set (i := 4) sc_law_k14.nd (de_g g__law_rule hr (by rfl) (da_cons (dv 1) (da_cons (dv 2) da_nil)))) (dss_cons (ds_set (i := 5) sc_law_k14.nd (de_g g__law_made hr (by rfl) (da_cons (dv 4) da_nil))) (dss_cons (ds_set (i := 6) sc_law_k14.nd (de_op o_add (de_g g__law_cells hr (by rfl) (da_cons (dv 3) da_nil)) (de_lst (da_cons (de_tup (da_cons (de_neg de_int) (da_cons de_int da_nil))) (da_cons (de_tup (da_cons de_int (da_cons (de_neg de_int) da_nil))) (da_cons (de_tup (da_cons (de_callB c_len (by rfl) n_len PySem.boot_len (da_cons (de_ix (k := 8) hr (dv 3) de_int) da_nil)) (da_cons de_int da_nil))) (da_cons (de_tup (da_cons de_int (da_cons (de_callB c_len (by rfl) n_len PySem.boot_len (da_cons (dv 3) da_nil)) da_nil))) (da_cons (de_tup (da_cons (de_neg de_int) (da_cons (de_neg de_int) da_nil))) da_nil)))))))) (dss_cons (ds_set (i := 7) sc_law_k14.nd (de_g g__law_subset hr (by rfl) (da_cons (dv 1) (da_cons (dv 6) (da_cons (de_op o_add de_int (de_g g__law_take hr (by rfl) (da_cons (dv 1) (da_cons de_int da_nil)))) da_nil))))) (dss_cons (ds_set (i := 8) sc_law_k14.nd (dv 3)) (dss_cons (ds_for rfl (di_items (dv 7)) (dp_nm (i := 9) sc_law_k14.nd) (dss_one (ds_if (dt_cmp (o_ne (k := 8) hr) (de_g g__law_sign hr (by rfl) (da_cons (dv 3) (da_cons (de_ix (k := 8) hr (dv 9) de_int) (da_cons (de_ix (k := 8) hr (dv 9) de_int) da_nil)))) de_str) (dss_one (ds_set (i := 8) sc_law_k14.nd (de_g g__law_put hr (by rfl) (da_cons (dv 8) (da_cons (de_ix (k := 8) hr (dv 9) de_int) (da_cons (de_ix (k := 8) hr (dv 9) de_int) (da_cons de_str da_nil))))))) dss_nil))) (dss_cons (ds_set (i := 10) sc_law_k14.nd (de_lst (da_cons (de_mk mkF_ok i_Picture hr (by rfl) (da_cons (de_callTy c_list (by rfl) n_list (by decide +kernel) (da_cons (dv 3) da_nil)) da_nil)) (da_cons (de_mk mkF_ok i_Picture hr (by rfl) (da_cons (de_callTy c_list (by rfl) n_list (by decide +kernel) (da_cons (dv 8) da_nil)) da_nil)) da_nil)))) (dss_cons (ds_set (i := 11) sc_law_k14.nd (de_mk mkF_ok i_Region hr (by rfl) (da_cons (de_callTy c_list (by rfl) n_list (by decide +kernel) (da_cons (dv 7) da_nil)) da_nil))) (dss_cons (ds_for rfl (di_items (de_g g__law_cells hr (by rfl) (da_cons (dv 3) da_nil))) (dp_nm (i := 9) sc_law_k14.nd) (dss_one (ds_for rfl (di_items (dv 2)) (dp_nm (i := 12) sc_law_k14.nd) (dss_cons (ds_set (i := 13) sc_law_k14.nd de_bl) (dss_cut (ds_if (dt_val (de_methT (k := 8) (T := [(2, r_Rule_lays), (3, r_Rule_lays), (4, r_SameRule_lays)]) (dv 5) ⟨⟨_, _, by decide, mi_Rule_lays⟩, ⟨_, _, by decide, mi_CountRule_lays⟩, ⟨_, _, by decide, mi_SameRule_lays⟩, trivial⟩ hr (da_cons (dv 12) da_nil))) (dss_one (ds_set (i := 13) sc_law_k14.nd (de_g g__law_cell_agrees hr (by rfl) (da_cons (dv 5) (da_cons (dv 10) (da_cons (dv 11) (da_cons (dv 7) (da_cons (dv 3) (da_cons (dv 9) (da_cons (dv 12) da_nil)))))))))) dss_nil) (dss_one (ds_if (dt_not (dt_val (dv 13))) (dss_one (ds_ret de_bl)) dss_nil))))))) (dss_one (ds_ret (de_and (de_cmp (o_eq (k := 8) hr) (de_fz (de_gm0 (de_ix (k := 8) hr (dv 10) de_int) m_Picture_lines hr)) (dv 3)) (de_one (de_cmp (o_eq (k := 8) hr) (de_fz (de_gm0 (de_ix (k := 8) hr (dv 10) de_int) m_Picture_lines hr)) (dv 8)))))))))))))))))), rd_law_k14 a ns hn⟩
def d_l_bag : Df := ⟨fun K => He.ga K "_law_bag", "_law_bag", "_law_bag", s_l_bag, [], []⟩
def d_l_take : Df := ⟨fun K => He.ga K "_law_take", "_law_take", "_law_take", s_l_take, [], []⟩
def d_l_palette : Df := ⟨fun K => He.ga K "_law_palette", "_law_palette", "_law_palette", s_l_palette, [], []⟩
def d_l_row : Df := ⟨fun K => He.ga K "_law_row", "_law_row", "_law_row", s_l_row, [], []⟩
def d_l_grid : Df := ⟨fun K => He.ga K "_law_grid", "_law_grid", "_law_grid", s_l_grid, [], []⟩
def d_l_offset : Df := ⟨fun K => He.ga K "_law_offset", "_law_offset", "_law_offset", s_l_offset, [], []⟩
def d_l_signs : Df := ⟨fun K => He.ga K "_law_signs", "_law_signs", "_law_signs", s_l_signs, [], []⟩
def d_l_parts : Df := ⟨fun K => He.ga K "_law_parts", "_law_parts", "_law_parts", s_l_parts, [], []⟩
def d_l_rule : Df := ⟨fun K => He.ga K "_law_rule", "_law_rule", "_law_rule", s_l_rule, [], []⟩
def d_p_is_stone : Df := ⟨fun K => He.ga K "is_stone", "is_stone", "is_stone", s_p_is_stone, [], []⟩
def d_p_is_offset : Df := ⟨fun K => He.ga K "is_offset", "is_offset", "is_offset", s_p_is_offset, [], []⟩
def d_p_are_condition_signs : Df := ⟨fun K => He.ga K "are_condition_signs", "are_condition_signs", "are_condition_signs", s_p_are_condition_signs, [], []⟩
def d_p_reading_order : Df := ⟨fun K => He.ga K "reading_order", "reading_order", "reading_order", s_p_reading_order, [], []⟩
def d_p_checked_parts : Df := ⟨fun K => He.ga K "checked_parts", "checked_parts", "checked_parts", s_p_checked_parts, [], []⟩
def d_Rule_init : Df := ⟨fun K => He.ma K (He.ga K "Rule") "__init__", "__init__", "Rule.__init__", s_Rule_init, [], []⟩
def d_CountRule_init : Df := ⟨fun K => He.ma K (He.ga K "CountRule") "__init__", "__init__", "CountRule.__init__", s_CountRule_init, [], []⟩
def d_SameRule_init : Df := ⟨fun K => He.ma K (He.ga K "SameRule") "__init__", "__init__", "SameRule.__init__", s_SameRule_init, [], []⟩
def d_l_made : Df := ⟨fun K => He.ga K "_law_made", "_law_made", "_law_made", s_l_made, [], []⟩
def d_l_cells : Df := ⟨fun K => He.ga K "_law_cells", "_law_cells", "_law_cells", s_l_cells, [], []⟩
def d_l_subset : Df := ⟨fun K => He.ga K "_law_subset", "_law_subset", "_law_subset", s_l_subset, [], []⟩
def d_l_sign : Df := ⟨fun K => He.ga K "_law_sign", "_law_sign", "_law_sign", s_l_sign, [], []⟩
def d_l_put_k07 : Df := ⟨fun K => He.ga K "_law_put", "_law_put", "_law_put", s_l_put_k07, [], []⟩
def d_p_is_sign : Df := ⟨fun K => He.ga K "is_sign", "is_sign", "is_sign", s_p_is_sign, [], []⟩
def d_p_is_row : Df := ⟨fun K => He.ga K "is_row", "is_row", "is_row", s_p_is_row, [], []⟩
def d_Picture_init : Df := ⟨fun K => He.ma K (He.ga K "Picture") "__init__", "__init__", "Picture.__init__", s_Picture_init, [], []⟩
def d_Region_init : Df := ⟨fun K => He.ma K (He.ga K "Region") "__init__", "__init__", "Region.__init__", s_Region_init, [], []⟩
def d_Rule_lays : Df := ⟨fun K => He.ma K (He.ga K "Rule") "lays", "lays", "Rule.lays", s_Rule_lays, [], []⟩
def d_SameRule_lays : Df := ⟨fun K => He.ma K (He.ga K "SameRule") "lays", "lays", "SameRule.lays", s_SameRule_lays, [], []⟩
def d_Picture_contains : Df := ⟨fun K => He.ma K (He.ga K "Picture") "contains", "contains", "Picture.contains", s_Picture_contains, [], []⟩
def d_Rule_conditions : Df := ⟨fun K => He.ma K (He.ga K "Rule") "conditions", "conditions", "Rule.conditions", s_Rule_conditions, [], []⟩
def d_SameRule_conditions : Df := ⟨fun K => He.ma K (He.ga K "SameRule") "conditions", "conditions", "SameRule.conditions", s_SameRule_conditions, [], []⟩
def d_Picture_getitem : Df := ⟨fun K => He.ma K (He.ga K "Picture") "__getitem__", "__getitem__", "Picture.__getitem__", s_Picture_getitem, [], []⟩
def d_Region_contains : Df := ⟨fun K => He.ma K (He.ga K "Region") "__contains__", "__contains__", "Region.__contains__", s_Region_contains, [], []⟩
def d_Rule_clashes : Df := ⟨fun K => He.ma K (He.ga K "Rule") "clashes", "clashes", "Rule.clashes", s_Rule_clashes, [], [("loose", .non)]⟩
def d_l_is_int : Df := ⟨fun K => He.ga K "_law_is_int", "_law_is_int", "_law_is_int", s_l_is_int, [], []⟩
def d_l_is_cell : Df := ⟨fun K => He.ga K "_law_is_cell", "_law_is_cell", "_law_is_cell", s_l_is_cell, [], []⟩
def d_l_is_cells : Df := ⟨fun K => He.ga K "_law_is_cells", "_law_is_cells", "_law_is_cells", s_l_is_cells, [], []⟩
def d_l_less : Df := ⟨fun K => He.ga K "_law_less", "_law_less", "_law_less", s_l_less, [], []⟩
def d_Rule_slack : Df := ⟨fun K => SM.prAd K (He.ga K "Rule") "slack", "slack", "Rule.slack", s_Rule_slack, [], []⟩
def d_CountRule_slack : Df := ⟨fun K => SM.prAd K (He.ga K "CountRule") "slack", "slack", "CountRule.slack", s_CountRule_slack, [], []⟩
def d_Rule_fits : Df := ⟨fun K => He.ma K (He.ga K "Rule") "fits", "fits", "Rule.fits", s_Rule_fits, [], [("loose", .non)]⟩
def d_l_cell_agrees : Df := ⟨fun K => He.ga K "_law_cell_agrees", "_law_cell_agrees", "_law_cell_agrees", s_l_cell_agrees, [], []⟩
def d_Picture_lines : Df := ⟨fun K => He.ma K (He.ga K "Picture") "lines", "lines", "Picture.lines", s_Picture_lines, [], []⟩
def d_law_k14 : Df := ⟨fun K => He.ga K "law", "law", "law", s_law_k14, [], []⟩
abbrev s_xInvalidRule : Stmt := inClass (top 7) 0
theorem sc_xInvalidRule : FnScope ["self", "part"] ["self", "part"] (defScope s_xInvalidRule) := ⟨rfl, rfl, rfl, by decide +kernel, rfl, by decide +kernel, by decide +kernel⟩
def d_xInvalidRule : Df := ⟨fun K => He.ma K (He.ga K "InvalidRule") "__init__", "__init__", "InvalidRule.__init__", s_xInvalidRule, [], []⟩
abbrev s_xInvalidPicture : Stmt := inClass (top 6) 0
theorem sc_xInvalidPicture : FnScope ["self", "line"] ["self", "line"] (defScope s_xInvalidPicture) := ⟨rfl, rfl, rfl, by decide +kernel, rfl, by decide +kernel, by decide +kernel⟩
def d_xInvalidPicture : Df := ⟨fun K => He.ma K (He.ga K "InvalidPicture") "__init__", "__init__", "InvalidPicture.__init__", s_xInvalidPicture, [], []⟩
abbrev s_xWrongStone : Stmt := inClass (top 9) 0
theorem sc_xWrongStone : FnScope ["self", "stone"] ["self", "stone"] (defScope s_xWrongStone) := ⟨rfl, rfl, rfl, by decide +kernel, rfl, by decide +kernel, by decide +kernel⟩
def d_xWrongStone : Df := ⟨fun K => He.ma K (He.ga K "WrongStone") "__init__", "__init__", "WrongStone.__init__", s_xWrongStone, [], []⟩
abbrev s_xOutOfPicture : Stmt := inClass (top 8) 0
theorem sc_xOutOfPicture : FnScope ["self", "x", "y"] ["self", "x", "y"] (defScope s_xOutOfPicture) := ⟨rfl, rfl, rfl, by decide +kernel, rfl, by decide +kernel, by decide +kernel⟩
def d_xOutOfPicture : Df := ⟨fun K => He.ma K (He.ga K "OutOfPicture") "__init__", "__init__", "OutOfPicture.__init__", s_xOutOfPicture, [], []⟩
def fn : List Df := [d_l_bag, d_l_take, d_l_palette, d_l_row, d_l_grid, d_l_offset, d_l_signs, d_l_parts, d_l_rule, d_p_is_stone, d_p_is_offset, d_p_are_condition_signs, d_p_reading_order, d_p_checked_parts, d_Rule_init, d_l_made, d_l_cells, d_l_subset, d_l_sign, d_l_put_k07, d_p_is_sign, d_p_is_row, d_Picture_init, d_Region_init, d_Rule_lays, d_SameRule_lays, d_Picture_contains, d_Rule_conditions, d_SameRule_conditions, d_Picture_getitem, d_Region_contains, d_Rule_clashes, d_l_is_int, d_l_is_cell, d_l_is_cells, d_l_less, d_Rule_slack, d_CountRule_slack, d_Rule_fits, d_l_cell_agrees, d_Picture_lines, d_law_k14, d_xInvalidRule, d_xInvalidPicture, d_xWrongStone, d_xOutOfPicture]
def fs : List Df := [d_CountRule_init, d_SameRule_init]
abbrev FILE : Str := PySem.Challenge.pw_smalti_k14_whole_holes_never_hurt.main.file
def ch : ChK := [fun K => oexB K 22,
  fun K => oinB K 22,
  fun K => (He.Fa.glo "InvalidRule").ok K,
  fun K => oexB K 21,
  fun K => oinB K 21,
  fun K => (He.Fa.glo "InvalidPicture").ok K,
  fun K => oexB K 42,
  fun K => oinB K 42,
  fun K => (He.Fa.glo "WrongStone").ok K,
  fun K => oexB K 30,
  fun K => oinB K 30,
  fun K => (He.Fa.glo "OutOfPicture").ok K,
  fun K => (He.Fa.free "int").ok K,
  fun K => (He.Fa.free "len").ok K,
  fun K => (He.Fa.glo "_law_take").ok K,
  fun K => (He.Fa.free "range").ok K,
  fun K => (He.Fa.glo "_law_row").ok K,
  fun K => (He.Fa.glo "_law_offset").ok K,
  fun K => (He.Fa.glo "_law_signs").ok K,
  fun K => (He.Fa.glo "_law_parts").ok K,
  fun K => (He.Fa.str "LETTERS" "abcdefghijklmnopqrstuvwxyz").ok K,
  fun K => (He.Fa.int "REACH" (3)).ok K,
  fun K => (He.Fa.free "enumerate").ok K,
  fun K => (He.Fa.glo "is_stone").ok K,
  fun K => (He.Fa.glo "reading_order").ok K,
  fun K => (He.Fa.int "MOST_PARTS" (8)).ok K,
  fun K => (He.Fa.free "sorted").ok K,
  fun K => (He.Fa.free "list").ok K,
  fun K => (He.Fa.glo "is_offset").ok K,
  fun K => (He.Fa.glo "are_condition_signs").ok K,
  fun K => fokB K "stone" [(2, 0), (3, 0), (4, 0)],
  fun K => fokB K "parts" [(2, 1), (3, 1), (4, 1)],
  fun K => (He.Fa.glo "checked_parts").ok K,
  fun K => fokB K "parts" [(3, 1), (4, 1)],
  fun K => fokB K "need" [(3, 2), (4, 2)],
  fun K => supB K (He.ma K (He.ga K "CountRule") "__init__") 3 (He.ma K (He.ga K "Rule") "__init__") [3, 4] FILE,
  fun K => (He.Fa.free "super").ok K,
  fun K => fokB K "stone" [(4, 0)],
  fun K => supB K (He.ma K (He.ga K "SameRule") "__init__") 4 (He.ma K (He.ga K "CountRule") "__init__") [4] FILE,
  fun K => (He.Fa.glo "Rule").ok K,
  fun K => (He.Fa.mkr "Rule").ok K,
  fun K => (He.Fa.glo "CountRule").ok K,
  fun K => (He.Fa.mkr "CountRule").ok K,
  fun K => (He.Fa.glo "SameRule").ok K,
  fun K => (He.Fa.mkr "SameRule").ok K,
  fun K => (He.Fa.int "MOST" (8)).ok K,
  fun K => (He.Fa.glo "is_sign").ok K,
  fun K => fokB K "grid" [(1, 0)],
  fun K => fokB K "width" [(1, 1)],
  fun K => fokB K "height" [(1, 2)],
  fun K => (He.Fa.glo "is_row").ok K,
  fun K => fokB K "found" [(0, 0)],
  fun K => fokB K "row" [(0, 1)],
  fun K => (He.Fa.cls "Rule").ok K,
  fun K => (He.Fa.meth "Rule" "lays").ok K,
  fun K => decide (He.ma K (He.ga K "Rule") "lays" = He.ma K (He.ga K "Rule") "lays"),
  fun K => (He.Fa.cls "CountRule").ok K,
  fun K => (He.Fa.meth "CountRule" "lays").ok K,
  fun K => decide (He.ma K (He.ga K "CountRule") "lays" = He.ma K (He.ga K "Rule") "lays"),
  fun K => (He.Fa.cls "SameRule").ok K,
  fun K => (He.Fa.meth "SameRule" "lays").ok K,
  fun K => decide (He.ma K (He.ga K "SameRule") "lays" = He.ma K (He.ga K "SameRule") "lays"),
  fun K => fokB K "parts" [(4, 1)],
  fun K => fnGetB K 1,
  fun K => (He.Fa.cls "Picture").ok K,
  fun K => (He.Fa.meth "Picture" "contains").ok K,
  fun K => (He.Fa.meth "Rule" "conditions").ok K,
  fun K => decide (He.ma K (He.ga K "Rule") "conditions" = He.ma K (He.ga K "Rule") "conditions"),
  fun K => (He.Fa.meth "CountRule" "conditions").ok K,
  fun K => decide (He.ma K (He.ga K "CountRule") "conditions" = He.ma K (He.ga K "Rule") "conditions"),
  fun K => (He.Fa.meth "SameRule" "conditions").ok K,
  fun K => decide (He.ma K (He.ga K "SameRule") "conditions" = He.ma K (He.ga K "SameRule") "conditions"),
  fun K => (He.Fa.meth "Picture" "__getitem__").ok K,
  fun K => (He.Fa.meth "Region" "__contains__").ok K,
  fun K => isiB K (.type "int") ti_int,
  fun K => (He.Fa.free "isinstance").ok K,
  fun K => isiB K (.type "bool") ti_bool,
  fun K => (He.Fa.free "bool").ok K,
  fun K => isiB K (.type "tuple") ti_tuple,
  fun K => (He.Fa.free "tuple").ok K,
  fun K => (He.Fa.glo "_law_is_int").ok K,
  fun K => isiB K (.type "list") ti_list,
  fun K => (He.Fa.glo "_law_is_cell").ok K,
  fun K => (He.Fa.glo "_law_sign").ok K,
  fun K => (He.Fa.meth "Rule" "clashes").ok K,
  fun K => decide (He.ma K (He.ga K "Rule") "clashes" = He.ma K (He.ga K "Rule") "clashes"),
  fun K => (He.Fa.meth "CountRule" "clashes").ok K,
  fun K => decide (He.ma K (He.ga K "CountRule") "clashes" = He.ma K (He.ga K "Rule") "clashes"),
  fun K => (He.Fa.meth "SameRule" "clashes").ok K,
  fun K => decide (He.ma K (He.ga K "SameRule") "clashes" = He.ma K (He.ga K "Rule") "clashes"),
  fun K => propB K (He.ga K "Rule") "slack",
  fun K => decide (prAd K (He.ga K "Rule") "slack" = prAd K (He.ga K "Rule") "slack"),
  fun K => propB K (He.ga K "CountRule") "slack",
  fun K => decide (prAd K (He.ga K "CountRule") "slack" = prAd K (He.ga K "CountRule") "slack"),
  fun K => propB K (He.ga K "SameRule") "slack",
  fun K => decide (prAd K (He.ga K "SameRule") "slack" = prAd K (He.ga K "CountRule") "slack"),
  fun K => (He.Fa.glo "_law_is_cells").ok K,
  fun K => (He.Fa.glo "_law_less").ok K,
  fun K => (He.Fa.meth "Rule" "fits").ok K,
  fun K => decide (He.ma K (He.ga K "Rule") "fits" = He.ma K (He.ga K "Rule") "fits"),
  fun K => (He.Fa.meth "CountRule" "fits").ok K,
  fun K => decide (He.ma K (He.ga K "CountRule") "fits" = He.ma K (He.ga K "Rule") "fits"),
  fun K => (He.Fa.meth "SameRule" "fits").ok K,
  fun K => decide (He.ma K (He.ga K "SameRule") "fits" = He.ma K (He.ga K "Rule") "fits"),
  fun K => (He.Fa.glo "_law_bag").ok K,
  fun K => (He.Fa.glo "_law_palette").ok K,
  fun K => (He.Fa.glo "_law_grid").ok K,
  fun K => (He.Fa.glo "_law_rule").ok K,
  fun K => (He.Fa.glo "_law_made").ok K,
  fun K => (He.Fa.glo "_law_cells").ok K,
  fun K => (He.Fa.glo "_law_subset").ok K,
  fun K => (He.Fa.glo "_law_put").ok K,
  fun K => (He.Fa.glo "Picture").ok K,
  fun K => (He.Fa.mkr "Picture").ok K,
  fun K => (He.Fa.glo "Region").ok K,
  fun K => (He.Fa.mkr "Region").ok K,
  fun K => (He.Fa.glo "_law_cell_agrees").ok K,
  fun K => (He.Fa.meth "Picture" "lines").ok K,
  fun K => (He.Fa.glo "law").ok K]
def nm0 : List Str := ["_wall", "reading_order", "Region", "SmaltiError", "InvalidPicture", "InvalidRule", "OutOfPicture", "WrongStone", "UnequalSize", "LETTERS", "MOST", "is_stone", "is_sign", "is_row", "Picture", "REACH", "MOST_PARTS", "are_condition_signs", "is_offset", "checked_parts", "Rule", "CountRule", "SameRule", "_law_bag", "_law_take", "_law_is_int", "_law_is_cell", "_law_is_cells", "_law_palette", "_law_row"]
def nm1 : List Str := ["_law_grid", "_law_offset", "_law_signs", "_law_parts", "_law_rule", "_law_sign", "_law_cells", "_law_put", "_law_subset", "_law_made", "_law_less", "_law_cell_agrees"]
abbrev nms : List Str := nm0 ++ nm1
def as0 : List Addr := [2, 3, 6, 4, 21, 28, 122, 136, 156, 175, 194, 213, 225, 234, 241, 248, 354, 365, 372, 377, 444, 480, 516, 523, 530, 537, 544, 551, 558, 565, 570, 577, 584, 589, 596, 603, 610, 617, 624, 629, 634, 641, 648, 0, 20, 27, 121, 135, 155, 174]
def as1 : List Addr := [193, 212, 224, 233, 240, 247, 353, 364, 371, 376, 443, 479, 515, 522, 529, 536, 543, 550, 557, 564, 569, 576, 583, 588, 595, 602, 609, 616, 623, 628, 633, 640, 647, 15, 16, 17, 18, 19, 22, 23, 24, 25, 26, 40, 49, 57, 64, 71, 76, 81]
def as2 : List Addr := [86, 93, 100, 107, 114, 119, 120, 123, 124, 134, 137, 153, 154, 172, 173, 191, 192, 210, 211, 223, 228, 229, 230, 231, 232, 235, 236, 237, 238, 239, 242, 243, 244, 245, 246, 262, 271, 281, 289, 296, 301, 306, 313, 320, 327, 332, 339, 344, 351, 352]
def as3 : List Addr := [355, 356, 359, 360, 361, 362, 363, 366, 367, 368, 369, 370, 373, 374, 375, 391, 399, 406, 413, 421, 429, 434, 441, 442, 445, 446, 464, 472, 477, 478, 496, 503, 508, 513, 514, 519, 520, 521, 524, 525, 526, 527, 528, 531, 532, 533, 534, 535, 538, 539]
def as4 : List Addr := [540, 541, 542, 545, 546, 547, 548, 549, 552, 553, 554, 555, 556, 559, 560, 561, 562, 563, 566, 567, 568, 571, 572, 573, 574, 575, 578, 579, 580, 581, 582, 585, 586, 587, 590, 591, 592, 593, 594, 597, 598, 599, 600, 601, 604, 605, 606, 607, 608, 611]
def as5 : List Addr := [612, 613, 614, 615, 618, 619, 620, 621, 622, 625, 626, 627, 630, 631, 632, 635, 636, 637, 638, 639, 642, 643, 644, 645, 646, 39, 47, 48, 56, 63, 70, 75, 80, 85, 92, 99, 106, 113, 118, 152, 171, 190, 209, 261, 269, 270, 279, 280, 288, 295]
def as6 : List Addr := [300, 305, 312, 319, 326, 331, 338, 343, 350, 390, 398, 405, 412, 420, 414, 428, 422, 433, 440, 463, 452, 471, 476, 495, 486, 502, 507, 512, 36, 37, 38, 46, 50, 51, 52, 53, 54, 55, 58, 59, 60, 61, 62, 65, 66, 67, 68, 69, 72, 73]
def as7 : List Addr := [74, 77, 78, 79, 82, 83, 84, 87, 88, 89, 90, 91, 94, 95, 96, 97, 98, 101, 102, 103, 104, 105, 108, 109, 110, 111, 112, 115, 116, 117, 147, 148, 149, 150, 151, 166, 167, 168, 169, 170, 185, 186, 187, 188, 189, 204, 205, 206, 207, 208]
def as8 : List Addr := [256, 257, 258, 259, 260, 268, 272, 278, 282, 283, 284, 285, 286, 287, 290, 291, 292, 293, 294, 297, 298, 299, 302, 303, 304, 307, 308, 309, 310, 311, 314, 315, 316, 317, 318, 321, 322, 323, 324, 325, 328, 329, 330, 333, 334, 335, 336, 337, 340, 341]
def as9 : List Addr := [342, 345, 346, 347, 348, 349, 385, 386, 387, 388, 389, 397, 400, 401, 402, 403, 404, 407, 408, 409, 410, 411, 415, 416, 417, 418, 419, 423, 424, 425, 426, 427, 430, 431, 432, 435, 436, 437, 438, 439, 458, 459, 460, 461, 462, 470, 473, 474, 475, 492]
def as10 : List Addr := [493, 494, 497, 498, 499, 500, 501, 504, 505, 506, 509, 510, 511, 41, 42, 43, 44, 45, 263, 264, 265, 266, 267, 273, 274, 275, 276, 277, 392, 393, 394, 395, 396, 465, 466, 467, 468, 469]
abbrev as : List Addr := as0 ++ (as1 ++ (as2 ++ (as3 ++ (as4 ++ (as5 ++ (as6 ++ (as7 ++ (as8 ++ (as9 ++ (as10))))))))))
abbrev R : PySem.W.OpenRow := PySem.W.OpenLaw.row PySem.Challenge.rw_smalti_k14_whole_holes_never_hurt
abbrev hk : PySem.W.Hook := hookL as ch fn fs
def ob (s : PySem.W.SharedT) : He.AlD := obL as ch fn fs (HandSHeadRun.getT s)
theorem ob_eq (s : PySem.W.SharedT) : ob s = hk.obs s.abs := obL_eq (HandSHeadRun.getT_eq s)
theorem run (w : World) : HandSHeadRun.RunEq R (PySem.W.view R.prog [47]) hk ob 30000 nms w := by
  intro os
  kernel_rfl
theorem facts {P : Program} {w : World} {K : PySem.W.Frag} {h : Heap} {mg : Str → Option Value} {f : Addr} (X : K.In h) (G : h.Ns mainGlobals mg) (hfa : mg ("law" : Str) = some (.ref f)) (c : Says2 ch fn fs K) (hP : P.main.file = FILE ∧ (P.main.scope.names.lookup ("super" : Str)).isSome = false) :
    ∃ fd : FuncData, (∀ (s : Shared) (v : Value), BindsTo s fd ⟨[v], []⟩ [("_law_script", v)]) ∧ ∀ base : Heap, K.In base → base.Ns mainGlobals mg → FnOk P w K mg base (L2N.CX P w) 9 f fd ["_law_script"] (spScr K 63 rLaw) := by
  obtain ⟨fd_l_bag, F_l_bag⟩ := c.df 0 (d := d_l_bag) rfl
  obtain ⟨fd_l_take, F_l_take⟩ := c.df 1 (d := d_l_take) rfl
  obtain ⟨fd_l_palette, F_l_palette⟩ := c.df 2 (d := d_l_palette) rfl
  obtain ⟨fd_l_row, F_l_row⟩ := c.df 3 (d := d_l_row) rfl
  obtain ⟨fd_l_grid, F_l_grid⟩ := c.df 4 (d := d_l_grid) rfl
  obtain ⟨fd_l_offset, F_l_offset⟩ := c.df 5 (d := d_l_offset) rfl
  obtain ⟨fd_l_signs, F_l_signs⟩ := c.df 6 (d := d_l_signs) rfl
  obtain ⟨fd_l_parts, F_l_parts⟩ := c.df 7 (d := d_l_parts) rfl
  obtain ⟨fd_l_rule, F_l_rule⟩ := c.df 8 (d := d_l_rule) rfl
  obtain ⟨fd_p_is_stone, F_p_is_stone⟩ := c.df 9 (d := d_p_is_stone) rfl
  obtain ⟨fd_p_is_offset, F_p_is_offset⟩ := c.df 10 (d := d_p_is_offset) rfl
  obtain ⟨fd_p_are_condition_signs, F_p_are_condition_signs⟩ := c.df 11 (d := d_p_are_condition_signs) rfl
  obtain ⟨fd_p_reading_order, F_p_reading_order⟩ := c.df 12 (d := d_p_reading_order) rfl
  obtain ⟨fd_p_checked_parts, F_p_checked_parts⟩ := c.df 13 (d := d_p_checked_parts) rfl
  obtain ⟨fd_Rule_init, F_Rule_init⟩ := c.df 14 (d := d_Rule_init) rfl
  obtain ⟨fd_CountRule_init, F_CountRule_init⟩ := c.dfS 0 (d := d_CountRule_init) rfl
  obtain ⟨fd_SameRule_init, F_SameRule_init⟩ := c.dfS 1 (d := d_SameRule_init) rfl
  obtain ⟨fd_l_made, F_l_made⟩ := c.df 15 (d := d_l_made) rfl
  obtain ⟨fd_l_cells, F_l_cells⟩ := c.df 16 (d := d_l_cells) rfl
  obtain ⟨fd_l_subset, F_l_subset⟩ := c.df 17 (d := d_l_subset) rfl
  obtain ⟨fd_l_sign, F_l_sign⟩ := c.df 18 (d := d_l_sign) rfl
  obtain ⟨fd_l_put_k07, F_l_put_k07⟩ := c.df 19 (d := d_l_put_k07) rfl
  obtain ⟨fd_p_is_sign, F_p_is_sign⟩ := c.df 20 (d := d_p_is_sign) rfl
  obtain ⟨fd_p_is_row, F_p_is_row⟩ := c.df 21 (d := d_p_is_row) rfl
  obtain ⟨fd_Picture_init, F_Picture_init⟩ := c.df 22 (d := d_Picture_init) rfl
  obtain ⟨fd_Region_init, F_Region_init⟩ := c.df 23 (d := d_Region_init) rfl
  obtain ⟨fd_Rule_lays, F_Rule_lays⟩ := c.df 24 (d := d_Rule_lays) rfl
  obtain ⟨fd_SameRule_lays, F_SameRule_lays⟩ := c.df 25 (d := d_SameRule_lays) rfl
  obtain ⟨fd_Picture_contains, F_Picture_contains⟩ := c.df 26 (d := d_Picture_contains) rfl
  obtain ⟨fd_Rule_conditions, F_Rule_conditions⟩ := c.df 27 (d := d_Rule_conditions) rfl
  obtain ⟨fd_SameRule_conditions, F_SameRule_conditions⟩ := c.df 28 (d := d_SameRule_conditions) rfl
  obtain ⟨fd_Picture_getitem, F_Picture_getitem⟩ := c.df 29 (d := d_Picture_getitem) rfl
  obtain ⟨fd_Region_contains, F_Region_contains⟩ := c.df 30 (d := d_Region_contains) rfl
  obtain ⟨fd_Rule_clashes, F_Rule_clashes⟩ := c.df 31 (d := d_Rule_clashes) rfl
  obtain ⟨fd_l_is_int, F_l_is_int⟩ := c.df 32 (d := d_l_is_int) rfl
  obtain ⟨fd_l_is_cell, F_l_is_cell⟩ := c.df 33 (d := d_l_is_cell) rfl
  obtain ⟨fd_l_is_cells, F_l_is_cells⟩ := c.df 34 (d := d_l_is_cells) rfl
  obtain ⟨fd_l_less, F_l_less⟩ := c.df 35 (d := d_l_less) rfl
  obtain ⟨fd_Rule_slack, F_Rule_slack⟩ := c.df 36 (d := d_Rule_slack) rfl
  obtain ⟨fd_CountRule_slack, F_CountRule_slack⟩ := c.df 37 (d := d_CountRule_slack) rfl
  obtain ⟨fd_Rule_fits, F_Rule_fits⟩ := c.df 38 (d := d_Rule_fits) rfl
  obtain ⟨fd_l_cell_agrees, F_l_cell_agrees⟩ := c.df 39 (d := d_l_cell_agrees) rfl
  obtain ⟨fd_Picture_lines, F_Picture_lines⟩ := c.df 40 (d := d_Picture_lines) rfl
  obtain ⟨fd_law_k14, F_law_k14⟩ := c.df 41 (d := d_law_k14) rfl
  obtain ⟨fd_xInvalidRule, F_xInvalidRule⟩ := c.df 42 (d := d_xInvalidRule) rfl
  obtain ⟨fd_xInvalidPicture, F_xInvalidPicture⟩ := c.df 43 (d := d_xInvalidPicture) rfl
  obtain ⟨fd_xWrongStone, F_xWrongStone⟩ := c.df 44 (d := d_xWrongStone) rfl
  obtain ⟨fd_xOutOfPicture, F_xOutOfPicture⟩ := c.df 45 (d := d_xOutOfPicture) rfl
  have e := hfa.symm.trans (He.glo_ok X G (c.fact 118 (p := fun K => (He.Fa.glo "law").ok K) rfl))
  cases e
  have b := FunD.bindsA (ps := ["_law_script"]) F_law_k14 fun _ _ _ _ _ _ us hl => match us, hl with | [_], _ => rfl
  refine ⟨fd_law_k14, fun s v => b s [v] rfl, fun base _ _ => ?_⟩
  have x_InvalidRule : Gx P w K mg base 22 "InvalidRule" := gx1 F_xInvalidRule sc_xInvalidRule rfl (FunD.bindsN (ps := ["self", "part"]) F_xInvalidRule fun _ _ _ _ _ _ us hl => match us, hl with | [_, _], _ => rfl) (c.fact 0 (p := fun K => oexB K 22) rfl) (c.fact 1 (p := fun K => oinB K 22) rfl) (He.glo_ok X G (c.fact 2 (p := fun K => (He.Fa.glo "InvalidRule").ok K) rfl))
  have x_InvalidPicture : Gx P w K mg base 21 "InvalidPicture" := gx1 F_xInvalidPicture sc_xInvalidPicture rfl (FunD.bindsN (ps := ["self", "line"]) F_xInvalidPicture fun _ _ _ _ _ _ us hl => match us, hl with | [_, _], _ => rfl) (c.fact 3 (p := fun K => oexB K 21) rfl) (c.fact 4 (p := fun K => oinB K 21) rfl) (He.glo_ok X G (c.fact 5 (p := fun K => (He.Fa.glo "InvalidPicture").ok K) rfl))
  have x_WrongStone : Gx P w K mg base 42 "WrongStone" := gx1 F_xWrongStone sc_xWrongStone rfl (FunD.bindsN (ps := ["self", "stone"]) F_xWrongStone fun _ _ _ _ _ _ us hl => match us, hl with | [_, _], _ => rfl) (c.fact 6 (p := fun K => oexB K 42) rfl) (c.fact 7 (p := fun K => oinB K 42) rfl) (He.glo_ok X G (c.fact 8 (p := fun K => (He.Fa.glo "WrongStone").ok K) rfl))
  have x_OutOfPicture : Gx P w K mg base 30 "OutOfPicture" := gx2 F_xOutOfPicture sc_xOutOfPicture rfl (FunD.bindsN (ps := ["self", "x", "y"]) F_xOutOfPicture fun _ _ _ _ _ _ us hl => match us, hl with | [_, _, _], _ => rfl) (c.fact 9 (p := fun K => oexB K 30) rfl) (c.fact 10 (p := fun K => oinB K 30) rfl) (He.glo_ok X G (c.fact 11 (p := fun K => (He.Fa.glo "OutOfPicture").ok K) rfl))
  have n_int : mg "int" = none := He.free_ok X G (c.fact 12 (p := fun K => (He.Fa.free "int").ok K) rfl)
  have o_l_bag := ok_l_bag (P := P) (w := w) (mg := mg) (base := base) F_l_bag n_int
  have n_len : mg "len" = none := He.free_ok X G (c.fact 13 (p := fun K => (He.Fa.free "len").ok K) rfl)
  have o_l_take := ok_l_take (P := P) (w := w) (mg := mg) (base := base) F_l_take n_len n_int
  have g__law_take : Gf P w K mg base 1 "_law_take" ["_law_bag_here", "_law_size"] r_l_take := ⟨_, _, o_l_take, He.glo_ok X G (c.fact 14 (p := fun K => (He.Fa.glo "_law_take").ok K) rfl), F_l_take.kp, (FunD.bindsN (ps := ["_law_bag_here", "_law_size"]) F_l_take fun _ _ _ _ _ _ us hl => match us, hl with | [_, _], _ => rfl)⟩
  have o_l_palette := ok_l_palette (P := P) (w := w) (mg := mg) (base := base) F_l_palette n_int g__law_take
  have n_range : mg "range" = none := He.free_ok X G (c.fact 15 (p := fun K => (He.Fa.free "range").ok K) rfl)
  have o_l_row := ok_l_row (P := P) (w := w) (mg := mg) (base := base) F_l_row n_range g__law_take
  have g__law_row : Gf P w K mg base 2 "_law_row" ["_law_bag_here", "_law_palette_here", "_law_wide"] r_l_row := ⟨_, _, o_l_row, He.glo_ok X G (c.fact 16 (p := fun K => (He.Fa.glo "_law_row").ok K) rfl), F_l_row.kp, (FunD.bindsN (ps := ["_law_bag_here", "_law_palette_here", "_law_wide"]) F_l_row fun _ _ _ _ _ _ us hl => match us, hl with | [_, _, _], _ => rfl)⟩
  have o_l_grid := ok_l_grid (P := P) (w := w) (mg := mg) (base := base) F_l_grid n_range g__law_take g__law_row
  have o_l_offset := ok_l_offset (P := P) (w := w) (mg := mg) (base := base) F_l_offset n_int g__law_take
  have o_l_signs := ok_l_signs (P := P) (w := w) (mg := mg) (base := base) F_l_signs g__law_take
  have g__law_offset : Gf P w K mg base 2 "_law_offset" ["_law_bag_here"] r_l_offset := ⟨_, _, o_l_offset, He.glo_ok X G (c.fact 17 (p := fun K => (He.Fa.glo "_law_offset").ok K) rfl), F_l_offset.kp, (FunD.bindsN (ps := ["_law_bag_here"]) F_l_offset fun _ _ _ _ _ _ us hl => match us, hl with | [_], _ => rfl)⟩
  have g__law_signs : Gf P w K mg base 2 "_law_signs" ["_law_bag_here", "_law_palette_here"] r_l_signs := ⟨_, _, o_l_signs, He.glo_ok X G (c.fact 18 (p := fun K => (He.Fa.glo "_law_signs").ok K) rfl), F_l_signs.kp, (FunD.bindsN (ps := ["_law_bag_here", "_law_palette_here"]) F_l_signs fun _ _ _ _ _ _ us hl => match us, hl with | [_, _], _ => rfl)⟩
  have o_l_parts := ok_l_parts (P := P) (w := w) (mg := mg) (base := base) F_l_parts n_range g__law_take g__law_offset g__law_signs
  have g__law_parts : Gf P w K mg base 3 "_law_parts" ["_law_bag_here", "_law_palette_here"] r_l_parts := ⟨_, _, o_l_parts, He.glo_ok X G (c.fact 19 (p := fun K => (He.Fa.glo "_law_parts").ok K) rfl), F_l_parts.kp, (FunD.bindsN (ps := ["_law_bag_here", "_law_palette_here"]) F_l_parts fun _ _ _ _ _ _ us hl => match us, hl with | [_, _], _ => rfl)⟩
  have o_l_rule := ok_l_rule (P := P) (w := w) (mg := mg) (base := base) F_l_rule n_len g__law_take g__law_parts
  have c_LETTERS : ∃ u, mg "LETTERS" = some u ∧ RelV (.str "abcdefghijklmnopqrstuvwxyz") u := gstr_of (He.str_ok X G (c.fact 20 (p := fun K => (He.Fa.str "LETTERS" "abcdefghijklmnopqrstuvwxyz").ok K) rfl))
  have o_p_is_stone := ok_p_is_stone (P := P) (w := w) (mg := mg) (base := base) F_p_is_stone n_len c_LETTERS
  have c_REACH : ∃ u, mg "REACH" = some u ∧ RelV (.int (3)) u := gint_of (He.int_ok X G (c.fact 21 (p := fun K => (He.Fa.int "REACH" (3)).ok K) rfl))
  have o_p_is_offset := ok_p_is_offset (P := P) (w := w) (mg := mg) (base := base) F_p_is_offset c_REACH
  have n_enumerate : mg "enumerate" = none := He.free_ok X G (c.fact 22 (p := fun K => (He.Fa.free "enumerate").ok K) rfl)
  have g_is_stone : Gf P w K mg base 1 "is_stone" ["sign"] r_p_is_stone := ⟨_, _, o_p_is_stone, He.glo_ok X G (c.fact 23 (p := fun K => (He.Fa.glo "is_stone").ok K) rfl), F_p_is_stone.kp, (FunD.bindsN (ps := ["sign"]) F_p_is_stone fun _ _ _ _ _ _ us hl => match us, hl with | [_], _ => rfl)⟩
  have o_p_are_condition_signs := ok_p_are_condition_signs (P := P) (w := w) (mg := mg) (base := base) F_p_are_condition_signs n_enumerate n_len g_is_stone
  have ro_f : ∃ f, RoF K f ∧ mg "reading_order" = some (.ref f) := ⟨_, ro_of F_p_reading_order (by decide), He.glo_ok X G (c.fact 24 (p := fun K => (He.Fa.glo "reading_order").ok K) rfl)⟩
  have c_MOST_PARTS : ∃ u, mg "MOST_PARTS" = some u ∧ RelV (.int (8)) u := gint_of (He.int_ok X G (c.fact 25 (p := fun K => (He.Fa.int "MOST_PARTS" (8)).ok K) rfl))
  have n_sorted : mg "sorted" = none := He.free_ok X G (c.fact 26 (p := fun K => (He.Fa.free "sorted").ok K) rfl)
  have n_list : mg "list" = none := He.free_ok X G (c.fact 27 (p := fun K => (He.Fa.free "list").ok K) rfl)
  have g_is_offset : Gf P w K mg base 1 "is_offset" ["dx", "dy"] r_p_is_offset := ⟨_, _, o_p_is_offset, He.glo_ok X G (c.fact 28 (p := fun K => (He.Fa.glo "is_offset").ok K) rfl), F_p_is_offset.kp, (FunD.bindsN (ps := ["dx", "dy"]) F_p_is_offset fun _ _ _ _ _ _ us hl => match us, hl with | [_, _], _ => rfl)⟩
  have g_are_condition_signs : Gf P w K mg base 2 "are_condition_signs" ["signs"] r_p_are_condition_signs := ⟨_, _, o_p_are_condition_signs, He.glo_ok X G (c.fact 29 (p := fun K => (He.Fa.glo "are_condition_signs").ok K) rfl), F_p_are_condition_signs.kp, (FunD.bindsN (ps := ["signs"]) F_p_are_condition_signs fun _ _ _ _ _ _ us hl => match us, hl with | [_], _ => rfl)⟩
  have o_p_checked_parts := ok_p_checked_parts (P := P) (w := w) (mg := mg) (base := base) F_p_checked_parts n_enumerate c_MOST_PARTS x_InvalidRule n_sorted n_list ro_f g_is_offset g_are_condition_signs
  have f_stone_2_3_4 : FOk K "stone" [(2, 0), (3, 0), (4, 0)] := fok_of (c.fact 30 (p := fun K => fokB K "stone" [(2, 0), (3, 0), (4, 0)]) rfl)
  have f_parts_2_3_4 : FOk K "parts" [(2, 1), (3, 1), (4, 1)] := fok_of (c.fact 31 (p := fun K => fokB K "parts" [(2, 1), (3, 1), (4, 1)]) rfl)
  have g_checked_parts : Gf P w K mg base 3 "checked_parts" ["parts"] r_p_checked_parts := ⟨_, _, o_p_checked_parts, He.glo_ok X G (c.fact 32 (p := fun K => (He.Fa.glo "checked_parts").ok K) rfl), F_p_checked_parts.kp, (FunD.bindsN (ps := ["parts"]) F_p_checked_parts fun _ _ _ _ _ _ us hl => match us, hl with | [_], _ => rfl)⟩
  have o_Rule_init := ok_Rule_init (P := P) (w := w) (mg := mg) (base := base) F_Rule_init x_InvalidRule f_stone_2_3_4 f_parts_2_3_4 g_is_stone g_checked_parts
  have f_parts_3_4 : FOk K "parts" [(3, 1), (4, 1)] := fok_of (c.fact 33 (p := fun K => fokB K "parts" [(3, 1), (4, 1)]) rfl)
  have f_need_3_4 : FOk K "need" [(3, 2), (4, 2)] := fok_of (c.fact 34 (p := fun K => fokB K "need" [(3, 2), (4, 2)]) rfl)
  have o_CountRule_init := ok_CountRule_init (P := P) (w := w) (mg := mg) (base := base) F_CountRule_init (sup_of (c.fact 35 (p := fun K => supB K (He.ma K (He.ga K "CountRule") "__init__") 3 (He.ma K (He.ga K "Rule") "__init__") [3, 4] FILE) rfl) (He.free_ok X G (c.fact 36 (p := fun K => (He.Fa.free "super").ok K) rfl)) hP.1 hP.2) o_Rule_init (FunD.bindsN (ps := ["self", "stone", "conditions"]) F_Rule_init fun _ _ _ _ _ _ us hl => match us, hl with | [_, _, _], _ => rfl) f_parts_3_4 n_len x_InvalidRule f_need_3_4
  have f_stone_4 : FOk K "stone" [(4, 0)] := fok_of (c.fact 37 (p := fun K => fokB K "stone" [(4, 0)]) rfl)
  have o_SameRule_init := ok_SameRule_init (P := P) (w := w) (mg := mg) (base := base) F_SameRule_init (sup_of (c.fact 38 (p := fun K => supB K (He.ma K (He.ga K "SameRule") "__init__") 4 (He.ma K (He.ga K "CountRule") "__init__") [4] FILE) rfl) (He.free_ok X G (c.fact 36 (p := fun K => (He.Fa.free "super").ok K) rfl)) hP.1 hP.2) o_CountRule_init (FunS.bindsN (ps := ["self", "stone", "conditions", "need"]) F_CountRule_init fun _ _ _ _ _ _ _ us hl => match us, hl with | [_, _, _, _], _ => rfl) f_stone_4
  have i_Rule : Gi P w K mg base 4 2 "Rule" ["self", "stone", "conditions"] r_Rule_init := ⟨_, _, o_Rule_init, He.glo_ok X G (c.fact 39 (p := fun K => (He.Fa.glo "Rule").ok K) rfl), He.mkr_ok (c.fact 40 (p := fun K => (He.Fa.mkr "Rule").ok K) rfl), (FunD.bindsN (ps := ["self", "stone", "conditions"]) F_Rule_init fun _ _ _ _ _ _ us hl => match us, hl with | [_, _, _], _ => rfl)⟩
  have i_CountRule : Gi P w K mg base 5 3 "CountRule" ["self", "stone", "conditions", "need"] r_CountRule_init := ⟨_, _, o_CountRule_init, He.glo_ok X G (c.fact 41 (p := fun K => (He.Fa.glo "CountRule").ok K) rfl), He.mkr_ok (c.fact 42 (p := fun K => (He.Fa.mkr "CountRule").ok K) rfl), (FunS.bindsN (ps := ["self", "stone", "conditions", "need"]) F_CountRule_init fun _ _ _ _ _ _ _ us hl => match us, hl with | [_, _, _, _], _ => rfl)⟩
  have i_SameRule : Gi P w K mg base 6 4 "SameRule" ["self", "places", "need"] r_SameRule_init := ⟨_, _, o_SameRule_init, He.glo_ok X G (c.fact 43 (p := fun K => (He.Fa.glo "SameRule").ok K) rfl), He.mkr_ok (c.fact 44 (p := fun K => (He.Fa.mkr "SameRule").ok K) rfl), (FunS.bindsN (ps := ["self", "places", "need"]) F_SameRule_init fun _ _ _ _ _ _ _ us hl => match us, hl with | [_, _, _], _ => rfl)⟩
  have o_l_made := ok_l_made (P := P) (w := w) (mg := mg) (base := base) F_l_made n_list i_Rule i_CountRule i_SameRule
  have o_l_cells := ok_l_cells (P := P) (w := w) (mg := mg) (base := base) F_l_cells n_len n_range
  have o_l_subset := ok_l_subset (P := P) (w := w) (mg := mg) (base := base) F_l_subset g__law_take
  have o_l_sign := ok_l_sign (P := P) (w := w) (mg := mg) (base := base) F_l_sign n_len
  have o_l_put_k07 := ok_l_put_k07 (P := P) (w := w) (mg := mg) (base := base) F_l_put_k07
  have o_p_is_sign := ok_p_is_sign (P := P) (w := w) (mg := mg) (base := base) F_p_is_sign g_is_stone
  have c_MOST : ∃ u, mg "MOST" = some u ∧ RelV (.int (8)) u := gint_of (He.int_ok X G (c.fact 45 (p := fun K => (He.Fa.int "MOST" (8)).ok K) rfl))
  have g_is_sign : Gf P w K mg base 2 "is_sign" ["sign"] r_p_is_sign := ⟨_, _, o_p_is_sign, He.glo_ok X G (c.fact 46 (p := fun K => (He.Fa.glo "is_sign").ok K) rfl), F_p_is_sign.kp, (FunD.bindsN (ps := ["sign"]) F_p_is_sign fun _ _ _ _ _ _ us hl => match us, hl with | [_], _ => rfl)⟩
  have o_p_is_row := ok_p_is_row (P := P) (w := w) (mg := mg) (base := base) F_p_is_row n_len c_MOST g_is_sign
  have f_grid_1 : FOk K "grid" [(1, 0)] := fok_of (c.fact 47 (p := fun K => fokB K "grid" [(1, 0)]) rfl)
  have f_width_1 : FOk K "width" [(1, 1)] := fok_of (c.fact 48 (p := fun K => fokB K "width" [(1, 1)]) rfl)
  have f_height_1 : FOk K "height" [(1, 2)] := fok_of (c.fact 49 (p := fun K => fokB K "height" [(1, 2)]) rfl)
  have g_is_row : Gf P w K mg base 3 "is_row" ["row", "width"] r_p_is_row := ⟨_, _, o_p_is_row, He.glo_ok X G (c.fact 50 (p := fun K => (He.Fa.glo "is_row").ok K) rfl), F_p_is_row.kp, (FunD.bindsN (ps := ["row", "width"]) F_p_is_row fun _ _ _ _ _ _ us hl => match us, hl with | [_, _], _ => rfl)⟩
  have o_Picture_init := ok_Picture_init (P := P) (w := w) (mg := mg) (base := base) F_Picture_init n_len x_InvalidPicture n_enumerate c_MOST n_list f_grid_1 f_width_1 f_height_1 g_is_row
  have f_found_0 : FOk K "found" [(0, 0)] := fok_of (c.fact 51 (p := fun K => fokB K "found" [(0, 0)]) rfl)
  have f_row_0 : FOk K "row" [(0, 1)] := fok_of (c.fact 52 (p := fun K => fokB K "row" [(0, 1)]) rfl)
  have o_Region_init := ok_Region_init (P := P) (w := w) (mg := mg) (base := base) F_Region_init f_found_0 n_list ro_f n_sorted f_row_0
  have o_Rule_lays := ok_Rule_lays (P := P) (w := w) (mg := mg) (base := base) F_Rule_lays f_stone_2_3_4
  have o_SameRule_lays := ok_SameRule_lays (P := P) (w := w) (mg := mg) (base := base) F_SameRule_lays g_is_stone
  have o_Picture_contains := ok_Picture_contains (P := P) (w := w) (mg := mg) (base := base) F_Picture_contains f_width_1 f_height_1
  have mi_Rule_lays : Gm P w K mg base 1 2 "lays" ["self", "stone"] r_Rule_lays := ⟨_, _, o_Rule_lays, ⟨He.cls_ok (c.fact 53 (p := fun K => (He.Fa.cls "Rule").ok K) rfl), (meth_eq (He.meth_ok (c.fact 54 (p := fun K => (He.Fa.meth "Rule" "lays").ok K) rfl)) (of_decide_eq_true (c.fact 55 (p := fun K => decide (He.ma K (He.ga K "Rule") "lays" = He.ma K (He.ga K "Rule") "lays")) rfl))), by decide⟩, (FunD.bindsN (ps := ["self", "stone"]) F_Rule_lays fun _ _ _ _ _ _ us hl => match us, hl with | [_, _], _ => rfl)⟩
  have mi_CountRule_lays : Gm P w K mg base 1 3 "lays" ["self", "stone"] r_Rule_lays := ⟨_, _, o_Rule_lays, ⟨He.cls_ok (c.fact 56 (p := fun K => (He.Fa.cls "CountRule").ok K) rfl), (meth_eq (He.meth_ok (c.fact 57 (p := fun K => (He.Fa.meth "CountRule" "lays").ok K) rfl)) (of_decide_eq_true (c.fact 58 (p := fun K => decide (He.ma K (He.ga K "CountRule") "lays" = He.ma K (He.ga K "Rule") "lays")) rfl))), by decide⟩, (FunD.bindsN (ps := ["self", "stone"]) F_Rule_lays fun _ _ _ _ _ _ us hl => match us, hl with | [_, _], _ => rfl)⟩
  have mi_SameRule_lays : Gm P w K mg base 2 4 "lays" ["self", "stone"] r_SameRule_lays := ⟨_, _, o_SameRule_lays, ⟨He.cls_ok (c.fact 59 (p := fun K => (He.Fa.cls "SameRule").ok K) rfl), (meth_eq (He.meth_ok (c.fact 60 (p := fun K => (He.Fa.meth "SameRule" "lays").ok K) rfl)) (of_decide_eq_true (c.fact 61 (p := fun K => decide (He.ma K (He.ga K "SameRule") "lays" = He.ma K (He.ga K "SameRule") "lays")) rfl))), by decide⟩, (FunD.bindsN (ps := ["self", "stone"]) F_SameRule_lays fun _ _ _ _ _ _ us hl => match us, hl with | [_, _], _ => rfl)⟩
  have o_Rule_conditions := ok_Rule_conditions (P := P) (w := w) (mg := mg) (base := base) F_Rule_conditions x_WrongStone f_parts_2_3_4 n_list mi_Rule_lays mi_CountRule_lays mi_SameRule_lays
  have f_parts_4 : FOk K "parts" [(4, 1)] := fok_of (c.fact 62 (p := fun K => fokB K "parts" [(4, 1)]) rfl)
  have o_SameRule_conditions := ok_SameRule_conditions (P := P) (w := w) (mg := mg) (base := base) F_SameRule_conditions x_WrongStone f_parts_4 g_is_stone
  have o_Picture_getitem := ok_Picture_getitem (P := P) (w := w) (mg := mg) (base := base) F_Picture_getitem f_width_1 f_height_1 f_grid_1
  have o_Region_contains := ok_Region_contains (P := P) (w := w) (mg := mg) (base := base) F_Region_contains f_found_0
  have fi_1 : ∀ f, Meth K (cad K 1) "__getitem__" f → PySem.W.fnIn K f = true := fnGet_of (c.fact 63 (p := fun K => fnGetB K 1) rfl)
  have m_Picture_contains : Gm P w K mg base 1 1 "contains" ["self", "x", "y"] r_Picture_contains := ⟨_, _, o_Picture_contains, ⟨He.cls_ok (c.fact 64 (p := fun K => (He.Fa.cls "Picture").ok K) rfl), He.meth_ok (c.fact 65 (p := fun K => (He.Fa.meth "Picture" "contains").ok K) rfl), by decide⟩, (FunD.bindsN (ps := ["self", "x", "y"]) F_Picture_contains fun _ _ _ _ _ _ us hl => match us, hl with | [_, _, _], _ => rfl)⟩
  have mi_Rule_conditions : Gm P w K mg base 3 2 "conditions" ["self", "stone"] r_Rule_conditions := ⟨_, _, o_Rule_conditions, ⟨He.cls_ok (c.fact 53 (p := fun K => (He.Fa.cls "Rule").ok K) rfl), (meth_eq (He.meth_ok (c.fact 66 (p := fun K => (He.Fa.meth "Rule" "conditions").ok K) rfl)) (of_decide_eq_true (c.fact 67 (p := fun K => decide (He.ma K (He.ga K "Rule") "conditions" = He.ma K (He.ga K "Rule") "conditions")) rfl))), by decide⟩, (FunD.bindsN (ps := ["self", "stone"]) F_Rule_conditions fun _ _ _ _ _ _ us hl => match us, hl with | [_, _], _ => rfl)⟩
  have mi_CountRule_conditions : Gm P w K mg base 3 3 "conditions" ["self", "stone"] r_Rule_conditions := ⟨_, _, o_Rule_conditions, ⟨He.cls_ok (c.fact 56 (p := fun K => (He.Fa.cls "CountRule").ok K) rfl), (meth_eq (He.meth_ok (c.fact 68 (p := fun K => (He.Fa.meth "CountRule" "conditions").ok K) rfl)) (of_decide_eq_true (c.fact 69 (p := fun K => decide (He.ma K (He.ga K "CountRule") "conditions" = He.ma K (He.ga K "Rule") "conditions")) rfl))), by decide⟩, (FunD.bindsN (ps := ["self", "stone"]) F_Rule_conditions fun _ _ _ _ _ _ us hl => match us, hl with | [_, _], _ => rfl)⟩
  have mi_SameRule_conditions : Gm P w K mg base 3 4 "conditions" ["self", "stone"] r_SameRule_conditions := ⟨_, _, o_SameRule_conditions, ⟨He.cls_ok (c.fact 59 (p := fun K => (He.Fa.cls "SameRule").ok K) rfl), (meth_eq (He.meth_ok (c.fact 70 (p := fun K => (He.Fa.meth "SameRule" "conditions").ok K) rfl)) (of_decide_eq_true (c.fact 71 (p := fun K => decide (He.ma K (He.ga K "SameRule") "conditions" = He.ma K (He.ga K "SameRule") "conditions")) rfl))), by decide⟩, (FunD.bindsN (ps := ["self", "stone"]) F_SameRule_conditions fun _ _ _ _ _ _ us hl => match us, hl with | [_, _], _ => rfl)⟩
  have d_getitem_1 : Go P w K mg base 1 1 "__getitem__" ["self", "at"] r_Picture_getitem := ⟨_, _, o_Picture_getitem, (FunD.bindsN (ps := ["self", "at"]) F_Picture_getitem fun _ _ _ _ _ _ us hl => match us, hl with | [_, _], _ => rfl), He.meth_ok (c.fact 72 (p := fun K => (He.Fa.meth "Picture" "__getitem__").ok K) rfl)⟩
  have d_contains_0 : Go P w K mg base 1 0 "__contains__" ["self", "cell"] r_Region_contains := ⟨_, _, o_Region_contains, (FunD.bindsN (ps := ["self", "cell"]) F_Region_contains fun _ _ _ _ _ _ us hl => match us, hl with | [_, _], _ => rfl), He.meth_ok (c.fact 73 (p := fun K => (He.Fa.meth "Region" "__contains__").ok K) rfl)⟩
  have o_Rule_clashes := ok_Rule_clashes (P := P) (w := w) (mg := mg) (base := base) F_Rule_clashes x_OutOfPicture fi_1 m_Picture_contains mi_Rule_conditions mi_CountRule_conditions mi_SameRule_conditions d_getitem_1 d_contains_0
  have b_int : isiB K (.type "int") ti_int = true := (c.fact 74 (p := fun K => isiB K (.type "int") ti_int) rfl)
  have n_isinstance : mg "isinstance" = none := He.free_ok X G (c.fact 75 (p := fun K => (He.Fa.free "isinstance").ok K) rfl)
  have b_bool : isiB K (.type "bool") ti_bool = true := (c.fact 76 (p := fun K => isiB K (.type "bool") ti_bool) rfl)
  have n_bool : mg "bool" = none := He.free_ok X G (c.fact 77 (p := fun K => (He.Fa.free "bool").ok K) rfl)
  have o_l_is_int := ok_l_is_int (P := P) (w := w) (mg := mg) (base := base) F_l_is_int b_int n_isinstance n_int b_bool n_bool
  have b_tuple : isiB K (.type "tuple") ti_tuple = true := (c.fact 78 (p := fun K => isiB K (.type "tuple") ti_tuple) rfl)
  have n_tuple : mg "tuple" = none := He.free_ok X G (c.fact 79 (p := fun K => (He.Fa.free "tuple").ok K) rfl)
  have g__law_is_int : Gf P w K mg base 1 "_law_is_int" ["_law_value"] r_l_is_int := ⟨_, _, o_l_is_int, He.glo_ok X G (c.fact 80 (p := fun K => (He.Fa.glo "_law_is_int").ok K) rfl), F_l_is_int.kp, (FunD.bindsN (ps := ["_law_value"]) F_l_is_int fun _ _ _ _ _ _ us hl => match us, hl with | [_], _ => rfl)⟩
  have o_l_is_cell := ok_l_is_cell (P := P) (w := w) (mg := mg) (base := base) F_l_is_cell b_tuple n_isinstance n_tuple n_len g__law_is_int
  have b_list : isiB K (.type "list") ti_list = true := (c.fact 81 (p := fun K => isiB K (.type "list") ti_list) rfl)
  have g__law_is_cell : Gf P w K mg base 2 "_law_is_cell" ["_law_value"] r_l_is_cell := ⟨_, _, o_l_is_cell, He.glo_ok X G (c.fact 82 (p := fun K => (He.Fa.glo "_law_is_cell").ok K) rfl), F_l_is_cell.kp, (FunD.bindsN (ps := ["_law_value"]) F_l_is_cell fun _ _ _ _ _ _ us hl => match us, hl with | [_], _ => rfl)⟩
  have o_l_is_cells := ok_l_is_cells (P := P) (w := w) (mg := mg) (base := base) F_l_is_cells b_list n_isinstance n_list g__law_is_cell
  have g__law_sign : Gf P w K mg base 1 "_law_sign" ["_law_rows", "_law_cx", "_law_cy"] r_l_sign := ⟨_, _, o_l_sign, He.glo_ok X G (c.fact 83 (p := fun K => (He.Fa.glo "_law_sign").ok K) rfl), F_l_sign.kp, (FunD.bindsN (ps := ["_law_rows", "_law_cx", "_law_cy"]) F_l_sign fun _ _ _ _ _ _ us hl => match us, hl with | [_, _, _], _ => rfl)⟩
  have o_l_less := ok_l_less (P := P) (w := w) (mg := mg) (base := base) F_l_less g__law_sign
  have o_Rule_slack := ok_Rule_slack (P := P) (w := w) (mg := mg) (base := base) F_Rule_slack
  have o_CountRule_slack := ok_CountRule_slack (P := P) (w := w) (mg := mg) (base := base) F_CountRule_slack f_parts_3_4 n_len f_need_3_4
  have mki_Rule_clashes : Gmk P w K mg base 4 2 "clashes" 5 "loose" ["self", "picture", "x", "y", "stone", "loose"] r_Rule_clashes := by
    obtain ⟨mv, hb⟩ := FunD.kbinds0 (ps := ["self", "picture", "x", "y", "stone", "loose"]) F_Rule_clashes 5 ["loose"] [] (fun vs _ zs => vs ++ zs) (fun z => nomatch z) (fun _ h => nomatch h) (fun r _ rz => r.append rz) (fun _ _ _ _ _ _ us mv ws hl hm hw => match us, mv, ws, hl, hm, hw with | [_, _, _, _, _], [], [_], _, _, _ => rfl)
    exact ⟨_, _, o_Rule_clashes, ⟨He.cls_ok (c.fact 53 (p := fun K => (He.Fa.cls "Rule").ok K) rfl), meth_eq (He.meth_ok (c.fact 84 (p := fun K => (He.Fa.meth "Rule" "clashes").ok K) rfl)) (of_decide_eq_true (c.fact 85 (p := fun K => decide (He.ma K (He.ga K "Rule") "clashes" = He.ma K (He.ga K "Rule") "clashes")) rfl)), by decide⟩, hb⟩
  have mki_CountRule_clashes : Gmk P w K mg base 4 3 "clashes" 5 "loose" ["self", "picture", "x", "y", "stone", "loose"] r_Rule_clashes := by
    obtain ⟨mv, hb⟩ := FunD.kbinds0 (ps := ["self", "picture", "x", "y", "stone", "loose"]) F_Rule_clashes 5 ["loose"] [] (fun vs _ zs => vs ++ zs) (fun z => nomatch z) (fun _ h => nomatch h) (fun r _ rz => r.append rz) (fun _ _ _ _ _ _ us mv ws hl hm hw => match us, mv, ws, hl, hm, hw with | [_, _, _, _, _], [], [_], _, _, _ => rfl)
    exact ⟨_, _, o_Rule_clashes, ⟨He.cls_ok (c.fact 56 (p := fun K => (He.Fa.cls "CountRule").ok K) rfl), meth_eq (He.meth_ok (c.fact 86 (p := fun K => (He.Fa.meth "CountRule" "clashes").ok K) rfl)) (of_decide_eq_true (c.fact 87 (p := fun K => decide (He.ma K (He.ga K "CountRule") "clashes" = He.ma K (He.ga K "Rule") "clashes")) rfl)), by decide⟩, hb⟩
  have mki_SameRule_clashes : Gmk P w K mg base 4 4 "clashes" 5 "loose" ["self", "picture", "x", "y", "stone", "loose"] r_Rule_clashes := by
    obtain ⟨mv, hb⟩ := FunD.kbinds0 (ps := ["self", "picture", "x", "y", "stone", "loose"]) F_Rule_clashes 5 ["loose"] [] (fun vs _ zs => vs ++ zs) (fun z => nomatch z) (fun _ h => nomatch h) (fun r _ rz => r.append rz) (fun _ _ _ _ _ _ us mv ws hl hm hw => match us, mv, ws, hl, hm, hw with | [_, _, _, _, _], [], [_], _, _, _ => rfl)
    exact ⟨_, _, o_Rule_clashes, ⟨He.cls_ok (c.fact 59 (p := fun K => (He.Fa.cls "SameRule").ok K) rfl), meth_eq (He.meth_ok (c.fact 88 (p := fun K => (He.Fa.meth "SameRule" "clashes").ok K) rfl)) (of_decide_eq_true (c.fact 89 (p := fun K => decide (He.ma K (He.ga K "SameRule") "clashes" = He.ma K (He.ga K "Rule") "clashes")) rfl)), by decide⟩, hb⟩
  have pi_Rule_slack : Gp P w K mg base 1 2 "slack" ["self"] r_Rule_slack := ⟨_, _, _, o_Rule_slack, He.cls_ok (c.fact 53 (p := fun K => (He.Fa.cls "Rule").ok K) rfl), prop_eq (prop_of (c.fact 90 (p := fun K => propB K (He.ga K "Rule") "slack") rfl)) (of_decide_eq_true (c.fact 91 (p := fun K => decide (prAd K (He.ga K "Rule") "slack" = prAd K (He.ga K "Rule") "slack")) rfl)), (FunD.bindsN (ps := ["self"]) F_Rule_slack fun _ _ _ _ _ _ us hl => match us, hl with | [_], _ => rfl)⟩
  have pi_CountRule_slack : Gp P w K mg base 1 3 "slack" ["self"] r_CountRule_slack := ⟨_, _, _, o_CountRule_slack, He.cls_ok (c.fact 56 (p := fun K => (He.Fa.cls "CountRule").ok K) rfl), prop_eq (prop_of (c.fact 92 (p := fun K => propB K (He.ga K "CountRule") "slack") rfl)) (of_decide_eq_true (c.fact 93 (p := fun K => decide (prAd K (He.ga K "CountRule") "slack" = prAd K (He.ga K "CountRule") "slack")) rfl)), (FunD.bindsN (ps := ["self"]) F_CountRule_slack fun _ _ _ _ _ _ us hl => match us, hl with | [_], _ => rfl)⟩
  have pi_SameRule_slack : Gp P w K mg base 1 4 "slack" ["self"] r_CountRule_slack := ⟨_, _, _, o_CountRule_slack, He.cls_ok (c.fact 59 (p := fun K => (He.Fa.cls "SameRule").ok K) rfl), prop_eq (prop_of (c.fact 94 (p := fun K => propB K (He.ga K "SameRule") "slack") rfl)) (of_decide_eq_true (c.fact 95 (p := fun K => decide (prAd K (He.ga K "SameRule") "slack" = prAd K (He.ga K "CountRule") "slack")) rfl)), (FunD.bindsN (ps := ["self"]) F_CountRule_slack fun _ _ _ _ _ _ us hl => match us, hl with | [_], _ => rfl)⟩
  have o_Rule_fits := ok_Rule_fits (P := P) (w := w) (mg := mg) (base := base) F_Rule_fits x_OutOfPicture n_len m_Picture_contains mi_Rule_lays mi_CountRule_lays mi_SameRule_lays mki_Rule_clashes mki_CountRule_clashes mki_SameRule_clashes pi_Rule_slack pi_CountRule_slack pi_SameRule_slack
  have mdi_Rule_clashes : Gmd P w K mg base 4 2 "clashes" ["self", "picture", "x", "y", "stone", "loose"] [.non] r_Rule_clashes := by
    obtain ⟨dsv, hv, hb⟩ := FunD.binds0 (ps := ["self", "picture", "x", "y", "stone", "loose"]) F_Rule_clashes 5 (fun z => nomatch z) rfl (fun _ _ _ _ _ _ us ks hl hk => match us, ks, hl, hk with | [_, _, _, _, _], [_], _, _ => ⟨_, _, _, _, _, _, rfl, rfl, rfl⟩)
    exact ⟨_, _, _, dsv, o_Rule_clashes, ⟨He.cls_ok (c.fact 53 (p := fun K => (He.Fa.cls "Rule").ok K) rfl), meth_eq (He.meth_ok (c.fact 84 (p := fun K => (He.Fa.meth "Rule" "clashes").ok K) rfl)) (of_decide_eq_true (c.fact 85 (p := fun K => decide (He.ma K (He.ga K "Rule") "clashes" = He.ma K (He.ga K "Rule") "clashes")) rfl)), by decide⟩, hb, hv, fun _ => .cons .non .nil⟩
  have mdi_CountRule_clashes : Gmd P w K mg base 4 3 "clashes" ["self", "picture", "x", "y", "stone", "loose"] [.non] r_Rule_clashes := by
    obtain ⟨dsv, hv, hb⟩ := FunD.binds0 (ps := ["self", "picture", "x", "y", "stone", "loose"]) F_Rule_clashes 5 (fun z => nomatch z) rfl (fun _ _ _ _ _ _ us ks hl hk => match us, ks, hl, hk with | [_, _, _, _, _], [_], _, _ => ⟨_, _, _, _, _, _, rfl, rfl, rfl⟩)
    exact ⟨_, _, _, dsv, o_Rule_clashes, ⟨He.cls_ok (c.fact 56 (p := fun K => (He.Fa.cls "CountRule").ok K) rfl), meth_eq (He.meth_ok (c.fact 86 (p := fun K => (He.Fa.meth "CountRule" "clashes").ok K) rfl)) (of_decide_eq_true (c.fact 87 (p := fun K => decide (He.ma K (He.ga K "CountRule") "clashes" = He.ma K (He.ga K "Rule") "clashes")) rfl)), by decide⟩, hb, hv, fun _ => .cons .non .nil⟩
  have mdi_SameRule_clashes : Gmd P w K mg base 4 4 "clashes" ["self", "picture", "x", "y", "stone", "loose"] [.non] r_Rule_clashes := by
    obtain ⟨dsv, hv, hb⟩ := FunD.binds0 (ps := ["self", "picture", "x", "y", "stone", "loose"]) F_Rule_clashes 5 (fun z => nomatch z) rfl (fun _ _ _ _ _ _ us ks hl hk => match us, ks, hl, hk with | [_, _, _, _, _], [_], _, _ => ⟨_, _, _, _, _, _, rfl, rfl, rfl⟩)
    exact ⟨_, _, _, dsv, o_Rule_clashes, ⟨He.cls_ok (c.fact 59 (p := fun K => (He.Fa.cls "SameRule").ok K) rfl), meth_eq (He.meth_ok (c.fact 88 (p := fun K => (He.Fa.meth "SameRule" "clashes").ok K) rfl)) (of_decide_eq_true (c.fact 89 (p := fun K => decide (He.ma K (He.ga K "SameRule") "clashes" = He.ma K (He.ga K "Rule") "clashes")) rfl)), by decide⟩, hb, hv, fun _ => .cons .non .nil⟩
  have g__law_is_cells : Gf P w K mg base 3 "_law_is_cells" ["_law_value"] r_l_is_cells := ⟨_, _, o_l_is_cells, He.glo_ok X G (c.fact 96 (p := fun K => (He.Fa.glo "_law_is_cells").ok K) rfl), F_l_is_cells.kp, (FunD.bindsN (ps := ["_law_value"]) F_l_is_cells fun _ _ _ _ _ _ us hl => match us, hl with | [_], _ => rfl)⟩
  have g__law_less : Gf P w K mg base 2 "_law_less" ["_law_told", "_law_free", "_law_rows"] r_l_less := ⟨_, _, o_l_less, He.glo_ok X G (c.fact 97 (p := fun K => (He.Fa.glo "_law_less").ok K) rfl), F_l_less.kp, (FunD.bindsN (ps := ["_law_told", "_law_free", "_law_rows"]) F_l_less fun _ _ _ _ _ _ us hl => match us, hl with | [_, _, _], _ => rfl)⟩
  have mdi_Rule_fits : Gmd P w K mg base 5 2 "fits" ["self", "picture", "x", "y", "stone", "loose"] [.non] r_Rule_fits := by
    obtain ⟨dsv, hv, hb⟩ := FunD.binds0 (ps := ["self", "picture", "x", "y", "stone", "loose"]) F_Rule_fits 5 (fun z => nomatch z) rfl (fun _ _ _ _ _ _ us ks hl hk => match us, ks, hl, hk with | [_, _, _, _, _], [_], _, _ => ⟨_, _, _, _, _, _, rfl, rfl, rfl⟩)
    exact ⟨_, _, _, dsv, o_Rule_fits, ⟨He.cls_ok (c.fact 53 (p := fun K => (He.Fa.cls "Rule").ok K) rfl), meth_eq (He.meth_ok (c.fact 98 (p := fun K => (He.Fa.meth "Rule" "fits").ok K) rfl)) (of_decide_eq_true (c.fact 99 (p := fun K => decide (He.ma K (He.ga K "Rule") "fits" = He.ma K (He.ga K "Rule") "fits")) rfl)), by decide⟩, hb, hv, fun _ => .cons .non .nil⟩
  have mdi_CountRule_fits : Gmd P w K mg base 5 3 "fits" ["self", "picture", "x", "y", "stone", "loose"] [.non] r_Rule_fits := by
    obtain ⟨dsv, hv, hb⟩ := FunD.binds0 (ps := ["self", "picture", "x", "y", "stone", "loose"]) F_Rule_fits 5 (fun z => nomatch z) rfl (fun _ _ _ _ _ _ us ks hl hk => match us, ks, hl, hk with | [_, _, _, _, _], [_], _, _ => ⟨_, _, _, _, _, _, rfl, rfl, rfl⟩)
    exact ⟨_, _, _, dsv, o_Rule_fits, ⟨He.cls_ok (c.fact 56 (p := fun K => (He.Fa.cls "CountRule").ok K) rfl), meth_eq (He.meth_ok (c.fact 100 (p := fun K => (He.Fa.meth "CountRule" "fits").ok K) rfl)) (of_decide_eq_true (c.fact 101 (p := fun K => decide (He.ma K (He.ga K "CountRule") "fits" = He.ma K (He.ga K "Rule") "fits")) rfl)), by decide⟩, hb, hv, fun _ => .cons .non .nil⟩
  have mdi_SameRule_fits : Gmd P w K mg base 5 4 "fits" ["self", "picture", "x", "y", "stone", "loose"] [.non] r_Rule_fits := by
    obtain ⟨dsv, hv, hb⟩ := FunD.binds0 (ps := ["self", "picture", "x", "y", "stone", "loose"]) F_Rule_fits 5 (fun z => nomatch z) rfl (fun _ _ _ _ _ _ us ks hl hk => match us, ks, hl, hk with | [_, _, _, _, _], [_], _, _ => ⟨_, _, _, _, _, _, rfl, rfl, rfl⟩)
    exact ⟨_, _, _, dsv, o_Rule_fits, ⟨He.cls_ok (c.fact 59 (p := fun K => (He.Fa.cls "SameRule").ok K) rfl), meth_eq (He.meth_ok (c.fact 102 (p := fun K => (He.Fa.meth "SameRule" "fits").ok K) rfl)) (of_decide_eq_true (c.fact 103 (p := fun K => decide (He.ma K (He.ga K "SameRule") "fits" = He.ma K (He.ga K "Rule") "fits")) rfl)), by decide⟩, hb, hv, fun _ => .cons .non .nil⟩
  have mki_Rule_fits : Gmk P w K mg base 5 2 "fits" 5 "loose" ["self", "picture", "x", "y", "stone", "loose"] r_Rule_fits := by
    obtain ⟨mv, hb⟩ := FunD.kbinds0 (ps := ["self", "picture", "x", "y", "stone", "loose"]) F_Rule_fits 5 ["loose"] [] (fun vs _ zs => vs ++ zs) (fun z => nomatch z) (fun _ h => nomatch h) (fun r _ rz => r.append rz) (fun _ _ _ _ _ _ us mv ws hl hm hw => match us, mv, ws, hl, hm, hw with | [_, _, _, _, _], [], [_], _, _, _ => rfl)
    exact ⟨_, _, o_Rule_fits, ⟨He.cls_ok (c.fact 53 (p := fun K => (He.Fa.cls "Rule").ok K) rfl), meth_eq (He.meth_ok (c.fact 98 (p := fun K => (He.Fa.meth "Rule" "fits").ok K) rfl)) (of_decide_eq_true (c.fact 99 (p := fun K => decide (He.ma K (He.ga K "Rule") "fits" = He.ma K (He.ga K "Rule") "fits")) rfl)), by decide⟩, hb⟩
  have mki_CountRule_fits : Gmk P w K mg base 5 3 "fits" 5 "loose" ["self", "picture", "x", "y", "stone", "loose"] r_Rule_fits := by
    obtain ⟨mv, hb⟩ := FunD.kbinds0 (ps := ["self", "picture", "x", "y", "stone", "loose"]) F_Rule_fits 5 ["loose"] [] (fun vs _ zs => vs ++ zs) (fun z => nomatch z) (fun _ h => nomatch h) (fun r _ rz => r.append rz) (fun _ _ _ _ _ _ us mv ws hl hm hw => match us, mv, ws, hl, hm, hw with | [_, _, _, _, _], [], [_], _, _, _ => rfl)
    exact ⟨_, _, o_Rule_fits, ⟨He.cls_ok (c.fact 56 (p := fun K => (He.Fa.cls "CountRule").ok K) rfl), meth_eq (He.meth_ok (c.fact 100 (p := fun K => (He.Fa.meth "CountRule" "fits").ok K) rfl)) (of_decide_eq_true (c.fact 101 (p := fun K => decide (He.ma K (He.ga K "CountRule") "fits" = He.ma K (He.ga K "Rule") "fits")) rfl)), by decide⟩, hb⟩
  have mki_SameRule_fits : Gmk P w K mg base 5 4 "fits" 5 "loose" ["self", "picture", "x", "y", "stone", "loose"] r_Rule_fits := by
    obtain ⟨mv, hb⟩ := FunD.kbinds0 (ps := ["self", "picture", "x", "y", "stone", "loose"]) F_Rule_fits 5 ["loose"] [] (fun vs _ zs => vs ++ zs) (fun z => nomatch z) (fun _ h => nomatch h) (fun r _ rz => r.append rz) (fun _ _ _ _ _ _ us mv ws hl hm hw => match us, mv, ws, hl, hm, hw with | [_, _, _, _, _], [], [_], _, _, _ => rfl)
    exact ⟨_, _, o_Rule_fits, ⟨He.cls_ok (c.fact 59 (p := fun K => (He.Fa.cls "SameRule").ok K) rfl), meth_eq (He.meth_ok (c.fact 102 (p := fun K => (He.Fa.meth "SameRule" "fits").ok K) rfl)) (of_decide_eq_true (c.fact 103 (p := fun K => decide (He.ma K (He.ga K "SameRule") "fits" = He.ma K (He.ga K "Rule") "fits")) rfl)), by decide⟩, hb⟩
  have o_l_cell_agrees := ok_l_cell_agrees (P := P) (w := w) (mg := mg) (base := base) F_l_cell_agrees n_len mdi_Rule_clashes mdi_CountRule_clashes mdi_SameRule_clashes mki_Rule_clashes mki_CountRule_clashes mki_SameRule_clashes g__law_is_cells g__law_less mdi_Rule_fits mdi_CountRule_fits mdi_SameRule_fits mki_Rule_fits mki_CountRule_fits mki_SameRule_fits pi_Rule_slack pi_CountRule_slack pi_SameRule_slack
  have o_Picture_lines := ok_Picture_lines (P := P) (w := w) (mg := mg) (base := base) F_Picture_lines f_grid_1 n_list
  have g__law_bag : Gz P w K mg base 1 "_law_bag" ["_law_script"] 63 r_l_bag := ⟨_, _, o_l_bag, He.glo_ok X G (c.fact 104 (p := fun K => (He.Fa.glo "_law_bag").ok K) rfl), F_l_bag.kp, (FunD.bindsN (ps := ["_law_script"]) F_l_bag fun _ _ _ _ _ _ us hl => match us, hl with | [_], _ => rfl)⟩
  have g__law_palette : Gf P w K mg base 2 "_law_palette" ["_law_bag_here"] r_l_palette := ⟨_, _, o_l_palette, He.glo_ok X G (c.fact 105 (p := fun K => (He.Fa.glo "_law_palette").ok K) rfl), F_l_palette.kp, (FunD.bindsN (ps := ["_law_bag_here"]) F_l_palette fun _ _ _ _ _ _ us hl => match us, hl with | [_], _ => rfl)⟩
  have g__law_grid : Gf P w K mg base 3 "_law_grid" ["_law_bag_here", "_law_palette_here"] r_l_grid := ⟨_, _, o_l_grid, He.glo_ok X G (c.fact 106 (p := fun K => (He.Fa.glo "_law_grid").ok K) rfl), F_l_grid.kp, (FunD.bindsN (ps := ["_law_bag_here", "_law_palette_here"]) F_l_grid fun _ _ _ _ _ _ us hl => match us, hl with | [_, _], _ => rfl)⟩
  have g__law_rule : Gf P w K mg base 4 "_law_rule" ["_law_bag_here", "_law_palette_here"] r_l_rule := ⟨_, _, o_l_rule, He.glo_ok X G (c.fact 107 (p := fun K => (He.Fa.glo "_law_rule").ok K) rfl), F_l_rule.kp, (FunD.bindsN (ps := ["_law_bag_here", "_law_palette_here"]) F_l_rule fun _ _ _ _ _ _ us hl => match us, hl with | [_, _], _ => rfl)⟩
  have g__law_made : Gf P w K mg base 8 "_law_made" ["_law_rule_here"] r_l_made := ⟨_, _, o_l_made, He.glo_ok X G (c.fact 108 (p := fun K => (He.Fa.glo "_law_made").ok K) rfl), F_l_made.kp, (FunD.bindsN (ps := ["_law_rule_here"]) F_l_made fun _ _ _ _ _ _ us hl => match us, hl with | [_], _ => rfl)⟩
  have g__law_cells : Gf P w K mg base 1 "_law_cells" ["_law_rows"] r_l_cells := ⟨_, _, o_l_cells, He.glo_ok X G (c.fact 109 (p := fun K => (He.Fa.glo "_law_cells").ok K) rfl), F_l_cells.kp, (FunD.bindsN (ps := ["_law_rows"]) F_l_cells fun _ _ _ _ _ _ us hl => match us, hl with | [_], _ => rfl)⟩
  have g__law_subset : Gf P w K mg base 2 "_law_subset" ["_law_bag_here", "_law_cells_here", "_law_share"] r_l_subset := ⟨_, _, o_l_subset, He.glo_ok X G (c.fact 110 (p := fun K => (He.Fa.glo "_law_subset").ok K) rfl), F_l_subset.kp, (FunD.bindsN (ps := ["_law_bag_here", "_law_cells_here", "_law_share"]) F_l_subset fun _ _ _ _ _ _ us hl => match us, hl with | [_, _, _], _ => rfl)⟩
  have g__law_put : Gf P w K mg base 1 "_law_put" ["_law_rows", "_law_cx", "_law_cy", "_law_sign_here"] r_l_put_k07 := ⟨_, _, o_l_put_k07, He.glo_ok X G (c.fact 111 (p := fun K => (He.Fa.glo "_law_put").ok K) rfl), F_l_put_k07.kp, (FunD.bindsN (ps := ["_law_rows", "_law_cx", "_law_cy", "_law_sign_here"]) F_l_put_k07 fun _ _ _ _ _ _ us hl => match us, hl with | [_, _, _, _], _ => rfl)⟩
  have i_Picture : Gi P w K mg base 4 1 "Picture" ["self", "rows"] r_Picture_init := ⟨_, _, o_Picture_init, He.glo_ok X G (c.fact 112 (p := fun K => (He.Fa.glo "Picture").ok K) rfl), He.mkr_ok (c.fact 113 (p := fun K => (He.Fa.mkr "Picture").ok K) rfl), (FunD.bindsN (ps := ["self", "rows"]) F_Picture_init fun _ _ _ _ _ _ us hl => match us, hl with | [_, _], _ => rfl)⟩
  have i_Region : Gi P w K mg base 1 0 "Region" ["self", "cells"] r_Region_init := ⟨_, _, o_Region_init, He.glo_ok X G (c.fact 114 (p := fun K => (He.Fa.glo "Region").ok K) rfl), He.mkr_ok (c.fact 115 (p := fun K => (He.Fa.mkr "Region").ok K) rfl), (FunD.bindsN (ps := ["self", "cells"]) F_Region_init fun _ _ _ _ _ _ us hl => match us, hl with | [_, _], _ => rfl)⟩
  have g__law_cell_agrees : Gf P w K mg base 6 "_law_cell_agrees" ["_law_made_here", "_law_pair", "_law_region", "_law_free", "_law_rows", "_law_cell", "_law_hue"] r_l_cell_agrees := ⟨_, _, o_l_cell_agrees, He.glo_ok X G (c.fact 116 (p := fun K => (He.Fa.glo "_law_cell_agrees").ok K) rfl), F_l_cell_agrees.kp, (FunD.bindsN (ps := ["_law_made_here", "_law_pair", "_law_region", "_law_free", "_law_rows", "_law_cell", "_law_hue"]) F_l_cell_agrees fun _ _ _ _ _ _ us hl => match us, hl with | [_, _, _, _, _, _, _], _ => rfl)⟩
  have m_Picture_lines : Gm P w K mg base 1 1 "lines" ["self"] r_Picture_lines := ⟨_, _, o_Picture_lines, ⟨He.cls_ok (c.fact 64 (p := fun K => (He.Fa.cls "Picture").ok K) rfl), He.meth_ok (c.fact 117 (p := fun K => (He.Fa.meth "Picture" "lines").ok K) rfl), by decide⟩, (FunD.bindsN (ps := ["self"]) F_Picture_lines fun _ _ _ _ _ _ us hl => match us, hl with | [_], _ => rfl)⟩
  have o_law_k14 := ok_law_k14 (P := P) (w := w) (mg := mg) (base := base) F_law_k14 n_len n_list g__law_bag g__law_palette g__law_grid g__law_rule g__law_made g__law_cells g__law_subset g__law_take g__law_sign g__law_put i_Picture i_Region mi_Rule_lays mi_CountRule_lays mi_SameRule_lays g__law_cell_agrees m_Picture_lines
  exact o_law_k14
end LAW
open PySem PySem.W PySem.Calls PyProof.Rows
theorem PySem.Challenge.cw_smalti_k14_whole_holes_never_hurt_holds : PySem.Challenge.rw_smalti_k14_whole_holes_never_hurt.Holds := by
  w_on; o_law
  refine HandSHeadRun.head_any (r := OpenLaw.row PySem.Challenge.rw_smalti_k14_whole_holes_never_hurt) (q := view (OpenLaw.row PySem.Challenge.rw_smalti_k14_whole_holes_never_hurt).prog [47]) (H := LAW.hk) (ob := LAW.ob) (M := 30000) (loose := LAW.nms) (d := HandSHeadRun.topDef (OpenLaw.row PySem.Challenge.rw_smalti_k14_whole_holes_never_hurt).prog 47) (kwd := []) LAW.ob_eq
    (by kernel_rfl) (fun s => by kernel_rfl) LAW.run (by kernel_rfl) (by kernel_rfl) (by kernel_rfl) (by rfl) (by first | assumption | decide +kernel) (by decide +kernel) ⟨rfl, rfl, rfl, rfl, rfl, by decide +kernel⟩ ?hw ?hc
  case hw => w_witness2
  case hc =>
    refine SM.walk_law (l := PySem.Challenge.rw_smalti_k14_whole_holes_never_hurt) (k := 9) (x := "_law_script") rfl (by kernel_rfl) ⟨rfl, by decide, by decide⟩ ?F
    intro w mg fa h Y G hmg0
    obtain ⟨K, KX, c⟩ := Y
    have hmg : mg ("law" : PySem.Str) = some (.ref fa) := by
      have e : (HandSHeadRun.topDef (OpenLaw.row PySem.Challenge.rw_smalti_k14_whole_holes_never_hurt).prog 47).name = ("law" : PySem.Str) := by kernel_rfl
      rw [← e]
      exact hmg0
    obtain ⟨fd, hb, hF⟩ := LAW.facts (P := (PySem.Challenge.rw_smalti_k14_whole_holes_never_hurt).prog) (w := w) KX G hmg c ⟨by kernel_rfl, by kernel_rfl⟩
    exact ⟨K, fd, KX, hb, hF⟩