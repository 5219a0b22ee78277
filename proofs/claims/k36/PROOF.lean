import PyProof.Rows.All
import Wide.All
import OpenK.AllK
import Wide.FinOn
import HandS.ForMost
import HandS.ForExc
import HandS.Defaults
import HandS.DictComp
import HandS.Conv
import HandS.IsInst
import HandS.Star
import HandS.Property
import HandS.ClsMeth
import HandS.ExcInit
import HandS.ExcField
import HandS.ExcIs
import HandS.TryMany
import HandS.FStr
import HandS.Deep
import HandS.OwnEq
import HandS.SortRule
import HandS.SortKw
import HandS.Codes
import HandS.Head2
import HandS.HeadEnd
import HandS.HeadHook4
import KE.SortKeyHeap
import HandS.Style
import HandS.Flow
import HandS.Small
import HandS.RaiseMore
import HandS.ExcCtx
import HandS.HotCalls
import HandS.SuiteRaise
import HandS.RaiseFrom
import HandS.TryOnly
import HandS.Finally
import HandS.CallSlots
import KE.KCallOwn
import HandS.Text
import HandS.StrSplit
import KE.KOpsOwn
import PyProof.Draws
import PyProof.EnumMake
import HandS.Iter
import KE.KExcIs
import PyProof.StrOps2
import HandS.Nested
import KE.KSuper
import PyProof.CollectStr
import HandS.ExcValue
import HandS.MakeKwOnly
import OpenK.KMake
import HandS.ExcInitHot
import KE.GoesRaise
import PyProof.Rows.StrRev
import HandS.GenList
import HandS.Hot
import PySem.Challenge.RW_smalti_k36_history_refused
set_option Elab.async false
set_option linter.all false
set_option maxRecDepth 100000
set_option maxHeartbeats 0
namespace SM
open PySem PySem.Spec PyProof.Rows L2
abbrev okS (s : Str) : Prop := s.length ≤ sizeLine ∧ PyData.strOk s = true
inductive D where
  | non | bl (b : Bool) | int (i : Int) | str (s : Str) | ty (n : String) | adr (a : Addr)
  | tup (ds : List D) | lst (ds : List D) | dT (kvs : List (List Key × D)) | ins (c : Nat) (ds : List D) | cls (c : Nat) | exn (a : Addr) (d : Option Addr) (c : Nat) (ds : List D)
inductive OO where
  | lst (ds : List D) | dT (kvs : List (List Key × D)) | ins (c : Nat) (ds : List D)
  | dF (od : Obj) (ws : List (List Key × V)) (kvs : List (List Key × D))   -- a dict that is walked: it may not change
abbrev Sto := Addr → Option OO
@[irreducible] def su (S : Sto) (a : Addr) (o : OO) : Sto := fun b => if b = a then some o else S b
@[irreducible] def sd (S : Sto) (a : Addr) : Sto := fun b => if b = a then none else S b
theorem sd_same {S : Sto} {a : Addr} : sd S a a = none := by unfold sd; exact if_pos rfl
theorem sd_ne {S : Sto} {a b : Addr} (h : b ≠ a) : sd S a b = S b := by unfold sd; exact if_neg h
def cnm : Nat → Str
  | 0 => "Region" | 1 => "Picture" | 2 => "Rule" | 3 => "CountRule" | 4 => "SameRule" | 5 => "Book" | 6 => "Sketch" | 7 => "Mender" | 8 => "Site" | 9 => "History" | 10 => "Clash" | 11 => "Case" | 12 => "State" | 13 => "Inquiry" | 14 => "Chronicle"
  | 20 => "SmaltiError" | 21 => "InvalidPicture" | 22 => "InvalidRule" | 23 => "InvalidBook" | 24 => "InvalidSketch" | 25 => "InvalidHistory" | 26 => "InvalidSign" | 27 => "InvalidSigns" | 28 => "InvalidLimit"
  | 30 => "OutOfPicture" | 31 => "NoStone" | 32 => "NoHole" | 33 => "EmptyCell" | 34 => "Opposed" | 35 => "NotOld" | 36 => "NotNew" | 37 => "SurelyOld" | 38 => "SurelyNew" | 39 => "SurelyAfter"
  | 40 => "NoRule" | 41 => "NoPhotograph" | 42 => "WrongStone" | 43 => "RuleClash" | 44 => "BadDeed" | 45 => "Impossible" | 46 => "TooManyCases" | 47 => "UnknownOption" | 48 => "UnequalSize" | 49 => "NothingToUndo" | 50 => "StillPossible"
  | _ => "?"
def cfs : Nat → List Str
  | 0 => ["found", "row"] | 1 => ["grid", "width", "height"] | 2 => ["stone", "parts"] | 3 => ["stone", "parts", "need"] | 4 => ["stone", "parts", "need"] | 5 => ["rules"] | 6 => ["width", "height", "table"] | 7 => ["known", "laid", "refused"] | 8 => ["book", "now", "past"]
  | 9 => ["first", "deeds"] | 10 => ["region", "refusals"] | 11 => ["book", "view", "solid", "held", "needed"] | 12 => ["view", "never", "certain", "needed", "loosened", "lacking"] | 13 => ["book", "sketch", "most", "past", "state"] | 14 => ["book", "sketch", "shots"]
  | 21 => ["line"] | 22 => ["part"] | 23 => ["line"] | 24 => ["line"] | 25 => ["line"] | 26 => ["sign"] | 27 => ["signs"] | 28 => ["value"]
  | 30 => ["x", "y"] | 31 => ["x", "y"] | 32 => ["x", "y"] | 33 => ["x", "y"] | 34 => ["x", "y"] | 35 => ["x", "y"] | 36 => ["x", "y"] | 37 => ["x", "y"] | 38 => ["x", "y"] | 39 => ["x", "y"]
  | 40 => ["number"] | 41 => ["number"] | 42 => ["stone"] | 43 => ["places"] | 44 => ["index"] | 45 => ["lacking"] | 46 => ["cases"] | 47 => ["name"]
  | _ => []
def cad (K : PySem.W.Frag) (c : Nat) : Addr := He.ga K (cnm c)
mutual
inductive Rp (K : PySem.W.Frag) (G : Hp) : V → D → Prop
  | non : Rp K G .non .non
  | bl (b : Bool) : Rp K G (.bl b) (.bl b)
  | int (i : Int) : Rp K G (.int i) (.int i)
  | str {s : Str} (h : okS s) : Rp K G (.str s) (.str s)
  | ty (n : String) : Rp K G (.ty n) (.ty n)
  | adr (a : Addr) : Rp K G (.ref a) (.adr a)
  | tup {a : Addr} {vs : List V} {ds : List D} : G a = some (.tup vs) → Rps K G vs ds → ds.length ≤ sizeLine → Rp K G (.ref a) (.tup ds)
  | lst {a : Addr} {vs : List V} {ds : List D} : G a = some (.lst vs) → Rps K G vs ds → ds.length ≤ sizeLine → Rp K G (.ref a) (.lst ds)
  | dT {a : Addr} {ws : List (List Key × V)} {kvs : List (List Key × D)} : G a = some (.dT ws) → Rkv K G ws kvs → Rp K G (.ref a) (.dT kvs)
  | ins {a dx : Addr} {c : Nat} {vs : List V} {ds : List D} : G a = some (.ins (cad K c) dx ((cfs c).zip vs)) → Rps K G vs ds → ds.length ≤ (cfs c).length → Rp K G (.ref a) (.ins c ds)
  | cls {a : Addr} (c : Nat) : a = cad K c → Rp K G (.ref a) (.cls c)
  | exn0 {a : Addr} (c : Nat) : Rp K G (.ref a) (.exn a none c [])
  | exn {a dd : Addr} {fs : List (Str × V)} {vs : List V} {c : Nat} {ds : List D} : G dd = some (.xd fs) → Rps K G vs ds → ds.length = (cfs c).length → (∀ (j : Nat) (fl : Str) (v : V), (cfs c)[j]? = some fl → vs[j]? = some v → fs.lookup fl = some v) → Rp K G (.ref a) (.exn a (some dd) c ds)
inductive Rps (K : PySem.W.Frag) (G : Hp) : List V → List D → Prop
  | nil : Rps K G [] []
  | cons {v : V} {d : D} {vs : List V} {ds : List D} : Rp K G v d → Rps K G vs ds → Rps K G (v :: vs) (d :: ds)
inductive Rkv (K : PySem.W.Frag) (G : Hp) : List (List Key × V) → List (List Key × D) → Prop
  | nil : Rkv K G [] []
  | cons {k : List Key} {v : V} {d : D} {ws : List (List Key × V)} {kvs : List (List Key × D)} : Rp K G v d → Rkv K G ws kvs → Rkv K G ((k, v) :: ws) ((k, d) :: kvs)
end
variable {K : PySem.W.Frag} {G G' G2 H H' H2 : Hp} {S S' S2 : Sto}
mutual
theorem Rp.mono (s : Same G G') : ∀ {v : V} {d : D}, Rp K G v d → Rp K G' v d
  | _, _, .non => .non
  | _, _, .bl b => .bl b
  | _, _, .int i => .int i
  | _, _, .str h => .str h
  | _, _, .ty n => .ty n
  | _, _, .adr a => .adr a
  | _, _, .tup h r l => .tup (s _ _ h) (Rps.mono s r) l
  | _, _, .lst h r l => .lst (s _ _ h) (Rps.mono s r) l
  | _, _, .dT h r => .dT (s _ _ h) (Rkv.mono s r)
  | _, _, .ins h r l => .ins (s _ _ h) (Rps.mono s r) l
  | _, _, .cls c h => .cls c h
  | _, _, .exn0 c => .exn0 c
  | _, _, .exn h r l q => .exn (s _ _ h) (Rps.mono s r) l q
theorem Rps.mono (s : Same G G') : ∀ {vs : List V} {ds : List D}, Rps K G vs ds → Rps K G' vs ds
  | _, _, .nil => .nil
  | _, _, .cons h r => .cons (Rp.mono s h) (Rps.mono s r)
theorem Rkv.mono (s : Same G G') : ∀ {vs : List (List Key × V)} {ds : List (List Key × D)}, Rkv K G vs ds → Rkv K G' vs ds
  | _, _, .nil => .nil
  | _, _, .cons h r => .cons (Rp.mono s h) (Rkv.mono s r)
end
theorem Rps.length : ∀ {vs : List V} {ds : List D}, Rps K G vs ds → vs.length = ds.length
  | _, _, .nil => rfl
  | _, _, .cons _ r => congrArg Nat.succ (Rps.length r)
theorem Rps.get : ∀ {vs : List V} {ds : List D} {i : Nat} {d : D}, Rps K G vs ds → ds[i]? = some d → ∃ v, vs[i]? = some v ∧ Rp K G v d
  | _, _, _, _, .nil, e => by simp at e
  | _, _, 0, _, .cons h _, e => by simp at e; subst e; exact ⟨_, rfl, h⟩
  | _, _, i + 1, d, .cons _ r, e => by
    obtain ⟨v, h1, h2⟩ := Rps.get (i := i) r (by simpa using e)
    exact ⟨v, by simpa using h1, h2⟩
theorem Rps.set {v : V} {d : D} (r : Rp K G v d) : ∀ {vs : List V} {ds : List D} (i : Nat), Rps K G vs ds → Rps K G (vs.set i v) (ds.set i d)
  | _, _, _, .nil => .nil
  | _, _, 0, .cons _ t => .cons r t
  | _, _, i + 1, .cons q t => .cons q (Rps.set r i t)
theorem Rps.take : ∀ {vs : List V} {ds : List D} (n : Nat), Rps K G vs ds → Rps K G (vs.take n) (ds.take n)
  | _, _, 0, _ => .nil
  | _, _, _ + 1, .nil => .nil
  | _, _, n + 1, .cons r t => .cons r (Rps.take n t)
theorem Rps.drop : ∀ {vs : List V} {ds : List D} (n : Nat), Rps K G vs ds → Rps K G (vs.drop n) (ds.drop n)
  | _, _, 0, r => r
  | _, _, _ + 1, .nil => .nil
  | _, _, n + 1, .cons _ t => Rps.drop n t
def isD : HO → Bool
  | .dT _ => true
  | .dK _ => true
  | _ => false
def Le (G H : Hp) : Prop := ∀ a u, G a = some u → H a = some u ∨ (isD u = true ∧ ∃ o, H a = some (.frz o u))
def RO (K : PySem.W.Frag) (G : Hp) (h : Option HO) : OO → Prop
  | .lst ds => ∃ vs, h = some (.lst vs) ∧ Rps K G vs ds ∧ ds.length ≤ sizeLine
  | .dT kvs => ∃ ws, h = some (.dT ws) ∧ Rkv K G ws kvs
  | .ins c ds => ∃ dx vs, h = some (.ins (cad K c) dx ((cfs c).zip vs)) ∧ Rps K G vs ds ∧ ds.length ≤ (cfs c).length
  | .dF od ws kvs => h = some (.frz od (.dT ws)) ∧ Rkv K G ws kvs
theorem RO.mono (s : Same G G') {h : Option HO} : ∀ {o : OO}, RO K G h o → RO K G' h o
  | .lst _, ⟨vs, e, r, l⟩ => ⟨vs, e, r.mono s, l⟩
  | .dT _, ⟨vs, e, r⟩ => ⟨vs, e, r.mono s⟩
  | .ins _ _, ⟨dx, vs, e, r, l⟩ => ⟨dx, vs, e, r.mono s, l⟩
  | .dF _ _ _, ⟨e, r⟩ => ⟨e, r.mono s⟩
theorem RO.some {h : Option HO} : ∀ {o : OO}, RO K G h o → ∃ u, h = Option.some u
  | .lst _, ⟨vs, e, r⟩ => ⟨_, e⟩
  | .dT _, ⟨vs, e, r⟩ => ⟨_, e⟩
  | .ins _ _, ⟨dx, vs, e, r, l⟩ => ⟨_, e⟩
  | .dF _ _ _, ⟨e, r⟩ => ⟨_, e⟩
structure Rel (K : PySem.W.Frag) (G H : Hp) (S : Sto) : Prop where
  le : Le G H
  own : ∀ a o, S a = some o → G a = none ∧ RO K G (H a) o
theorem Rel.at (r : Rel K G H S) {a : Addr} {u : HO} (h : G a = some u) (n : isD u = false) : H a = some u := by
  rcases r.le a u h with q | ⟨q, _⟩
  · exact q
  · rw [n] at q; cases q
theorem Rel.rd (r : Rel K G H S) {a : Addr} {u : HO} (h : G a = some u) : Rd H a u := by
  rcases r.le a u h with q | ⟨_, o, q⟩
  · exact .inl q
  · exact .inr ⟨o, q⟩
theorem Rel.free (r : Rel K G H S) {a : Addr} (h : H a = none) : G a = none ∧ S a = none := by
  constructor
  · cases q : G a with
    | none => rfl
    | some u => rcases r.le a u q with z | ⟨_, o, z⟩ <;> (rw [h] at z; cases z)
  · cases q : S a with
    | none => rfl
    | some u =>
      obtain ⟨w, e⟩ := (r.own a u q).2.some
      rw [h] at e; cases e
structure Stp (K : PySem.W.Frag) (G H : Hp) (S : Sto) (G' H' : Hp) (S' : Sto) : Prop where
  sg : Same G G'
  rel : Rel K G' H' S'
  fr : ∀ b o, H b = some o → G b = none → S b = none → H' b = some o ∧ S' b = none ∧ (G' b = none ∨ ∃ vs, o = .tup vs)
theorem Stp.trans (a : Stp K G H S G' H' S') (b : Stp K G' H' S' G2 H2 S2) : Stp K G H S G2 H2 S2 where
  sg := a.sg.trans b.sg
  rel := b.rel
  fr := fun c o h g s => by
    obtain ⟨h1, s1, g1⟩ := a.fr c o h g s
    cases q : G' c with
    | none => exact b.fr c o h1 q s1
    | some u =>
      rcases g1 with g1 | ⟨vs, rfl⟩
      · rw [q] at g1; cases g1
      · have q2 := b.sg c u q
        have eu : u = .tup vs := by
          rcases a.rel.le c u q with z | ⟨_, o, z⟩
          · rw [h1] at z; exact (Option.some.inj z).symm
          · rw [h1] at z; cases z
        subst eu
        refine ⟨b.rel.at q2 rfl, ?_, .inr ⟨vs, rfl⟩⟩
        cases z : S2 c with
        | none => rfl
        | some w => rw [(b.rel.own c w z).1] at q2; cases q2
theorem Stp.frz (r : Rel K G H S) {p : Addr} {u : HO} {o : OO} (h : S p = some o) (hu : H p = some u) : Stp K G H S (upd G p u) H (sd S p) where
  sg := fun b w e => by
    have hb : b ≠ p := fun z => by subst z; rw [(r.own _ _ h).1] at e; cases e
    rw [upd_ne hb]; exact e
  rel := {
    le := fun b w e => by
      by_cases hb : b = p
      · subst hb; rw [upd_same] at e; cases e; exact .inl hu
      · rw [upd_ne hb] at e; exact r.le b w e
    own := fun b w e => by
      by_cases hb : b = p
      · subst hb; rw [sd_same] at e; cases e
      · rw [sd_ne hb] at e; rw [upd_ne hb]
        refine ⟨(r.own b w e).1, (r.own b w e).2.mono fun c w q => ?_⟩
        have hc : c ≠ p := fun z => by subst z; rw [(r.own _ _ h).1] at q; cases q
        rw [upd_ne hc]; exact q }
  fr := fun b w e g s => by
    have hb : b ≠ p := fun z => by subst z; rw [h] at s; cases s
    rw [upd_ne hb, sd_ne hb]; exact ⟨e, s, .inl g⟩
theorem Stp.drop (r : Rel K G H S) {p : Addr} : Stp K G H S G H (sd S p) where
  sg := fun b w e => e
  rel := {
    le := r.le
    own := fun b w e => by
      by_cases hb : b = p
      · subst hb; rw [sd_same] at e; cases e
      · rw [sd_ne hb] at e; exact r.own b w e }
  fr := fun b w e g s => by
    refine ⟨e, ?_, .inl g⟩
    by_cases hb : b = p
    · subst hb; exact sd_same
    · rw [sd_ne hb]; exact s
def vw (S : Sto) : D → D
  | .adr a => match S a with
    | some (.lst ds) => .lst ds
    | some (.dT kvs) => .dT kvs
    | some (.ins c ds) => .ins c ds
    | some (.dF _ _ kvs) => .dT kvs
    | none => .adr a
  | d => d
structure vwk (S : Sto) (x : D) (k : D → Prop) : Prop where
  it : k (vw S x)
structure itk {α : Type} (xs : List α) (i : Int) (k : α → Prop) : Prop where
  it : ∃ d, atI xs i = some d ∧ k d
structure brn (b : Bool) (A B : Prop) : Prop where
  it : if b = true then A else B
end SM
namespace SM
open PySem PySem.Spec PyProof.Rows L2
abbrev DS := List (Option D)
def nth : DS → Nat → Option D
  | [], _ => none
  | x :: _, 0 => x
  | _ :: r, n + 1 => nth r n
def put : DS → Nat → D → DS
  | [], _, _ => []
  | _ :: r, 0, d => some d :: r
  | x :: r, n + 1, d => x :: put r n d
def unset : DS → Nat → DS
  | [], _ => []
  | _ :: r, 0 => none :: r
  | x :: r, n + 1 => x :: unset r n
structure Exn where
  c : Nat
  ds : List D
abbrev DQ := D → Sto → Prop
abbrev XQ := Exn → Sto → Prop
abbrev DTE := DS → Sto → DQ → XQ → Prop
abbrev DTT := DS → Sto → (Bool → Sto → Prop) → XQ → Prop
abbrev DTA := DS → Sto → (List D → Sto → Prop) → XQ → Prop
structure DEnds where
  nx : DS → Sto → Prop
  rt : DQ
  bk : DS → Sto → Prop
  ct : DS → Sto → Prop
  xc : Exn → DS → Sto → Prop
abbrev DTS := DEnds → DS → Sto → Prop
abbrev DSp := List D → Sto → DQ → XQ → Prop
abbrev DTG := D → DS → Sto → (DS → Sto → Prop) → Prop
abbrev DTGs := List D → DS → Sto → (DS → Sto → Prop) → Prop
abbrev Gd := Option (Addr × OO)
def gok : Gd → Sto → Prop
  | none, _ => True
  | some (a, o), S => S a = some o
abbrev DTI := DS → Sto → (Gd → List D → Sto → Prop) → XQ → Prop
variable {K : PySem.W.Frag} {G G' G2 H H' H2 : Hp} {S S' S2 : Sto}
structure RpE (K : PySem.W.Frag) (G : Hp) (σ : L2.St) (δ : DS) : Prop where
  len : σ.length = δ.length
  at_ : ∀ i d, nth δ i = some d → ∃ v, σ[i]? = some (some v) ∧ Rp K G v d
theorem RpE.mono {σ : L2.St} {δ : DS} (s : Same G G') (h : RpE K G σ δ) : RpE K G' σ δ := ⟨h.len, fun i d e => let ⟨v, a, b⟩ := h.at_ i d e; ⟨v, a, b.mono s⟩⟩
theorem nth_put : ∀ (δ : DS) (i j : Nat) (d e : D), nth (put δ i d) j = some e → (j = i ∧ i < δ.length ∧ e = d) ∨ (j ≠ i ∧ nth δ j = some e)
  | [], _, _, _, _, h => by simp [put, nth] at h
  | x :: r, 0, 0, d, e, h => by simp [put, nth] at h; exact .inl ⟨rfl, by simp, h.symm⟩
  | x :: r, 0, j + 1, d, e, h => by simp [put, nth] at h; exact .inr ⟨by simp, by simpa [nth] using h⟩
  | x :: r, i + 1, 0, d, e, h => by simp [put, nth] at h; exact .inr ⟨by simp, by simpa [nth] using h⟩
  | x :: r, i + 1, j + 1, d, e, h => by
    simp only [put, nth] at h
    rcases nth_put r i j d e h with ⟨a, b, c⟩ | ⟨a, b⟩
    · exact .inl ⟨by omega, by simp; omega, c⟩
    · exact .inr ⟨by omega, by simpa [nth] using b⟩
theorem put_len : ∀ (δ : DS) (i : Nat) (d : D), (put δ i d).length = δ.length
  | [], _, _ => rfl
  | _ :: _, 0, _ => rfl
  | _ :: r, i + 1, d => congrArg Nat.succ (put_len r i d)
theorem nth_unset : ∀ (δ : DS) (i j : Nat) (e : D), nth (unset δ i) j = some e → j ≠ i ∧ nth δ j = some e
  | [], _, _, _, h => by simp [unset, nth] at h
  | x :: r, 0, 0, e, h => by simp [unset, nth] at h
  | x :: r, 0, j + 1, e, h => by simp [unset, nth] at h; exact ⟨by simp, by simpa [nth] using h⟩
  | x :: r, i + 1, 0, e, h => by simp [unset, nth] at h; exact ⟨by simp, by simpa [nth] using h⟩
  | x :: r, i + 1, j + 1, e, h => by
    simp only [unset, nth] at h
    obtain ⟨a, b⟩ := nth_unset r i j e h
    exact ⟨by omega, by simpa [nth] using b⟩
theorem unset_len : ∀ (δ : DS) (i : Nat), (unset δ i).length = δ.length
  | [], _ => rfl
  | _ :: _, 0 => rfl
  | _ :: r, i + 1 => congrArg Nat.succ (unset_len r i)
theorem RpE.put {σ : L2.St} {δ : DS} {v : V} {d : D} (i : Nat) (h : RpE K G σ δ) (r : Rp K G v d) : RpE K G (σ.set i (some v)) (put δ i d) := by
  refine ⟨by rw [List.length_set, put_len, h.len], fun j e he => ?_⟩
  rcases nth_put δ i j d e he with ⟨rfl, hl, rfl⟩ | ⟨hne, q⟩
  · exact ⟨v, by rw [List.getElem?_set_self (by rw [h.len]; exact hl)], r⟩
  · obtain ⟨u, a, b⟩ := h.at_ j e q
    exact ⟨u, by rw [List.getElem?_set_ne (Ne.symm hne)]; exact a, b⟩
theorem RpE.unset {σ : L2.St} {δ : DS} (i : Nat) (h : RpE K G σ δ) : RpE K G (σ.set i none) (unset δ i) := by
  refine ⟨by rw [List.length_set, unset_len, h.len], fun j e he => ?_⟩
  obtain ⟨hne, q⟩ := nth_unset δ i j e he
  obtain ⟨u, a, b⟩ := h.at_ j e q
  exact ⟨u, by rw [List.getElem?_set_ne (Ne.symm hne)]; exact a, b⟩
def Rx (K : PySem.W.Frag) (G : Hp) (cls : Value) (d : Option Addr) (x : Exn) : Prop :=
  cls = .ref (cad K x.c) ∧ ((x.ds = [] ∧ d = none) ∨ ∃ dd fs vs, d = some dd ∧ G dd = some (.xd fs) ∧ Rps K G vs x.ds ∧ x.ds.length = (cfs x.c).length ∧ ∀ (j : Nat) (fl : Str) (v : V), (cfs x.c)[j]? = some fl → vs[j]? = some v → fs.lookup fl = some v)
theorem Rx.mono {cls : Value} {d : Option Addr} {x : Exn} (s : Same G G') (h : Rx K G cls d x) : Rx K G' cls d x := by
  obtain ⟨e, h⟩ := h
  refine ⟨e, ?_⟩
  rcases h with h | ⟨dd, fs, vs, a, b, c, l⟩
  · exact .inl h
  · exact .inr ⟨dd, fs, vs, a, s _ _ b, c.mono s, l⟩
theorem takes0N {X : Cx} : L2N.Takes X (fun _ _ _ _ => False) := fun u s' ⟨_, _, _, _, _, _, _, _, _, _, _, _, _, _, _, _, w⟩ => w.elim
def KX (K : PySem.W.Frag) (W : WX) (σ : L2.St) (G H : Hp) (S : Sto) (XD : XQ) : Prop := ∀ G' H' S' cls d x, Stp K G H S G' H' S' → Rx K G' cls d x → XD x S' → W cls d σ H'
def liftE (K : PySem.W.Frag) (W : WX) (td : DTE) : TE := fun σ H Q => ∃ G δ S QD XD, RpE K G σ δ ∧ Rel K G H S ∧ td δ S QD XD ∧ (∀ G' H' S' v d, Stp K G H S G' H' S' → Rp K G' v d → QD d S' → Q v H') ∧ KX K W σ G H S XD
def liftT (K : PySem.W.Frag) (W : WX) (td : DTT) : TT := fun σ H Q => ∃ G δ S QD XD, RpE K G σ δ ∧ Rel K G H S ∧ td δ S QD XD ∧ (∀ G' H' S' b, Stp K G H S G' H' S' → QD b S' → Q b H') ∧ KX K W σ G H S XD
def liftA (K : PySem.W.Frag) (W : WX) (td : DTA) : TA := fun σ H Q => ∃ G δ S QD XD, RpE K G σ δ ∧ Rel K G H S ∧ td δ S QD XD ∧ (∀ G' H' S' vs ds, Stp K G H S G' H' S' → Rps K G' vs ds → QD ds S' → Q vs H') ∧ KX K W σ G H S XD
structure ER (K : PySem.W.Frag) (W : WX) (G H : Hp) (S : Sto) (E : DEnds) (D : Ends) : Prop where
  nx : ∀ G' H' S' σ' δ', Stp K G H S G' H' S' → RpE K G' σ' δ' → E.nx δ' S' → D.nx σ' H'
  rt : ∀ G' H' S' v d, Stp K G H S G' H' S' → Rp K G' v d → E.rt d S' → D.rt v H'
  bk : ∀ G' H' S' σ' δ', Stp K G H S G' H' S' → RpE K G' σ' δ' → E.bk δ' S' → D.bk σ' H'
  ct : ∀ G' H' S' σ' δ', Stp K G H S G' H' S' → RpE K G' σ' δ' → E.ct δ' S' → D.ct σ' H'
  xc : ∀ G' H' S' σ' δ' cls d x, Stp K G H S G' H' S' → RpE K G' σ' δ' → Rx K G' cls d x → E.xc x δ' S' → W cls d σ' H'
def liftS (K : PySem.W.Frag) (W : WX) (ts : DTS) : TS := fun D σ H => ∃ G δ S E, RpE K G σ δ ∧ Rel K G H S ∧ ts E δ S ∧ ER K W G H S E D
def liftG (K : PySem.W.Frag) (g : DTG) : TG := fun v σ H Q => ∃ G δ S d QD, RpE K G σ δ ∧ Rel K G H S ∧ Rp K G v d ∧ g d δ S QD ∧ ∀ G' H' S' σ' δ', Stp K G H S G' H' S' → RpE K G' σ' δ' → QD δ' S' → Q σ' H'
def liftGs (K : PySem.W.Frag) (g : DTGs) : TGs := fun vs σ H Q => ∃ G δ S ds QD, RpE K G σ δ ∧ Rel K G H S ∧ Rps K G vs ds ∧ g ds δ S QD ∧ ∀ G' H' S' σ' δ', Stp K G H S G' H' S' → RpE K G' σ' δ' → QD δ' S' → Q σ' H'
def ItD (K : PySem.W.Frag) (G : Hp) (gd : Gd) (J : It) (xs : List D) : Prop := ∀ G1 H1 S1, Same G G1 → Rel K G1 H1 S1 → gok gd S1 → ∀ i, (i < xs.length → J.go i H1 ∧ ∀ x H2, J.yld i H1 x H2 → ∃ G2, Stp K G1 H1 S1 G2 H2 S1 ∧ ∀ d, xs[i]? = some d → Rp K G2 x d) ∧ (xs.length ≤ i → J.stop i H1)
def liftI (K : PySem.W.Frag) (W : WX) (ti : DTI) : TI := fun σ H R => ∃ G δ S QD XD, RpE K G σ δ ∧ Rel K G H S ∧ ti δ S QD XD ∧ (∀ G' H' S' J gd xs, Stp K G H S G' H' S' → ItD K G' gd J xs → xs.length ≤ sizeLine → QD gd xs S' → R J H') ∧ KX K W σ G H S XD
theorem ItD.mono {J : It} {gd : Gd} {xs : List D} (s : Same G G') (h : ItD K G gd J xs) : ItD K G' gd J xs := fun G1 H1 S1 a r => h G1 H1 S1 (s.trans a) r
structure PD (X : Cx) (e : Expr) (td : DTE) : Prop where
  run : ∀ W, L2N.Takes X W → PE X e (liftE X.K W td)
structure PDT (X : Cx) (e : Expr) (td : DTT) : Prop where
  run : ∀ W, L2N.Takes X W → PT X e (liftT X.K W td)
structure PDW (X : Cx) (e : Expr) (td : DTT) : Prop where
  run : ∀ W, L2N.Takes X W → PW X e (liftT X.K W td)
structure PDA (X : Cx) (es : List Expr) (td : DTA) : Prop where
  run : ∀ W, L2N.Takes X W → PA X es (liftA X.K W td)
structure PDS (X : Cx) (st : Stmt) (ts : DTS) : Prop where
  run : ∀ W, L2N.Takes X W → PassesOwn (model X.prog X.w) X.A X.env X.xe → PS X st (liftS X.K W ts)
structure PDSs (X : Cx) (st : List Stmt) (ts : DTS) : Prop where
  run : ∀ W, L2N.Takes X W → PassesOwn (model X.prog X.w) X.A X.env X.xe → PSs X st (liftS X.K W ts)
structure PDI (X : Cx) (tg iter : Expr) (ti : DTI) : Prop where
  run : ∀ W, L2N.Takes X W → PI X tg iter (liftI X.K W ti)
structure PDG (X : Cx) (tg : Expr) (g : DTG) : Prop where
  run : PG X tg (liftG X.K g)
structure PDGs (X : Cx) (tgs : List Expr) (g : DTGs) : Prop where
  run : PGs X tgs (liftGs X.K g)
section
variable {X : Cx} {e a b c : Expr} {es : List Expr} {st : Stmt} {sts : List Stmt} {pos : Pos} {W : WX}
theorem ER.kx {E : DEnds} {D : Ends} {σ : L2.St} {δ : DS} (k : ER K W G H S E D) (re : RpE K G σ δ) : KX K W σ G H S (fun x S' => E.xc x δ S') := fun G' H' S' cls d x st r q => k.xc G' H' S' σ δ cls d x st (re.mono st.sg) r q
end
end SM
namespace SM
open PySem PySem.Spec PyProof.Rows L2
variable {K : PySem.W.Frag} {G G' G2 H H' H2 : Hp} {S S' S2 : Sto}
mutual
def toP : D → PyData
  | .bl b => .bool b
  | .int i => .int i
  | .str s => .str s
  | .tup ds => .tuple (toPs ds)
  | .lst ds => .list (toPs ds)
  | _ => .none
def toPs : List D → List PyData
  | [] => []
  | d :: r => toP d :: toPs r
end
mutual
def pln : Nat → D → Bool
  | _, .non => true
  | _, .bl _ => true
  | _, .int _ => true
  | _, .str _ => true
  | n + 1, .tup ds => plns n ds
  | n + 1, .lst ds => plns n ds
  | _, _ => false
def plns : Nat → List D → Bool
  | _, [] => true
  | n, d :: r => pln n d && plns n r
end
mutual
theorem dp_of (r : Rel K G H S) : ∀ (n : Nat) (d : D) (v : V), Rp K G v d → pln n d = true → Dp K H v (toP d) ∧ PyData.canLay0 (toP d) = true ∧ (toP d).depth ≤ n
  | n, _, _, .non, _ => ⟨.non, rfl, by simp [toP, PyData.depth]⟩
  | n, _, _, .bl b, _ => ⟨.bl b, rfl, by simp [toP, PyData.depth]⟩
  | n, _, _, .int i, _ => ⟨.int i, rfl, by simp [toP, PyData.depth]⟩
  | n, _, _, .str h, _ => ⟨.str _, by simp [toP, PyData.canLay0, h.2], by simp [toP, PyData.depth]⟩
  | 0, _, _, .tup h q l, e => by simp [pln] at e
  | 0, _, _, .lst h q l, e => by simp [pln] at e
  | n + 1, _, _, .tup h q l, e => by
    obtain ⟨a, b, c⟩ := dps_of r n _ _ q (by simpa [pln] using e)
    exact ⟨.tup (SqT.of (r.at h rfl)) a, by simpa [toP, PyData.canLay0] using b, by simp only [toP, PyData.depth]; omega⟩
  | n + 1, _, _, .lst h q l, e => by
    obtain ⟨a, b, c⟩ := dps_of r n _ _ q (by simpa [pln] using e)
    exact ⟨.lst (SqL.of (r.at h rfl)) a, by simpa [toP, PyData.canLay0] using b, by simp only [toP, PyData.depth]; omega⟩
  | n, _, _, .ty _, e => by cases n <;> simp [pln] at e
  | n, _, _, .adr _, e => by cases n <;> simp [pln] at e
  | n, _, _, .dT _ _, e => by cases n <;> simp [pln] at e
  | n, _, _, .ins _ _ _, e => by cases n <;> simp [pln] at e
  | n, _, _, .cls _ _, e => by cases n <;> simp [pln] at e
  | n, _, _, .exn0 _, e => by cases n <;> simp [pln] at e
  | n, _, _, .exn _ _ _ _, e => by cases n <;> simp [pln] at e
theorem dps_of (r : Rel K G H S) : ∀ (n : Nat) (ds : List D) (vs : List V), Rps K G vs ds → plns n ds = true → DpAll K H vs (toPs ds) ∧ PyData.canLayAll0 (toPs ds) = true ∧ PyData.depthAll (toPs ds) ≤ n
  | n, _, _, .nil, _ => ⟨.nil, rfl, by simp [toPs, PyData.depthAll]⟩
  | n, _, _, .cons h q, e => by
    simp only [plns, Bool.and_eq_true] at e
    obtain ⟨a, b, c⟩ := dp_of r n _ _ h e.1
    obtain ⟨a', b', c'⟩ := dps_of r n _ _ q e.2
    exact ⟨.cons a a', by simp [toPs, PyData.canLayAll0, b, b'], by simp only [toPs, PyData.depthAll]; omega⟩
end
section
variable {X : Cx} {e a b c : Expr} {es : List Expr} {st : Stmt} {sts : List Stmt} {pos : Pos} {W : WX} {k : Nat}
end
end SM
namespace SM
open PySem PySem.Spec PyProof.Rows L2
variable {K : PySem.W.Frag} {G G' G2 H H' H2 : Hp} {S S' S2 : Sto}
section
variable {X : Cx} {e a b c : Expr} {es : List Expr} {st : Stmt} {sts : List Stmt} {pos : Pos} {W : WX} {k : Nat}
end
end SM
namespace SM
open PySem PySem.Spec PyProof.Rows L2
variable {K : PySem.W.Frag} {G G' G2 H H' H2 : Hp} {S S' S2 : Sto}
section
variable {X : Cx} {e a b c o i : Expr} {es : List Expr} {st : Stmt} {sts : List Stmt} {pos p apos cpos : Pos} {W : WX} {k : Nat} {x : Str}
def dKey : D → Option Key
  | .int i => some (.inl i)
  | .str s => some (.inr s)
  | _ => none
def dKeys : List D → Option (List Key)
  | [] => some []
  | d :: r => match dKey d, dKeys r with
    | some k, some ks => some (k :: ks)
    | _, _ => none
end
end SM
namespace SM
open PySem PySem.Spec PyProof.Rows L2
variable {K : PySem.W.Frag} {G G' G2 H H' H2 : Hp} {S S' S2 : Sto}
section
variable {X : Cx} {e a b c o i : Expr} {es : List Expr} {st : Stmt} {sts : List Stmt} {pos p apos cpos pos' : Pos} {W : WX} {k : Nat} {x : Str}
abbrev DTO := DS → Sto → (Option Int → Sto → Prop) → XQ → Prop
def liftO (K : PySem.W.Frag) (W : WX) (td : DTO) : TO := fun σ H Q => ∃ G δ S QD XD, RpE K G σ δ ∧ Rel K G H S ∧ td δ S QD XD ∧ (∀ G' H' S' o, Stp K G H S G' H' S' → QD o S' → Q o H') ∧ KX K W σ G H S XD
structure PDO (X : Cx) (e : Option Expr) (td : DTO) : Prop where
  run : ∀ W, L2N.Takes X W → PO X e (liftO X.K W td)
inductive Pat where
  | nm (i : Nat) | tp (ps : List Pat)
mutual
def pG (K : PySem.W.Frag) : Pat → TG
  | .nm i => gName i
  | .tp ps => gTup K ps.length (pGs K ps)
def pGs (K : PySem.W.Frag) : List Pat → TGs
  | [] => gNil
  | q :: r => gCons (pG K q) (pGs K r)
end
mutual
def bindP : Pat → D → DS → Option DS
  | .nm i, d, δ => some (put δ i d)
  | .tp ps, .tup ds, δ => bindPs ps ds δ
  | .tp _, _, _ => none
def bindPs : List Pat → List D → DS → Option DS
  | [], [], δ => some δ
  | q :: ps, d :: ds, δ => match bindP q d δ with
    | some δ1 => bindPs ps ds δ1
    | none => none
  | _, _, _ => none
end
mutual
def slots : Pat → List Nat
  | .nm i => [i]
  | .tp ps => slotss ps
def slotss : List Pat → List Nat
  | [] => []
  | q :: r => slots q ++ slotss r
end
def Agr (l : List Nat) (σ σ' : L2.St) : Prop := σ'.length = σ.length ∧ ∀ i, i ∉ l → σ'[i]? = σ[i]?
mutual
theorem pG_run (rl : Rel K G H S) : ∀ (q : Pat) (d : D) (v : V) (σ : L2.St) (δ δ' : DS), RpE K G σ δ → Rp K G v d → bindP q d δ = some δ' → ∃ σ', (∀ Q : L2.St → Hp → Prop, Q σ' H → pG K q v σ H Q) ∧ RpE K G σ' δ' ∧ Agr (slots q) σ σ'
  | .nm i, d, v, σ, δ, δ', re, rp, h => by
    cases h
    refine ⟨σ.set i (some v), fun Q q => by rw [pG]; exact q, re.put i rp, ?_, fun j hj => ?_⟩
    · rw [List.length_set]
    · rw [List.getElem?_set_ne]; intro z; apply hj; simp [slots, z]
  | .tp ps, .tup ds, v, σ, δ, δ', re, rp, h => by
    cases rp with
    | tup hg rs l =>
    rename_i a vs
    obtain ⟨σ', h1, h2, h3⟩ := pGs_run rl ps ds vs σ δ δ' re rs (by simpa [bindP] using h)
    refine ⟨σ', fun Q q => ?_, h2, by simpa [slots] using h3⟩
    rw [pG]
    refine ⟨a, vs, rfl, SqT.of (rl.at hg rfl), ?_, h1 Q q⟩
    rw [rs.length]
    exact bindPs_len ps ds δ δ' (by simpa [bindP] using h)
  | .tp _, .non, _, _, _, _, _, _, h => by simp [bindP] at h
  | .tp _, .bl _, _, _, _, _, _, _, h => by simp [bindP] at h
  | .tp _, .int _, _, _, _, _, _, _, h => by simp [bindP] at h
  | .tp _, .str _, _, _, _, _, _, _, h => by simp [bindP] at h
  | .tp _, .ty _, _, _, _, _, _, _, h => by simp [bindP] at h
  | .tp _, .adr _, _, _, _, _, _, _, h => by simp [bindP] at h
  | .tp _, .lst _, _, _, _, _, _, _, h => by simp [bindP] at h
  | .tp _, .dT _, _, _, _, _, _, _, h => by simp [bindP] at h
  | .tp _, .ins _ _, _, _, _, _, _, _, h => by simp [bindP] at h
theorem pGs_run (rl : Rel K G H S) : ∀ (ps : List Pat) (ds : List D) (vs : List V) (σ : L2.St) (δ δ' : DS), RpE K G σ δ → Rps K G vs ds → bindPs ps ds δ = some δ' → ∃ σ', (∀ Q : L2.St → Hp → Prop, Q σ' H → pGs K ps vs σ H Q) ∧ RpE K G σ' δ' ∧ Agr (slotss ps) σ σ'
  | [], [], vs, σ, δ, δ', re, rs, h => by
    cases rs
    cases h
    exact ⟨σ, fun Q q => ⟨rfl, q⟩, re, rfl, fun _ _ => rfl⟩
  | q :: ps, d :: ds, vs, σ, δ, δ', re, rs, h => by
    cases rs with
    | cons r1 r2 =>
    rw [bindPs] at h
    split at h
    · rename_i δ1 e1
      obtain ⟨σ1, a1, a2, a3⟩ := pG_run rl q d _ σ δ δ1 re r1 e1
      obtain ⟨σ2, b1, b2, b3⟩ := pGs_run rl ps ds _ σ1 δ1 δ' a2 r2 h
      refine ⟨σ2, fun Q z => ?_, b2, b3.1.trans a3.1, fun i hi => ?_⟩
      · rw [pGs]; exact ⟨_, _, rfl, a1 _ (b1 Q z)⟩
      · simp only [slotss, List.mem_append, not_or] at hi
        rw [b3.2 i hi.2, a3.2 i hi.1]
    · cases h
  | [], _ :: _, _, _, _, _, _, _, h => by simp [bindPs] at h
  | _ :: _, [], _, _, _, _, _, _, h => by simp [bindPs] at h
theorem bindPs_len : ∀ (ps : List Pat) (ds : List D) (δ δ' : DS), bindPs ps ds δ = some δ' → ds.length = ps.length
  | [], [], _, _, _ => rfl
  | q :: ps, d :: ds, δ, δ', h => by
    rw [bindPs] at h
    split at h
    · rename_i δ1 e1
      rw [List.length_cons, List.length_cons, bindPs_len ps ds δ1 δ' h]
    · cases h
  | [], _ :: _, _, _, h => by simp [bindPs] at h
  | _ :: _, [], _, _, h => by simp [bindPs] at h
end
structure PDP (X : Cx) (tg : Expr) (q : Pat) : Prop where
  run : PG X tg (pG X.K q)
structure PDPs (X : Cx) (tgs : List Expr) (q : List Pat) : Prop where
  run : PGs X tgs (pGs X.K q)
end
end SM
namespace SM
open PySem PySem.Spec PyProof.Rows L2
variable {K : PySem.W.Frag} {G G' G2 H H' H2 : Hp} {S S' S2 : Sto}
section
variable {X : Cx} {e a b c o i : Expr} {es : List Expr} {st : Stmt} {sts rest : List Stmt} {pos p apos cpos pos' : Pos} {W : WX} {k : Nat} {x : Str} {t u : DTS} {te : DTE}
structure ownk (S : Sto) (a : Addr) (k : Option OO → Prop) : Prop where
  it : k (S a)
def dLoop (gd : Gd) (q : Pat) (tb : DTS) (E : DEnds) : List D → DS → Sto → Prop
  | [], δ, S => gok gd S ∧ E.nx δ S
  | d :: r, δ, S => gok gd S ∧ match bindP q d δ with
    | some δ1 => tb { E with nx := fun δ2 S2 => dLoop gd q tb E r δ2 S2, ct := fun δ2 S2 => dLoop gd q tb E r δ2 S2, bk := E.nx } δ1 S
    | none => False
structure loopK (gd : Gd) (q : Pat) (tb : DTS) (E : DEnds) (xs : List D) (δ : DS) (S : Sto) : Prop where
  it : dLoop gd q tb E xs δ S
end
end SM
namespace SM
open PySem PySem.Spec PyProof.Rows L2
variable {K : PySem.W.Frag} {G G' G2 H H' H2 : Hp} {S S' S2 : Sto}
def toSp (K : PySem.W.Frag) (R : DSp) : Sp := fun vs H Q E => ∃ G S ds QD XD, Rel K G H S ∧ Rps K G vs ds ∧ R ds S QD XD ∧ (∀ G' H' S' v d, Stp K G H S G' H' S' → Rp K G' v d → QD d S' → Q v H') ∧
  ∀ G' H' S' cls d x, Stp K G H S G' H' S' → Rx K G' cls d x → XD x S' → E cls d H'
def startD : List Str → List D → DS
  | [], _ => []
  | _ :: n, [] => none :: startD n []
  | _ :: n, d :: ds => some d :: startD n ds
section
variable {P : Program} {w : World} {mg : Str → Option Value} {base : Heap}
end
section
variable {X : Cx} {e a b c o i : Expr} {es : List Expr} {st : Stmt} {sts rest : List Stmt} {pos p apos cpos pos' : Pos} {W : WX} {k : Nat} {x m : Str} {t : DTA} {te : DTE} {f C : Addr} {fd : FuncData} {ps : List Str} {R : DSp} {dvs : List V} {dds : List D} {ds : List Value}
structure MOk (K : PySem.W.Frag) (c : Nat) (m : Str) (f : Addr) : Prop where
  cl : Cls K (cad K c)
  me : Meth K (cad K c) m f
  nf : m ∉ cfs c
end
end SM
namespace SM
open PySem PySem.Spec PyProof.Rows L2
variable {K : PySem.W.Frag} {G G' G2 H H' H2 : Hp} {S S' S2 : Sto}
section
variable {X : Cx} {e a b c o i : Expr} {es : List Expr} {st : Stmt} {sts rest : List Stmt} {pos p apos cpos pos' : Pos} {W : WX} {k : Nat} {x m fl : Str} {t : DTA} {te to : DTE} {f C : Addr} {fd : FuncData} {ps : List Str} {R : DSp} {dvs : List V} {dds : List D} {ds : List Value}
inductive Bt where
  | lst | str | dct
def Bt.nm : Bt → String
  | .lst => "list" | .str => "str" | .dct => "dict"
end
end SM
namespace SM
open PySem PySem.Spec PyProof.Rows L2
variable {K : PySem.W.Frag} {G G' G2 H H' H2 : Hp} {S S' S2 : Sto}
section
variable {k : D → Prop} {ko : Option OO → Prop} {ds : List D} {kvs : List (List Key × D)} {c : Nat} {a b : Addr} {o u : OO}
end
section
variable {X : Cx} {st : Stmt} {rest : List Stmt} {t u : DTS}
structure cutK (t u : DTS) (E : DEnds) (δ : DS) (S : Sto) : Prop where
  it : ∃ M : DS → Sto → Prop, t { E with nx := M } δ S ∧ ∀ δ' S', M δ' S' → u E δ' S'
end
structure Bag where
  cells : List Int
  at_ : Nat
  big : Int
  seed : Int
end SM
namespace SM
open PySem PySem.Spec PyProof.Rows L2
variable {K : PySem.W.Frag} {G G' G2 H H' H2 G0 H0 : Hp} {S S' S2 S0 : Sto}
def uns (δ : DS) : List Nat → DS
  | [] => δ
  | v :: vs => unset (uns δ vs) v
def noX : XQ := fun _ _ => False
def dLcL (gd : Gd) (q : Pat) (tt : DTT) (te : DTE) (δ : DS) : List D → Sto → (List D → Sto → Prop) → Prop
  | [], S, Q => gok gd S ∧ Q [] S
  | x :: r, S, Q => gok gd S ∧ match bindP q x δ with
    | some δ2 => tt δ2 S (fun b S3 => brn b (te δ2 S3 (fun d S4 => dLcL gd q tt te δ r S4 (fun ds S5 => Q (d :: ds) S5)) noX) (dLcL gd q tt te δ r S3 Q)) noX
    | none => False
structure lcK (gd : Gd) (q : Pat) (tt : DTT) (te : DTE) (δ : DS) (xs : List D) (S : Sto) (Q : List D → Sto → Prop) : Prop where
  it : dLcL gd q tt te δ xs S Q
structure PDTs (X : Cx) (ifs : List Expr) (tt : DTT) : Prop where
  run : ∀ W, L2N.Takes X W → PTs X ifs (liftT X.K W tt)
section
variable {X : Cx} {e a b c o i : Expr} {pos p : Pos} {W : WX} {k : Nat}
structure LcI (K : PySem.W.Frag) (G0 H0 : Hp) (S0 : Sto) (A : Addr) (G H : Hp) (S : Sto) (acc : List D) : Prop where
  st : Stp K G0 H0 S0 G H S
  ex : ∃ vs, H A = some (.lst vs) ∧ Rps K G vs acc
  hg : G A = none
  hs : S A = none
section
variable {elt tg iter : Expr} {ifs : List Expr} {scope : Scope} {own : List (Str × Nat)} {ti : DTI} {q : Pat} {tt : DTT} {te : DTE}
abbrev Cx.bk (X : Cx) (scope : Scope) (s : Shared) (H : Hp) (C : Addr) (cl : List (Str × Addr)) (fp : List Addr) : Cx := X.blk s H scope (compEnvC scope cl C X.env) fp
end
end
end SM
namespace SM
open PySem PySem.Spec PyProof.Rows L2
variable {K : PySem.W.Frag} {G G' G2 H H' H2 G0 H0 : Hp} {S S' S2 S0 : Sto}
section
variable {X : Cx} {e a b c o i : Expr} {es : List Expr} {pos p py spos : Pos} {W : WX} {k : Nat} {x y : Str} {t : DTA} {te : DTE} {f C : Addr} {fd : FuncData} {ps : List Str} {R : DSp} {dvs : List V} {dds : List D} {ds : List Value}
section
variable {elt tg iter : Expr} {ifs : List Expr} {scope : Scope} {own : List (Str × Nat)} {ti : DTI} {q : Pat} {tt : DTT}
end
def tagV (K : PySem.W.Frag) : Nat → Value
  | 100 => .type "NoneType" | 101 => .type "bool" | 102 => .type "int" | 103 => .type "str" | 104 => .type "tuple" | 105 => .type "list"
  | c => .ref (cad K c)
def clsB (K : PySem.W.Frag) (c : Nat) : Bool := PySem.W.plainGet K (cad K c) Str.empty && (PySem.W.hasDictIn K (cad K c) && (PySem.W.plainOver K (cad K c) && (He.eqO (PySem.W.findIn K (.ref (cad K c)) "__setattr__") (some (some (.builtin "object.__setattr__"))) &&
  (He.eqO (PySem.W.findIn K (.ref (cad K c)) "__class__") (some (some (.builtin "object.__class__"))) && (He.eqO (PySem.W.specialIn K (.builtin "object.__class__") "__get__") (some (some (.builtin "getset_descriptor.__get__"))) && (decide (PySem.W.takesIn K (.builtin "object.__class__") = some true) && decide (PySem.W.mroIn K (cad K c) (.type "object") = some true)))))))
def isiB (K : PySem.W.Frag) (u : Value) (tbl : List (Nat × Bool)) : Bool := tbl.all fun p => decide (PySem.W.kitOne K (tagV K p.1) u = some p.2) && (decide (100 ≤ p.1) || clsB K p.1)
end
end SM
namespace SM
open PySem PySem.Spec PyProof.Rows L2
open PySem.W (EachIs AllAlike Sortable dataLe)
variable {K : PySem.W.Frag} {G G' G2 H H' H2 G0 H0 : Hp} {S S' S2 S0 : Sto}
section
variable {X : Cx} {k : Nat}
end
end SM
namespace SM
open PySem PySem.Spec PyProof.Rows L2
section
variable {X : Cx}
end
variable {K : PySem.W.Frag} {G G' G2 H H' H2 G0 H0 : Hp} {S S' S2 S0 : Sto}
def putD (kvs : List (List Key × D)) (k : List Key) (d : D) : List (List Key × D) :=
  if (kvs.any fun p => decide (p.1 = k)) = true then kvs.map (fun p => if p.1 = k then (p.1, d) else p) else kvs ++ [(k, d)]
def dDcL (gd : Gd) (q : Pat) (tt : DTT) (tk tv : DTE) (δ : DS) : List D → List (List Key × D) → Sto → (List (List Key × D) → Sto → Prop) → Prop
  | [], a, S, Q => gok gd S ∧ Q a S
  | x :: r, a, S, Q => gok gd S ∧ match bindP q x δ with
    | some δ2 => tt δ2 S (fun b S3 => brn b (tk δ2 S3 (fun y S4 => tv δ2 S4 (fun z S5 => (match y with
      | .tup ds => (match dKeys ds with
        | some ks => dDcL gd q tt tk tv δ r (putD a ks z) S5 Q
        | none => False)
      | _ => False)) noX) noX) (dDcL gd q tt tk tv δ r a S3 Q)) noX
    | none => False
structure dcK (gd : Gd) (q : Pat) (tt : DTT) (tk tv : DTE) (δ : DS) (xs : List D) (a : List (List Key × D)) (S : Sto) (Q : List (List Key × D) → Sto → Prop) : Prop where
  it : dDcL gd q tt tk tv δ xs a S Q
structure DcI (K : PySem.W.Frag) (G0 H0 : Hp) (S0 : Sto) (A : Addr) (G H : Hp) (S : Sto) (acc : List (List Key × D)) : Prop where
  st : Stp K G0 H0 S0 G H S
  ex : ∃ ws, H A = some (.dT ws) ∧ Rkv K G ws acc
  hg : G A = none
  hs : S A = none
section
variable {X : Cx} {W : WX} {k : Nat}
end
end SM
namespace SM
open PySem PySem.Spec PyProof.Rows L2
open PySem.W (EachIs AllAlike Sortable dataLe KeyPure)
def roB (c : Str) (q1 q2 q3 q4 q5 q6 q7 q8 : Pos) (k1 k2 k3 : Nat) : List Stmt :=
  [.Return (some (.Tuple [.Subscript (.Name c q1) (.Constant (.int 1) k1 q2) q3, .Subscript (.Name c q4) (.Constant (.int 0) k2 q5) q6] k3 q7)) q8]
section
variable {prog : Program} {w : World} {A : Around} {E : Value → Shared → Prop} {s : Shared} {env : Env} {c : Str}
end
variable {K : PySem.W.Frag} {G G' G2 H H' H2 G0 H0 : Hp} {S S' S2 S0 : Sto}
structure RoF (K : PySem.W.Frag) (f : Addr) : Prop where
  ex : ∃ (oc : Value) (od : Option Addr) (name qual : Str) (params : Arguments) (scope : Scope) (dV kV doc pm cdv ct : Value) (an : Option Addr) (osl : Array (Option Value)) (c : Str) (q1 q2 q3 q4 q5 q6 q7 q8 : Pos) (k1 k2 k3 : Nat),
    K.lookup f = some ⟨oc, od, .func (PySem.W.fnOf name qual params (roB c q1 q2 q3 q4 q5 q6 q7 q8 k1 k2 k3) scope dV kV doc pm an cdv ct), osl⟩ ∧ PySem.W.codeIn K cdv qual = true ∧ scope.kind = .function ∧ scope.isCoroutine = false ∧ scope.isGenerator = false ∧ scope.names.lookup c = some .local ∧
    (∀ b, bindArgs (PySem.W.fnOf name qual params (roB c q1 q2 q3 q4 q5 q6 q7 q8 k1 k2 k3) scope dV kV doc pm an cdv ct) ⟨[.ref b], []⟩ = pure [(c, .ref b)]) ∧ (c == ("__debug__" : Str)) = false
section
variable {X : Cx} {k : Nat}
end
end SM
namespace SM
open PySem PySem.Spec PyProof.Rows L2
variable {K : PySem.W.Frag} {G G' G2 H H' H2 : Hp} {S S' S2 : Sto}
def starSp (n : Nat) (R : DSp) : DSp := fun ds S Q E => n ≤ ds.length ∧ R (ds.take n ++ [.tup (ds.drop n)]) S Q E
section
variable {P : Program} {w : World} {mg : Str → Option Value} {base : Heap}
end
structure SMet (K : PySem.W.Frag) (C : Addr) (m : Str) (g : Addr) : Prop where
  rd : PySem.W.readsIn K C (.type "type") = true
  ga : PySem.W.specialIn K (.ref C) "__getattribute__" = some (some (.builtin "type.__getattribute__"))
  me : ∃ p rest, PySem.W.findCls K (.ref C) (.type "type") m = some (.get (.builtin "staticmethod.__get__") (.ref p) .none (.ref C)) ∧ PySem.W.recIn K p "staticmethod" = some (.ref g :: rest)
  kp : PySem.W.keepIn K (.ref g) = true
section
variable {X : Cx} {e o : Expr} {es : List Expr} {pos p apos : Pos} {W : WX} {k : Nat} {x m : Str} {t : DTA} {g C : Addr} {R : DSp} {pins : List (Addr × Obj)} {σ : L2.St} {s : Shared} {H : Hp} {A : Around} {E : Value → Shared → Prop}
end
end SM
namespace SM
open PySem PySem.Spec PyProof.Rows L2
open PySem.W (Looks)
variable {K : PySem.W.Frag} {G G' G2 H H' H2 : Hp} {S S' S2 : Sto}
structure EqF (K : PySem.W.Frag) (c : Nat) (oth : List Nat) (f : Addr) : Prop where
  ot : ∀ c2, oth.contains c2 = true → PySem.W.notFirst K (cad K c) (.ref (cad K c2)) = true
  eq : PySem.W.findIn K (.ref (cad K c)) "__eq__" = some (some (.ref f))
  fn : PySem.W.isFn K (.ref f) = true
  ne : PySem.W.findIn K (.ref (cad K c)) "__ne__" = some (some (.builtin "object.__ne__"))
  mro : PySem.W.mroIn K (cad K c) (.type "object") = some true
section
variable {X : Cx} {k : Nat} {c : Nat} {oth : List Nat} {f : Addr} {fd : FuncData} {ps : List Str} {R : DSp} {A : Around} {pins : List (Addr × Obj)} {σ : L2.St} {s : Shared}
end
end SM
namespace SM
open PySem PySem.Spec PyProof.Rows L2
open PySem.W (Frag)
structure Df where
  ad : Frag → Addr
  name : Str
  qual : Str
  st : Stmt
  dfl : List He.Dv := []
  kwd : List (Str × He.Dv) := []
def Df.val (d : Df) : He.FnW := some (d.name, d.qual, defArgs d.st, .stmts (defBody d.st), defScope d.st, mainGlobals, [], builtinsNs)
def Df.ob (K : Frag) (d : Df) : He.FnW := match K.lookup (d.ad K) with
  | some ⟨_, _, .func g, _⟩ => some (g.name, g.qualname, g.params, g.body, g.scope, g.globals, g.closure, g.builtins)
  | _ => none
def Df.dvs (K : Frag) (d : Df) : List V := d.dfl.map (He.Dv.v K)
def Df.kws (K : Frag) (d : Df) : List (Str × V) := d.kwd.map fun q => (q.1, q.2.v K)
def Df.ok (K : Frag) (d : Df) : Bool := PySem.W.keepIn K (.ref (d.ad K)) && (match K.lookup (d.ad K) with
  | some ⟨_, _, .func g, _⟩ => PySem.W.codeIn K g.code d.qual && (He.dflB K g.defaults (d.dvs K) && He.kwdB K g.kwdefaults (d.kws K))
  | _ => false)
abbrev ChK := List (Frag → Bool)
end SM
namespace SM
open PySem PySem.Spec PyProof.Rows L2
variable {K : PySem.W.Frag} {G G' G2 H H' H2 : Hp} {S S' S2 : Sto}
def Fz (K : PySem.W.Frag) (H : Hp) (a : Addr) (xs : List V) : Prop := (∃ o, H a = some (.frz o (.lst xs))) ∨
  ∃ (o : Obj) (its : Array Value) (n : Nat), K.lookup a = some o ∧ o.cls = .type "list" ∧ o.dict = none ∧ o.data = .seq its n ∧ its.size ≤ sizeLine ∧ Vals xs its.toList
theorem Fz.of {a : Addr} {xs : List V} (o : Only H) (h : SqL K H a xs) : Fz K H a xs := by
  rcases h with (h | h) | h
  · rcases o a with q | ⟨w, ys, q⟩
    · rw [q] at h; cases h
    · rw [q] at h; cases h
  · exact .inl h
  · exact .inr h
theorem Fz.inv {X : Cx} {pins : List (Addr × Obj)} {σ : L2.St} {s : Shared} {a : Addr} {xs : List V} (h : Fz X.K X.H_0 a xs) (I : Inv X pins σ H s) : Fz X.K H a xs := by
  rcases h with ⟨o, h⟩ | h
  · exact .inl ⟨o, I.base.frzs a o _ h⟩
  · exact .inr h
def spScr (K : PySem.W.Frag) (n : Nat) (R : Addr → List Int → DSp) : Sp := fun vs H Q E => ∃ a ns, vs = [.ref a] ∧ Fz K H a (ns.map V.int) ∧ ns.length ≤ n ∧ toSp K (R a ns) vs H Q E
section
variable {P : Program} {w : World} {mg : Str → Option Value} {base : Heap}
end
section
variable {X : Cx} {e : Expr} {es : List Expr} {pos p p2 : Pos} {k n : Nat} {x : Str} {t : DTA} {f a : Addr} {fd : FuncData} {ps : List Str} {R : Addr → List Int → DSp} {ns : List Int}
end
end SM
namespace SM
open PySem PySem.Spec PyProof.Rows L2
variable {S : Sto}
structure Gf (P : Program) (w : World) (K : PySem.W.Frag) (mg : Str → Option Value) (base : Heap) (k : Nat) (x : Str) (ps : List Str) (R : DSp) : Prop where
  ex : ∃ f fd, FnOk P w K mg base (L2N.CX P w) k f fd ps (toSp K R) ∧ mg x = some (.ref f) ∧ PySem.W.keepIn K (.ref f) = true ∧ Binds K fd ps []
structure Gm (P : Program) (w : World) (K : PySem.W.Frag) (mg : Str → Option Value) (base : Heap) (k : Nat) (c : Nat) (m : Str) (ps : List Str) (R : DSp) : Prop where
  ex : ∃ f fd, FnOk P w K mg base (L2N.CX P w) k f fd ps (toSp K R) ∧ MOk K c m f ∧ Binds K fd ps []
structure Gi (P : Program) (w : World) (K : PySem.W.Frag) (mg : Str → Option Value) (base : Heap) (k : Nat) (c : Nat) (x : Str) (ps : List Str) (R : DSp) : Prop where
  ex : ∃ f fd, FnOk P w K mg base (L2N.CX P w) k f fd ps (toSp K R) ∧ mg x = some (.ref (cad K c)) ∧ Mk K (cad K c) f ∧ Binds K fd ps []
section
variable {X : Cx} {e o : Expr} {es : List Expr} {pos p apos : Pos} {k j : Nat} {x m : Str} {t : DTA} {ps : List Str} {R : DSp}
end
end SM
namespace SM
open PySem PySem.Spec PyProof.Rows L2
variable {K : PySem.W.Frag} {G G' G2 H H' H2 : Hp} {S S' S2 : Sto}
abbrev ends (QD : DQ) (XD : XQ) : DEnds := ⟨fun _ S' => QD .non S', QD, fun _ _ => False, fun _ _ => False, fun x _ S' => XD x S'⟩
def ti_int : List (Nat × Bool) := [(102, true), (101, true), (100, false), (103, false), (104, false), (105, false)]
def ti_bool : List (Nat × Bool) := [(102, false), (101, true), (100, false), (103, false), (104, false), (105, false)]
def fokB (K : PySem.W.Frag) (fl : Str) (tbl : List (Nat × Nat)) : Bool := tbl.all fun p => (He.Fa.cls (cnm p.1)).ok K && ((He.Fa.noat (cnm p.1) fl).ok K && (decide ((cfs p.1)[p.2]? = some fl) && decide (cfs p.1).Nodup))
section
variable {P : Program} {w : World} {mg : Str → Option Value} {base : Heap}
structure Ge (P : Program) (w : World) (K : PySem.W.Frag) (mg : Str → Option Value) (base : Heap) (k : Nat) (c : Nat) (oth : List Nat) (ps : List Str) (R : DSp) : Prop where
  ex : ∃ f fd, FnOk P w K mg base (L2N.CX P w) k f fd ps (toSp K R) ∧ Binds K fd ps [] ∧ EqF K c oth f
structure Gs (P : Program) (w : World) (K : PySem.W.Frag) (mg : Str → Option Value) (base : Heap) (k : Nat) (c : Nat) (x m : Str) (R : DSp) : Prop where
  ex : ∃ g, SMet K (cad K c) m g ∧ FnR P w K mg base (L2N.CX P w) k g (toSp K R) ∧ mg x = some (.ref (cad K c))
end
section
variable {X : Cx} {e o a b : Expr} {es : List Expr} {pos p apos : Pos} {k j : Nat} {x m : Str} {t : DTA} {te : DTE} {ps : List Str} {R : DSp} {c : Nat} {oth : List Nat}
structure Gz (P : Program) (w : World) (K : PySem.W.Frag) (mg : Str → Option Value) (base : Heap) (k : Nat) (x : Str) (ps : List Str) (n : Nat) (R : Addr → List Int → DSp) : Prop where
  ex : ∃ f fd, FnOk P w K mg base (L2N.CX P w) k f fd ps (spScr K n R) ∧ mg x = some (.ref f) ∧ PySem.W.keepIn K (.ref f) = true ∧ Binds K fd ps []
end
end SM
namespace SM
open PySem PySem.Spec PyProof.Rows L2
variable {K : PySem.W.Frag} {G G' G2 H H' H2 : Hp} {S S' S2 : Sto}
section
variable {P : Program} {w : World} {mg : Str → Option Value} {base : Heap}
end
end SM
namespace SM
open PySem PySem.Spec PyProof.Rows L2
variable {K : PySem.W.Frag} {G G' G2 H H' H2 : Hp} {S S' S2 : Sto}
structure Go (P : Program) (w : World) (K : PySem.W.Frag) (mg : Str → Option Value) (base : Heap) (k : Nat) (c : Nat) (m : Str) (ps : List Str) (R : DSp) : Prop where
  ex : ∃ f fd, FnOk P w K mg base (L2N.CX P w) k f fd ps (toSp K R) ∧ Binds K fd ps [] ∧ Meth K (cad K c) m f
section
variable {X : Cx} {e o a b : Expr} {es : List Expr} {pos p apos : Pos} {k j : Nat} {x m : Str} {t : DTA} {te ta tb : DTE} {ps : List Str} {R : DSp} {c : Nat} {f : Addr} {fd : FuncData} {A : Around} {pins : List (Addr × Obj)} {σ : L2.St} {s : Shared} {W : WX}
end
end SM
namespace SM
open PySem PySem.Spec PyProof.Rows L2 TL
variable {K : PySem.W.Frag} {G G' G2 H H' H2 : Hp} {S S' S2 : Sto}
section
variable {X : Cx} {e o a b : Expr} {es : List Expr} {pos p apos : Pos} {k j : Nat} {x m : Str} {t : DTA} {te ta tb : DTE} {ps : List Str} {R : DSp} {c : Nat} {W : WX}
def dJs : List DTE → Str → DS → Sto → (Str → Sto → Prop) → XQ → Prop
  | [], acc, _, S, Q, _ => Q acc S
  | t :: ts, acc, δ, S, Q, X => t δ S (fun x S1 => match x with
    | .str y => (acc.length + y.length ≤ sizeLine) ∧ dJs ts (acc ++ y) δ S1 Q X
    | _ => False) X
structure PDJ (X : Cx) (es : List Expr) (ts : List DTE) : Prop where
  run : ∀ W, L2N.Takes X W → ∃ us, PJ X es us ∧ ∀ acc, okS acc → ∀ σ H Q, (∃ G δ S QD XD, RpE X.K G σ δ ∧ Rel X.K G H S ∧ dJs ts acc δ S QD XD ∧ (∀ G' H' S' o, Stp X.K G H S G' H' S' → okS o → QD o S' → Q o H') ∧ KX X.K W σ G H S XD) → tJs us acc σ H Q
end
end SM
namespace PySem.W
open PySem
section
variable {prog : Program} {w : World} {A : Around} {E : Value → Shared → Prop} {s : Shared} {K : Frag} {x C L f : Addr} {h₀ : Heap} {m : Str → Option Value} {ox : Obj} {od : Option Obj}
end
end PySem.W
namespace SM
open PySem PySem.Spec PyProof.Rows L2
variable {K : PySem.W.Frag} {G G' G2 H H' H2 : Hp} {S S' S2 : Sto}
section
variable {X : Cx} {e o a b : Expr} {es : List Expr} {pos p apos : Pos} {k j : Nat} {x m : Str} {t : DTA} {te ta tb : DTE} {ps : List Str} {R : DSp} {c : Nat} {W : WX}
end
end SM
namespace SM
open PySem PySem.Spec PyProof.Rows L2
variable {K : PySem.W.Frag} {G G' G2 H H' H2 : Hp} {S S' S2 : Sto}
section
variable {X : Cx} {e o a b : Expr} {es : List Expr} {pos p apos : Pos} {k j : Nat} {x m : Str} {t : DTA} {te ta tb : DTE} {ps : List Str} {R : DSp} {c : Nat} {W : WX}
end
end SM
namespace SM
open PySem PySem.Spec PyProof.Rows L2
variable {K : PySem.W.Frag} {G G' G2 H H' H2 : Hp} {S S' S2 : Sto}
def spE (C : Addr) (fls : List Str) : Sp := fun vs H Q _ => ∃ a ws, vs = .ref a :: ws ∧ ws.length = fls.length ∧ H a = some (exo a C none) ∧
  ∀ H' d fs, H' a = some (exo a C (some d)) → H' d = some (exd d fs) → H d = none → d ≠ a → (∀ b, b ≠ a → b ≠ d → H' b = H b) → (∀ (j : Nat) (fl : Str) (v : V), fls[j]? = some fl → ws[j]? = some v → fs.lookup fl = some v) → Q .non H'
section
variable {P : Program} {w : World} {mg : Str → Option Value} {base : Heap} {qual : Str} {params : Arguments} {scope : Scope} {f : Addr} {fd : FuncData} {c : Nat} {x y : Str} {p1 p2 p3 p4 q1 q2 q3 q4 : Pos}
end
structure Gx (P : Program) (w : World) (K : PySem.W.Frag) (mg : Str → Option Value) (base : Heap) (c : Nat) (x : Str) : Prop where
  ex : ∃ f fd ps, FnOk P w K mg base (L2N.CX P w) 1 f fd ps (spE (cad K c) (cfs c)) ∧ OexC K (cad K c) ∧ PySem.W.findIn K (.ref (cad K c)) "__init__" = some (some (.ref f)) ∧ PySem.W.typeIn K (.ref f) = some (.type "function") ∧ Binds K fd ps [] ∧ mg x = some (.ref (cad K c))
section
variable {X : Cx} {e : Expr} {es : List Expr} {pos p pos' : Pos} {k j : Nat} {x : Str} {t : DTA} {c : Nat} {W : WX}
end
end SM
namespace PySem.W
open PySem
section
variable {prog : Program} {w : World} {M : Model} {A : Around} {E : Value → Shared → Prop} {s : Shared} {K : Frag} {x C L f : Addr} {h₀ : Heap} {m : Str → Option Value} {ox : Obj} {od : Option Obj} {nm : String}
end
end PySem.W
namespace SM
open PySem PySem.Spec PyProof.Rows L2
variable {K : PySem.W.Frag} {G G' G2 H H' H2 : Hp} {S S' S2 : Sto}
section
variable {X : Cx} {e o a b : Expr} {es : List Expr} {pos p pos' p1 p2 p3 : Pos} {k j : Nat} {x m : Str} {t : DTA} {te ta tb : DTE} {ps : List Str} {R : DSp} {c : Nat} {W : WX}
structure NoI (K : PySem.W.Frag) (c : Nat) (op : Operator) : Prop where
  ex : ∃ cd, PySem.W.clsIn K (cad K c) = some cd ∧ cd.mro = [.ref (cad K c), .type "object"]
  h1 : PySem.W.findIn K (.ref (cad K c)) (PySem.dunderI op.info.2) = some none
  h2 : PySem.W.findIn K (.type "object") (PySem.dunderI op.info.2) = some none
end
end SM
namespace SM
open PySem PySem.Spec PyProof.Rows L2
variable {K : PySem.W.Frag} {G G' G2 H H' H2 : Hp} {S S' S2 : Sto}
section
variable {X : Cx} {e a b : Expr} {p pos tpos : Pos} {elts : List Expr} {kk : Nat} {t : DTA}
end
end SM
namespace SM
open PySem PySem.Spec PyProof.Rows L2
variable {K : PySem.W.Frag} {G G' G2 H H' H2 G0 H0 : Hp} {S S' S2 S0 : Sto}
def dLc2L (gd : Gd) (q : Pat) (tt : DTT) (ti1 : DTI) (q1 : Pat) (tt1 : DTT) (te : DTE) (vs1 : List Nat) (δ : DS) : List D → Sto → (List D → Sto → Prop) → Prop
  | [], S, Q => gok gd S ∧ Q [] S
  | x :: r, S, Q => gok gd S ∧ match bindP q x δ with
    | some δ2 => tt δ2 S (fun b S3 => brn b (ti1 δ2 S3 (fun gd1 ys S4 => ys.length ≤ 1000 ∧ dLcL gd1 q1 tt1 te (uns δ2 vs1) ys S4 (fun ds S5 => dLc2L gd q tt ti1 q1 tt1 te vs1 δ r S5 (fun ds' S6 => Q (ds ++ ds') S6))) noX) (dLc2L gd q tt ti1 q1 tt1 te vs1 δ r S3 Q)) noX
    | none => False
structure lc2K (gd : Gd) (q : Pat) (tt : DTT) (ti1 : DTI) (q1 : Pat) (tt1 : DTT) (te : DTE) (vs1 : List Nat) (δ : DS) (xs : List D) (S : Sto) (Q : List D → Sto → Prop) : Prop where
  it : xs.length ≤ 1000 ∧ dLc2L gd q tt ti1 q1 tt1 te vs1 δ xs S Q
section
variable {W : WX}
end
section
variable {X : Cx} {elt tg iter tg1 iter1 : Expr} {ifs ifs1 : List Expr} {scope : Scope} {own : List (Str × Nat)} {vs1 : List Nat} {ti ti1 : DTI} {q q1 : Pat} {tt tt1 : DTT} {te : DTE} {pos : Pos}
end
end SM
namespace SM
open PySem PySem.Spec PyProof.Rows L2
variable {K : PySem.W.Frag} {G G' G2 H H' H2 : Hp} {S S' S2 : Sto}
structure Gc (P : Program) (w : World) (K : PySem.W.Frag) (mg : Str → Option Value) (base : Heap) (k : Nat) (c : Nat) (x m : Str) (ps : List Str) (R : DSp) : Prop where
  ex : ∃ p g fd, ClX.CRead K (cad K c) (.type "type") ∧ ClX.CMet K (cad K c) (.type "type") m p g ∧ FnOk P w K mg base (L2N.CX P w) k g fd ps (toSp K R) ∧ Binds K fd ps [] ∧ mg x = some (.ref (cad K c))
section
variable {X : Cx} {e o : Expr} {es : List Expr} {pos p apos : Pos} {W : WX} {k j i : Nat} {x m : Str} {t : DTA} {te : DTE} {ps : List Str} {R : DSp} {c : Nat} {g C : Addr} {pins : List (Addr × Obj)} {σ : L2.St} {s : Shared}
structure CStr (K : PySem.W.Frag) (mg : Str → Option Value) (c : Nat) (x f z : Str) : Prop where
  ex : ∃ u, ClX.CRead K (cad K c) (.type "type") ∧ ClX.CVal K (cad K c) (.type "type") f (.str z) u ∧ mg x = some (.ref (cad K c))
end
def creadB (K : PySem.W.Frag) (c : Nat) : Bool := PySem.W.readsIn K (cad K c) (.type "type") && decide (PySem.W.specialIn K (.ref (cad K c)) "__getattribute__" = some (some (.builtin "type.__getattribute__")))
def cmP (K : PySem.W.Frag) (C : Addr) (m : Str) : Addr := match PySem.W.findCls K (.ref C) (.type "type") m with
  | some (.get _ (.ref p) _ _) => p
  | _ => 0
def cmAd (K : PySem.W.Frag) (C : Addr) (m : Str) : Addr := match PySem.W.recIn K (cmP K C m) "classmethod" with
  | some (.ref g :: _) => g
  | _ => 0
def cmB (K : PySem.W.Frag) (c : Nat) (m : Str) : Bool := creadB K c && (PySem.W.fnIn K (cmAd K (cad K c) m) && ((match PySem.W.recIn K (cmP K (cad K c) m) "classmethod" with
  | some (.ref _ :: _) => true
  | _ => false) && (match PySem.W.findCls K (.ref (cad K c)) (.type "type") m with
    | some (.get (.builtin b) (.ref _) .none (.ref C)) => decide (b = "classmethod.__get__") && decide (C = cad K c)
    | _ => false)))
section
variable {X : Cx}
end
end SM
namespace SM
open PySem PySem.Spec PyProof.Rows L2
variable {K : PySem.W.Frag} {G G' G2 H H' H2 : Hp} {S S' S2 : Sto}
def oexClsB (K : PySem.W.Frag) (C : Addr) : Bool := match K.lookup C with
  | some ⟨.type "type", _, .cls cd, ⟨[_, _, _, _, some (.builtin n), _]⟩⟩ => (match cd.mro with
    | .ref C' :: bm => decide (C' = C) && (decide (n = "ValueError.__new__") && (!cd.hasDel && (cd.hasDict && PySem.HandSPX.refsVE bm)))
    | _ => false)
  | _ => false
def oexB (K : PySem.W.Frag) (c : Nat) : Bool := oexClsB K (cad K c) && (He.eqO (PySem.W.findIn K (.ref (cad K c)) "__setattr__") (some (some (.builtin "object.__setattr__"))) && (decide (PySem.W.subIn K (.ref (cad K c)) (.type "BaseException") = some true) && (decide (PySem.W.typeIn K (.ref (cad K c)) = some (.type "type")) && PySem.W.keepIn K (.ref (cad K c)))))
def oinB (K : PySem.W.Frag) (c : Nat) : Bool := He.eqO (PySem.W.findIn K (.ref (cad K c)) "__init__") (some (some (.ref (He.ma K (cad K c) "__init__")))) && (decide (PySem.W.typeIn K (.ref (He.ma K (cad K c) "__init__")) = some (.type "function")) && (cfs c).all fun f => He.eqO (PySem.W.findIn K (.ref (cad K c)) f) (some none))
section
variable {P : Program} {w : World} {mg : Str → Option Value} {base : Heap} {c : Nat} {x y z qual : Str} {params : Arguments} {scope : Scope} {fd : FuncData} {p1 p2 p3 p4 q1 q2 q3 q4 : Pos}
end
end SM
namespace SM
open PySem PySem.Spec PyProof.Rows L2
variable {K : PySem.W.Frag} {G G' G2 H H' H2 : Hp} {S S' S2 : Sto}
def EmOk (K : PySem.W.Frag) (cv : Value) (tab : List (Nat × Bool)) : Prop := ∀ c b, tab.lookup c = some b → PySem.W.exmOne K (.ref (cad K c)) cv = some b
def emB (K : PySem.W.Frag) (cv : Value) (tab : List (Nat × Bool)) : Bool := tab.all fun p => decide (PySem.W.exmOne K (.ref (cad K p.1)) cv = some p.2)
theorem Rx.rp {cls : Value} {d : Option Addr} {x : Exn} {a : Addr} (h : Rx K G cls d x) : Rp K G (.ref a) (.exn a d x.c x.ds) := by
  obtain ⟨_, h⟩ := h
  rcases h with ⟨h1, h2⟩ | ⟨dd, fs, vs, h1, h2, h3, h4, h5⟩
  · rw [h1, h2]; exact .exn0 _
  · rw [h1]; exact .exn h2 h3 h4 h5
structure Cgt (K : PySem.W.Frag) (oe : Obj) (c : Nat) (d : Option Addr) : Prop where
  zn : L2N.Zn (.ref (cad K c)) d oe
  fl : ∃ vs, oe.data = .fields vs
section
variable {X : Cx} {x n : Str} {cv : Value} {i : Nat} {body suite : List Stmt} {b₀ : Stmt} {np pos pos' : Pos} {tb : DTS} {ts : Addr → Option Addr → Nat → DTS} {tab : List (Nat × Bool)}
end
end SM
namespace SM
open PySem PySem.Spec PyProof.Rows L2
variable {K : PySem.W.Frag} {G G' G2 H H' H2 : Hp} {S S' S2 : Sto}
def fxB (K : PySem.W.Frag) (fl : Str) (tbl : List (Nat × Nat)) : Bool := tbl.all fun p => xfB K (cad K p.1) && (He.eqO (PySem.W.findIn K (.ref (cad K p.1)) fl) (some none) && decide ((cfs p.1)[p.2]? = some fl))
section
variable {X : Cx} {a : Addr} {oe : Obj} {c : Nat} {d : Option Addr} {pn : List (Addr × Obj)} {e : Expr} {te : DTE} {fl : Str} {pos : Pos} {tbl : List (Nat × Nat)}
end
section
variable {X : Cx} {a : Addr} {oe : Obj} {c : Nat} {d : Option Addr} {pn : List (Addr × Obj)} {e : Expr} {te : DTE} {pos p : Pos} {tab : List (Nat × Bool)}
end
end SM
namespace SM
open PySem PySem.Spec PyProof.Rows L2
variable {K : PySem.W.Frag} {G G' G2 H H' H2 : Hp} {S S' S2 : Sto}
section
variable {P : Program} {w : World} {mg : Str → Option Value} {base : Heap}
end
structure GfH (P : Program) (w : World) (K : PySem.W.Frag) (mg : Str → Option Value) (base : Heap) (k : Nat) (x : Str) (ps : List Str) (R : DSp) : Prop where
  ex : ∃ f fd, L2H.FnH P w K mg base (L2N.CX P w) k f fd ps (toSp K R) ∧ mg x = some (.ref f) ∧ PySem.W.keepIn K (.ref f) = true ∧ Binds K fd ps []
section
variable {X : Cx} {e : Expr} {es : List Expr} {pos p : Pos} {k j : Nat} {x : Str} {t : DTA} {ps : List Str} {R : DSp}
end
end SM
namespace SM
open PySem PySem.Spec PyProof.Rows L2
variable {K : PySem.W.Frag}
def excB (K : PySem.W.Frag) (D : Addr) : Bool := He.eqO (PySem.W.findIn K (.ref D) "__getattribute__") (some (some (.builtin "BaseException.__getattribute__"))) && (He.eqO (PySem.W.findIn K (.ref D) "__getattr__") (some none) && (decide (PySem.W.subIn K (.ref D) (.type "BaseException") = some true) && (PySem.W.hasDictIn K D &&
  (He.eqO (PySem.W.findIn K (.ref D) "__class__") (some (some (.builtin "object.__class__"))) && (He.eqO (PySem.W.specialIn K (.builtin "object.__class__") "__get__") (some (some (.builtin "getset_descriptor.__get__"))) && (decide (PySem.W.takesIn K (.builtin "object.__class__") = some true) && (decide (PySem.W.mroIn K D (.type "object") = some true) && (PySem.W.clsIn K D).isSome)))))))
def ixB (K : PySem.W.Frag) (cv : Value) (tab : List (Nat × Bool)) : Bool := tab.all fun p => excB K (cad K p.1) && decide (PySem.W.kitOne K (.ref (cad K p.1)) cv = some p.2)
section
variable {P : Program} {w : World} {mg : Str → Option Value} {base : Heap}
end
end SM
namespace SM
open PySem PySem.Spec PyProof.Rows L2
variable {K : PySem.W.Frag} {G H : Hp} {S : Sto}
end SM
namespace SM
open PySem PySem.Spec PyProof.Rows L2
variable {K : PySem.W.Frag} {G G' G2 H H' H2 : Hp} {S S' S2 : Sto}
def ofEnds (D : Ends) : Option Nat → Ends
  | none => D
  | some i => { nx := fun σ' H' => D.nx (σ'.set i none) H', rt := D.rt, bk := fun σ' H' => D.bk (σ'.set i none) H', ct := fun σ' H' => D.ct (σ'.set i none) H' }
def atSt (σ : L2.St) (a : Addr) : Option Nat → L2.St
  | none => σ
  | some i => σ.set i (some (.ref a))
abbrev Cl := Value × Option Nat × (Addr → Value → Option Addr → TS)
def wCl (K : PySem.W.Frag) (Wo : WX) (D : Ends) : List Cl → WX
  | [] => Wo
  | (c, oi, ts) :: r => fun cls d σ H =>
    ∃ b, PySem.W.exmOne K cls c = some b ∧ (b = true → ∀ a, H a = none → ts a cls d (ofEnds D oi) (atSt σ a oi) H) ∧ (b = false → wCl K Wo D r cls d σ H)
inductive ClsOk (X : Cx) : List ExceptHandler → List Cl → Prop
  | nil : ClsOk X [] []
  | plain {x : Str} {c : Value} {ts : Addr → Value → Option Addr → TS} {b0 : Stmt} {su : List Stmt} {np p2 : Pos} {hds : List ExceptHandler} {l : List Cl}
      (hc : Names X x c)
      (hsu : ∀ (a : Addr) (oe : Obj) (cls : Value) (d : Option Addr) (pn : List (Addr × Obj)),
        L2N.Zn cls d oe → (∃ vs, oe.data = .fields vs) → PSs (X.suite a ((a, oe) :: pn)) (b0 :: su) (ts a cls d))
      (r : ClsOk X hds l) : ClsOk X (.ExceptHandler (some (.Name x np)) none (b0 :: su) p2 :: hds) ((c, none, ts) :: l)
  | named {x n : Str} {c : Value} {i : Nat} {ts : Addr → Value → Option Addr → TS} {b0 : Stmt} {su : List Stmt} {np p2 : Pos} {hds : List ExceptHandler} {l : List Cl}
      (hN : X.N.Nodup) (hi : X.N[i]? = some n) (hln : X.env.kindOf n = some .local) (hc : Names X x c)
      (hsu : ∀ (a : Addr) (oe : Obj) (cls : Value) (d : Option Addr) (pn : List (Addr × Obj)),
        L2N.Zn cls d oe → (∃ vs, oe.data = .fields vs) → PSs (X.suite a ((a, oe) :: pn)) (b0 :: su) (ts a cls d))
      (r : ClsOk X hds l) : ClsOk X (.ExceptHandler (some (.Name x np)) (some n) (b0 :: su) p2 :: hds) ((c, some i, ts) :: l)
section
variable {X : Cx} {body : List Stmt} {h0 : ExceptHandler} {hds : List ExceptHandler} {l : List Cl} {pos : Pos} {tb : WX → TS} {Wo : WX}
end
abbrev DCl := List (Nat × Bool) × Option Nat × (Addr → Option Addr → Nat → DTS)
def dEnds (E : DEnds) : Option Nat → DEnds
  | none => { nx := E.nx, rt := E.rt, bk := E.bk, ct := E.ct, xc := fun _ _ _ => False }
  | some i => { nx := fun δ S => E.nx (unset δ i) S, rt := E.rt, bk := fun δ S => E.bk (unset δ i) S, ct := fun δ S => E.ct (unset δ i) S, xc := fun _ _ _ => False }
def dAt (δ : DS) (a : Addr) (d : Option Addr) (x : Exn) : Option Nat → DS
  | none => δ
  | some i => put δ i (.exn a d x.c x.ds)
def trXs (E : DEnds) : List DCl → Exn → DS → Sto → Prop
  | [], x, δ', S' => E.xc x δ' S'
  | (tab, oi, ts) :: r, x, δ', S' => match tab.lookup x.c with
    | some true => ∀ a d, ts a d x.c (dEnds E oi) (dAt δ' a d x oi) S'
    | some false => trXs E r x δ' S'
    | none => False
inductive DClOk (X : Cx) : List ExceptHandler → List DCl → Prop
  | nil : DClOk X [] []
  | plain {x : Str} {cv : Value} {tab : List (Nat × Bool)} {ts : Addr → Option Addr → Nat → DTS} {b0 : Stmt} {su : List Stmt} {np p2 : Pos} {hds : List ExceptHandler} {l : List DCl}
      (hc : Names X x cv) (em : EmOk X.K cv tab)
      (hsu : ∀ (a : Addr) (oe : Obj) (c : Nat) (d : Option Addr) (pn : List (Addr × Obj)), Cgt X.K oe c d → PDSs (X.suite a ((a, oe) :: pn)) (b0 :: su) (ts a d c))
      (r : DClOk X hds l) : DClOk X (.ExceptHandler (some (.Name x np)) none (b0 :: su) p2 :: hds) ((tab, none, ts) :: l)
  | named {x n : Str} {cv : Value} {i : Nat} {tab : List (Nat × Bool)} {ts : Addr → Option Addr → Nat → DTS} {b0 : Stmt} {su : List Stmt} {np p2 : Pos} {hds : List ExceptHandler} {l : List DCl}
      (hN : X.N.Nodup) (hi : X.N[i]? = some n) (hln : X.env.kindOf n = some .local) (hc : Names X x cv) (em : EmOk X.K cv tab)
      (hsu : ∀ (a : Addr) (oe : Obj) (c : Nat) (d : Option Addr) (pn : List (Addr × Obj)), Cgt X.K oe c d → PDSs (X.suite a ((a, oe) :: pn)) (b0 :: su) (ts a d c))
      (r : DClOk X hds l) : DClOk X (.ExceptHandler (some (.Name x np)) (some n) (b0 :: su) p2 :: hds) ((tab, some i, ts) :: l)
def liftCl (X : Cx) (ts : Addr → Option Addr → Nat → DTS) : Addr → Value → Option Addr → TS := fun a cls d D σ H => ∃ c, cls = .ref (cad X.K c) ∧ liftS X.K (fun _ _ _ _ => False) (ts a d c) D σ H
theorem DClOk.ok {X : Cx} {W : WX} : ∀ {hds : List ExceptHandler} {l : List DCl}, DClOk X hds l → ∃ l' : List Cl, ClsOk X hds l' ∧
    ∀ {D : Ends} {E : DEnds} {G0 H0 : Hp} {S0 : Sto}, ER X.K W G0 H0 S0 E D → ∀ {G H : Hp} {S : Sto} {σ : L2.St} {δ : DS} {cls : Value} {d : Option Addr} {x : Exn}, Stp X.K G0 H0 S0 G H S → RpE X.K G σ δ → Rx X.K G cls d x →
      trXs E l x δ S → wCl X.K W D l' cls d σ H := by
  intro hds l h
  induction h with
  | nil => exact ⟨[], .nil, fun er _ _ _ _ _ _ _ _ st re rx q => er.xc _ _ _ _ _ _ _ _ st re rx q⟩
  | @plain x0 cv tab ts b0 su np p2 hd2 l2 hc em hsu r ih =>
    obtain ⟨l', ok', go⟩ := ih
    refine ⟨(cv, none, liftCl X ts) :: l', .plain hc (fun a oe cls d pn hz hff => ⟨fun pins s σ H D I h => ?_⟩) ok', fun er G' H' S' σ' δ' cls d x st re' rx q => ?_⟩
    · obtain ⟨c, rfl, h⟩ := h
      exact ((hsu a oe c d pn ⟨hz, hff⟩).run _ takes0N PassesOwn.never).run pins s σ H D I h
    · have ec := rx.1
      subst ec
      revert q
      show (match tab.lookup x.c with | some true => _ | some false => _ | none => _) → _
      cases hl : tab.lookup x.c with
      | none => exact fun z => z.elim
      | some b =>
        cases b with
        | false => exact fun q => ⟨false, em _ _ hl, fun z => Bool.noConfusion z, fun _ => go er st re' rx q⟩
        | true =>
          intro q
          refine ⟨true, em _ _ hl, fun _ a ha => ⟨x.c, rfl, G', _, S', _, re', st.rel, q a d, ?_⟩, fun z => Bool.noConfusion z⟩
          exact ⟨fun G2 H2 S2 σ2 δ2 s2 r2 z => er.nx _ _ _ _ _ (st.trans s2) r2 z, fun G2 H2 S2 v d2 s2 r2 z => er.rt _ _ _ _ _ (st.trans s2) r2 z, fun G2 H2 S2 σ2 δ2 s2 r2 z => er.bk _ _ _ _ _ (st.trans s2) r2 z, fun G2 H2 S2 σ2 δ2 s2 r2 z => er.ct _ _ _ _ _ (st.trans s2) r2 z, fun _ _ _ _ _ _ _ _ _ _ _ z => z⟩
  | @named x0 n cv i tab ts b0 su np p2 hd2 l2 hN hi hln hc em hsu r ih =>
    obtain ⟨l', ok', go⟩ := ih
    refine ⟨(cv, some i, liftCl X ts) :: l', .named hN hi hln hc (fun a oe cls d pn hz hff => ⟨fun pins s σ H D I h => ?_⟩) ok', fun er G' H' S' σ' δ' cls d x st re' rx q => ?_⟩
    · obtain ⟨c, rfl, h⟩ := h
      exact ((hsu a oe c d pn ⟨hz, hff⟩).run _ takes0N PassesOwn.never).run pins s σ H D I h
    · have ec := rx.1
      subst ec
      revert q
      show (match tab.lookup x.c with | some true => _ | some false => _ | none => _) → _
      cases hl : tab.lookup x.c with
      | none => exact fun z => z.elim
      | some b =>
        cases b with
        | false => exact fun q => ⟨false, em _ _ hl, fun z => Bool.noConfusion z, fun _ => go er st re' rx q⟩
        | true =>
          intro q
          refine ⟨true, em _ _ hl, fun _ a ha => ⟨x.c, rfl, G', _, S', _, re'.put i rx.rp, st.rel, q a d, ?_⟩, fun z => Bool.noConfusion z⟩
          exact ⟨fun G2 H2 S2 σ2 δ2 s2 r2 z => er.nx _ _ _ _ _ (st.trans s2) (r2.unset i) z, fun G2 H2 S2 v d2 s2 r2 z => er.rt _ _ _ _ _ (st.trans s2) r2 z, fun G2 H2 S2 σ2 δ2 s2 r2 z => er.bk _ _ _ _ _ (st.trans s2) (r2.unset i) z, fun G2 H2 S2 σ2 δ2 s2 r2 z => er.ct _ _ _ _ _ (st.trans s2) (r2.unset i) z, fun _ _ _ _ _ _ _ _ _ _ _ z => z⟩
end SM
namespace SM
open PySem PySem.Spec PyProof.Rows L2
variable {K : PySem.W.Frag} {G G' G2 H H' H2 : Hp} {S S' S2 : Sto}
def veB : List Value := [.type "ValueError", .type "Exception", .type "BaseException", .type "object"]
structure Gx0 (K : PySem.W.Frag) (mg : Str → Option Value) (c : Nat) (x : Str) : Prop where
  q : PySem.W.excIn K (cad K c) veB "ValueError.__new__" = true
  kC : PySem.W.keepIn K (.ref (cad K c)) = true
  exC : PySem.W.subIn K (.ref (cad K c)) (.type "BaseException") = some true
  tyC : PySem.W.typeIn K (.ref (cad K c)) = some (.type "type")
  hm : mg x = some (.ref (cad K c))
section
variable {X : Cx} {pos p pos' : Pos} {x : Str} {c : Nat}
end
end SM
namespace SM
open PySem PySem.Spec PyProof.Rows L2
variable {K : PySem.W.Frag} {G G' G2 H H' H2 : Hp} {S S' S2 : Sto}
structure GeH (P : Program) (w : World) (K : PySem.W.Frag) (mg : Str → Option Value) (base : Heap) (k : Nat) (c : Nat) (oth : List Nat) (ps : List Str) (R : DSp) : Prop where
  ex : ∃ f fd, L2H.FnH P w K mg base (L2N.CX P w) k f fd ps (toSp K R) ∧ Binds K fd ps [] ∧ EqF K c oth f
section
variable {X : Cx} {k j : Nat} {c : Nat} {oth : List Nat} {ps : List Str} {R : DSp}
end
end SM
namespace SM
open PySem PySem.Spec PyProof.Rows L2
variable {K : PySem.W.Frag} {G G' G2 H H' H2 : Hp} {S S' S2 : Sto}
section
variable {X : Cx} {a b : Expr} {pos : Pos} {k j : Nat} {ta tb : DTE} {ps : List Str} {R : DSp} {c : Nat}
end
end SM
namespace SM
open PySem PySem.Spec PyProof.Rows L2
variable {K : PySem.W.Frag} {G G' G2 H H' H2 : Hp} {S S' S2 : Sto}
section
variable {X : Cx} {k : Nat}
end
end SM
namespace SM
open PySem PySem.Spec PyProof.Rows L2
variable {K : PySem.W.Frag} {G G' G2 H H' H2 : Hp} {S S' S2 : Sto}
structure FunS (K : PySem.W.Frag) (x qual : Str) (params : Arguments) (body : List Stmt) (scope : Scope) (f : Addr) (fd : FuncData) (cc c : Addr) : Prop where
  ex : ∃ (oc : Value) (od : Option Addr) (dV kV doc pm : Value) (an : Option Addr) (ct : Value) (osl : Array (Option Value)),
    fd = PySem.W.fnX x qual params body scope [("__class__", cc)] dV kV doc pm an (.ref c) ct ∧ K.lookup f = some ⟨oc, od, .func fd, osl⟩ ∧ PySem.W.codeIn K (.ref c) qual = true ∧ DflV K dV [] ∧ KwdV K kV []
  kp : PySem.W.keepIn K (.ref f) = true
structure SupF (P : Program) (K : PySem.W.Frag) (mg : Str → Option Value) (cc c D f2 : Addr) (cs : List Nat) : Prop where
  cell : ∃ cl cld csl, K.lookup cc = some ⟨cl, cld, .cell (some (.ref D)), csl⟩
  code : ∃ ccl cdd vs ccs tf, K.lookup c = some ⟨ccl, cdd, .fields vs, ccs⟩ ∧ vs[2]? = some (.str P.main.file tf)
  cls : ∃ cd, PySem.W.clsIn K D = some cd
  top : (P.main.scope.names.lookup ("super" : Str)).isSome = false
  ng : mg "super" = none
  st : PySem.W.nsIn K cStatics "thirdparty.any" = some none
  ty2 : PySem.W.typeIn K (.ref f2) = some (.type "function")
  fi2 : PySem.W.fnIn K f2 = true
  sub : ∀ c', cs.contains c' = true → PySem.W.mroIn K (cad K c') (.ref D) = some true ∧ PySem.W.ks_superIn K (cad K c') D "__init__" = some (some (.ref f2))
section
variable {X : Cx} {cc c D f2 f : Addr} {cs : List Nat} {ps2 : List Str} {k2 : Nat} {R2 : DSp} {ta : DTA} {e : Expr} {es : List Expr} {p0 p1 p2 p3 p4 : Pos} {ar : Arg} {fd fd2 : FuncData} {body : List Stmt} {σ : L2.St} {δ : DS} {s : Shared} {E : DEnds} {W : WX} {oc : Value} {od : Option Addr} {osl : Array (Option Value)}
end
section
variable {P : Program} {w : World} {mg : Str → Option Value} {base : Heap}
end
end SM
namespace SM
open PySem PySem.Spec PyProof.Rows L2
open PySem.W (EachIs AllAlike Sortable dataLe)
variable {K : PySem.W.Frag} {G G' G2 H H' H2 : Hp} {S S' S2 : Sto}
section
variable {X : Cx} {pos pos' : Pos} {e o i : Expr} {te : DTE} {k : Nat}
end
end SM
namespace SM
open PySem PySem.Spec PyProof.Rows L2
variable {K : PySem.W.Frag} {G G' G2 H H' H2 : Hp} {S S' S2 : Sto}
def TabAll {α : Type} (Pr : Nat → α → Prop) : List (Nat × α) → Prop
  | [] => True
  | (c, x) :: T => Pr c x ∧ TabAll Pr T
theorem TabAll.at {α : Type} {Pr : Nat → α → Prop} : ∀ {T : List (Nat × α)} {c : Nat} {x : α}, TabAll Pr T → T.lookup c = some x → Pr c x
  | (c0, x0) :: T, c, x, h, e => by
    rw [List.lookup_cons] at e
    split at e
    · rename_i q
      cases e
      rw [eq_of_beq q]
      exact h.1
    · exact TabAll.at h.2 e
section
variable {X : Cx} {e o : Expr} {es : List Expr} {pos apos : Pos} {k j : Nat} {m : Str} {t : DTA} {to : DTE} {T : List (Nat × DSp)}
structure tabK (T : List (Nat × DSp)) (x : D) (F : DSp → Prop) : Prop where
  it : ∃ c fs R R0, x = .ins c fs ∧ T.lookup c = some R ∧ (∀ ds S Q X, R0 ds S Q X → R ds S Q X) ∧ F R0
structure tabV (T : List (Nat × Str)) (x : D) (F : Str → Prop) : Prop where
  it : ∃ c fs z, x = .ins c fs ∧ T.lookup c = some z ∧ F z
structure Gp (P : Program) (w : World) (K : PySem.W.Frag) (mg : Str → Option Value) (base : Heap) (k : Nat) (c : Nat) (m : Str) (ps : List Str) (R : DSp) : Prop where
  ex : ∃ f fd p, FnOk P w K mg base (L2N.CX P w) k f fd ps (toSp K R) ∧ Cls K (cad K c) ∧ PropOf K (cad K c) m p f ∧ Binds K fd ps []
end
end SM
namespace SM
open PySem PySem.Spec PyProof.Rows L2
open PySem.W (Frag)
def Df.obS (K : Frag) (d : Df) : He.FnW := match K.lookup (d.ad K) with
  | some ⟨_, _, .func g, _⟩ => some (g.name, g.qualname, g.params, g.body, g.scope, g.globals, [], g.builtins)
  | _ => none
def Df.okS (K : Frag) (d : Df) : Bool := PySem.W.keepIn K (.ref (d.ad K)) && (match K.lookup (d.ad K) with
  | some ⟨_, _, .func g, _⟩ => PySem.W.codeIn K g.code d.qual && (He.dflB K g.defaults [] && (He.kwdB K g.kwdefaults [] && ((match g.code with
    | .ref _ => true
    | _ => false) && (match g.closure with
    | [(n, _)] => decide (n = "__class__")
    | _ => false))))
  | _ => false)
def obC2 (ch : ChK) (fn fs : List Df) (K : Frag) : He.AlD := (ch.all (fun p => p K) && (fn.all (fun d => d.ok K) && fs.all fun d => d.okS K), (fn.map fun d => d.ob K) ++ fs.map fun d => d.obS K)
def vlC2 (fn fs : List Df) : He.AlD := (true, fn.map Df.val ++ fs.map Df.val)
def Says2 (ch : ChK) (fn fs : List Df) (K : Frag) : Prop := obC2 ch fn fs K = vlC2 fn fs
theorem Says2.bool {ch : ChK} {fn fs : List Df} {K : Frag} (c : Says2 ch fn fs K) : ch.all (fun p => p K) = true ∧ fn.all (fun d => d.ok K) = true ∧ fs.all (fun d => d.okS K) = true := by
  have c1 : (ch.all (fun p => p K) && (fn.all (fun d => d.ok K) && fs.all fun d => d.okS K)) = true := congrArg Prod.fst c
  simpa only [Bool.and_eq_true] using c1
end SM
namespace SM
open PySem PySem.Spec PyProof.Rows L2
variable {K : PySem.W.Frag} {G G' G2 H H' H2 : Hp} {S S' S2 : Sto}
structure Gmd (P : Program) (w : World) (K : PySem.W.Frag) (mg : Str → Option Value) (base : Heap) (k : Nat) (c : Nat) (m : Str) (ps : List Str) (dds : List D) (R : DSp) : Prop where
  ex : ∃ f fd dvs ds, FnOk P w K mg base (L2N.CX P w) k f fd ps (toSp K R) ∧ MOk K c m f ∧ Binds K fd ps ds ∧ Vals dvs ds ∧ ∀ G, Rps K G dvs dds
structure Gmk (P : Program) (w : World) (K : PySem.W.Frag) (mg : Str → Option Value) (base : Heap) (k : Nat) (c : Nat) (m : Str) (n : Nat) (x : Str) (ps : List Str) (R : DSp) : Prop where
  ex : ∃ f fd, FnOk P w K mg base (L2N.CX P w) k f fd ps (toSp K R) ∧ MOk K c m f ∧ KBn K fd ps n [x] (fun us ws => us ++ ws) (fun vs zs => vs ++ zs)
section
variable {X : Cx} {e o ke : Expr} {es : List Expr} {pos apos kpos : Pos} {k j n : Nat} {m kx : Str} {t : DTA} {to tke : DTE} {T : List (Nat × DSp)} {dds : List D}
end
end SM
namespace SM
open PySem PySem.Spec PyProof.Rows L2
end SM
namespace SM
open PySem PySem.Spec PyProof.Rows L2
end SM
namespace SM
open PySem PySem.Spec PyProof.Rows L2
structure Gmr (P : Program) (w : World) (K : PySem.W.Frag) (mg : Str → Option Value) (base : Heap) (k : Nat) (c : Nat) (m : Str) (n : Nat) (R : DSp) : Prop where
  ex : ∃ f, FnR P w K mg base (L2N.CX P w) k f (toSp K (starSp n R)) ∧ MOk K c m f
section
variable {X : Cx} {e o : Expr} {es : List Expr} {pos apos : Pos} {k j n : Nat} {m : Str} {t : DTA} {R : DSp}
end
end SM
namespace SM
open PySem PySem.Spec PyProof.Rows L2
structure PropSet (K : PySem.W.Frag) (C : Addr) (m : Str) (p f : Addr) : Prop where
  at_ : PySem.W.findIn K (.ref C) m = some (some (.ref p))
  tak : PySem.W.takesIn K (.ref p) = some true
  ty : PySem.W.typeIn K (.ref p) = some (.type "property")
  rec_ : ∃ a rest, PySem.W.recIn K p "property" = some (a :: .ref f :: rest)
structure Gps (P : Program) (w : World) (K : PySem.W.Frag) (mg : Str → Option Value) (base : Heap) (k : Nat) (c : Nat) (m : Str) (ps : List Str) (R : DSp) : Prop where
  ex : ∃ f fd p, FnOk P w K mg base (L2N.CX P w) k f fd ps (toSp K R) ∧ PropSet K (cad K c) m p f ∧ Cls K (cad K c) ∧ Binds K fd ps []
section
variable {X : Cx} {o e : Expr} {m : Str} {pos pos' : Pos} {k j c : Nat} {ps : List Str} {R : DSp} {to te : DTE}
end
end SM
namespace SM
open PySem PySem.Spec PyProof.Rows L2
variable {K : PySem.W.Frag} {G G' G2 H H' H2 : Hp} {S S' S2 : Sto}
def TestOk (X : Cx) (t : Expr) (tst : Value → Option Bool) : Prop := ∀ (a : Addr) (oe : Obj) (pn : List (Addr × Obj)) (σ : L2.St) (H : Hp) (s : Shared) (cls : Value) (b : Bool) (Q : Bool → Shared → Prop) (E : Value → Shared → Prop),
  Inv (X.suite a ((a, oe) :: pn)) [] σ H s → PySem.W.Looks (model X.prog X.w) s.heap (typeOf (.ref a)) cls → tst cls = some b →
  (∀ h', (∀ c o, s.heap.get? c = some o → h'.get? c = some o) → Q b { s with heap := h' }) →
  wpAny (model X.prog X.w) (X.A.mark (some (.ref a))) (eval t X.env) (fun c s1 => wpAny (model X.prog X.w) (X.A.mark (some (.ref a))) (excMatches (.ref a) c) Q E s1) E s
section
variable {X : Cx}
end
abbrev ClG := (Value → Option Bool) × Option Nat × (Addr → Value → Option Addr → TS)
def wClG (Wo : WX) (D : Ends) : List ClG → WX
  | [] => Wo
  | (tst, oi, ts) :: r => fun cls d σ H =>
    ∃ b, tst cls = some b ∧ (b = true → ∀ a, H a = none → ts a cls d (ofEnds D oi) (atSt σ a oi) H) ∧ (b = false → wClG Wo D r cls d σ H)
inductive ClsG (X : Cx) : List ExceptHandler → List ClG → Prop
  | nil : ClsG X [] []
  | plain {t : Expr} {tst : Value → Option Bool} {ts : Addr → Value → Option Addr → TS} {b0 : Stmt} {su : List Stmt} {p2 : Pos} {hds : List ExceptHandler} {l : List ClG}
      (hc : TestOk X t tst)
      (hsu : ∀ (a : Addr) (oe : Obj) (cls : Value) (d : Option Addr) (pn : List (Addr × Obj)),
        L2N.Zn cls d oe → (∃ vs, oe.data = .fields vs) → PSs (X.suite a ((a, oe) :: pn)) (b0 :: su) (ts a cls d))
      (r : ClsG X hds l) : ClsG X (.ExceptHandler (some t) none (b0 :: su) p2 :: hds) ((tst, none, ts) :: l)
  | named {n : Str} {t : Expr} {tst : Value → Option Bool} {i : Nat} {ts : Addr → Value → Option Addr → TS} {b0 : Stmt} {su : List Stmt} {p2 : Pos} {hds : List ExceptHandler} {l : List ClG}
      (hN : X.N.Nodup) (hi : X.N[i]? = some n) (hln : X.env.kindOf n = some .local) (hc : TestOk X t tst)
      (hsu : ∀ (a : Addr) (oe : Obj) (cls : Value) (d : Option Addr) (pn : List (Addr × Obj)),
        L2N.Zn cls d oe → (∃ vs, oe.data = .fields vs) → PSs (X.suite a ((a, oe) :: pn)) (b0 :: su) (ts a cls d))
      (r : ClsG X hds l) : ClsG X (.ExceptHandler (some t) (some n) (b0 :: su) p2 :: hds) ((tst, some i, ts) :: l)
section
variable {X : Cx} {body : List Stmt} {h0 : ExceptHandler} {hds : List ExceptHandler} {l : List ClG} {pos : Pos} {tb : WX → TS} {Wo : WX}
end
def TabOk (K : PySem.W.Frag) (tst : Value → Option Bool) (tab : List (Nat × Bool)) : Prop := ∀ c b, tab.lookup c = some b → tst (.ref (cad K c)) = some b
inductive DClG (X : Cx) : List ExceptHandler → List DCl → Prop
  | nil : DClG X [] []
  | plain {t : Expr} {tst : Value → Option Bool} {tab : List (Nat × Bool)} {ts : Addr → Option Addr → Nat → DTS} {b0 : Stmt} {su : List Stmt} {p2 : Pos} {hds : List ExceptHandler} {l : List DCl}
      (hc : TestOk X t tst) (em : TabOk X.K tst tab)
      (hsu : ∀ (a : Addr) (oe : Obj) (c : Nat) (d : Option Addr) (pn : List (Addr × Obj)), Cgt X.K oe c d → PDSs (X.suite a ((a, oe) :: pn)) (b0 :: su) (ts a d c))
      (r : DClG X hds l) : DClG X (.ExceptHandler (some t) none (b0 :: su) p2 :: hds) ((tab, none, ts) :: l)
  | named {n : Str} {t : Expr} {tst : Value → Option Bool} {i : Nat} {tab : List (Nat × Bool)} {ts : Addr → Option Addr → Nat → DTS} {b0 : Stmt} {su : List Stmt} {p2 : Pos} {hds : List ExceptHandler} {l : List DCl}
      (hN : X.N.Nodup) (hi : X.N[i]? = some n) (hln : X.env.kindOf n = some .local) (hc : TestOk X t tst) (em : TabOk X.K tst tab)
      (hsu : ∀ (a : Addr) (oe : Obj) (c : Nat) (d : Option Addr) (pn : List (Addr × Obj)), Cgt X.K oe c d → PDSs (X.suite a ((a, oe) :: pn)) (b0 :: su) (ts a d c))
      (r : DClG X hds l) : DClG X (.ExceptHandler (some t) (some n) (b0 :: su) p2 :: hds) ((tab, some i, ts) :: l)
theorem DClG.ok {X : Cx} {W : WX} : ∀ {hds : List ExceptHandler} {l : List DCl}, DClG X hds l → ∃ l' : List ClG, ClsG X hds l' ∧
    ∀ {D : Ends} {E : DEnds} {G0 H0 : Hp} {S0 : Sto}, ER X.K W G0 H0 S0 E D → ∀ {G H : Hp} {S : Sto} {σ : L2.St} {δ : DS} {cls : Value} {d : Option Addr} {x : Exn}, Stp X.K G0 H0 S0 G H S → RpE X.K G σ δ → Rx X.K G cls d x →
      trXs E l x δ S → wClG W D l' cls d σ H := by
  intro hds l h
  induction h with
  | nil => exact ⟨[], .nil, fun er _ _ _ _ _ _ _ _ st re rx q => er.xc _ _ _ _ _ _ _ _ st re rx q⟩
  | @plain t0 tst tab ts b0 su p2 hd2 l2 hc em hsu r ih =>
    obtain ⟨l', ok', go⟩ := ih
    refine ⟨(tst, none, liftCl X ts) :: l', .plain hc (fun a oe cls d pn hz hff => ⟨fun pins s σ H D I h => ?_⟩) ok', fun er G' H' S' σ' δ' cls d x st re' rx q => ?_⟩
    · obtain ⟨c, rfl, h⟩ := h
      exact ((hsu a oe c d pn ⟨hz, hff⟩).run _ takes0N PassesOwn.never).run pins s σ H D I h
    · have ec := rx.1
      subst ec
      revert q
      show (match tab.lookup x.c with | some true => _ | some false => _ | none => _) → _
      cases hl : tab.lookup x.c with
      | none => exact fun z => z.elim
      | some b =>
        cases b with
        | false => exact fun q => ⟨false, em _ _ hl, fun z => Bool.noConfusion z, fun _ => go er st re' rx q⟩
        | true =>
          intro q
          refine ⟨true, em _ _ hl, fun _ a ha => ⟨x.c, rfl, G', _, S', _, re', st.rel, q a d, ?_⟩, fun z => Bool.noConfusion z⟩
          exact ⟨fun G2 H2 S2 σ2 δ2 s2 r2 z => er.nx _ _ _ _ _ (st.trans s2) r2 z, fun G2 H2 S2 v d2 s2 r2 z => er.rt _ _ _ _ _ (st.trans s2) r2 z, fun G2 H2 S2 σ2 δ2 s2 r2 z => er.bk _ _ _ _ _ (st.trans s2) r2 z, fun G2 H2 S2 σ2 δ2 s2 r2 z => er.ct _ _ _ _ _ (st.trans s2) r2 z, fun _ _ _ _ _ _ _ _ _ _ _ z => z⟩
  | @named n t0 tst i tab ts b0 su p2 hd2 l2 hN hi hln hc em hsu r ih =>
    obtain ⟨l', ok', go⟩ := ih
    refine ⟨(tst, some i, liftCl X ts) :: l', .named hN hi hln hc (fun a oe cls d pn hz hff => ⟨fun pins s σ H D I h => ?_⟩) ok', fun er G' H' S' σ' δ' cls d x st re' rx q => ?_⟩
    · obtain ⟨c, rfl, h⟩ := h
      exact ((hsu a oe c d pn ⟨hz, hff⟩).run _ takes0N PassesOwn.never).run pins s σ H D I h
    · have ec := rx.1
      subst ec
      revert q
      show (match tab.lookup x.c with | some true => _ | some false => _ | none => _) → _
      cases hl : tab.lookup x.c with
      | none => exact fun z => z.elim
      | some b =>
        cases b with
        | false => exact fun q => ⟨false, em _ _ hl, fun z => Bool.noConfusion z, fun _ => go er st re' rx q⟩
        | true =>
          intro q
          refine ⟨true, em _ _ hl, fun _ a ha => ⟨x.c, rfl, G', _, S', _, re'.put i rx.rp, st.rel, q a d, ?_⟩, fun z => Bool.noConfusion z⟩
          exact ⟨fun G2 H2 S2 σ2 δ2 s2 r2 z => er.nx _ _ _ _ _ (st.trans s2) (r2.unset i) z, fun G2 H2 S2 v d2 s2 r2 z => er.rt _ _ _ _ _ (st.trans s2) r2 z, fun G2 H2 S2 σ2 δ2 s2 r2 z => er.bk _ _ _ _ _ (st.trans s2) (r2.unset i) z, fun G2 H2 S2 σ2 δ2 s2 r2 z => er.ct _ _ _ _ _ (st.trans s2) (r2.unset i) z, fun _ _ _ _ _ _ _ _ _ _ _ z => z⟩
end SM
namespace SM
open PySem PySem.Spec PyProof.Rows L2 HotX
section
variable {prog : Program} {w : World} {A : Around} {E : Value → Shared → Prop} {s : Shared}
end
section
variable {X : Cx} {W : WX}
end
end SM
namespace SM
open PySem PySem.Spec PyProof.Rows L2 HotX
structure Ready (X : Cx) (pins : List (Addr × Obj)) (σ : L2.St) (H : Hp) (a : Addr) (cls : Value) (d : Option Addr) (s' : Shared) (h : Heap) : Prop where
  ex : ∃ B sI, Inv X pins σ H sI ∧ (∀ b o, sI.heap.get? b = some o → b ∉ frs X.stack → B.get? b = some o) ∧ sI.heap.UpToSlots h ∧ HandSPX.FlyingZ B (X.env :: X.outer) a (L2N.Zn cls d) h ∧ s'.os = sI.os
  na : H a = none
  bare : AllBare s'.gens
section
variable {X : Cx} {pins : List (Addr × Obj)} {σ : L2.St} {H : Hp} {a : Addr} {cls : Value} {d : Option Addr} {s' : Shared} {h : Heap}
theorem Ready.inv (r : Ready X pins σ H a cls d s' h) : Inv X pins σ H { s' with heap := h } := by
  obtain ⟨B, sI, I, nb, up, fly, os⟩ := r.ex
  exact I.landed (s' := { s' with heap := h }) nb fly.1 up os r.bare
theorem Ready.suite (r : Ready X pins σ H a cls d s' h) (hf : X.env.frame = some X.env.locals) : ∃ oe, Inv (X.suite a ((a, oe) :: (X.pn ++ pins))) [] σ H { s' with heap := h } ∧ h.get? a = some oe ∧ L2N.Zn cls d oe ∧ ∃ vs, oe.data = .fields vs := by
  have I := r.inv
  obtain ⟨B, sI, _, _, _, fly, _⟩ := r.ex
  obtain ⟨oe, vs, g, z, dt⟩ := fly.there
  have out : a ∉ frs (X.env :: X.outer) := fun m => by
    obtain ⟨_, o, g', nf⟩ := fly.2.2.1.mem m
    cases g.symm.trans g'
    exact nf vs dt
  have mem : ∀ {b : Addr} {e : Env}, e ∈ X.env :: X.outer → e.frame = some b → b ∈ frs (X.env :: X.outer) := fun m q => List.mem_filterMap.mpr ⟨_, m, q⟩
  refine ⟨oe, I.suite g dt r.na (fun q => out (q ▸ mem List.mem_cons_self hf)) (fun m => ?_), g, z, vs, dt⟩
  obtain ⟨e, me, q⟩ := List.mem_filterMap.mp m
  exact out (mem (List.mem_cons_of_mem _ me) q)
end
section
variable {X : Cx} {pins pn pn' : List (Addr × Obj)} {σ : L2.St} {H : Hp} {s : Shared} {a : Addr} {q : Addr × Obj} {xe : Value → Shared → Prop}
end
section
variable {X : Cx} {x n : Str} {c : Value} {i : Nat} {b₀ : Stmt} {body suite : List Stmt} {np pos pos' : Pos} {tb : WX → TS} {ts : Addr → Value → Option Addr → TS} {Wo : WX}
end
end SM
namespace SM
open PySem PySem.Spec PyProof.Rows L2
section
variable {X : Cx}
end
end SM
namespace SM
open PySem PySem.Spec PyProof.Rows L2
section
variable {X : Cx}
end
end SM
namespace SM
open PySem PySem.Spec PyProof.Rows L2 HotX
variable {K : PySem.W.Frag} {G G' G2 H H' H2 : Hp} {S S' S2 : Sto}
structure PDX (X : Cx) (e : Expr) (td : DTE) : Prop where
  run : ∀ W, L2.Takes X W → PE X e (liftE X.K W td)
structure PDAX (X : Cx) (es : List Expr) (td : DTA) : Prop where
  run : ∀ W, L2.Takes X W → PA X es (liftA X.K W td)
structure PDSX (X : Cx) (st : Stmt) (ts : DTS) : Prop where
  run : ∀ W, L2.Takes X W → PassesOwn (model X.prog X.w) X.A X.env X.xe → PS X st (liftS X.K W ts)
structure PDSsX (X : Cx) (st : List Stmt) (ts : DTS) : Prop where
  run : ∀ W, L2.Takes X W → PassesOwn (model X.prog X.w) X.A X.env X.xe → PSs X st (liftS X.K W ts)
section
variable {X : Cx} {e a b o i iter : Expr} {c : Nat} {es : List Expr} {st : Stmt} {sts rest : List Stmt} {pos p apos cpos pos' : Pos} {W : WX} {k j : Nat} {x m : Str} {t : DTA} {te : DTE} {f C g : Addr} {fd : FuncData} {ps : List Str} {R : DSp} {dvs : List V} {dds : List D} {ds : List Value} {pins : List (Addr × Obj)} {σ : L2.St} {s : Shared}
structure GmX (P : Program) (w : World) (K : PySem.W.Frag) (mg : Str → Option Value) (base : Heap) (k : Nat) (c : Nat) (m : Str) (ps : List Str) (R : DSp) : Prop where
  ex : ∃ f fd, FnOk P w K mg base (L2.CX P w) k f fd ps (toSp K R) ∧ MOk K c m f ∧ Binds K fd ps []
structure GcX (P : Program) (w : World) (K : PySem.W.Frag) (mg : Str → Option Value) (base : Heap) (k : Nat) (c : Nat) (x m : Str) (ps : List Str) (R : DSp) : Prop where
  ex : ∃ p g fd, ClX.CRead K (cad K c) (.type "type") ∧ ClX.CMet K (cad K c) (.type "type") m p g ∧ FnOk P w K mg base (L2.CX P w) k g fd ps (toSp K R) ∧ Binds K fd ps [] ∧ mg x = some (.ref (cad K c))
variable {ts tu u : DTS}
end
section
variable {P : Program} {w : World} {mg : Str → Option Value} {base : Heap}
end
end SM
namespace SM
open PySem PySem.Spec PyProof.Rows L2 HotX
variable {K : PySem.W.Frag} {G G' G2 H H' H2 : Hp} {S S' S2 : Sto}
section
variable {P : Program} {w : World} {mg : Str → Option Value} {base : Heap} {qual : Str} {params : Arguments} {scope : Scope} {f : Addr} {fd : FuncData} {c : Nat} {x z : Str} {p1 p2 p3 p4 : Pos}
structure GxH (P : Program) (w : World) (K : PySem.W.Frag) (mg : Str → Option Value) (base : Heap) (c : Nat) (x : Str) : Prop where
  ex : ∃ f fd ps, L2H.FnH P w K mg base (L2N.CX P w) 1 f fd ps (spE (cad K c) (cfs c)) ∧ OexC K (cad K c) ∧ PySem.W.findIn K (.ref (cad K c)) "__init__" = some (some (.ref f)) ∧ PySem.W.typeIn K (.ref f) = some (.type "function") ∧ Binds K fd ps [] ∧ mg x = some (.ref (cad K c))
end
def rxB (K : PySem.W.Frag) (tab : List (Nat × Bool)) : Bool := tab.all fun p => decide (PySem.W.subIn K (.ref (cad K p.1)) (.type "BaseException") = some true)
section
variable {X : Cx} {e : Expr} {es : List Expr} {pos p np pos' : Pos} {j i : Nat} {x n : Str} {t : DTA} {c c' : Nat} {a : Addr} {oe : Obj} {d : Option Addr} {pn : List (Addr × Obj)} {xe : Value → Shared → Prop}
end
section
variable {X : Cx} {x n : Str} {cv : Value} {i : Nat} {body suite : List Stmt} {b₀ : Stmt} {np pos pos' : Pos} {tb : DTS} {ts : Addr → Option Addr → Nat → DTS} {tab : List (Nat × Bool)}
end
end SM
namespace SM
open PySem PySem.Spec PyProof.Rows L2
open PySem.W (Frag)
def obL (as : List Addr) (ch : ChK) (fn fs : List Df) (g : Addr → Option Obj) : He.AlD := obC2 ch fn fs (He.frG g as)
def hookL (as : List Addr) (ch : ChK) (fn fs : List Df) : PySem.W.Hook where
  α := He.AlD
  obs s := obL as ch fn fs s.heap.get?
  val _ := vlC2 fn fs
  says _ h := ∃ K : Frag, K.In h ∧ Says2 ch fn fs K
  of _ _ e := ⟨_, He.frG_in, e⟩
  keeps := fun _ _ _ ⟨K, hK, c⟩ k => ⟨K, hK.keeps k, c⟩
theorem obL_eq {as : List Addr} {ch : ChK} {fn fs : List Df} {g : Addr → Option Obj} {s : Shared} (h : ∀ a, g a = s.heap.get? a) : obL as ch fn fs g = (hookL as ch fn fs).obs s := by
  have e : g = s.heap.get? := funext h
  rw [e] <;> rfl
end SM
namespace LAW
open PySem PySem.Spec PyProof.Rows L2 SM
def top (i : Nat) : Stmt := PySem.Challenge.pw_smalti_k36_history_refused.main.body.getD i (.Pass ⟨0, 0, 0, 0⟩)
abbrev s_l_bag : Stmt := top 24
abbrev s_l_take : Stmt := top 25
abbrev s_l_palette : Stmt := top 27
abbrev s_l_row : Stmt := top 28
abbrev s_l_big_grid : Stmt := top 30
abbrev s_l_deed_line : Stmt := top 31
abbrev s_l_tale_text : Stmt := top 32
abbrev s_p_is_stone : Stmt := top 12
abbrev s_p_is_sign : Stmt := top 13
abbrev s_p_is_row : Stmt := top 14
abbrev s_Picture_init : Stmt := inClass (top 15) 2
abbrev s_p_is_coordinate : Stmt := top 19
abbrev s_p_is_rule_number : Stmt := top 20
abbrev s_p_read_deed : Stmt := top 21
abbrev s_History_init : Stmt := inClass (top 22) 0
abbrev s_History_read_sx : Stmt := inClass (top 22) 1
abbrev s_l_is_int : Stmt := top 26
abbrev s_Picture_lines : Stmt := inClass (top 15) 5
abbrev s_History_text : Stmt := inClass (top 22) 2
abbrev s_l_line_of_k36 : Stmt := top 37
abbrev s_l_changed_k36 : Stmt := top 38
abbrev s_l_is_letter : Stmt := top 29
abbrev s_l_is_row_k36 : Stmt := top 35
abbrev s_l_is_digit_k36 : Stmt := top 33
abbrev s_l_is_deed_k36 : Stmt := top 34
abbrev s_l_bad_line_k36 : Stmt := top 36
abbrev s_law_k36 : Stmt := top 39
def d_l_bag : Df := ⟨fun K => He.ga K "_law_bag", "_law_bag", "_law_bag", s_l_bag, [], []⟩
def d_l_take : Df := ⟨fun K => He.ga K "_law_take", "_law_take", "_law_take", s_l_take, [], []⟩
def d_l_palette : Df := ⟨fun K => He.ga K "_law_palette", "_law_palette", "_law_palette", s_l_palette, [], []⟩
def d_l_row : Df := ⟨fun K => He.ga K "_law_row", "_law_row", "_law_row", s_l_row, [], []⟩
def d_l_big_grid : Df := ⟨fun K => He.ga K "_law_big_grid", "_law_big_grid", "_law_big_grid", s_l_big_grid, [], []⟩
def d_l_deed_line : Df := ⟨fun K => He.ga K "_law_deed_line", "_law_deed_line", "_law_deed_line", s_l_deed_line, [], []⟩
def d_l_tale_text : Df := ⟨fun K => He.ga K "_law_tale_text", "_law_tale_text", "_law_tale_text", s_l_tale_text, [], []⟩
def d_p_is_stone : Df := ⟨fun K => He.ga K "is_stone", "is_stone", "is_stone", s_p_is_stone, [], []⟩
def d_p_is_sign : Df := ⟨fun K => He.ga K "is_sign", "is_sign", "is_sign", s_p_is_sign, [], []⟩
def d_p_is_row : Df := ⟨fun K => He.ga K "is_row", "is_row", "is_row", s_p_is_row, [], []⟩
def d_Picture_init : Df := ⟨fun K => He.ma K (He.ga K "Picture") "__init__", "__init__", "Picture.__init__", s_Picture_init, [], []⟩
def d_p_is_coordinate : Df := ⟨fun K => He.ga K "is_coordinate", "is_coordinate", "is_coordinate", s_p_is_coordinate, [], []⟩
def d_p_is_rule_number : Df := ⟨fun K => He.ga K "is_rule_number", "is_rule_number", "is_rule_number", s_p_is_rule_number, [], []⟩
def d_p_read_deed : Df := ⟨fun K => He.ga K "read_deed", "read_deed", "read_deed", s_p_read_deed, [], []⟩
def d_History_init : Df := ⟨fun K => He.ma K (He.ga K "History") "__init__", "__init__", "History.__init__", s_History_init, [], []⟩
def d_History_read_sx : Df := ⟨fun K => SM.cmAd K (He.ga K "History") "read", "read", "History.read", s_History_read_sx, [], []⟩
def d_l_is_int : Df := ⟨fun K => He.ga K "_law_is_int", "_law_is_int", "_law_is_int", s_l_is_int, [], []⟩
def d_Picture_lines : Df := ⟨fun K => He.ma K (He.ga K "Picture") "lines", "lines", "Picture.lines", s_Picture_lines, [], []⟩
def d_History_text : Df := ⟨fun K => He.ma K (He.ga K "History") "text", "text", "History.text", s_History_text, [], []⟩
def d_l_line_of_k36 : Df := ⟨fun K => He.ga K "_law_line_of", "_law_line_of", "_law_line_of", s_l_line_of_k36, [], []⟩
def d_l_changed_k36 : Df := ⟨fun K => He.ga K "_law_changed", "_law_changed", "_law_changed", s_l_changed_k36, [], []⟩
def d_l_is_letter : Df := ⟨fun K => He.ga K "_law_is_letter", "_law_is_letter", "_law_is_letter", s_l_is_letter, [], []⟩
def d_l_is_row_k36 : Df := ⟨fun K => He.ga K "_law_is_row", "_law_is_row", "_law_is_row", s_l_is_row_k36, [], []⟩
def d_l_is_digit_k36 : Df := ⟨fun K => He.ga K "_law_is_digit", "_law_is_digit", "_law_is_digit", s_l_is_digit_k36, [], []⟩
def d_l_is_deed_k36 : Df := ⟨fun K => He.ga K "_law_is_deed", "_law_is_deed", "_law_is_deed", s_l_is_deed_k36, [], []⟩
def d_l_bad_line_k36 : Df := ⟨fun K => He.ga K "_law_bad_line", "_law_bad_line", "_law_bad_line", s_l_bad_line_k36, [], []⟩
def d_law_k36 : Df := ⟨fun K => He.ga K "law", "law", "law", s_law_k36, [], []⟩
abbrev s_xInvalidPicture : Stmt := inClass (top 6) 0
theorem sc_xInvalidPicture : FnScope ["self", "line"] ["self", "line"] (defScope s_xInvalidPicture) := ⟨rfl, rfl, rfl, by decide +kernel, rfl, by decide +kernel, by decide +kernel⟩
def d_xInvalidPicture : Df := ⟨fun K => He.ma K (He.ga K "InvalidPicture") "__init__", "__init__", "InvalidPicture.__init__", s_xInvalidPicture, [], []⟩
abbrev s_xInvalidHistory : Stmt := inClass (top 7) 0
theorem sc_xInvalidHistory : FnScope ["self", "line"] ["self", "line"] (defScope s_xInvalidHistory) := ⟨rfl, rfl, rfl, by decide +kernel, rfl, by decide +kernel, by decide +kernel⟩
def d_xInvalidHistory : Df := ⟨fun K => He.ma K (He.ga K "InvalidHistory") "__init__", "__init__", "InvalidHistory.__init__", s_xInvalidHistory, [], []⟩
def fn : List Df := [d_l_bag, d_l_take, d_l_palette, d_l_row, d_l_big_grid, d_l_deed_line, d_l_tale_text, d_p_is_stone, d_p_is_sign, d_p_is_row, d_Picture_init, d_p_is_coordinate, d_p_is_rule_number, d_p_read_deed, d_History_init, d_History_read_sx, d_l_is_int, d_Picture_lines, d_History_text, d_l_line_of_k36, d_l_changed_k36, d_l_is_letter, d_l_is_row_k36, d_l_is_digit_k36, d_l_is_deed_k36, d_l_bad_line_k36, d_law_k36, d_xInvalidPicture, d_xInvalidHistory]
def fs : List Df := []
def ch : ChK := [fun K => oexB K 21,
  fun K => oinB K 21,
  fun K => (He.Fa.glo "InvalidPicture").ok K,
  fun K => oexB K 25,
  fun K => oinB K 25,
  fun K => (He.Fa.glo "InvalidHistory").ok K,
  fun K => (He.Fa.free "int").ok K,
  fun K => (He.Fa.free "len").ok K,
  fun K => (He.Fa.glo "_law_take").ok K,
  fun K => (He.Fa.free "range").ok K,
  fun K => (He.Fa.glo "_law_row").ok K,
  fun K => (He.Fa.free "str").ok K,
  fun K => (He.Fa.glo "_law_deed_line").ok K,
  fun K => (He.Fa.str "LETTERS" "abcdefghijklmnopqrstuvwxyz").ok K,
  fun K => (He.Fa.glo "is_stone").ok K,
  fun K => (He.Fa.int "MOST" (8)).ok K,
  fun K => (He.Fa.glo "is_sign").ok K,
  fun K => (He.Fa.free "enumerate").ok K,
  fun K => (He.Fa.free "list").ok K,
  fun K => fokB K "grid" [(1, 0)],
  fun K => fokB K "width" [(1, 1)],
  fun K => fokB K "height" [(1, 2)],
  fun K => (He.Fa.glo "is_row").ok K,
  fun K => (He.Fa.str "COORDINATES" "01234567").ok K,
  fun K => (He.Fa.str "DIGITS" "0123456789").ok K,
  fun K => (He.Fa.glo "is_coordinate").ok K,
  fun K => (He.Fa.glo "is_rule_number").ok K,
  fun K => fokB K "first" [(9, 0)],
  fun K => fokB K "deeds" [(9, 1)],
  fun K => fxB K "line" [(21, 0)],
  fun K => emB K (.ref (cad K 21)) [(21, true)],
  fun K => rxB K [(21, true)],
  fun K => (He.Fa.glo "Picture").ok K,
  fun K => (He.Fa.mkr "Picture").ok K,
  fun K => (He.Fa.glo "read_deed").ok K,
  fun K => (He.Fa.glo "History").ok K,
  fun K => (He.Fa.mkr "History").ok K,
  fun K => isiB K (.type "int") ti_int,
  fun K => (He.Fa.free "isinstance").ok K,
  fun K => isiB K (.type "bool") ti_bool,
  fun K => (He.Fa.free "bool").ok K,
  fun K => (He.Fa.cls "Picture").ok K,
  fun K => (He.Fa.meth "Picture" "lines").ok K,
  fun K => ixB K (.ref (cad K 20)) [(25, true)],
  fun K => (He.Fa.glo "SmaltiError").ok K,
  fun K => ixB K (.ref (cad K 21)) [(25, false)],
  fun K => fxB K "line" [(25, 0)],
  fun K => emB K (.ref (cad K 25)) [(25, true)],
  fun K => cmB K 9 "read",
  fun K => (He.Fa.glo "_law_is_int").ok K,
  fun K => (He.Fa.cls "History").ok K,
  fun K => (He.Fa.meth "History" "text").ok K,
  fun K => (He.Fa.glo "_law_is_letter").ok K,
  fun K => (He.Fa.glo "_law_is_digit").ok K,
  fun K => (He.Fa.glo "_law_is_row").ok K,
  fun K => (He.Fa.glo "_law_is_deed").ok K,
  fun K => (He.Fa.glo "_law_bag").ok K,
  fun K => (He.Fa.glo "_law_palette").ok K,
  fun K => (He.Fa.glo "_law_big_grid").ok K,
  fun K => (He.Fa.glo "_law_tale_text").ok K,
  fun K => (He.Fa.glo "_law_line_of").ok K,
  fun K => (He.Fa.glo "_law_changed").ok K,
  fun K => (He.Fa.glo "_law_bad_line").ok K,
  fun K => (He.Fa.glo "law").ok K]
def nm0 : List Str := ["_wall", "reading_order", "Region", "SmaltiError", "InvalidPicture", "InvalidHistory", "UnequalSize", "LETTERS", "MOST", "is_stone", "is_sign", "is_row", "Picture", "DIGITS", "COORDINATES", "is_coordinate", "is_rule_number", "read_deed", "History", "_law_bag", "_law_take", "_law_is_int", "_law_palette", "_law_row", "_law_is_letter", "_law_big_grid", "_law_deed_line", "_law_tale_text", "_law_is_digit", "_law_is_deed"]
def nm1 : List Str := ["_law_is_row", "_law_bad_line", "_law_line_of", "_law_changed"]
abbrev nms : List Str := nm0 ++ nm1
def as0 : List Addr := [2, 3, 6, 4, 21, 28, 122, 136, 156, 175, 187, 196, 203, 210, 316, 327, 334, 341, 394, 403, 410, 417, 424, 431, 438, 443, 450, 455, 462, 469, 474, 481, 488, 495, 502, 0, 20, 27, 121, 135, 155, 174, 186, 195, 202, 209, 315, 326, 333, 340]
def as1 : List Addr := [393, 402, 409, 416, 423, 430, 437, 442, 449, 454, 461, 468, 473, 480, 487, 494, 501, 15, 16, 17, 18, 19, 22, 23, 24, 25, 26, 40, 49, 57, 64, 71, 76, 81, 86, 93, 100, 107, 114, 119, 120, 123, 124, 134, 137, 153, 154, 172, 173, 185]
def as2 : List Addr := [190, 191, 192, 193, 194, 197, 198, 199, 200, 201, 204, 205, 206, 207, 208, 224, 233, 243, 251, 258, 263, 268, 275, 282, 289, 294, 301, 306, 313, 314, 317, 318, 321, 322, 323, 324, 325, 328, 329, 330, 331, 332, 335, 336, 337, 338, 339, 355, 364, 370]
def as3 : List Addr := [377, 384, 391, 392, 395, 396, 399, 400, 401, 404, 405, 406, 407, 408, 411, 412, 413, 414, 415, 418, 419, 420, 421, 422, 425, 426, 427, 428, 429, 432, 433, 434, 435, 436, 439, 440, 441, 444, 445, 446, 447, 448, 451, 452, 453, 456, 457, 458, 459, 460]
def as4 : List Addr := [463, 464, 465, 466, 467, 470, 471, 472, 475, 476, 477, 478, 479, 482, 483, 484, 485, 486, 489, 490, 491, 492, 493, 496, 497, 498, 499, 500, 39, 47, 48, 56, 63, 70, 75, 80, 85, 92, 99, 106, 113, 118, 152, 171, 223, 231, 232, 241, 242, 250]
def as5 : List Addr := [257, 262, 267, 274, 281, 288, 293, 300, 305, 312, 354, 362, 363, 369, 376, 383, 390, 36, 37, 38, 46, 50, 51, 52, 53, 54, 55, 58, 59, 60, 61, 62, 65, 66, 67, 68, 69, 72, 73, 74, 77, 78, 79, 82, 83, 84, 87, 88, 89, 90]
def as6 : List Addr := [91, 94, 95, 96, 97, 98, 101, 102, 103, 104, 105, 108, 109, 110, 111, 112, 115, 116, 117, 147, 148, 149, 150, 151, 166, 167, 168, 169, 170, 218, 219, 220, 221, 222, 230, 234, 240, 244, 245, 246, 247, 248, 249, 252, 253, 254, 255, 256, 259, 260]
def as7 : List Addr := [261, 264, 265, 266, 269, 270, 271, 272, 273, 276, 277, 278, 279, 280, 283, 284, 285, 286, 287, 290, 291, 292, 295, 296, 297, 298, 299, 302, 303, 304, 307, 308, 309, 310, 311, 349, 350, 351, 352, 353, 361, 365, 366, 367, 368, 371, 372, 373, 374, 375]
def as8 : List Addr := [378, 379, 380, 381, 382, 385, 386, 387, 388, 389, 41, 42, 43, 44, 45, 225, 226, 227, 228, 229, 235, 236, 237, 238, 239, 356, 357, 358, 359, 360]
abbrev as : List Addr := as0 ++ (as1 ++ (as2 ++ (as3 ++ (as4 ++ (as5 ++ (as6 ++ (as7 ++ (as8))))))))
abbrev R : PySem.W.OpenRow := PySem.W.OpenLaw.row PySem.Challenge.rw_smalti_k36_history_refused
abbrev hk : PySem.W.Hook := hookL as ch fn fs
def ob (s : PySem.W.SharedT) : He.AlD := obL as ch fn fs (HandSHeadRun.getT s)
theorem ob_eq (s : PySem.W.SharedT) : ob s = hk.obs s.abs := obL_eq (HandSHeadRun.getT_eq s)
theorem run (w : World) : HandSHeadRun.RunEq R (PySem.W.view R.prog [39]) hk ob 30000 nms w := by
  intro os
  kernel_rfl
end LAW
namespace SM
open PySem PySem.Spec PyProof.Rows L2
theorem su_same {S : Sto} {a : Addr} {o : OO} : su S a o a = some o := by unfold su; exact if_pos rfl
theorem su_ne {S : Sto} {a b : Addr} {o : OO} (h : b ≠ a) : su S a o b = S b := by unfold su; exact if_neg h
theorem su_su {S : Sto} {a : Addr} {o u : OO} : su (su S a o) a u = su S a u := by funext b; unfold su; by_cases h : b = a <;> simp [h]
theorem sd_su {S : Sto} {a : Addr} {o : OO} : sd (su S a o) a = sd S a := by funext b; unfold su sd; by_cases h : b = a <;> simp [h]
theorem sd_none {S : Sto} {a : Addr} (h : S a = none) : sd S a = S := by
  funext b; unfold sd; split
  · rename_i e; rw [e, h]
  · rfl
theorem sd_su_new {S : Sto} {a : Addr} {o : OO} (h : S a = none) : sd (su S a o) a = S := by rw [sd_su, sd_none h]
theorem su_self {S : Sto} {a : Addr} {o : OO} (h : S a = some o) : su S a o = S := by
  funext b; unfold su; split
  · rename_i e; rw [e, h]
  · rfl
theorem st_ne {S : Sto} {a b : Addr} {o : OO} (h : S a = some o) (h' : S b = none) : a ≠ b := by
  intro e; subst e; rw [h] at h'; cases h'
variable {K : PySem.W.Frag} {G G' G2 H H' H2 : Hp} {S S' S2 : Sto}
theorem Rps.append : ∀ {vs ws : List V} {ds es : List D}, Rps K G vs ds → Rps K G ws es → Rps K G (vs ++ ws) (ds ++ es)
  | _, _, _, _, .nil, s => s
  | _, _, _, _, .cons r t, s => .cons r (Rps.append t s)
theorem Rps.reverse {vs : List V} {ds : List D} (r : Rps K G vs ds) : Rps K G vs.reverse ds.reverse := by
  induction r using Rps.rec (motive_1 := fun _ _ _ => True) (motive_3 := fun _ _ _ => True) with
  | nil => exact .nil
  | cons h _ _ ih => simp only [List.reverse_cons]; exact ih.append (.cons h .nil)
  | _ => trivial
theorem Rel.sq (r : Rel K G H S) {a : Addr} {vs : List V} (h : SqL K G a vs) : SqL K H a vs := by
  rcases h with (h | ⟨o, h⟩) | h
  · exact .inl (.inl (r.at h rfl))
  · exact .inl (.inr ⟨o, r.at h rfl⟩)
  · exact .inr h
theorem Stp.refl (r : Rel K G H S) : Stp K G H S G H S := ⟨fun _ _ h => h, r, fun b o h g s => ⟨h, s, .inl g⟩⟩
theorem Stp.newF (r : Rel K G H S) {p : Addr} {o : HO} (h : H p = none) : Stp K G H S (upd G p o) (upd H p o) S where
  sg := fun b u e => by rw [upd_ne (ne_of_none e (r.free h).1)]; exact e
  rel := {
    le := fun b u e => by
      by_cases hb : b = p
      · subst hb; rw [upd_same] at e ⊢; exact .inl e
      · rw [upd_ne hb] at e ⊢; exact r.le b u e
    own := fun b u e => by
      have hb : b ≠ p := st_ne e (r.free h).2
      rw [upd_ne hb, upd_ne hb]
      refine ⟨(r.own b u e).1, (r.own b u e).2.mono fun c w q => ?_⟩
      rw [upd_ne (ne_of_none q (r.free h).1)]; exact q }
  fr := fun b u e g s => by
    have hb : b ≠ p := ne_of_none e h
    rw [upd_ne hb, upd_ne hb]; exact ⟨e, s, .inl g⟩
theorem Stp.newO (r : Rel K G H S) {p : Addr} {u : HO} {o : OO} (h : H p = none) (ro : RO K G (some u) o) : Stp K G H S G (upd H p u) (su S p o) where
  sg := fun _ _ e => e
  rel := {
    le := fun b w e => by
      have hb : b ≠ p := ne_of_none e (r.free h).1
      rw [upd_ne hb]; exact r.le b w e
    own := fun b w e => by
      by_cases hb : b = p
      · subst hb; rw [su_same] at e; cases e; rw [upd_same]; exact ⟨(r.free h).1, ro⟩
      · rw [su_ne hb] at e; rw [upd_ne hb]; exact r.own b w e }
  fr := fun b w e g s => by
    have hb : b ≠ p := ne_of_none e h
    rw [upd_ne hb, su_ne hb]; exact ⟨e, s, .inl g⟩
theorem Stp.mut (r : Rel K G H S) {p : Addr} {u : HO} {o o' : OO} (h : S p = some o) (ro : RO K G (some u) o') : Stp K G H S G (upd H p u) (su S p o') where
  sg := fun _ _ e => e
  rel := {
    le := fun b w e => by
      have hb : b ≠ p := fun z => by subst z; rw [(r.own _ _ h).1] at e; cases e
      rw [upd_ne hb]; exact r.le b w e
    own := fun b w e => by
      by_cases hb : b = p
      · subst hb; rw [su_same] at e; cases e; rw [upd_same]; exact ⟨(r.own _ _ h).1, ro⟩
      · rw [su_ne hb] at e; rw [upd_ne hb]; exact r.own b w e }
  fr := fun b w e g s => by
    have hb : b ≠ p := fun z => by subst z; rw [h] at s; cases s
    rw [upd_ne hb, su_ne hb]; exact ⟨e, s, .inl g⟩
theorem vwk_is {S : Sto} {x : D} {k : D → Prop} : vwk S x k = k (vw S x) := propext ⟨fun h => h.it, fun h => ⟨h⟩⟩
theorem vwk_of {S : Sto} {x d : D} {k : D → Prop} (h : vw S x = d) (q : k d) : vwk S x k := by rw [vwk_is, h]; exact q
theorem itk_is {α : Type} {xs : List α} {i : Int} {k : α → Prop} : itk xs i k = ∃ d, atI xs i = some d ∧ k d := propext ⟨fun h => h.it, fun h => ⟨h⟩⟩
theorem itk_of {α : Type} {xs : List α} {i : Int} {d : α} {k : α → Prop} (h : atI xs i = some d) (q : k d) : itk xs i k := by rw [itk_is]; exact ⟨d, h, q⟩
theorem brn_t {A B : Prop} : brn true A B = A := propext ⟨fun h => by have q := h.it; rwa [if_pos rfl] at q, fun h => ⟨by rw [if_pos rfl]; exact h⟩⟩
theorem brn_f {A B : Prop} : brn false A B = B := propext ⟨fun h => by have q := h.it; rwa [if_neg Bool.false_ne_true] at q, fun h => ⟨by rw [if_neg Bool.false_ne_true]; exact h⟩⟩
theorem brn_of {b : Bool} {A B : Prop} (h1 : b = true → A) (h2 : b = false → B) : brn b A B := by
  cases b
  · rw [brn_f]; exact h2 rfl
  · rw [brn_t]; exact h1 rfl
theorem vw_lst (r : Rel K G H S) {v : V} {d : D} {ds : List D} (h : Rp K G v d) (e : vw S d = .lst ds) : ∃ a vs, v = .ref a ∧ H a = some (.lst vs) ∧ Rps K G vs ds ∧ ds.length ≤ sizeLine := by
  cases h with
  | lst h q l => cases e; exact ⟨_, _, rfl, r.at h rfl, q, l⟩
  | adr a =>
    unfold vw at e
    cases q : S a with
    | none => simp [q] at e
    | some o =>
      cases o with
      | lst es =>
        simp [q] at e; subst e
        obtain ⟨vs, e1, e2, e3⟩ := (r.own a _ q).2
        exact ⟨a, vs, rfl, e1, e2, e3⟩
      | dT _ => simp [q] at e
      | ins _ _ => simp [q] at e
      | dF _ _ _ => simp [q] at e
  | _ => cases e
theorem vw_tup (r : Rel K G H S) {v : V} {d : D} {ds : List D} (h : Rp K G v d) (e : vw S d = .tup ds) : ∃ a vs, v = .ref a ∧ G a = some (.tup vs) ∧ H a = some (.tup vs) ∧ Rps K G vs ds ∧ ds.length ≤ sizeLine := by
  cases h with
  | tup h q l => cases e; exact ⟨_, _, rfl, h, r.at h rfl, q, l⟩
  | adr a =>
    unfold vw at e
    cases q : S a with
    | none => simp [q] at e
    | some o => cases o <;> simp [q] at e
  | _ => cases e
theorem vw_dT (r : Rel K G H S) {v : V} {d : D} {ds : List (List Key × D)} (h : Rp K G v d) (e : vw S d = .dT ds) : ∃ a vs, v = .ref a ∧ Rd H a (.dT vs) ∧ Rkv K G vs ds := by
  cases h with
  | dT h q => cases e; exact ⟨_, _, rfl, r.rd h, q⟩
  | adr a =>
    unfold vw at e
    cases q : S a with
    | none => simp [q] at e
    | some o =>
      cases o with
      | dT es =>
        simp [q] at e; subst e
        obtain ⟨vs, e1, e2⟩ := (r.own a _ q).2
        exact ⟨a, vs, rfl, .inl e1, e2⟩
      | dF od vs es =>
        simp [q] at e; subst e
        obtain ⟨e1, e2⟩ := (r.own a _ q).2
        exact ⟨a, vs, rfl, .inr ⟨od, e1⟩, e2⟩
      | lst _ => simp [q] at e
      | ins _ _ => simp [q] at e
  | _ => cases e
theorem vw_ins (r : Rel K G H S) {v : V} {d : D} {c : Nat} {ds : List D} (h : Rp K G v d) (e : vw S d = .ins c ds) : ∃ a dx vs, v = .ref a ∧ H a = some (.ins (cad K c) dx ((cfs c).zip vs)) ∧ Rps K G vs ds ∧ ds.length ≤ (cfs c).length := by
  cases h with
  | ins h q l => cases e; exact ⟨_, _, _, rfl, r.at h rfl, q, l⟩
  | adr a =>
    unfold vw at e
    cases q : S a with
    | none => simp [q] at e
    | some o =>
      cases o with
      | ins c' es =>
        simp [q] at e; obtain ⟨rfl, rfl⟩ := e
        obtain ⟨dx, vs, e1, e2, e3⟩ := (r.own a _ q).2
        exact ⟨a, dx, vs, rfl, e1, e2, e3⟩
      | lst _ => simp [q] at e
      | dT _ => simp [q] at e
      | dF _ _ _ => simp [q] at e
  | _ => cases e
theorem vw_scal {v : V} {d : D} (h : Rp K G v d) : (∀ b, vw S d = .bl b → v = .bl b) ∧ (∀ i, vw S d = .int i → v = .int i) ∧ (∀ s, vw S d = .str s → v = .str s ∧ okS s) ∧ (vw S d = .non → v = .non) ∧ (∀ s, vw S d = .ty s → v = .ty s) := by
  cases h with
  | adr a =>
    unfold vw
    cases q : S a with
    | none => simp [q]
    | some o => cases o <;> simp [q]
  | str h => simp only [vw]; exact ⟨(fun _ e => nomatch e), (fun _ e => nomatch e), (fun s e => by cases e; exact ⟨rfl, h⟩), (fun e => nomatch e), (fun _ e => nomatch e)⟩
  | _ => simp [vw]
end SM
namespace SM
open PySem PySem.Spec PyProof.Rows L2
abbrev R2D := D → D → Sto → DQ → Prop
abbrev RCD := List D → Sto → DQ → Prop
variable {K : PySem.W.Frag} {G G' G2 H H' H2 : Hp} {S S' S2 : Sto}
def lift2 (K : PySem.W.Frag) (r : R2D) : R2 := fun x y H Q => ∃ G S dx dy QD, Rel K G H S ∧ Rp K G x dx ∧ Rp K G y dy ∧ r dx dy S QD ∧ ∀ G' H' S' v d, Stp K G H S G' H' S' → Rp K G' v d → QD d S' → Q v H'
def liftC (K : PySem.W.Frag) (r : RCD) : List V → Hp → VK → Prop := fun vs H Q => ∃ G S ds QD, Rel K G H S ∧ Rps K G vs ds ∧ r ds S QD ∧ ∀ G' H' S' v d, Stp K G H S G' H' S' → Rp K G' v d → QD d S' → Q v H'
def liftM (K : PySem.W.Frag) (r : RCD) : V → List V → Hp → VK → Prop := fun x vs H Q => liftC K r (x :: vs) H Q
section
variable {X : Cx} {e a b c : Expr} {es : List Expr} {st : Stmt} {sts : List Stmt} {pos : Pos} {W : WX}
theorem PE.weak {t t' : TE} (h : PE X e t) (w : ∀ σ H Q, t' σ H Q → t σ H Q) : PE X e t' := ⟨fun pins s σ H Q I q => h.run pins s σ H Q I (w σ H Q q)⟩
theorem PT.weak {t t' : TT} (h : PT X e t) (w : ∀ σ H Q, t' σ H Q → t σ H Q) : PT X e t' := ⟨fun pins s σ H Q I q => h.run pins s σ H Q I (w σ H Q q)⟩
theorem PW.weak {t t' : TT} (h : PW X e t) (w : ∀ σ H Q, t' σ H Q → t σ H Q) : PW X e t' := ⟨fun wh pins s σ H Q I q => h.run wh pins s σ H Q I (w σ H Q q)⟩
theorem PA.weak {t t' : TA} (h : PA X es t) (w : ∀ σ H Q, t' σ H Q → t σ H Q) : PA X es t' := ⟨fun p pins s σ H Q I q => h.run p pins s σ H Q I (w σ H Q q)⟩
theorem PS.weak {t t' : TS} (h : PS X st t) (w : ∀ D σ H, t' D σ H → t D σ H) : PS X st t' := ⟨fun pins s σ H D I q => h.run pins s σ H D I (w D σ H q)⟩
theorem PSs.weak {t t' : TS} (h : PSs X sts t) (w : ∀ D σ H, t' D σ H → t D σ H) : PSs X sts t' := ⟨fun pins s σ H D I q => h.run pins s σ H D I (w D σ H q)⟩
theorem PI.weak {tg : Expr} {t t' : TI} (h : PI X tg e t) (w : ∀ σ H R, t' σ H R → t σ H R) : PI X tg e t' := ⟨fun pins s σ H R I q => h.run pins s σ H R I (w σ H R q)⟩
theorem PG.weak {g g' : TG} (h : PG X e g) (w : ∀ v σ H Q, g' v σ H Q → g v σ H Q) : PG X e g' := ⟨fun pins s σ H v u Q I r q => h.run pins s σ H v u Q I r (w v σ H Q q)⟩
theorem PGs.weak {g g' : TGs} (h : PGs X es g) (w : ∀ v σ H Q, g' v σ H Q → g v σ H Q) : PGs X es g' := ⟨fun pins s σ H v u Q I r q => h.run pins s σ H v u Q I r (w v σ H Q q)⟩
theorem OpR.weak {f : Value → Value → Sem Value} {r r' : R2} (h : OpR X f r) (w : ∀ x y H Q, r' x y H Q → r x y H Q) : OpR X f r' := fun pins s σ H x y v u Q I r1 r2 q => h pins s σ H x y v u Q I r1 r2 (w x y H Q q)
theorem OpR.or {f : Value → Value → Sem Value} {r r' : R2} (h : OpR X f r) (h' : OpR X f r') : OpR X f (fun x y H Q => r x y H Q ∨ r' x y H Q) := fun pins s σ H x y v u Q I r1 r2 q => q.elim (h pins s σ H x y v u Q I r1 r2) (h' pins s σ H x y v u Q I r1 r2)
theorem CallR.weak {f : Value} {r r' : List V → Hp → VK → Prop} (h : CallR X f r) (w : ∀ x H Q, r' x H Q → r x H Q) : CallR X f r' := fun pins s σ H xs us Q I r1 q => h pins s σ H xs us Q I r1 (w xs H Q q)
theorem CallR.or {f : Value} {r r' : List V → Hp → VK → Prop} (h : CallR X f r) (h' : CallR X f r') : CallR X f (fun x H Q => r x H Q ∨ r' x H Q) := fun pins s σ H xs us Q I r1 q => q.elim (h pins s σ H xs us Q I r1) (h' pins s σ H xs us Q I r1)
theorem IxR.weak {r r' : R2} (h : IxR X r) (w : ∀ x y H Q, r' x y H Q → r x y H Q) : IxR X r' := fun vl sl pins s σ H x y v u Q I r1 r2 q z => h vl sl pins s σ H x y v u Q I r1 r2 (w x y H Q q) z
theorem IxR.or {r r' : R2} (h : IxR X r) (h' : IxR X r') : IxR X (fun x y H Q => r x y H Q ∨ r' x y H Q) := fun vl sl pins s σ H x y v u Q I r1 r2 q z => q.elim (fun q => h vl sl pins s σ H x y v u Q I r1 r2 q z) (fun q => h' vl sl pins s σ H x y v u Q I r1 r2 q z)
theorem PE.or {t t' : TE} (h : PE X e t) (h' : PE X e t') : PE X e (fun σ H Q => t σ H Q ∨ t' σ H Q) := ⟨fun pins s σ H Q I q => q.elim (h.run pins s σ H Q I) (h'.run pins s σ H Q I)⟩
theorem KX.step {σ : L2.St} {XD : XQ} (k : KX K W σ G H S XD) (s : Stp K G H S G' H' S') : KX K W σ G' H' S' XD := fun G2 H2 S2 cls d x st r q => k G2 H2 S2 cls d x (s.trans st) r q
theorem ER.step {E : DEnds} {D : Ends} (k : ER K W G H S E D) (s : Stp K G H S G' H' S') : ER K W G' H' S' E D :=
  ⟨fun G2 H2 S2 σ δ st r q => k.nx G2 H2 S2 σ δ (s.trans st) r q, fun G2 H2 S2 v d st r q => k.rt G2 H2 S2 v d (s.trans st) r q, fun G2 H2 S2 σ δ st r q => k.bk G2 H2 S2 σ δ (s.trans st) r q, fun G2 H2 S2 σ δ st r q => k.ct G2 H2 S2 σ δ (s.trans st) r q, fun G2 H2 S2 σ δ cls d x st re r q => k.xc G2 H2 S2 σ δ cls d x (s.trans st) re r q⟩
def dVar (i : Nat) : DTE := fun δ S Q _ => match nth δ i with
  | some d => Q d S
  | none => False
def dC (d : D) : DTE := fun _ S Q _ => Q d S
theorem sim_var {i : Nat} : ∀ σ H Q, liftE K W (dVar i) σ H Q → tVar i σ H Q := by
  rintro σ H Q ⟨G, δ, S, QD, XD, re, rl, h, kq, kx⟩
  unfold dVar at h
  cases e : nth δ i with
  | none => rw [e] at h; exact h.elim
  | some d =>
    rw [e] at h
    obtain ⟨v, h1, h2⟩ := re.at_ i d e
    exact ⟨v, h1, kq G H S v d (Stp.refl rl) h2 h⟩
theorem dv (i : Nat) {x : Str} {pos : Pos} (hN : X.N[i]? = some x := by rfl) (hv : Vis X.env.scope x := by first | exact Or.inl rfl | exact Or.inr (Or.inl rfl) | exact Or.inr (Or.inr rfl)) (hd : (x == ("__debug__" : Str)) = false := by decide)
    (hcd : (x == ("__classdict__" : Str)) = false := by decide) : PD X (.Name x pos) (dVar i) := ⟨fun W _ => PE.weak (pe_var hN hv hd hcd) sim_var⟩
theorem sim_c {v : V} {d : D} (r : ∀ G, Rp K G v d) : ∀ σ H Q, liftE K W (dC d) σ H Q → tC v σ H Q := by
  rintro σ H Q ⟨G, δ, S, QD, XD, re, rl, h, kq, kx⟩
  exact kq G H S v d (Stp.refl rl) (r G) h
theorem de_int {i j pos} : PD X (.Constant (.int i) j pos) (dC (.int i)) := ⟨fun W _ => PE.weak pe_int (sim_c fun _ => .int i)⟩
theorem de_bl {i j pos} : PD X (.Constant (.bool i) j pos) (dC (.bl i)) := ⟨fun W _ => PE.weak pe_bl (sim_c fun _ => .bl i)⟩
theorem de_non {j pos} : PD X (.Constant .none j pos) (dC .non) := ⟨fun W _ => PE.weak pe_non (sim_c fun _ => .non)⟩
theorem de_str {x : Str} {j pos} (h : okS x := by decide +kernel) : PD X (.Constant (.str x) j pos) (dC (.str x)) := ⟨fun W _ => PE.weak pe_str (sim_c fun _ => .str h)⟩
theorem de_glob {x : Str} {v : V} {d : D} {u : Value} {pos : Pos} (hg : Gl X x) (hm : X.mg x = some u) (r : RelV v u) (rd : ∀ G, Rp X.K G v d) (hd : (x == ("__debug__" : Str)) = false := by decide) : PD X (.Name x pos) (dC d) := ⟨fun W _ => PE.weak (pe_glob hg hm r hd) (sim_c rd)⟩
def dOp (r : R2D) (ta tb : DTE) : DTE := fun δ S Q X => ta δ S (fun x S1 => tb δ S1 (fun y S2 => r x y S2 Q) X) X
theorem sim_op {r : R2D} {ta tb : DTE} : ∀ σ H Q, liftE K W (dOp r ta tb) σ H Q → tOp (lift2 K r) (liftE K W ta) (liftE K W tb) σ H Q := by
  rintro σ H Q ⟨G, δ, S, QD, XD, re, rl, h, kq, kx⟩
  exact ⟨G, δ, S, _, XD, re, rl, h, fun G1 H1 S1 x dx s1 rx q => ⟨G1, δ, S1, _, XD, re.mono s1.sg, s1.rel, q, fun G2 H2 S2 y dy s2 ry q2 =>
    ⟨G2, S2, dx, dy, QD, s2.rel, rx.mono s2.sg, ry, q2, fun G3 H3 S3 v d s3 rv q3 => kq G3 H3 S3 v d ((s1.trans s2).trans s3) rv q3⟩, kx.step s1⟩, kx⟩
theorem de_op {op : Operator} {r : R2D} {ta tb : DTE} (ho : OpR X (binaryOp op) (lift2 X.K r)) (ha : PD X a ta) (hb : PD X b tb) : PD X (.BinOp a op b pos) (dOp r ta tb) := ⟨fun W tk => PE.weak (pe_op ho (ha.run W tk) (hb.run W tk)) sim_op⟩
theorem de_cmp {op : CmpOp} {r : R2D} {ta tb : DTE} (ho : OpR X (compareOp op) (lift2 X.K r)) (ha : PD X a ta) (hb : PD X b tb) (hm : behindInMarks op b = false := by rfl) : PD X (.Compare a [op] [b] pos) (dOp r ta tb) := ⟨fun W tk => PE.weak (pe_cmpR ho (ha.run W tk) (hb.run W tk) hm) sim_op⟩
def dUn (r : D → Sto → DQ → Prop) (ta : DTE) : DTE := fun δ S Q X => ta δ S (fun x S1 => r x S1 Q) X
theorem de_neg {ta : DTE} (ha : PD X a ta) : PD X (.UnaryOp .USub a pos) (dUn (fun x S Q => match x with | .int i => Q (.int (-i)) S | _ => False) ta) := ⟨fun W tk => PE.weak (pe_un un_neg (ha.run W tk)) (by
  rintro σ H Q ⟨G, δ, S, QD, XD, re, rl, h, kq, kx⟩
  refine ⟨G, δ, S, _, XD, re, rl, h, fun G1 H1 S1 x dx s1 rx q => ?_, kx⟩
  cases rx with
  | int i => exact ⟨i, rfl, kq _ _ _ _ _ s1 (.int _) q⟩
  | _ => exact q.elim)⟩
def two (f : D → D → Sto → DQ → Prop) : R2D := fun x y S Q => f (vw S x) (vw S y) S Q
def oInt (C : Int → Int → Prop) (g : Int → Int → D) : R2D := fun x y S Q => match x, y with
  | .int i, .int j => C i j ∧ Q (g i j) S
  | _, _ => False
def oInt0 (g : Int → Int → D) : R2D := fun x y S Q => match x, y with
  | .int i, .int j => Q (g i j) S
  | _, _ => False
theorem sim_int {C : Int → Int → Prop} {g : Int → Int → V} {gd : Int → Int → D} (hg : ∀ G i j, Rp K G (g i j) (gd i j)) : ∀ x y H Q, lift2 K (oInt C gd) x y H Q → rI C g x y H Q := by
  rintro x y H Q ⟨G, S, dx, dy, QD, rl, rx, ry, h, kq⟩
  cases rx with
  | int i => cases ry with
    | int j => exact ⟨i, j, rfl, rfl, h.1, kq G H S _ _ (Stp.refl rl) (hg G i j) h.2⟩
    | _ => exact h.elim
  | _ => exact h.elim
theorem sim_int0 {g : Int → Int → V} {gd : Int → Int → D} (hg : ∀ G i j, Rp K G (g i j) (gd i j)) : ∀ x y H Q, lift2 K (oInt0 gd) x y H Q → rI0 g x y H Q := by
  rintro x y H Q ⟨G, S, dx, dy, QD, rl, rx, ry, h, kq⟩
  cases rx with
  | int i => cases ry with
    | int j => exact ⟨i, j, rfl, rfl, kq G H S _ _ (Stp.refl rl) (hg G i j) h⟩
    | _ => exact h.elim
  | _ => exact h.elim
theorem o_fdiv : OpR X (binaryOp .FloorDiv) (lift2 X.K (oInt (fun _ j => 0 < j ∧ j < 1073741824) fun i j => .int (i / j))) := OpR.weak op_fdiv (sim_int fun _ _ _ => .int _)
theorem o_mod : OpR X (binaryOp .Mod) (lift2 X.K (oInt (fun _ j => 0 < j) fun i j => .int (i % j))) := OpR.weak op_mod (sim_int fun _ _ _ => .int _)
theorem o_pow : OpR X (binaryOp .Pow) (lift2 X.K (oInt (fun i j => 0 ≤ j ∧ j ≤ 1000000 ∧ i.natAbs < 2 ^ 64) fun i j => .int (i ^ j.toNat))) := OpR.weak op_pow (sim_int fun _ _ _ => .int _)
theorem o_lt : OpR X (compareOp .Lt) (lift2 X.K (oInt0 fun i j => .bl (decide (i < j)))) := OpR.weak op_lt (sim_int0 fun _ _ _ => .bl _)
theorem o_gt : OpR X (compareOp .Gt) (lift2 X.K (oInt0 fun i j => .bl (decide (j < i)))) := OpR.weak op_gt (sim_int0 fun _ _ _ => .bl _)
theorem o_ge : OpR X (compareOp .GtE) (lift2 X.K (oInt0 fun i j => .bl (decide (j ≤ i)))) := OpR.weak op_ge (sim_int0 fun _ _ _ => .bl _)
end
end SM
namespace SM
open PySem PySem.Spec PyProof.Rows L2
variable {K : PySem.W.Frag} {G G' G2 H H' H2 : Hp} {S S' S2 : Sto}
theorem plns_all (n : Nat) (ds : List D) : plns n ds = ds.all (pln n) := by
  induction ds with
  | nil => rfl
  | cons d r ih => rw [plns, ih]; rfl
theorem dp_vw (r : Rel K G H S) {n : Nat} {d : D} {v : V} (h : Rp K G v d) (e : pln (n + 1) (vw S d) = true) : Dp K H v (toP (vw S d)) ∧ PyData.canLay0 (toP (vw S d)) = true ∧ (toP (vw S d)).depth ≤ n + 1 := by
  cases q : vw S d with
  | lst ds =>
    rw [q] at e
    obtain ⟨a, vs, rfl, h1, h2, h3⟩ := vw_lst r h q
    obtain ⟨x, b, c⟩ := dps_of r n _ _ h2 (by simpa [pln] using e)
    exact ⟨.lst (SqL.of h1) x, by simpa [toP, PyData.canLay0] using b, by simp only [toP, PyData.depth]; omega⟩
  | tup ds =>
    rw [q] at e
    obtain ⟨a, vs, rfl, h0, h1, h2, h3⟩ := vw_tup r h q
    obtain ⟨x, b, c⟩ := dps_of r n _ _ h2 (by simpa [pln] using e)
    exact ⟨.tup (SqT.of h1) x, by simpa [toP, PyData.canLay0] using b, by simp only [toP, PyData.depth]; omega⟩
  | non => obtain ⟨_, _, _, z, _⟩ := vw_scal (S := S) h; rw [z q]; exact ⟨.non, rfl, by simp [toP, PyData.depth]⟩
  | bl b => obtain ⟨z, _, _, _, _⟩ := vw_scal (S := S) h; rw [z _ q]; exact ⟨.bl _, rfl, by simp [toP, PyData.depth]⟩
  | int b => obtain ⟨_, z, _, _, _⟩ := vw_scal (S := S) h; rw [z _ q]; exact ⟨.int _, rfl, by simp [toP, PyData.depth]⟩
  | str b => obtain ⟨_, _, z, _, _⟩ := vw_scal (S := S) h; obtain ⟨z1, z2⟩ := z _ q; rw [z1]; exact ⟨.str _, by simp [toP, PyData.canLay0, z2.2], by simp [toP, PyData.depth]⟩
  | _ => rw [q] at e; simp [pln] at e
def eqB : D → D → Bool
  | .int i, .int j => decide (i = j)
  | .str i, .str j => decide (i = j)
  | .bl i, .bl j => decide (i = j)
  | .non, .non => true
  | x, y => PyData.eqv (toP x) (toP y)
theorem eqB_eq (x y : D) (hx : pln 9 x = true) (hy : pln 9 y = true) : eqB x y = PyData.eqv (toP x) (toP y) := by
  cases x <;> cases y <;> first | rfl | (simp only [eqB, toP, PyData.eqv]; first | rfl | (rw [Bool.eq_iff_iff]; simp))
def oEq : R2D := fun x y S Q => vwk S x fun x' => vwk S y fun y' => (pln 9 x' && pln 9 y') = true ∧ Q (.bl (eqB x' y')) S
def oNe : R2D := fun x y S Q => vwk S x fun x' => vwk S y fun y' => (pln 9 x' && pln 9 y') = true ∧ Q (.bl (!eqB x' y')) S
section
variable {X : Cx} {e a b c : Expr} {es : List Expr} {st : Stmt} {sts : List Stmt} {pos : Pos} {W : WX} {k : Nat}
theorem o_eq (hr : Room k X.A) : OpR X (compareOp .Eq) (lift2 X.K oEq) := OpR.weak (op_eqD hr.units) (by
  rintro x y H Q ⟨G, S, dx, dy, QD, rl, rx, ry, hh, kq⟩
  obtain ⟨h, q⟩ : (pln 9 (vw S dx) && pln 9 (vw S dy)) = true ∧ _ := by simpa only [oEq, oNe, vwk_is] using hh
  rw [Bool.and_eq_true] at h
  obtain ⟨a1, a2, a3⟩ := dp_vw rl rx h.1
  obtain ⟨b1, b2, b3⟩ := dp_vw rl ry h.2
  refine ⟨_, _, a1, b1, by simp [SeqAt.shaped, a2]; omega, by simp [SeqAt.shaped, b2]; omega, ?_⟩
  rw [← eqB_eq _ _ h.1 h.2]
  exact kq _ _ _ _ _ (Stp.refl rl) (.bl _) q)
theorem o_ne (hr : Room k X.A) : OpR X (compareOp .NotEq) (lift2 X.K oNe) := OpR.weak (op_neD hr.units) (by
  rintro x y H Q ⟨G, S, dx, dy, QD, rl, rx, ry, hh, kq⟩
  obtain ⟨h, q⟩ : (pln 9 (vw S dx) && pln 9 (vw S dy)) = true ∧ _ := by simpa only [oEq, oNe, vwk_is] using hh
  rw [Bool.and_eq_true] at h
  obtain ⟨a1, a2, a3⟩ := dp_vw rl rx h.1
  obtain ⟨b1, b2, b3⟩ := dp_vw rl ry h.2
  refine ⟨_, _, a1, b1, by simp [SeqAt.shaped, a2]; omega, by simp [SeqAt.shaped, b2]; omega, ?_⟩
  rw [← eqB_eq _ _ h.1 h.2]
  exact kq _ _ _ _ _ (Stp.refl rl) (.bl _) q)
def isNon : D → Bool
  | .non => true
  | _ => false
theorem isNon_v {v : V} {d : D} (h : Rp K G v d) : decide (v = .non) = isNon d := by cases h <;> simp [isNon]
def oIs : R2D := fun x y S Q => match y with
  | .non => Q (.bl (isNon x)) S
  | .bl b => (match x with
    | .bl a => Q (.bl (decide (a = b))) S
    | _ => False)
  | _ => False
end
end SM
namespace SM
open PySem PySem.Spec PyProof.Rows L2
variable {K : PySem.W.Frag} {G G' G2 H H' H2 : Hp} {S S' S2 : Sto}
section
variable {X : Cx} {e a b c : Expr} {es : List Expr} {st : Stmt} {sts : List Stmt} {pos : Pos} {W : WX} {k : Nat}
theorem o_is : OpR X (compareOp .Is) (lift2 X.K oIs) := OpR.weak (OpR.or op_isN op_isBl) (by
  rintro x y H Q ⟨G, S, dx, dy, QD, rl, rx, ry, h, kq⟩
  cases ry with
  | non => exact .inl ⟨rfl, by rw [isNon_v rx]; exact kq _ _ _ _ _ (Stp.refl rl) (.bl _) h⟩
  | bl b => cases rx with
    | bl a => exact .inr ⟨a, b, rfl, rfl, kq _ _ _ _ _ (Stp.refl rl) (.bl _) h⟩
    | _ => exact h.elim
  | _ => exact h.elim)
theorem str_append {x y : Str} (hx : okS x) (hy : okS y) (h : x.length + y.length ≤ sizeLine) : okS (x ++ y) := by
  have e : (x ++ y) = ⟨x.cps ++ y.cps⟩ := rfl
  refine ⟨?_, ?_⟩
  · show (x.cps ++ y.cps).size ≤ sizeLine
    rw [Array.size_append]; exact h
  · rw [e]
    have h1 := hx.2
    have h2 := hy.2
    unfold PyData.strOk at h1 h2 ⊢
    simp only [Array.all_append, h1, h2, Bool.and_self]
theorem fz_lst (rl : Rel K G H S) {p : Addr} {vs : List V} {ds : List D} (hp : H p = none) (r : Rps K G vs ds) (hl : ds.length ≤ sizeLine) : Stp K G H S (upd G p (.lst vs)) (upd H p (.lst vs)) S ∧ Rp K (upd G p (.lst vs)) (.ref p) (.lst ds) :=
  ⟨Stp.newF rl hp, .lst upd_same (r.mono (Stp.newF (o := .lst vs) rl hp).sg) hl⟩
theorem fz_tup (rl : Rel K G H S) {p : Addr} {vs : List V} {ds : List D} (hp : H p = none) (r : Rps K G vs ds) (hl : ds.length ≤ sizeLine) : Stp K G H S (upd G p (.tup vs)) (upd H p (.tup vs)) S ∧ Rp K (upd G p (.tup vs)) (.ref p) (.tup ds) :=
  ⟨Stp.newF rl hp, .tup upd_same (r.mono (Stp.newF (o := .tup vs) rl hp).sg) hl⟩
theorem ow_lst (rl : Rel K G H S) {p : Addr} {vs : List V} {ds : List D} (hp : H p = none) (r : Rps K G vs ds) (hl : ds.length ≤ sizeLine) : Stp K G H S G (upd H p (.lst vs)) (su S p (.lst ds)) := Stp.newO rl hp ⟨vs, rfl, r, hl⟩
def oAdd : R2D := fun x y S Q => vwk S x fun x' => vwk S y fun y' => match x', y' with
  | .int i, .int j => Q (.int (i + j)) S
  | .str i, .str j => i.length + j.length ≤ sizeLine ∧ Q (.str (i ++ j)) S
  | .lst i, .lst j => i.length + j.length ≤ sizeLine ∧ Q (.lst (i ++ j)) S
  | _, _ => False
theorem o_add : OpR X (binaryOp .Add) (lift2 X.K oAdd) := OpR.weak (OpR.or op_add (OpR.or op_add_str op_cat)) (by
  rintro x y H Q ⟨G, S, dx, dy, QD, rl, rx, ry, h, kq⟩
  simp only [oAdd, vwk_is] at h
  split at h
  · rename_i i j ex ey
    rw [(vw_scal rx).2.1 _ ex, (vw_scal ry).2.1 _ ey]
    exact .inl ⟨i, j, rfl, rfl, kq _ _ _ _ _ (Stp.refl rl) (.int _) h⟩
  · rename_i i j ex ey
    obtain ⟨hx, ox⟩ := (vw_scal rx).2.2.1 _ ex
    obtain ⟨hy, oy⟩ := (vw_scal ry).2.2.1 _ ey
    rw [hx, hy]
    exact .inr (.inl ⟨i, j, rfl, rfl, h.1, kq _ _ _ _ _ (Stp.refl rl) (.str (str_append ox oy h.1)) h.2⟩)
  · rename_i i j ex ey
    obtain ⟨p, vs, rfl, hp, rv, lv⟩ := vw_lst rl rx ex
    obtain ⟨q, us, rfl, hq, ru, lu⟩ := vw_lst rl ry ey
    refine .inr (.inr ⟨p, q, vs, us, rfl, rfl, hp, hq, by rw [rv.length, ru.length]; exact h.1, fun z hz => ?_⟩)
    obtain ⟨s1, r1⟩ := fz_lst rl hz (rv.append ru) (by rw [List.length_append]; exact h.1)
    exact kq _ _ _ _ _ s1 r1 h.2
  · exact h.elim)
def oMul : R2D := fun x y S Q => vwk S x fun x' => match x', y with
  | .int i, .int j => ((-(2 ^ 64) < i ∧ i < 2 ^ 64) ∨ (-(2 ^ 64) < j ∧ j < 2 ^ 64)) ∧ Q (.int (i * j)) S
  | .lst ds, .int j => (0 ≤ j ∧ j < 2 ^ 63 ∧ ds.length * j.toNat ≤ sizeLine) ∧ Q (.lst (List.replicate j.toNat ds).flatten) S
  | _, _ => False
theorem Rps.rep {vs : List V} {ds : List D} (r : Rps K G vs ds) : ∀ n : Nat, Rps K G (List.replicate n vs).flatten (List.replicate n ds).flatten
  | 0 => .nil
  | n + 1 => by
    rw [List.replicate_succ, List.replicate_succ, List.flatten_cons, List.flatten_cons]
    exact r.append (r.rep n)
theorem rep_len {α : Type} (l : List α) (n : Nat) : (List.replicate n l).flatten.length = l.length * n := by
  induction n with
  | zero => rfl
  | succ n ih => rw [List.replicate_succ, List.flatten_cons, List.length_append, ih, Nat.mul_succ]; omega
theorem o_mul : OpR X (binaryOp .Mult) (lift2 X.K oMul) := OpR.weak (OpR.or op_mul op_rep) (by
  rintro x y H Q ⟨G, S, dx, dy, QD, rl, rx, ry, h, kq⟩
  simp only [oMul, vwk_is] at h
  split at h
  · rename_i i j ex
    rw [(vw_scal rx).2.1 _ ex]
    cases ry
    exact .inl ⟨i, j, rfl, rfl, h.1, kq _ _ _ _ _ (Stp.refl rl) (.int _) h.2⟩
  · rename_i ds j ex
    obtain ⟨p, vs, rfl, hp, rv, lv⟩ := vw_lst rl rx ex
    cases ry
    obtain ⟨⟨h1, h2, h3⟩, h4⟩ := h
    refine .inr ⟨p, j, vs, rfl, rfl, hp, by omega, h2, by rw [rv.length]; exact h3, fun z hz => ?_⟩
    obtain ⟨s1, r1⟩ := fz_lst rl hz (rv.rep j.toNat) (by rw [rep_len]; exact h3)
    exact kq _ _ _ _ _ s1 r1 h4
  · exact h.elim)
def dNil : DTA := fun _ S Q _ => Q [] S
def dCons (ta : DTE) (tr : DTA) : DTA := fun δ S Q X => ta δ S (fun x S1 => tr δ S1 (fun xs S2 => Q (x :: xs) S2) X) X
theorem da_nil : PDA X [] dNil := ⟨fun W tk => PA.weak pa_nil (by
  rintro σ H Q ⟨G, δ, S, QD, XD, re, rl, h, kq, kx⟩
  exact kq _ _ _ _ _ (Stp.refl rl) .nil h)⟩
theorem da_cons {ta : DTE} {tr : DTA} (ha : PD X e ta) (hr : PDA X es tr) (hs : starEach (e :: es) X.env = (false, eval e X.env) :: starEach es X.env := by rfl) : PDA X (e :: es) (dCons ta tr) := ⟨fun W tk => PA.weak (pa_cons (ha.run W tk) (hr.run W tk) hs) (by
  rintro σ H Q ⟨G, δ, S, QD, XD, re, rl, h, kq, kx⟩
  exact ⟨G, δ, S, _, XD, re, rl, h, fun G1 H1 S1 x dx s1 rx q => ⟨G1, δ, S1, _, XD, re.mono s1.sg, s1.rel, q, fun G2 H2 S2 xs ds s2 rs q2 =>
    kq _ _ _ _ _ (s1.trans s2) (.cons (rx.mono s2.sg) rs) q2, kx.step s1⟩, kx⟩)⟩
def few (xs : List D) (P : Prop) : Prop := match Nat.ble xs.length 1000 with
  | true => P
  | false => False
theorem few_of {xs : List D} {P : Prop} (h : few xs P) : xs.length ≤ sizeLine ∧ P := by
  unfold few at h
  cases q : Nat.ble xs.length 1000 with
  | false => rw [q] at h; exact h.elim
  | true => rw [q] at h; exact ⟨Nat.le_trans (Nat.le_of_ble_eq_true q) (by decide), h⟩
def dTup (t : DTA) : DTE := fun δ S Q X => t δ S (fun xs S1 => few xs (Q (.tup xs) S1)) X
def dLst (t : DTA) : DTE := fun δ S Q X => t δ S (fun xs S1 => few xs (Q (.lst xs) S1)) X
def dLstO (t : DTA) : DTE := fun δ S Q X => t δ S (fun xs S1 => few xs (∀ p, S1 p = none → Q (.adr p) (su S1 p (.lst xs)))) X
theorem de_tup {x1} {t : DTA} (h : PDA X es t) : PD X (.Tuple es x1 pos) (dTup t) := ⟨fun W tk => PE.weak (pe_tup (h.run W tk)) (by
  rintro σ H Q ⟨G, δ, S, QD, XD, re, rl, h, kq, kx⟩
  refine ⟨G, δ, S, _, XD, re, rl, h, fun G1 H1 S1 xs ds s1 rs q => ?_, kx⟩
  obtain ⟨l, q⟩ := few_of q
  refine ⟨by rw [rs.length]; exact l, fun p hp => ?_⟩
  obtain ⟨s2, r2⟩ := fz_tup s1.rel hp rs l
  exact kq _ _ _ _ _ (s1.trans s2) r2 q)⟩
theorem de_lst {t : DTA} (h : PDA X es t) : PD X (.List es pos) (dLst t) := ⟨fun W tk => PE.weak (pe_lst (h.run W tk)) (by
  rintro σ H Q ⟨G, δ, S, QD, XD, re, rl, h, kq, kx⟩
  refine ⟨G, δ, S, _, XD, re, rl, h, fun G1 H1 S1 xs ds s1 rs q => ?_, kx⟩
  obtain ⟨l, q⟩ := few_of q
  refine ⟨by rw [rs.length]; exact l, fun p hp => ?_⟩
  obtain ⟨s2, r2⟩ := fz_lst s1.rel hp rs l
  exact kq _ _ _ _ _ (s1.trans s2) r2 q)⟩
theorem de_lstO {t : DTA} (h : PDA X es t) : PD X (.List es pos) (dLstO t) := ⟨fun W tk => PE.weak (pe_lst (h.run W tk)) (by
  rintro σ H Q ⟨G, δ, S, QD, XD, re, rl, h, kq, kx⟩
  refine ⟨G, δ, S, _, XD, re, rl, h, fun G1 H1 S1 xs ds s1 rs q => ?_, kx⟩
  obtain ⟨l, q⟩ := few_of q
  refine ⟨by rw [rs.length]; exact l, fun p hp => ?_⟩
  exact kq _ _ _ _ _ (s1.trans (ow_lst s1.rel hp rs l)) (.adr p) (q p (s1.rel.free hp).2))⟩
def oTru (d : D) (S : Sto) (Q : Bool → Sto → Prop) : Prop := vwk S d fun d' => match d' with
  | .bl b => Q b S
  | .int i => Q (decide (i ≠ 0)) S
  | .str s => Q (decide (s.length ≠ 0)) S
  | .lst ds => Q (!ds.isEmpty) S
  | .tup ds => Q (!ds.isEmpty) S
  | .non => Q false S
  | _ => False
def dTru (t : DTE) : DTT := fun δ S Q X => t δ S (fun x S1 => oTru x S1 Q) X
theorem emp_len {vs : List V} {ds : List D} (r : Rps K G vs ds) : (!vs.isEmpty) = !ds.isEmpty := by cases r <;> rfl
theorem dt_val {t : DTE} (h : PD X a t) (he : ∀ whole, isTrue a X.env whole = (do let v ← whole; standAt a.pos; holding [v] (truthy v)) := by intro _; rfl) : PDT X a (dTru t) := ⟨fun W tk => PT.weak (pt_truth (h.run W tk) he) (by
  rintro σ H Q ⟨G, δ, S, QD, XD, re, rl, h, kq, kx⟩
  refine ⟨G, δ, S, _, XD, re, rl, h, fun G1 H1 S1 x d s1 rx q => ?_, kx⟩
  simp only [oTru, vwk_is] at q
  split at q
  · rename_i b ex; rw [(vw_scal rx).1 _ ex]; exact ⟨b, rfl, kq _ _ _ _ s1 q⟩
  · rename_i i ex
    rw [(vw_scal rx).2.1 _ ex]
    refine ⟨_, rfl, ?_⟩
    have e : (i != 0) = decide (i ≠ 0) := by rw [Bool.eq_iff_iff]; simp
    rw [e]
    exact kq _ _ _ _ s1 q
  · rename_i z ex
    obtain ⟨h1, h2⟩ := (vw_scal rx).2.2.1 _ ex
    rw [h1]
    refine ⟨_, ⟨h2.1, rfl⟩, ?_⟩
    have e : ((z.length : Int) != 0) = decide (z.length ≠ 0) := by
      rw [Bool.eq_iff_iff]; simp
    rw [e]; exact kq _ _ _ _ s1 q
  · rename_i ds ex
    obtain ⟨p, vs, rfl, hp, rv, _⟩ := vw_lst s1.rel rx ex
    exact ⟨_, .inl ⟨vs, SqL.of hp, rfl⟩, by rw [emp_len rv]; exact kq _ _ _ _ s1 q⟩
  · rename_i ds ex
    obtain ⟨p, vs, rfl, _, hp, rv, _⟩ := vw_tup s1.rel rx ex
    exact ⟨_, .inr (.inl ⟨vs, SqT.of hp, rfl⟩), by rw [emp_len rv]; exact kq _ _ _ _ s1 q⟩
  · rename_i ex
    rw [(vw_scal rx).2.2.2.1 ex]
    exact ⟨false, rfl, kq _ _ _ _ s1 q⟩
  · exact q.elim)⟩
def dNot (t : DTT) : DTT := fun δ S Q X => t δ S (fun b S1 => Q (!b) S1) X
def dAnd (t u : DTT) : DTT := fun δ S Q X => t δ S (fun b S1 => brn b (u δ S1 Q X) (Q false S1)) X
def dOr (t u : DTT) : DTT := fun δ S Q X => t δ S (fun b S1 => brn b (Q true S1) (u δ S1 Q X)) X
theorem dt_not {t : DTT} (h : PDT X a t) : PDT X (.UnaryOp .Not a pos) (dNot t) := ⟨fun W tk => PT.weak (pt_not (h.run W tk)) (by
  rintro σ H Q ⟨G, δ, S, QD, XD, re, rl, h, kq, kx⟩
  exact ⟨G, δ, S, _, XD, re, rl, h, fun G1 H1 S1 b s1 q => kq _ _ _ _ s1 q, kx⟩)⟩
theorem sim_and {t u : DTT} : ∀ σ H Q, liftT K W (dAnd t u) σ H Q → tAnd (liftT K W t) (liftT K W u) σ H Q := by
  rintro σ H Q ⟨G, δ, S, QD, XD, re, rl, h, kq, kx⟩
  refine ⟨G, δ, S, _, XD, re, rl, h, fun G1 H1 S1 b s1 q => ?_, kx⟩
  cases b with
  | true => rw [brn_t] at q; rw [if_pos rfl]; exact ⟨G1, δ, S1, QD, XD, re.mono s1.sg, s1.rel, q, fun G2 H2 S2 b s2 q2 => kq _ _ _ _ (s1.trans s2) q2, kx.step s1⟩
  | false => rw [brn_f] at q; rw [if_neg Bool.false_ne_true]; exact kq _ _ _ _ s1 q
theorem sim_or {t u : DTT} : ∀ σ H Q, liftT K W (dOr t u) σ H Q → tOr (liftT K W t) (liftT K W u) σ H Q := by
  rintro σ H Q ⟨G, δ, S, QD, XD, re, rl, h, kq, kx⟩
  refine ⟨G, δ, S, _, XD, re, rl, h, fun G1 H1 S1 b s1 q => ?_, kx⟩
  cases b with
  | false => rw [brn_f] at q; rw [if_neg Bool.false_ne_true]; exact ⟨G1, δ, S1, QD, XD, re.mono s1.sg, s1.rel, q, fun G2 H2 S2 b s2 q2 => kq _ _ _ _ (s1.trans s2) q2, kx.step s1⟩
  | true => rw [brn_t] at q; rw [if_pos rfl]; exact kq _ _ _ _ s1 q
theorem dw_and {t u : DTT} {rest : List Expr} (ha : PDT X a t) (hb : PDW X (.BoolOp .And (b :: rest) pos) u) : PDW X (.BoolOp .And (a :: b :: rest) pos) (dAnd t u) := ⟨fun W tk => PW.weak (pw_and (ha.run W tk) (hb.run W tk)) sim_and⟩
theorem dw_and1 {t : DTT} (ha : PDT X a t) : PDW X (.BoolOp .And [a] pos) t := ⟨fun W tk => pw_and1 (ha.run W tk)⟩
theorem dw_or {t u : DTT} {rest : List Expr} (ha : PDT X a t) (hb : PDW X (.BoolOp .Or (b :: rest) pos) u) : PDW X (.BoolOp .Or (a :: b :: rest) pos) (dOr t u) := ⟨fun W tk => PW.weak (pw_or (ha.run W tk) (hb.run W tk)) sim_or⟩
theorem dw_or1 {t : DTT} (ha : PDT X a t) : PDW X (.BoolOp .Or [a] pos) t := ⟨fun W tk => pw_or1 (ha.run W tk)⟩
theorem PDW.pt {t : DTT} (h : PDW X a t) : PDT X a t := ⟨fun W tk => (h.run W tk).pt⟩
def dAndV (t u : DTE) : DTE := fun δ S Q X => t δ S (fun x S1 => match x with
  | .bl b => brn b (u δ S1 Q X) (Q (.bl false) S1)
  | _ => False) X
def dOrV (t u : DTE) : DTE := fun δ S Q X => t δ S (fun x S1 => match x with
  | .bl b => brn b (Q (.bl true) S1) (u δ S1 Q X)
  | _ => False) X
def dNotV (t : DTE) : DTE := fun δ S Q X => t δ S (fun x S1 => match x with
  | .bl b => Q (.bl (!b)) S1
  | _ => False) X
theorem de_and {t u : DTE} {rest : List Expr} (ha : PD X a t) (hb : PD X (.BoolOp .And (b :: rest) pos) u) : PD X (.BoolOp .And (a :: b :: rest) pos) (dAndV t u) := ⟨fun W tk => PE.weak (pe_and (ha.run W tk) (hb.run W tk)) (by
  rintro σ H Q ⟨G, δ, S, QD, XD, re, rl, h, kq, kx⟩
  refine ⟨G, δ, S, _, XD, re, rl, h, fun G1 H1 S1 x d s1 rx q => ?_, kx⟩
  cases rx with
  | bl c =>
    refine ⟨c, rfl, ?_⟩
    cases c with
    | true => rw [if_pos rfl]; simp only [brn_t] at q; exact ⟨G1, δ, S1, QD, XD, re.mono s1.sg, s1.rel, q, fun G2 H2 S2 v d s2 rv q2 => kq _ _ _ _ _ (s1.trans s2) rv q2, kx.step s1⟩
    | false => rw [if_neg Bool.false_ne_true]; simp only [brn_f] at q; exact kq _ _ _ _ _ s1 (.bl _) q
  | _ => exact q.elim)⟩
theorem de_or {t u : DTE} {rest : List Expr} (ha : PD X a t) (hb : PD X (.BoolOp .Or (b :: rest) pos) u) : PD X (.BoolOp .Or (a :: b :: rest) pos) (dOrV t u) := ⟨fun W tk => PE.weak (pe_or (ha.run W tk) (hb.run W tk)) (by
  rintro σ H Q ⟨G, δ, S, QD, XD, re, rl, h, kq, kx⟩
  refine ⟨G, δ, S, _, XD, re, rl, h, fun G1 H1 S1 x d s1 rx q => ?_, kx⟩
  cases rx with
  | bl c =>
    refine ⟨c, rfl, ?_⟩
    cases c with
    | false => rw [if_neg Bool.false_ne_true]; simp only [brn_f] at q; exact ⟨G1, δ, S1, QD, XD, re.mono s1.sg, s1.rel, q, fun G2 H2 S2 v d s2 rv q2 => kq _ _ _ _ _ (s1.trans s2) rv q2, kx.step s1⟩
    | true => rw [if_pos rfl]; simp only [brn_t] at q; exact kq _ _ _ _ _ s1 (.bl _) q
  | _ => exact q.elim)⟩
theorem de_one {op} {t : DTE} (ha : PD X a t) : PD X (.BoolOp op [a] pos) t := ⟨fun W tk => pe_one (ha.run W tk)⟩
theorem de_not {t : DTE} (ha : PD X a t) : PD X (.UnaryOp .Not a pos) (dNotV t) := ⟨fun W tk => PE.weak (pe_not (ha.run W tk)) (by
  rintro σ H Q ⟨G, δ, S, QD, XD, re, rl, h, kq, kx⟩
  refine ⟨G, δ, S, _, XD, re, rl, h, fun G1 H1 S1 x d s1 rx q => ?_, kx⟩
  cases rx with
  | bl c => exact ⟨c, rfl, kq _ _ _ _ _ s1 (.bl _) q⟩
  | _ => exact q.elim)⟩
def dTestB (t : DTE) : DTT := fun δ S Q X => t δ S (fun x S1 => match x with
  | .bl b => Q b S1
  | _ => False) X
theorem sim_testB {t : DTE} : ∀ σ H Q, liftT K W (dTestB t) σ H Q → tTest (liftE K W t) σ H Q := by
  rintro σ H Q ⟨G, δ, S, QD, XD, re, rl, h, kq, kx⟩
  refine ⟨G, δ, S, _, XD, re, rl, h, fun G1 H1 S1 x d s1 rx q => ?_, kx⟩
  cases rx with
  | bl c => exact ⟨c, rfl, kq _ _ _ _ s1 q⟩
  | _ => exact q.elim
theorem dt_cmp {op : CmpOp} {r : R2D} {ta tb : DTE} (ho : OpR X (compareOp op) (lift2 X.K r)) (ha : PD X a ta) (hb : PD X b tb) (hm : behindInMarks op b = false := by rfl) : PDT X (.Compare a [op] [b] pos) (dTestB (dOp r ta tb)) :=
  ⟨fun W tk => PT.weak (pt_cmpR ho (ha.run W tk) (hb.run W tk) hm) (by
    rintro σ H Q h
    obtain ⟨G, δ, S, QD, XD, re, rl, h, kq, kx⟩ := sim_testB σ H Q h
    exact sim_op σ H _ ⟨G, δ, S, QD, XD, re, rl, h, kq, kx⟩)⟩
end
end SM
namespace SM
open PySem PySem.Spec PyProof.Rows L2
variable {K : PySem.W.Frag} {G G' G2 H H' H2 : Hp} {S S' S2 : Sto}
section
variable {X : Cx} {e a b c o i : Expr} {es : List Expr} {st : Stmt} {sts : List Stmt} {pos p apos cpos : Pos} {W : WX} {k : Nat} {x : Str}
def one (c : Nat) : Str := ⟨#[c]⟩
theorem atI_rps {vs : List V} {ds : List D} {i : Int} {d : D} (r : Rps K G vs ds) (h : atI ds i = some d) : ∃ v, atI vs i = some v ∧ Rp K G v d := by
  unfold atI at h ⊢
  rw [r.length]
  cases q : ixN ds.length i with
  | none => rw [q] at h; cases h
  | some j => rw [q] at h; exact r.get h
theorem okS_one {s : Str} {i : Int} {c : Nat} (h : okS s) (e : atI s.cps.toList i = some c) : okS (one c) := by
  refine ⟨(by show 1 ≤ sizeLine; decide), ?_⟩
  have hm : c ∈ s.cps.toList := by
    unfold atI at e
    cases q : ixN s.cps.toList.length i with
    | none => rw [q] at e; cases e
    | some j => rw [q] at e; exact List.mem_of_getElem? e
  have h2 := h.2
  unfold PyData.strOk at h2 ⊢
  rw [Array.all_eq_true_iff_forall_mem] at h2 ⊢
  intro z hz
  have : z = c := by simpa [one] using hz
  subst this
  exact h2 z (by simpa using hm)
theorem dKey_rp {v : V} {d : D} {k : Key} (r : Rp K G v d) (h : dKey d = some k) : v = kV k := by
  cases r <;> simp [dKey] at h
  · subst h; rfl
  · subst h; rfl
theorem dKeys_rps : ∀ {vs : List V} {ds : List D} {ks : List Key}, Rps K G vs ds → dKeys ds = some ks → vs = ks.map kV
  | _, _, ks, .nil, h => by cases h; rfl
  | _, _, ks, .cons r q, h => by
    unfold dKeys at h
    split at h
    · rename_i k ks' h1 h2
      cases h
      rw [List.map_cons, dKey_rp r h1, dKeys_rps q h2]
    · cases h
def valD (kvs : List (List Key × D)) (k : List Key) : Option D := (kvs.find? fun kv => decide (kv.1 = k)).map (·.2)
theorem valD_rkv : ∀ {ws : List (List Key × V)} {kvs : List (List Key × D)} (k : List Key), Rkv K G ws kvs → (valD kvs k = none ∧ valV ws k = none) ∨ ∃ d v, valD kvs k = some d ∧ valV ws k = some v ∧ Rp K G v d
  | _, _, k, .nil => .inl ⟨rfl, rfl⟩
  | _, _, k, @Rkv.cons _ _ k0 v d ws kvs r q => by
    unfold valD valV
    rw [List.find?_cons, List.find?_cons]
    by_cases h : k0 = k
    · simp only [h, decide_true]; exact .inr ⟨d, v, rfl, rfl, r⟩
    · simp only [h, decide_false]
      exact valD_rkv k q
def oIx : R2D := fun x y S Q => vwk S x fun x' => match x' with
  | .lst ds => (match y with
    | .int i => itk ds i fun d => Q d S
    | _ => False)
  | .tup ds => (match y with
    | .int i => itk ds i fun d => Q d S
    | _ => False)
  | .str s => (match y with
    | .int i => itk s.cps.toList i fun c => Q (.str (one c)) S
    | _ => False)
  | .dT kvs => (match y with
    | .tup ds => (match dKeys ds with
      | some ks => (match valD kvs ks with
        | some d => Q d S
        | none => False)
      | none => False)
    | _ => False)
  | _ => False
theorem ix_dict (hu : X.A.units + 1 < cLine) : IxR X (fun x y H Q => ∃ a v, x = .ref a ∧ DGet H a y (some v) ∧ Q v H) := by
  intro value slice pins s σ H x y v u Q I rx ry h hs
  obtain ⟨a, w, rfl, g, q⟩ := h
  obtain rfl : v = Value.ref a := rx
  have hT := dict_typeIs I g
  unfold subscriptTail
  refine wpAny_bind ?_
  rw [getitemInPython_of_ne hT.not_modules]
  refine wpAny_bind (wpAny_specialOf hT PySem.F.slot_dict_getitem.lookup ?_)
  have fin : wpAny (model X.prog X.w) X.A (subscripted slice false (.ref a) u) (fun r s₃ => wpAny (model X.prog X.w) X.A (letTemporaryGo value (.ref a) r >>= fun _ => pure r) (EP X pins σ Q) X.xe s₃) X.xe s := by
    rw [hs]
    exact wpAny_operating (d_getItem hu I g ry fun w' s3 I3 rw' => wpAny_bind (wpAny_letTemporaryGo (wpAny_pure ⟨w, H, I3, rw', q⟩)))
  first
    | exact wpAny_pure (wpAny_bind fin)
    | exact wpAny_bind (wpAny_pure (wpAny_bind fin))
    | exact wpAny_bind fin
theorem op_din (hu : X.A.units + 1 < cLine) : OpR X (compareOp .In) (fun y x H Q => ∃ a o, x = .ref a ∧ DGet H a y o ∧ Q (.bl o.isSome) H) := by
  intro pins s σ H y x v u Q I ry rx h
  obtain ⟨a, o, rfl, g, q⟩ := h
  obtain rfl : u = Value.ref a := rx
  exact d_in hu I g ry fun s3 I3 => ⟨.bl o.isSome, H, I3, rfl, q⟩
theorem op_dnin (hu : X.A.units + 1 < cLine) : OpR X (compareOp .NotIn) (fun y x H Q => ∃ a o, x = .ref a ∧ DGet H a y o ∧ Q (.bl (!o.isSome)) H) := by
  intro pins s σ H y x v u Q I ry rx h
  obtain ⟨a, o, rfl, g, q⟩ := h
  obtain rfl : u = Value.ref a := rx
  exact d_notIn hu I g ry fun s3 I3 => ⟨.bl (!o.isSome), H, I3, rfl, q⟩
theorem DGet.of_rd {a b : Addr} {ws : List (List Key × V)} {ks : List Key} (h : Rd H a (.dT ws)) (hb : H b = some (.tup (ks.map kV))) : DGet H a (.ref b) (valV ws ks) := .inr ⟨ws, ks, b, h, rfl, hb, rfl⟩
theorem i_ix (hr : Room k X.A) : IxR X (lift2 X.K oIx) := IxR.weak (IxR.or ix_list (IxR.or ix_tup (IxR.or ix_str (ix_dict (hu_of hr))))) (by
  rintro x y H Q ⟨G, S, dx, dy, QD, rl, rx, ry, h, kq⟩
  simp only [oIx, vwk_is, itk_is] at h
  split at h
  · rename_i ds ex
    obtain ⟨p, vs, rfl, hp, rv, lv⟩ := vw_lst rl rx ex
    split at h
    · rename_i i
      cases ry
      obtain ⟨d, ed, h⟩ := h
      · obtain ⟨v, e1, e2⟩ := atI_rps rv ed
        exact .inl ⟨p, vs, i, v, rfl, rfl, SqL.of hp, e1, kq _ _ _ _ _ (Stp.refl rl) e2 h⟩
    · exact h.elim
  · rename_i ds ex
    obtain ⟨p, vs, rfl, _, hp, rv, lv⟩ := vw_tup rl rx ex
    split at h
    · rename_i i
      cases ry
      obtain ⟨d, ed, h⟩ := h
      · obtain ⟨v, e1, e2⟩ := atI_rps rv ed
        exact .inr (.inl ⟨p, vs, i, v, rfl, rfl, SqT.of hp, e1, kq _ _ _ _ _ (Stp.refl rl) e2 h⟩)
    · exact h.elim
  · rename_i z ex
    obtain ⟨hx, ox⟩ := (vw_scal rx).2.2.1 _ ex
    subst hx
    split at h
    · rename_i i
      cases ry
      obtain ⟨d, ed, h⟩ := h
      · exact .inr (.inr (.inl ⟨z, i, d, rfl, rfl, ox.1, ed, kq _ _ _ _ _ (Stp.refl rl) (.str (okS_one ox ed)) h⟩))
    · exact h.elim
  · rename_i kvs ex
    obtain ⟨p, ws, rfl, hp, rv⟩ := vw_dT rl rx ex
    split at h
    · rename_i ds
      cases ry with
      | tup hg rs l =>
      split at h
      · rename_i ks ek
        split at h
        · rename_i d ed
          have e1 := dKeys_rps rs ek
          rcases valD_rkv ks rv with ⟨z, _⟩ | ⟨d', v, z1, z2, z3⟩
          · rw [z] at ed; cases ed
          · rw [z1] at ed; cases ed
            refine .inr (.inr (.inr ⟨p, v, rfl, ?_, kq _ _ _ _ _ (Stp.refl rl) z3 h⟩))
            rw [← z2]
            exact DGet.of_rd hp (by rw [← e1]; exact rl.at hg rfl)
        · exact h.elim
      · exact h.elim
    · exact h.elim
  · exact h.elim)
theorem de_ix {ta tb : DTE} (hr : Room k X.A) (ha : PD X a ta) (hb : PD X b tb) (hs : PlainIx b := by exact fun _ _ => rfl) : PD X (.Subscript a b pos) (dOp oIx ta tb) := ⟨fun W tk => PE.weak (pe_ix (i_ix hr) (ha.run W tk) (hb.run W tk) hs) sim_op⟩
def inS (s t : Str) : Bool := match s.cps.toList with
  | [c] => decide (c ∈ t.cps.toList)
  | _ => !(Builtin.Str.occurrences t s 0 t.length 1).isEmpty
def inB (x y : D) : Option Bool := match y with
  | .lst ds => (match pln 8 x && plns 8 ds with
    | true => some (ds.any fun z => eqB z x)
    | false => none)
  | .str t => (match x with
    | .str s => some (inS s t)
    | _ => none)
  | .dT kvs => (match x with
    | .tup ds => (match dKeys ds with
      | some ks => some (valD kvs ks).isSome
      | none => none)
    | _ => none)
  | _ => none
def oIn : R2D := fun x y S Q => vwk S y fun y' => match inB x y' with
  | some b => Q (.bl b) S
  | none => False
def oNotIn : R2D := fun x y S Q => vwk S y fun y' => match inB x y' with
  | some b => Q (.bl (!b)) S
  | none => False
theorem pln_mono : ∀ (n : Nat) (d : D), pln n d = true → pln (n + 1) d = true ∧ True := by
  intro n d h
  exact ⟨(pm n d h), trivial⟩
where
  pm : ∀ (n : Nat) (d : D), pln n d = true → pln (n + 1) d = true
    | n, .non, _ => by simp [pln]
    | n, .bl _, _ => by simp [pln]
    | n, .int _, _ => by simp [pln]
    | n, .str _, _ => by simp [pln]
    | 0, .tup _, h => by simp [pln] at h
    | 0, .lst _, h => by simp [pln] at h
    | n + 1, .tup ds, h => by simp only [pln] at h ⊢; exact pms n ds h
    | n + 1, .lst ds, h => by simp only [pln] at h ⊢; exact pms n ds h
    | n, .ty _, h => by cases n <;> simp [pln] at h
    | n, .adr _, h => by cases n <;> simp [pln] at h
    | n, .dT _, h => by cases n <;> simp [pln] at h
    | n, .ins _ _, h => by cases n <;> simp [pln] at h
  pms : ∀ (n : Nat) (ds : List D), plns n ds = true → plns (n + 1) ds = true
    | n, [], _ => by simp [plns]
    | n, d :: r, h => by
      simp only [plns, Bool.and_eq_true] at h ⊢
      exact ⟨pm n d h.1, pms n r h.2⟩
theorem any_eqB {x : D} (hx : pln 8 x = true) : ∀ {ds : List D}, plns 8 ds = true → ((toPs ds).any fun z => PyData.eqv z (toP x)) = ds.any fun z => eqB z x
  | [], _ => rfl
  | d :: r, h => by
    simp only [plns, Bool.and_eq_true] at h
    rw [toPs, List.any_cons, List.any_cons, any_eqB hx h.2, eqB_eq _ _ (pln_mono 8 d h.1).1 (pln_mono 8 x hx).1]
theorem sim_in (neg : Bool) : ∀ (x y : V) (H : Hp) (Q : VK), (∃ (G : Hp) (S : Sto) (dx dy : D) (QD : DQ), Rel K G H S ∧ Rp K G x dx ∧ Rp K G y dy ∧ (match inB dx (vw S dy) with
      | some b => QD (.bl (if neg then !b else b)) S
      | none => False) ∧ ∀ G' H' S' v d, Stp K G H S G' H' S' → Rp K G' v d → QD d S' → Q v H') →
    (∃ d ds, Dp K H x d ∧ Dp K H y (.list ds) ∧ SeqAt.shaped d = true ∧ SeqAt.shaped (.list ds) = true ∧ Q (.bl (if neg then !ds.any fun z => PyData.eqv z d else ds.any fun z => PyData.eqv z d)) H) ∨
    ((∃ (c : Nat) (z : Str), x = .str ⟨#[c]⟩ ∧ y = .str z ∧ Q (.bl (if neg then !decide (c ∈ z.cps.toList) else decide (c ∈ z.cps.toList))) H) ∨
    ((∃ i j, x = .str i ∧ y = .str j ∧ Q (.bl (if neg then !(!(Builtin.Str.occurrences j i 0 j.length 1).isEmpty) else !(Builtin.Str.occurrences j i 0 j.length 1).isEmpty)) H) ∨
    ∃ a o, y = .ref a ∧ DGet H a x o ∧ Q (.bl (if neg then !o.isSome else o.isSome)) H)) := by
  rintro x y H Q ⟨G, S, dx, dy, QD, rl, rx, ry, h, kq⟩
  cases e : inB dx (vw S dy) with
  | none => rw [e] at h; exact h.elim
  | some r =>
  rw [e] at h
  have q := kq _ _ _ _ _ (Stp.refl rl) (.bl _) h
  unfold inB at e
  split at e
  · rename_i ds ey
    split at e
    · rename_i hp
      rw [Bool.and_eq_true] at hp
      cases e
      obtain ⟨p, vs, rfl, hy, rv, lv⟩ := vw_lst rl ry ey
      obtain ⟨a1, a2, a3⟩ := dp_of rl 8 _ _ rx hp.1
      obtain ⟨b1, b2, b3⟩ := dps_of rl 8 _ _ rv hp.2
      refine .inl ⟨_, _, a1, .lst (SqL.of hy) b1, by simp [SeqAt.shaped, a2]; omega, by rw [SeqAt.shaped, Bool.and_eq_true]; exact ⟨by simpa [PyData.canLay0] using b2, decide_eq_true (by simp only [PyData.depth]; omega)⟩, ?_⟩
      rw [any_eqB hp.1 hp.2]
      exact q
    · cases e
  · rename_i t ey
    split at e
    · rename_i s
      cases e
      cases rx with
      | str hs =>
      obtain ⟨hy, oy⟩ := (vw_scal ry).2.2.1 _ ey
      subst hy
      by_cases hc : ∃ c, s.cps.toList = [c]
      · obtain ⟨c, ec⟩ := hc
        have ei : inS s t = decide (c ∈ t.cps.toList) := by unfold inS; rw [ec]
        rw [ei] at q
        have es : s = ⟨#[c]⟩ := by
          cases s with
          | mk cps => simp only at ec; congr 1; exact Array.toList_inj.mp (by simpa using ec)
        exact .inr (.inl ⟨c, t, by rw [es], rfl, q⟩)
      · have ei : inS s t = !(Builtin.Str.occurrences t s 0 t.length 1).isEmpty := by
          unfold inS
          split
          · rename_i c ec; exact absurd ⟨c, ec⟩ hc
          · rfl
        rw [ei] at q
        exact .inr (.inr (.inl ⟨s, t, rfl, rfl, q⟩))
    · cases e
  · rename_i kvs ey
    obtain ⟨p, ws, rfl, hp, rv⟩ := vw_dT rl ry ey
    split at e
    · rename_i ds
      cases rx with
      | tup hg rs l =>
      split at e
      · rename_i ks ek
        cases e
        have e1 := dKeys_rps rs ek
        refine .inr (.inr (.inr ⟨p, valV ws ks, rfl, DGet.of_rd hp (by rw [← e1]; exact rl.at hg rfl), ?_⟩))
        have : (valV ws ks).isSome = (valD kvs ks).isSome := by
          rcases valD_rkv ks rv with ⟨z1, z2⟩ | ⟨d', v, z1, z2, z3⟩ <;> rw [z1, z2] <;> rfl
        rw [this]
        exact q
      · cases e
    · cases e
  · cases e
theorem o_in (hr : Room k X.A) : OpR X (compareOp .In) (lift2 X.K oIn) := OpR.weak (OpR.or (op_inD (by have := hr.un; omega)) (OpR.or op_in_sign (OpR.or op_in_str (op_din (hu_of hr))))) (fun x y H Q h => sim_in false x y H Q (by simp only [lift2, oIn, vwk_is] at h; exact h))
theorem o_notin (hr : Room k X.A) : OpR X (compareOp .NotIn) (lift2 X.K oNotIn) := OpR.weak (OpR.or (op_notInD (by have := hr.un; omega)) (OpR.or op_notIn_sign (OpR.or op_notIn_str (op_dnin (hu_of hr))))) (fun x y H Q h => sim_in true x y H Q (by simp only [lift2, oNotIn, vwk_is] at h; exact h))
end
end SM
namespace SM
open PySem PySem.Spec PyProof.Rows L2
variable {K : PySem.W.Frag} {G G' G2 H H' H2 : Hp} {S S' S2 : Sto}
section
variable {X : Cx} {e a b c o i : Expr} {es : List Expr} {st : Stmt} {sts : List Stmt} {pos p apos cpos pos' : Pos} {W : WX} {k : Nat} {x : Str}
def dCB (r : RCD) (t : DTA) : DTE := fun δ S Q X => t δ S (fun ds S1 => r ds S1 Q) X
theorem sim_cb {r : RCD} {t : DTA} : ∀ σ H Q, liftE K W (dCB r t) σ H Q → tCB (liftC K r) (liftA K W t) σ H Q := by
  rintro σ H Q ⟨G, δ, S, QD, XD, re, rl, h, kq, kx⟩
  exact ⟨G, δ, S, _, XD, re, rl, h, fun G1 H1 S1 vs ds s1 rs q => ⟨G1, S1, ds, QD, s1.rel, rs, q, fun G2 H2 S2 v d s2 rv q2 => kq _ _ _ _ _ (s1.trans s2) rv q2⟩, kx⟩
theorem de_callB {id : String} {r : RCD} {t : DTA} (hc : CallR X (.builtin id) (liftC X.K r)) (hg : Gl X x) (hm : X.mg x = none) (hv : bootBuiltins x = some (.builtin id)) (ha : PDA X (e :: es) t) (hn : x ≠ "__name__" := by decide) (hdb : (x == ("__debug__" : Str)) = false := by decide)
    (he : starEach (e :: es) X.env = (false, eval e X.env) :: starEach es X.env := by rfl) (hpl : (backTo pos (starEach es X.env)).any (·.1) = false := by rfl) : PD X (.Call (.Name x p) (e :: es) [] pos) (dCB r t) := ⟨fun W tk => PE.weak (pe_callB hc hg hm hv (ha.run W tk) hn hdb he hpl) sim_cb⟩
theorem de_callTy {T : String} {r : RCD} {t : DTA} (hc : CallR X (.type T) (liftC X.K r)) (hg : Gl X x) (hm : X.mg x = none) (hv : bootBuiltins x = some (.type T)) (ha : PDA X (e :: es) t) (hn : x ≠ "__name__" := by decide) (hdb : (x == ("__debug__" : Str)) = false := by decide)
    (he : starEach (e :: es) X.env = (false, eval e X.env) :: starEach es X.env := by rfl) (hpl : (backTo pos (starEach es X.env)).any (·.1) = false := by rfl) : PD X (.Call (.Name x p) (e :: es) [] pos) (dCB r t) := ⟨fun W tk => PE.weak (pe_callTy hc hg hm hv (ha.run W tk) hn hdb he hpl) sim_cb⟩
def on1 (f : D → Sto → DQ → Prop) : RCD := fun ds S Q => match ds with
  | [d] => f d S Q
  | _ => False
theorem on1_of {f : D → Sto → DQ → Prop} {ds : List D} {Q : DQ} {vs : List V} (h : on1 f ds S Q) (r : Rps K G vs ds) : ∃ d v, ds = [d] ∧ vs = [v] ∧ Rp K G v d ∧ f d S Q := by
  unfold on1 at h
  split at h
  · cases r with
    | cons r1 r2 => cases r2; exact ⟨_, _, rfl, rfl, r1, h⟩
  · exact h.elim
def lenD (d : D) (S : Sto) (Q : DQ) : Prop := vwk S d fun d' => match d' with
  | .lst ds => Q (.int ds.length) S
  | .tup ds => Q (.int ds.length) S
  | .str s => Q (.int s.length) S
  | _ => False
theorem c_len : CallR X (.builtin "len") (liftC X.K (on1 lenD)) := CallR.weak call_len (by
  rintro vs H Q ⟨G, S, ds, QD, rl, rs, h, kq⟩
  obtain ⟨d, v, rfl, rfl, rx, h⟩ := on1_of h rs
  simp only [lenD, vwk_is] at h
  split at h
  · rename_i l ex
    obtain ⟨p, us, rfl, hp, rv, _⟩ := vw_lst rl rx ex
    refine ⟨_, us.length, rfl, .inl ⟨us, SqL.of hp, rfl⟩, ?_⟩
    rw [rv.length]; exact kq _ _ _ _ _ (Stp.refl rl) (.int _) h
  · rename_i l ex
    obtain ⟨p, us, rfl, _, hp, rv, _⟩ := vw_tup rl rx ex
    refine ⟨_, us.length, rfl, .inr ⟨us, SqT.of hp, rfl⟩, ?_⟩
    rw [rv.length]; exact kq _ _ _ _ _ (Stp.refl rl) (.int _) h
  · rename_i s ex
    obtain ⟨e1, e2⟩ := (vw_scal rx).2.2.1 _ ex
    subst e1
    exact ⟨_, s.length, rfl, ⟨e2.1, rfl⟩, kq _ _ _ _ _ (Stp.refl rl) (.int _) h⟩
  · exact h.elim)
def intD (d : D) (S : Sto) (Q : DQ) : Prop := match d with
  | .int i => Q (.int i) S
  | .bl b => Q (.int (if b then 1 else 0)) S
  | .str s => (match PySem.intText? s with
    | some n => s.length ≤ 640 ∧ Q (.int n) S
    | none => False)
  | _ => False
theorem c_int : CallR X (.type "int") (liftC X.K (on1 intD)) := CallR.weak (CallR.or call_int1 call_int_str) (by
  rintro vs H Q ⟨G, S, ds, QD, rl, rs, h, kq⟩
  obtain ⟨d, v, rfl, rfl, rx, h⟩ := on1_of h rs
  cases rx with
  | int i => exact .inl (.inl ⟨i, rfl, kq _ _ _ _ _ (Stp.refl rl) (.int _) h⟩)
  | bl b => exact .inl (.inr ⟨b, rfl, kq _ _ _ _ _ (Stp.refl rl) (.int _) h⟩)
  | @str s hs =>
    unfold intD at h
    simp only at h
    split at h
    · rename_i n en
      exact .inr ⟨s, n, rfl, en, h.1, kq _ _ _ _ _ (Stp.refl rl) (.int _) h.2⟩
    · exact h.elim
  | _ => exact h.elim)
def itemsD (d : D) : Option (List D) := match d with
  | .lst ds => some ds
  | .tup ds => some ds
  | _ => none
def listD (d : D) (S : Sto) (Q : DQ) : Prop := vwk S d fun d' => match itemsD d' with
  | some ds => Q (.lst ds) S
  | none => False
def listDO (d : D) (S : Sto) (Q : DQ) : Prop := vwk S d fun d' => match itemsD d' with
  | some ds => ∀ p, S p = none → Q (.adr p) (su S p (.lst ds))
  | none => False
theorem items_of (rl : Rel K G H S) {v : V} {d : D} {ds : List D} (rx : Rp K G v d) (h : itemsD (vw S d) = some ds) : ∃ p us, v = .ref p ∧ (SqL K H p us ∨ SqT K H p us) ∧ Rps K G us ds ∧ ds.length ≤ sizeLine := by
  unfold itemsD at h
  split at h
  · rename_i l ex
    cases h
    obtain ⟨p, us, rfl, hp, rv, l⟩ := vw_lst rl rx ex
    exact ⟨p, us, rfl, .inl (SqL.of hp), rv, l⟩
  · rename_i l ex
    cases h
    obtain ⟨p, us, rfl, _, hp, rv, l⟩ := vw_tup rl rx ex
    exact ⟨p, us, rfl, .inr (SqT.of hp), rv, l⟩
  · cases h
theorem c_list : CallR X (.type "list") (liftC X.K (on1 listD)) := CallR.weak call_list_of (by
  rintro vs H Q ⟨G, S, ds, QD, rl, rs, h, kq⟩
  obtain ⟨d, v, rfl, rfl, rx, h⟩ := on1_of h rs
  simp only [listD, vwk_is] at h
  split at h
  · rename_i l ex
    obtain ⟨p, us, rfl, hp, rv, hl⟩ := items_of rl rx ex
    refine ⟨p, us, rfl, hp, fun q hq => ?_⟩
    obtain ⟨s1, r1⟩ := fz_lst rl hq rv hl
    exact kq _ _ _ _ _ s1 r1 h
  · exact h.elim)
theorem c_listO : CallR X (.type "list") (liftC X.K (on1 listDO)) := CallR.weak call_list_of (by
  rintro vs H Q ⟨G, S, ds, QD, rl, rs, h, kq⟩
  obtain ⟨d, v, rfl, rfl, rx, h⟩ := on1_of h rs
  simp only [listDO, vwk_is] at h
  split at h
  · rename_i l ex
    obtain ⟨p, us, rfl, hp, rv, hl⟩ := items_of rl rx ex
    refine ⟨p, us, rfl, hp, fun q hq => ?_⟩
    exact kq _ _ _ _ _ (ow_lst rl hq rv hl) (.adr q) (h q (rl.free hq).2)
  · exact h.elim)
theorem PO.weak {e : Option Expr} {t t' : TO} (h : PO X e t) (w : ∀ σ H Q, t' σ H Q → t σ H Q) : PO X e t' := ⟨fun pins s σ H Q I q => h.run pins s σ H Q I (w σ H Q q)⟩
def dNoPart : DTO := fun _ S Q _ => Q none S
def dPart (t : DTE) : DTO := fun δ S Q X => t δ S (fun x S1 => match x with
  | .int i => Q (some i) S1
  | _ => False) X
theorem do_none : PDO X none dNoPart := ⟨fun W tk => PO.weak po_none (by
  rintro σ H Q ⟨G, δ, S, QD, XD, re, rl, h, kq, kx⟩
  exact kq _ _ _ _ (Stp.refl rl) h)⟩
theorem do_some {t : DTE} (h : PD X e t) : PDO X (some e) (dPart t) := ⟨fun W tk => PO.weak (po_some (h.run W tk)) (by
  rintro σ H Q ⟨G, δ, S, QD, XD, re, rl, h, kq, kx⟩
  refine ⟨G, δ, S, _, XD, re, rl, h, fun G1 H1 S1 x d s1 rx q => ?_, kx⟩
  cases rx with
  | int i => exact ⟨i, rfl, kq _ _ _ _ s1 q⟩
  | _ => exact q.elim)⟩
def cutD (xs : List D) (lo hi : Option Int) : List D := (xs.drop (HT.sIx xs.length 0 lo)).take (HT.sIx xs.length xs.length hi - HT.sIx xs.length 0 lo)
theorem cut_rps {vs : List V} {ds : List D} (r : Rps K G vs ds) (lo hi : Option Int) : Rps K G (cutV vs lo hi) (cutD ds lo hi) := by
  unfold cutV cutD; rw [r.length]; exact (r.drop _).take _
theorem cut_len (ds : List D) (lo hi : Option Int) : (cutD ds lo hi).length ≤ ds.length := by
  unfold cutD; rw [List.length_take, List.length_drop]; omega
def oSl (d : D) (lo hi : Option Int) (S : Sto) (Q : DQ) : Prop := vwk S d fun d' => match d' with
  | .lst ds => Q (.lst (cutD ds lo hi)) S
  | .str s => Q (.str (cutS s lo hi)) S
  | _ => False
def dSl (r : D → Option Int → Option Int → Sto → DQ → Prop) (te : DTE) (tl th : DTO) : DTE := fun δ S Q X => te δ S (fun x S1 => tl δ S1 (fun l S2 => th δ S2 (fun u S3 => r x l u S3 Q) X) X) X
theorem okS_sub {s t : Str} (h : okS s) (hm : ∀ c ∈ t.cps.toList, c ∈ s.cps.toList) (hl : t.length ≤ s.length) : okS t := by
  refine ⟨Nat.le_trans hl h.1, ?_⟩
  have h2 := h.2
  unfold PyData.strOk at h2 ⊢
  rw [Array.all_eq_true_iff_forall_mem] at h2 ⊢
  intro z hz
  exact h2 z (by simpa using hm z (by simpa using hz))
theorem okS_cut {s : Str} (h : okS s) (lo hi : Option Int) : okS (cutS s lo hi) := by
  refine okS_sub h (fun c hc => ?_) ?_
  · have hc' : c ∈ (s.cps.toList.drop (HT.sIx s.length 0 lo)).take (HT.sIx s.length s.length hi - HT.sIx s.length 0 lo) := by simpa [cutS] using hc
    exact List.mem_of_mem_drop (List.mem_of_mem_take hc')
  · show (cutS s lo hi).cps.size ≤ s.cps.size
    simp only [cutS, List.size_toArray, List.length_take, List.length_drop, Array.length_toList]
    omega
theorem de_slice {p2 : Pos} {lo hi : Option Expr} {te : DTE} {tl th : DTO} (he : PD X e te) (hl : PDO X lo tl) (hu : PDO X hi th) : PD X (.Subscript e (.Slice lo hi none p2) pos) (dSl oSl te tl th) := ⟨fun W tk => PE.weak (pe_slice (SlR.or sl_list sl_str) (he.run W tk) (hl.run W tk) (hu.run W tk)) (by
  rintro σ H Q ⟨G, δ, S, QD, XD, re, rl, h, kq, kx⟩
  refine ⟨G, δ, S, _, XD, re, rl, h, fun G1 H1 S1 x d s1 rx q => ⟨G1, δ, S1, _, XD, re.mono s1.sg, s1.rel, q, fun G2 H2 S2 l s2 q2 => ⟨G2, δ, S2, _, XD, re.mono (s1.trans s2).sg, s2.rel, q2, fun G3 H3 S3 u s3 q3 => ?_, kx.step (s1.trans s2)⟩, kx.step s1⟩, kx⟩
  have s13 := (s1.trans s2).trans s3
  have rx3 := rx.mono (s2.trans s3).sg
  simp only [oSl, vwk_is] at q3
  split at q3
  · rename_i ds ex
    obtain ⟨p, vs, rfl, hp, rv, lv⟩ := vw_lst s3.rel rx3 ex
    refine .inl ⟨p, vs, rfl, SqL.of hp, fun z hz => ?_⟩
    obtain ⟨s4, r4⟩ := fz_lst s3.rel hz (cut_rps rv l u) (Nat.le_trans (cut_len _ _ _) lv)
    exact kq _ _ _ _ _ (s13.trans s4) r4 q3
  · rename_i z ex
    obtain ⟨e1, e2⟩ := (vw_scal rx3).2.2.1 _ ex
    subst e1
    exact .inr ⟨z, rfl, e2.1, kq _ _ _ _ _ s13 (.str (okS_cut e2 l u)) q3⟩
  · exact q3.elim)⟩
theorem dp_nm {i : Nat} {x : Str} {pos : Pos} (hN : X.N.Nodup) (hi : X.N[i]? = some x := by rfl) (hx : Loc X.env.scope x := by first | exact .inl rfl | exact .inr rfl) (hf : X.fn x = true ∨ X.env.scope.names.lookup x = some .local := by first | exact .inl rfl | exact .inr rfl | assumption) : PDP X (.Name x pos) (.nm i) := ⟨by rw [pG]; exact pg_name hN hi hx hf⟩
theorem dp_tp {es : List Expr} {kk : Nat} {ps : List Pat} {pos : Pos} (hc : X.calm = true) (h : PDPs X es ps) (hn : (assignEach es X.env).length = ps.length := by rfl) (hst : (assignEach es X.env).findIdx? (·.1) = none := by rfl) : PDP X (.Tuple es kk pos) (.tp ps) := ⟨by rw [pG]; exact pg_tup hc h.run hn hst⟩
theorem dps_nil : PDPs X [] [] := ⟨by rw [pGs]; exact pgs_nil⟩
theorem dps_cons {e : Expr} {es : List Expr} {q : Pat} {ps : List Pat} (h1 : PDP X e q) (h2 : PDPs X es ps) (hs : (assignEach (e :: es) X.env).map (·.2) = assign e X.env :: (assignEach es X.env).map (·.2) := by rfl) : PDPs X (e :: es) (q :: ps) := ⟨by rw [pGs]; exact pgs_cons h1.run h2.run hs⟩
end
end SM
namespace SM
open PySem PySem.Spec PyProof.Rows L2
variable {K : PySem.W.Frag} {G G' G2 H H' H2 : Hp} {S S' S2 : Sto}
section
variable {X : Cx} {e a b c o i : Expr} {es : List Expr} {st : Stmt} {sts rest : List Stmt} {pos p apos cpos pos' : Pos} {W : WX} {k : Nat} {x : Str} {t u : DTS} {te : DTE}
theorem ownk_is {S : Sto} {a : Addr} {k : Option OO → Prop} : ownk S a k = k (S a) := propext ⟨fun h => h.it, fun h => ⟨h⟩⟩
theorem ownk_of {S : Sto} {a : Addr} {o : OO} {k : Option OO → Prop} (h : S a = some o) (q : k (some o)) : ownk S a k := by rw [ownk_is, h]; exact q
theorem frz_lst (rl : Rel K G H S) {p : Addr} {ds : List D} (h : S p = some (.lst ds)) : ∃ G', Stp K G H S G' H (sd S p) ∧ Rp K G' (.ref p) (.lst ds) := by
  obtain ⟨_, vs, e, r, l⟩ := rl.own p _ h
  exact ⟨_, Stp.frz rl h e, .lst upd_same (r.mono (Stp.frz rl h e).sg) l⟩
theorem frz_dT (rl : Rel K G H S) {p : Addr} {ds : List (List Key × D)} (h : S p = some (.dT ds)) : ∃ G', Stp K G H S G' H (sd S p) ∧ Rp K G' (.ref p) (.dT ds) := by
  obtain ⟨_, vs, e, r⟩ := rl.own p _ h
  exact ⟨_, Stp.frz rl h e, .dT upd_same (r.mono (Stp.frz rl h e).sg)⟩
theorem frz_ins (rl : Rel K G H S) {p : Addr} {c : Nat} {ds : List D} (h : S p = some (.ins c ds)) : ∃ G', Stp K G H S G' H (sd S p) ∧ Rp K G' (.ref p) (.ins c ds) := by
  obtain ⟨_, dx, vs, e, r, l⟩ := rl.own p _ h
  exact ⟨_, Stp.frz rl h e, .ins upd_same (r.mono (Stp.frz rl h e).sg) l⟩
def dNext : DTS := fun E δ S => E.nx δ S
def dSeq (t u : DTS) : DTS := fun E δ S => t { E with nx := u E } δ S
theorem dss_nil : PDSs X [] dNext := ⟨fun W tk po => PSs.weak pss_nil (by
  rintro D σ H ⟨G, δ, S, E, re, rl, h, er⟩
  exact er.nx _ _ _ _ _ (Stp.refl rl) re h)⟩
theorem dss_cons (h1 : PDS X st t) (h2 : PDSs X rest u) : PDSs X (st :: rest) (dSeq t u) := ⟨fun W tk po => PSs.weak (pss_cons (h1.run W tk po) (h2.run W tk po)) (by
  rintro D σ H ⟨G, δ, S, E, re, rl, h, er⟩
  exact ⟨G, δ, S, _, re, rl, h, ⟨fun G1 H1 S1 σ1 δ1 s1 re1 q => ⟨G1, δ1, S1, E, re1, s1.rel, q, er.step s1⟩, er.rt, er.bk, er.ct, er.xc⟩⟩)⟩
theorem dss_one (h1 : PDS X st t) : PDSs X [st] t := ⟨fun W tk po => pss_one (h1.run W tk po)⟩
def dDrop (te : DTE) : DTS := fun E δ S => te δ S (fun _ S1 => E.nx δ S1) (fun x S1 => E.xc x δ S1)
theorem ds_expr (he : PD X e te) (hs : swapsWith e none pos.line X.env = pure false := by rfl) : PDS X (.Expr e pos) (dDrop te) := ⟨fun W tk po => PS.weak (ps_expr (he.run W tk) hs) (by
  rintro D σ H ⟨G, δ, S, E, re, rl, h, er⟩
  exact ⟨G, δ, S, _, _, re, rl, h, fun G1 H1 S1 v d s1 rv q => er.nx _ _ _ _ _ s1 (re.mono s1.sg) q, er.kx re⟩)⟩
def dRet (te : DTE) : DTS := fun E δ S => te δ S E.rt (fun x S1 => E.xc x δ S1)
theorem ds_ret (he : PD X e te) : PDS X (.Return (some e) pos) (dRet te) := ⟨fun W tk po => PS.weak (ps_ret (he.run W tk)) (by
  rintro D σ H ⟨G, δ, S, E, re, rl, h, er⟩
  exact ⟨G, δ, S, _, _, re, rl, h, fun G1 H1 S1 v d s1 rv q => er.rt _ _ _ _ _ s1 rv q, er.kx re⟩)⟩
def dIf (tc : DTT) (t u : DTS) : DTS := fun E δ S => tc δ S (fun b S1 => brn b (t E δ S1) (u E δ S1)) (fun x S1 => E.xc x δ S1)
theorem ds_if {tc : DTT} {ya yb : List Stmt} (hc : PDT X c tc) (ha : PDSs X ya t) (hb : PDSs X yb u) : PDS X (.If c ya yb pos) (dIf tc t u) := ⟨fun W tk po => PS.weak (ps_if (hc.run W tk) (ha.run W tk po) (hb.run W tk po)) (by
  rintro D σ H ⟨G, δ, S, E, re, rl, h, er⟩
  refine ⟨G, δ, S, _, _, re, rl, h, fun G1 H1 S1 b s1 q => ?_, er.kx re⟩
  cases b with
  | true => rw [brn_t] at q; rw [if_pos rfl]; exact ⟨G1, δ, S1, E, re.mono s1.sg, s1.rel, q, er.step s1⟩
  | false => rw [brn_f] at q; rw [if_neg Bool.false_ne_true]; exact ⟨G1, δ, S1, E, re.mono s1.sg, s1.rel, q, er.step s1⟩)⟩
def dSet (i : Nat) (te : DTE) : DTS := fun E δ S => te δ S (fun d S1 => E.nx (put δ i d) S1) (fun x S1 => E.xc x δ S1)
theorem ds_set {i : Nat} {x : Str} {pos' : Pos} (hN : X.N.Nodup) (he : PD X e te) (hi : X.N[i]? = some x := by rfl) (hx : Loc X.env.scope x := by first | exact .inl rfl | exact .inr rfl) (hs : swapsWith e (some (.Name x pos')) pos.line X.env = pure false := by rfl)
    (hf : X.fn x = true ∨ X.env.scope.names.lookup x = some .local := by first | exact .inl rfl | exact .inr rfl | assumption) : PDS X (.Assign [.Name x pos'] e pos) (dSet i te) := ⟨fun W tk po => PS.weak (ps_set hN hi hx (he.run W tk) hs hf) (by
  rintro D σ H ⟨G, δ, S, E, re, rl, h, er⟩
  exact ⟨G, δ, S, _, _, re, rl, h, fun G1 H1 S1 v d s1 rv q => er.nx _ _ _ _ _ s1 ((re.mono s1.sg).put i rv) q, er.kx re⟩)⟩
def dSetL (to ti te : DTE) : DTS := fun E δ S => te δ S (fun d S1 => to δ S1 (fun y S2 => ti δ S2 (fun z S3 => match y, z with
  | .adr q, .int n => ownk S3 q fun oo => (match oo with
    | some (.lst ds) => (match ixN ds.length n with
      | some j => E.nx δ (su S3 q (.lst (ds.set j d)))
      | none => False)
    | _ => False)
  | _, _ => False) (fun x S1 => E.xc x δ S1)) (fun x S1 => E.xc x δ S1)) (fun x S1 => E.xc x δ S1)
theorem ds_setL {to ti : DTE} (he : PD X e te) (ho : PD X o to) (hi : PD X i ti) (hs : swapsWithSole [.Subscript o i pos'] e pos.line X.env = pure false := by rfl) (hw : swappedStores [.Subscript o i pos'] e X.env = pure none := by rfl)
    (h1 : (assignEach [.Subscript o i pos'] X.env).map (·.2) = [assign (.Subscript o i pos') X.env] := by rfl)
    (ha : ∀ v, assign (.Subscript o i pos') X.env v = (do
      let ov ← holding [v] (eval o X.env)
      let iv ← holding [v, ov] (eval i X.env)
      standAt pos'
      holding [v, ov, iv] (setItem ov iv v)
      release [v, ov, iv] []) := by intro _; rfl) : PDS X (.Assign [.Subscript o i pos'] e pos) (dSetL to ti te) := ⟨fun W tk po => PS.weak (ps_asg (he.run W tk) (pg_sub (ho.run W tk) (hi.run W tk) set_list ha) hs hw h1) (by
  rintro D σ H ⟨G, δ, S, E, re, rl, h, er⟩
  refine ⟨G, δ, S, _, _, re, rl, h, fun G1 H1 S1 v d s1 rv q => ⟨G1, δ, S1, _, _, re.mono s1.sg, s1.rel, q, fun G2 H2 S2 y dy s2 ry q2 => ⟨G2, δ, S2, _, _, re.mono (s1.trans s2).sg, s2.rel, q2, fun G3 H3 S3 z dz s3 rz q3 => ?_, (er.kx re).step (s1.trans s2)⟩, (er.kx re).step s1⟩, er.kx re⟩
  split at q3
  · rename_i q n
    cases ry
    cases rz
    simp only [ownk_is] at q3
    split at q3
    · rename_i ds eS
      split at q3
      · rename_i j ej
        obtain ⟨_, vs, e1, r1, l1⟩ := s3.rel.own q _ eS
        refine ⟨q, vs, n, j, rfl, rfl, e1, by rw [r1.length]; exact ej, ?_⟩
        have s4 : Stp X.K G3 H3 S3 G3 (upd H3 q (.lst (vs.set j v))) (su S3 q (.lst (ds.set j d))) := Stp.mut s3.rel eS ⟨_, rfl, r1.set (rv.mono (s2.trans s3).sg) j, by rw [List.length_set]; exact l1⟩
        have s14 := ((s1.trans s2).trans s3).trans s4
        exact er.nx _ _ _ _ _ s14 (re.mono s14.sg) q3
      · exact q3.elim
    · exact q3.elim
  · exact q3.elim)⟩
theorem loopK_is {gd : Gd} {q : Pat} {tb : DTS} {E : DEnds} {xs : List D} {δ : DS} {S : Sto} : loopK gd q tb E xs δ S = dLoop gd q tb E xs δ S := propext ⟨fun h => h.it, fun h => ⟨h⟩⟩
def dFor (ti : DTI) (q : Pat) (tb : DTS) : DTS := fun E δ S => ti δ S (fun gd xs S1 => loopK gd q tb E xs δ S1) (fun x S1 => E.xc x δ S1)
theorem ds_for {tg iter : Expr} {body : List Stmt} {ti : DTI} {q : Pat} {tb : DTS} (hc : X.calm = true) (hi : PDI X tg iter ti) (hg : PDP X tg q) (hb : PDSs X body tb) (hs : ∀ x, foldedSetIterable iter X.env x = pure x := by intro _; rfl) :
    PDS X (.For tg iter body [] pos) (dFor ti q tb) := ⟨fun W tk po => PS.weak (ps_for po hc (hi.run W tk) hg.run (hb.run W tk po) hs) (by
  rintro D σ H ⟨G, δ, S, E, re, rl, h, er⟩
  unfold dFor at h
  simp only [loopK_is] at h
  refine ⟨G, δ, S, _, _, re, rl, h, fun G1 H1 S1 J gd xs s1 hJ hl hq => ?_, er.kx re⟩
  -- the invariant
  refine ⟨fun i m σ' H' => m = xs.length - i ∧ ∃ G' δ' S', Stp X.K G H S G' H' S' ∧ Same G1 G' ∧ RpE X.K G' σ' δ' ∧ dLoop gd q tb E (xs.drop i) δ' S', ⟨xs.length, by simp, G1, δ, S1, s1, Same.refl _, re.mono s1.sg, by simpa using hq⟩, ?_⟩
  rintro i m σ' H' ⟨rfl, G', δ', S', s2, sg, re', hd⟩
  have hgd : gok gd S' := by
    cases q : xs.drop i with
    | nil => rw [q, dLoop] at hd; exact hd.1
    | cons y z => rw [q, dLoop] at hd; exact hd.1
  obtain ⟨h1, h2⟩ := hJ G' H' S' sg s2.rel hgd i
  by_cases hlt : i < xs.length
  · obtain ⟨hgo, hy⟩ := h1 hlt
    refine .inr ⟨hgo, fun σ3 H3 => ∃ G3 δ3 S3, Stp X.K G H S G3 H3 S3 ∧ Same G1 G3 ∧ RpE X.K G3 σ3 δ3 ∧ dLoop gd q tb E (xs.drop (i + 1)) δ3 S3, fun σ3 H3 ⟨G3, δ3, S3, a1, a2, a3, a4⟩ => ⟨xs.length - (i + 1), by omega, rfl, G3, δ3, S3, a1, a2, a3, a4⟩, fun x H3 yl => ?_⟩
    obtain ⟨G3, s3, rx⟩ := hy x H3 yl
    have ed : xs[i]? = some (xs[i]) := by simp [hlt]
    have rx := rx _ ed
    rw [List.drop_eq_getElem_cons hlt, dLoop] at hd
    replace hd := hd.2
    split at hd
    · rename_i δ4 e4
      obtain ⟨σ4, a1, a2, a3⟩ := pG_run s3.rel _ _ x σ' δ' δ4 (re'.mono s3.sg) rx e4
      refine a1 _ ?_
      have s23 := s2.trans s3
      refine ⟨G3, δ4, S', _, a2, s3.rel, hd, ?_⟩
      exact ⟨fun G5 H5 S5 σ5 δ5 s5 r5 q5 => ⟨G5, δ5, S5, s23.trans s5, (sg.trans s3.sg).trans s5.sg, r5, q5⟩, fun G5 H5 S5 v d s5 r5 q5 => er.rt _ _ _ _ _ (s23.trans s5) r5 q5, fun G5 H5 S5 σ5 δ5 s5 r5 q5 => er.nx _ _ _ _ _ (s23.trans s5) r5 q5,
        fun G5 H5 S5 σ5 δ5 s5 r5 q5 => ⟨G5, δ5, S5, s23.trans s5, (sg.trans s3.sg).trans s5.sg, r5, q5⟩, fun G5 H5 S5 σ5 δ5 cls d x s5 r5 rx5 q5 => er.xc _ _ _ _ _ _ _ _ (s23.trans s5) r5 rx5 q5⟩
    · exact hd.elim
  · have hle : xs.length ≤ i := by omega
    refine .inl ⟨h2 hle, ?_⟩
    rw [List.drop_of_length_le hle, dLoop] at hd
    exact er.nx _ _ _ _ _ s2 re' hd.2)⟩
def rngD (a b : Int) : List D := (List.range (b - a).toNat).map fun i => .int (a + (i : Nat))
theorem it_range {lo : Int} {n : Nat} (xs : List D) (h : xs = (List.range n).map fun i => .int (lo + (i : Nat))) : ItD K G none (Itr lo n) xs := by
  subst h
  intro G1 H1 S1 sg rl _ i
  refine ⟨fun hi => ⟨(by simpa using hi : i < n), fun x H2 yl => ?_⟩, fun hi => (by simpa using hi : n ≤ i)⟩
  obtain ⟨e1, e2⟩ := yl
  subst e1 e2
  refine ⟨G1, Stp.refl rl, fun d hd => ?_⟩
  have hi' : i < n := by simpa using hi
  simp [hi'] at hd
  subst hd
  exact .int _
def dRng1 (t : DTA) : DTI := fun δ S Q X => t δ S (fun ds S1 => match ds with
  | [.int n] => (-16777216 ≤ n ∧ n ≤ 16777216) ∧ Q none (rngD 0 n) S1
  | _ => False) X
theorem rngD_len (a b : Int) : (rngD a b).length = (b - a).toNat := by simp [rngD]
theorem di_rng1 {tg : Expr} {t : DTA} (hg : Gl X "range") (hm : X.mg "range" = none) (ha : PDA X [a] t) (hs : starEach [a] X.env = [(false, eval a X.env)] := by rfl) : PDI X tg (.Call (.Name "range" p) [a] [] pos) (dRng1 t) := ⟨fun W tk => PI.weak (pi_range1 hg hm (ha.run W tk) hs) (by
  rintro σ H R ⟨G, δ, S, QD, XD, re, rl, h, kq, kx⟩
  refine ⟨G, δ, S, _, XD, re, rl, h, fun G1 H1 S1 vs ds s1 rs q => ?_, kx⟩
  split at q
  · rename_i n
    cases rs with
    | cons r1 r2 =>
    cases r2
    cases r1
    have hs : sizeLine = 16777216 := sizeLine_eq
    exact ⟨n, rfl, by omega, by omega, kq _ _ _ _ none _ s1 (it_range _ (by simp [rngD])) (by rw [rngD_len]; omega) q.2⟩
  · exact q.elim)⟩
def dItems (t : DTE) : DTI := fun δ S Q X => t δ S (fun d S1 => match d with
  | .lst ds => Q none ds S1
  | .tup ds => Q none ds S1
  | .str s => Q none (s.cps.toList.map fun c => .str (one c)) S1
  | .adr a => ownk S1 a fun o => (match o with
    | some (.lst ds) => Q (some (a, .lst ds)) ds S1
    | _ => False)
  | _ => False) X
theorem PI.or {tg : Expr} {t t' : TI} (h : PI X tg e t) (h' : PI X tg e t') : PI X tg e (fun σ H R => t σ H R ∨ t' σ H R) := ⟨fun pins s σ H R I q => q.elim (h.run pins s σ H R I) (h'.run pins s σ H R I)⟩
theorem it_lst {q : Addr} {vs : List V} {ds : List D} (h : G q = some (.lst vs)) (r : Rps K G vs ds) : ItD K G none (Itl K q) ds := by
  intro G1 H1 S1 sg rl _ i
  have hq : SqL K H1 q vs := SqL.of (rl.at (sg _ _ h) rfl)
  refine ⟨fun hi => ⟨⟨vs, vs[i]'(by rw [r.length]; exact hi), hq, by simp⟩, fun x H2 yl => ?_⟩, fun hi => ⟨vs, hq, by rw [r.length]; exact hi⟩⟩
  obtain ⟨e1, e2⟩ := yl
  subst e1
  refine ⟨G1, Stp.refl rl, fun d hd => ?_⟩
  obtain ⟨v, z1, z2⟩ := r.get hd
  have := e2 vs hq
  rw [z1] at this
  cases this
  exact z2.mono sg
theorem it_own {q : Addr} {ds : List D} : ItD K G (some (q, .lst ds)) (Itl K q) ds := by
  intro G1 H1 S1 sg rl hgd i
  obtain ⟨vs, e1, r, e3⟩ := (rl.own q _ hgd).2
  have hq : SqL K H1 q vs := SqL.of e1
  refine ⟨fun hi => ⟨⟨vs, vs[i]'(by rw [r.length]; exact hi), hq, by simp⟩, fun x H2 yl => ?_⟩, fun hi => ⟨vs, hq, by rw [r.length]; exact hi⟩⟩
  obtain ⟨e1, e2⟩ := yl
  subst e1
  refine ⟨G1, Stp.refl rl, fun d hd => ?_⟩
  obtain ⟨v, z1, z2⟩ := r.get hd
  have := e2 vs hq
  rw [z1] at this
  cases this
  exact z2
theorem it_tup {q : Addr} {vs : List V} {ds : List D} (h : G q = some (.tup vs)) (r : Rps K G vs ds) : ItD K G none (Itt K q) ds := by
  intro G1 H1 S1 sg rl _ i
  have hq : SqT K H1 q vs := SqT.of (rl.at (sg _ _ h) rfl)
  refine ⟨fun hi => ⟨⟨vs, vs[i]'(by rw [r.length]; exact hi), hq, by simp⟩, fun x H2 yl => ?_⟩, fun hi => ⟨vs, hq, by rw [r.length]; exact hi⟩⟩
  obtain ⟨e1, e2⟩ := yl
  subst e1
  refine ⟨G1, Stp.refl rl, fun d hd => ?_⟩
  obtain ⟨v, z1, z2⟩ := r.get hd
  have := e2 vs hq
  rw [z1] at this
  cases this
  exact z2.mono sg
theorem it_str {z : Str} (hz : okS z) : ItD K G none (Its z) (z.cps.toList.map fun c => .str (one c)) := by
  intro G1 H1 S1 sg rl _ i
  refine ⟨fun hi => ⟨(by simpa using hi : i < z.cps.size), fun x H2 yl => ?_⟩, fun hi => (by simpa using hi : z.cps.size ≤ i)⟩
  obtain ⟨e1, c, e2, e3⟩ := yl
  subst e1 e3
  refine ⟨G1, Stp.refl rl, fun d hd => ?_⟩
  have h2 : z.cps.toList[i]? = some c := by rw [Array.getElem?_toList]; exact e2
  rw [List.getElem?_map, h2] at hd
  cases hd
  refine .str (okS_sub (s := z) hz (fun q hq => ?_) ?_)
  · have : q = c := by simpa using hq
    subst this
    exact List.mem_of_getElem? h2
  · have := Array.getElem?_eq_some_iff.mp e2
    obtain ⟨h, _⟩ := this
    show 1 ≤ z.cps.size
    omega
def iAny (K : PySem.W.Frag) (te : TE) : TI := fun σ H R => te σ H fun x H1 => (∃ q vs, x = .ref q ∧ SqL K H1 q vs ∧ R (Itl K q) H1) ∨ (∃ q vs, x = .ref q ∧ SqT K H1 q vs ∧ R (Itt K q) H1) ∨ ∃ z, x = .str z ∧ R (Its z) H1
theorem pi_any {tg : Expr} {te : TE} (he : PE X e te) : PI X tg e (iAny X.K te) := by
  constructor
  intro pins s σ H R I h
  apply thn (he.run pins s σ H _ I h)
  rintro v s1 ⟨y, H1, I1, r1, q1⟩
  rcases q1 with ⟨q, vs, rfl, hq, hR⟩ | ⟨q, vs, rfl, hq, hR⟩ | ⟨z, rfl, hR⟩
  · obtain rfl : v = Value.ref q := r1
    obtain ⟨its, _, pl, _⟩ := I1.list hq
    exact wpAny_pyIter_list pl.isList (pi_one (tk := s1.toks) I1 _ (turn_list q _) ⟨_, Heap.get?_push_size _ rfl, rfl, rfl⟩ hR)
  · obtain rfl : v = Value.ref q := r1
    obtain ⟨its, _, pl, _⟩ := I1.tuple hq
    exact wpAny_pyIter_tuple (show s1.heap.IsTuple q its.toArray from pl) (pi_one (tk := s1.toks) I1 _ (turn_tuple q _) ⟨_, Heap.get?_push_size _ rfl, rfl, rfl⟩ hR)
  · obtain ⟨tk, rfl⟩ := r1
    by_cases hA : z.cps.all (fun c => decide (c < 128)) = true
    · exact wpAny_pyIter_ascii hA (pi_one (tk := s1.toks) I1 _ (turn_str _ z tk "str_ascii_iterator" (Or.inl rfl)) ⟨_, Heap.get?_push_size _ rfl, rfl, rfl⟩ hR)
    · exact wpAny_pyIter_wide (Bool.eq_false_iff.mpr hA) (pi_one (tk := s1.toks) I1 _ (turn_str _ z tk "str_iterator" (Or.inr rfl)) ⟨_, Heap.get?_push_size _ rfl, rfl, rfl⟩ hR)
theorem di_items {tg : Expr} {t : DTE} (ha : PD X a t) : PDI X tg a (dItems t) := ⟨fun W tk => PI.weak (pi_any (ha.run W tk)) (by
  rintro σ H R ⟨G, δ, S, QD, XD, re, rl, h, kq, kx⟩
  refine ⟨G, δ, S, _, XD, re, rl, h, fun G1 H1 S1 v d s1 rv q => ?_, kx⟩
  split at q
  · cases rv with
    | lst hg rs l => exact .inl ⟨_, _, rfl, SqL.of (s1.rel.at hg rfl), kq _ _ _ _ none _ s1 (it_lst hg rs) l q⟩
  · cases rv with
    | tup hg rs l => exact .inr (.inl ⟨_, _, rfl, SqT.of (s1.rel.at hg rfl), kq _ _ _ _ none _ s1 (it_tup hg rs) l q⟩)
  · cases rv with
    | str hz => exact .inr (.inr ⟨_, rfl, kq _ _ _ _ none _ s1 (it_str hz) (by simp only [List.length_map, Array.length_toList]; exact hz.1) q⟩)
  · rename_i a
    rw [ownk_is] at q
    split at q
    · rename_i ds e
      cases rv
      obtain ⟨vs, e1, e2, e3⟩ := (s1.rel.own a _ e).2
      exact .inl ⟨_, _, rfl, SqL.of e1, kq _ _ _ _ (some (a, .lst ds)) _ s1 it_own e3 q⟩
    · exact q.elim
  · exact q.elim)⟩
def enumD : Nat → List D → List D
  | _, [] => []
  | n, d :: r => .tup [.int (n : Nat), d] :: enumD (n + 1) r
theorem enumD_len : ∀ (n : Nat) (ds : List D), (enumD n ds).length = ds.length
  | _, [] => rfl
  | n, _ :: r => congrArg Nat.succ (enumD_len (n + 1) r)
theorem enumD_get : ∀ (n : Nat) (ds : List D) (i : Nat) (d : D), (enumD n ds)[i]? = some d → ∃ y, ds[i]? = some y ∧ d = .tup [.int ((n + i : Nat) : Int), y]
  | n, [], i, d, h => by simp [enumD] at h
  | n, y :: r, 0, d, h => by simp [enumD] at h; exact ⟨y, rfl, by rw [← h]; rfl⟩
  | n, y :: r, i + 1, d, h => by
    obtain ⟨z, h1, h2⟩ := enumD_get (n + 1) r i d (by simpa [enumD] using h)
    exact ⟨z, by simpa using h1, by rw [h2]; congr 3; omega⟩
def dEnum (t : DTA) : DTI := fun δ S Q X => t δ S (fun ds S1 => match ds with
  | [.lst l] => Q none (enumD 0 l) S1
  | [.adr a] => ownk S1 a fun o => (match o with
    | some (.lst l) => Q (some (a, .lst l)) (enumD 0 l) S1
    | _ => False)
  | _ => False) X
theorem di_enum {elts : List Expr} {kk : Nat} {tpos : Pos} {t : DTA} (hg : Gl X "enumerate") (hm : X.mg "enumerate" = none) (ha : PDA X [e] t) (hs : starEach [e] X.env = [(false, eval e X.env)] := by rfl) : PDI X (.Tuple elts kk tpos) (.Call (.Name "enumerate" p) [e] [] pos) (dEnum t) := ⟨fun W tk => PI.weak (pi_enum hg hm (ha.run W tk) hs) (by
  rintro σ H R ⟨G, δ, S, QD, XD, re, rl, h, kq, kx⟩
  refine ⟨G, δ, S, _, XD, re, rl, h, fun G1 H1 S1 vs ds s1 rs q => ?_, kx⟩
  split at q
  · rename_i l
    cases rs with
    | cons r1 r2 =>
    cases r2
    cases r1 with
    | lst hg rv hl =>
    rename_i a us
    refine ⟨a, us, rfl, SqL.of (s1.rel.at hg rfl), kq _ _ _ _ none (enumD 0 l) s1 ?_ (by rw [enumD_len]; exact hl) q⟩
    intro G2 H2 S2 sg rl2 _ i
    have hq : SqL X.K H2 a us := SqL.of (rl2.at (sg _ _ hg) rfl)
    rw [enumD_len]
    refine ⟨fun hi => ⟨⟨us, us[i]'(by rw [rv.length]; exact hi), hq, by simp⟩, fun x H3 yl => ?_⟩, fun hi => ⟨us, hq, by rw [rv.length]; exact hi⟩⟩
    obtain ⟨T, y, rfl, hT, rfl, hy⟩ := yl
    have s2 : Stp X.K G2 H2 S2 (upd G2 T (.tup [.int (i : Nat), y])) (upd H2 T (.tup [.int (i : Nat), y])) S2 := Stp.newF rl2 hT
    refine ⟨_, s2, fun d hd => ?_⟩
    obtain ⟨z, z1, z2⟩ := enumD_get 0 l i d hd
    subst z2
    obtain ⟨v, w1, w2⟩ := rv.get z1
    have := hy us hq
    rw [w1] at this
    cases this
    rw [Nat.zero_add]
    exact .tup upd_same (.cons (.int _) (.cons ((w2.mono sg).mono s2.sg) .nil)) (by show 2 ≤ sizeLine; decide)
  · rename_i a
    rw [ownk_is] at q
    split at q
    · rename_i l e
      cases rs with
      | cons r1 r2 =>
      cases r2
      cases r1
      obtain ⟨us, e1, rv, hl⟩ := (s1.rel.own a _ e).2
      refine ⟨a, us, rfl, SqL.of e1, kq _ _ _ _ (some (a, .lst l)) (enumD 0 l) s1 ?_ (by rw [enumD_len]; exact hl) q⟩
      intro G2 H2 S2 sg rl2 hgd i
      obtain ⟨us, e1, rv, hl⟩ := (rl2.own a _ hgd).2
      have hq : SqL X.K H2 a us := SqL.of e1
      rw [enumD_len]
      refine ⟨fun hi => ⟨⟨us, us[i]'(by rw [rv.length]; exact hi), hq, by simp⟩, fun x H3 yl => ?_⟩, fun hi => ⟨us, hq, by rw [rv.length]; exact hi⟩⟩
      obtain ⟨T, y, rfl, hT, rfl, hy⟩ := yl
      have s2 : Stp X.K G2 H2 S2 (upd G2 T (.tup [.int (i : Nat), y])) (upd H2 T (.tup [.int (i : Nat), y])) S2 := Stp.newF rl2 hT
      refine ⟨_, s2, fun d hd => ?_⟩
      obtain ⟨z, z1, z2⟩ := enumD_get 0 l i d hd
      subst z2
      obtain ⟨v, w1, w2⟩ := rv.get z1
      have := hy us hq
      rw [w1] at this
      cases this
      rw [Nat.zero_add]
      exact .tup upd_same (.cons (.int _) (.cons (w2.mono s2.sg) .nil)) (by show 2 ≤ sizeLine; decide)
    · exact q.elim
  · exact q.elim)⟩
end
end SM
namespace SM
open PySem PySem.Spec PyProof.Rows L2
variable {K : PySem.W.Frag} {G G' G2 H H' H2 : Hp} {S S' S2 : Sto}
theorem startD_len : ∀ (N : List Str) (ds : List D), (startD N ds).length = N.length
  | [], _ => rfl
  | _ :: n, [] => congrArg Nat.succ (startD_len n [])
  | _ :: n, _ :: ds => congrArg Nat.succ (startD_len n ds)
theorem startD_nth : ∀ (N : List Str) (ds : List D) (i : Nat) (d : D), nth (startD N ds) i = some d → ds[i]? = some d
  | [], _, _, _, h => by simp [startD, nth] at h
  | _ :: n, [], 0, _, h => by simp [startD, nth] at h
  | _ :: n, [], i + 1, d, h => by have := startD_nth n [] i d (by simpa [startD, nth] using h); simp at this
  | _ :: n, e :: ds, 0, d, h => by simpa [startD, nth] using h
  | _ :: n, e :: ds, i + 1, d, h => by simpa using startD_nth n ds i d (by simpa [startD, nth] using h)
theorem startD_rpe {N : List Str} {vs : List V} {ds : List D} (r : Rps K G vs ds) (hl : ds.length ≤ N.length) : RpE K G (L2.start N vs) (startD N ds) := by
  refine ⟨?_, fun i d h => ?_⟩
  · rw [startD_len, L2.start, List.length_append, List.length_map, List.length_replicate, r.length]; omega
  · obtain ⟨v, h1, h2⟩ := r.get (startD_nth N ds i d h)
    refine ⟨v, ?_, h2⟩
    have hi := (List.getElem?_eq_some_iff.mp h1).1
    rw [L2.start, List.getElem?_append_left (by rw [List.length_map]; exact hi), List.getElem?_map, h1]
    rfl
section
variable {P : Program} {w : World} {mg : Str → Option Value} {base : Heap}
theorem fnD {x qual : Str} {params : Arguments} {body : List Stmt} {scope : Scope} {dvs : List V} {kws : List (Str × V)} {f : Addr} {fd : FuncData} {N ps : List Str} {k : Nat} (F : FunD K x qual params body scope dvs kws f fd) (Sc : FnScope N ps scope) (R : DSp)
    (len : ∀ ds S Q E, R ds S Q E → ds.length = ps.length) (hps : ps.length ≤ N.length)
    (hb : ∀ (cdv : Value) (A : Around) (outer : List Env) (s : Shared) (H : Hp) (E : XK), Room k (A.deeper (envOfC qual scope s.heap.objs.size f cdv)) → ∃ ts, PDSs (cxOf (L2N.CX P w) P w K mg base N qual scope f cdv A outer s H E) body ts ∧
      ∀ ds S QD XD, R ds S QD XD → ts ⟨fun _ S' => QD .non S', QD, fun _ _ => False, fun _ _ => False, fun x _ S' => XD x S'⟩ (startD N ds) S) : FnOk P w K mg base (L2N.CX P w) (k + 1) f fd ps (toSp K R) := by
  refine F.ok Sc (fun vs H Q E h => ?_) (fun cdv A outer s H vs Q E hr h => ?_)
  · obtain ⟨G, S, ds, QD, XD, _, rs, h, _⟩ := h
    rw [rs.length]; exact len _ _ _ _ h
  · obtain ⟨G, S, ds, QD, XD, rl, rs, h, kq, kx⟩ := h
    obtain ⟨ts, p, q⟩ := hb cdv A outer s H E hr
    refine ⟨liftS K (fun cls d _ H => E cls d H) ts, p.run _ (L2N.takes_of rfl rfl rfl rfl) (passes_of rfl), ⟨G, startD N ds, S, _, startD_rpe rs (by rw [len _ _ _ _ h]; exact hps), rl, q ds S QD XD h, ?_⟩⟩
    exact ⟨fun G1 H1 S1 σ δ s1 _ q => kq _ _ _ _ _ s1 .non q, fun G1 H1 S1 v d s1 r q => kq _ _ _ _ _ s1 r q, fun _ _ _ _ _ _ _ q => q.elim, fun _ _ _ _ _ _ _ q => q.elim, fun G1 H1 S1 σ δ cls d x s1 _ r q => kx _ _ _ _ _ _ s1 r q⟩
end
section
variable {X : Cx} {e a b c o i : Expr} {es : List Expr} {st : Stmt} {sts rest : List Stmt} {pos p apos cpos pos' : Pos} {W : WX} {k : Nat} {x m : Str} {t : DTA} {te : DTE} {f C : Addr} {fd : FuncData} {ps : List Str} {R : DSp} {dvs : List V} {dds : List D} {ds : List Value}
def dCall (R : DSp) (dds : List D) (t : DTA) : DTE := fun δ S Q X => t δ S (fun ds S1 => R (ds ++ dds) S1 Q X) X
theorem sim_call {σ : L2.St} {H : Hp} {Q : VK} (hdd : ∀ G, Rps K G dvs dds) (h : liftE K W (dCall R dds t) σ H Q) : liftA K W t σ H fun vs H1 => toSp K R (vs ++ dvs) H1 Q (WE W σ) := by
  obtain ⟨G, δ, S, QD, XD, re, rl, h, kq, kx⟩ := h
  exact ⟨G, δ, S, _, XD, re, rl, h, fun G1 H1 S1 vs ds s1 rs q => ⟨G1, S1, ds ++ dds, QD, XD, s1.rel, rs.append (hdd G1), q, fun G2 H2 S2 v d s2 r q => kq _ _ _ _ _ (s1.trans s2) r q, fun G2 H2 S2 cls d x s2 r q => kx _ _ _ _ _ _ (s1.trans s2) r q⟩, kx⟩
theorem de_call (F : FnOk X.prog X.w X.K X.mg X.base (L2N.CX X.prog X.w) k f fd ps (toSp X.K R)) (hr : Room k X.A) (hg : Gl X x) (hm : X.mg x = some (.ref f)) (hk : PySem.W.keepIn X.K (.ref f) = true) (hb : Binds X.K fd ps ds) (hd : Vals dvs ds) (hdd : ∀ G, Rps X.K G dvs dds)
    (ha : PDA X (e :: es) t) (hdb : (x == ("__debug__" : Str)) = false := by decide) (he : starEach (e :: es) X.env = (false, eval e X.env) :: starEach es X.env := by rfl) (hpl : (backTo pos (starEach es X.env)).any (·.1) = false := by rfl) :
    PD X (.Call (.Name x p) (e :: es) [] pos) (dCall R dds t) := ⟨fun W tk => PE.weak (pe_callSD (E := WE W) F hr hg hm hk hb hd (fun σ => L2N.passAt tk σ) (ha.run W tk) hdb he hpl) fun σ H Q h => sim_call hdd h⟩
theorem run_fnD {pins : List (Addr × Obj)} {σ : L2.St} {H : Hp} {s : Shared} {Q : VK} {us : List Value} {vs : List V} (F : FnOk X.prog X.w X.K X.mg X.base (L2N.CX X.prog X.w) k f fd ps (toSp X.K R)) (hr : Room k X.A) (hb : Binds X.K fd ps ds) (hd : Vals dvs ds) (tk : L2N.Takes X W)
    (I : Inv X pins σ H s) (r : Vals vs us) (h : toSp X.K R (vs ++ dvs) H Q (WE W σ)) : wpAny (model X.prog X.w) X.A (call (.ref f) us) (EP X pins σ Q) X.xe s := run_fnSD (E := WE W) F hr hb hd (L2N.passAt tk σ) I r h
theorem lookup_none {m : Str} : ∀ {ns : List Str} {vs : List V}, m ∉ ns → (ns.zip vs).lookup m = none
  | [], _, _ => by simp
  | _ :: _, [], _ => by simp
  | n :: ns, v :: vs, h => by
    simp only [List.mem_cons, not_or] at h
    rw [List.zip_cons_cons, List.lookup_cons]
    have : (m == n) = false := by simpa using h.1
    rw [this]
    exact lookup_none h.2
def dMeth (c : Nat) (R : DSp) (dds : List D) (to : DTE) (t : DTA) : DTE := fun δ S Q X => to δ S (fun x S1 => vwk S1 x fun x' => match x' with
  | .ins c' _ => c' = c ∧ t δ S1 (fun ds S2 => R (x :: (ds ++ dds)) S2 Q X) X
  | _ => False) X
end
end SM
namespace SM
open PySem PySem.Spec PyProof.Rows L2
variable {K : PySem.W.Frag} {G G' G2 H H' H2 : Hp} {S S' S2 : Sto}
section
variable {X : Cx} {e a b c o i : Expr} {es : List Expr} {st : Stmt} {sts rest : List Stmt} {pos p apos cpos pos' : Pos} {W : WX} {k : Nat} {x m fl : Str} {t : DTA} {te to : DTE} {f C : Addr} {fd : FuncData} {ps : List Str} {R : DSp} {dvs : List V} {dds : List D} {ds : List Value}
def fsel : List (Nat × Nat) → Nat → Option Nat
  | [], _ => none
  | (c, j) :: r, d => match Nat.beq c d with
    | true => some j
    | false => fsel r d
def FOk (K : PySem.W.Frag) (fl : Str) (tbl : List (Nat × Nat)) : Prop := ∀ c j, fsel tbl c = some j → Cls K (cad K c) ∧ NoAttr K (cad K c) fl ∧ (cfs c)[j]? = some fl ∧ (cfs c).Nodup
theorem fok_nil : FOk K fl [] := fun _ _ h => by cases h
theorem fok_cons {c j : Nat} {tbl : List (Nat × Nat)} (h1 : Cls K (cad K c)) (h2 : NoAttr K (cad K c) fl) (h3 : (cfs c)[j]? = some fl) (h4 : (cfs c).Nodup) (hr : FOk K fl tbl) : FOk K fl ((c, j) :: tbl) := fun c' j' h => by
  unfold fsel at h
  split at h
  · rename_i e
    have : c = c' := Nat.eq_of_beq_eq_true e
    subst this
    cases h
    exact ⟨h1, h2, h3, h4⟩
  · exact hr c' j' h
theorem lookup_zip {fl : Str} : ∀ {ns : List Str} {vs : List V} {j : Nat} {v : V}, ns.Nodup → ns[j]? = some fl → vs[j]? = some v → (ns.zip vs).lookup fl = some v
  | [], _, _, _, _, h, _ => by simp at h
  | _ :: _, [], _, _, _, _, h => by simp at h
  | n :: ns, u :: vs, 0, v, _, h, h' => by
    simp at h h'
    subst h h'
    simp [List.lookup]
  | n :: ns, u :: vs, j + 1, v, nd, h, h' => by
    simp only [List.getElem?_cons_succ] at h h'
    rw [List.nodup_cons] at nd
    have : (fl == n) = false := by
      rw [beq_eq_false_iff_ne]
      intro z
      subst z
      exact nd.1 (List.mem_of_getElem? h)
    rw [List.zip_cons_cons, List.lookup_cons, this]
    exact lookup_zip nd.2 h h'
theorem putF_set {fl : Str} {v : V} : ∀ {ns : List Str} {vs : List V} {j : Nat}, ns.Nodup → ns[j]? = some fl → j < vs.length → putF fl v (ns.zip vs) = ns.zip (vs.set j v)
  | [], _, _, _, h, _ => by simp at h
  | _ :: _, [], _, _, _, h => by simp at h
  | n :: ns, u :: vs, 0, _, h, _ => by
    simp at h
    subst h
    simp [putF]
  | n :: ns, u :: vs, j + 1, nd, h, h' => by
    simp only [List.getElem?_cons_succ] at h
    rw [List.nodup_cons] at nd
    have hn : ¬ n = fl := by
      intro z
      subst z
      exact nd.1 (List.mem_of_getElem? h)
    rw [List.zip_cons_cons, putF, if_neg hn, putF_set nd.2 h (by simpa using h')]
    rfl
theorem putF_app {fl : Str} {v : V} : ∀ {ns : List Str} {vs : List V}, ns.Nodup → ns[vs.length]? = some fl → putF fl v (ns.zip vs) = ns.zip (vs ++ [v])
  | [], _, _, h => by simp at h
  | n :: ns, [], nd, h => by
    simp at h
    subst h
    simp [putF]
  | n :: ns, u :: vs, nd, h => by
    simp only [List.length_cons, List.getElem?_cons_succ] at h
    rw [List.nodup_cons] at nd
    have hn : ¬ n = fl := by
      intro z
      subst z
      exact nd.1 (List.mem_of_getElem? h)
    rw [List.zip_cons_cons, putF, if_neg hn, putF_app nd.2 h]
    rfl
def dFld (tbl : List (Nat × Nat)) (to : DTE) : DTE := fun δ S Q X => to δ S (fun x S1 => vwk S1 x fun x' => match x' with
  | .ins c ds => (match fsel tbl c with
    | some j => (match ds[j]? with
      | some d => Q d S1
      | none => False)
    | none => False)
  | _ => False) X
theorem de_fld {tbl : List (Nat × Nat)} (ho : PD X e to) (hf : FOk X.K fl tbl) (hb : attributeBase e fl X.env (eval e X.env) = eval e X.env := by rfl) : PD X (.Attribute e fl pos) (dFld tbl to) := ⟨fun W tk => PE.weak (pe_fld (ho.run W tk) hb) (by
  rintro σ H Q ⟨G, δ, S, QD, XD, re, rl, h, kq, kx⟩
  refine ⟨G, δ, S, _, XD, re, rl, h, fun G1 H1 S1 v d s1 rv q => ?_, kx⟩
  simp only [vwk_is] at q
  split at q
  · rename_i c ds ex
    obtain ⟨z, dx, vs, rfl, hz, rs, hl⟩ := vw_ins s1.rel rv ex
    split at q
    · rename_i j ej
      obtain ⟨h1, h2, h3, h4⟩ := hf c j ej
      split at q
      · rename_i d ed
        obtain ⟨w, e1, e2⟩ := rs.get ed
        exact ⟨z, _, dx, _, w, rfl, hz, h1, h2, lookup_zip h4 h3 e1, kq _ _ _ _ _ s1 e2 q⟩
      · exact q.elim
    · exact q.elim
  · exact q.elim)⟩
def dSetF (tbl : List (Nat × Nat)) (to te : DTE) : DTS := fun E δ S => te δ S (fun d S1 => to δ S1 (fun y S2 => match y with
  | .adr q => ownk S2 q fun oo => (match oo with
    | some (.ins c fs) => (match fsel tbl c with
      | some j => (match Nat.blt j fs.length with
        | true => E.nx δ (su S2 q (.ins c (fs.set j d)))
        | false => j = fs.length ∧ E.nx δ (su S2 q (.ins c (fs ++ [d]))))
      | none => False)
    | _ => False)
  | _ => False) (fun x S1 => E.xc x δ S1)) (fun x S1 => E.xc x δ S1)
theorem ds_setF {tbl : List (Nat × Nat)} (ho : PD X o to) (he : PD X e te) (hf : FOk X.K fl tbl) (hs : swapsWith e (some (.Attribute o fl pos')) pos.line X.env = pure false := by rfl) : PDS X (.Assign [.Attribute o fl pos'] e pos) (dSetF tbl to te) := ⟨fun W tk po => PS.weak (ps_fld (ho.run W tk) (he.run W tk) hs) (by
  rintro D σ H ⟨G, δ, S, E, re, rl, h, er⟩
  refine ⟨G, δ, S, _, _, re, rl, h, fun G1 H1 S1 v d s1 rv q => ⟨G1, δ, S1, _, _, re.mono s1.sg, s1.rel, q, fun G2 H2 S2 y dy s2 ry q2 => ?_, (er.kx re).step s1⟩, er.kx re⟩
  split at q2
  · rename_i q
    cases ry
    simp only [ownk_is] at q2
    split at q2
    · rename_i c fs eS
      split at q2
      · rename_i j ej
        obtain ⟨h1, h2, h3, h4⟩ := hf c j ej
        obtain ⟨_, dx, vs, e1, r1, l1⟩ := s2.rel.own q _ eS
        have hlen : ((cfs c).zip vs).length < 1000 := by
          rw [List.length_zip]
          have : (cfs c).length < 1000 := by
            unfold cfs
            split <;> decide
          omega
        refine ⟨q, _, dx, _, rfl, e1, h1, h2, hlen, ?_⟩
        split at q2
        · rename_i hj
          have hj : j < fs.length := Nat.lt_of_succ_le (by simpa [Nat.blt] using hj)
          have s3 : Stp X.K G2 H2 S2 G2 (upd H2 q (.ins (cad X.K c) dx (putF fl v ((cfs c).zip vs)))) (su S2 q (.ins c (fs.set j d))) := Stp.mut s2.rel eS ⟨dx, vs.set j v, by rw [putF_set h4 h3 (by rw [r1.length]; exact hj)], r1.set (rv.mono s2.sg) j, by rw [List.length_set]; exact l1⟩
          have s13 := (s1.trans s2).trans s3
          exact er.nx _ _ _ _ _ s13 (re.mono s13.sg) q2
        · obtain ⟨hj, q2⟩ := q2
          have s3 : Stp X.K G2 H2 S2 G2 (upd H2 q (.ins (cad X.K c) dx (putF fl v ((cfs c).zip vs)))) (su S2 q (.ins c (fs ++ [d]))) := Stp.mut s2.rel eS ⟨dx, vs ++ [v], by rw [putF_app h4 (by rw [r1.length, ← hj]; exact h3)], r1.append (.cons (rv.mono s2.sg) .nil), by
            have := (List.getElem?_eq_some_iff.mp h3).1
            rw [List.length_append, List.length_singleton]; omega⟩
          have s13 := (s1.trans s2).trans s3
          exact er.nx _ _ _ _ _ s13 (re.mono s13.sg) q2
      · exact q2.elim
    · exact q2.elim
  · exact q2.elim)⟩
def Bt.is : Bt → D → Bool
  | .lst, .lst _ => true
  | .str, .str _ => true
  | .dct, .dT _ => true
  | _, _ => false
def dBM (T : Bt) (r : RCD) (to : DTE) (t : DTA) : DTE := fun δ S Q X => to δ S (fun x S1 => vwk S1 x fun x' => match T.is x' with
  | true => t δ S1 (fun ds S2 => r (x :: ds) S2 Q) X
  | false => False) X
theorem MtR.weak {id : String} {r r' : V → List V → Hp → VK → Prop} (h : MtR X id r) (w : ∀ x xs H Q, r' x xs H Q → r x xs H Q) : MtR X id r' := fun pins s σ H x xs v us Q I rx rs q => h pins s σ H x xs v us Q I rx rs (w x xs H Q q)
theorem bt_ty (rl : Rel K G H S) {T : Bt} {v : V} {d : D} (r : Rp K G v d) (h : T.is (vw S d) = true) (hT : T ≠ .dct) : tyV K T.nm v H := by
  cases e : vw S d with
  | lst ds =>
    rw [e] at h
    obtain ⟨q, vs, rfl, hq, _, _⟩ := vw_lst rl r e
    cases T <;> simp [Bt.is] at h
    exact .inl ⟨rfl, vs, SqL.of hq⟩
  | str z =>
    rw [e] at h
    obtain ⟨e1, _⟩ := (vw_scal r).2.2.1 _ e
    subst e1
    cases T <;> simp [Bt.is] at h
    rfl
  | _ => rw [e] at h; cases T <;> simp [Bt.is] at h hT
theorem sim_bm {T : Bt} {r : RCD} (hT : T ≠ .dct) : ∀ σ H Q, liftE K W (dBM T r to t) σ H Q → tBM K T.nm (liftM K r) (liftE K W to) (liftA K W t) σ H Q := by
  rintro σ H Q ⟨G, δ, S, QD, XD, re, rl, h, kq, kx⟩
  refine ⟨G, δ, S, _, XD, re, rl, h, fun G1 H1 S1 v d s1 rv q => ?_, kx⟩
  simp only [vwk_is] at q
  split at q
  · rename_i ht
    exact ⟨bt_ty s1.rel rv ht hT, G1, δ, S1, _, XD, re.mono s1.sg, s1.rel, q, fun G2 H2 S2 vs ds s2 rs q2 => ⟨G2, S2, _, QD, s2.rel, .cons (rv.mono s2.sg) rs, q2, fun G3 H3 S3 v d s3 r q => kq _ _ _ _ _ ((s1.trans s2).trans s3) r q⟩, kx.step s1⟩
  · exact q.elim
abbrev FewA (X : Cx) (q : Pos) (l : List Expr) : Prop := ((backTo q (starEach l X.env)).all (fun x => !x.1) && (backToKw q (keywordEach [] X.env)).all (fun x => x.1.isSome) && decide (l.length + ([] : List Keyword).length + (if ([] : List Keyword).isEmpty then 0 else 1) < 30)) = true
theorem de_bm {T : Bt} {r : RCD} {name : Str} {id : String} (hT : T ≠ .dct) (pa : PlainAttrs T.nm) (slot : Slot T.nm name id) (hty : typeOf (.builtin id) = pure (.type "method_descriptor")) (hm : MtR X id (liftM X.K r)) (ho : PD X o to) (ha : PDA X (e :: es) t)
    (hbase : attributeBase o name X.env (eval o X.env) = eval o X.env := by rfl) (hfew : FewA X cpos (e :: es) := by rfl) (hline : (apos.endLine == cpos.line) = true := by rfl) (he : starEach (e :: es) X.env = (false, eval e X.env) :: starEach es X.env := by rfl) (hpl : (backTo cpos (starEach es X.env)).any (·.1) = false := by rfl) :
    PD X (.Call (.Attribute o name apos) (e :: es) [] cpos) (dBM T r to t) := ⟨fun W tk => PE.weak (pe_bm pa slot hty hm (ho.run W tk) (ha.run W tk) hbase hfew hline he hpl) (sim_bm hT)⟩
def appD : RCD := fun ds S Q => match ds with
  | [.adr q, d] => ownk S q fun oo => (match oo with
    | some (.lst es) => es.length < sizeLine ∧ Q .non (su S q (.lst (es ++ [d])))
    | _ => False)
  | _ => False
theorem m_append : MtR X "list.append" (liftM X.K appD) := MtR.weak mt_append (by
  rintro x xs H Q ⟨G, S, ds, QD, rl, rs, h, kq⟩
  unfold appD at h
  split at h
  · rename_i q d
    cases rs with
    | cons r1 r2 =>
    cases r2 with
    | cons r2 r3 =>
    cases r3
    cases r1
    simp only [ownk_is] at h
    split at h
    · rename_i es eS
      obtain ⟨_, vs, e1, re, l1⟩ := rl.own q _ eS
      refine ⟨q, vs, _, rfl, rfl, e1, by rw [re.length]; exact h.1, ?_⟩
      exact kq _ _ _ _ _ (Stp.mut (o' := .lst (es ++ [d])) rl eS ⟨_, rfl, re.append (.cons r2 .nil), by rw [List.length_append]; exact h.1⟩) .non h.2
    · exact h.elim
  · exact h.elim)
def strsD : List D → Option (List Str)
  | [] => some []
  | .str s :: r => (match strsD r with
    | some l => some (s :: l)
    | none => none)
  | _ => none
theorem strsD_rps : ∀ {vs : List V} {ds : List D} {l : List Str}, Rps K G vs ds → strsD ds = some l → vs = l.map V.str ∧ ∀ s ∈ l, okS s
  | _, _, _, .nil, h => by cases h; exact ⟨rfl, fun _ h => nomatch h⟩
  | _, _, _, .cons r q, h => by
    unfold strsD at h
    split at h
    · rename_i e; cases e
    · rename_i s r' e
      cases e
      split at h
      · rename_i l' el
        cases h
        cases r with
        | str hs =>
        obtain ⟨z1, z2⟩ := strsD_rps q el
        exact ⟨by rw [z1]; rfl, fun s hs' => by
          rcases List.mem_cons.mp hs' with rfl | hm
          · exact hs
          · exact z2 s hm⟩
      · cases h
    · cases h
end
end SM
namespace SM
open PySem PySem.Spec PyProof.Rows L2
variable {K : PySem.W.Frag} {G G' G2 H H' H2 : Hp} {S S' S2 : Sto}
section
variable {k : D → Prop} {ko : Option OO → Prop} {ds : List D} {kvs : List (List Key × D)} {c : Nat} {a b : Addr} {o u : OO}
theorem vk_non (q : k .non) : vwk S .non k := vwk_of rfl q
theorem vk_bl {z : Bool} (q : k (.bl z)) : vwk S (.bl z) k := vwk_of rfl q
theorem vk_int {z : Int} (q : k (.int z)) : vwk S (.int z) k := vwk_of rfl q
theorem vk_str {z : Str} (q : k (.str z)) : vwk S (.str z) k := vwk_of rfl q
theorem vk_tup (q : k (.tup ds)) : vwk S (.tup ds) k := vwk_of rfl q
theorem vk_lst (q : k (.lst ds)) : vwk S (.lst ds) k := vwk_of rfl q
theorem vk_dT (q : k (.dT kvs)) : vwk S (.dT kvs) k := vwk_of rfl q
theorem vk_ins (q : k (.ins c ds)) : vwk S (.ins c ds) k := vwk_of rfl q
theorem vw_own {a : Addr} : ∀ {o : OO}, S a = some o → vw S (.adr a) = (match o with | .lst ds => .lst ds | .dT kvs => .dT kvs | .ins c ds => .ins c ds | .dF _ _ kvs => .dT kvs)
  | .lst _, h => by simp [vw, h]
  | .dF _ _ _, h => by simp [vw, h]
  | .dT _, h => by simp [vw, h]
  | .ins _ _, h => by simp [vw, h]
def ofO : OO → D
  | .lst ds => .lst ds
  | .dT kvs => .dT kvs
  | .ins c ds => .ins c ds
  | .dF _ _ kvs => .dT kvs
theorem vk_o (h : S a = some o) (q : k (ofO o)) : vwk S (.adr a) k := vwk_of (by rw [vw_own h]; cases o <;> rfl) q
theorem ok_o (h : S a = some o) (q : ko (some o)) : ownk S a ko := ownk_of h q
theorem brT {A B : Prop} (h : A) : brn true A B := by rw [brn_t]; exact h
theorem brF {A B : Prop} (h : B) : brn false A B := by rw [brn_f]; exact h
theorem ik_map {α : Type} {f : α → D} {xs : List α} {i : Nat} {kk : D → Prop} (h : i < xs.length) (q : kk (f xs[i])) : itk (xs.map f) (i : Int) kk := itk_of (atI_nat (by rw [List.getElem?_map]; simp [h])) q
theorem brP {c : Prop} [Decidable c] {A B : Prop} (h1 : c → A) (h2 : ¬ c → B) : brn (decide c) A B := brn_of (fun h => h1 (of_decide_eq_true h)) (fun h => h2 (of_decide_eq_false h))
theorem brN {c : Prop} [Decidable c] {A B : Prop} (h1 : ¬ c → A) (h2 : c → B) : brn (!decide c) A B := brn_of (fun h => h1 (by simpa using h)) (fun h => h2 (by simpa using h))
end
section
variable {X : Cx} {st : Stmt} {rest : List Stmt} {t u : DTS}
def dCut (t u : DTS) : DTS := fun E δ S => cutK t u E δ S
theorem dss_cut (h1 : PDS X st t) (h2 : PDSs X rest u) : PDSs X (st :: rest) (dCut t u) := ⟨fun W tk po => PSs.weak (pss_cons (h1.run W tk po) (h2.run W tk po)) (by
  rintro D σ H ⟨G, δ, S, E, re, rl, ⟨M, h, hm⟩, er⟩
  exact ⟨G, δ, S, _, re, rl, h, ⟨fun G1 H1 S1 σ1 δ1 s1 re1 q => ⟨G1, δ1, S1, E, re1, s1.rel, hm _ _ q, er.step s1⟩, er.rt, er.bk, er.ct, er.xc⟩⟩)⟩
end
def bagO (b : Bag) : OO := .lst [.lst (b.cells.map D.int), .int b.at_, .int b.big, .int b.seed]
end SM
namespace SM
open PySem PySem.Spec PyProof.Rows L2
variable {K : PySem.W.Frag} {G G' G2 H H' H2 G0 H0 : Hp} {S S' S2 S0 : Sto}
theorem Stp.newH (r : Rel K G H S) {p : Addr} {o : HO} (h : H p = none) : Stp K G H S G (upd H p o) S where
  sg := fun _ _ e => e
  rel := {
    le := fun b w e => by
      have hb : b ≠ p := ne_of_none e (r.free h).1
      rw [upd_ne hb]; exact r.le b w e
    own := fun b w e => by
      have hb : b ≠ p := st_ne e (r.free h).2
      rw [upd_ne hb]; exact r.own b w e }
  fr := fun b w e g s => by
    have hb : b ≠ p := ne_of_none e h
    rw [upd_ne hb]; exact ⟨e, s, .inl g⟩
theorem Stp.mutH (s : Stp K G0 H0 S0 G H S) {p : Addr} {o : HO} (h0 : H0 p = none) (hg : G p = none) (hs : S p = none) : Stp K G0 H0 S0 G (upd H p o) S where
  sg := s.sg
  rel := {
    le := fun b w e => by
      have hb : b ≠ p := ne_of_none e hg
      rw [upd_ne hb]; exact s.rel.le b w e
    own := fun b w e => by
      have hb : b ≠ p := st_ne e hs
      rw [upd_ne hb]; exact s.rel.own b w e }
  fr := fun b w e g z => by
    have hb : b ≠ p := ne_of_none e h0
    rw [upd_ne hb]; exact s.fr b w e g z
theorem Stp.frzH (s : Stp K G0 H0 S0 G H S) {p : Addr} {o : HO} (h0 : H0 p = none) (hg : G p = none) (hs : S p = none) (hp : H p = some o) : Stp K G0 H0 S0 (upd G p o) H S where
  sg := fun b w e => by
    have := s.sg b w e
    rw [upd_ne (ne_of_none this hg)]; exact this
  rel := {
    le := fun b w e => by
      by_cases hb : b = p
      · subst hb; rw [upd_same] at e; cases e; exact .inl hp
      · rw [upd_ne hb] at e; exact s.rel.le b w e
    own := fun b w e => by
      have hb : b ≠ p := st_ne e hs
      rw [upd_ne hb]
      refine ⟨(s.rel.own b w e).1, (s.rel.own b w e).2.mono fun c w q => ?_⟩
      rw [upd_ne (ne_of_none q hg)]; exact q }
  fr := fun b w e g z => by
    have hb : b ≠ p := ne_of_none e h0
    rw [upd_ne hb]; exact s.fr b w e g z
theorem uns_rpe {σ : L2.St} {δ : DS} (h : RpE K G σ δ) : ∀ vs : List Nat, RpE K G (wipe σ vs) (uns δ vs)
  | [] => h
  | v :: vs => (uns_rpe h vs).unset v
theorem wipe_at (σ : L2.St) : ∀ (vs : List Nat) (i : Nat), (wipe σ vs)[i]? = if i ∈ vs then (σ[i]?).map (fun _ => none) else σ[i]?
  | [], i => by simp [wipe]
  | v :: vs, i => by
    rw [wipe]
    by_cases hv : v = i
    · subst hv
      rw [List.getElem?_set_self']
      rw [wipe_at σ vs v]
      by_cases hm : v ∈ vs
      · simp [hm]
        cases σ[v]? <;> rfl
      · simp [hm]
        cases σ[v]? <;> rfl
    · rw [List.getElem?_set_ne hv, wipe_at σ vs i]
      have : ¬ i = v := fun z => hv z.symm
      simp [this]
theorem wipe_agr {σ σ2 : L2.St} {vs l : List Nat} (h : Agr l (wipe σ vs) σ2) (hl : ∀ i ∈ l, i ∈ vs) : wipe σ2 vs = wipe σ vs := by
  apply List.ext_getElem?
  intro i
  rw [wipe_at σ2 vs i]
  by_cases hi : i ∈ vs
  · rw [if_pos hi, wipe_at σ vs i, if_pos hi]
    have hlen : σ2.length = σ.length := by rw [h.1, wipe_length]
    by_cases hb : i < σ.length
    · rw [List.getElem?_eq_getElem (by omega), List.getElem?_eq_getElem hb]; rfl
    · rw [List.getElem?_eq_none (by omega), List.getElem?_eq_none (by omega)]
  · rw [if_neg hi]
    exact h.2 i fun z => hi (hl i z)
def dYes : DTT := fun _ S Q _ => Q true S
theorem lcK_is {gd : Gd} {q : Pat} {tt : DTT} {te : DTE} {δ : DS} {xs : List D} {S : Sto} {Q : List D → Sto → Prop} : lcK gd q tt te δ xs S Q = dLcL gd q tt te δ xs S Q := propext ⟨fun h => h.it, fun h => ⟨h⟩⟩
def dLc (ti : DTI) (q : Pat) (tt : DTT) (te : DTE) (vs : List Nat) : DTE := fun δ S Q X => ti δ S (fun gd xs S1 => lcK gd q tt te (uns δ vs) xs S1 (fun ds S2 => Q (.lst ds) S2)) X
section
variable {X : Cx} {e a b c o i : Expr} {pos p : Pos} {W : WX} {k : Nat}
theorem PTs.weak {ifs : List Expr} {t t' : TT} (h : PTs X ifs t) (w : ∀ σ H Q, t' σ H Q → t σ H Q) : PTs X ifs t' := ⟨fun pins s σ H Q I q => h.run pins s σ H Q I (w σ H Q q)⟩
theorem dts_nil : PDTs X [] dYes := ⟨fun W tk => PTs.weak pts_nil (by
  rintro σ H Q ⟨G, δ, S, QD, XD, re, rl, h, kq, kx⟩
  exact kq _ _ _ _ (Stp.refl rl) h)⟩
theorem dts_one {t : DTT} (h : PDT X c t) : PDTs X [c] t := ⟨fun W tk => pts_one (h.run W tk)⟩
abbrev W0 : WX := fun _ _ _ _ => False
theorem kx0 {σ : L2.St} : KX K W0 σ G H S noX := fun _ _ _ _ _ _ _ _ z => z
theorem LcI.step {A : Addr} {acc : List D} (I : LcI K G0 H0 S0 A G H S acc) (s : Stp K G H S G' H' S') : LcI K G0 H0 S0 A G' H' S' acc := by
  obtain ⟨vs, e, r⟩ := I.ex
  obtain ⟨e1, e2, e3⟩ := s.fr A _ e I.hg I.hs
  refine ⟨I.st.trans s, ⟨vs, e1, r.mono s.sg⟩, ?_, e2⟩
  rcases e3 with e3 | ⟨z, e3⟩
  · exact e3
  · cases e3
theorem LcI.more {A : Addr} {acc vs : List D} {us : List V} {v : V} {d : D} (I : LcI K G0 H0 S0 A G H S acc) (h0 : H0 A = none) (r : Rp K G v d) (hu : H A = some (.lst us)) : LcI K G0 H0 S0 A G (upd H A (.lst (us ++ [v]))) S (acc ++ [d]) := by
  obtain ⟨ws, e, rs⟩ := I.ex
  rw [hu] at e
  cases e
  exact ⟨I.st.mutH h0 I.hg I.hs, ⟨_, upd_same, rs.append (.cons r .nil)⟩, I.hg, I.hs⟩
theorem sim_lc {ti : DTI} {q : Pat} {tt : DTT} {te : DTE} {vs : List Nat} (hq : ∀ i ∈ slots q, i ∈ vs) (fin : DQ → List D → Sto → Prop)
    (hfin : ∀ G0 H0 S0 G H S A ds vv QD, Stp K G0 H0 S0 G H S → H0 A = none → G A = none → S A = none → H A = some (.lst vv) → Rps K G vv ds → ds.length ≤ sizeLine → fin QD ds S → ∃ G' S' d, Stp K G0 H0 S0 G' H S' ∧ Rp K G' (.ref A) d ∧ QD d S') :
    ∀ σ H Q, liftE K W (fun δ S Q X => ti δ S (fun gd xs S1 => dLcL gd q tt te (uns δ vs) xs S1 (fin Q)) X) σ H Q → tLc (liftI K W ti) (pG K q) (liftT K W0 tt) (liftE K W0 te) vs σ H Q := by
  rintro σ H Q ⟨G, δ, S, QD, XD, re, rl, h, kq, kx⟩
  refine ⟨G, δ, S, _, XD, re, rl, h, fun G1 H1 S1 J gd xs s1 hJ hl hd A hA => ?_, kx⟩
  have fA := s1.rel.free hA
  refine ⟨fun i m H' => m = xs.length - i ∧ i ≤ xs.length ∧ ∃ G' S' acc, LcI K G1 H1 S1 A G' H' S' acc ∧ acc.length ≤ i ∧ dLcL gd q tt te (uns δ vs) (xs.drop i) S' (fun ds S'' => fin QD (acc ++ ds) S''), ⟨xs.length, by simp, by simp, G1, S1, [], ⟨Stp.newH s1.rel hA, ⟨[], upd_same, .nil⟩, fA.1, fA.2⟩, by simp, by simpa using hd⟩, ?_⟩
  rintro i m H' ⟨rfl, hi, G', S', acc, I, la, hd'⟩
  have hgd : gok gd S' := by
    cases q : xs.drop i with
    | nil => rw [q, dLcL] at hd'; exact hd'.1
    | cons y z => rw [q, dLcL] at hd'; exact hd'.1
  obtain ⟨h1, h2⟩ := hJ G' H' S' I.st.sg I.st.rel hgd i
  by_cases hlt : i < xs.length
  · obtain ⟨hgo, hy⟩ := h1 hlt
    refine .inr ⟨hgo, fun H3 => ∃ G3 S3 acc3, LcI K G1 H1 S1 A G3 H3 S3 acc3 ∧ acc3.length ≤ i + 1 ∧ dLcL gd q tt te (uns δ vs) (xs.drop (i + 1)) S3 (fun ds S'' => fin QD (acc3 ++ ds) S''), fun H3 ⟨G3, S3, acc3, a1, a2, a3⟩ => ⟨xs.length - (i + 1), by omega, rfl, hlt, G3, S3, acc3, a1, a2, a3⟩, fun x H3 yl => ?_⟩
    obtain ⟨G3, s3, rx⟩ := hy x H3 yl
    have rx := rx _ (show xs[i]? = some xs[i] by simp [hlt])
    have I3 := I.step s3
    rw [List.drop_eq_getElem_cons hlt, dLcL] at hd'
    replace hd' := hd'.2
    split at hd'
    · rename_i δ2 e2
      have re3 : RpE K G3 (wipe σ vs) (uns δ vs) := uns_rpe (re.mono (s1.sg.trans (I.st.sg.trans s3.sg))) vs
      obtain ⟨σ2, a1, a2, a3⟩ := pG_run s3.rel _ _ x (wipe σ vs) (uns δ vs) δ2 re3 rx e2
      refine a1 _ ⟨wipe_agr a3 hq, ?_⟩
      refine ⟨G3, δ2, S', _, noX, a2, s3.rel, hd', fun G4 H4 S4 b s4 q4 => ?_, kx0⟩
      have I4 := I3.step s4
      cases b with
      | true =>
        rw [brn_t] at q4
        refine iteT ?_
        refine ⟨G4, δ2, S4, _, noX, a2.mono s4.sg, s4.rel, q4, fun G5 H5 S5 v d s5 rv q5 => ?_, kx0⟩
        have I5 := I4.step s5
        obtain ⟨us, e5, r5⟩ := I5.ex
        refine ⟨us, e5, by rw [r5.length]; omega, G5, S5, acc ++ [d], I5.more (vs := []) hA rv e5, by rw [List.length_append, List.length_singleton]; omega, ?_⟩
        simpa using q5
      | false =>
        rw [brn_f] at q4
        refine iteF ?_
        exact ⟨G4, S4, acc, I4, by omega, q4⟩
    · exact hd'.elim
  · have hle : xs.length ≤ i := by omega
    refine .inl ⟨h2 hle, ?_⟩
    rw [List.drop_of_length_le hle, dLcL] at hd'
    replace hd' := hd'.2
    obtain ⟨us, e5, r5⟩ := I.ex
    obtain ⟨G5, S5, d, s5, r6, q6⟩ := hfin G1 H1 S1 G' H' S' A _ us QD I.st hA I.hg I.hs e5 r5 (by omega) (by simpa using hd')
    exact kq _ _ _ _ _ (s1.trans s5) r6 q6
theorem fin_f : ∀ (G0 H0 : Hp) (S0 : Sto) (G H : Hp) (S : Sto) (A : Addr) (ds : List D) (vv : List V) (QD : DQ), Stp K G0 H0 S0 G H S → H0 A = none → G A = none → S A = none → H A = some (.lst vv) → Rps K G vv ds → ds.length ≤ sizeLine → QD (.lst ds) S → ∃ G' S' d, Stp K G0 H0 S0 G' H S' ∧ Rp K G' (.ref A) d ∧ QD d S' := by
  intro G0 H0 S0 G H S A ds vv QD s h0 hg hs hA r l q
  have s2 := s.frzH h0 hg hs hA
  refine ⟨_, S, _, s2, .lst upd_same (r.mono fun b w e => ?_) l, q⟩
  rw [upd_ne (ne_of_none e hg)]; exact e
section
variable {elt tg iter : Expr} {ifs : List Expr} {scope : Scope} {own : List (Str × Nat)} {ti : DTI} {q : Pat} {tt : DTT} {te : DTE}
theorem de_lc (hc : X.calm = true) (hN : X.N.Nodup) (hi : PDI X tg iter ti) (ok : BlkOk X.N X.env.scope scope own) (hg : ∀ s H C cl fp, PDP (Cx.bk X scope s H C cl fp) tg q) (ht : ∀ s H C cl fp, PDTs (Cx.bk X scope s H C cl fp) ifs tt) (he : ∀ s H C cl fp, PD (Cx.bk X scope s H C cl fp) elt te)
    (hq : ∀ i ∈ slots q, i ∈ own.map (·.2) := by decide) (hs : ∀ x, foldedSetIterable iter X.env x = pure x := by intro _; rfl) : PD X (.ListComp elt [⟨tg, iter, ifs, 0⟩] scope pos) (dLc ti q tt te (own.map (·.2))) := by
  unfold dLc
  simp only [lcK_is]
  exact ⟨fun W tk =>
  PE.weak (pe_lc hc hN (hi.run W tk) ok (fun s H C cl fp => (hg s H C cl fp).run) (fun s H C cl fp => (ht s H C cl fp).run W0 takes0N) (fun s H C cl fp => (he s H C cl fp).run W0 takes0N) hs) (sim_lc hq (fun Q ds S => Q (.lst ds) S) fin_f)⟩
end
end
end SM
namespace SM
open PySem PySem.Spec PyProof.Rows L2
variable {K : PySem.W.Frag} {G G' G2 H H' H2 G0 H0 : Hp} {S S' S2 S0 : Sto}
section
variable {X : Cx} {e a b c o i : Expr} {es : List Expr} {pos p py spos : Pos} {W : WX} {k : Nat} {x y : Str} {t : DTA} {te : DTE} {f C : Addr} {fd : FuncData} {ps : List Str} {R : DSp} {dvs : List V} {dds : List D} {ds : List Value}
section
variable {elt tg iter : Expr} {ifs : List Expr} {scope : Scope} {own : List (Str × Nat)} {ti : DTI} {q : Pat} {tt : DTT}
theorem ds_setLc {j : Nat} (hc : X.calm = true) (hN : X.N.Nodup) (hsw : swapsWith (.ListComp elt [⟨tg, iter, ifs, 0⟩] scope pos) (some (.Name y py)) spos.line X.env = pure true) (hi : PDI X tg iter ti) (ok : BlkOk X.N X.env.scope scope own) (hg : ∀ s H C cl fp, PDP (Cx.bk X scope s H C cl fp) tg q) (ht : ∀ s H C cl fp, PDTs (Cx.bk X scope s H C cl fp) ifs tt) (he : ∀ s H C cl fp, PD (Cx.bk X scope s H C cl fp) elt te)
    (hy : X.N[j]? = some y := by rfl) (hyl : X.env.scope.names.lookup y = some .local := by rfl) (hq : ∀ i ∈ slots q, i ∈ own.map (·.2) := by decide) (hs : ∀ x, foldedSetIterable iter X.env x = pure x := by intro _; rfl) : PDS X (.Assign [.Name y py] (.ListComp elt [⟨tg, iter, ifs, 0⟩] scope pos) spos) (dSet j (dLc ti q tt te (own.map (·.2)))) := by
  unfold dLc
  simp only [lcK_is]
  exact ⟨fun W tk po =>
  PS.weak (ps_setLc (tt := liftT X.K W0 tt) (te := liftE X.K W0 te) hc hN hy hyl hsw (hi.run W tk) ok (fun s H C cl fp => (hg s H C cl fp).run) (fun s H C cl fp => (ht s H C cl fp).run W0 takes0N) (fun s H C cl fp => (he s H C cl fp).run W0 takes0N) hs) (by
    rintro D σ H ⟨G, δ, S, E, re, rl, h, er⟩
    exact sim_lc hq (fun Q ds S => Q (.lst ds) S) fin_f σ H _ ⟨G, δ, S, fun d S1 => E.nx (put δ j d) S1, fun x S1 => E.xc x δ S1, re, rl, h, fun G1 H1 S1 v d s1 rv q => er.nx _ _ _ _ _ s1 ((re.mono s1.sg).put j rv) q, er.kx re⟩)⟩
end
theorem run_makeD {pins : List (Addr × Obj)} {σ : L2.St} {H : Hp} {s : Shared} {Q : VK} {us : List Value} {vs : List V} (M : Mk X.K C f) (F : FnOk X.prog X.w X.K X.mg X.base (L2N.CX X.prog X.w) k f fd ps (toSp X.K R)) (hr : Room (k + 1) X.A) (hb : Binds X.K fd ps ds) (hd : Vals dvs ds)
    (tk : L2N.Takes X W) (I : Inv X pins σ H s) (r : Vals vs us)
    (h : ∀ z dx, H z = none → H dx = none → dx ≠ z → toSp X.K R (.ref z :: (vs ++ dvs)) (upd (upd H dx (.own z)) z (.ins C dx [])) (fun v H2 => v = .non ∧ Q (.ref z) H2) (WE W σ)) :
    wpAny (model X.prog X.w) X.A (call (.ref C) us) (EP X pins σ Q) X.xe s := by
  let z : Addr := s.heap.objs.size + 1
  have hq := h z s.heap.objs.size (I.hok.fresh (Nat.le_succ _)) (I.hok.fresh (Nat.le_refl _)) (Nat.ne_of_lt (Nat.lt_succ_self _))
  have J := Inv.made (C := C) I
  have rr : Vals (V.ref z :: (vs ++ dvs)) (Value.ref z :: (us ++ ds)) := .cons rfl (r.append hd)
  have hl : (Value.ref z :: us ++ ds).length = ps.length := (rr.length.symm.trans (F.len _ _ _ _ hq))
  apply wpAny_call
  apply make_map (f := f) I.kIn M.makes M.init (beq_iff_eq.mp M.fn)
  apply codeAny_mono (F.run _ X.stack _ _ ⟨Value.ref z :: us, []⟩ (Value.ref z :: (us ++ ds)) _ _ (WE W σ) (hr.make C us []) (J.env0.make C us []) (hb _ (Value.ref z :: us) J.kIn hl) rr hq)
  intro r s' hq'
  match r, hq' with
  | .error e, hq' => exact L2N.passAt tk σ pins _ _ e s' J hq'
  | .ok (.ret u), hq' =>
    obtain ⟨v, H', I3, rv, ev, q3⟩ := J.after hq'
    subst ev
    exact ⟨rv, ⟨V.ref z, H', I3, rfl, q3⟩⟩
  | .ok .next, hq' => exact False.elim hq'
  | .ok .brk, hq' => exact False.elim hq'
  | .ok .cont, hq' => exact False.elim hq'
def mkF (Q : DQ) (z : Addr) (S : Sto) : Prop := ownk S z fun oo => match oo with
  | some (.ins c fs) => Q (.ins c fs) (sd S z)
  | _ => False
def dMake (fin : DQ → Addr → Sto → Prop) (c : Nat) (R : DSp) (dds : List D) (t : DTA) : DTE := fun δ S Q X => t δ S (fun ds S1 => ∀ z, S1 z = none → R (.adr z :: (ds ++ dds)) (su S1 z (.ins c [])) (fun d S2 => d = .non ∧ fin Q z S2) (fun e S2 => X e (sd S2 z))) X
theorem mkF_ok : ∀ (Q : DQ) (z : Addr) (G H : Hp) (S : Sto), Rel K G H S → mkF Q z S → ∃ G' S' d, Stp K G H S G' H S' ∧ Rp K G' (.ref z) d ∧ Q d S' := by
  intro Q z G H S rl h
  simp only [mkF, ownk_is] at h
  split at h
  · rename_i c fs e
    obtain ⟨G', s1, r1⟩ := frz_ins rl e
    exact ⟨G', _, _, s1, r1, h⟩
  · exact h.elim
theorem make_sp {fin : DQ → Addr → Sto → Prop} {c : Nat} (hfin : ∀ (Q : DQ) (z : Addr) (G H : Hp) (S : Sto), Rel K G H S → fin Q z S → ∃ G' S' d, Stp K G H S G' H S' ∧ Rp K G' (.ref z) d ∧ Q d S') (hdd : ∀ G, Rps K G dvs dds) {σ : L2.St} {Q : VK} {QD : DQ} {XD : XQ} {vs : List V} {ds : List D}
    (rl : Rel K G H S) (rs : Rps K G vs ds) (h : ∀ z, S z = none → R (.adr z :: (ds ++ dds)) (su S z (.ins c [])) (fun d S2 => d = .non ∧ fin QD z S2) (fun e S2 => XD e (sd S2 z)))
    (kq : ∀ G' H' S' v d, Stp K G H S G' H' S' → Rp K G' v d → QD d S' → Q v H') (kx : KX K W σ G H S XD) :
    ∀ z dx, H z = none → H dx = none → dx ≠ z → toSp K R (.ref z :: (vs ++ dvs)) (upd (upd H dx (.own z)) z (.ins (cad K c) dx [])) (fun v H2 => v = .non ∧ Q (.ref z) H2) (WE W σ) := by
  intro z dx hz hdx hne
  have s1 : Stp K G H S G (upd H dx (.own z)) S := Stp.newH rl hdx
  have hz1 : upd H dx (.own z) z = none := by rw [upd_ne (Ne.symm hne)]; exact hz
  have s2 : Stp K G (upd H dx (.own z)) S G (upd (upd H dx (.own z)) z (.ins (cad K c) dx [])) (su S z (.ins c [])) := Stp.newO s1.rel hz1 ⟨dx, [], by rw [List.zip_nil_right], .nil, Nat.zero_le _⟩
  have s12 := s1.trans s2
  refine ⟨G, su S z (.ins c []), _, _, _, s2.rel, .cons (.adr z) (rs.append (hdd G)), h z (rl.free hz).2, fun G3 H3 S3 v d s3 rv q => ?_, fun G3 H3 S3 cls d x s3 r q => ?_⟩
  · obtain ⟨e, q⟩ := q
    subst e
    cases rv
    refine ⟨rfl, ?_⟩
    obtain ⟨G4, S4, d4, s4, r4, q4⟩ := hfin QD z G3 H3 S3 s3.rel q
    exact kq _ _ _ _ _ ((s12.trans s3).trans s4) r4 q4
  · exact kx _ _ _ _ _ _ ((s12.trans s3).trans (Stp.drop s3.rel)) r q
theorem de_make {fin : DQ → Addr → Sto → Prop} {c : Nat} (hfin : ∀ (Q : DQ) (z : Addr) (G H : Hp) (S : Sto), Rel X.K G H S → fin Q z S → ∃ G' S' d, Stp X.K G H S G' H S' ∧ Rp X.K G' (.ref z) d ∧ Q d S') (M : Mk X.K (cad X.K c) f) (F : FnOk X.prog X.w X.K X.mg X.base (L2N.CX X.prog X.w) k f fd ps (toSp X.K R)) (hr : Room (k + 1) X.A) (hg : Gl X x) (hm : X.mg x = some (.ref (cad X.K c))) (hb : Binds X.K fd ps ds) (hd : Vals dvs ds) (hdd : ∀ G, Rps X.K G dvs dds)
    (ha : PDA X (e :: es) t) (hdb : (x == ("__debug__" : Str)) = false := by decide) (he : starEach (e :: es) X.env = (false, eval e X.env) :: starEach es X.env := by rfl) (hpl : (backTo pos (starEach es X.env)).any (·.1) = false := by rfl) :
    PD X (.Call (.Name x p) (e :: es) [] pos) (dMake fin c R dds t) := ⟨fun W tk => ⟨fun pins s σ H Q I h => by
  obtain ⟨G, δ, S, QD, XD, re, rl, h, kq, kx⟩ := h
  apply wpAny_Call_Name_kw
  apply ld_glob I hg hm (hd := hdb)
  refine PySem.W.callWith_K (h₀ := X.base) I.ok.mod.kin M.kp ?_ he hpl
  apply thn ((ha.run W tk).run pos pins s σ H (fun vs H1 => ∀ z dx, H1 z = none → H1 dx = none → dx ≠ z → toSp X.K R (.ref z :: (vs ++ dvs)) (upd (upd H1 dx (.own z)) z (.ins (cad X.K c) dx [])) (fun v H2 => v = .non ∧ Q (.ref z) H2) (WE W σ)) I ⟨G, δ, S, _, XD, re, rl, h, fun G1 H1 S1 vs ds s1 rs q => make_sp hfin hdd s1.rel rs q (fun G2 H2 S2 v d s2 rv q2 => kq _ _ _ _ _ (s1.trans s2) rv q2) (kx.step s1), kx⟩)
  rintro us s1 ⟨vs, H1, I1, r, q⟩
  exact ⟨I1.kIn, run_makeD M F hr hb hd tk I1 r q⟩⟩⟩
def tagOf : D → Nat
  | .non => 100 | .bl _ => 101 | .int _ => 102 | .str _ => 103 | .tup _ => 104 | .lst _ => 105
  | .ins c _ => (match Nat.blt c 100 with
    | true => c
    | false => 107)
  | _ => 107
def selB : List (Nat × Bool) → Nat → Option Bool
  | [], _ => none
  | (c, b) :: r, d => match Nat.beq c d with
    | true => some b
    | false => selB r d
theorem cls_of {K : PySem.W.Frag} {c : Nat} (h : clsB K c = true) : Cls K (cad K c) := by
  simp only [clsB, Bool.and_eq_true] at h
  obtain ⟨h1, h2, h3, h4, _⟩ := h
  exact ⟨h1, h2, h3, He.eqO_ok h4⟩
theorem isiB_sel {u : Value} : ∀ {tbl : List (Nat × Bool)} {c : Nat} {b : Bool}, isiB K u tbl = true → selB tbl c = some b → PySem.W.kitOne K (tagV K c) u = some b ∧ (100 ≤ c ∨ clsB K c = true)
  | [], _, _, _, h => by cases h
  | (c', b') :: r, c, b, h, e => by
    simp only [isiB, List.all_cons, Bool.and_eq_true, Bool.or_eq_true, decide_eq_true_eq] at h
    unfold selB at e
    split at e
    · rename_i q
      have : c' = c := Nat.eq_of_beq_eq_true q
      subst this
      cases e
      exact ⟨h.1.1, h.1.2⟩
    · exact isiB_sel (tbl := r) (by simpa only [isiB, Bool.and_eq_true, Bool.or_eq_true, List.all_eq_true, decide_eq_true_eq] using h.2) e
theorem tagV_own {c : Nat} (h : c < 100) : tagV K c = .ref (cad K c) := by
  unfold tagV
  split <;> first | omega | rfl
theorem ty_of (rl : Rel K G H S) {v : V} {d : D} (r : Rp K G v d) (hc : 100 ≤ tagOf (vw S d) ∨ clsB K (tagOf (vw S d)) = true) (hn : tagOf (vw S d) ≠ 107) : TyX K H v (tagV K (tagOf (vw S d))) := by
  cases e : vw S d with
  | non => rw [(vw_scal r).2.2.2.1 e]; exact .base .non
  | bl z => rw [(vw_scal r).1 _ e]; exact .base (.bl _)
  | int z => rw [(vw_scal r).2.1 _ e]; exact .base (.int _)
  | str z => rw [((vw_scal r).2.2.1 _ e).1]; exact .base (.str _)
  | tup z => obtain ⟨q, vs, rfl, _, hq, _⟩ := vw_tup rl r e; exact .base (.tup hq)
  | lst z => obtain ⟨q, vs, rfl, hq, _⟩ := vw_lst rl r e; exact .base (.lst hq)
  | ins c fs =>
    obtain ⟨q, dx, vs, rfl, hq, _⟩ := vw_ins rl r e
    rw [e] at hc hn
    simp only [tagOf] at hc hn ⊢
    cases hb : Nat.blt c 100 with
    | false => rw [hb] at hn; exact absurd rfl hn
    | true =>
      rw [hb] at hc
      have hlt : c < 100 := Nat.lt_of_succ_le (by simpa [Nat.blt] using hb)
      simp only at hc ⊢
      rw [tagV_own hlt]
      have hk : clsB K c = true := hc.resolve_left (by omega)
      have cl := cls_of hk
      simp only [clsB, Bool.and_eq_true, decide_eq_true_eq] at hk
      obtain ⟨_, _, _, _, h5, h6, h7, h8⟩ := hk
      exact .base (.ins hq cl (He.eqO_ok h5) (He.eqO_ok h6) h7 h8)
  | _ => rw [e] at hn; exact absurd rfl hn
def isiD (tbl : List (Nat × Bool)) : D → Sto → DQ → Prop := fun x S Q => vwk S x fun x' => match selB tbl (tagOf x') with
  | some b => Q (.bl b) S
  | none => False
theorem sim_isi {tbl : List (Nat × Bool)} {u : Value} {cv : V} (hcv : ClsV cv u) (hb : isiB K u tbl = true) (h7 : selB tbl 107 = none) {x : V} {dx : D} {QD : DQ} {Q : VK} (rl : Rel K G H S) (rx : Rp K G x dx) (h : isiD tbl dx S QD) (kq : ∀ G' H' S' v d, Stp K G H S G' H' S' → Rp K G' v d → QD d S' → Q v H') :
    rIsi K [x, cv] H Q := by
  simp only [isiD, vwk_is] at h
  split at h
  · rename_i b eb
    obtain ⟨h1, h2⟩ := isiB_sel hb eb
    exact ⟨x, cv, _, u, b, rfl, hcv, ty_of rl rx h2 (fun z => by rw [z, h7] at eb; cases eb), h1, kq _ _ _ _ _ (Stp.refl rl) (.bl b) h⟩
  · exact h.elim
theorem de_isi {tbl : List (Nat × Bool)} {u : Value} {cv : V} {ce : Expr} (hg : Gl X "isinstance") (hm : X.mg "isinstance" = none) (hcv : ClsV cv u) (hce : PE X ce (tC cv)) (hb : isiB X.K u tbl = true) (h7 : selB tbl 107 = none) (ha : PD X a te)
    (h1 : starEach (a :: [ce]) X.env = (false, eval a X.env) :: starEach [ce] X.env := by rfl) (h2 : starEach (ce :: []) X.env = (false, eval ce X.env) :: starEach [] X.env := by rfl) (h3 : (backTo pos (starEach [ce] X.env)).any (·.1) = false := by rfl) :
    PD X (.Call (.Name "isinstance" p) [a, ce] [] pos) (dUn (isiD tbl) te) := ⟨fun W tk => PE.weak (pe_callB call_isi hg hm (by decide +kernel) (pa_cons (ha.run W tk) (pa_cons hce pa_nil h2) h1) (he := h1) (hpl := h3)) (by
  rintro σ H Q ⟨G, δ, S, QD, XD, re, rl, h, kq, kx⟩
  exact ⟨G, δ, S, _, XD, re, rl, h, fun G1 H1 S1 v d s1 rv q => sim_isi hcv hb h7 s1.rel rv q (fun G2 H2 S2 v d s2 r q => kq _ _ _ _ _ (s1.trans s2) r q), kx⟩)⟩
end
end SM
namespace SM
open PySem PySem.Spec PyProof.Rows L2
open PySem.W (EachIs AllAlike Sortable dataLe)
variable {K : PySem.W.Frag} {G G' G2 H H' H2 G0 H0 : Hp} {S S' S2 S0 : Sto}
section
variable {X : Cx} {k : Nat}
end
end SM
namespace SM
open PySem PySem.Spec PyProof.Rows L2
section
variable {X : Cx}
end
variable {K : PySem.W.Frag} {G G' G2 H H' H2 G0 H0 : Hp} {S S' S2 S0 : Sto}
theorem rkv_any : ∀ {ws : List (List Key × V)} {kvs : List (List Key × D)} (k : List Key), Rkv K G ws kvs → (ws.any fun p => decide (p.1 = k)) = (kvs.any fun p => decide (p.1 = k))
  | _, _, k, .nil => rfl
  | _, _, k, .cons r q => by rw [List.any_cons, List.any_cons, rkv_any k q]
theorem rkv_repl {v : V} {d : D} (rv : Rp K G v d) : ∀ {ws : List (List Key × V)} {kvs : List (List Key × D)} (k : List Key), Rkv K G ws kvs → Rkv K G (ws.map fun p => if p.1 = k then (p.1, v) else p) (kvs.map fun p => if p.1 = k then (p.1, d) else p)
  | _, _, k, .nil => .nil
  | _, _, k, @Rkv.cons _ _ k0 _ _ _ _ r q => by
    rw [List.map_cons, List.map_cons]
    by_cases e : k0 = k
    · simp only [e, if_true]; exact .cons rv (rkv_repl rv k q)
    · simp only [e, if_false]; exact .cons r (rkv_repl rv k q)
theorem rkv_snoc {k : List Key} {v : V} {d : D} (rv : Rp K G v d) : ∀ {ws : List (List Key × V)} {kvs : List (List Key × D)}, Rkv K G ws kvs → Rkv K G (ws ++ [(k, v)]) (kvs ++ [(k, d)])
  | _, _, .nil => .cons rv .nil
  | _, _, .cons r q => .cons r (rkv_snoc rv q)
theorem rkv_put {ws : List (List Key × V)} {kvs : List (List Key × D)} {v : V} {d : D} (k : List Key) (r : Rkv K G ws kvs) (rv : Rp K G v d) : Rkv K G (putK ws k v) (putD kvs k d) := by
  unfold putK putD
  rw [rkv_any k r]
  split
  · exact rkv_repl rv k r
  · exact rkv_snoc rv r
theorem DcI.step {A : Addr} {acc : List (List Key × D)} (I : DcI K G0 H0 S0 A G H S acc) (s : Stp K G H S G' H' S') : DcI K G0 H0 S0 A G' H' S' acc := by
  obtain ⟨vs, e, r⟩ := I.ex
  obtain ⟨e1, e2, e3⟩ := s.fr A _ e I.hg I.hs
  refine ⟨I.st.trans s, ⟨vs, e1, r.mono s.sg⟩, ?_, e2⟩
  rcases e3 with e3 | ⟨z, e3⟩
  · exact e3
  · cases e3
theorem DcI.more {A : Addr} {acc : List (List Key × D)} {us : List (List Key × V)} {v : V} {d : D} {k : List Key} (I : DcI K G0 H0 S0 A G H S acc) (h0 : H0 A = none) (r : Rp K G v d) (hu : H A = some (.dT us)) : DcI K G0 H0 S0 A G (upd H A (.dT (putK us k v))) S (putD acc k d) := by
  obtain ⟨ws, e, rs⟩ := I.ex
  rw [hu] at e
  cases e
  exact ⟨I.st.mutH h0 I.hg I.hs, ⟨_, upd_same, rkv_put k rs r⟩, I.hg, I.hs⟩
section
variable {X : Cx} {W : WX} {k : Nat}
end
end SM
namespace SM
open PySem PySem.Spec PyProof.Rows L2
open PySem.W (EachIs AllAlike Sortable dataLe KeyPure)
section
variable {prog : Program} {w : World} {A : Around} {E : Value → Shared → Prop} {s : Shared} {env : Env} {c : Str}
end
def pr (c : Int × Int) : D := .tup [.int c.1, .int c.2]
def roSort (l : List (Int × Int)) : List (Int × Int) := l.mergeSort fun p q => decide (p.2 < q.2 ∨ (p.2 = q.2 ∧ p.1 ≤ q.1))
variable {K : PySem.W.Frag} {G G' G2 H H' H2 G0 H0 : Hp} {S S' S2 S0 : Sto}
section
variable {X : Cx} {k : Nat}
end
end SM
namespace SM
open PySem PySem.Spec PyProof.Rows L2
variable {K : PySem.W.Frag} {G G' G2 H H' H2 : Hp} {S S' S2 : Sto}
section
variable {P : Program} {w : World} {mg : Str → Option Value} {base : Heap}
end
section
variable {X : Cx} {e o : Expr} {es : List Expr} {pos p apos : Pos} {W : WX} {k : Nat} {x m : Str} {t : DTA} {g C : Addr} {R : DSp} {pins : List (Addr × Obj)} {σ : L2.St} {s : Shared} {H : Hp} {A : Around} {E : Value → Shared → Prop}
end
end SM
namespace SM
open PySem PySem.Spec PyProof.Rows L2
open PySem.W (Looks)
variable {K : PySem.W.Frag} {G G' G2 H H' H2 : Hp} {S S' S2 : Sto}
section
variable {X : Cx} {k : Nat} {c : Nat} {oth : List Nat} {f : Addr} {fd : FuncData} {ps : List Str} {R : DSp} {A : Around} {pins : List (Addr × Obj)} {σ : L2.St} {s : Shared}
end
end SM
namespace SM
open PySem PySem.Spec PyProof.Rows L2
open PySem.W (Frag)
abbrev Df.Is (K : Frag) (d : Df) : Prop := ∃ fd, FunD K d.name d.qual (defArgs d.st) (defBody d.st) (defScope d.st) (d.dvs K) (d.kws K) (d.ad K) fd
theorem Df.is {K : Frag} {d : Df} (e : d.ob K = d.val) (c : d.ok K = true) : d.Is K := by
  unfold Df.ok at c
  rw [Bool.and_eq_true] at c
  obtain ⟨kp, c2⟩ := c
  unfold Df.ob at e
  split at c2
  · rename_i oc od g osl lk
    rw [lk] at e
    simp only [Bool.and_eq_true] at c2
    obtain ⟨c3, c4, c5⟩ := c2
    obtain ⟨n1, n2, n3, n4, n5, n6, n7, n8, n9, n10, n11, n12, n13, n14, n15⟩ := g
    simp only [Df.val, Option.some.injEq, Prod.mk.injEq] at e
    obtain ⟨rfl, rfl, rfl, rfl, rfl, rfl, rfl, rfl⟩ := e
    exact ⟨_, ⟨oc, od, n8, n9, n10, n11, n12, n13, n14, osl, rfl, lk, c3, He.dflB_ok c4, He.kwdB_ok c5⟩, kp⟩
  · cases c2
def obC (ch : ChK) (fn : List Df) (K : Frag) : He.AlD := (ch.all (fun p => p K) && fn.all (fun d => d.ok K), fn.map fun d => d.ob K)
def vlC (fn : List Df) : He.AlD := (true, fn.map Df.val)
def Says (ch : ChK) (fn : List Df) (K : Frag) : Prop := obC ch fn K = vlC fn
theorem Says.fact {ch : ChK} {fn : List Df} {K : Frag} (c : Says ch fn K) (i : Nat) {p : Frag → Bool} (h : ch[i]? = some p := by rfl) : p K = true := by
  have c1 : (ch.all (fun p => p K) && fn.all (fun d => d.ok K)) = true := congrArg Prod.fst c
  rw [Bool.and_eq_true] at c1
  exact List.all_eq_true.mp c1.1 p (List.mem_of_getElem? h)
theorem Says.df {ch : ChK} {fn : List Df} {K : Frag} (c : Says ch fn K) (i : Nat) {d : Df} (h : fn[i]? = some d := by rfl) : d.Is K := by
  have c1 : (ch.all (fun p => p K) && fn.all (fun d => d.ok K)) = true := congrArg Prod.fst c
  have c2 : fn.map (fun d => d.ob K) = fn.map Df.val := congrArg Prod.snd c
  rw [Bool.and_eq_true] at c1
  have e2 : (fn.map fun d => d.ob K)[i]? = (fn.map Df.val)[i]? := by rw [c2]
  rw [List.getElem?_map, List.getElem?_map, h] at e2
  exact Df.is (Option.some.inj e2) (List.all_eq_true.mp c1.2 d (List.mem_of_getElem? h))
end SM
namespace SM
open PySem PySem.Spec PyProof.Rows L2
variable {K : PySem.W.Frag} {G G' G2 H H' H2 : Hp} {S S' S2 : Sto}
theorem Fz.sq {a : Addr} {xs : List V} (h : Fz K H a xs) : SqL K H a xs := by
  rcases h with ⟨o, h⟩ | h
  · exact .inl (.inr ⟨o, h⟩)
  · exact .inr h
theorem rps_ints : ∀ ns : List Int, Rps K G (ns.map V.int) (ns.map D.int)
  | [] => .nil
  | n :: r => .cons (.int n) (rps_ints r)
section
variable {P : Program} {w : World} {mg : Str → Option Value} {base : Heap}
theorem fnScr {x qual : Str} {params : Arguments} {body : List Stmt} {scope : Scope} {dvs : List V} {kws : List (Str × V)} {f : Addr} {fd : FuncData} {N ps : List Str} {k n : Nat} (F : FunD K x qual params body scope dvs kws f fd) (Sc : FnScope N ps scope) (R : Addr → List Int → DSp)
    (len : ∀ a ns ds S Q E, R a ns ds S Q E → ds.length = ps.length) (hps : ps.length ≤ N.length)
    (hb : ∀ (cdv : Value) (A : Around) (outer : List Env) (s : Shared) (H : Hp) (E : XK) (a : Addr) (ns : List Int), Room k (A.deeper (envOfC qual scope s.heap.objs.size f cdv)) → Fz K H a (ns.map V.int) → ns.length ≤ n → ∃ ts, PDSs (cxOf (L2N.CX P w) P w K mg base N qual scope f cdv A outer s H E) body ts ∧
      ∀ ds S QD XD, R a ns ds S QD XD → ts ⟨fun _ S' => QD .non S', QD, fun _ _ => False, fun _ _ => False, fun x _ S' => XD x S'⟩ (startD N ds) S) : FnOk P w K mg base (L2N.CX P w) (k + 1) f fd ps (spScr K n R) := by
  refine F.ok Sc (fun vs H Q E h => ?_) (fun cdv A outer s H vs Q E hr h => ?_)
  · obtain ⟨a, ns, _, _, _, G, S, ds, QD, XD, _, rs, h, _⟩ := h
    rw [rs.length]; exact len _ _ _ _ _ _ h
  · obtain ⟨a, ns, _, hz, hn, G, S, ds, QD, XD, rl, rs, h, kq, kx⟩ := h
    obtain ⟨ts, p, q⟩ := hb cdv A outer s H E a ns hr hz hn
    refine ⟨liftS K (fun cls d _ H => E cls d H) ts, p.run _ (L2N.takes_of rfl rfl rfl rfl) (passes_of rfl), ⟨G, startD N ds, S, _, startD_rpe rs (by rw [len _ _ _ _ _ _ h]; exact hps), rl, q ds S QD XD h, ?_⟩⟩
    exact ⟨fun G1 H1 S1 σ δ s1 _ q => kq _ _ _ _ _ s1 .non q, fun G1 H1 S1 v d s1 r q => kq _ _ _ _ _ s1 r q, fun _ _ _ _ _ _ _ q => q.elim, fun _ _ _ _ _ _ _ q => q.elim, fun G1 H1 S1 σ δ cls d x s1 _ r q => kx _ _ _ _ _ _ s1 r q⟩
end
section
variable {X : Cx} {e : Expr} {es : List Expr} {pos p p2 : Pos} {k n : Nat} {x : Str} {t : DTA} {f a : Addr} {fd : FuncData} {ps : List Str} {R : Addr → List Int → DSp} {ns : List Int}
def oScr (a : Addr) (ns : List Int) (d : D) (lo hi : Option Int) (S : Sto) (Q : DQ) : Prop := d = .adr a ∧ Q (.lst (cutD (ns.map D.int) lo hi)) S
theorem sl_scr {xs : List V} (hz : Fz X.K X.H_0 a xs) : SlR X (fun x lo hi H Q => x = .ref a ∧ ∀ z, H z = none → Q (.ref z) (upd H z (.lst (cutV xs lo hi)))) := by
  intro pins s σ H x v vl vu lo hi sl Q I rx hs pl pu h
  obtain ⟨rfl, q⟩ := h
  exact sl_list pins s σ H _ v vl vu lo hi sl Q I rx hs pl pu ⟨a, xs, rfl, (hz.inv I).sq, q⟩
theorem de_sliceScr {lo hi : Option Expr} {te : DTE} {tl th : DTO} (hz : Fz X.K X.H_0 a (ns.map V.int)) (hn : ns.length ≤ sizeLine) (he : PD X e te) (hl : PDO X lo tl) (hu : PDO X hi th) : PD X (.Subscript e (.Slice lo hi none p2) pos) (dSl (oScr a ns) te tl th) := ⟨fun W tk => PE.weak (pe_slice (sl_scr hz) (he.run W tk) (hl.run W tk) (hu.run W tk)) (by
  rintro σ H Q ⟨G, δ, S, QD, XD, re, rl, h, kq, kx⟩
  refine ⟨G, δ, S, _, XD, re, rl, h, fun G1 H1 S1 x d s1 rx q => ⟨G1, δ, S1, _, XD, re.mono s1.sg, s1.rel, q, fun G2 H2 S2 l s2 q2 => ⟨G2, δ, S2, _, XD, re.mono (s1.trans s2).sg, s2.rel, q2, fun G3 H3 S3 u s3 q3 => ?_, kx.step (s1.trans s2)⟩, kx.step s1⟩, kx⟩
  have s13 := (s1.trans s2).trans s3
  obtain ⟨rfl, q3⟩ := q3
  cases rx
  refine ⟨rfl, fun z hz => ?_⟩
  obtain ⟨s4, r4⟩ := fz_lst s3.rel hz (cut_rps (rps_ints ns) l u) (Nat.le_trans (cut_len _ _ _) (by rw [List.length_map]; exact hn))
  exact kq _ _ _ _ _ (s13.trans s4) r4 q3)⟩
theorem de_callScr (F : FnOk X.prog X.w X.K X.mg X.base (L2N.CX X.prog X.w) k f fd ps (spScr X.K n R)) (hz : Fz X.K X.H_0 a (ns.map V.int)) (hn : ns.length ≤ n) (hr : Room k X.A) (hg : Gl X x) (hm : X.mg x = some (.ref f)) (hk : PySem.W.keepIn X.K (.ref f) = true) (hb : Binds X.K fd ps [])
    (ha : PDA X (e :: es) t) (hdb : (x == ("__debug__" : Str)) = false := by decide) (he : starEach (e :: es) X.env = (false, eval e X.env) :: starEach es X.env := by rfl) (hpl : (backTo pos (starEach es X.env)).any (·.1) = false := by rfl) :
    PD X (.Call (.Name x p) (e :: es) [] pos) (dCall (fun ds S Q E => ds = [.adr a] ∧ R a ns ds S Q E) [] t) := ⟨fun W tk => ⟨fun pins s σ H Q I h => by
  apply wpAny_Call_Name_kw
  apply ld_glob I hg hm (hd := hdb)
  refine PySem.W.callWith_K (first := []) (h₀ := X.base) I.ok.mod.kin hk ?_ he hpl
  obtain ⟨G, δ, S, QD, XD, re, rl, h, kq, kx⟩ := h
  apply thn ((ha.run W tk).run pos pins s σ H (fun vs H1 => ∃ G1 S1, Stp X.K G H S G1 H1 S1 ∧ vs = [.ref a] ∧ R a ns [.adr a] S1 QD XD) I ⟨G, δ, S, _, XD, re, rl, h, fun G1 H1 S1 vs ds s1 rs q => ?_, kx⟩)
  · rintro us s2 ⟨vs, H2, I2, r, G1, S1, s1, rfl, q2⟩
    refine ⟨I2.kIn, run_fnSD (E := WE W) F hr hb .nil (L2N.passAt tk σ) I2 r ?_⟩
    exact ⟨a, ns, rfl, hz.inv I2, hn, G1, S1, [.adr a], QD, XD, s1.rel, .cons (.adr a) .nil, q2, fun G3 H3 S3 v d s3 r q => kq _ _ _ _ _ (s1.trans s3) r q, fun G3 H3 S3 cls d x s3 r q => kx _ _ _ _ _ _ (s1.trans s3) r q⟩
  · rw [List.append_nil] at q
    obtain ⟨rfl, q⟩ := q
    cases rs with
    | cons r0 rs =>
      cases rs
      cases r0
      exact ⟨G1, S1, s1, rfl, q⟩⟩⟩
end
end SM
namespace SM
open PySem PySem.Spec PyProof.Rows L2
variable {S : Sto}
theorem lc_map {gd : Gd} (hg : gok gd S) {q : Pat} {te : DTE} {δ : DS} {α : Type} {g f : α → D} : ∀ {xs : List α} {Q : List D → Sto → Prop}, (∀ x ∈ xs, ∃ δ2, bindP q (g x) δ = some δ2 ∧ ∀ Q' : DQ, Q' (f x) S → te δ2 S Q' noX) → Q (xs.map f) S → dLcL gd q dYes te δ (xs.map g) S Q
  | [], _, _, h => ⟨hg, h⟩
  | x :: r, Q, hh, h => by
    obtain ⟨δ2, e, t⟩ := hh x (List.mem_cons_self ..)
    rw [List.map_cons, dLcL, e]
    refine ⟨hg, ?_⟩
    show brn true _ _
    rw [brn_t]
    exact t _ (lc_map hg (fun y hy => hh y (List.mem_cons_of_mem _ hy)) h)
theorem lc_filter {gd : Gd} (hg : gok gd S) {q : Pat} {tt : DTT} {te : DTE} {δ : DS} {α : Type} {g f : α → D} {p : α → Bool} : ∀ {xs : List α} {Q : List D → Sto → Prop}, (∀ x ∈ xs, ∃ δ2, bindP q (g x) δ = some δ2 ∧ (∀ Q' : Bool → Sto → Prop, Q' (p x) S → tt δ2 S Q' noX) ∧ (p x = true → ∀ Q' : DQ, Q' (f x) S → te δ2 S Q' noX)) → Q ((xs.filter p).map f) S → dLcL gd q tt te δ (xs.map g) S Q
  | [], _, _, h => ⟨hg, h⟩
  | x :: r, Q, hh, h => by
    obtain ⟨δ2, e, tq, t⟩ := hh x (List.mem_cons_self ..)
    rw [List.map_cons, dLcL, e]
    refine ⟨hg, ?_⟩
    refine tq _ ?_
    by_cases hp : p x = true
    · rw [hp, brn_t]
      rw [List.filter_cons_of_pos hp, List.map_cons] at h
      exact t hp _ (lc_filter hg (Q := fun ds S5 => Q (f x :: ds) S5) (fun y hy => hh y (List.mem_cons_of_mem _ hy)) h)
    · rw [Bool.not_eq_true] at hp
      rw [hp, brn_f]
      rw [List.filter_cons_of_neg (by rw [hp]; decide)] at h
      exact lc_filter hg (fun y hy => hh y (List.mem_cons_of_mem _ hy)) h
abbrev Cell := Int × Int
def once (cs : List Cell) : List Cell := cs.foldl (fun a c => if c ∈ a then a else a ++ [c]) []
theorem pln_prs (n : Nat) (cs : List Cell) : pln (n + 3) (.lst (cs.map pr)) = true := by
  show plns (n + 2) (cs.map pr) = true
  rw [plns_all, List.all_eq_true]
  intro d hd
  obtain ⟨c, _, rfl⟩ := List.mem_map.mp hd
  rfl
theorem eqv_pr (c d : Cell) : PyData.eqv (toP (pr c)) (toP (pr d)) = decide (c = d) := by
  obtain ⟨x, y⟩ := c
  obtain ⟨u, v⟩ := d
  show (decide (x = u) && (decide (y = v) && true)) = _
  by_cases h1 : x = u <;> by_cases h2 : y = v <;> simp [h1, h2]
theorem eqB_prs : ∀ a b : List Cell, eqB (.lst (a.map pr)) (.lst (b.map pr)) = decide (a = b)
  | [], [] => rfl
  | [], _ :: _ => rfl
  | _ :: _, [] => rfl
  | c :: a, d :: b => by
    have ih := eqB_prs a b
    show (PyData.eqv (toP (pr c)) (toP (pr d)) && PyData.eqvAll (toPs (a.map pr)) (toPs (b.map pr))) = _
    have e : PyData.eqvAll (toPs (a.map pr)) (toPs (b.map pr)) = decide (a = b) := ih
    rw [e, eqv_pr]
    by_cases h1 : c = d <;> by_cases h2 : a = b <;> simp [h1, h2]
def blkB (N : List Str) (sc scope : Scope) (own : List (Str × Nat)) : Bool := decide (scope.kind = .function) && (scope.names.all (fun y => decide (scope.names.lookup y.1 = some y.2)) && (own.all (fun p => decide (N[p.2]? = some p.1)) &&
  (scope.names.all (fun y => !decide (y.2 = .free) || (decide (sc.names.lookup y.1 = some .cell) || decide (sc.names.lookup y.1 = some .free))) && scope.names.all (fun y => !(decide (y.2 = .local) || decide (y.2 = .cell)) || (decide (y.1 ∈ own.map (·.1)) || !decide (y.1 ∈ N))))))
theorem blk_of {N : List Str} {sc scope : Scope} {own : List (Str × Nat)} (h : blkB N sc scope own = true) : BlkOk N sc scope own := by
  simp only [blkB, Bool.and_eq_true, List.all_eq_true, Bool.or_eq_true, Bool.not_eq_true', decide_eq_true_eq, decide_eq_false_iff_not] at h
  obtain ⟨h1, h2, h3, h4, h5⟩ := h
  exact ⟨h1, h2, h3, fun y hy e => (h4 y hy).resolve_left fun z => z e, fun y hy e => (h5 y hy).resolve_left fun z => by
    have : ¬ (y.2 = .local ∨ y.2 = .cell) := by simpa [Bool.or_eq_false_iff] using z
    exact this e⟩
theorem lk_map {gd : Gd} {q : Pat} {te : DTE} {δ : DS} {α : Type} {g f : α → D} {xs : List α} {Q : List D → Sto → Prop} (h : ∀ x ∈ xs, ∃ δ2, bindP q (g x) δ = some δ2 ∧ ∀ Q' : DQ, Q' (f x) S → te δ2 S Q' noX) (hq : Q (xs.map f) S) (hg : gok gd S := by first | exact True.intro | assumption | exact su_same) : lcK gd q dYes te δ (xs.map g) S Q := by
  rw [lcK_is]; exact lc_map hg h hq
theorem lk_filter {gd : Gd} {q : Pat} {tt : DTT} {te : DTE} {δ : DS} {α : Type} {g f : α → D} {p : α → Bool} {xs : List α} {Q : List D → Sto → Prop} (h : ∀ x ∈ xs, ∃ δ2, bindP q (g x) δ = some δ2 ∧ (∀ Q' : Bool → Sto → Prop, Q' (p x) S → tt δ2 S Q' noX) ∧ (p x = true → ∀ Q' : DQ, Q' (f x) S → te δ2 S Q' noX)) (hq : Q ((xs.filter p).map f) S) (hg : gok gd S := by first | exact True.intro | assumption | exact su_same) : lcK gd q tt te δ (xs.map g) S Q := by
  rw [lcK_is]; exact lc_filter hg h hq
theorem loop_ofG {gd : Gd} {q : Pat} {tb : DTS} {E : DEnds} {α : Type} {g : α → D} (I : List α → DS → Sto → Prop) (hI : ∀ xs δ S, I xs δ S → gok gd S) (hs : ∀ x r δ S, I (x :: r) δ S → ∃ δ1, bindP q (g x) δ = some δ1 ∧ ∀ N : DS → Sto → Prop, (∀ δ2 S2, I r δ2 S2 → N δ2 S2) → tb { E with nx := N, ct := N, bk := E.nx } δ1 S) (hd : ∀ δ S, I [] δ S → E.nx δ S) :
    ∀ {xs : List α} {δ : DS} {S : Sto}, I xs δ S → loopK gd q tb E (xs.map g) δ S := by
  intro xs δ S h
  rw [loopK_is]
  induction xs generalizing δ S with
  | nil => exact ⟨hI _ _ _ h, hd _ _ h⟩
  | cons x r ih =>
    obtain ⟨δ1, e, t⟩ := hs x r δ S h
    rw [List.map_cons, dLoop, e]
    exact ⟨hI _ _ _ h, t _ fun δ2 S2 i => ih i⟩
theorem loop_of {q : Pat} {tb : DTS} {E : DEnds} {α : Type} {g : α → D} (I : List α → DS → Sto → Prop) (hs : ∀ x r δ S, I (x :: r) δ S → ∃ δ1, bindP q (g x) δ = some δ1 ∧ ∀ N : DS → Sto → Prop, (∀ δ2 S2, I r δ2 S2 → N δ2 S2) → tb { E with nx := N, ct := N, bk := E.nx } δ1 S) (hd : ∀ δ S, I [] δ S → E.nx δ S) {xs : List α} {δ : DS} {S : Sto} (h : I xs δ S) : loopK none q tb E (xs.map g) δ S :=
  loop_ofG (gd := none) I (fun _ _ _ _ => True.intro) hs hd h
section
variable {X : Cx} {e o : Expr} {es : List Expr} {pos p apos : Pos} {k j : Nat} {x m : Str} {t : DTA} {ps : List Str} {R : DSp}
theorem de_g (F : Gf X.prog X.w X.K X.mg X.base k x ps R) (hr : Room j X.A) (hg : Gl X x) (ha : PDA X (e :: es) t) (hkj : k ≤ j := by decide) (hdb : (x == ("__debug__" : Str)) = false := by decide) (he : starEach (e :: es) X.env = (false, eval e X.env) :: starEach es X.env := by rfl) (hpl : (backTo pos (starEach es X.env)).any (·.1) = false := by rfl) :
    PD X (.Call (.Name x p) (e :: es) [] pos) (dCall R [] t) := by
  obtain ⟨f, fd, F, hm, hk, hb⟩ := F.ex
  exact de_call F (hr.mono hkj) hg hm hk hb .nil (fun _ => .nil) ha hdb he hpl
theorem de_mk {fin : DQ → Addr → Sto → Prop} {c : Nat} (hfin : ∀ (Q : DQ) (z : Addr) (G H : Hp) (S : Sto), Rel X.K G H S → fin Q z S → ∃ G' S' d, Stp X.K G H S G' H S' ∧ Rp X.K G' (.ref z) d ∧ Q d S') (F : Gi X.prog X.w X.K X.mg X.base k c x ps R) (hr : Room j X.A) (hg : Gl X x) (ha : PDA X (e :: es) t) (hkj : k + 1 ≤ j := by decide) (hdb : (x == ("__debug__" : Str)) = false := by decide) (he : starEach (e :: es) X.env = (false, eval e X.env) :: starEach es X.env := by rfl) (hpl : (backTo pos (starEach es X.env)).any (·.1) = false := by rfl) :
    PD X (.Call (.Name x p) (e :: es) [] pos) (dMake fin c R [] t) := by
  obtain ⟨f, fd, F, hm, hk, hb⟩ := F.ex
  exact de_make hfin hk F (hr.mono hkj) hg hm hb .nil (fun _ => .nil) ha hdb he hpl
theorem de_gm0 {pl : Sem Bool} {c : Nat} {to : DTE} (ho : PD X o to) (F : Gm X.prog X.w X.K X.mg X.base k c m ps R) (hr : Room j X.A) (hkj : k ≤ j := by decide)
    (ht : eval (.Call (.Attribute o m apos) [] [] pos) X.env = (do
      let ov ← eval o X.env
      standAt apos.atName
      let (f, first) ← holding [ov] (getMethod ov m pl)
      callWith pos f first (backTo pos (starEach [] X.env)) (backToKw pos (keywordEach [] X.env))) := by rfl) :
    PD X (.Call (.Attribute o m apos) [] [] pos) (dMeth c R [] to dNil) := ⟨fun W tk => ⟨fun pins s σ H Q I h => by
  obtain ⟨f, fd, F, M, hb⟩ := F.ex
  obtain ⟨G, δ, S, QD, XD, re, rl, h, kq, kx⟩ := h
  refine PySem.W.methodCall_KW (pl := pl) ?_ ht
  apply thn ((ho.run W tk).run pins s σ H (fun v H1 => ∃ q dx fs, v = .ref q ∧ H1 q = some (.ins (cad X.K c) dx fs) ∧ fs.lookup m = none ∧ toSp X.K R [v] H1 Q (WE W σ)) I ⟨G, δ, S, _, XD, re, rl, h, fun G1 H1 S1 v d s1 rv q => ?_, kx⟩)
  · rintro u s1 ⟨y, H1, I1, rx, q, dx, fs, rfl, eq, l, hq⟩
    obtain rfl : u = Value.ref q := rx
    refine getmeth_ok I1 eq M.cl M.me l ?_
    refine PySem.W.callWith_K0 (first := [.ref q]) I1.kIn M.me.kp ?_
    exact run_fnD (us := [.ref q]) (vs := [.ref q]) F (hr.mono hkj) hb .nil tk I1 (.cons rfl .nil) hq
  · simp only [vwk_is] at q
    split at q
    · rename_i c' fs ex
      obtain ⟨rfl, q⟩ := q
      obtain ⟨z, dx, vs, rfl, hz, rs, _⟩ := vw_ins s1.rel rv ex
      exact ⟨z, dx, _, rfl, hz, lookup_none M.nf, G1, S1, [d], QD, XD, s1.rel, .cons rv .nil, q, fun G3 H3 S3 v d s3 r q => kq _ _ _ _ _ (s1.trans s3) r q, fun G3 H3 S3 cls d x s3 r q => kx _ _ _ _ _ _ (s1.trans s3) r q⟩
    · exact q.elim⟩⟩
end
end SM
namespace SM
open PySem PySem.Spec PyProof.Rows L2
variable {K : PySem.W.Frag} {G G' G2 H H' H2 : Hp} {S S' S2 : Sto}
abbrev oFdiv : R2D := oInt (fun _ j => 0 < j ∧ j < 1073741824) fun i j => .int (i / j)
abbrev oMod : R2D := oInt (fun _ j => 0 < j) fun i j => .int (i % j)
abbrev oPow : R2D := oInt (fun i j => 0 ≤ j ∧ j ≤ 1000000 ∧ i.natAbs < 2 ^ 64) fun i j => .int (i ^ j.toNat)
abbrev oLt : R2D := oInt0 fun i j => .bl (decide (i < j))
abbrev oGt : R2D := oInt0 fun i j => .bl (decide (j < i))
abbrev oGe : R2D := oInt0 fun i j => .bl (decide (j ≤ i))
abbrev dNeg (t : DTE) : DTE := dUn (fun x S Q => match x with | .int i => Q (.int (-i)) S | _ => False) t
abbrev Rd (t : DTS) (N : List Str) (R : DSp) : Prop := ∀ ds S QD XD, R ds S QD XD → t (ends QD XD) (startD N ds) S
abbrev Ln (n : Nat) (R : DSp) : Prop := ∀ ds S Q E, R ds S Q E → ds.length = n
theorem fok_of {fl : Str} : ∀ {tbl : List (Nat × Nat)}, fokB K fl tbl = true → FOk K fl tbl
  | [], _ => fok_nil
  | (c, j) :: r, h => by
    unfold fokB at h
    rw [List.all_cons, Bool.and_eq_true] at h
    obtain ⟨h1, h2⟩ := h
    simp only [Bool.and_eq_true] at h1
    exact fok_cons (He.cls_ok h1.1) (He.noat_ok h1.2.1) (of_decide_eq_true h1.2.2.1) (of_decide_eq_true h1.2.2.2) (fok_of h2)
section
variable {P : Program} {w : World} {mg : Str → Option Value} {base : Heap}
theorem fnT {x qual : Str} {params : Arguments} {body : List Stmt} {scope : Scope} {dvs : List V} {kws : List (Str × V)} {f : Addr} {fd : FuncData} {N ps : List Str} {k : Nat} {R : DSp} {t : DTS} (F : FunD K x qual params body scope dvs kws f fd) (Sc : FnScope N ps scope)
    (len : Ln ps.length R) (rd : Rd t N R) (hd : ∀ (cdv : Value) (A : Around) (outer : List Env) (s : Shared) (H : Hp) (E : XK), Room k (A.deeper (envOfC qual scope s.heap.objs.size f cdv)) → PDSs (cxOf (L2N.CX P w) P w K mg base N qual scope f cdv A outer s H E) body t) (hps : ps.length ≤ N.length := by decide) : FnOk P w K mg base (L2N.CX P w) (k + 1) f fd ps (toSp K R) :=
  fnD F Sc R len hps fun cdv A outer s H E hr => ⟨t, hd cdv A outer s H E hr, rd⟩
end
section
variable {X : Cx} {e o a b : Expr} {es : List Expr} {pos p apos : Pos} {k j : Nat} {x m : Str} {t : DTA} {te : DTE} {ps : List Str} {R : DSp} {c : Nat} {oth : List Nat}
def rScr (a : Addr) (ns : List Int) (R : Addr → List Int → DSp) : DSp := fun ds S Q E => ds = [.adr a] ∧ R a ns ds S Q E
theorem de_gScr {n : Nat} {a : Addr} {ns : List Int} {R : Addr → List Int → DSp} (F : Gz X.prog X.w X.K X.mg X.base k x ps n R) (hz : Fz X.K X.H_0 a (ns.map V.int)) (hn : ns.length ≤ n) (hr : Room j X.A) (hg : Gl X x) (ha : PDA X (e :: es) t) (hkj : k ≤ j := by decide)
    (hdb : (x == ("__debug__" : Str)) = false := by decide) (he : starEach (e :: es) X.env = (false, eval e X.env) :: starEach es X.env := by rfl) (hpl : (backTo pos (starEach es X.env)).any (·.1) = false := by rfl) :
    PD X (.Call (.Name x p) (e :: es) [] pos) (dCall (rScr a ns R) [] t) := by
  obtain ⟨f, fd, F, hm, hk, hb⟩ := F.ex
  exact de_callScr F hz hn (hr.mono hkj) hg hm hk hb ha hdb he hpl
theorem de_gl {v : V} {d : D} {pos : Pos} (hg : Gl X x) (hm : ∃ u, X.mg x = some u ∧ RelV v u) (rd : ∀ G, Rp X.K G v d) (hd : (x == ("__debug__" : Str)) = false := by decide) : PD X (.Name x pos) (dC d) := by
  obtain ⟨u, hm, r⟩ := hm
  exact de_glob hg hm r rd hd
end
end SM
namespace SM
open PySem PySem.Spec PyProof.Rows L2
variable {K : PySem.W.Frag} {G G' G2 H H' H2 : Hp} {S S' S2 : Sto}
@[irreducible] def rLaw (a : Addr) (ns : List Int) : DSp := fun ds S Q _ => ds = [.adr a] ∧ ∀ S', Q (.bl true) S'
theorem len_law (a : Addr) (ns : List Int) : Ln 1 (rLaw a ns) := fun ds S Q E h => by unfold rLaw at h; rw [h.1]; rfl
theorem law_sp {a : Addr} {ns : List Int} (hl : ns.length ≤ 63) (hO : Only H) (hS : SqL K H a (ns.map V.int)) : spScr K 63 rLaw [.ref a] H (fun v _ => v = .bl true) fun _ _ _ => False := by
  refine ⟨a, ns, rfl, Fz.of hO hS, hl, fun _ => none, fun _ => none, [.adr a], fun d _ => d = .bl true, fun _ _ => False, ⟨(fun _ _ h => nomatch h), (fun _ _ h => nomatch h)⟩, .cons (.adr a) .nil, by unfold rLaw; exact ⟨rfl, fun _ => rfl⟩, fun G' H' S' v d _ r q => ?_, fun _ _ _ _ _ _ _ _ z => z⟩
  subst q
  cases r
  rfl
theorem law_noX {P : Program} {w : World} {H : Hp} {s s' : Shared} {e : Value} (z : L2N.CX P w [] H s (fun _ _ _ => False) e s') : False := by
  obtain ⟨_, _, _, _, _, _, _, _, _, _, _, _, z⟩ := z
  exact z
theorem walk_law {l : PySem.W.OpenLaw} {k : Nat} {q : Program} {loose : List Str} {XP : (Str → Option Value) → Heap → Prop} {YP : World → Heap → Prop} {d : DefRec} {x : Str} (hn : l.most = some 63) (hdf : d.params.defaults = []) (hr : Room k callerA)
    (F : ∀ (w : World) (mg : Str → Option Value) (fa : Addr) (h : Heap), YP w h → h.Ns mainGlobals mg → mg d.name = some (.ref fa) → ∃ (K : PySem.W.Frag) (fd : FuncData), K.In h ∧ (∀ (s : Shared) (u : Value), BindsTo s fd ⟨[u], []⟩ [(x, u)]) ∧
      ∀ base : Heap, K.In base → base.Ns mainGlobals mg → FnOk l.prog w K mg base (L2N.CX l.prog w) k fa fd [x] (spScr K 63 rLaw)) :
    PySem.W.WalkO q loose XP YP l.row.toRowW d [] (fun f vs => PySem.call f vs) := by
  refine Att.attach_call hn hdf fun w s0 s1 mg mb fa o pm cd doc a vs ns G Y ho hd hcd hmg hobj hints hlen hg => ?_
  obtain ⟨K, fd, KX, hb, hF⟩ := F w mg fa _ Y G.T.g hmg
  exact law_call KX G.T.g G.T.b G.T.builtins G.T.nolimit hg hobj hints (Nat.le_trans hlen (by decide)) hr hF hb (fun H hO hS => law_sp hlen hO hS) fun H e s' => law_noX
theorem gint_of {u : Option Value} {i : Int} (h : ∃ t, u = some (.int i t)) : ∃ v, u = some v ∧ RelV (.int i) v := by
  obtain ⟨t, h⟩ := h
  exact ⟨_, h, _, rfl⟩
theorem gstr_of {u : Option Value} {i : Str} (h : ∃ t, u = some (.str i t)) : ∃ v, u = some v ∧ RelV (.str i) v := by
  obtain ⟨t, h⟩ := h
  exact ⟨_, h, _, rfl⟩
section
variable {P : Program} {w : World} {mg : Str → Option Value} {base : Heap}
end
end SM
namespace SM
open PySem PySem.Spec PyProof.Rows L2
variable {K : PySem.W.Frag} {G G' G2 H H' H2 : Hp} {S S' S2 : Sto}
section
variable {X : Cx} {e o a b : Expr} {es : List Expr} {pos p apos : Pos} {k j : Nat} {x m : Str} {t : DTA} {te ta tb : DTE} {ps : List Str} {R : DSp} {c : Nat} {f : Addr} {fd : FuncData} {A : Around} {pins : List (Addr × Obj)} {σ : L2.St} {s : Shared} {W : WX}
end
end SM
namespace SM
open PySem PySem.Spec PyProof.Rows L2 TL
variable {K : PySem.W.Frag} {G G' G2 H H' H2 : Hp} {S S' S2 : Sto}
theorem okS_iff {s : Str} : okS s ↔ s.length ≤ sizeLine ∧ ∀ c ∈ s.cps.toList, c < 1114112 := by
  unfold okS PyData.strOk
  rw [Array.all_eq_true_iff_forall_mem]
  simp
theorem len_tl (s : Str) : s.length = (tl s).length := by show s.cps.size = s.cps.toList.length; simp
theorem joinL_mem {S : List Nat} : ∀ {l : List (List Nat)} {c : Nat}, c ∈ joinL S l → c ∈ S ∨ ∃ p ∈ l, c ∈ p
  | [], _, h => by simp [joinL] at h
  | [p], _, h => .inr ⟨p, by simp, h⟩
  | p :: q :: r, c, h => by
    simp only [joinL, List.mem_append] at h
    rcases h with h | h | h
    · exact .inr ⟨p, by simp, h⟩
    · exact .inl h
    · rcases joinL_mem h with h | ⟨z, hz, h⟩
      · exact .inl h
      · exact .inr ⟨z, List.mem_cons_of_mem _ hz, h⟩
theorem joinL_len {S : List Nat} : ∀ {l : List (List Nat)}, (joinL S l).length ≤ (l.map (·.length)).sum + l.length * S.length
  | [] => by simp [joinL]
  | [p] => by simp [joinL]
  | p :: q :: r => by
    have := joinL_len (S := S) (l := q :: r)
    simp only [joinL, List.length_append, List.map_cons, List.sum_cons, List.length_cons] at *
    have e : (r.length + 1 + 1) * S.length = (r.length + 1) * S.length + S.length := by rw [Nat.add_mul (r.length + 1) 1, Nat.one_mul]
    omega
theorem okS_join {y : Str} {l : List Str} (hy : okS y) (hl : ∀ s ∈ l, okS s) (hz : (l.map (·.length)).sum + l.length * y.length ≤ 16777216) : okS (Txt.join y l) := by
  rw [join_eq, okS_iff]
  have e : (Str.join y l).cps.toList = joinL (tl y) (l.map tl) := tl_join y l
  refine ⟨?_, fun c hc => ?_⟩
  · show (Str.join y l).cps.size ≤ _
    rw [← Array.length_toList, e, sizeLine_eq]
    refine Nat.le_trans joinL_len (Nat.le_trans (Nat.le_of_eq ?_) hz)
    rw [List.map_map, List.length_map, ← len_tl]
    congr 2
  · rw [e] at hc
    rcases joinL_mem hc with h | ⟨p, hp, h⟩
    · exact (okS_iff.mp hy).2 c h
    · obtain ⟨s, hs, rfl⟩ := List.mem_map.mp hp
      exact (okS_iff.mp (hl s hs)).2 c h
theorem okS_int {i : Int} (h : i.natAbs.log2 < 1920) : okS (toString i) := by
  have hl : (Str.ofString (toString i)).length ≤ sizeLine := int_text_fits h
  rw [okS_iff]
  refine ⟨hl, fun c hc => ?_⟩
  have e : (Str.ofString (toString i)).cps.toList = (toString i).toList.map Char.toNat := by rw [Str.ofString_eq_toList]
  replace hc : c ∈ (Str.ofString (toString i)).cps.toList := hc
  rw [e] at hc
  obtain ⟨z, _, rfl⟩ := List.mem_map.mp hc
  have := z.valid
  have h2 : z.toNat.isValidChar := this
  unfold Nat.isValidChar at h2
  omega
section
variable {X : Cx} {e o a b : Expr} {es : List Expr} {pos p apos : Pos} {k j : Nat} {x m : Str} {t : DTA} {te ta tb : DTE} {ps : List Str} {R : DSp} {c : Nat} {W : WX}
def strD (d : D) (S : Sto) (Q : DQ) : Prop := match d with
  | .int i => i.natAbs.log2 < 1920 ∧ Q (.str (toString i)) S
  | .str s => Q (.str s) S
  | _ => False
theorem c_str : CallR X (.type "str") (liftC X.K (on1 strD)) := CallR.weak (CallR.or call_str_int SkE.call_str_str) (by
  rintro vs H Q ⟨G, S, ds, QD, rl, rs, h, kq⟩
  obtain ⟨d, v, rfl, rfl, rx, h⟩ := on1_of h rs
  cases rx with
  | int i => exact .inl ⟨i, rfl, h.1, kq _ _ _ _ _ (Stp.refl rl) (.str (okS_int h.1)) h.2⟩
  | str hs => exact .inr ⟨_, rfl, kq _ _ _ _ _ (Stp.refl rl) (.str hs) h⟩
  | _ => exact h.elim)
def joinD : RCD := fun ds S Q => match ds with
  | [.str y, d] => vwk S d fun d' => (match d' with
    | .lst l => (match strsD l with
      | some ys => (ys.map (·.length)).sum + ys.length * y.length ≤ 16777216 ∧ Q (.str (Txt.join y ys)) S
      | none => False)
    | _ => False)
  | _ => False
theorem m_join : MtR X "str.join" (liftM X.K joinD) := MtR.weak mt_join (by
  rintro x xs H Q ⟨G, S, ds, QD, rl, rs, h, kq⟩
  unfold joinD at h
  split at h
  · rename_i y d
    cases rs with
    | cons r1 r2 =>
    cases r2 with
    | cons r2 r3 =>
    cases r3
    cases r1 with
    | str hy =>
    rw [vwk_is] at h
    split at h
    · rename_i l ed
      split at h
      · rename_i ys el
        obtain ⟨a, vs, rfl, ha, rv, _⟩ := vw_lst rl r2 ed
        obtain ⟨rfl, hok⟩ := strsD_rps rv el
        exact ⟨y, a, ys, rfl, rfl, .inl (SqL.of ha), h.1, kq _ _ _ _ _ (Stp.refl rl) (.str (okS_join hy hok h.1)) h.2⟩
      · exact h.elim
    · exact h.elim
  · exact h.elim)
end
end SM
namespace PySem.W
open PySem
section
variable {prog : Program} {w : World} {A : Around} {E : Value → Shared → Prop} {s : Shared} {K : Frag} {x C L f : Addr} {h₀ : Heap} {m : Str → Option Value} {ox : Obj} {od : Option Obj}
end
end PySem.W
namespace SM
open PySem PySem.Spec PyProof.Rows L2
variable {K : PySem.W.Frag} {G G' G2 H H' H2 : Hp} {S S' S2 : Sto}
section
variable {X : Cx} {e o a b : Expr} {es : List Expr} {pos p apos : Pos} {k j : Nat} {x m : Str} {t : DTA} {te ta tb : DTE} {ps : List Str} {R : DSp} {c : Nat} {W : WX}
end
end SM
namespace SM
open PySem PySem.Spec PyProof.Rows L2
variable {K : PySem.W.Frag} {G G' G2 H H' H2 : Hp} {S S' S2 : Sto}
section
variable {X : Cx} {e o a b : Expr} {es : List Expr} {pos p apos : Pos} {k j : Nat} {x m : Str} {t : DTA} {te ta tb : DTE} {ps : List Str} {R : DSp} {c : Nat} {W : WX}
def fzD (d : D) (S : Sto) (Q : DQ) : Prop := match d with
  | .adr a => ownk S a fun oo => (match oo with
    | some (.lst ds) => Q (.lst ds) (sd S a)
    | some (.dT ds) => Q (.dT ds) (sd S a)
    | some (.ins c ds) => Q (.ins c ds) (sd S a)
    | some (.dF _ _ _) => False
    | none => False)
  | d => Q d S
def dFz (te : DTE) : DTE := fun δ S Q X => te δ S (fun d S1 => fzD d S1 Q) X
theorem de_fz (h : PD X e te) : PD X e (dFz te) := ⟨fun W tk => PE.weak (h.run W tk) (by
  rintro σ H Q ⟨G, δ, S, QD, XD, re, rl, h, kq, kx⟩
  refine ⟨G, δ, S, _, XD, re, rl, h, fun G1 H1 S1 v d s1 rv q => ?_, kx⟩
  cases rv with
  | adr a =>
    simp only [fzD, ownk_is] at q
    split at q
    · rename_i ds e
      obtain ⟨G', s2, r2⟩ := frz_lst s1.rel e
      exact kq _ _ _ _ _ (s1.trans s2) r2 q
    · rename_i ds e
      obtain ⟨G', s2, r2⟩ := frz_dT s1.rel e
      exact kq _ _ _ _ _ (s1.trans s2) r2 q
    · rename_i c ds e
      obtain ⟨G', s2, r2⟩ := frz_ins s1.rel e
      exact kq _ _ _ _ _ (s1.trans s2) r2 q
    · exact q.elim
    · exact q.elim
  | non => exact kq _ _ _ _ _ s1 .non q
  | bl b => exact kq _ _ _ _ _ s1 (.bl b) q
  | int b => exact kq _ _ _ _ _ s1 (.int b) q
  | str b => exact kq _ _ _ _ _ s1 (.str b) q
  | ty b => exact kq _ _ _ _ _ s1 (.ty b) q
  | tup a b c => exact kq _ _ _ _ _ s1 (.tup a b c) q
  | lst a b c => exact kq _ _ _ _ _ s1 (.lst a b c) q
  | dT a b => exact kq _ _ _ _ _ s1 (.dT a b) q
  | ins a b c => exact kq _ _ _ _ _ s1 (.ins a b c) q
  | cls c h => exact kq _ _ _ _ _ s1 (.cls c h) q
  | exn0 c => exact kq _ _ _ _ _ s1 (.exn0 c) q
  | exn a b c d => exact kq _ _ _ _ _ s1 (.exn a b c d) q)⟩
end
theorem slen_app (x y : Str) : (x ++ y).length = x.length + y.length := by
  show (x.cps ++ y.cps).size = x.cps.size + y.cps.size
  rw [Array.size_append]
theorem sempty_app (x : Str) : Str.empty ++ x = x := by
  show (⟨#[] ++ x.cps⟩ : Str) = x
  rw [Array.empty_append]
theorem strsD_map {α : Type} (f : α → Str) : ∀ l : List α, strsD (l.map fun c => .str (f c)) = some (l.map f)
  | [] => rfl
  | c :: r => by rw [List.map_cons, strsD, strsD_map f r]; rfl
theorem sum_le {α : Type} (f : α → Nat) (n : Nat) : ∀ l : List α, (∀ x ∈ l, f x ≤ n) → (l.map f).sum ≤ l.length * n
  | [], _ => by simp
  | x :: r, h => by
    have h1 := sum_le f n r fun y hy => h y (List.mem_cons_of_mem _ hy)
    have h2 := h x (List.mem_cons_self ..)
    rw [List.map_cons, List.sum_cons, List.length_cons, Nat.add_mul, Nat.one_mul]
    omega
theorem fz_new {S : Sto} {p : Addr} {ds : List D} {Q : DQ} (h : S p = none) (q : Q (.lst ds) S) : fzD (.adr p) (su S p (.lst ds)) Q := by
  refine ok_o su_same ?_
  show Q (.lst ds) (sd (su S p (.lst ds)) p)
  rw [sd_su_new h]
  exact q
end SM
namespace SM
open PySem PySem.Spec PyProof.Rows L2
variable {K : PySem.W.Frag} {G G' G2 H H' H2 : Hp} {S S' S2 : Sto}
section
variable {P : Program} {w : World} {mg : Str → Option Value} {base : Heap} {qual : Str} {params : Arguments} {scope : Scope} {f : Addr} {fd : FuncData} {c : Nat} {x y : Str} {p1 p2 p3 p4 q1 q2 q3 q4 : Pos}
theorem fnE1 (F : FunD K "__init__" qual params [.Assign [.Attribute (.Name "self" p1) x p2] (.Name x p3) p4] scope [] [] f fd) (Sc : FnScope ["self", x] ["self", x] scope) (T : OexC K (cad K c)) (n1 : PySem.W.findIn K (.ref (cad K c)) x = some none)
    (d1 : (x == ("__debug__" : Str)) = false := by decide) (d2 : (x == ("__classdict__" : Str)) = false := by decide) : FnOk P w K mg base (L2N.CX P w) 1 f fd ["self", x] (spE (cad K c) [x]) := by
  refine F.ok Sc (fun vs H Q E h => ?_) (fun cdv A outer s H vs Q E hr h => ?_)
  · obtain ⟨a, ws, rfl, hl, _⟩ := h
    simp only [List.length_cons, hl, List.length_nil]
  · have v0 := Sc.par "self" (by simp)
    have v1 := Sc.par x (by simp)
    refine ⟨_, pss_one (ps_ost (pe_var (i := 0) rfl (by rcases v0 with h | h; exact .inl h; exact .inr (.inl h)) (by decide) (by decide)) (pe_var (i := 1) rfl (by rcases v1 with h | h; exact .inl h; exact .inr (.inl h)) d1 d2)), ?_⟩
    obtain ⟨a, ws, rfl, hl, ha, q⟩ := h
    match ws, hl with
    | [v], _ =>
      refine ⟨v, rfl, .ref a, rfl, a, _, rfl, T, n1, .inl ⟨ha, fun dx hn hne => ?_⟩⟩
      refine q _ dx [(x, v)] upd_same (by rw [upd_ne hne, upd_same]) hn hne (fun b h1 h2 => by rw [upd_ne h1, upd_ne h2]) fun j fl u hj hv => ?_
      match j, hj, hv with
      | 0, hj, hv =>
        simp at hj hv
        subst hj hv
        simp
end
theorem cx_no {P : Program} {w : World} {outer : List Env} {H : Hp} {s s' : Shared} {e : Value} (z : L2N.CX P w outer H s (fun _ _ _ => False) e s') : False := by
  obtain ⟨_, _, _, _, _, _, _, _, _, _, _, _, z⟩ := z
  exact z
theorem pmkN {X : Cx} {CX : CXT} {x : Str} {C fI : Addr} {k : Nat} {fd : FuncData} {ps : List Str} {sp : Sp} {e : Expr} {es : List Expr} {ta : TA} {p pos : Pos} (T : OexC X.K C) (iC : PySem.W.findIn X.K (.ref C) "__init__" = some (some (.ref fI)))
    (tI : PySem.W.typeIn X.K (.ref fI) = some (.type "function")) (F1 : FnOk X.prog X.w X.K X.mg X.base CX k fI fd ps sp) (hr : Room (k + 1) X.A) (hb : Binds X.K fd ps []) (hx : Passes CX X (fun _ _ _ => False)) (hg : Gl X x) (hm : X.mg x = some (.ref C)) (ha : PA X (e :: es) ta)
    (hdb : (x == ("__debug__" : Str)) = false := by decide) (he : starEach (e :: es) X.env = (false, eval e X.env) :: starEach es X.env := by rfl) (hpl : (backTo pos (starEach es X.env)).any (·.1) = false := by rfl) :
    L2N.PMk X (.Call (.Name x p) (e :: es) [] pos) (tMkO C sp [] ta) := by
  intro pins s σ H Q I h
  obtain ⟨nm, q, N, bs, bm, sn, sub, ab, col, dd, k0, k1, k2, k3, k5, hC, hbm⟩ := T.cls
  refine wpAny_Call_Name_kw (ld_glob I hg hm ?_ hdb)
  refine PySem.W.callWith_K (h₀ := X.base) I.ok.mod.kin T.kC (thn (ha.run pos pins s σ H _ I h) ?_) he hpl
  rintro us s1 ⟨vs, H1, I1, r1, hz, q1⟩
  refine ⟨I1.kIn, ?_⟩
  show wpAny _ _ (call (.ref C) us) _ _ _
  obtain ⟨hp, g, dr, tk, os⟩ := s1
  generalize hn1 : hp.objs.size + 1 = n1
  have hsz : hp.objs.size ≤ n1 := by omega
  have hq := q1 n1 (I1.hok.fresh hsz)
  rw [List.append_nil] at hq
  generalize hh2 : (hp.push (PySem.W.kdv_tup us)).push (PySem.HandSPX.excO C hp.objs.size) = hp2
  have kk : ∀ b o, hp.get? b = some o → hp2.get? b = some o := by
    subst hh2
    exact fun b o e => Heap.get?_push_of_some _ (Heap.get?_push_of_some _ e)
  have hget : hp2.get? n1 = some (PySem.HandSPX.excO C hp.objs.size) := by
    subst hh2 hn1
    heap_get
  have I2 : Inv X pins σ (upd H1 n1 (exo n1 C none)) ⟨hp2, g, dr, tk, os⟩ := I1.laid (t' := tk) kk hsz (exo_ok hget)
  have r2 : Vals (V.ref n1 :: vs) (Value.ref n1 :: us) := .cons rfl r1
  have hl : (Value.ref n1 :: us ++ []).length = ps.length := by
    rw [List.append_nil, ← r2.length]
    exact F1.len _ _ _ _ hq
  have hus : us.length ≤ sizeLine := by
    rw [← Paired.length r1, sizeLine_eq]
    omega
  subst hh2 hn1
  refine wpAny_call (PySem.HandSPX.call_own F.excBase_ValueError (fun Y => PySem.HandSPX.refsVE_contains Y bm hbm) (I1.kIn _ _ hC) (PySem.W.looks_findIn I1.kIn iC) (fun self => PySem.W.bind_fn I1.kIn self tI) hus ?_)
  refine codeAny_mono (F1.run _ X.stack _ _ ⟨_ :: us, []⟩ (Value.ref (hp.objs.size + 1) :: us ++ []) _ _ (fun _ _ _ => False) (hr.make C us []) (I2.env0.make C us []) (hb _ (_ :: us) I2.kIn hl) (by rw [List.append_nil]; exact r2) hq) ?_
  intro r s' hq'
  match r, hq' with
  | .error er, hq' => exact hx pins σ _ _ er s' I2 hq'
  | .ok (.ret u), hq' =>
    obtain ⟨v, H2, os2, bare2, un2, hok2, rv, ev, d, fs, ea, ed, hd1, q2⟩ := hq'
    subst ev
    obtain ⟨h2, g2, d2, t2, os'⟩ := s'
    obtain ⟨t0, G, J, kG, ge, hoe, na⟩ := mk_end0 (d2 := d2) (t2 := t2) I1 hsz kk un2 hok2 os2 bare2 ea ed hd1
    refine ⟨rv, _, _, _, ⟨G, g2, d2, t2, os'⟩, _, .ref C, some d, rfl, J, kG, ge, hoe, ⟨rfl, rfl, fun vs e => ?_⟩, rfl, rfl, na, rfl, bare2, raises_own T.exC T.tyC, q2⟩
    cases e
    rfl
section
variable {X : Cx} {e : Expr} {es : List Expr} {pos p pos' : Pos} {k j : Nat} {x : Str} {t : DTA} {c : Nat} {W : WX}
def dRaise (c : Nat) (t : DTA) : DTS := fun E δ S => t δ S (fun ds S1 => ds.length = (cfs c).length ∧ E.xc ⟨c, ds⟩ δ S1) (fun x S1 => E.xc x δ S1)
theorem ds_raise (F : Gx X.prog X.w X.K X.mg X.base c x) (hr : Room j X.A) (hc : X.calm = true) (hg : Gl X x) (ha : PDA X (e :: es) t) (hkj : 2 ≤ j := by decide) (hl9 : (cfs c).length ≤ 900 := by decide) (hdb : (x == ("__debug__" : Str)) = false := by decide) (he : starEach (e :: es) X.env = (false, eval e X.env) :: starEach es X.env := by rfl) (hpl : (backTo pos (starEach es X.env)).any (·.1) = false := by rfl) :
    PDS X (.Raise (some (.Call (.Name x p) (e :: es) [] pos)) none pos') (dRaise c t) := ⟨fun W tk po => by
  obtain ⟨f, fd, ps, F1, T, iC, tI, hb, hm⟩ := F.ex
  refine PS.weak (L2N.ps_raise hc tk (pmkN T iC tI F1 (hr.mono hkj) hb (fun pins σ H s e s' I z => (cx_no z).elim) hg hm (ha.run W tk) hdb he hpl)) ?_
  rintro D σ H ⟨G, δ, S, E, re, rl, h, er⟩
  refine ⟨G, δ, S, _, _, re, rl, h, fun G1 H1 S1 vs ds s1 rs q => ?_, er.kx re⟩
  obtain ⟨hl, q⟩ := q
  refine ⟨by rw [rs.length, hl]; omega, fun a na => ?_⟩
  rw [List.append_nil]
  refine ⟨a, vs, rfl, by rw [rs.length, hl], upd_same, fun H' d fs h1 h2 hn hne hk hlk => ⟨rfl, d, fs, h1, h2, by rw [upd_ne hne] at hn; exact hn, ?_⟩⟩
  have hn1 : H1 d = none := by rw [upd_ne hne] at hn; exact hn
  have eH : upd (del H' a) d (.xd fs) = upd H1 d (.xd fs) := by
    funext b
    by_cases hb1 : b = d
    · subst hb1; rw [upd_same, upd_same]
    · rw [upd_ne hb1, upd_ne hb1]
      by_cases hb2 : b = a
      · subst hb2; rw [del_same, na]
      · rw [del_ne hb2, hk b hb2 hb1, upd_ne hb2]
  rw [eH]
  have s2 : Stp X.K G1 H1 S1 (upd G1 d (.xd fs)) (upd H1 d (.xd fs)) S1 := Stp.newF s1.rel hn1
  exact er.xc _ _ _ σ δ _ _ ⟨c, ds⟩ (s1.trans s2) ((re.mono s1.sg).mono s2.sg) ⟨rfl, .inr ⟨d, fs, vs, rfl, upd_same, rs.mono s2.sg, hl, hlk⟩⟩ q⟩
end
end SM
namespace PySem.W
open PySem
section
variable {prog : Program} {w : World} {M : Model} {A : Around} {E : Value → Shared → Prop} {s : Shared} {K : Frag} {x C L f : Addr} {h₀ : Heap} {m : Str → Option Value} {ox : Obj} {od : Option Obj} {nm : String}
end
end PySem.W
namespace SM
open PySem PySem.Spec PyProof.Rows L2
variable {K : PySem.W.Frag} {G G' G2 H H' H2 : Hp} {S S' S2 : Sto}
section
variable {X : Cx} {e o a b : Expr} {es : List Expr} {pos p pos' p1 p2 p3 : Pos} {k j : Nat} {x m : Str} {t : DTA} {te ta tb : DTE} {ps : List Str} {R : DSp} {c : Nat} {W : WX}
def dRev (te : DTE) : DTE := fun δ S Q X => te δ S (fun x S1 => vwk S1 x fun x' => match x' with
  | .lst l => Q (.lst l.reverse) S1
  | _ => False) X
theorem de_rev {kk : Nat} (h : PD X e te) : PD X (.Subscript e (.Slice none none (some (.UnaryOp .USub (.Constant (.int 1) kk p1) p2)) p3) pos) (dRev te) := ⟨fun W tk => PE.weak (pe_revL (h.run W tk)) (by
  rintro σ H Q ⟨G, δ, S, QD, XD, re, rl, h, kq, kx⟩
  refine ⟨G, δ, S, _, XD, re, rl, h, fun G1 H1 S1 v d s1 rv q => ?_, kx⟩
  rw [vwk_is] at q
  split at q
  · rename_i l ed
    obtain ⟨a, vs, rfl, ha, rs, hl⟩ := vw_lst s1.rel rv ed
    refine ⟨a, vs, rfl, SqL.of ha, fun p hp => ?_⟩
    obtain ⟨s2, r2⟩ := fz_lst s1.rel hp rs.reverse (by rw [List.length_reverse]; exact hl)
    exact kq _ _ _ _ _ (s1.trans s2) r2 q
  · exact q.elim)⟩
end
end SM
namespace SM
open PySem PySem.Spec PyProof.Rows L2
variable {K : PySem.W.Frag} {G G' G2 H H' H2 : Hp} {S S' S2 : Sto}
section
variable {X : Cx} {e a b : Expr} {p pos tpos : Pos} {elts : List Expr} {kk : Nat} {t : DTA}
end
end SM
namespace SM
open PySem PySem.Spec PyProof.Rows L2
variable {K : PySem.W.Frag} {G G' G2 H H' H2 G0 H0 : Hp} {S S' S2 S0 : Sto}
section
variable {W : WX}
end
section
variable {X : Cx} {elt tg iter tg1 iter1 : Expr} {ifs ifs1 : List Expr} {scope : Scope} {own : List (Str × Nat)} {vs1 : List Nat} {ti ti1 : DTI} {q q1 : Pat} {tt tt1 : DTT} {te : DTE} {pos : Pos}
end
end SM
namespace SM
open PySem PySem.Spec PyProof.Rows L2
variable {K : PySem.W.Frag} {G G' G2 H H' H2 : Hp} {S S' S2 : Sto}
section
variable {X : Cx} {e o : Expr} {es : List Expr} {pos p apos : Pos} {W : WX} {k j i : Nat} {x m : Str} {t : DTA} {te : DTE} {ps : List Str} {R : DSp} {c : Nat} {g C : Addr} {pins : List (Addr × Obj)} {σ : L2.St} {s : Shared}
def dMakeL (i : Nat) (fin : DQ → Addr → Sto → Prop) (c : Nat) (R : DSp) (t : DTA) : DTE := fun δ S Q X => match nth δ i with
  | some (.cls c') => c' = c ∧ dMake fin c R [] t δ S Q X
  | _ => False
theorem de_mkL {fin : DQ → Addr → Sto → Prop} (hfin : ∀ (Q : DQ) (z : Addr) (G H : Hp) (S : Sto), Rel X.K G H S → fin Q z S → ∃ G' S' d, Stp X.K G H S G' H S' ∧ Rp X.K G' (.ref z) d ∧ Q d S') {y : Str} (F : Gi X.prog X.w X.K X.mg X.base k c y ps R) (hr : Room j X.A) (ha : PDA X (e :: es) t) (hN : X.N[i]? = some x := by rfl)
    (hv : Vis X.env.scope x := by first | exact Or.inl rfl | exact Or.inr (Or.inl rfl) | exact Or.inr (Or.inr rfl)) (hkj : k + 1 ≤ j := by decide) (hdb : (x == ("__debug__" : Str)) = false := by decide) (hcd : (x == ("__classdict__" : Str)) = false := by decide) (he : starEach (e :: es) X.env = (false, eval e X.env) :: starEach es X.env := by rfl) (hpl : (backTo pos (starEach es X.env)).any (·.1) = false := by rfl) :
    PD X (.Call (.Name x p) (e :: es) [] pos) (dMakeL i fin c R t) := ⟨fun W tk => ⟨fun pins s σ H Q I h => by
  obtain ⟨f, fd, F1, hm, M, hb⟩ := F.ex
  obtain ⟨G, δ, S, QD, XD, re, rl, h, kq, kx⟩ := h
  unfold dMakeL at h
  split at h
  · rename_i c' en
    obtain ⟨rfl, h⟩ := h
    obtain ⟨v, hs, rv⟩ := re.at_ i _ en
    cases rv with
    | cls _ ea =>
    subst ea
    refine wpAny_Call_Name_kw (thn ((pe_var (pos := p) hN hv hdb hcd).run pins s σ H (fun v H1 => v = .ref (cad X.K c') ∧ H1 = H) I ⟨.ref (cad X.K c'), hs, rfl, rfl⟩) fun u s0 hu => ?_)
    obtain ⟨v, H0, I0, r0, ev, eH⟩ := hu
    subst ev eH
    obtain rfl : u = Value.ref (cad X.K c') := r0
    refine PySem.W.callWith_K (h₀ := X.base) I.ok.mod.kin M.kp ?_ he hpl
    apply thn ((ha.run W tk).run pos pins s0 σ H0 (fun vs H1 => ∀ z dx, H1 z = none → H1 dx = none → dx ≠ z → toSp X.K R (.ref z :: (vs ++ [])) (upd (upd H1 dx (.own z)) z (.ins (cad X.K c') dx [])) (fun v H2 => v = .non ∧ Q (.ref z) H2) (WE W σ)) I0 ⟨G, δ, S, _, XD, re, rl, h, fun G1 H1 S1 vs ds s1 rs q => make_sp (dvs := []) hfin (fun _ => .nil) s1.rel rs q (fun G2 H2 S2 v d s2 rv q2 => kq _ _ _ _ _ (s1.trans s2) rv q2) (kx.step s1), kx⟩)
    rintro us s1 ⟨vs, H1, I1, r, q⟩
    exact ⟨I1.kIn, run_makeD M F1 (hr.mono hkj) hb .nil tk I1 r q⟩
  · exact h.elim⟩⟩
end
theorem cread_of {c : Nat} (h : creadB K c = true) : ClX.CRead K (cad K c) (.type "type") := by
  unfold creadB at h
  rw [Bool.and_eq_true] at h
  exact ⟨h.1, of_decide_eq_true h.2⟩
theorem cm_of {c : Nat} {m : Str} (h : cmB K c m = true) : ClX.CRead K (cad K c) (.type "type") ∧ ClX.CMet K (cad K c) (.type "type") m (cmP K (cad K c) m) (cmAd K (cad K c) m) := by
  unfold cmB at h
  simp only [Bool.and_eq_true] at h
  obtain ⟨h1, h2, h3, h4⟩ := h
  refine ⟨cread_of h1, ?_, ?_, h2⟩
  · split at h4
    · rename_i b p C e
      simp only [Bool.and_eq_true, decide_eq_true_eq] at h4
      obtain ⟨rfl, rfl⟩ := h4
      have ep : cmP K (cad K c) m = p := by unfold cmP; rw [e]
      rw [ep]
      exact e
    · cases h4
  · split at h3
    · rename_i g rest e
      have eg : cmAd K (cad K c) m = g := by unfold cmAd; rw [e]
      rw [eg]
      exact ⟨rest, e⟩
    · cases h3
section
variable {X : Cx}
def splitD : RCD := fun ds S Q => match ds with
  | [.str a, .str b] => ((b.length == 0) = false ∧ a.length + 2 ≤ sizeLine) ∧ ((∀ s ∈ Txt.split a b, okS s) ∧ (Txt.split a b).length ≤ sizeLine) ∧ Q (.lst ((Txt.split a b).map D.str)) S
  | _ => False
theorem rps_strs : ∀ {l : List Str}, (∀ s ∈ l, okS s) → Rps K G (l.map V.str) (l.map D.str)
  | [], _ => .nil
  | s :: r, h => .cons (.str (h s (List.mem_cons_self ..))) (rps_strs fun z hz => h z (List.mem_cons_of_mem _ hz))
theorem m_split : MtR X "str.split" (liftM X.K splitD) := MtR.weak mt_split (by
  rintro x xs H Q ⟨G, S, ds, QD, rl, rs, h, kq⟩
  unfold splitD at h
  split at h
  · rename_i a b
    cases rs with
    | cons r1 r2 =>
    cases r2 with
    | cons r2 r3 =>
    cases r3
    cases r1 with
    | str ha =>
    cases r2 with
    | str hb =>
    obtain ⟨⟨h1, h2⟩, ⟨h3, h4⟩, q⟩ := h
    refine ⟨a, b, rfl, rfl, h1, h2, fun p hp => ?_⟩
    obtain ⟨s2, r2⟩ := fz_lst rl hp (rps_strs (K := X.K) (G := G) h3) (by rw [List.length_map]; exact h4)
    exact kq _ _ _ _ _ s2 r2 q
  · exact h.elim)
end
end SM
namespace SM
open PySem PySem.Spec PyProof.Rows L2
variable {K : PySem.W.Frag} {G G' G2 H H' H2 : Hp} {S S' S2 : Sto}
theorem ik_0 {α : Type} {x : α} {l : List α} {kk : α → Prop} (q : kk x) : itk (x :: l) 0 kk := itk_of (atI_nat (j := 0) (xs := x :: l) (v := x) rfl) q
theorem oex_of {c : Nat} (h : oexB K c = true) : OexC K (cad K c) := by
  unfold oexB at h
  simp only [Bool.and_eq_true] at h
  obtain ⟨h0, h1, h2, h3, h4⟩ := h
  refine ⟨?_, He.eqO_ok h1, of_decide_eq_true h2, of_decide_eq_true h3, h4⟩
  unfold oexClsB at h0
  split at h0
  · rename_i dd cd k0 k1 k2 k3 n k5 ho
    split at h0
    · rename_i C' bm hm
      simp only [Bool.and_eq_true, decide_eq_true_eq, Bool.not_eq_true'] at h0
      obtain ⟨rfl, rfl, hdel, hdict, hr⟩ := h0
      obtain ⟨nm, bs, mro, ns, qn, hd, sn, sub, ab, col, del⟩ := cd
      dsimp only at hm hdel hdict
      subst hm hdel hdict
      exact ⟨nm, qn, ns, bs, bm, sn, sub, ab, col, dd, k0, k1, k2, k3, k5, ho, hr⟩
    · cases h0
  · cases h0
theorem oin_of {c : Nat} (h : oinB K c = true) : PySem.W.findIn K (.ref (cad K c)) "__init__" = some (some (.ref (He.ma K (cad K c) "__init__"))) ∧ PySem.W.typeIn K (.ref (He.ma K (cad K c) "__init__")) = some (.type "function") ∧ ∀ f ∈ cfs c, PySem.W.findIn K (.ref (cad K c)) f = some none := by
  unfold oinB at h
  simp only [Bool.and_eq_true] at h
  obtain ⟨h1, h2, h3⟩ := h
  exact ⟨He.eqO_ok h1, of_decide_eq_true h2, fun f hf => He.eqO_ok (List.all_eq_true.mp h3 f hf)⟩
section
variable {P : Program} {w : World} {mg : Str → Option Value} {base : Heap} {c : Nat} {x y z qual : Str} {params : Arguments} {scope : Scope} {fd : FuncData} {p1 p2 p3 p4 q1 q2 q3 q4 : Pos}
theorem gx1 (F : FunD K "__init__" qual params [.Assign [.Attribute (.Name "self" p1) x p2] (.Name x p3) p4] scope [] [] (He.ma K (cad K c) "__init__") fd) (Sc : FnScope ["self", x] ["self", x] scope) (ec : cfs c = [x]) (hb : Binds K fd ["self", x] []) (ho : oexB K c = true) (hi : oinB K c = true) (hm : mg z = some (.ref (cad K c)))
    (d1 : (x == ("__debug__" : Str)) = false := by decide) (d2 : (x == ("__classdict__" : Str)) = false := by decide) : Gx P w K mg base c z := by
  obtain ⟨i1, i2, i3⟩ := oin_of hi
  exact ⟨_, fd, _, by rw [ec]; exact fnE1 F Sc (oex_of ho) (i3 x (by rw [ec]; simp)) d1 d2, oex_of ho, i1, i2, hb, hm⟩
end
end SM
namespace SM
open PySem PySem.Spec PyProof.Rows L2
variable {K : PySem.W.Frag} {G G' G2 H H' H2 : Hp} {S S' S2 : Sto}
theorem lookup_memP {α : Type} : ∀ {l : List (Nat × α)} {c : Nat} {b : α}, l.lookup c = some b → (c, b) ∈ l
  | (x, y) :: r, c, b, h => by
    rw [List.lookup_cons] at h
    split at h
    · rename_i e
      cases h
      rw [eq_of_beq e]
      exact List.mem_cons_self
    · exact List.mem_cons_of_mem _ (lookup_memP h)
theorem em_of {cv : Value} {tab : List (Nat × Bool)} (h : emB K cv tab = true) : EmOk K cv tab := fun c b hl => of_decide_eq_true (List.all_eq_true.mp h _ (lookup_memP hl))
theorem Cgt.hot {X : Cx} {a : Addr} {oe : Obj} {c : Nat} {d : Option Addr} {pn : List (Addr × Obj)} (h : Cgt X.K oe c d) : L2H.HotC (X.suite a ((a, oe) :: pn)) := by
  obtain ⟨vs, e⟩ := h.fl
  exact ⟨(a, oe), ⟨rfl, vs, e, h.zn.2.2 vs e⟩, List.mem_cons_self⟩
section
variable {X : Cx} {x n : Str} {cv : Value} {i : Nat} {body suite : List Stmt} {b₀ : Stmt} {np pos pos' : Pos} {tb : DTS} {ts : Addr → Option Addr → Nat → DTS} {tab : List (Nat × Bool)}
end
end SM
namespace SM
open PySem PySem.Spec PyProof.Rows L2
variable {K : PySem.W.Frag} {G G' G2 H H' H2 : Hp} {S S' S2 : Sto}
def FxOk (K : PySem.W.Frag) (fl : Str) (tbl : List (Nat × Nat)) : Prop := ∀ c j, tbl.lookup c = some j → XfC K (cad K c) ∧ PySem.W.findIn K (.ref (cad K c)) fl = some none ∧ (cfs c)[j]? = some fl
def dXf (tbl : List (Nat × Nat)) (a : Addr) (d : Option Addr) (c : Nat) (te : DTE) : DTE := fun δ S Q XX => te δ S (fun x S1 => match x with
  | .exn a' d' c' ds => a' = a ∧ d' = d ∧ c' = c ∧ (match tbl.lookup c with
    | some j => (match ds[j]? with
      | some v => Q v S1
      | none => False)
    | none => False)
  | _ => False) XX
section
variable {X : Cx} {a : Addr} {oe : Obj} {c : Nat} {d : Option Addr} {pn : List (Addr × Obj)} {e : Expr} {te : DTE} {fl : Str} {pos : Pos} {tbl : List (Nat × Nat)}
theorem de_xf (F : FxOk X.K fl tbl) (hz : Cgt X.K oe c d) (he : PD (X.suite a ((a, oe) :: pn)) e te) (hb : attributeBase e fl X.env (eval e X.env) = eval e X.env := by rfl) :
    PD (X.suite a ((a, oe) :: pn)) (.Attribute e fl pos) (dXf tbl a d c te) := ⟨fun W tk => by
  cases hl : tbl.lookup c with
  | none =>
    refine ⟨fun pins s σ H Q I h => ?_⟩
    refine attr_of hb (thn ((he.run W tk).run pins s σ H (fun _ _ => False) I ?_) fun u s1 hh => ?_)
    · obtain ⟨G, δ, S, QD, XD, re, rl, h, q, kx⟩ := h
      refine ⟨G, δ, S, _, XD, re, rl, h, fun G1 H1 S1 v x s1 r z => ?_, kx⟩
      cases x <;> first | exact z.elim | (rw [hl] at z; exact z.2.2.2.elim)
    · obtain ⟨_, _, _, _, z⟩ := hh
      exact z.elim
  | some j =>
    obtain ⟨T, hno, hj⟩ := F c j hl
    refine PE.weak (pe_xf (d := d) T hno hz.zn.zc hz.fl (he.run W tk) hb) ?_
    rintro σ H Q ⟨G, δ, S, QD, XD, re, rl, h, q, kx⟩
    refine ⟨G, δ, S, _, XD, re, rl, h, fun G1 H1 S1 v x s1 r z => ?_, kx⟩
    cases r with
    | exn0 c' =>
      obtain ⟨rfl, hd, _, z⟩ := z
      rw [hl] at z
      exact False.elim z
    | @exn a' dd fs vs c' ds h1 h2 h3 h4 =>
      obtain ⟨rfl, hd, rfl, z⟩ := z
      rw [hl] at z
      have z' : (match ds[j]? with | some v => QD v S1 | none => False) := z
      cases hv : ds[j]? with
      | none => rw [hv] at z'; exact False.elim z'
      | some v =>
        rw [hv] at z'
        obtain ⟨u, hu, ru⟩ := h2.get hv
        exact ⟨rfl, rfl, dd, fs, u, hd.symm, s1.rel.at h1 rfl, h4 j fl u hj hu, q _ _ _ _ _ s1 ru z'⟩
    | _ => exact z.elim⟩
end
def IxOk (K : PySem.W.Frag) (cv : Value) (tab : List (Nat × Bool)) : Prop := ∀ c b, tab.lookup c = some b → ExcC K (cad K c) ∧ (PySem.W.clsIn K (cad K c)).isSome = true ∧ PySem.W.kitOne K (.ref (cad K c)) cv = some b
def dIsE (tab : List (Nat × Bool)) (a : Addr) (d : Option Addr) (c : Nat) (te : DTE) : DTE := fun δ S Q XX => te δ S (fun x S1 => match x with
  | .exn a' d' c' _ => a' = a ∧ d' = d ∧ c' = c ∧ (match tab.lookup c with
    | some b => Q (.bl b) S1
    | none => False)
  | _ => False) XX
def rIsX (K : PySem.W.Frag) (D a : Addr) (d : Option Addr) : List V → Hp → VK → Prop := fun xs H Q => ∃ (c : V) (cv : Value) (b : Bool), xs = [.ref a, c] ∧ (∀ u, RelV c u → u = cv) ∧ PySem.W.kitOne K (.ref D) cv = some b ∧ (∀ dd, d = some dd → ∃ fs, H dd = some (.xd fs)) ∧ Q (.bl b) H
theorem call_isX {X : Cx} {a D : Addr} {oe : Obj} {d : Option Addr} {pn : List (Addr × Obj)} (C : ExcC X.K D) (hcl : (PySem.W.clsIn X.K D).isSome = true) (hz : Zc (.ref D) d oe) (hf : ∃ vs, oe.data = .fields vs) : CallR (X.suite a ((a, oe) :: pn)) (.builtin "isinstance") (rIsX X.K D a d) := by
  intro pins s σ H xs us Q I r h
  obtain ⟨c, cv, b, rfl, hcv, e, hd, q⟩ := h
  cases r with
  | cons rx rr =>
    cases rr with
    | cons rt rr =>
      cases rr
      cases rx
      have ec := hcv _ rt
      subst ec
      obtain ⟨hget, _⟩ := I.pin (a, oe) (List.mem_append.mpr (.inl List.mem_cons_self))
      obtain ⟨vs, hv⟩ := hf
      have J : ∃ od, PySem.W.InstAt s.heap a oe D od := by
        cases d with
        | none => exact ⟨none, hget, hz.1, by unfold PySem.W.notCls; rw [hv] <;> rfl, by rw [hz.2]; trivial⟩
        | some dd =>
          obtain ⟨fs, ea⟩ := hd dd rfl
          have hx : ObjOk X.prog X.w H s.heap dd (.xd fs) := I.hok dd _ ea
          obtain ⟨mA, hns, hr⟩ := hx
          obtain ⟨od, ho, hl⟩ := lookIn_ns hns
          exact ⟨some od, hget, hz.1, by unfold PySem.W.notCls; rw [hv] <;> rfl, by rw [hz.2]; exact ho⟩
      obtain ⟨od, J⟩ := J
      exact PySem.W.kia_one (PySem.W.kitx_exc hcl C.hg C.hk C.hs C.ha C.hn C.ht C.hm) I.kIn J e (fun z => nomatch z) fun tk => ⟨.bl b, H, I.kept (t' := tk) fun _ _ z => z, rfl, q⟩
section
variable {X : Cx} {a : Addr} {oe : Obj} {c : Nat} {d : Option Addr} {pn : List (Addr × Obj)} {e : Expr} {te : DTE} {pos p : Pos} {tab : List (Nat × Bool)}
end
end SM
namespace SM
open PySem PySem.Spec PyProof.Rows L2
variable {K : PySem.W.Frag} {G G' G2 H H' H2 : Hp} {S S' S2 : Sto}
section
variable {P : Program} {w : World} {mg : Str → Option Value} {base : Heap}
end
section
variable {X : Cx} {e : Expr} {es : List Expr} {pos p : Pos} {k j : Nat} {x : Str} {t : DTA} {ps : List Str} {R : DSp}
end
end SM
namespace SM
open PySem PySem.Spec PyProof.Rows L2
variable {K : PySem.W.Frag}
theorem fx_of {fl : Str} {tbl : List (Nat × Nat)} (h : fxB K fl tbl = true) : FxOk K fl tbl := fun c j hl => by
  have z := List.all_eq_true.mp h _ (lookup_memP hl)
  simp only [Bool.and_eq_true] at z
  exact ⟨xfB_ok z.1, He.eqO_ok z.2.1, of_decide_eq_true z.2.2⟩
theorem exc_of {D : Addr} (h : excB K D = true) : ExcC K D ∧ (PySem.W.clsIn K D).isSome = true := by
  unfold excB at h
  simp only [Bool.and_eq_true] at h
  obtain ⟨h1, h2, h3, h4, h5, h6, h7, h8, h9⟩ := h
  exact ⟨⟨He.eqO_ok h1, He.eqO_ok h2, of_decide_eq_true h3, h4, He.eqO_ok h5, He.eqO_ok h6, of_decide_eq_true h7, of_decide_eq_true h8⟩, h9⟩
theorem ix_of {cv : Value} {tab : List (Nat × Bool)} (h : ixB K cv tab = true) : IxOk K cv tab := fun c b hl => by
  have z := List.all_eq_true.mp h _ (lookup_memP hl)
  simp only [Bool.and_eq_true] at z
  exact ⟨(exc_of z.1).1, (exc_of z.1).2, of_decide_eq_true z.2⟩
section
variable {P : Program} {w : World} {mg : Str → Option Value} {base : Heap}
end
end SM
namespace SM
open PySem PySem.Spec PyProof.Rows L2
variable {K : PySem.W.Frag} {G H : Hp} {S : Sto}
end SM
namespace SM
open PySem PySem.Spec PyProof.Rows L2
variable {K : PySem.W.Frag} {G G' G2 H H' H2 : Hp} {S S' S2 : Sto}
section
variable {X : Cx} {body : List Stmt} {h0 : ExceptHandler} {hds : List ExceptHandler} {l : List Cl} {pos : Pos} {tb : WX → TS} {Wo : WX}
end
end SM
namespace SM
open PySem PySem.Spec PyProof.Rows L2
variable {K : PySem.W.Frag} {G G' G2 H H' H2 : Hp} {S S' S2 : Sto}
section
variable {X : Cx} {pos p pos' : Pos} {x : Str} {c : Nat}
end
end SM
namespace SM
open PySem PySem.Spec PyProof.Rows L2
variable {K : PySem.W.Frag} {G G' G2 H H' H2 : Hp} {S S' S2 : Sto}
section
variable {X : Cx} {k j : Nat} {c : Nat} {oth : List Nat} {ps : List Str} {R : DSp}
end
end SM
namespace SM
open PySem PySem.Spec PyProof.Rows L2
variable {K : PySem.W.Frag} {G G' G2 H H' H2 : Hp} {S S' S2 : Sto}
section
variable {X : Cx} {a b : Expr} {pos : Pos} {k j : Nat} {ta tb : DTE} {ps : List Str} {R : DSp} {c : Nat}
end
end SM
namespace SM
open PySem PySem.Spec PyProof.Rows L2
variable {K : PySem.W.Frag} {G G' G2 H H' H2 : Hp} {S S' S2 : Sto}
section
variable {X : Cx} {k : Nat}
end
end SM
namespace SM
open PySem PySem.Spec PyProof.Rows L2
variable {K : PySem.W.Frag} {G G' G2 H H' H2 : Hp} {S S' S2 : Sto}
theorem FunS.bindsN {x qual : Str} {params : Arguments} {body : List Stmt} {scope : Scope} {f : Addr} {fd : FuncData} {cc c : Addr} {ps : List Str} (F : FunS K x qual params body scope f fd cc c)
    (h : ∀ (kV doc pm : Value) (an : Option Addr) (cc : Addr) (cdv ct : Value) (us : List Value), us.length = ps.length → bindArgs (PySem.W.fnX x qual params body scope [("__class__", cc)] .none kV doc pm an cdv ct) ⟨us, []⟩ = pure (ps.zip us)) : Binds K fd ps [] := by
  obtain ⟨oc, od, dV, kV, doc, pm, an, ct, osl, rfl, lk, hcd, hD, hK⟩ := F.ex
  rcases hD with ⟨_, rfl⟩ | ⟨e, _⟩
  · exact .all (h kV doc pm an cc (.ref c) ct)
  · exact absurd rfl e
section
variable {X : Cx} {cc c D f2 f : Addr} {cs : List Nat} {ps2 : List Str} {k2 : Nat} {R2 : DSp} {ta : DTA} {e : Expr} {es : List Expr} {p0 p1 p2 p3 p4 : Pos} {ar : Arg} {fd fd2 : FuncData} {body : List Stmt} {σ : L2.St} {δ : DS} {s : Shared} {E : DEnds} {W : WX} {oc : Value} {od : Option Addr} {osl : Array (Option Value)}
end
section
variable {P : Program} {w : World} {mg : Str → Option Value} {base : Heap}
end
end SM
namespace SM
open PySem PySem.Spec PyProof.Rows L2
open PySem.W (EachIs AllAlike Sortable dataLe)
variable {K : PySem.W.Frag} {G G' G2 H H' H2 : Hp} {S S' S2 : Sto}
section
variable {X : Cx} {pos pos' : Pos} {e o i : Expr} {te : DTE} {k : Nat}
end
end SM
namespace SM
open PySem PySem.Spec PyProof.Rows L2
variable {K : PySem.W.Frag} {G G' G2 H H' H2 : Hp} {S S' S2 : Sto}
section
variable {X : Cx} {e o : Expr} {es : List Expr} {pos apos : Pos} {k j : Nat} {m : Str} {t : DTA} {to : DTE} {T : List (Nat × DSp)}
theorem tab_r {T : List (Nat × DSp)} {c : Nat} {fs : List D} {R : DSp} {F : DSp → Prop} (h : T.lookup c = some R) (q : F R) : tabK T (.ins c fs) F := ⟨c, fs, R, R, rfl, h, fun _ _ _ _ z => z, q⟩
theorem tabv_r {T : List (Nat × Str)} {c : Nat} {fs : List D} {z : Str} {F : Str → Prop} (h : T.lookup c = some z) (q : F z) : tabV T (.ins c fs) F := ⟨c, fs, z, rfl, h, q⟩
end
end SM
namespace SM
open PySem PySem.Spec PyProof.Rows L2
open PySem.W (Frag)
theorem Says2.fact {ch : ChK} {fn fs : List Df} {K : Frag} (c : Says2 ch fn fs K) (i : Nat) {p : Frag → Bool} (h : ch[i]? = some p := by rfl) : p K = true :=
  List.all_eq_true.mp c.bool.1 p (List.mem_of_getElem? h)
theorem Says2.lists {ch : ChK} {fn fs : List Df} {K : Frag} (c : Says2 ch fn fs K) : (fn.map fun d => d.ob K) = fn.map Df.val ∧ (fs.map fun d => d.obS K) = fs.map Df.val :=
  List.append_inj (congrArg Prod.snd c) (by rw [List.length_map, List.length_map])
theorem Says2.df {ch : ChK} {fn fs : List Df} {K : Frag} (c : Says2 ch fn fs K) (i : Nat) {d : Df} (h : fn[i]? = some d := by rfl) : d.Is K := by
  have e2 : (fn.map fun d => d.ob K)[i]? = (fn.map Df.val)[i]? := by rw [c.lists.1]
  rw [List.getElem?_map, List.getElem?_map, h] at e2
  exact Df.is (Option.some.inj e2) (List.all_eq_true.mp c.bool.2.1 d (List.mem_of_getElem? h))
end SM
namespace SM
open PySem PySem.Spec PyProof.Rows L2
variable {K : PySem.W.Frag} {G G' G2 H H' H2 : Hp} {S S' S2 : Sto}
section
variable {X : Cx} {e o ke : Expr} {es : List Expr} {pos apos kpos : Pos} {k j n : Nat} {m kx : Str} {t : DTA} {to tke : DTE} {T : List (Nat × DSp)} {dds : List D}
end
end SM
namespace SM
open PySem PySem.Spec PyProof.Rows L2
end SM
namespace SM
open PySem PySem.Spec PyProof.Rows L2
end SM
namespace SM
open PySem PySem.Spec PyProof.Rows L2
section
variable {X : Cx} {e o : Expr} {es : List Expr} {pos apos : Pos} {k j n : Nat} {m : Str} {t : DTA} {R : DSp}
end
end SM
namespace SM
open PySem PySem.Spec PyProof.Rows L2
section
variable {X : Cx} {o e : Expr} {m : Str} {pos pos' : Pos} {k j c : Nat} {ps : List Str} {R : DSp} {to te : DTE}
end
end SM
namespace SM
open PySem PySem.Spec PyProof.Rows L2
variable {K : PySem.W.Frag} {G G' G2 H H' H2 : Hp} {S S' S2 : Sto}
section
variable {X : Cx}
theorem ld_names {a : Addr} {oe : Obj} {pn : List (Addr × Obj)} {σ : L2.St} {H : Hp} {s : Shared} {x : Str} {c : Value} {np : Pos} {Q : Value → Shared → Prop} {E : Value → Shared → Prop} (I : Inv (X.suite a ((a, oe) :: pn)) [] σ H s) (hc : Names X x c) (q : Q c s) :
    wpAny (model X.prog X.w) (X.A.mark (some (.ref a))) (eval (.Name x np) X.env) Q E s := by
  obtain ⟨hg, hdbg, hm | ⟨hm, hv, hnn⟩⟩ := hc
  · exact ld_glob (X := X.suite a ((a, oe) :: pn)) I hg hm q hdbg
  · exact ld_blt (X := X.suite a ((a, oe) :: pn)) I hg hm hv q hnn hdbg
end
section
variable {X : Cx} {body : List Stmt} {h0 : ExceptHandler} {hds : List ExceptHandler} {l : List ClG} {pos : Pos} {tb : WX → TS} {Wo : WX}
end
end SM
namespace SM
open PySem PySem.Spec PyProof.Rows L2 HotX
section
variable {prog : Program} {w : World} {A : Around} {E : Value → Shared → Prop} {s : Shared}
theorem rec_noType {b : Addr} {ob : Obj} {fl : Array Value} {Q : Bool → Shared → Prop} (g : s.heap.get? b = some ob) (r : ob.data = .fields fl) (q : Q false s) :
    wpAny (model prog w) A (isType (.ref b)) Q E s := by
  simp only [isType, loadHead]
  exact wpAny_bind (wpAny_loadPart g (by rw [r]; exact wpAny_pure q))
theorem exc_self {b : Addr} {ob : Obj} {fl : Array Value} {k : Value} {msg : String} {Q : Value → Shared → Prop} (g : s.heap.get? b = some ob) (r : ob.data = .fields fl) (hk : ob.cls = k)
    (L : PySem.W.Looks (model prog w) s.heap (isSubtype k (.type "BaseException")) true) (q : Q (.ref b) s) : wpAny (model prog w) A (excFromValue (.ref b) msg) Q E s := by
  have ty : PySem.W.Looks (model prog w) s.heap (typeOf (.ref b)) k := fun _ _ _ _ kp z => wpAny_typeOf_ref (kp _ _ g) (by rw [hk]; exact z)
  unfold excFromValue isExcClass
  refine wpAny_bind <| wpAny_bind <| rec_noType g r ?_
  rw [if_neg Bool.false_ne_true]
  refine wpAny_pure ?_
  rw [if_neg Bool.false_ne_true]
  exact wpAny_bind ((ty.andThen L).here (by rw [if_pos rfl]; exact wpAny_pure q))
theorem goes_hot {a x1 : Addr} {ob : Obj} {fl : Array Value} {k : Value} {Q : Flow → Shared → Prop} (hot : HotAt A x1 s.heap) (ne : x1 ≠ a) (g : s.heap.get? a = some ob) (r : ob.data = .fields fl) (hk : ob.cls = k) (f1 : fl[1]? = some .none) (f2 : 2 < fl.size)
    (L : PySem.W.Looks (model prog w) s.heap (typeOf k) (.type "type")) (q : E (.ref a) { s with heap := s.heap.update a (Obj.mapFields (·.setIfInBounds 2 (.ref x1))) }) :
    wpAny (model prog w) A (do
      let t ← isType (.ref a)
      if t = true then (holding [.ref a] (raisedFor (.ref a) (.ref a)) >>= fun v => setFlight v none >>= fun _ => raiseNew v)
      else (raisedInstance (.ref a) >>= fun v => setFlight v none >>= fun _ => raiseNew v) : Sem Flow) Q E s := by
  have ty : PySem.W.Looks (model prog w) s.heap (typeOf (.ref a)) k := fun _ _ _ _ kp z => wpAny_typeOf_ref (kp _ _ g) (by rw [hk]; exact z)
  refine wpAny_bind <| rec_noType g r ?_
  rw [if_neg Bool.false_ne_true]
  unfold raisedInstance setFlight
  refine wpAny_bind <| wpAny_bind <| ty.here <| wpAny_bind <| L.here ?_
  rw [if_pos (show (Value.type "type" == Value.type "type") = true from rfl)]
  refine wpAny_pure <| wpAny_bind <| wpAny_bind <| wpAny_field g r f1 ?_
  rw [if_neg (show ¬ ((Value.none != Value.none) = true) from by decide)]
  exact wpAny_pure (raiseNew_hot hot ne g r f2 q)
end
def fromH (h : Heap) (a x1 : Addr) : Heap := (h.update a (Obj.mapFields (·.setIfInBounds 3 (.ref x1)))).update a (Obj.mapFields (·.setIfInBounds 4 (.bool true)))
def fromO (ob : Obj) (x1 : Addr) : Obj := (ob.mapFields (·.setIfInBounds 3 (.ref x1))).mapFields (·.setIfInBounds 4 (.bool true))
def fromF (fl : Array Value) (x1 : Addr) : Array Value := (fl.setIfInBounds 3 (.ref x1)).setIfInBounds 4 (.bool true)
theorem fromO_data {ob : Obj} {fl : Array Value} {x1 : Addr} (r : ob.data = .fields fl) : (fromO ob x1).data = .fields (fromF fl x1) := Obj.data_mapFields (Obj.data_mapFields r _) _
theorem fromO_cls {ob : Obj} {x1 : Addr} : (fromO ob x1).cls = ob.cls := by unfold fromO; simp only [Obj.cls_mapFields]
theorem fromO_dict {ob : Obj} {x1 : Addr} : (fromO ob x1).dict = ob.dict := by unfold fromO; simp only [PySem.HandSPX.dict_mapFields]
theorem fromF_1 {fl : Array Value} {x1 : Addr} {z : Value} (e : fl[1]? = some z) : (fromF fl x1)[1]? = some z := set_other (i := 4) (by decide) <| set_other (i := 3) (by decide) e
theorem fromF_size {fl : Array Value} {x1 : Addr} : (fromF fl x1).size = fl.size := by unfold fromF; simp only [set_size]
theorem fromH_self {h : Heap} {a x1 : Addr} {ob : Obj} {fl : Array Value} (g : h.get? a = some ob) (r : ob.data = .fields fl) : (fromH h a x1).get? a = some (fromO ob x1) :=
  Heap.get?_update_self _ (Heap.get?_update_self _ g (Obj.isFreed_of_fields (Obj.data_mapFields r _))) (Obj.isFreed_of_fields (fromO_data r))
theorem fromH_ne {h : Heap} {a b x1 : Addr} (ne : a ≠ b) : (fromH h a x1).get? b = h.get? b := (Heap.get?_update_other _ _ ne).trans (Heap.get?_update_other _ _ ne)
theorem raise_from {prog : Program} {w : World} {A : Around} {E : Value → Shared → Prop} {env : Env} {s : Shared} {x c : Sem Value} {Q : Flow → Shared → Prop} {x1 : Addr} {k1 : Value}
    (h : wpAny (model prog w) A x (fun v s1 => ∃ a ob fl k, v = .ref a ∧ (s1.heap.get? a = some ob ∧ ob.data = .fields fl ∧ ob.cls = k) ∧ fl[1]? = some .none ∧ 4 < fl.size ∧ x1 ≠ a ∧ HotAt A x1 s1.heap ∧
      (∃ o1, s1.heap.get? x1 = some o1 ∧ o1.cls = k1) ∧ PySem.W.Looks (model prog w) s1.heap (isSubtype k1 (.type "BaseException")) true ∧
      (∀ R : Value → Shared → Prop, R (.ref x1) s1 → wpAny (model prog w) A c R E s1) ∧ PySem.W.Looks (model prog w) s1.heap (isSubtype k (.type "BaseException")) true ∧
      PySem.W.Looks (model prog w) (fromH s1.heap a x1) (typeOf k) (.type "type") ∧ E (.ref a) { s1 with heap := (fromH s1.heap a x1).update a (Obj.mapFields (·.setIfInBounds 2 (.ref x1))) }) E s) :
    wpAny (model prog w) A (raiseStmt env (some x) (some c)) Q E s := by
  unfold raiseStmt
  refine wpAny_bind (thn h fun v s1 z => ?_)
  obtain ⟨a, ob, fl, k, ev, ⟨g, r, hk⟩, f1, f4, ne, hot, ⟨o1, g1, hk1⟩, LX, hc, L, LT, q⟩ := z
  subst ev
  obtain ⟨fl1, r1⟩ : ∃ fl1, o1.data = .fields fl1 := by
    obtain ⟨_, o, vs, e1, e2, _⟩ := hot
    cases g1.symm.trans e1
    exact ⟨vs, e2⟩
  have hot4 : HotAt A x1 (fromH s1.heap a x1) := by
    obtain ⟨e0, o, vs, e1, e2⟩ := hot
    exact ⟨e0, o, vs, (fromH_ne (Ne.symm ne)).trans e1, e2⟩
  refine wpAny_bind <| wpAny_holding <| hc _ <| wpAny_bind <| wpAny_pure ?_
  refine wpAny_bind <| wpAny_holding <| exc_self g r hk L ?_
  refine wpAny_bind <| wpAny_holding <| exc_self g1 r1 hk1 LX ?_
  refine wpAny_bind <| wpAny_setField g r (by omega) <| wpAny_bind <| wpAny_setField (Heap.get?_update_self _ g (Obj.isFreed_of_fields (Obj.data_mapFields r _))) (Obj.data_mapFields r _) (by rw [set_size]; exact f4) ?_
  have z := goes_hot (s := { s1 with heap := fromH s1.heap a x1 }) (Q := Q) (E := E) hot4 ne (fromH_self g r) (fromO_data r) (fromO_cls.trans hk) (fromF_1 f1) (by rw [fromF_size]; omega) LT q
  exact z
section
variable {X : Cx} {W : WX}
theorem var_at {pins : List (Addr × Obj)} {σ : L2.St} {H : Hp} {s : Shared} {i : Nat} {n : Str} {b : Addr} {pos : Pos} {E R : Value → Shared → Prop} (I : Inv X pins σ H s) (hN : X.N[i]? = some n) (hv : Vis X.env.scope n)
    (e : σ[i]? = some (some (.ref b))) (q : R (.ref b) s) (hd : (n == ("__debug__" : Str)) = false) (hcd : (n == ("__classdict__" : Str)) = false) :
    wpAny (model X.prog X.w) X.A (eval (.Name n pos) X.env) R E s := by
  obtain ⟨names, ns, look⟩ := I.loc
  obtain ⟨_, rfl, at_⟩ := look i n (.ref b) hN e hv
  have kd := I.ok.kind
  match at_ with
  | .inl ⟨k, f⟩ => exact wpAny_Name (wpAny_loadName_local kd k ns f q) hd
  | .inr ⟨.inl k, _, f, cl⟩ => exact wpAny_Name (wpAny_loadName_cell kd k f cl q) hd
  | .inr ⟨.inr k, _, f, cl⟩ => exact wpAny_Name (wpAny_loadName_free kd k f cl q hcd) hd
theorem ps_raiseHF {i : Nat} {n : Str} {e : Expr} {t : L2.St → Hp → XK → Prop} {np pos : Pos} {p : Addr × Obj} {cx : Value} (hot : L2H.Hot1 X.A p) (hp : p ∈ X.pn) (hcx : p.2.cls = cx)
    (rx : ∀ (M : Model) (h : Heap), X.K.In h → PySem.W.Looks M h (isSubtype cx (.type "BaseException")) true) (tk : L2.Takes X W) (he : L2H.PMk5 X e t) (hN : X.N[i]? = some n) (hv : Vis X.env.scope n)
    (hd0 : (n == ("__debug__" : Str)) = false := by decide) (hcd : (n == ("__classdict__" : Str)) = false := by decide) :
    PS X (.Raise (some e) (some (.Name n np)) pos) (fun _ σ H => σ[i]? = some (some (.ref p.1)) ∧ t σ H fun cls d H' => W cls d σ H') := ⟨fun pins s σ H D I ⟨hσ, h⟩ => by
  obtain ⟨hh, vp, ep, cp⟩ := hot
  show wpAny _ _ (standAt pos >>= fun _ => raiseStmt X.env (some (eval e X.env >>= fun v => standAt pos >>= fun _ => pure v)) (some (eval (.Name n np) X.env >>= fun v => standAt pos >>= fun _ => pure v))) _ _ _
  refine wpAny_bind <| wpAny_standAt <| raise_from (x1 := p.1) (k1 := cx) <| wpAny_bind <| thn (he pins s σ H _ I h) fun u s1 made => wpAny_bind <| wpAny_standAt <| wpAny_pure ?_
  obtain ⟨⟨a, ob, fl, sI, H1, k, d, eu, J, keep, fresh, ga, zn, dat, f1, na, os, bare, rs, q⟩, six⟩ := made
  subst eu
  have apart : ∀ {b : Addr} {o : Obj}, sI.heap.get? b = some o → a ≠ b := fun {b o} g z => by rw [z, g] at fresh; cases fresh
  have keep4 : ∀ b o, sI.heap.get? b = some o → (fromH s1.heap a p.1).get? b = some o := fun b o g => (fromH_ne (apart g)).trans (keep b o g)
  have at1 : Inv X pins σ H1 s1 := J.call' (ch := []) os (Un.kept keep) (J.hok.kept keep) bare fun _ z => nomatch z
  have gp := (J.pin p (List.mem_append.mpr (.inl hp))).1
  have g4 := fromH_self (x1 := p.1) ga dat
  have d4 := Obj.data_mapFields (fromO_data (x1 := p.1) dat) (·.setIfInBounds 2 (Value.ref p.1))
  refine ⟨a, ob, fl, k, rfl, ⟨ga, dat, zn.1⟩, f1, six a ob fl rfl ga dat, Ne.symm (apart gp), ⟨hh, p.2, vp, keep _ _ gp, ep, cp⟩, ⟨p.2, keep _ _ gp, hcx⟩, rx _ _ (J.kIn.keeps keep),
    fun R z => wpAny_bind (var_at at1 hN hv hσ (wpAny_bind (wpAny_standAt (wpAny_pure z))) hd0 hcd), (rs _ _ (J.kIn.keeps keep)).1, (rs _ _ (J.kIn.keeps keep4)).2, tk _ _ ?_⟩
  exact XE.new J (fun b o g => (Heap.get?_update_other _ _ (apart g)).trans (keep4 b o g)) fresh (Heap.get?_update_self _ g4 (Obj.isFreed_of_fields d4))
    ⟨(Obj.cls_mapFields ..).trans (fromO_cls.trans zn.1), (PySem.HandSPX.dict_mapFields ..).trans (fromO_dict.trans zn.2.1)⟩ d4 (set_other (i := 2) (by decide) (fromF_1 f1)) na os bare q⟩
end
end SM
namespace SM
open PySem PySem.Spec PyProof.Rows L2 HotX
theorem nameless {X : Cx} {pins : List (Addr × Obj)} {σ : L2.St} {H : Hp} {s : Shared} {i : Nat} {n : Str} {h4 : Heap} {tk : Nat} {v : Option Value} {names : Str → Option Value} {gs : Array GenState} {dr : Drawn} (I : Inv X pins σ H s) (hN : X.N.Nodup) (hi : X.N[i]? = some n)
    (look : ∀ (j : Nat) (y : Str) (u : V), X.N[j]? = some y → σ[j]? = some (some u) → Vis X.env.scope y → ∃ z, RelV u z ∧ Look X.env s.heap names y z)
    (ns : h4.Ns X.env.locals (fun y => if y = n then v else names y)) (same : Heap.SameBut X.env.locals s.heap h4) (ag : AllBare gs) : Inv X pins (σ.set i none) H { s with heap := h4, toks := tk, gens := gs, drawn := dr } := by
  have old : ∀ {b o}, X.s_0.heap.get? b = some o → h4.get? b = s.heap.get? b := fun g => same.2 _ (Nat.ne_of_lt <| Nat.lt_of_lt_of_le (Heap.lt_size g) I.ok.above)
  have locFree : ∀ {b : Addr} {u}, H b = some u → b ≠ X.env.locals := fun e z => by rw [z, I.free] at e; cases e
  exact {
    ok := I.ok, os := I.os, bare := ag, free := I.free, freeC := I.freeC
    base := {
      keep := fun b o g m f x => by rw [old g]; exact I.base.keep b o g m f x
      slot := fun b o g m f x => by rw [old g]; exact I.base.slot b o g m f x
      there := fun b o g x => by rw [old g]; exact I.base.there b o g x
      free := I.base.free, tups := I.base.tups, frzs := I.base.frzs, tbls := I.base.tbls }
    loc := ⟨_, ns, fun j y u e1 e2 e3 => by
      have ji : j ≠ i := fun z => by
        subst z
        rw [List.getElem?_set] at e2
        split at e2
        · split at e2 <;> cases e2
        · exact absurd rfl ‹_›
      rw [List.getElem?_set_ne (fun z => ji z.symm)] at e2
      obtain ⟨z, rz, at_⟩ := look j y u e1 e2 e3
      refine ⟨z, rz, at_.imp (fun ⟨k, f⟩ => ⟨k, ?_⟩) fun ⟨k, c, f, cl⟩ => ⟨k, c, f, cl.sameBut same (I.cne y c f)⟩⟩
      show (if y = n then v else names y) = some z
      rw [if_neg fun z : y = n => ji (nodup_ix hN e1 (by rw [z]; exact hi))]
      exact f⟩
    cell := fun y c f => (I.cell y c f).imp fun _ cl => cl.sameBut same (I.cne y c f)
    pin := fun p m => by
      have P := I.pin p m
      exact ⟨by rw [same.2 _ P.2.2.1]; exact P.1, P.2⟩
    hok := fun b u e => (I.hok b u e).stay (fun c z hc g => (same.2 c (hc.elim (fun q => by rw [q]; exact locFree e) fun q => locFree q)).trans g) (fun _ g => g) fun _ _ g => g
    len := by rw [List.length_set]; exact I.len }
theorem sky_held {M : Model} {A : Around} {E : Value → Shared → Prop} {env : Env} {outer : List Env} {L a : Addr} {B : Heap} {s : Shared} {Z : Obj → Prop} {Q : Unit → Shared → Prop} (st : HandSPX.Steady Z) (fr : A.frames = some (env :: outer)) (fl : env.frame = some L)
    (sky : Sky B (env :: outer) a Z L s.heap) (q : ∀ h, HandSPX.HeldZ B (env :: outer) a Z L h → s.heap.UpToSlots h → Q () { s with heap := h }) : wpAny M A (noteFrame (.ref a) env) Q E s :=
  match sky with
  | .inl ⟨b, n, l, _, _, g, z, d, f1⟩ => HandSPX.look_newZ st fr l fl g b n d f1 z q
  | .inr (.inl f) => HandSPX.looks_onZ st fr fl f q
  | .inr (.inr h) => HandSPX.againZ fl h.2.2.2 (q _ h (Heap.UpToSlots.refl _))
theorem held_sameBut {B h h' : Heap} {l : List Env} {a L C : Addr} {Z : Obj → Prop} {m m' : Str → Option Value} (x : HandSPX.HeldZ B l a Z L h) (bC : B.get? C = none) (n : h.Ns C m) (n' : h'.Ns C m') (same : Heap.SameBut C h h') : HandSPX.HeldZ B l a Z L h' := by
  obtain ⟨stay, new, frames, oe, vs, T, oT, ts, ge, z, de, f1, nT, Te, gT, dT, f3⟩ := x
  have rec_ : ∀ {b o vs}, h.get? b = some o → o.data = .fields vs → h'.get? b = some o := fun {b o vs} g d => by
    rw [same.2 b fun q => ?_]
    · exact g
    · obtain ⟨oC, _, _, gC, dC, _⟩ := n
      rw [q, gC] at g
      cases g
      cases dC.symm.trans d
  exact ⟨fun b o g => (same.2 b fun q => by rw [q, bC] at g; cases g).trans (stay b o g), new, Heap.FunFrames.sameBut same n' frames, oe, vs, T, oT, ts, rec_ ge de, z, de, f1, nT, Te, rec_ gT dT, dT, f3⟩
section
variable {X : Cx} {pins : List (Addr × Obj)} {σ : L2.St} {H : Hp} {a : Addr} {cls : Value} {d : Option Addr} {s' : Shared} {h : Heap}
theorem Ready.again {M : Model} {A : Around} {E : Value → Shared → Prop} {Q : Unit → Shared → Prop} (r : Ready X pins σ H a cls d s' h) (q : ∀ h', Ready X pins σ H a cls d s' h' → Q () { s' with heap := h' }) : wpAny M A (setFlight (.ref a) none) Q E { s' with heap := h } := by
  obtain ⟨B, sI, I, nb, up, fly, os⟩ := r.ex
  exact HandSPX.lands_againZ (s := { s' with heap := h }) fly fun h' f u => q h' ⟨⟨B, sI, I, nb, up.trans u, f, os⟩, r.na, r.bare⟩
theorem ready_of {W : WX} {E : Value → Shared → Prop} {Q : Unit → Shared → Prop} {u : Value} {xe : Value → Shared → Prop} (ok : X.Ok) (hs : X.stack = X.env :: X.outer) (hf : X.env.frame = some X.env.locals) (x : L2N.XE (X.tr (X.pn ++ pins) xe) W u s')
    (q : ∀ a σ H cls d h, u = .ref a → W cls d σ H → Ready X pins σ H a cls d s' h → Q () { s' with heap := h }) :
    wpAny (model X.prog X.w) X.A (noteFrame u X.env) (fun _ s2 => wpAny (model X.prog X.w) X.A (setFlight u none) Q E s2) E s' := by
  obtain ⟨a, B, sI, pins', σ, H, cls, d, eu, I, nb, up, sky, na, os, bare, w⟩ := x
  subst eu
  refine L2N.Sky.land L2N.Zn.steady (by rw [ok.frames, hs]) hf (B := B) (outer := X.outer) (by have z := sky; rw [show (X.tr (X.pn ++ pins) xe).stack = X.env :: X.outer from hs] at z; exact z) fun h f u => q a σ H cls d h rfl w ⟨⟨B, sI, I.ofTry ok, nb, up.trans u, f, os⟩, na, bare⟩
end
abbrev suiteXE (X : Cx) (a : Addr) (pn : List (Addr × Obj)) (xe : Value → Shared → Prop) : Cx := { X.suite a pn with xe := xe }
section
variable {X : Cx} {pins pn pn' : List (Addr × Obj)} {σ : L2.St} {H : Hp} {s : Shared} {a : Addr} {q : Addr × Obj} {xe : Value → Shared → Prop}
theorem suiteXE_of (I : Inv (X.suite a pn) pn' σ H s) : Inv (suiteXE X a pn xe) pn' σ H s := Inv.unwish (X := suiteXE X a pn xe) (E := fun _ _ => False) I
theorem unsuiteXE (I : Inv (suiteXE X a (q :: (X.pn ++ pins)) xe) pn' σ H s) (ok : X.Ok) : Inv X pins σ H s := Inv.unsuite (X := X) (a := a) (q := q) (pn' := pn') (show Inv (X.suite a (q :: (X.pn ++ pins))) pn' σ H s from I.wish fun _ _ => False) ok
end
def tryXE (X : Cx) (Q : Flow → Shared → Prop) (hds : List ExceptHandler) : Value → Shared → Prop := fun u s1 => wpAny (model X.prog X.w) X.A (noteFrame u X.env) (fun _ s2 =>
  wpAny (model X.prog X.w) X.A (setFlight u none) (fun _ s3 => wpAny (model X.prog X.w) X.A (handleBy u X.env hds) Q X.xe s3) X.xe s2) X.xe s1
def wAsX (K : PySem.W.Frag) (c : Value) (i : Nat) (ts : Addr → Value → Option Addr → TS) (D : Ends) : WX := fun cls d σ H =>
  PySem.W.exmOne K cls c = some true ∧ ∀ a, H a = none → ts a cls d (ofEnds D (some i)) (atSt σ a (some i)) H
section
variable {X : Cx} {x n : Str} {c : Value} {i : Nat} {b₀ : Stmt} {body suite : List Stmt} {np pos pos' : Pos} {tb : WX → TS} {ts : Addr → Value → Option Addr → TS} {Wo : WX}
theorem suite_raises {pins : List (Addr × Obj)} {a : Addr} {oe : Obj} {xe' : Value → Shared → Prop} {u : Value} {s : Shared} (ok : X.Ok) (hs : X.stack = X.env :: X.outer) (hf : X.env.frame = some X.env.locals) (hN : X.N.Nodup) (hi : X.N[i]? = some n) (hln : X.env.kindOf n = some .local)
    (hpa : ∀ hd : Option Value, PassesOwnAt (model X.prog X.w) (X.A.mark hd) X.A X.env X.xe) (tk : L2.Takes X Wo) (z : L2.XE (suiteXE X a ((a, oe) :: (X.pn ++ pins)) xe') (fun cls d σ H => Wo cls d (σ.set i none) H) u s) :
    wpAny (model X.prog X.w) (X.A.mark (some (.ref a))) (noteFrame u X.env) (fun _ s₂ => wpAny (model X.prog X.w) (X.A.mark (some (.ref a))) (do bindName X.env n .none; unbindBehindTheSuite X.env n pos')
      (fun _ s₃ => wpAny (model X.prog X.w) (X.A.mark (some (.ref a))) (PySem.passOn "try.except-as" u X.env : Sem Flow) (fun _ _ => False) (notedBy (model X.prog X.w) (X.A.mark (some (.ref a))) X.env (cameBackBy (model X.prog X.w) X.A X.env X.xe)) s₃)
      (fun y s₃ => wpAny (model X.prog X.w) (X.A.mark (some (.ref a))) (setFlight u none) (fun _ s₄ => (notedBy (model X.prog X.w) (X.A.mark (some (.ref a))) X.env (cameBackBy (model X.prog X.w) X.A X.env X.xe)) y s₄) (notedBy (model X.prog X.w) (X.A.mark (some (.ref a))) X.env (cameBackBy (model X.prog X.w) X.A X.env X.xe)) s₃) s₂)
      (notedBy (model X.prog X.w) (X.A.mark (some (.ref a))) X.env (cameBackBy (model X.prog X.w) X.A X.env X.xe)) s := by
  obtain ⟨e, B, sI, pn2, σ, H, cls, d, eu, I, nb, up, sky, na, os, bare, w⟩ := z
  subst eu
  have J : Inv X pins σ H sI := unsuiteXE I ok
  refine sky_held Zc.steady (show (X.A.mark (some (.ref a))).frames = _ by rw [show (X.A.mark (some (.ref a))).frames = X.A.frames from rfl, ok.frames, hs]) hf (B := B) (outer := X.outer) (by have z := sky; rw [show (suiteXE X a ((a, oe) :: (X.pn ++ pins)) xe').stack = X.env :: X.outer from hs] at z; exact z) fun h held u1 => ?_
  obtain ⟨names, ns, look⟩ := J.loc
  have up1 := up.trans u1
  obtain ⟨_, ⟨L', _, eL, bL, _⟩, _⟩ := held.2.2.1
  cases eL.symm.trans hf
  refine wpAny_nameGoes_keeps hln (ns.upToSlots up1) (by rw [ok.kind]; rfl) fun h2 v ns2 same => ?_
  have held2 := held_sameBut held bL (ns.upToSlots up1) ns2 same
  obtain ⟨oe2, vs, T, _, _, ge, _, de, f1, _⟩ := held2.2.2.2
  refine wpAny_bind (wpAny_field ge de f1 ?_)
  rw [if_neg (by simp)]
  have last : wpAny (model X.prog X.w) (X.A.mark (some (.ref a))) (setFlight (.ref e) X.env.frame) (fun _ s4 => wpAny (model X.prog X.w) (X.A.mark (some (.ref a))) (throw (.ref e) : Sem Flow) (fun _ _ => False)
      (notedBy (model X.prog X.w) (X.A.mark (some (.ref a))) X.env (cameBackBy (model X.prog X.w) X.A X.env X.xe)) s4) (notedBy (model X.prog X.w) (X.A.mark (some (.ref a))) X.env (cameBackBy (model X.prog X.w) X.A X.env X.xe)) { s with heap := h2, toks := s.toks + 1 } := by
    rw [hf]
    refine HandSPX.setFlight_onZ (s := { s with heap := h2, toks := s.toks + 1 }) held2 fun h3 held3 u3 => wpAny_throw <| hpa _ _ _ <| tk _ _ ?_
    obtain ⟨oL, es, ep, gL, dL, fL⟩ := ns2
    obtain ⟨_, _, _, g0, _⟩ := ns
    have gN : (sI.heap.update X.env.locals fun _ => oL).get? X.env.locals = some oL := Heap.get?_update_self (fun _ => oL) g0 (Obj.isFreed_of_dict dL)
    have sameN := Heap.SameBut.update sI.heap X.env.locals fun _ => oL
    refine ⟨e, B, _, pins, _, H, cls, d, rfl, nameless (tk := s.toks + 1) (gs := s.gens) (dr := s.drawn) J hN hi look (v := v) ⟨oL, es, ep, gN, dL, fL⟩ sameN bare, fun b o g m => nb b o ?_ m, ?_, .inr (.inr (by rw [hs]; exact held3)), na, os, bare, w⟩
    · refine (sameN.2 b fun z => m ?_).symm.trans g
      rw [hs, z]
      exact List.mem_filterMap.mpr ⟨_, List.mem_cons_self, hf⟩
    · refine Heap.UpToSlots.trans (h₂ := h2) (fun b o g nf => ?_) u3
      by_cases bl : b = X.env.locals
      · rw [bl, gN] at g
        cases g
        exact ⟨_, bl ▸ gL⟩
      · obtain ⟨sl, g1⟩ := up1 b o ((sameN.2 b bl).symm.trans g) nf
        exact ⟨sl, (same.2 b bl).trans g1⟩
  first
    | exact wpAny_bind last
    | exact wpAny_bind (wpAny_pure (wpAny_bind last))
theorem ps_try_asX (hs : X.stack = X.env :: X.outer) (hf : X.env.frame = some X.env.locals) (hN : X.N.Nodup) (hi : X.N[i]? = some n) (hln : X.env.kindOf n = some .local) (hc : Names X x c) (hpa : ∀ hd : Option Value, PassesOwnAt (model X.prog X.w) (X.A.mark hd) X.A X.env X.xe) (tk : L2.Takes X Wo)
    (hb : ∀ (W : WX) (pn : List (Addr × Obj)) (xe : Value → Shared → Prop), L2N.Takes (X.tr pn xe) W → PassesOwn (model X.prog X.w) X.A X.env xe → PSs (X.tr pn xe) body (tb W))
    (hsu : ∀ (a : Addr) (oe : Obj) (cls : Value) (d : Option Addr) (pn : List (Addr × Obj)) (xe : Value → Shared → Prop), L2N.Zn cls d oe → (∃ vs, oe.data = .fields vs) → L2.Takes (suiteXE X a ((a, oe) :: pn) xe) (fun cls d σ H => Wo cls d (σ.set i none) H) →
      PassesOwn (model X.prog X.w) (X.A.mark (some (.ref a))) X.env xe → PSs (suiteXE X a ((a, oe) :: pn) xe) (b₀ :: suite) (ts a cls d)) :
    PS X (.Try body [.ExceptHandler (some (.Name x np)) (some n) (b₀ :: suite) pos'] [] [] pos) (fun D σ H => tb (wAsX X.K c i ts D) D σ H) := ⟨fun pins s σ H D I h => by
  have ok := I.ok
  refine wpAny_Try_except <| wpAny_mono ((hb (wAsX X.K c i ts D) (X.pn ++ pins) (tryXE X (SP X pins D) [.ExceptHandler (some (.Name x np)) (some n) (b₀ :: suite) pos']) (fun u s' z => ready_of ok hs hf z fun a σ1 H1 cls d h1 eu w r => ?_) PassesOwn.looking).run [] s σ H D (I.toTry _) h) (fun f s1 z => ?_) fun _ _ z => z
  · subst eu
    obtain ⟨yes, w⟩ := w
    obtain ⟨oe1, S1, g1, z1, v1, d1⟩ := r.suite hf
    have ty : PySem.W.Looks (model X.prog X.w) h1 (typeOf (.ref a)) cls := fun _ _ _ _ kp z => wpAny_typeOf_ref (kp _ _ g1) (by rw [z1.1]; exact z)
    refine wpAny_handleBy_cons (codeAny_handlers_test <| ld_names S1 hc <| (PySem.W.exm_one (M := model X.prog X.w) S1.kIn ty yes).here ?_) (by simp [byPass])
    refine codeAny_handlers_suite_as <| r.again fun h2 r2 => ?_
    obtain ⟨oe2, S2, g2, z2, fl2⟩ := r2.suite hf
    refine store_ok (X := X.suite a ((a, oe2) :: (X.pn ++ pins))) (v := .ref a) S2 hN hi (.inl hln) rfl (fun s3 S3 => ?_) (.inr hln)
    refine wpAny_mono ((hsu a oe2 cls d (X.pn ++ pins) _ z2 fl2 (fun _ _ z => suite_raises ok hs hf hN hi hln hpa tk z) PassesOwn.looking).run [] s3 _ H1 _ (suiteXE_of S3) (w a r2.na)) (fun f s4 z => ?_) fun _ _ z => z
    cases f <;> first
      | (obtain ⟨v4, σ4, H4, S4, r4, q4⟩ := z; exact gone_ok (unsuiteXE S4 ok) hN hi hln fun _ J => ⟨v4, _, H4, J, r4, q4⟩)
      | (obtain ⟨σ4, H4, S4, q4⟩ := z; exact gone_ok (unsuiteXE S4 ok) hN hi hln fun _ J => ⟨_, H4, J, q4⟩)
  · cases f <;> first
      | (obtain ⟨v4, σ4, H4, S4, r4, q4⟩ := z; exact ⟨v4, σ4, H4, S4.ofTry ok, r4, q4⟩)
      | (obtain ⟨σ4, H4, S4, q4⟩ := z; exact wpAny_execs_nil ⟨σ4, H4, S4.ofTry ok, q4⟩)
      | (obtain ⟨σ4, H4, S4, q4⟩ := z; exact ⟨σ4, H4, S4.ofTry ok, q4⟩)⟩
end
end SM
namespace SM
open PySem PySem.Spec PyProof.Rows L2
section
variable {X : Cx}
end
end SM
namespace SM
open PySem PySem.Spec PyProof.Rows L2
section
variable {X : Cx}
end
end SM
namespace SM
open PySem PySem.Spec PyProof.Rows L2 HotX
variable {K : PySem.W.Frag} {G G' G2 H H' H2 : Hp} {S S' S2 : Sto}
theorem sky_zc {B : Heap} {l : List Env} {a L : Addr} {cls : Value} {d : Option Addr} {h : Heap} (x : Sky B l a (L2N.Zn cls d) L h) : Sky B l a (Zc cls d) L h := by
  rcases x with ⟨h1, h2, h3, oe, vs, he, hz, r⟩ | fl | ⟨h1, h2, h3, h4⟩
  · exact .inl ⟨h1, h2, h3, oe, vs, he, hz.zc, r⟩
  · exact .inr (.inl (L2H.flyingZ_imp (fun o z => z.zc) fl))
  · exact .inr (.inr ⟨h1, h2, h3, L2H.tracedZ_imp (fun o z => z.zc) h4⟩)
theorem tkN {X : Cx} {W : WX} (tk : L2.Takes X W) : L2N.Takes X W := fun u s' ⟨a, B, sI, pins, σ, H, cls, d, e, I, nb, up, sky, na, os, ag, w⟩ => tk u s' ⟨a, B, sI, pins, σ, H, cls, d, e, I, nb, up, sky_zc sky, na, os, ag, w⟩
abbrev methForm (X : Cx) (o : Expr) (m : Str) (apos : Pos) (pl : Sem Bool) (pos : Pos) (es : List Expr) : Prop := eval (.Call (.Attribute o m apos) es [] pos) X.env =
  (eval o X.env >>= fun ov => standAt apos.atName >>= fun _ => holding [ov] (getMethod ov m pl) >>= fun r => match r with | (f, first) => callWith pos f first (backTo pos (starEach es X.env)) (backToKw pos (keywordEach [] X.env)))
abbrev stE (X : Cx) (e : Expr) (es : List Expr) : Prop := starEach (e :: es) X.env = (false, eval e X.env) :: starEach es X.env
abbrev plE (X : Cx) (pos : Pos) (es : List Expr) : Prop := (backTo pos (starEach es X.env)).any (·.1) = false
theorem xa_lf {X : Cx} {es : List Expr} {td : DTA} (h : PDA X es td) : PDAX X es td := ⟨fun W tk => h.run W (tkN tk)⟩
theorem xs_lf {X : Cx} {st : Stmt} {ts : DTS} (h : PDS X st ts) : PDSX X st ts := ⟨fun W tk po => h.run W (tkN tk) po⟩
theorem takes0X {X : Cx} : L2.Takes X (fun _ _ _ _ => False) := fun u s' ⟨_, _, _, _, _, _, _, _, _, _, _, _, _, _, _, _, w⟩ => w.elim
section
variable {X : Cx} {e a b o i iter : Expr} {c : Nat} {es : List Expr} {st : Stmt} {sts rest : List Stmt} {pos p apos cpos pos' : Pos} {W : WX} {k j : Nat} {x m : Str} {t : DTA} {te : DTE} {f C g : Addr} {fd : FuncData} {ps : List Str} {R : DSp} {dvs : List V} {dds : List D} {ds : List Value} {pins : List (Addr × Obj)} {σ : L2.St} {s : Shared}
theorem run_cmX {q : Addr} {sp : Sp} {Q : VK} {us : List Value} {vs : List V} (F : FnR X.prog X.w X.K X.mg X.base (L2.CX X.prog X.w) k g sp) (hr : Room k X.A) (tk : L2.Takes X W) (I : Inv X ((q, PySem.W.methodObj (.ref g) (.ref C)) :: pins) σ H s) (r : Vals vs us) (h : sp (.ref C :: vs) H Q (WE W σ)) :
    wpAny (model X.prog X.w) X.A (call (.ref q) us) (EP X pins σ Q) X.xe s := by
  have z : wpAny (model X.prog X.w) X.A (call (.ref q) us) (EP X ((q, PySem.W.methodObj (.ref g) (.ref C)) :: pins) σ Q) X.xe s := by
    refine wpAny_call (PySem.W.method_call (ClX.pin_at I) (codeAny_mono (F X.A X.stack s H (.ref C :: us) (.ref C :: vs) Q _ hr I.env0 (.cons rfl r) h) fun z s' hq => ?_))
    match z, hq with
    | .error e, hq => exact L2.passAt tk σ _ H s e s' I hq
    | .ok (.ret u), hq => exact I.after hq
  exact thn z fun u s' y => ClX.unpinE y
theorem xe_gc {pl : Sem Bool} (F : GcX X.prog X.w X.K X.mg X.base k c x m ps R) (hr : Room j X.A) (hg : Gl X x) (ha : PDAX X (e :: es) t) (hkj : k ≤ j := by decide) (hdb : (x == ("__debug__" : Str)) = false := by decide)
    (hst : stE X e es := by rfl) (hpl : plE X pos es := by rfl)
    (ht : methForm X (.Name x p) m apos pl pos (e :: es) := by rfl) :
    PDX X (.Call (.Attribute (.Name x p) m apos) (e :: es) [] pos) (dCall (fun ds => R (.cls c :: ds)) [] t) := ⟨fun W tk => ⟨fun pins s σ H Q I h => by
  obtain ⟨pp, g, fd, cr, cm, F1, hb, hm⟩ := F.ex
  have F2 := F1.raw hb .nil
  have h := sim_call (dvs := []) (fun G => .nil) h
  refine PySem.W.methodCall_KW (pl := pl) (thn ((pe_glob (v := .ref (cad X.K c)) hg hm rfl hdb).run pins s σ H (fun v H1 => v = .ref (cad X.K c) ∧ H1 = H) I ⟨rfl, rfl⟩) fun u s1 hu => ?_) ht
  obtain ⟨y, H1, I1, rx, ey, eH⟩ := hu
  subst ey eH
  obtain rfl : u = Value.ref (cad X.K c) := rx
  refine ClX.getmethcm_ok I1 cr cm fun s2 I2 => ?_
  refine ClX.callwith_cm I2 (ClX.base_none I1 (Nat.le_refl _)) cm.fi (thn ((ha.run W tk).run pos _ s2 σ H1 _ I2 h) fun us s3 hq => ?_) hst hpl
  obtain ⟨vs, H2, I3, rv, q2⟩ := hq
  refine ⟨⟨ClX.pin_at I3, I3.kIn⟩, run_cmX F2 (hr.mono hkj) tk I3 rv ?_⟩
  rw [List.append_nil] at q2
  obtain ⟨G, S, ds, QD, XD, rl, rs, h, kq, kx⟩ := q2
  exact ⟨G, S, .cls c :: ds, QD, XD, rl, by rw [List.append_nil]; exact .cons (.cls c rfl) rs, h, kq, kx⟩⟩⟩
variable {ts tu u : DTS}
theorem xs_set {i : Nat} {x : Str} {pos' : Pos} (hN : X.N.Nodup) (he : PDX X e te) (hi : X.N[i]? = some x := by rfl) (hx : Loc X.env.scope x := by first | exact .inl rfl | exact .inr rfl) (hs : swapsWith e (some (.Name x pos')) pos.line X.env = pure false := by rfl)
    (hf : X.fn x = true ∨ X.env.scope.names.lookup x = some .local := by first | exact .inl rfl | exact .inr rfl | assumption) : PDSX X (.Assign [.Name x pos'] e pos) (dSet i te) := ⟨fun W tk po => PS.weak (ps_set hN hi hx (he.run W tk) hs hf) (by
  rintro D σ H ⟨G, δ, S, E, re, rl, h, er⟩
  exact ⟨G, δ, S, _, _, re, rl, h, fun G1 H1 S1 v d s1 rv q => er.nx _ _ _ _ _ s1 ((re.mono s1.sg).put i rv) q, er.kx re⟩)⟩
theorem xss_cons (h1 : PDSX X st ts) (h2 : PDSsX X rest u) : PDSsX X (st :: rest) (dSeq ts u) := ⟨fun W tk po => PSs.weak (pss_cons (h1.run W tk po) (h2.run W tk po)) (by
  rintro D σ H ⟨G, δ, S, E, re, rl, h, er⟩
  exact ⟨G, δ, S, _, re, rl, h, ⟨fun G1 H1 S1 σ1 δ1 s1 re1 q => ⟨G1, δ1, S1, E, re1, s1.rel, q, er.step s1⟩, er.rt, er.bk, er.ct, er.xc⟩⟩)⟩
theorem xss_one (h1 : PDSX X st ts) : PDSsX X [st] ts := ⟨fun W tk po => pss_one (h1.run W tk po)⟩
end
section
variable {P : Program} {w : World} {mg : Str → Option Value} {base : Heap}
theorem fnDX {x qual : Str} {params : Arguments} {body : List Stmt} {scope : Scope} {dvs : List V} {kws : List (Str × V)} {f : Addr} {fd : FuncData} {N ps : List Str} {k : Nat} (F : FunD K x qual params body scope dvs kws f fd) (Sc : FnScope N ps scope) (R : DSp)
    (len : ∀ ds S Q E, R ds S Q E → ds.length = ps.length) (hps : ps.length ≤ N.length)
    (hb : ∀ (cdv : Value) (A : Around) (outer : List Env) (s : Shared) (H : Hp) (E : XK), Room k (A.deeper (envOfC qual scope s.heap.objs.size f cdv)) → ∃ ts, PDSsX (cxOf (L2.CX P w) P w K mg base N qual scope f cdv A outer s H E) body ts ∧
      ∀ ds S QD XD, R ds S QD XD → ts ⟨fun _ S' => QD .non S', QD, fun _ _ => False, fun _ _ => False, fun x _ S' => XD x S'⟩ (startD N ds) S) : FnOk P w K mg base (L2.CX P w) (k + 1) f fd ps (toSp K R) := by
  refine F.ok Sc (fun vs H Q E h => ?_) (fun cdv A outer s H vs Q E hr h => ?_)
  · obtain ⟨G, S, ds, QD, XD, _, rs, h, _⟩ := h
    rw [rs.length]; exact len _ _ _ _ h
  · obtain ⟨G, S, ds, QD, XD, rl, rs, h, kq, kx⟩ := h
    obtain ⟨ts, p, q⟩ := hb cdv A outer s H E hr
    refine ⟨liftS K (fun cls d _ H => E cls d H) ts, p.run _ (L2.takes_of rfl rfl rfl rfl) (passes_of rfl), ⟨G, startD N ds, S, _, startD_rpe rs (by rw [len _ _ _ _ h]; exact hps), rl, q ds S QD XD h, ?_⟩⟩
    exact ⟨fun G1 H1 S1 σ δ s1 _ q => kq _ _ _ _ _ s1 .non q, fun G1 H1 S1 v d s1 r q => kq _ _ _ _ _ s1 r q, fun _ _ _ _ _ _ _ q => q.elim, fun _ _ _ _ _ _ _ q => q.elim, fun G1 H1 S1 σ δ cls d x s1 _ r q => kx _ _ _ _ _ _ s1 r q⟩
theorem fnTX {x qual : Str} {params : Arguments} {body : List Stmt} {scope : Scope} {dvs : List V} {kws : List (Str × V)} {f : Addr} {fd : FuncData} {N ps : List Str} {k : Nat} {R : DSp} {t : DTS} (F : FunD K x qual params body scope dvs kws f fd) (Sc : FnScope N ps scope)
    (len : Ln ps.length R) (rd : Rd t N R) (hd : ∀ (cdv : Value) (A : Around) (outer : List Env) (s : Shared) (H : Hp) (E : XK), Room k (A.deeper (envOfC qual scope s.heap.objs.size f cdv)) → PDSsX (cxOf (L2.CX P w) P w K mg base N qual scope f cdv A outer s H E) body t) (hps : ps.length ≤ N.length := by decide) : FnOk P w K mg base (L2.CX P w) (k + 1) f fd ps (toSp K R) :=
  fnDX F Sc R len hps fun cdv A outer s H E hr => ⟨t, hd cdv A outer s H E hr, rd⟩
end
end SM
namespace SM
open PySem PySem.Spec PyProof.Rows L2 HotX
variable {K : PySem.W.Frag} {G G' G2 H H' H2 : Hp} {S S' S2 : Sto}
section
variable {P : Program} {w : World} {mg : Str → Option Value} {base : Heap} {qual : Str} {params : Arguments} {scope : Scope} {f : Addr} {fd : FuncData} {c : Nat} {x z : Str} {p1 p2 p3 p4 : Pos}
theorem fnE1H (F : FunD K "__init__" qual params [.Assign [.Attribute (.Name "self" p1) x p2] (.Name x p3) p4] scope [] [] f fd) (Sc : FnScope ["self", x] ["self", x] scope) (T : OexC K (cad K c)) (n1 : PySem.W.findIn K (.ref (cad K c)) x = some none)
    (d1 : (x == ("__debug__" : Str)) = false := by decide) (d2 : (x == ("__classdict__" : Str)) = false := by decide) : L2H.FnH P w K mg base (L2N.CX P w) 1 f fd ["self", x] (spE (cad K c) [x]) := by
  obtain ⟨_, _, _, _, _, _, _, _, _, _, rfl, lk, hcd, _⟩ := F.ex
  refine L2H.fn_ofH lk hcd Sc (fun vs H Q E h => ?_) (fun A outer s H vs Q E pp hot hr h => ?_)
  · obtain ⟨a, ws, rfl, hl, _⟩ := h
    simp only [List.length_cons, hl, List.length_nil]
  · have v0 := Sc.par "self" (by simp)
    have v1 := Sc.par x (by simp)
    refine ⟨_, pss_one (ps_ost (pe_var (i := 0) rfl (by rcases v0 with h | h; exact .inl h; exact .inr (.inl h)) (by decide) (by decide)) (pe_var (i := 1) rfl (by rcases v1 with h | h; exact .inl h; exact .inr (.inl h)) d1 d2)), ?_⟩
    obtain ⟨a, ws, rfl, hl, ha, q⟩ := h
    match ws, hl with
    | [v], _ =>
      refine ⟨v, rfl, .ref a, rfl, a, _, rfl, T, n1, .inl ⟨ha, fun dx hn hne => ?_⟩⟩
      refine q _ dx [(x, v)] upd_same (by rw [upd_ne hne, upd_same]) hn hne (fun b h1 h2 => by rw [upd_ne h1, upd_ne h2]) fun j fl u hj hv => ?_
      match j, hj, hv with
      | 0, hj, hv =>
        simp at hj hv
        subst hj hv
        simp
theorem gxh1 (F : FunD K "__init__" qual params [.Assign [.Attribute (.Name "self" p1) x p2] (.Name x p3) p4] scope [] [] (He.ma K (cad K c) "__init__") fd) (Sc : FnScope ["self", x] ["self", x] scope) (ec : cfs c = [x]) (hb : Binds K fd ["self", x] []) (ho : oexB K c = true) (hi : oinB K c = true) (hm : mg z = some (.ref (cad K c)))
    (d1 : (x == ("__debug__" : Str)) = false := by decide) (d2 : (x == ("__classdict__" : Str)) = false := by decide) : GxH P w K mg base c z := by
  obtain ⟨i1, i2, i3⟩ := oin_of hi
  exact ⟨_, fd, _, by rw [ec]; exact fnE1H F Sc (oex_of ho) (i3 x (by rw [ec]; simp)) d1 d2, oex_of ho, i1, i2, hb, hm⟩
end
def RxOk (K : PySem.W.Frag) (tab : List (Nat × Bool)) : Prop := ∀ c b, tab.lookup c = some b → PySem.W.subIn K (.ref (cad K c)) (.type "BaseException") = some true
theorem rx_of {tab : List (Nat × Bool)} (h : rxB K tab = true) : RxOk K tab := fun c b hl => of_decide_eq_true (List.all_eq_true.mp h _ (lookup_memP hl))
def dRaiseF (c i : Nat) (a : Addr) (t : DTA) : DTS := fun E δ S => match nth δ i with
  | some (.exn a' _ _ _) => a' = a ∧ dRaise c t E δ S
  | _ => False
section
variable {X : Cx} {e : Expr} {es : List Expr} {pos p np pos' : Pos} {j i : Nat} {x n : Str} {t : DTA} {c c' : Nat} {a : Addr} {oe : Obj} {d : Option Addr} {pn : List (Addr × Obj)} {xe : Value → Shared → Prop}
theorem xs_raiseF (F : GxH X.prog X.w X.K X.mg X.base c x) (hr : L2H.RoomH j (X.A.mark (some (.ref a)))) (hz : Cgt X.K oe c' d) (hs : PySem.W.subIn X.K (.ref (cad X.K c')) (.type "BaseException") = some true) (hg : Gl X x) (ha : PDA (suiteXE X a ((a, oe) :: pn) xe) (e :: es) t)
    (hN : X.N[i]? = some n := by rfl) (hv : Vis X.env.scope n := by first | exact Or.inl rfl | exact Or.inr (Or.inl rfl) | exact Or.inr (Or.inr rfl)) (hkj : 2 ≤ j := by decide) (hl9 : (cfs c).length ≤ 900 := by decide) (hdb : (x == ("__debug__" : Str)) = false := by decide)
    (hd0 : (n == ("__debug__" : Str)) = false := by decide) (hcd : (n == ("__classdict__" : Str)) = false := by decide)
    (he : stE X e es := by rfl) (hpl : plE X pos es := by rfl) :
    PDSX (suiteXE X a ((a, oe) :: pn) xe) (.Raise (some (.Call (.Name x p) (e :: es) [] pos)) (some (.Name n np)) pos') (dRaiseF c i a t) := ⟨fun W tk po => by
  obtain ⟨f, fd, ps, F1, T, iC, tI, hb, hm⟩ := F.ex
  obtain ⟨vz, ez⟩ := hz.fl
  have h1 : L2H.Hot1 (suiteXE X a ((a, oe) :: pn) xe).A (a, oe) := ⟨rfl, vz, ez, hz.zn.2.2 vz ez⟩
  refine PS.weak (ps_raiseHF (X := suiteXE X a ((a, oe) :: pn) xe) (cx := .ref (cad X.K c')) h1 List.mem_cons_self hz.zn.1 (fun M h k => PySem.W.looks_subIn k hs) tk
    (L2H.pmk5_oexH T iC tI F1 (hr.mono hkj) ⟨_, h1, List.mem_cons_self⟩ hb (fun pins σ H s e s' I z => (cx_no z).elim) hg hm (ha.run W (tkN tk)) hdb he hpl) hN hv hd0 hcd) ?_
  rintro D σ H ⟨G, δ, S, E, re, rl, h, er⟩
  unfold dRaiseF at h
  split at h
  · rename_i a' d' c1 ds1 en
    obtain ⟨rfl, h⟩ := h
    obtain ⟨v, hσ, rv⟩ := re.at_ i _ en
    have ev : v = .ref a' := by cases rv <;> rfl
    subst ev
    refine ⟨hσ, G, δ, S, _, _, re, rl, h, fun G1 H1 S1 vs ds s1 rs q => ?_, er.kx re⟩
    obtain ⟨hl, q⟩ := q
    refine ⟨by rw [rs.length, hl]; omega, fun a na => ?_⟩
    rw [List.append_nil]
    refine ⟨a, vs, rfl, by rw [rs.length, hl], upd_same, fun H' d fs h1 h2 hn hne hk hlk => ⟨rfl, d, fs, h1, h2, by rw [upd_ne hne] at hn; exact hn, ?_⟩⟩
    have hn1 : H1 d = none := by rw [upd_ne hne] at hn; exact hn
    have eH : upd (del H' a) d (.xd fs) = upd H1 d (.xd fs) := by
      funext b
      by_cases hb1 : b = d
      · subst hb1; rw [upd_same, upd_same]
      · rw [upd_ne hb1, upd_ne hb1]
        by_cases hb2 : b = a
        · subst hb2; rw [del_same, na]
        · rw [del_ne hb2, hk b hb2 hb1, upd_ne hb2]
    rw [eH]
    have s2 : Stp X.K G1 H1 S1 (upd G1 d (.xd fs)) (upd H1 d (.xd fs)) S1 := Stp.newF s1.rel hn1
    exact er.xc _ _ _ σ δ _ _ ⟨c, ds⟩ (s1.trans s2) ((re.mono s1.sg).mono s2.sg) ⟨rfl, .inr ⟨d, fs, vs, rfl, upd_same, rs.mono s2.sg, hl, hlk⟩⟩ q
  · exact h.elim⟩
end
def trR (tab : List (Nat × Bool)) (i : Nat) (ts : Addr → Option Addr → Nat → DTS) (E : DEnds) (x : Exn) (δ' : DS) (S' : Sto) : Prop := match tab.lookup x.c with
  | some true => ∀ a d, ts a d x.c { nx := fun δ S => E.nx (unset δ i) S, rt := E.rt, bk := fun δ S => E.bk (unset δ i) S, ct := fun δ S => E.ct (unset δ i) S, xc := fun x δ S => E.xc x (unset δ i) S } (put δ' i (.exn a d x.c x.ds)) S'
  | _ => False
def dTryR (tab : List (Nat × Bool)) (i : Nat) (tb : DTS) (ts : Addr → Option Addr → Nat → DTS) : DTS := fun E δ S => tb { nx := E.nx, rt := E.rt, bk := E.bk, ct := E.ct, xc := trR tab i ts E } δ S
section
variable {X : Cx} {x n : Str} {cv : Value} {i : Nat} {body suite : List Stmt} {b₀ : Stmt} {np pos pos' : Pos} {tb : DTS} {ts : Addr → Option Addr → Nat → DTS} {tab : List (Nat × Bool)}
theorem xs_tryR (hs : X.stack = X.env :: X.outer) (hf : X.env.frame = some X.env.locals) (hN : X.N.Nodup) (hi : X.N[i]? = some n) (hln : X.env.kindOf n = some .local) (hc : Names X x cv) (em : EmOk X.K cv tab) (hrx : RxOk X.K tab) (hpa : ∀ hd : Option Value, PassesOwnAt (model X.prog X.w) (X.A.mark hd) X.A X.env X.xe)
    (hb : ∀ (pn : List (Addr × Obj)) (xe : Value → Shared → Prop), PDSs (X.tr pn xe) body tb)
    (hsu : ∀ (a : Addr) (oe : Obj) (c : Nat) (d : Option Addr) (pn : List (Addr × Obj)) (xe : Value → Shared → Prop), Cgt X.K oe c d → PySem.W.subIn X.K (.ref (cad X.K c)) (.type "BaseException") = some true → PDSsX (suiteXE X a ((a, oe) :: pn) xe) (b₀ :: suite) (ts a d c)) :
    PDSX X (.Try body [.ExceptHandler (some (.Name x np)) (some n) (b₀ :: suite) pos'] [] [] pos) (dTryR tab i tb ts) := ⟨fun W tk po => by
  refine PS.weak (ps_try_asX (tb := fun W => liftS X.K W tb) (ts := fun a cls d => fun D σ H => ∃ c, cls = .ref (cad X.K c) ∧ PySem.W.subIn X.K (.ref (cad X.K c)) (.type "BaseException") = some true ∧ liftS X.K (fun cls d σ H => W cls d (σ.set i none) H) (ts a d c) D σ H) (Wo := W) hs hf hN hi hln hc hpa tk (fun W' pn xe tk' po' => (hb pn xe).run W' tk' po') (fun a oe cls d pn xe hz hff tk' po' => ⟨fun pins s σ H D I h => ?_⟩)) ?_
  · obtain ⟨c, rfl, hs, h⟩ := h
    exact ((hsu a oe c d pn xe ⟨hz, hff⟩ hs).run _ tk' po').run pins s σ H D I h
  · rintro D σ H ⟨G, δ, S, E, re, rl, h, er⟩
    refine ⟨G, δ, S, _, re, rl, h, ⟨er.nx, er.rt, er.bk, er.ct, fun G' H' S' σ' δ' cls d x st re' rx q => ?_⟩⟩
    have ec := rx.1
    subst ec
    revert q
    unfold trR
    show (match tab.lookup x.c with | some true => _ | _ => False) → _
    cases hl : tab.lookup x.c with
    | none => exact fun z => z.elim
    | some b =>
      cases b with
      | false => exact fun z => z.elim
      | true =>
        intro q
        refine ⟨em _ _ hl, fun a ha => ⟨x.c, rfl, hrx _ _ hl, G', _, S', _, re'.put i rx.rp, st.rel, q a d, ?_⟩⟩
        exact ⟨fun G2 H2 S2 σ2 δ2 s2 r2 z => er.nx _ _ _ _ _ (st.trans s2) (r2.unset i) z, fun G2 H2 S2 v d2 s2 r2 z => er.rt _ _ _ _ _ (st.trans s2) r2 z, fun G2 H2 S2 σ2 δ2 s2 r2 z => er.bk _ _ _ _ _ (st.trans s2) (r2.unset i) z, fun G2 H2 S2 σ2 δ2 s2 r2 z => er.ct _ _ _ _ _ (st.trans s2) (r2.unset i) z,
          fun G2 H2 S2 σ2 δ2 cls2 d2 x2 s2 r2 rx2 z => er.xc _ _ _ _ _ _ _ _ (st.trans s2) (r2.unset i) rx2 z⟩⟩
end
end SM
namespace SM
open PySem PySem.Spec PyProof.Rows L2
open PySem.W (Frag)
end SM
namespace SM
open PySem PySem.Spec PyProof.Rows L2
end SM
namespace SM
open PySem PySem.Spec PyProof.Rows L2
def gets (δ : DS) : List Nat → DS
  | [] => []
  | i :: r => nth δ i :: gets δ r
def setO : DS → Nat → Option D → DS
  | [], _, _ => []
  | _ :: r, 0, d => d :: r
  | x :: r, n + 1, d => x :: setO r n d
def setsA : List Nat → DS → DS → DS
  | [] => fun δ _ => δ
  | i :: r => fun δ ws => match ws with
    | [] => δ
    | w :: ws => setsA r (setO δ i w) ws
def sets (δ : DS) (ix : List Nat) (ws : DS) : DS := setsA ix δ ws
theorem setO_nth : ∀ (δ : DS) (i : Nat), setO δ i (nth δ i) = δ
  | [], _ => rfl
  | _ :: _, 0 => rfl
  | x :: r, i + 1 => by rw [setO, nth, setO_nth r i]
theorem sets_gets (δ : DS) : ∀ ix : List Nat, sets δ ix (gets δ ix) = δ
  | [] => rfl
  | i :: r => by
    show setsA r (setO δ i (nth δ i)) (gets δ r) = δ
    rw [setO_nth]
    exact sets_gets δ r
theorem put_0 {x : Option D} {r : DS} {d : D} : put (x :: r) 0 d = some d :: r := rfl
theorem put_s {x : Option D} {r : DS} {n : Nat} {d : D} : put (x :: r) (n + 1) d = x :: put r n d := rfl
theorem setO_0 {x d : Option D} {r : DS} : setO (x :: r) 0 d = d :: r := rfl
theorem setO_s {x d : Option D} {r : DS} {n : Nat} : setO (x :: r) (n + 1) d = x :: setO r n d := rfl
theorem sets_n {δ ws : DS} : sets δ [] ws = δ := rfl
theorem sets_c {δ ws : DS} {w : Option D} {i : Nat} {r : List Nat} : sets δ (i :: r) (w :: ws) = sets (setO δ i w) r ws := rfl
theorem gets_n {δ : DS} : gets δ [] = [] := rfl
theorem gets_c {δ : DS} {i : Nat} {r : List Nat} : gets δ (i :: r) = nth δ i :: gets δ r := rfl
theorem nth_0 {x : Option D} {r : DS} : nth (x :: r) 0 = x := rfl
theorem nth_s {x : Option D} {r : DS} {n : Nat} : nth (x :: r) (n + 1) = nth r n := rfl
theorem loop_eG {gd : Gd} {q : Pat} {tb : DTS} {E : DEnds} {α : Type} {g : α → D} (ix : List Nat) (J : List α → DS → Sto → Prop) {δ0 δl : DS} {S0 : Sto} {xs : List α} (hδ : δ0 = δl) (hI : ∀ xs ws S, J xs ws S → gok gd S)
    (hs : ∀ x r ws S, J (x :: r) ws S → ∃ δ1, bindP q (g x) (sets δl ix ws) = some δ1 ∧ ∀ N : DS → Sto → Prop, (∀ δ2 S2, δ2 = sets δl ix (gets δ2 ix) → J r (gets δ2 ix) S2 → N δ2 S2) → tb { E with nx := N, ct := N, bk := E.nx } δ1 S)
    (hd : ∀ ws S, J [] ws S → E.nx (sets δl ix ws) S) (h : J xs (gets δ0 ix) S0) : loopK gd q tb E (xs.map g) δ0 S0 := by
  subst hδ
  refine loop_ofG (g := g) (fun r δ S => δ = sets δ0 ix (gets δ ix) ∧ J r (gets δ ix) S) (fun xs δ S h => hI _ _ _ h.2) ?_ ?_ ⟨(sets_gets δ0 ix).symm, h⟩
  · rintro x r δ S ⟨e, hJ⟩
    obtain ⟨δ1, e1, t⟩ := hs x r _ S hJ
    exact ⟨δ1, by rw [e]; exact e1, fun N hN => t N fun δ2 S2 a b => hN δ2 S2 ⟨a, b⟩⟩
  · rintro δ S ⟨e, hJ⟩
    rw [e]
    exact hd _ _ hJ
theorem loop_e {q : Pat} {tb : DTS} {E : DEnds} {α : Type} {g : α → D} (ix : List Nat) (J : List α → DS → Sto → Prop) {δ0 δl : DS} {S0 : Sto} {xs : List α} (hδ : δ0 = δl)
    (hs : ∀ x r ws S, J (x :: r) ws S → ∃ δ1, bindP q (g x) (sets δl ix ws) = some δ1 ∧ ∀ N : DS → Sto → Prop, (∀ δ2 S2, δ2 = sets δl ix (gets δ2 ix) → J r (gets δ2 ix) S2 → N δ2 S2) → tb { E with nx := N, ct := N, bk := E.nx } δ1 S)
    (hd : ∀ ws S, J [] ws S → E.nx (sets δl ix ws) S) (h : J xs (gets δ0 ix) S0) : loopK none q tb E (xs.map g) δ0 S0 :=
  loop_eG (gd := none) ix J hδ (fun _ _ _ _ => True.intro) hs hd h
theorem loop_i {q : Pat} {tb : DTS} {E : DEnds} (n : Nat) (ix : List Nat) (J : Nat → DS → Sto → Prop) {δ0 δl : DS} {S0 : Sto} (hδ : δ0 = δl)
    (hs : ∀ i ws S, i < n → J i ws S → ∃ δ1, bindP q (D.int (0 + (i : Nat))) (sets δl ix ws) = some δ1 ∧ ∀ N : DS → Sto → Prop, (∀ δ2 S2, δ2 = sets δl ix (gets δ2 ix) → J (i + 1) (gets δ2 ix) S2 → N δ2 S2) → tb { E with nx := N, ct := N, bk := E.nx } δ1 S)
    (hd : ∀ ws S, J n ws S → E.nx (sets δl ix ws) S) (h : J 0 (gets δ0 ix) S0) : loopK none q tb E ((List.range n).map fun i : Nat => D.int (0 + (i : Nat))) δ0 S0 := by
  refine loop_e (g := fun i : Nat => D.int (0 + (i : Nat))) ix (fun r ws S => ∃ i, i ≤ n ∧ r = List.range' i (n - i) ∧ J i ws S) hδ ?_ ?_ ⟨0, Nat.zero_le _, by rw [List.range_eq_range', Nat.sub_zero], h⟩
  · rintro x r ws S ⟨i, hi, e, hI⟩
    have hlt : i < n := by
      rcases Nat.lt_or_ge i n with h | h
      · exact h
      · rw [show n - i = 0 by omega] at e; cases e
    obtain ⟨m, hm⟩ : ∃ m, n - i = m + 1 := ⟨n - i - 1, by omega⟩
    rw [hm, List.range'_succ] at e
    simp only [List.cons.injEq] at e
    obtain ⟨rfl, rfl⟩ := e
    obtain ⟨δ1, e1, hN⟩ := hs x ws S hlt hI
    exact ⟨δ1, e1, fun N h => hN N fun δ2 S2 a h2 => h δ2 S2 a ⟨x + 1, hlt, by congr 1; omega, h2⟩⟩
  · rintro ws S ⟨i, hi, e, hI⟩
    have ei : i = n := by
      rcases Nat.lt_or_ge i n with h | h
      · obtain ⟨m, hm⟩ : ∃ m, n - i = m + 1 := ⟨n - i - 1, by omega⟩
        rw [hm, List.range'_succ] at e; cases e
      · omega
    subst ei
    exact hd ws S hI
theorem cut_e {t u : DTS} {E : DEnds} {δ0 δl : DS} {S : Sto} (ix : List Nat) (J : DS → Sto → Prop) (hδ : δ0 = δl) (h1 : t { E with nx := fun δ S => δ = sets δl ix (gets δ ix) ∧ J (gets δ ix) S } δl S) (h2 : ∀ ws S', J ws S' → u E (sets δl ix ws) S') : cutK t u E δ0 S := by
  subst hδ
  exact ⟨_, h1, fun δ' S' h => by rw [h.1]; exact h2 _ _ h.2⟩
end SM
namespace SM
open PySem PySem.Spec PyProof.Rows L2
section
variable {X : Cx}
end
end SM
namespace SM
open PySem PySem.Spec PyProof.Rows L2 TL
def rdNum (w : Str) : Option Int := match w.cps.toList with
  | [c] => if 48 ≤ c ∧ c ≤ 57 then some ((c : Int) - 48) else none
  | [m, c] => if m = 45 ∧ 49 ≤ c ∧ c ≤ 57 then some (48 - (c : Int)) else none
  | _ => none
theorem str_of (w : Str) (l : List Nat) (h : w.cps.toList = l) : w = ⟨l.toArray⟩ := by
  subst h
  cases w with | mk a => simp
theorem digits_mem (c : Nat) : decide (c ∈ (Str.ofString "0123456789").cps.toList) = decide (48 ≤ c ∧ c ≤ 57) := by
  have e : (Str.ofString "0123456789").cps.toList = [48, 49, 50, 51, 52, 53, 54, 55, 56, 57] := by decide +kernel
  rw [e]
  refine decide_eq_decide.mpr ⟨fun h => ?_, fun h => ?_⟩
  · simp at h; omega
  · simp; omega
end SM
namespace SM
open PySem PySem.Spec PyProof.Rows L2
def Sub (S S' : Sto) : Prop := ∀ a o, S a = some o → S' a = some o
variable {K : PySem.W.Frag} {G G' G2 H H' H2 : Hp} {S S' S0 : Sto}
theorem Sub.refl : Sub S S := fun _ _ h => h
theorem Sub.trans {S2 : Sto} (h : Sub S S') (h2 : Sub S' S2) : Sub S S2 := fun a o e => h2 a o (h a o e)
theorem Sub.non {p : Addr} (h : Sub S S') (e : S' p = none) : S p = none := by
  cases q : S p with
  | none => rfl
  | some o => rw [h p o q] at e; cases e
theorem Sub.set {p : Addr} {o : OO} (h : Sub S S') (hp : S p = none) : Sub S (su S' p o) := fun a u e => by
  rw [su_ne]
  · exact h a u e
  · intro z; subst z; rw [hp] at e; cases e
theorem Sub.new {p : Addr} {o : OO} (hp : S p = none) : Sub S (SM.su S p o) := Sub.refl.set hp
theorem Stp.shr (s : Stp K G H S G' H' S') (h : Sub S0 S') : Stp K G H S G' H' S0 where
  sg := s.sg
  rel := ⟨s.rel.le, fun a o e => s.rel.own a o (h a o e)⟩
  fr := fun b o e g n => by
    obtain ⟨h1, h2, h3⟩ := s.fr b o e g n
    refine ⟨h1, ?_, h3⟩
    cases q : S0 b with
    | none => rfl
    | some u => rw [h b u q] at h2; cases h2
structure shrK (Q : DQ) (d : D) (S : Sto) : Prop where
  it : ∃ S0, Sub S0 S ∧ Q d S0
structure shrX (X : XQ) (x : Exn) (S : Sto) : Prop where
  it : ∃ S0, Sub S0 S ∧ X x S0
theorem shr_of {Q : DQ} {d : D} (h : Sub S0 S) (q : Q d S0) : shrK Q d S := ⟨_, h, q⟩
theorem shr_x {X : XQ} {x : Exn} (h : Sub S0 S) (q : X x S0) : shrX X x S := ⟨_, h, q⟩
abbrev RdW (t : DTS) (N : List Str) (R : DSp) : Prop := ∀ ds S QD XD, R ds S QD XD → t (ends (shrK QD) (shrX XD)) (startD N ds) S
def widS (R : DSp) : DSp := fun ds S Q X => ∃ Q0 X0, R ds S Q0 X0 ∧ Q = shrK Q0 ∧ X = shrX X0
theorem toSp_wid {R : DSp} {vs : List V} {Q : VK} {E : XK} (h : toSp K R vs H Q E) : toSp K (widS R) vs H Q E := by
  obtain ⟨G, S, ds, QD, XD, rl, rs, h, kq, kx⟩ := h
  refine ⟨G, S, ds, shrK QD, shrX XD, rl, rs, ⟨QD, XD, h, rfl, rfl⟩, fun G' H' S' v d st r q => ?_, fun G' H' S' cls d x st r q => ?_⟩
  · obtain ⟨S0, hs, q⟩ := q
    exact kq _ _ _ _ _ (st.shr hs) r q
  · obtain ⟨S0, hs, q⟩ := q
    exact kx _ _ _ _ _ _ (st.shr hs) r q
theorem RdW.rd {t : DTS} {N : List Str} {R : DSp} (h : RdW t N R) : Rd t N (widS R) := by
  rintro ds S _ _ ⟨Q0, X0, hr, rfl, rfl⟩
  exact h ds S Q0 X0 hr
theorem wid_len {n : Nat} {R : DSp} (h : Ln n R) : Ln n (widS R) := by
  rintro ds S _ _ ⟨Q0, X0, hr, rfl, rfl⟩
  exact h ds S Q0 X0 hr
variable {P : Program} {w : World} {mg : Str → Option Value} {base : Heap}
theorem fnTW {x qual : Str} {params : Arguments} {body : List Stmt} {scope : Scope} {dvs : List V} {kws : List (Str × V)} {f : Addr} {fd : FuncData} {N ps : List Str} {k : Nat} {R : DSp} {t : DTS} (F : FunD K x qual params body scope dvs kws f fd) (Sc : FnScope N ps scope)
    (len : Ln ps.length R) (rd : RdW t N R) (hd : ∀ (cdv : Value) (A : Around) (outer : List Env) (s : Shared) (H : Hp) (E : XK), Room k (A.deeper (envOfC qual scope s.heap.objs.size f cdv)) → PDSs (cxOf (L2N.CX P w) P w K mg base N qual scope f cdv A outer s H E) body t) (hps : ps.length ≤ N.length := by decide) : FnOk P w K mg base (L2N.CX P w) (k + 1) f fd ps (toSp K R) :=
  FnOk.imp (fnT F Sc (wid_len len) rd.rd hd hps) fun _ _ _ _ => toSp_wid
theorem FnH.imp {k : Nat} {f : Addr} {fd : FuncData} {ps : List Str} {sp sp' : Sp} (F : L2H.FnH P w K mg base (L2N.CX P w) k f fd ps sp) (h : ∀ vs H Q E, sp' vs H Q E → sp vs H Q E) : L2H.FnH P w K mg base (L2N.CX P w) k f fd ps sp' :=
  ⟨fun vs H Q E q => F.len vs H Q E (h _ _ _ _ q), fun A outer s H args us vs Q E p hr hot hp he hb hv hs => F.run A outer s H args us vs Q E p hr hot hp he hb hv (h _ _ _ _ hs)⟩
end SM
namespace SM
open PySem PySem.Spec PyProof.Rows L2
section
variable {X : Cx} {e : Expr} {pos p1 p2 p3 : Pos}
end
end SM
namespace SM
open PySem PySem.Spec PyProof.Rows L2
open Sem (wp)
def isSu : GenState → Bool
  | .suspended .. => true
  | _ => false
def pzF : Frame → Frame
  | .ret _ h g l c p kp => .ret (fun _ => .unsupported "") h g l c p kp
  | .gen _ _ l c p => .ret (fun _ => .unsupported "") none false l c p []
def pzG : GenState → GenState
  | .suspended _ l c p fs cl => .suspended (fun _ => .unsupported "") l c p (fs.map pzF) cl
  | x => x
theorem pzG_su (x : GenState) : isSu (pzG x) = isSu x := by cases x <;> rfl
structure RG (P : Nat → Option GenState) (a b : Array GenState) : Prop where
  sz : a.size = b.size
  eq : ∀ i, P i = none → a[i]? = b[i]?
  pz : ∀ i x, P i = some x → isSu x = true ∧ a[i]? = some (pzG x) ∧ b[i]? = some x
  td : ∀ i k l c p fs cl, P i = none → b[i]? = some (.suspended k l c p fs cl) → splitAtGen fs = none
theorem RG.push {P : Nat → Option GenState} {a b : Array GenState} {c : Code} (h : RG P a b) : RG P (a.push (.fresh c)) (b.push (.fresh c)) := by
  have hp : ∀ i x, P i = some x → i < b.size := fun i x e => (Array.getElem?_eq_some_iff.mp (h.pz i x e).2.2).1
  refine ⟨by simp [h.sz], fun i e => ?_, fun i x e => ?_, fun i k l c p fs cl e q => ?_⟩
  · rw [Array.getElem?_push, Array.getElem?_push, h.sz, h.eq i e]
  · obtain ⟨h1, h2, h3⟩ := h.pz i x e
    have := hp i x e
    rw [Array.getElem?_push, Array.getElem?_push, h.sz, if_neg (by omega), if_neg (by omega)]
    exact ⟨h1, h2, h3⟩
  · rw [Array.getElem?_push] at q
    split at q
    · cases q
    · exact h.td i k l c p fs cl e q
theorem RG.set {P : Nat → Option GenState} {a b : Array GenState} {g : Nat} {x : GenState} (h : RG P a b) (hg : P g = none) (ht : ∀ k l c p fs cl, x = .suspended k l c p fs cl → splitAtGen fs = none) : RG P (a.setIfInBounds g x) (b.setIfInBounds g x) := by
  refine ⟨by simp [h.sz], fun i e => ?_, fun i y e => ?_, fun i k l c p fs cl e q => ?_⟩
  · rw [Array.getElem?_setIfInBounds, Array.getElem?_setIfInBounds, h.sz, h.eq i e]
  · have hne : g ≠ i := fun z => by rw [← z, hg] at e; cases e
    rw [Array.getElem?_setIfInBounds_ne hne, Array.getElem?_setIfInBounds_ne hne]
    exact h.pz i y e
  · by_cases hne : g = i
    · subst hne
      rw [Array.getElem?_setIfInBounds] at q
      rw [if_pos rfl] at q
      split at q
      · cases q; exact ht _ _ _ _ _ _ rfl
      · cases q
    · rw [Array.getElem?_setIfInBounds_ne hne] at q
      exact h.td i k l c p fs cl e q
theorem RG.at {P : Nat → Option GenState} {a b : Array GenState} {g : Nat} {x : GenState} (h : RG P a b) (e : a[g]? = some x) (hx : isSu x = false) : P g = none ∧ b[g]? = some x := by
  cases q : P g with
  | none => exact ⟨rfl, by rw [← h.eq g q]; exact e⟩
  | some y =>
    obtain ⟨h1, h2, _⟩ := h.pz g y q
    rw [e] at h2
    cases h2
    rw [pzG_su, h1] at hx
    cases hx
def Slp (b b' : Array GenState) : Prop := ∀ (i : Nat) (x : GenState), b[i]? = some x → isSu x = true → b'[i]? = some x
theorem Slp.refl {b : Array GenState} : Slp b b := fun _ _ h _ => h
theorem Slp.trans {a b c : Array GenState} (h : Slp a b) (k : Slp b c) : Slp a c := fun i x e q => k i x (h i x e q) q
end SM
namespace SM
open PySem PySem.Spec PyProof.Rows L2
open Sem (wp)
abbrev Fi := Sem PySem.Fin
abbrev EPr := End → Shared → Prop
structure Sg (M : Model) (A : Around) (c : Code) (t : Fi) (fs : List Frame) (s : Shared) (Φ : EPr) : Prop where
  go : ∀ Γ p, Γ.code = c → Γ.Woken A → ∃ e s', Runs M Γ p t fs s e s' ∧ Φ e s'
section
variable {M : Model} {A : Around} {c : Code} {fs : List Frame} {s : Shared} {Φ Ψ : EPr} {K : Flow → Fi} {H : Value → Fi} {gd : Bool → Bool} {lv : List Value → List Value}
theorem Sg.imp {t : Fi} (h : Sg M A c t fs s Φ) (k : ∀ e s', Φ e s' → Ψ e s') : Sg M A c t fs s Ψ :=
  ⟨fun Γ p hc hΓ => let ⟨e, s', r, q⟩ := h.go Γ p hc hΓ; ⟨e, s', r, k e s' q⟩⟩
def andThen (rest : List Stmt) (env : Env) (K : Flow → Fi) (H : Value → Fi) (gd : Bool → Bool) (lv : List Value → List Value) : Flow → Fi
  | .next => (execs rest env).wrap K H gd lv
  | .brk => K .brk
  | .cont => K .cont
  | .ret v => K (.ret v)
end
section
variable {P : Program} {w : World} {A : Around} {fs : List Frame} {s : Shared} {Φ : EPr}
end
end SM
namespace SM
open PySem PySem.Spec PyProof.Rows L2
def tr (L : Nat) (s : Shared) : Shared := { s with heap := { s.heap with objs := s.heap.objs.extract 0 L } }
section
variable (P : Program) (w : World) (K : PySem.W.Frag) (mg : Str → Option Value) (base : Heap) (N : List Str) (qual : Str) (scope : Scope) (f : Addr) (cd : Value)
def gX (A : Around) (outer : List Env) (s0 : Shared) (H0 : Hp) : Cx := { cxOf (L2N.CX P w) P w K mg base N qual scope f cd A outer s0 H0 (fun _ _ _ => False) with xe := fun _ _ => False }
structure Wk (A : Around) (outer : List Env) (L : Nat) (oL : Obj) (oC : Addr → Obj) (ip : List (Addr × Obj)) (H : Hp) (s : Shared) : Prop where
  e0 : Env0 P w K mg base A outer s H
  lt : L < s.heap.objs.size
  fr : ∀ b ∈ frs outer, b < L
  bl : base.objs.size ≤ L
  loc : s.heap.get? L = some oL
  free : H L = none
  cel : ∀ x c, (cellsFrom (L + 1) scope.names []).lookup x = some c → s.heap.get? c = some (oC c) ∧ H c = none ∧ ∃ v, (oC c).data = .cell v
  pin : ∀ p ∈ ip, s.heap.get? p.1 = some p.2 ∧ H p.1 = none ∧ p.1 ≠ L ∧ p.1 ∉ frs outer ∧ ∀ v, p.2.data ≠ .cell v
structure LocOk (L : Nat) (oL : Obj) (oC : Addr → Obj) (σ : L2.St) : Prop where
  len : σ.length = N.length
  ns : ∃ es ep, oL.data = .dict es ep ∧ StrKeys es ∧ ∀ (i : Nat) (x : Str) (v : V), N[i]? = some x → σ[i]? = some (some v) → Vis scope x → ∃ u, RelV v u ∧ ((scope.names.lookup x = some .local ∧ nsFind es x = some u) ∨ (scope.names.lookup x = some .cell ∧ ∃ c, (cellsFrom (L + 1) scope.names []).lookup x = some c ∧ (oC c).data = .cell (some u)))
end
section
variable {P : Program} {w : World} {K : PySem.W.Frag} {mg : Str → Option Value} {base : Heap} {N ps : List Str} {qual : Str} {scope : Scope} {f : Addr} {cd : Value} {A : Around} {outer : List Env} {L : Nat} {oL : Obj} {oC : Addr → Obj} {ip : List (Addr × Obj)} {H : Hp} {s : Shared} {σ : L2.St}
end
end SM
namespace SM
open PySem PySem.Spec PyProof.Rows L2 GenW
def goS (M : Model) (A : Around) (gs : GenState) (s : Shared) (Φ : EPr) : Prop := match gs with
  | .fresh c => Sg M A c (M.den c) [] s Φ
  | .suspended k _ c _ fs _ => Sg M A c (k (.send .none)) fs s Φ
  | _ => False
structure Ends2 (g : Nat) (Φ : EPr) (Qy : Value → GenState → Shared → Prop) (Qe : Shared → Prop) : Prop where
  y : ∀ v g0 l k c p fs s1, Φ (.susp v g0 l k c p fs) s1 → (End.susp v g0 l k c p fs).quiet = true ∧ Qy v (End.susp v g0 l k c p fs).genState s1
  r : ∀ r s1, Φ (.ret r) s1 → (r = .ok (.ret .none) ∨ r = .ok .next) ∧ Qe s1
section
variable {P : Program} {w : World} {A : Around} {s : Shared}
end
end SM
namespace SM
open PySem PySem.Spec PyProof.Rows L2 GenW
def noS : Sto := fun _ => none
structure GEn where
  nx : List D → DS → Prop
  rt : List D → D → Prop
  bk : List D → DS → Prop := fun _ _ => False
  ct : List D → DS → Prop := fun _ _ => False
abbrev DTY := GEn → List D → DS → Prop
section
variable (P : Program) (w : World) (K : PySem.W.Frag) (mg : Str → Option Value) (base : Heap) (N : List Str) (qual : Str) (scope : Scope) (f : Addr) (cd : Value) (A : Around) (outer : List Env) (L : Nat)
structure Gh where
  ip : List (Addr × Obj)
  H0 : Hp
  G0 : Hp
  s0 : Shared
  sz : s0.heap.objs.size = L
structure AtY (g : Gh L) (σ : L2.St) (δ : DS) (G H : Hp) (s : Shared) : Prop where
  inv : Inv (gX P w K mg base N qual scope f cd A outer g.s0 g.H0) g.ip σ H s
  re : RpE K G σ δ
  st : Stp K g.G0 g.H0 noS G H noS
def EndY (g : Gh L) : EPr := fun e s3 => ∃ r σ G H, e = .ret r ∧ (r = .ok (.ret .none) ∨ r = .ok .next) ∧ Inv (gX P w K mg base N qual scope f cd A outer g.s0 g.H0) g.ip σ H s3 ∧ Stp K g.G0 g.H0 noS G H noS
def Asl : List D → GenState → Hp → L2.St → Prop
  | [], gs, G, σ => ∀ oL oC ip H s G2, LocOk N scope L oL oC σ → Wk P w K mg base scope A outer L oL oC ip H s → Same G G2 → Rel K G2 H noS → goS (model P w) A gs s (fun e s3 => ∀ (g : Gh L), g.ip = ip → g.H0 = H → g.G0 = G2 → g.s0 = tr L s → EndY P w K mg base N qual scope f cd A outer L g e s3)
  | d :: ws, gs, G, σ => ∀ oL oC ip H s G2, LocOk N scope L oL oC σ → Wk P w K mg base scope A outer L oL oC ip H s → Same G G2 → Rel K G2 H noS → goS (model P w) A gs s (fun e s3 => ∀ (g : Gh L), g.ip = ip → g.H0 = H → g.G0 = G2 → g.s0 = tr L s →
      ∃ v g0 l k c p fs σ δ G H x, e = .susp v g0 l k c p fs ∧ e.quiet = true ∧ AtY P w K mg base N qual scope f cd A outer L g σ δ G H s3 ∧ RelV x v ∧ Rp K G x d ∧ Asl ws e.genState G σ)
def Phi (g : Gh L) : List D → EPr
  | [] => EndY P w K mg base N qual scope f cd A outer L g
  | d :: ws => fun e s3 => ∃ v g0 l k c p fs σ δ G H x, e = .susp v g0 l k c p fs ∧ e.quiet = true ∧ AtY P w K mg base N qual scope f cd A outer L g σ δ G H s3 ∧ RelV x v ∧ Rp K G x d ∧ Asl P w K mg base N qual scope f cd A outer L ws e.genState G σ
structure GCy (c : Code) (fs : List Frame) (gd : Bool → Bool) : Prop where
  over : A.over c fs = A.deeper (envOfC qual scope L f cd)
  split : splitAtGen fs = none
  guard : fs.any Frame.guarded = false
  gd : gd false = false
def GSy (g : Gh L) (ws : List D) (E : GEn) (s : Shared) : Flow → Prop
  | .next => ∃ σ δ G H, AtY P w K mg base N qual scope f cd A outer L g σ δ G H s ∧ E.nx ws δ
  | .brk => ∃ σ δ G H, AtY P w K mg base N qual scope f cd A outer L g σ δ G H s ∧ E.bk ws δ
  | .cont => ∃ σ δ G H, AtY P w K mg base N qual scope f cd A outer L g σ δ G H s ∧ E.ct ws δ
  | .ret u => ∃ σ G H v d, Inv (gX P w K mg base N qual scope f cd A outer g.s0 g.H0) g.ip σ H s ∧ Stp K g.G0 g.H0 noS G H noS ∧ RelV v u ∧ Rp K G v d ∧ E.rt ws d
def GKy (c : Code) (fs : List Frame) (Kf : Flow → Fi) (E : GEn) : Prop := ∀ (g : Gh L) (ws : List D) (s : Shared) (fl : Flow), GSy P w K mg base N qual scope f cd A outer L g ws E s fl → Sg (model P w) A c (Kf fl) fs s (Phi P w K mg base N qual scope f cd A outer L g ws)
structure GY (st : Stmt) (t : DTY) : Prop where
  run : ∀ (c : Code) (fs : List Frame) (Kf : Flow → Fi) (J : Value → Fi) (gd : Bool → Bool) (lv : List Value → List Value) (E : GEn), GCy qual scope f cd A L c fs gd → GKy P w K mg base N qual scope f cd A outer L c fs Kf E →
    ∀ (g : Gh L) (ws : List D) (σ : L2.St) (δ : DS) (G H : Hp) (s : Shared), AtY P w K mg base N qual scope f cd A outer L g σ δ G H s → t E ws δ → Sg (model P w) A c ((exec st (envOfC qual scope L f cd)).wrap Kf J gd lv) fs s (Phi P w K mg base N qual scope f cd A outer L g ws)
structure GYs (sts : List Stmt) (t : DTY) : Prop where
  run : ∀ (c : Code) (fs : List Frame) (Kf : Flow → Fi) (J : Value → Fi) (gd : Bool → Bool) (lv : List Value → List Value) (E : GEn), GCy qual scope f cd A L c fs gd → GKy P w K mg base N qual scope f cd A outer L c fs Kf E →
    ∀ (g : Gh L) (ws : List D) (σ : L2.St) (δ : DS) (G H : Hp) (s : Shared), AtY P w K mg base N qual scope f cd A outer L g σ δ G H s → t E ws δ → Sg (model P w) A c ((execs sts (envOfC qual scope L f cd)).wrap Kf J gd lv) fs s (Phi P w K mg base N qual scope f cd A outer L g ws)
end
section
variable {P : Program} {w : World} {K : PySem.W.Frag} {mg : Str → Option Value} {base : Heap} {N ps : List Str} {qual : Str} {scope : Scope} {f : Addr} {cd : Value} {A : Around} {outer : List Env} {L : Nat}
end
end SM
namespace SM
open PySem PySem.Spec PyProof.Rows L2 GenW
structure Born (N : List Str) (scope : Scope) (c : Code) (s s' : Shared) (L a : Addr) (g : Nat) (oL : Obj) (oC : Addr → Obj) (go : Obj) (σ : L2.St) : Prop where
  atL : L = s.heap.objs.size
  la : L < a
  lt : a < s'.heap.objs.size
  loc : s'.heap.get? L = some oL
  ok : LocOk N scope L oL oC σ
  cel : ∀ x c, (cellsFrom (L + 1) scope.names []).lookup x = some c → s'.heap.get? c = some (oC c) ∧ ∃ v, (oC c).data = .cell v
  nL : ∀ v, oL.data ≠ .cell v
  gen : s'.heap.get? a = some go
  isg : ∀ h : Heap, h.get? a = some go → h.IsGen a g
  nG : ∀ v, go.data ≠ .cell v
  new : s'.gens = s.gens.push (.fresh c)
  num : g = s.gens.size
  os : s'.os = s.os
  keep : ∀ b o, s.heap.get? b = some o → s'.heap.get? b = some o
section
variable {P : Program} {w : World} {K : PySem.W.Frag} {mg : Str → Option Value} {base : Heap} {k : Nat} {f : Addr} {name qual : Str} {params : Arguments} {body : List Stmt} {scope : Scope} {dV kV doc pm cdv ct oc : Value} {an od : Option Addr} {osl : Array (Option Value)} {N ps : List Str} {A : Around} {outer : List Env} {s : Shared} {H : Hp}
end
end SM
namespace SM
open PySem PySem.Spec PyProof.Rows L2 GenW
section
variable {K : PySem.W.Frag} {G G' H H' : Hp} {S : Sto}
end
section
variable {X : Cx} {N ps : List Str} {qual : Str} {scope : Scope} {f : Addr} {cd : Value} {L a : Addr} {g : Nat} {pins : List (Addr × Obj)} {σ : L2.St} {G H : Hp} {S : Sto} {s : Shared} {ws : List D}
structure FSt (X : Cx) (L a : Addr) (pins : List (Addr × Obj)) : Prop where
  lo : X.env.locals ≠ L
  ce : ∀ x c, X.env.cells.lookup x = some c → c < L
  fr : ∀ b ∈ frs X.stack, b < L
  bl : X.base.objs.size ≤ L
  la : L < a
  pn : ∀ p ∈ X.pn ++ pins, p.1 ≠ L
  pl : ∀ p ∈ X.pn ++ pins, p.1 ≠ a
structure ForSt (X : Cx) (N : List Str) (qual : Str) (scope : Scope) (f : Addr) (cd : Value) (L a : Addr) (g : Nat) (pins : List (Addr × Obj)) (ws : List D) (σ : L2.St) (G H : Hp) (s : Shared) (oL : Obj) (oC : Addr → Obj) (go : Obj) (gs : GenState) (σg : L2.St) : Prop where
  inv : Inv X ((L, oL) :: (a, go) :: pins) σ H s
  at_ : s.gens[g]? = some gs
  asl : Asl X.prog X.w X.K X.mg X.base N qual scope f cd X.A.in1 X.stack L ws gs G σg
  ok : LocOk N scope L oL oC σg
  cel : ∀ x c, (cellsFrom (L + 1) scope.names []).lookup x = some c → s.heap.get? c = some (oC c) ∧ H c = none ∧ ∃ v, (oC c).data = .cell v
  isg : ∀ h : Heap, h.get? a = some go → h.IsGen a g
end
end SM
namespace SM
open PySem PySem.Spec PyProof.Rows L2 GenW
def untH (H : Hp) (cs : List Addr) : Hp := fun b => if b ∈ cs then none else H b
theorem unt_no {H : Hp} {cs : List Addr} {b : Addr} (h : b ∉ cs) : untH H cs b = H b := if_neg h
section
variable {K : PySem.W.Frag} {G G' H H' : Hp} {S S' : Sto} {cs : List Addr} {oC : Addr → Obj}
end
section
variable {X : Cx} {pins : List (Addr × Obj)} {σ : L2.St} {H : Hp} {s : Shared} {cs : List Addr} {oC : Addr → Obj}
structure CsOk (X : Cx) (cs : List Addr) (pins : List (Addr × Obj)) : Prop where
  lo : ∀ c ∈ cs, c ≠ X.env.locals
  ce : ∀ x c, X.env.cells.lookup x = some c → c ∉ cs
  pn : ∀ p ∈ X.pn ++ pins, p.1 ∉ cs
  ex : ∀ c ∈ cs, c ∈ X.ex ∨ X.s_0.heap.objs.size ≤ c
end
end SM
namespace SM
open PySem PySem.Spec PyProof.Rows L2 GenW
section
variable {X : Cx} {pins : List (Addr × Obj)} {σ : L2.St} {G H : Hp} {S : Sto} {s : Shared} {ws : List D}
def MadeY (X : Cx) (pins : List (Addr × Obj)) (σ : L2.St) (G H : Hp) (ws : List D) (u : Value) (s : Shared) : Prop :=
  ∃ (N ps : List Str) (qual : Str) (scope : Scope) (f : Addr) (cd : Value) (L a : Addr) (g : Nat) (oL : Obj) (oC : Addr → Obj) (go : Obj) (gs : GenState) (σg : L2.St), GScope N ps scope ∧ u = .ref a ∧ X.s_0.heap.objs.size ≤ L ∧ X.env.locals < L ∧ (∀ b, L ≤ b → H b = none) ∧ (∀ p ∈ X.pn ++ pins, p.1 < L) ∧ FSt X L a pins ∧ ForSt X N qual scope f cd L a g pins ws σ G H s oL oC go gs σg
abbrev DTYc := DS → Sto → (List D → Sto → Prop) → XQ → Prop
structure PGY (X : Cx) (e : Expr) (td : DTYc) : Prop where
  run : ∀ W, L2N.Takes X W → ∀ (pins : List (Addr × Obj)) (s : Shared) (σ : L2.St) (H G : Hp) (δ : DS) (S : Sto) (QD : List D → Sto → Prop) (XD : XQ), Inv X pins σ H s → RpE X.K G σ δ → Rel X.K G H S → td δ S QD XD → KX X.K W σ G H S XD →
    wpAny (model X.prog X.w) X.A (eval e X.env) (fun u s' => ∃ ws G1 H1 S1, Stp X.K G H S G1 H1 S1 ∧ QD ws S1 ∧ MadeY X pins σ G1 H1 ws u s') X.xe s
end
end SM
namespace SM
open PySem PySem.Spec PyProof.Rows L2 GenW
structure GnF (P : Program) (w : World) (K : PySem.W.Frag) (mg : Str → Option Value) (base : Heap) (k : Nat) (f : Addr) (fd : FuncData) (ps : List Str) (R : DSp) : Prop where
  len : Ln ps.length R
  ex : ∃ (N : List Str) (qual : Str) (scope : Scope) (body : List Stmt) (cd : Value), GScope N ps scope ∧
    (∀ (A : Around) (outer : List Env) (s : Shared) (H : Hp) (args : Args) (us : List Value) (vs : List V), Room k A → Env0 P w K mg base A outer s H → BindsTo s fd args (ps.zip us) → Vals vs us → vs.length = ps.length →
      codeAny (model P w) A (.call (.ref f) args) (fun z s' => ∃ a g oL oC go, z = .ok (.ret (.ref a)) ∧ Born N scope (.func body (envOfC qual scope s.heap.objs.size f cd)) s s' s.heap.objs.size a g oL oC go (start N vs)) s) ∧
    ∀ (A : Around) (outer : List Env) (L : Nat) (ds : List D) (vs : List V) (G : Hp) (S : Sto) (Q : DQ) (X : XQ), Room k A → R ds S Q X → Rps K G vs ds → ∃ ws, Asl P w K mg base N qual scope f cd A outer L ws (.fresh (.func body (envOfC qual scope L f cd))) G (start N vs) ∧ Q (.lst ws) S
section
variable {X : Cx} {k : Nat} {f : Addr} {fd : FuncData} {ps : List Str} {R : DSp} {pins : List (Addr × Obj)} {σ : L2.St} {G H : Hp} {S : Sto} {s : Shared}
structure PDK (X : Cx) (kws : List Keyword) (t : DTA) : Prop where
  run : ∀ W, L2N.Takes X W → PK X kws (liftA X.K W t)
end
end SM
namespace SM
open PySem PySem.Spec PyProof.Rows L2 GenW
section
variable {X : Cx} {elt tg iter : Expr} {ifs : List Expr} {scope : Scope} {own : List (Str × Nat)} {td : DTYc} {q : Pat} {tt : DTT} {te : DTE} {pos : Pos}
end
end SM
namespace SM
open PySem PySem.Spec PyProof.Rows L2 GenW
section
variable {K : PySem.W.Frag} {G G' H H' G0 H0 : Hp} {S S' S0 : Sto} {cs : List Addr} {oC : Addr → Obj} {A : Addr} {acc : List D}
structure LcT (K : PySem.W.Frag) (cs : List Addr) (oC : Addr → Obj) (G0 H0 : Hp) (S0 : Sto) (A : Addr) (G H : Hp) (S : Sto) (acc : List D) : Prop where
  lc : LcI K G0 H0 S0 A G H S acc
  cf : ∀ c ∈ cs, H c = some (.frz (oC c) (.ext fun _ => True)) ∧ G c = none ∧ S c = none
theorem LcT.step (I : LcT K cs oC G0 H0 S0 A G H S acc) (s : Stp K G H S G' H' S') : LcT K cs oC G0 H0 S0 A G' H' S' acc := by
  refine ⟨I.lc.step s, fun c hc => ?_⟩
  obtain ⟨h1, h2, h3⟩ := I.cf c hc
  obtain ⟨e1, e2, e3⟩ := s.fr c _ h1 h2 h3
  refine ⟨e1, ?_, e2⟩
  rcases e3 with e3 | ⟨vs, e3⟩
  · exact e3
  · cases e3
theorem LcT.more {us : List V} {v : V} {d : D} (I : LcT K cs oC G0 H0 S0 A G H S acc) (hA : A ∉ cs) (h0 : H0 A = none) (r : Rp K G v d) (hu : H A = some (.lst us)) : LcT K cs oC G0 H0 S0 A G (upd H A (.lst (us ++ [v]))) S (acc ++ [d]) :=
  ⟨I.lc.more (vs := []) h0 r hu, fun c hc => by rw [upd_ne (show c ≠ A from fun e => hA (by rw [← e]; exact hc))]; exact I.cf c hc⟩
theorem LcT.un (I : LcT K cs oC G0 H0 S0 A G H S acc) (hA : A ∉ cs) (h0 : ∀ c ∈ cs, H0 c = none) : LcI K G0 H0 S0 A G (untH H cs) S acc := by
  obtain ⟨us, e, r⟩ := I.lc.ex
  refine ⟨⟨I.lc.st.sg, ⟨fun b u e => ?_, fun b o e => ?_⟩, fun b o e g n => ?_⟩, ⟨us, ?_, r⟩, I.lc.hg, I.lc.hs⟩
  · rw [unt_no fun hm => by have := (I.cf b hm).2.1; rw [e] at this; cases this]; exact I.lc.st.rel.le b u e
  · rw [unt_no fun hm => by have := (I.cf b hm).2.2; rw [e] at this; cases this]; exact I.lc.st.rel.own b o e
  · rw [unt_no fun hm => by have := h0 b hm; rw [e] at this; cases this]; exact I.lc.st.fr b o e g n
  · rw [unt_no hA]; exact e
end
section
variable {X : Cx} {elt tg iter tg1 iter1 : Expr} {ifs ifs1 : List Expr} {scope : Scope} {own : List (Str × Nat)} {vs1 : List Nat} {td : DTYc} {ti1 : DTI} {q q1 : Pat} {tt tt1 : DTT} {te : DTE} {pos : Pos}
end
end SM
namespace SM
open PySem PySem.Spec PyProof.Rows L2 GenW
section
variable {X : Cx} {e ke : Expr} {es : List Expr} {kws : List Keyword} {pos p kpos : Pos} {k j n : Nat} {x kx : Str} {ks ps : List Str} {t tk : DTA} {tke : DTE} {R : DSp} {gD : List D → List D → List D} {dds : List D}
structure Gfd (P : Program) (w : World) (K : PySem.W.Frag) (mg : Str → Option Value) (base : Heap) (k : Nat) (x : Str) (ps : List Str) (dds : List D) (R : DSp) : Prop where
  ex : ∃ f fd dvs ds, FnOk P w K mg base (L2N.CX P w) k f fd ps (toSp K R) ∧ mg x = some (.ref f) ∧ PySem.W.keepIn K (.ref f) = true ∧ Binds K fd ps ds ∧ Vals dvs ds ∧ ∀ G, Rps K G dvs dds
structure Gfk (P : Program) (w : World) (K : PySem.W.Frag) (mg : Str → Option Value) (base : Heap) (k : Nat) (x : Str) (ps : List Str) (n : Nat) (ks : List Str) (gD : List D → List D → List D) (R : DSp) : Prop where
  ex : ∃ f fd gv gV, FnOk P w K mg base (L2N.CX P w) k f fd ps (toSp K R) ∧ mg x = some (.ref f) ∧ PySem.W.keepIn K (.ref f) = true ∧ KBn K fd ps n ks gv gV ∧ ∀ G vs ds zs es, Rps K G vs ds → Rps K G zs es → Rps K G (gV vs zs) (gD ds es)
structure Gg (P : Program) (w : World) (K : PySem.W.Frag) (mg : Str → Option Value) (base : Heap) (k : Nat) (x : Str) (ps : List Str) (dds : List D) (R : DSp) : Prop where
  ex : ∃ f fd dvs ds, GnF P w K mg base k f fd ps R ∧ mg x = some (.ref f) ∧ PySem.W.keepIn K (.ref f) = true ∧ Binds K fd ps ds ∧ Vals dvs ds ∧ ∀ G, Rps K G dvs dds
structure Ggk (P : Program) (w : World) (K : PySem.W.Frag) (mg : Str → Option Value) (base : Heap) (k : Nat) (x : Str) (ps : List Str) (n : Nat) (ks : List Str) (gD : List D → List D → List D) (R : DSp) : Prop where
  ex : ∃ f fd gv gV, GnF P w K mg base k f fd ps R ∧ mg x = some (.ref f) ∧ PySem.W.keepIn K (.ref f) = true ∧ KBn K fd ps n ks gv gV ∧ ∀ G vs ds zs es, Rps K G vs ds → Rps K G zs es → Rps K G (gV vs zs) (gD ds es)
end
section
variable {P : Program} {w : World} {K : PySem.W.Frag} {mg : Str → Option Value} {base : Heap} {N ps : List Str} {qual : Str} {scope : Scope} {f : Addr} {cd : Value} {A : Around} {outer : List Env} {L k : Nat}
end
end SM
namespace SM
open PySem
end SM
namespace SM
open PySem PySem.Spec PyProof.Rows L2
section
variable {X : Cx}
end
end SM
namespace SM
open PySem PySem.Spec PyProof.Rows L2
structure whileK (tc : DTT) (tb : DTS) (E : DEnds) (δ : DS) (S : Sto) : Prop where
  it : ∃ I : Nat → DS → Sto → Prop, (∃ m, I m δ S) ∧ ∀ m δ S, I m δ S → tc δ S (fun b S1 => brn b (tb { E with nx := fun δ' S' => ∃ m', m' < m ∧ I m' δ' S', ct := fun δ' S' => ∃ m', m' < m ∧ I m' δ' S', bk := E.nx } δ S1) (E.nx δ S1)) (fun x S1 => E.xc x δ S1)
section
variable {X : Cx} {c : Expr} {body : List Stmt} {pos : Pos}
end
end SM
namespace SM
open PySem PySem.Spec PyProof.Rows L2
variable {K : PySem.W.Frag} {G G' G2 H H' H2 G0 H0 : Hp} {S S' S2 S0 : Sto} {X : Cx} {e o fe : Expr} {es : List Expr} {pos pos' p : Pos} {k : Nat} {fl : Str} {ps : List Str} {R : DSp} {c : Nat}
end SM
namespace SM
open PySem PySem.Spec PyProof.Rows L2
variable {K : PySem.W.Frag} {G G' G2 H H' H2 G0 H0 : Hp} {S S' S2 S0 : Sto} {X : Cx} {e o fe : Expr} {es : List Expr} {pos pos' p : Pos} {k : Nat} {fl : Str} {ps : List Str} {R : DSp} {c : Nat} {te to : DTE}
end SM
namespace SM
open PySem PySem.Spec PyProof.Rows L2
variable {K : PySem.W.Frag} {G G' G2 H H' H2 : Hp} {S S' S2 : Sto} {X : Cx}
def idxS : List Str → Str → Option Nat
  | [], _ => none
  | x :: r, s => if x = s then some 0 else (idxS r s).map (· + 1)
theorem idxS_spec {s : Str} : ∀ {l : List Str} {j : Nat}, idxS l s = some j → l[j]? = some s ∧ ∀ m z, m < j → l[m]? = some z → z ≠ s
  | [], _, h => by cases h
  | x :: r, j, h => by
    unfold idxS at h
    split at h
    · rename_i e
      cases h
      exact ⟨by rw [e]; rfl, fun m z hm => absurd hm (Nat.not_lt_zero _)⟩
    · rename_i e
      cases hr : idxS r s with
      | none => rw [hr] at h; cases h
      | some k =>
        rw [hr] at h
        cases h
        obtain ⟨h1, h2⟩ := idxS_spec hr
        refine ⟨h1, fun m z hm hz => ?_⟩
        cases m with
        | zero => cases hz; exact e
        | succ m => exact h2 m z (Nat.lt_of_succ_lt_succ hm) hz
theorem idxS_app {s : Str} {r : List Str} : ∀ {l : List Str}, s ∉ l → idxS (l ++ s :: r) s = some l.length
  | [], _ => by show (if s = s then _ else _) = _; rw [if_pos rfl]; rfl
  | x :: l, h => by
    show (if x = s then _ else (idxS (l ++ s :: r) s).map (· + 1)) = _
    rw [if_neg (fun e => h (by rw [e]; exact List.mem_cons_self ..)), idxS_app (fun z => h (List.mem_cons_of_mem _ z))]
    rfl
def idxD : RCD := fun ds S Q => match ds with
  | [d, .str y] => vwk S d fun d' => (match d' with
    | .lst l => (match strsD l with
      | some ys => (match idxS ys y with
        | some j => Q (.int (j : Nat)) S
        | none => False)
      | none => False)
    | _ => False)
  | _ => False
theorem m_index : MtR X "list.index" (liftM X.K idxD) := MtR.weak mt_index (by
  rintro x xs H Q ⟨G, S, ds, QD, rl, rs, h, kq⟩
  unfold idxD at h
  split at h
  · rename_i d y
    cases rs with
    | cons r1 r2 =>
    cases r2 with
    | cons r2 r3 =>
    cases r3
    cases r2 with
    | str hy =>
    rw [vwk_is] at h
    split at h
    · rename_i l ed
      split at h
      · rename_i ys el
        obtain ⟨a, vs, rfl, ha, rv, _⟩ := vw_lst rl r1 ed
        obtain ⟨rfl, hok⟩ := strsD_rps rv el
        split at h
        · rename_i j ej
          obtain ⟨h1, h2⟩ := idxS_spec ej
          refine ⟨a, ys.map V.str, .str y, j, .str y, rfl, rfl, SqL.of ha, rfl, ?_, ?_, ?_, ?_, kq _ _ _ _ _ (Stp.refl rl) (.int _) h⟩
          · rw [List.all_eq_true]
            intro v hv
            obtain ⟨z, _, rfl⟩ := List.mem_map.mp hv
            rfl
          · rw [List.getElem?_map, h1]; rfl
          · show (y == y) = true
            exact beq_self_eq_true y
          · intro m z hm hz
            rw [List.getElem?_map] at hz
            cases e : ys[m]? with
            | none => rw [e] at hz; cases hz
            | some w =>
              rw [e] at hz
              cases hz
              show (w == y) = false
              exact beq_eq_false_iff_ne.mpr (h2 m w hm e)
        · exact h.elim
      · exact h.elim
    · exact h.elim
  · exact h.elim)
end SM
namespace SM
open PySem PySem.Spec PyProof.Rows L2
variable {K : PySem.W.Frag} {G G' G2 H H' H2 : Hp} {S S' S2 : Sto} {X : Cx}
end SM
namespace SM
open PySem PySem.Spec PyProof.Rows L2 HotX
variable {K : PySem.W.Frag} {G G' G2 H H' H2 : Hp} {S S' S2 : Sto}
structure CgtZ (K : PySem.W.Frag) (oe : Obj) (c : Nat) (d : Option Addr) : Prop where
  zc : Zc (.ref (cad K c)) d oe
  fl : ∃ vs, oe.data = .fields vs
def trZ (tab : List (Nat × Bool)) (oi : Option Nat) (ts : Addr → Option Addr → Nat → DTS) (E : DEnds) (x : Exn) (δ' : DS) (S' : Sto) : Prop := match tab.lookup x.c with
  | some true => ∀ a d, ts a d x.c (dEnds E oi) (dAt δ' a d x oi) S'
  | _ => False
def dTryZ (tab : List (Nat × Bool)) (oi : Option Nat) (tb : DTS) (ts : Addr → Option Addr → Nat → DTS) : DTS := fun E δ S => tb { nx := E.nx, rt := E.rt, bk := E.bk, ct := E.ct, xc := trZ tab oi ts E } δ S
section
variable {X : Cx} {x n : Str} {cv : Value} {i : Nat} {body suite : List Stmt} {b₀ : Stmt} {np pos pos' : Pos} {tb : DTS} {ts : Addr → Option Addr → Nat → DTS} {tab : List (Nat × Bool)}
theorem ds_tryZ (hs : X.stack = X.env :: X.outer) (hf : X.env.frame = some X.env.locals) (hN : X.N.Nodup) (hi : X.N[i]? = some n) (hln : X.env.kindOf n = some .local) (hc : Names X x cv) (em : EmOk X.K cv tab)
    (hb : ∀ (pn : List (Addr × Obj)) (xe : Value → Shared → Prop), PDSsX (X.tr pn xe) body tb)
    (hsu : ∀ (a : Addr) (oe : Obj) (c : Nat) (d : Option Addr) (pn : List (Addr × Obj)), CgtZ X.K oe c d → PDSs (X.suite a ((a, oe) :: pn)) (b₀ :: suite) (ts a d c)) :
    PDS X (.Try body [.ExceptHandler (some (.Name x np)) (some n) (b₀ :: suite) pos'] [] [] pos) (dTryZ tab (some i) tb ts) := ⟨fun W tk po => by
  refine PS.weak (L2.ps_try_as (tb := fun W => liftS X.K W tb) (ts := fun a cls d => fun D σ H => ∃ c, cls = .ref (cad X.K c) ∧ liftS X.K (fun _ _ _ _ => False) (ts a d c) D σ H) (Wout := fun _ _ _ _ => False) hs hf hN hi hln hc takes0X (fun W' pn xe tk' po' => (hb pn xe).run W' tk' po') (fun a oe cls d pn hz hff => ⟨fun pins s σ H D I h => ?_⟩)) ?_
  · obtain ⟨c, rfl, h⟩ := h
    exact ((hsu a oe c d pn ⟨hz, hff⟩).run _ takes0N PassesOwn.never).run pins s σ H D I h
  · rintro D σ H ⟨G, δ, S, E, re, rl, h, er⟩
    refine ⟨G, δ, S, _, re, rl, h, ⟨er.nx, er.rt, er.bk, er.ct, fun G' H' S' σ' δ' cls d x st re' rx q => ?_⟩⟩
    have ec := rx.1
    subst ec
    revert q
    unfold trZ
    show (match tab.lookup x.c with | some true => _ | _ => False) → _
    cases hl : tab.lookup x.c with
    | none => exact fun z => z.elim
    | some b =>
      cases b with
      | false => exact fun z => z.elim
      | true =>
        intro q
        refine ⟨true, em _ _ hl, fun _ a ha => ⟨x.c, rfl, G', _, S', _, re'.put i rx.rp, st.rel, q a d, ?_⟩, fun z => Bool.noConfusion z⟩
        exact ⟨fun G2 H2 S2 σ2 δ2 s2 r2 z => er.nx _ _ _ _ _ (st.trans s2) (r2.unset i) z, fun G2 H2 S2 v d2 s2 r2 z => er.rt _ _ _ _ _ (st.trans s2) r2 z, fun G2 H2 S2 σ2 δ2 s2 r2 z => er.bk _ _ _ _ _ (st.trans s2) (r2.unset i) z, fun G2 H2 S2 σ2 δ2 s2 r2 z => er.ct _ _ _ _ _ (st.trans s2) (r2.unset i) z, fun _ _ _ _ _ _ _ _ _ _ _ z => z⟩⟩
end
section
variable {X : Cx} {a : Addr} {oe : Obj} {c : Nat} {d : Option Addr} {pn : List (Addr × Obj)} {e : Expr} {te : DTE} {fl : Str} {pos p : Pos} {tbl : List (Nat × Nat)} {tab : List (Nat × Bool)}
theorem de_xfZ (F : FxOk X.K fl tbl) (hz : CgtZ X.K oe c d) (he : PD (X.suite a ((a, oe) :: pn)) e te) (hb : attributeBase e fl X.env (eval e X.env) = eval e X.env := by rfl) :
    PD (X.suite a ((a, oe) :: pn)) (.Attribute e fl pos) (dXf tbl a d c te) := ⟨fun W tk => by
  cases hl : tbl.lookup c with
  | none =>
    refine PE.mk fun pins s σ H Q I h => ?_
    refine attr_of hb (thn ((he.run W tk).run pins s σ H (fun _ _ => False) I ?_) fun u s1 hh => ?_)
    · obtain ⟨G, δ, S, QD, XD, re, rl, h, q, kx⟩ := h
      refine ⟨G, δ, S, _, XD, re, rl, h, fun G1 H1 S1 v x s1 r z => ?_, kx⟩
      cases x <;> first | exact z.elim | (rw [hl] at z; exact z.2.2.2.elim)
    · obtain ⟨_, _, _, _, z⟩ := hh
      exact z.elim
  | some j =>
    obtain ⟨T, hno, hj⟩ := F c j hl
    refine PE.weak (pe_xf (d := d) T hno hz.zc hz.fl (he.run W tk) hb) ?_
    rintro σ H Q ⟨G, δ, S, QD, XD, re, rl, h, q, kx⟩
    refine ⟨G, δ, S, _, XD, re, rl, h, fun G1 H1 S1 v x s1 r z => ?_, kx⟩
    cases r with
    | exn0 c' =>
      obtain ⟨rfl, hd, _, z⟩ := z
      rw [hl] at z
      exact False.elim z
    | @exn a' dd fs vs c' ds h1 h2 h3 h4 =>
      obtain ⟨rfl, hd, rfl, z⟩ := z
      rw [hl] at z
      have z' : (match ds[j]? with | some v => QD v S1 | none => False) := z
      cases hv : ds[j]? with
      | none => rw [hv] at z'; exact False.elim z'
      | some v =>
        rw [hv] at z'
        obtain ⟨u, hu, ru⟩ := h2.get hv
        exact ⟨rfl, rfl, dd, fs, u, hd.symm, s1.rel.at h1 rfl, h4 j fl u hj hu, q _ _ _ _ _ s1 ru z'⟩
    | _ => exact z.elim⟩
theorem de_isEZ {u : Value} {cv : V} {ce : Expr} (hg : Gl X "isinstance") (hm : X.mg "isinstance" = none) (hcv : ∀ v, RelV cv v → v = u) (hce : PE (X.suite a ((a, oe) :: pn)) ce (tC cv)) (T : IxOk X.K u tab) (hz : CgtZ X.K oe c d) (ha : PD (X.suite a ((a, oe) :: pn)) e te)
    (h1 : starEach (e :: [ce]) X.env = (false, eval e X.env) :: starEach [ce] X.env := by rfl) (h2 : starEach (ce :: []) X.env = (false, eval ce X.env) :: starEach [] X.env := by rfl) (h3 : (backTo pos (starEach [ce] X.env)).any (·.1) = false := by rfl) :
    PD (X.suite a ((a, oe) :: pn)) (.Call (.Name "isinstance" p) [e, ce] [] pos) (dIsE tab a d c te) := ⟨fun W tk => by
  cases hl : tab.lookup c with
  | none =>
    have k : CallR (X.suite a ((a, oe) :: pn)) (.builtin "isinstance") (fun _ _ _ => False) := fun pins s σ H xs us Q I r h => False.elim h
    refine PE.weak (pe_callB k hg hm (by decide +kernel) (pa_cons (ha.run W tk) (pa_cons hce pa_nil h2) h1) (he := h1) (hpl := h3)) ?_
    rintro σ H Q ⟨G, δ, S, QD, XD, re, rl, h, kq, kx⟩
    refine ⟨G, δ, S, _, XD, re, rl, h, fun G1 H1 S1 v x s1 r z => ?_, kx⟩
    cases r with
    | exn0 c' =>
      obtain ⟨rfl, hd, _, z⟩ := z
      rw [hl] at z
      exact False.elim z
    | exn _ _ _ _ =>
      obtain ⟨rfl, hd, _, z⟩ := z
      rw [hl] at z
      exact False.elim z
    | _ => exact z.elim
  | some b =>
    obtain ⟨C, hcl, hk⟩ := T c b hl
    refine PE.weak (pe_callB (call_isX C hcl hz.zc hz.fl) hg hm (by decide +kernel) (pa_cons (ha.run W tk) (pa_cons hce pa_nil h2) h1) (he := h1) (hpl := h3)) ?_
    rintro σ H Q ⟨G, δ, S, QD, XD, re, rl, h, kq, kx⟩
    refine ⟨G, δ, S, _, XD, re, rl, h, fun G1 H1 S1 v x s1 r z => ?_, kx⟩
    cases r with
    | exn0 c' =>
      obtain ⟨rfl, hd, rfl, z⟩ := z
      rw [hl] at z
      exact ⟨cv, u, b, rfl, hcv, hk, (fun dd e => by rw [← hd] at e; cases e), kq _ _ _ _ _ s1 (.bl b) z⟩
    | @exn a' dd fs vs c' ds g1 g2 g3 g4 =>
      obtain ⟨rfl, hd, rfl, z⟩ := z
      rw [hl] at z
      exact ⟨cv, u, b, rfl, hcv, hk, (fun dd' e => by rw [← hd] at e; cases e; exact ⟨fs, s1.rel.at g1 rfl⟩), kq _ _ _ _ _ s1 (.bl b) z⟩
    | _ => exact z.elim⟩
end
structure FnZ (P : Program) (w : World) (K : PySem.W.Frag) (mg : Str → Option Value) (base : Heap) (k : Nat) (f : Addr) (fd : FuncData) (ps : List Str) (sp : Sp) : Prop where
  arity : ∀ {vs H Q E}, sp vs H Q E → vs.length = ps.length
  runs : ∀ {A : Around} {outer : List Env} {s : Shared} {H : Hp} {args : Args} {us : List Value} {vs : List V} {Q : VK} {E : XK} (p : Addr × Obj), Env0 P w K mg base A outer s H → L2H.PinOk outer H s p → L2H.RoomH k A → Vals vs us → BindsTo s fd args (ps.zip us) → sp vs H Q E →
    codeAny (model P w) A (.call (.ref f) args) (CR (L2N.CX P w) outer P w H s Q E) s
section
variable {P : Program} {w : World} {mg : Str → Option Value} {base : Heap}
theorem fnTZ {x qual : Str} {params : Arguments} {body : List Stmt} {scope : Scope} {dvs : List V} {kws : List (Str × V)} {f : Addr} {fd : FuncData} {N ps : List Str} {k : Nat} {R : DSp} {t : DTS} (F : FunD K x qual params body scope dvs kws f fd) (Sc : FnScope N ps scope) (len : Ln ps.length R) (rd : Rd t N R)
    (hd : ∀ (cdv : Value) (A : Around) (outer : List Env) (s : Shared) (H : Hp) (E : XK) (p : Addr × Obj), L2H.RoomH k (A.deeper (envOfC qual scope s.heap.objs.size f cdv)) → PDSs (L2H.cxH (L2N.CX P w) P w K mg base N qual scope f cdv A outer s H E p) body t)
    (hps : ps.length ≤ N.length := by decide) : FnZ P w K mg base (k + 1) f fd ps (toSp K R) := by
  obtain ⟨_, _, _, _, _, _, _, cdv, _, _, rfl, lk, code, _⟩ := F.ex
  have ar : ∀ {vs H Q E}, toSp K R vs H Q E → vs.length = ps.length := fun ⟨_, _, _, _, _, _, rs, h, _⟩ => by rw [rs.length]; exact len _ _ _ _ h
  refine ⟨ar, fun {A outer s H args us vs Q E} p e0 pin rm vals bind h => ?_⟩
  have keepB : ∀ b o, base.get? b = some o → s.heap.get? b = some o := fun b o g => (e0.bs b o g).1
  have inK := e0.mod.kin.keeps keepB
  refine codeAny_call_function rm.depth (inK _ _ lk) rfl Sc.co Sc.gen rfl (PySem.W.codeRec_of inK code) <| bind _ _ _ _ <| wpAny_newFunctionEnv_cells Sc.kind (fun y hy => ?_) fun env he s1 inside => ?_
  · refine (Sc.par y.1 (List.of_mem_zip hy).1).imp id fun q => ⟨q, PySem.W.cellsFrom_some _ _ _ (.inl q)⟩
  · subst he
    refine ⟨(e0.mod.nolimit.keeps keepB).keeps inside.toInCall.keep, codeAny_func ?_⟩
    have I : Inv (L2H.cxH (L2N.CX P w) P w K mg base N qual scope f cdv A outer s H E p) [] (L2.start N vs) H s1 := L2H.inv_startH Sc pin e0 (ar h) vals inside
    obtain ⟨G, S, ds, QD, XD, rl, rs, hR, kq, kx⟩ := h
    have go := ((hd cdv A outer s H E p (rm.deeper _)).run (fun cls d _ H => E cls d H) (L2N.takes_of rfl rfl rfl rfl) (passes_of rfl)).run [] s1 _ _ ⟨fun _ H' => Q .non H', Q, fun _ _ => False, fun _ _ => False⟩ I
      ⟨G, startD N ds, S, _, startD_rpe rs (by rw [len _ _ _ _ hR]; exact hps), rl, rd ds S QD XD hR, fun _ _ _ _ _ st _ q => kq _ _ _ _ _ st .non q, fun _ _ _ _ _ st r q => kq _ _ _ _ _ st r q, fun _ _ _ _ _ _ _ q => q.elim, fun _ _ _ _ _ _ _ q => q.elim, fun _ _ _ _ _ _ _ _ st _ r q => kx _ _ _ _ _ _ st r q⟩
    refine wpAny_mono go (fun fl s' z => ?_) fun _ _ z => z
    cases fl with
    | next => obtain ⟨_, H', J, q⟩ := z; exact ⟨.non, H', J.os, J.bare, J.base, J.hok, rfl, q⟩
    | ret u => obtain ⟨v, _, H', J, r, q⟩ := z; exact ⟨v, H', J.os, J.bare, J.base, J.hok, r, q⟩
    | _ => exact z.elim fun _ z => z.elim fun _ z => z.2.elim
end
structure GfZ (P : Program) (w : World) (K : PySem.W.Frag) (mg : Str → Option Value) (base : Heap) (k : Nat) (x : Str) (ps : List Str) (R : DSp) : Prop where
  ex : ∃ f fd, FnZ P w K mg base k f fd ps (toSp K R) ∧ mg x = some (.ref f) ∧ PySem.W.keepIn K (.ref f) = true ∧ Binds K fd ps []
theorem de_callZ {X : Cx} {e : Expr} {es : List Expr} {pos p : Pos} {k j : Nat} {x : Str} {t : DTA} {ps : List Str} {R : DSp} {q : Addr × Obj} (F : GfZ X.prog X.w X.K X.mg X.base k x ps R) (hr : L2H.RoomH j X.A) (hq : q ∈ X.pn) (hg : Gl X x) (ha : PDA X (e :: es) t) (hkj : k ≤ j := by decide) (hdb : (x == ("__debug__" : Str)) = false := by decide)
    (he : stE X e es := by rfl) (hpl : plE X pos es := by rfl) : PD X (.Call (.Name x p) (e :: es) [] pos) (dCall R [] t) := ⟨fun W tk => ⟨fun pins s σ H Q I h => by
  obtain ⟨f, fd, F1, hm, hk, hb⟩ := F.ex
  have z := sim_call (W := W) (dvs := []) (fun _ => .nil) h
  simp only [List.append_nil] at z
  refine wpAny_Call_Name_kw (ld_glob I hg hm (PySem.W.callWith_K (h₀ := X.base) I.ok.mod.kin hk (thn ((ha.run W tk).run pos pins s σ H _ I z) fun us s1 ⟨vs, H1, J, r, h1⟩ => ⟨J.kIn, ?_⟩) he hpl) hdb)
  have n : us.length = ps.length := by rw [← r.length]; exact F1.arity h1
  have b := hb s1 us J.kIn (by simpa using n)
  rw [List.append_nil] at b
  obtain ⟨g0, fr0, nl, nf, nc⟩ := J.pin q (List.mem_append_left _ hq)
  refine wpAny_call (codeAny_mono (F1.runs (args := ⟨us, []⟩) q J.env0 ⟨g0, fr0, fun m => (List.mem_cons.mp (J.stkSub q.1 m)).elim nl nf, nc⟩ (hr.mono hkj) r b h1) fun rs s2 y => ?_)
  match rs, y with
  | .ok (.ret _), y => exact J.after y
  | .error er, y => exact L2N.passAt tk σ pins H1 s1 er s2 J y⟩⟩
end SM
namespace SM
open PySem PySem.Spec PyProof.Rows L2 HotX
theorem up_suite {X : Cx} {a : Addr} {pn : List (Addr × Obj)} {xe : Value → Shared → Prop} {e : Expr} {t : DTE} (hp : PD (X.suite a pn) e t) (nx : ∀ δ S Q XX, t δ S Q XX → t δ S Q fun _ _ => False) : PD (suiteXE X a pn xe) e t :=
  ⟨fun W tk => PE.mk fun pins s σ H Q I ⟨G, δ, S, QD, XD, re, rl, h, kq, kx⟩ =>
    wpAny_mono ((hp.run _ takes0N).run pins s σ H Q (I.wish fun _ _ => False) ⟨G, δ, S, QD, _, re, rl, nx _ _ _ _ h, kq, fun _ _ _ _ _ _ _ _ z => z.elim⟩)
      (fun _ _ ⟨v, H1, J, r, q⟩ => ⟨v, H1, suiteXE_of J, r, q⟩) fun _ _ z => z.elim⟩
theorem de_xfR {X : Cx} {a : Addr} {oe : Obj} {c i : Nat} {d : Option Addr} {pn : List (Addr × Obj)} {xe : Value → Shared → Prop} {n fl : Str} {np pos : Pos} {tbl : List (Nat × Nat)} (F : FxOk X.K fl tbl) (hz : Cgt X.K oe c d) (hn : PD (X.suite a ((a, oe) :: pn)) (.Name n np) (dVar i))
    (hb : attributeBase (.Name n np) fl X.env (eval (.Name n np) X.env) = eval (.Name n np) X.env := by rfl) : PD (suiteXE X a ((a, oe) :: pn) xe) (.Attribute (.Name n np) fl pos) (dXf tbl a d c (dVar i)) :=
  up_suite (de_xf F hz hn hb) fun _ _ _ _ h => h
variable {P : Program} {w : World} {K : PySem.W.Frag} {mg : Str → Option Value} {base : Heap}
theorem fnTWX {x qual : Str} {params : Arguments} {body : List Stmt} {scope : Scope} {dvs : List V} {kws : List (Str × V)} {f : Addr} {fd : FuncData} {N ps : List Str} {k : Nat} {R : DSp} {t : DTS} (F : FunD K x qual params body scope dvs kws f fd) (Sc : FnScope N ps scope)
    (len : Ln ps.length R) (rd : RdW t N R) (hd : ∀ (cdv : Value) (A : Around) (outer : List Env) (s : Shared) (H : Hp) (E : XK), Room k (A.deeper (envOfC qual scope s.heap.objs.size f cdv)) → PDSsX (cxOf (L2.CX P w) P w K mg base N qual scope f cdv A outer s H E) body t) (hps : ps.length ≤ N.length := by decide) : FnOk P w K mg base (L2.CX P w) (k + 1) f fd ps (toSp K R) :=
  FnOk.imp (fnTX F Sc (wid_len len) rd.rd hd hps) fun _ _ _ _ => toSp_wid
end SM
namespace SM
open PySem PySem.Spec PyProof.Rows L2
variable {K : PySem.W.Frag} {G G' G2 H H' H2 : Hp} {S S' S2 : Sto}
def dFrzN (i : Nat) (t : DTS) : DTS := fun E δ S => ∃ p ds, nth δ i = some (.adr p) ∧ S p = some (.lst ds) ∧ t E (put δ i (.lst ds)) (sd S p)
theorem ds_frzN {X : Cx} {i : Nat} {st : Stmt} {t : DTS} (h : PDS X st t) : PDS X st (dFrzN i t) := ⟨fun W tk po => PS.weak (h.run W tk po) (by
  rintro D σ H ⟨G, δ, S, E, re, rl, ⟨p, ds, hi, hS, q⟩, er⟩
  obtain ⟨gn, vs, hH, rv, hl⟩ := rl.own p _ hS
  have s0 : Stp X.K G H S (upd G p (.lst vs)) H (sd S p) := Stp.frz rl hS hH
  obtain ⟨v, hv, rp⟩ := re.at_ i _ hi
  cases rp
  refine ⟨_, _, _, E, ?_, s0.rel, q, er.step s0⟩
  have re2 := re.mono s0.sg
  refine ⟨by rw [put_len]; exact re2.len, fun j e he => ?_⟩
  rcases nth_put δ i j _ e he with ⟨rfl, hlt, rfl⟩ | ⟨hne, q2⟩
  · exact ⟨.ref p, hv, .lst upd_same (rv.mono s0.sg) hl⟩
  · exact re2.at_ j e q2)⟩
section
variable {X : Cx} {k : Nat}
end
end SM
namespace SM
open PySem PySem.Spec PyProof.Rows L2
def inI2 (n : Int) : List D → Option Bool
  | [] => some false
  | .int m :: r => (match inI2 n r with
    | some b => some (decide (m = n) || b)
    | none => none)
  | _ => none
def oInT (neg : Bool) : R2D := fun x y S Q => match x, y with
  | .int n, .tup ds => (match inI2 n ds with
    | some b => Q (.bl (neg ^^ b)) S
    | none => False)
  | _, _ => False
section
variable {X : Cx} {k : Nat} {K : PySem.W.Frag} {G : Hp}
theorem inI2_rps {n : Int} : ∀ {vs : List V} {ds : List D} {b : Bool}, Rps K G vs ds → inI2 n ds = some b → vs.all flatV = true ∧ inV (.int n) vs = b
  | _, _, _, .nil, h => by cases h; exact ⟨rfl, rfl⟩
  | _, _, b, .cons (d := d) r rs, h => by
    cases d with
    | int m =>
      cases r
      unfold inI2 at h
      split at h
      · rename_i b' e
        obtain ⟨h1, h2⟩ := inI2_rps rs e
        cases h
        refine ⟨by rw [List.all_cons, h1]; rfl, ?_⟩
        unfold inV at h2 ⊢
        rw [List.any_cons, h2]
        congr 1
      · cases h
    | _ => unfold inI2 at h; cases h
theorem o_inT : OpR X (compareOp .In) (lift2 X.K (oInT false)) := OpR.weak op_in_seq (by
  rintro x y H Q ⟨G, S, dx, dy, QD, rl, rx, ry, h, kq⟩
  unfold oInT at h
  split at h
  · rename_i n ds
    split at h
    · rename_i b e
      cases rx
      cases ry with
      | tup hg rs l =>
      obtain ⟨h1, h2⟩ := inI2_rps rs e
      rw [Bool.false_xor] at h
      exact ⟨_, _, rfl, .inr (SqT.of (rl.at hg rfl)), rfl, h1, by rw [h2]; exact kq _ _ _ _ _ (Stp.refl rl) (.bl _) h⟩
    · exact h.elim
  · exact h.elim)
end
end SM
namespace SM
open PySem PySem.Spec PyProof.Rows L2
section
variable {P : Program} {w : World} {A : Around} {R : Result → Shared → Prop} {s : Shared} {kx vx ta ia tb ib : Expr} {fa fb : List Expr} {scope : Scope} {pos : Pos} {it acc : Value} {D : Addr} {env : Env}
end
section
variable {X : Cx}
end
end SM
namespace SM
open PySem PySem.Spec PyProof.Rows L2
variable {K : PySem.W.Frag} {G G' G2 H H' H2 G0 H0 : Hp} {S S' S2 S0 : Sto}
def dDc2L (gd : Gd) (q : Pat) (tt : DTT) (ti1 : DTI) (q1 : Pat) (tt1 : DTT) (tk tv : DTE) (vs1 : List Nat) (δ : DS) : List D → List (List Key × D) → Sto → (List (List Key × D) → Sto → Prop) → Prop
  | [], a, S, Q => gok gd S ∧ Q a S
  | x :: r, a, S, Q => gok gd S ∧ match bindP q x δ with
    | some δ2 => tt δ2 S (fun b S3 => brn b (ti1 δ2 S3 (fun gd1 ys S4 => ys.length ≤ 1000 ∧ dDcL gd1 q1 tt1 tk tv (uns δ2 vs1) ys a S4 (fun a' S5 => dDc2L gd q tt ti1 q1 tt1 tk tv vs1 δ r a' S5 Q)) noX) (dDc2L gd q tt ti1 q1 tt1 tk tv vs1 δ r a S3 Q)) noX
    | none => False
structure dc2K (gd : Gd) (q : Pat) (tt : DTT) (ti1 : DTI) (q1 : Pat) (tt1 : DTT) (tk tv : DTE) (vs1 : List Nat) (δ : DS) (xs : List D) (S : Sto) (Q : List (List Key × D) → Sto → Prop) : Prop where
  it : xs.length ≤ 1000 ∧ dDc2L gd q tt ti1 q1 tt1 tk tv vs1 δ xs [] S Q
section
variable {W : WX}
end
section
variable {X : Cx} {k : Nat} {kx vx tg iter tg1 iter1 : Expr} {ifs ifs1 : List Expr} {scope : Scope} {own : List (Str × Nat)} {vs1 : List Nat} {ti ti1 : DTI} {q q1 : Pat} {tt tt1 : DTT} {tk tv : DTE} {pos : Pos}
end
end SM
namespace SM
open PySem PySem.Spec PyProof.Rows L2
variable {K : PySem.W.Frag} {G G' G2 H H' H2 G0 H0 : Hp} {S S' S2 S0 : Sto}
section
variable {X : Cx} {W : WX}
end
end SM
namespace SM
open PySem PySem.Spec PyProof.Rows L2
variable {K : PySem.W.Frag} {G G' G2 H H' H2 : Hp} {S S' S2 : Sto}
structure Gid (P : Program) (w : World) (K : PySem.W.Frag) (mg : Str → Option Value) (base : Heap) (k : Nat) (c : Nat) (x : Str) (ps : List Str) (dds : List D) (R : DSp) : Prop where
  ex : ∃ f fd dvs ds, FnOk P w K mg base (L2N.CX P w) k f fd ps (toSp K R) ∧ mg x = some (.ref (cad K c)) ∧ Mk K (cad K c) f ∧ Binds K fd ps ds ∧ Vals dvs ds ∧ ∀ G, Rps K G dvs dds
section
variable {X : Cx} {e : Expr} {es : List Expr} {pos p : Pos} {k j c : Nat} {x : Str} {t : DTA} {ps : List Str} {R : DSp} {dds : List D}
end
section
variable {x qual : Str} {params : Arguments} {body : List Stmt} {scope : Scope} {dvs : List V} {kws : List (Str × V)} {f : Addr} {fd : FuncData} {ps : List Str}
end
end SM
namespace SM
open PySem PySem.Spec PyProof.Rows L2
section
variable {X : Cx} {k : Nat} {y : Str} {py : Pos} {kx vx tg iter tg1 iter1 elt : Expr} {ifs ifs1 : List Expr} {scope : Scope} {own : List (Str × Nat)} {vj vs1 : List Nat} {pos spos : Pos}
variable {ti ti1 : DTI} {q q1 : Pat} {tt tt1 : DTT} {tk tv te : DTE}
end
end SM
namespace SM
open PySem PySem.Spec PyProof.Rows L2
section
variable {X : Cx} {k : Nat} {y : Str} {py : Pos} {kx vx tg iter : Expr} {ifs : List Expr} {scope : Scope} {own : List (Str × Nat)} {pos spos : Pos}
variable {ti : DTI} {q : Pat} {tt : DTT} {tk tv : DTE}
end
end SM
namespace SM
open PySem PySem.Spec PyProof.Rows L2
section
variable {prog : Program} {w : World} {A : Around} {E : Value → Shared → Prop} {s : Shared}
end
structure TurnH (X : Cx) (tg : Expr) (J : It) (fp : List Addr) (it : Addr) (tn : Nat → Heap → Prop) : Prop where
  obj : ∀ i h, tn i h → ∀ b ∈ fp, ∃ o, h.get? b = some o ∧ ∀ v, o.data ≠ .cell v
  keep : ∀ i h h', tn i h → (∀ b ∈ fp, ∀ o, h.get? b = some o → h'.get? b = some o) → tn i h'
  item : ∀ (i : Nat) (pins : List (Addr × Obj)) (s : Shared) (σ : L2.St) (H : Hp) (E : Value → Shared → Prop), Inv X pins σ H s → (∀ b ∈ fp, FpOk X pins H b) → tn i s.heap → J.go i H →
    wpAny (model X.prog X.w) X.A (pyNext (.ref it)) (fun r s1 => ∃ u, r = some u ∧
      wpAny (model X.prog X.w) X.A (letOwnedTupleGo tg (.ref it) u) (fun _ s2 => ∃ x H', Inv X pins σ H' s2 ∧ RelV x u ∧ J.yld i H x H' ∧ tn (i + 1) s2.heap ∧ ∀ b ∈ fp, H' b = none) E s1) E s
  done : ∀ (i : Nat) (pins : List (Addr × Obj)) (s : Shared) (σ : L2.St) (H : Hp) (E : Value → Shared → Prop), Inv X pins σ H s → (∀ b ∈ fp, FpOk X pins H b) → tn i s.heap → J.stop i H →
    wpAny (model X.prog X.w) X.A (pyNext (.ref it)) (fun r s1 => r = none ∧ Inv X pins σ H s1) E s
section
variable {X : Cx} {tg : Expr}
def PIEH (X : Cx) (pins : List (Addr × Obj)) (σ : L2.St) (tg : Expr) (R : It → Hp → Prop) (itv : Value) (s2 : Shared) : Prop :=
  ∃ (it : Addr) (fp : List Addr) (tn : Nat → Heap → Prop) (J : It) (H' : Hp), itv = .ref it ∧ Inv X pins σ H' s2 ∧ TurnH X tg J fp it tn ∧ tn 0 s2.heap ∧ (∀ b ∈ fp, FpOk X pins H' b) ∧ R J H'
structure PIH (X : Cx) (tg iter : Expr) (wi : TI) : Prop where
  run : ∀ (pins : List (Addr × Obj)) (s : Shared) (σ : L2.St) (H : Hp) (R : It → Hp → Prop), Inv X pins σ H s → wi σ H R →
    wpAny (model X.prog X.w) X.A (eval iter X.env) (fun v s1 => wpAny (model X.prog X.w) X.A (pyIter v) (PIEH X pins σ tg R) X.xe s1) X.xe s
theorem PIH.weak {iter : Expr} {t t' : TI} (h : PIH X tg iter t) (w : ∀ σ H R, t' σ H R → t σ H R) : PIH X tg iter t' := ⟨fun pins s σ H R I q => h.run pins s σ H R I (w σ H R q)⟩
structure PDIH (X : Cx) (tg iter : Expr) (ti : DTI) : Prop where
  run : ∀ W, L2N.Takes X W → PIH X tg iter (liftI X.K W ti)
end
end SM
namespace SM
open PySem PySem.Spec PyProof.Rows L2
end SM
namespace SM
open PySem PySem.Spec PyProof.Rows L2
end SM
namespace SM
open PySem PySem.Spec PyProof.Rows L2
noncomputable section
namespace SD
end SD
end
end SM
namespace SM
open PySem PySem.Spec PyProof.Rows L2
section
variable {X : Cx} {o ke : Expr} {pos apos kpos : Pos} {k j n : Nat} {m kx : Str} {to tke : DTE} {T : List (Nat × DSp)} {dds : List D}
end
end SM
namespace SM
open PySem PySem.Spec PyProof.Rows L2
noncomputable section
namespace SD
end SD
end
end SM
open PySem PySem.Spec PyProof.Rows L2 SM
local macro_rules | `(tactic| row_hasAll w_d1) => `(tactic| (try (conv => whnf)); first
  | refine vk_int ?_ | refine vk_lst ?_ | refine vk_str ?_ | refine vk_tup ?_ | refine vk_ins ?_ | refine vk_bl ?_ | refine vk_non ?_ | refine vk_dT ?_
  | refine vk_o (by row_hasAll w_sto) ?_
  | refine tab_r rfl ?_ | refine tabv_r rfl ?_ | refine itk_of rfl ?_ | refine ik_0 ?_ | refine brT ?_ | refine brF ?_
  | refine ok_o (by row_hasAll w_sto) ?_
  | refine And.intro (by first | rfl | decide | omega | assumption | exact Nat.le_of_ble_eq_true rfl) ?_)
local macro_rules | `(tactic| row_hasAll w_d) => `(tactic| (repeat row_hasAll w_d1); (try (conv => whnf)); try simp only [su_su, ofO, List.append_nil, List.nil_append, List.cons_append, Int.reduceToNat, List.set_cons_succ, List.set_cons_zero])
local macro_rules | `(tactic| row_hasAll w_sto) => `(tactic| first | exact su_same | assumption | (rw [su_ne (by first | assumption | exact Ne.symm (by assumption))]; row_hasAll w_sto))
local macro_rules | `(tactic| row_hasAll w_steq) => `(tactic| (funext zz; simp only [su, sd, List.map_nil, List.map_append, List.map_cons]; grind))
local macro_rules | `(tactic| row_hasAll w_side) => `(tactic| first
  | omega
  | (fail_if_success (with_reducible refine Nat.le_trans ?_ (Nat.le_refl sizeLine))); first | rfl | assumption | decide | exact Nat.le_of_ble_eq_true rfl
  | (simp only [List.length_cons, List.length_nil, List.length_map, List.length_append, slen_app, sizeLine_eq]; omega))
local macro_rules | `(tactic| row_hasAll w_e1) => `(tactic| (try (conv => whnf)); first
  | refine vk_int ?_ | refine vk_lst ?_ | refine vk_str ?_ | refine vk_tup ?_ | refine vk_ins ?_ | refine vk_bl ?_ | refine vk_non ?_ | refine vk_dT ?_
  | refine vk_o (by row_hasAll w_sto) ?_
  | refine tab_r rfl ?_ | refine tabv_r rfl ?_ | refine itk_of rfl ?_ | refine ik_0 ?_ | refine brT ?_ | refine brF ?_
  | refine ok_o (by row_hasAll w_sto) ?_
  | refine And.intro (by row_hasAll w_side) ?_)
local macro_rules | `(tactic| row_hasAll w_e) => `(tactic| (repeat row_hasAll w_e1); (try (conv => whnf)); try simp only [decide_true, decide_false, Bool.not_true, Bool.not_false, su_su, ofO, List.append_nil, List.nil_append, List.cons_append, Int.reduceToNat, List.set_cons_succ, List.set_cons_zero])
local macro_rules | `(tactic| row_hasAll w_env) => `(tactic| ((try simp only [startD, put_0, put_s, setO_0, setO_s, sets_n, sets_c, gets_n, gets_c, nth_0, nth_s]); (try rfl)))
local macro_rules | `(tactic| row_hasAll w_w) => `(tactic| row_hasAll w_e; repeat (first | (row_hasAll w_c; row_hasAll w_e) | (row_hasAll w_e1; row_hasAll w_e)))
namespace SM
open PySem PySem.Spec PyProof.Rows L2
theorem fresh {S : Sto} {p l : Addr} {o : OO} (h : su S p o l = none) : l ≠ p ∧ S l = none := by
  unfold su at h
  split at h
  · cases h
  · rename_i e; exact ⟨e, h⟩
def t_l_bag (a : Addr) (ns : List Int) : DTS := (dRet (dLstO (dCons (dLc (dItems (dSl (oScr a ns) (dVar 0) dNoPart (dPart (dC (.int 63))))) (.nm 1) dYes (dCB (on1 intD) (dCons (dVar 1) dNil)) [1]) (dCons (dC (.int 0)) (dCons (dC (.int 0)) (dCons (dC (.int 7)) dNil))))))
abbrev N_l_bag : List Str := ["_law_script", "_law_cell"]
@[irreducible] def r_l_bag (a : Addr) (ns : List Int) : DSp := fun ds S Q _ => ds = [.adr a] ∧ ∀ p b, S p = none → Q (.adr p) (su S p (bagO b))
theorem len_l_bag (a : Addr) (ns : List Int) : Ln 1 (r_l_bag a ns) := fun ds S Q E h => by unfold r_l_bag at h; rw [h.1]; rfl
theorem cut63 (ns : List Int) (h : ns.length ≤ 63) : cutD (ns.map D.int) none (some 63) = ns.map D.int := by
  unfold SM.cutD
  have e : HT.sIx (ns.map D.int).length (ns.map D.int).length (some 63) = min 63 (ns.map D.int).length := HT.sIx_nat _ _ 63
  rw [HT.sIx_none, e, List.length_map, List.drop_zero, Nat.sub_zero, Nat.min_eq_right h]
  exact List.take_of_length_le (by rw [List.length_map]; exact Nat.le_refl _)
theorem rd_l_bag (a : Addr) (ns : List Int) (hn : ns.length ≤ 63) : Rd (t_l_bag a ns) N_l_bag (r_l_bag a ns) := by
  intro ds S QD XD h
  unfold r_l_bag at h
  obtain ⟨rfl, q⟩ := h
  row_hasAll w_d
  rw [cut63 ns hn]
  refine lk_map (f := D.int) (fun n _ => ⟨_, rfl, fun Q' h => ?_⟩) ?_
  · row_hasAll w_d
    exact h
  · row_hasAll w_d
    intro p hp
    exact q p ⟨ns, 0, 0, 7⟩ hp
theorem i_bag {a : Addr} {ns : List Int} {S : Sto} {Q : DQ} {X : XQ} (h : ∀ p b, S p = none → Q (.adr p) (su S p (bagO b))) : r_l_bag a ns [.adr a] S Q X := by unfold r_l_bag; exact ⟨rfl, h⟩
def t_l_take : DTS := (dCut (dIf (dAnd (dTestB (dOp oEq (dOp oIx (dVar 0) (dC (.int 2))) (dC (.int 0)))) (dTestB (dOp oLt (dOp oIx (dVar 0) (dC (.int 1))) (dCB (on1 lenD) (dCons (dOp oIx (dVar 0) (dC (.int 0))) dNil))))) (dSeq (dSet 2 (dOp oIx (dOp oIx (dVar 0) (dC (.int 0))) (dOp oIx (dVar 0) (dC (.int 1))))) (dSeq (dSetL (dVar 0) (dC (.int 1)) (dOp oAdd (dOp oIx (dVar 0) (dC (.int 1))) (dC (.int 1)))) (dIf (dTestB (dOp oGe (dVar 2) (dOp oPow (dC (.int 10)) (dC (.int 18))))) (dSetL (dVar 0) (dC (.int 2)) (dVar 2)) (dSetL (dVar 0) (dC (.int 3)) (dOp oMod (dCB (on1 intD) (dCons (dOp oAdd (dOp oAdd (dOp oMul (dOp oIx (dVar 0) (dC (.int 3))) (dC (.int 48271))) (dOp oMul (dVar 2) (dC (.int 69621)))) (dC (.int 12345))) dNil)) (dC (.int 2147483647))))))) dNext) (dSeq (dIf (dTestB (dOp oGt (dOp oIx (dVar 0) (dC (.int 2))) (dC (.int 0)))) (dSeq (dSet 3 (dOp oMod (dCB (on1 intD) (dCons (dOp oIx (dVar 0) (dC (.int 2))) dNil)) (dVar 1))) (dSeq (dSetL (dVar 0) (dC (.int 2)) (dOp oFdiv (dOp oIx (dVar 0) (dC (.int 2))) (dVar 1))) (dRet (dVar 3)))) dNext) (dSeq (dSetL (dVar 0) (dC (.int 3)) (dOp oMod (dCB (on1 intD) (dCons (dOp oAdd (dOp oMul (dOp oIx (dVar 0) (dC (.int 3))) (dC (.int 48271))) (dC (.int 11))) dNil)) (dC (.int 2147483647)))) (dRet (dOp oMod (dCB (on1 intD) (dCons (dOp oFdiv (dOp oIx (dVar 0) (dC (.int 3))) (dC (.int 16))) dNil)) (dVar 1))))))
abbrev N_l_take : List Str := ["_law_bag_here", "_law_size", "_law_cell", "_law_digit"]
@[irreducible] def r_l_take : DSp := fun ds S Q _ => ∃ a b n, ds = [.adr a, .int n] ∧ S a = some (bagO b) ∧ 0 < n ∧ n < 1073741824 ∧ ∀ v b', 0 ≤ v → v < n → Q (.int v) (su S a (bagO b'))
theorem len_l_take : Ln 2 r_l_take := fun ds S Q E h => by unfold r_l_take at h; obtain ⟨a, b, n, rfl, _⟩ := h; rfl
theorem rd_l_take : Rd t_l_take N_l_take r_l_take := by
  intro ds S QD XD h
  unfold r_l_take at h
  obtain ⟨a, b, n, rfl, hS, h0, h1, q⟩ := h
  refine ⟨fun δ' S' => ∃ b' x y, δ' = [some (.adr a), some (.int n), x, y] ∧ S' = su S a (bagO b'), ?_, ?_⟩
  · unfold bagO at hS
    have fin : ∀ x y, ∃ b' x' y', [some (D.adr a), some (.int n), x, y] = [some (.adr a), some (.int n), x', y'] ∧ S = su S a (bagO b') := fun x y => ⟨b, x, y, rfl, (su_self hS).symm⟩
    row_hasAll w_d
    refine brn_of (fun hb => ?_) (fun _ => brF (fin _ _))
    row_hasAll w_d
    refine brP (fun hc => ?_) (fun _ => fin _ _)
    have hc' : b.at_ < b.cells.length := by simpa using hc
    row_hasAll w_d
    refine ik_map hc' ?_
    row_hasAll w_d
    refine brP (fun hd => ?_) (fun hd => ?_)
    · row_hasAll w_d
      exact ⟨⟨b.cells, b.at_ + 1, _, b.seed⟩, _, _, rfl, rfl⟩
    · row_hasAll w_d
      exact ⟨⟨b.cells, b.at_ + 1, b.big, _⟩, _, _, rfl, rfl⟩
  · rintro δ' S' ⟨b', x, y, rfl, rfl⟩
    have hS' : su S a (bagO b') a = some (bagO b') := su_same
    unfold bagO at hS' ⊢
    row_hasAll w_d
    refine brP (fun hb => ?_) (fun _ => ?_)
    · row_hasAll w_d
      exact q (b'.big % n) ⟨b'.cells, b'.at_, b'.big / n, b'.seed⟩ (Int.emod_nonneg _ (by omega)) (Int.emod_lt_of_pos _ h0)
    · row_hasAll w_d
      exact q _ ⟨b'.cells, b'.at_, b'.big, (b'.seed * 48271 + 11) % 2147483647⟩ (Int.emod_nonneg _ (by omega)) (Int.emod_lt_of_pos _ h0)
theorem i_take {a : Addr} {b : Bag} {n : Int} {S : Sto} {Q : DQ} {X : XQ} (hS : S a = some (bagO b)) (h0 : 0 < n) (h1 : n < 1073741824) (q : ∀ v b', 0 ≤ v → v < n → Q (.int v) (su S a (bagO b'))) : r_l_take [.adr a, .int n] S Q X := by
  unfold r_l_take; exact ⟨a, b, n, rfl, hS, h0, h1, q⟩
theorem i_takeB {a : Addr} {b : Bag} {n : Int} {S : Sto} {Q : DQ} {X : XQ} (h0 : 0 < n) (h1 : n < 1073741824) (q : ∀ v b', 0 ≤ v → v < n → Q (.int v) (su S a (bagO b'))) : r_l_take [.adr a, .int n] (su S a (bagO b)) Q X :=
  i_take su_same h0 h1 fun v b' x y => by rw [su_su]; exact q v b' x y
def t_l_is_int : DTS := (dRet (dAndV (dUn (isiD ti_int) (dVar 0)) (dNotV (dUn (isiD ti_bool) (dVar 0)))))
abbrev N_l_is_int : List Str := ["_law_value"]
@[irreducible] def r_l_is_int : DSp := fun ds S Q _ => ∃ n, ds = [.int n] ∧ Q (.bl true) S
theorem len_l_is_int : Ln 1 r_l_is_int := fun ds S Q E h => by unfold r_l_is_int at h; obtain ⟨n, rfl, _⟩ := h; rfl
theorem rd_l_is_int : Rd t_l_is_int N_l_is_int r_l_is_int := by
  intro ds S QD XD h
  unfold r_l_is_int at h
  obtain ⟨n, rfl, q⟩ := h
  row_hasAll w_d
  exact q
theorem i_is_int {n : Int} {S : Sto} {Q : DQ} {X : XQ} (h : Q (.bl true) S) : r_l_is_int [.int n] S Q X := by unfold r_l_is_int; exact ⟨n, rfl, h⟩
def isL (S : Sto) (d : D) (l : List D) : Prop := d = .lst l ∨ ∃ a, d = .adr a ∧ S a = some (.lst l)
theorem isL.vw {S : Sto} {d : D} {l : List D} (h : isL S d l) : vw S d = .lst l := by
  rcases h with rfl | ⟨a, rfl, h⟩
  · rfl
  · rw [vw_own h]
end SM
--#ONETAC
local macro_rules | `(tactic| row_hasAll w_c) => `(tactic| first
  | refine i_is_int ?_
  | refine i_is_cell ?_
  | refine i_is_cells ?_
  | refine i_reading ?_
  | refine i_once (by row_hasAll w_side) ?_)
namespace SM
open PySem PySem.Spec PyProof.Rows L2
end SM
--#ONETAC
local macro_rules | `(tactic| row_hasAll w_c) => `(tactic| first
  | refine mk_region (by row_hasAll w_side) ?_
  | refine i_cells ?_
  | refine i_inR ?_
  | refine i_lenR (by row_hasAll w_side) ?_
  | refine i_eqR ?_
  | refine i_boolR ?_)
namespace SM
open PySem PySem.Spec PyProof.Rows L2
end SM
--#ONETAC
local macro_rules | `(tactic| row_hasAll w_c) => `(tactic| first
  | refine i_region_is ?_)
namespace SM
open PySem PySem.Spec PyProof.Rows L2
abbrev row (cs : List Cell) : List Cell := roSort (once cs)
end SM
--#ONETAC
local macro_rules | `(tactic| row_hasAll w_c) => `(tactic| first
  | refine i_Ror (by row_hasAll w_side) (by row_hasAll w_side) ?_
  | refine i_Rand (by row_hasAll w_side) (by row_hasAll w_side) ?_
  | refine i_Rsub (by row_hasAll w_side) (by row_hasAll w_side) ?_
  | refine i_within ?_)
namespace SM
open PySem PySem.Spec PyProof.Rows L2
def letB (c : Nat) : Bool := decide (97 ≤ c ∧ c ≤ 122)
def stoneB (s : Str) : Bool := match s.cps.toList with
  | [c] => letB c
  | _ => false
def signB (s : Str) : Bool := match s.cps.toList with
  | [c] => decide (c = 46) || letB c
  | _ => false
def t_p_is_stone : DTS := (dRet (dAndV (dOp oEq (dCB (on1 lenD) (dCons (dVar 0) dNil)) (dC (.int 1))) (dOp oIn (dVar 0) (dC (.str "abcdefghijklmnopqrstuvwxyz")))))
abbrev N_p_is_stone : List Str := ["sign"]
@[irreducible] def r_p_is_stone : DSp := fun ds S Q _ => ∃ s, ds = [.str s] ∧ Q (.bl (stoneB s)) S
theorem len_p_is_stone : Ln 1 r_p_is_stone := fun ds S Q E h => by unfold r_p_is_stone at h; obtain ⟨a, rfl, _⟩ := h; rfl
theorem rd_p_is_stone : Rd t_p_is_stone N_p_is_stone r_p_is_stone := by
  intro ds S QD XD h
  unfold r_p_is_stone at h
  obtain ⟨s, rfl, q⟩ := h
  row_hasAll w_d
  refine brP (c := ((s.length : Nat) : Int) = 1) (fun h1 => ?_) (fun h1 => ?_)
  · row_hasAll w_d
    have hl : s.cps.toList.length = 1 := by
      have : s.cps.size = 1 := by exact_mod_cast h1
      simpa using this
    obtain ⟨c, hc⟩ := List.length_eq_one_iff.mp hl
    have e : inS s (Str.ofString "abcdefghijklmnopqrstuvwxyz") = stoneB s := by
      unfold inS stoneB
      rw [hc]
      show decide (c ∈ [97, 98, 99, 100, 101, 102, 103, 104, 105, 106, 107, 108, 109, 110, 111, 112, 113, 114, 115, 116, 117, 118, 119, 120, 121, 122]) = decide (97 ≤ c ∧ c ≤ 122)
      refine decide_eq_decide.mpr ⟨fun h => ?_, fun h => ?_⟩
      · simp at h; omega
      · simp; omega
    rw [e]
    exact q
  · have e : stoneB s = false := by
      unfold stoneB
      split
      · rename_i c hc
        exfalso
        apply h1
        have : s.cps.size = 1 := by rw [← Array.length_toList, hc]; rfl
        exact_mod_cast this
      · rfl
    rw [e] at q
    exact q
theorem i_stone {s : Str} {S : Sto} {Q : DQ} {X : XQ} (h : Q (.bl (stoneB s)) S) : r_p_is_stone [.str s] S Q X := by unfold r_p_is_stone; exact ⟨s, rfl, h⟩
def t_p_is_sign : DTS := (dRet (dOrV (dOp oEq (dVar 0) (dC (.str "."))) (dCall r_p_is_stone [] (dCons (dVar 0) dNil))))
abbrev N_p_is_sign : List Str := ["sign"]
@[irreducible] def r_p_is_sign : DSp := fun ds S Q _ => ∃ s, ds = [.str s] ∧ Q (.bl (signB s)) S
theorem len_p_is_sign : Ln 1 r_p_is_sign := fun ds S Q E h => by unfold r_p_is_sign at h; obtain ⟨a, rfl, _⟩ := h; rfl
theorem str_ext {s t : Str} (h : s.cps.toList = t.cps.toList) : s = t := by
  obtain ⟨a⟩ := s
  obtain ⟨b⟩ := t
  exact congrArg Str.mk (Array.toList_inj.mp h)
theorem signB_is (s : Str) : signB s = (decide (s = ".") || stoneB s) := by
  unfold signB stoneB
  split
  · rename_i c hc
    have e : decide (s = ".") = decide (c = 46) := decide_eq_decide.mpr ⟨fun h => by rw [h] at hc; have : [46] = [c] := hc; simpa using this.symm, fun h => str_ext (by rw [hc, h]; rfl)⟩
    rw [e]
  · rename_i hc
    have e : decide (s = ".") = false := decide_eq_false fun h => hc 46 (by rw [h]; rfl)
    rw [e]; rfl
theorem rd_p_is_sign : Rd t_p_is_sign N_p_is_sign r_p_is_sign := by
  intro ds S QD XD h
  unfold r_p_is_sign at h
  obtain ⟨s, rfl, q⟩ := h
  rw [signB_is] at q
  row_hasAll w_d
  refine brP (c := s = ".") (fun h1 => ?_) (fun h1 => ?_)
  · rw [decide_eq_true h1] at q
    exact q
  · rw [decide_eq_false h1] at q
    exact i_stone q
theorem i_sign {s : Str} {S : Sto} {Q : DQ} {X : XQ} (h : Q (.bl (signB s)) S) : r_p_is_sign [.str s] S Q X := by unfold r_p_is_sign; exact ⟨s, rfl, h⟩
def rowB (r : Str) (w : Int) : Bool := decide ((r.length : Int) = w ∧ 1 ≤ w ∧ w ≤ 8) && r.cps.toList.all fun c => signB (one c)
def t_p_is_row : DTS := (dSeq (dIf (dOr (dTestB (dOp oNe (dCB (on1 lenD) (dCons (dVar 0) dNil)) (dVar 1))) (dOr (dTestB (dOp oLt (dVar 1) (dC (.int 1)))) (dTestB (dOp oGt (dVar 1) (dC (.int 8)))))) (dRet (dC (.bl false))) dNext) (dSeq (dFor (dItems (dVar 0)) (.nm 2) (dIf (dNot (dTru (dCall r_p_is_sign [] (dCons (dVar 2) dNil)))) (dRet (dC (.bl false))) dNext)) (dRet (dC (.bl true)))))
abbrev N_p_is_row : List Str := ["row", "width", "sign"]
@[irreducible] def r_p_is_row : DSp := fun ds S Q _ => ∃ r w, ds = [.str r, .int w] ∧ Q (.bl (rowB r w)) S
theorem len_p_is_row : Ln 2 r_p_is_row := fun ds S Q E h => by unfold r_p_is_row at h; obtain ⟨a, b, rfl, _⟩ := h; rfl
theorem rd_p_is_row : Rd t_p_is_row N_p_is_row r_p_is_row := by
  intro ds S QD XD h
  unfold r_p_is_row at h
  obtain ⟨r, w, rfl, q⟩ := h
  unfold rowB at q
  have no : ¬ ((r.length : Int) = w ∧ 1 ≤ w ∧ w ≤ 8) → QD (.bl false) S := fun hn => by rw [decide_eq_false hn] at q; exact q
  row_hasAll w_d
  refine brN (c := ((r.length : Nat) : Int) = w) (fun h1 => ?_) (fun h1 => ?_)
  · row_hasAll w_d
    exact no fun z => h1 z.1
  · row_hasAll w_d
    refine brP (fun h2 => ?_) (fun h2 => ?_)
    · row_hasAll w_d
      exact no fun z => by omega
    · row_hasAll w_d
      refine brP (fun h3 => ?_) (fun h3 => ?_)
      · row_hasAll w_d
        exact no fun z => by omega
      · row_hasAll w_d
        rw [decide_eq_true (show ((r.length : Int) = w ∧ 1 ≤ w ∧ w ≤ 8) by exact ⟨h1, by omega, by omega⟩), Bool.true_and] at q
        refine loop_of (g := fun c => D.str (one c)) (fun l δ S' => S' = S ∧ (∃ x, δ = [some (.str r), some (.int w), x]) ∧ (l.all fun c => signB (one c)) = r.cps.toList.all fun c => signB (one c)) ?_ ?_ ⟨rfl, ⟨_, rfl⟩, rfl⟩
        · rintro c l δ S' ⟨rfl, ⟨x, rfl⟩, e⟩
          refine ⟨_, rfl, fun N hN => ?_⟩
          row_hasAll w_d
          refine i_sign ?_
          rw [List.all_cons] at e
          cases hs : signB (one c) with
          | true =>
            rw [hs, Bool.true_and] at e
            row_hasAll w_d
            exact hN _ _ ⟨rfl, ⟨_, rfl⟩, e⟩
          | false =>
            rw [hs, Bool.false_and] at e
            row_hasAll w_d
            rw [← e] at q
            exact q
        · rintro δ S' ⟨rfl, ⟨x, rfl⟩, e⟩
          row_hasAll w_d
          rw [← e] at q
          exact q
theorem enumD_map {α : Type} (f : α → D) : ∀ (n : Nat) (l : List α), enumD n (l.map f) = (l.zipIdx n).map fun p => .tup [.int (p.2 : Nat), f p.1]
  | _, [] => rfl
  | n, x :: r => by rw [List.map_cons, enumD, enumD_map f (n + 1) r, List.zipIdx_cons, List.map_cons]
theorem i_row {r : Str} {w : Int} {S : Sto} {Q : DQ} {X : XQ} (h : Q (.bl (rowB r w)) S) : r_p_is_row [.str r, .int w] S Q X := by unfold r_p_is_row; exact ⟨r, w, rfl, h⟩
def wid (rows : List Str) : Int := match rows with
  | r :: _ => (r.length : Nat)
  | [] => 0
abbrev picF (rows : List Str) : List D := [.lst (rows.map D.str), .int (wid rows), .int (rows.length : Nat)]
def pic (rows : List Str) : D := .ins 1 (picF rows)
theorem pic_is (rows : List Str) : pic rows = .ins 1 [.lst (rows.map D.str), .int (wid rows), .int (rows.length : Nat)] := rfl
def badFrom (w : Int) : Nat → List Str → Option Nat
  | _, [] => none
  | i, r :: l => if 8 ≤ i ∨ rowB r w = false then some (i + 1) else badFrom w (i + 1) l
def bad (rows : List Str) : Option Nat := if rows = [] then some 1 else badFrom (wid rows) 0 rows
def t_Picture_init : DTS := (dSeq (dIf (dTestB (dOp oEq (dCB (on1 lenD) (dCons (dVar 1) dNil)) (dC (.int 0)))) (dRaise 21 (dCons (dC (.int 1)) dNil)) dNext) (dSeq (dFor (dEnum (dCons (dVar 1) dNil)) (.tp [(.nm 2), (.nm 3)]) (dIf (dOr (dTestB (dOp oGe (dVar 2) (dC (.int 8)))) (dNot (dTru (dCall r_p_is_row [] (dCons (dVar 3) (dCons (dCB (on1 lenD) (dCons (dOp oIx (dVar 1) (dC (.int 0))) dNil)) dNil)))))) (dRaise 21 (dCons (dOp oAdd (dVar 2) (dC (.int 1))) dNil)) dNext)) (dSeq (dSetF [(1, 0)] (dVar 0) (dCB (on1 listD) (dCons (dVar 1) dNil))) (dSeq (dSetF [(1, 1)] (dVar 0) (dCB (on1 lenD) (dCons (dOp oIx (dVar 1) (dC (.int 0))) dNil))) (dSetF [(1, 2)] (dVar 0) (dCB (on1 lenD) (dCons (dVar 1) dNil)))))))
abbrev N_Picture_init : List Str := ["self", "rows", "number", "row"]
@[irreducible] def r_Picture_init : DSp := fun ds S Q X => ∃ z d rows, ds = [.adr z, d] ∧ isL S d (rows.map D.str) ∧ S z = some (.ins 1 []) ∧ rows.length ≤ 1000 ∧ match bad rows with
  | none => Q .non (su S z (.ins 1 (picF rows)))
  | some n => X ⟨21, [.int (n : Nat)]⟩ S
theorem len_Picture_init : Ln 2 r_Picture_init := fun ds S Q E h => by unfold r_Picture_init at h; obtain ⟨z, d, rows, rfl, _⟩ := h; rfl
theorem rd_Picture_init : Rd t_Picture_init N_Picture_init r_Picture_init := by
  intro ds S QD XD h
  unfold r_Picture_init at h
  obtain ⟨z, d, rows, rfl, hL, hS, hl, q⟩ := h
  cases rows with
  | nil =>
    have e : bad [] = some 1 := rfl
    rw [e] at q
    rcases hL with rfl | ⟨a, rfl, ha⟩
    · row_hasAll w_d
      exact q
    · row_hasAll w_d
      exact q
  | cons r0 rest =>
    have e : bad (r0 :: rest) = badFrom (wid (r0 :: rest)) 0 (r0 :: rest) := rfl
    rw [e] at q
    have ew : wid (r0 :: rest) = (r0.length : Nat) := rfl
    rcases hL with rfl | ⟨a, rfl, ha⟩
    · row_hasAll w_d
      rw [enumD_map]
      refine loop_ofG (gd := none) (g := fun p : Str × Nat => .tup [.int (p.2 : Nat), .str p.1]) (fun l δ S' => S' = S ∧ (∃ x y, δ = [some (.adr z), some (.lst ((r0 :: rest).map D.str)), x, y]) ∧ ∃ i l', l = l'.zipIdx i ∧ badFrom (wid (r0 :: rest)) i l' = badFrom (wid (r0 :: rest)) 0 (r0 :: rest)) (fun _ _ _ _ => True.intro) ?_ ?_ ⟨rfl, ⟨_, _, rfl⟩, 0, _, rfl, rfl⟩
      · rintro ⟨r, k⟩ l δ S' ⟨rfl, ⟨x, y, rfl⟩, i, l', hz, hb⟩
        refine ⟨_, rfl, fun N hN => ?_⟩
        cases l' with
        | nil => cases hz
        | cons r' l' =>
        rw [List.zipIdx_cons] at hz
        simp only [List.cons.injEq, Prod.mk.injEq] at hz
        obtain ⟨⟨rfl, rfl⟩, rfl⟩ := hz
        rw [badFrom] at hb
        row_hasAll w_d
        refine brP (fun h8 => ?_) (fun h8 => ?_)
        · row_hasAll w_d
          rw [if_pos (.inl (by omega))] at hb
          rw [← hb] at q
          exact q
        · row_hasAll w_d
          refine i_row ?_
          rw [← ew]
          cases hr : rowB r (wid (r0 :: rest)) with
          | true =>
            row_hasAll w_d
            rw [if_neg (by rw [hr]; simp; omega)] at hb
            exact hN _ _ ⟨rfl, ⟨_, _, rfl⟩, _, _, rfl, hb⟩
          | false =>
            row_hasAll w_d
            rw [if_pos (.inr hr)] at hb
            rw [← hb] at q
            exact q
      · rintro δ S' ⟨rfl, ⟨x, y, rfl⟩, i, l', hz, hb⟩
        have hn : l' = [] := by cases l' with | nil => rfl | cons a b => cases hz
        subst hn
        rw [badFrom] at hb
        rw [← hb] at q
        row_hasAll w_d
        rw [List.length_map]
        exact q
    · row_hasAll w_d
      rw [enumD_map]
      refine loop_ofG (g := fun p : Str × Nat => .tup [.int (p.2 : Nat), .str p.1]) (fun l δ S' => S' = S ∧ (∃ x y, δ = [some (.adr z), some (.adr a), x, y]) ∧ ∃ i l', l = l'.zipIdx i ∧ badFrom (wid (r0 :: rest)) i l' = badFrom (wid (r0 :: rest)) 0 (r0 :: rest)) (fun _ _ _ h => by rw [h.1]; exact ha) ?_ ?_ ⟨rfl, ⟨_, _, rfl⟩, 0, _, rfl, rfl⟩
      · rintro ⟨r, k⟩ l δ S' ⟨rfl, ⟨x, y, rfl⟩, i, l', hz, hb⟩
        refine ⟨_, rfl, fun N hN => ?_⟩
        cases l' with
        | nil => cases hz
        | cons r' l' =>
        rw [List.zipIdx_cons] at hz
        simp only [List.cons.injEq, Prod.mk.injEq] at hz
        obtain ⟨⟨rfl, rfl⟩, rfl⟩ := hz
        rw [badFrom] at hb
        row_hasAll w_d
        refine brP (fun h8 => ?_) (fun h8 => ?_)
        · row_hasAll w_d
          rw [if_pos (.inl (by omega))] at hb
          rw [← hb] at q
          exact q
        · row_hasAll w_d
          refine i_row ?_
          rw [← ew]
          cases hr : rowB r (wid (r0 :: rest)) with
          | true =>
            row_hasAll w_d
            rw [if_neg (by rw [hr]; simp; omega)] at hb
            exact hN _ _ ⟨rfl, ⟨_, _, rfl⟩, _, _, rfl, hb⟩
          | false =>
            row_hasAll w_d
            rw [if_pos (.inr hr)] at hb
            rw [← hb] at q
            exact q
      · rintro δ S' ⟨rfl, ⟨x, y, rfl⟩, i, l', hz, hb⟩
        have hn : l' = [] := by cases l' with | nil => rfl | cons a b => cases hz
        subst hn
        rw [badFrom] at hb
        rw [← hb] at q
        have haz : a ≠ z := fun e => by rw [e, hS] at ha; cases ha
        row_hasAll w_d
        rw [List.length_map]
        exact q
--#CALL refine i_stone ?_
--#CALL refine i_sign ?_
--#CALL refine i_row ?_
end SM
--#ONETAC
local macro_rules | `(tactic| row_hasAll w_c) => `(tactic| first
  | refine i_stone ?_
  | refine i_sign ?_
  | refine i_row ?_)
namespace SM
open PySem PySem.Spec PyProof.Rows L2
structure Grid (rows : List Str) : Prop where
  ne : rows ≠ []
  le : rows.length ≤ 8
  w1 : 1 ≤ wid rows
  w8 : wid rows ≤ 8
  row : ∀ r ∈ rows, (r.length : Int) = wid rows ∧ ∀ c ∈ r.cps.toList, signB (one c) = true
theorem rowB_ok {r : Str} {w : Int} (h1 : 1 ≤ w) (h8 : w ≤ 8) (h : (r.length : Int) = w ∧ ∀ c ∈ r.cps.toList, signB (one c) = true) : rowB r w = true := by
  unfold rowB
  rw [decide_eq_true ⟨h.1, h1, h8⟩, Bool.true_and, List.all_eq_true]
  exact h.2
theorem badFrom_none {w : Int} : ∀ {l : List Str} {i : Nat}, i + l.length ≤ 8 → (∀ r ∈ l, rowB r w = true) → badFrom w i l = none
  | [], _, _, _ => rfl
  | r :: l, i, hl, h => by
    simp only [List.length_cons] at hl
    rw [badFrom, if_neg (by rw [h r (List.mem_cons_self ..)]; simp; omega)]
    exact badFrom_none (by omega) fun z hz => h z (List.mem_cons_of_mem _ hz)
theorem Grid.bad {rows : List Str} (g : Grid rows) : bad rows = none := by
  unfold SM.bad
  rw [if_neg g.ne]
  exact badFrom_none (by have := g.le; omega) fun r hr => rowB_ok g.w1 g.w8 (g.row r hr)
theorem mk_pic {d : D} {rows : List Str} {S : Sto} {Q : DQ} {X : XQ} (hL : isL S d (rows.map D.str)) (hl : rows.length ≤ 1000) (h : match bad rows with
    | none => Q (pic rows) S
    | some n => X ⟨21, [.int (n : Nat)]⟩ S) : ∀ z, S z = none → r_Picture_init [.adr z, d] (su S z (.ins 1 [])) (fun d S2 => d = .non ∧ mkF Q z S2) (fun e S2 => X e (sd S2 z)) := by
  intro z hz
  unfold r_Picture_init
  have hL2 : isL (su S z (.ins 1 [])) d (rows.map D.str) := by
    rcases hL with rfl | ⟨a, rfl, ha⟩
    · exact .inl rfl
    · exact .inr ⟨a, rfl, by rw [su_ne (st_ne ha hz)]; exact ha⟩
  refine ⟨z, d, rows, rfl, hL2, su_same, hl, ?_⟩
  cases e : bad rows with
  | none =>
    rw [e] at h
    refine ⟨rfl, ?_⟩
    rw [su_su]
    refine ok_o su_same ?_
    show Q (.ins 1 (picF rows)) _
    rw [sd_su_new hz]
    exact h
  | some n =>
    rw [e] at h
    show X _ _
    rw [sd_su_new hz]
    exact h
theorem mk_picG {d : D} {rows : List Str} {S : Sto} {Q : DQ} {X : XQ} (hL : isL S d (rows.map D.str)) (g : Grid rows) (h : Q (pic rows) S) : ∀ z, S z = none → r_Picture_init [.adr z, d] (su S z (.ins 1 [])) (fun d S2 => d = .non ∧ mkF Q z S2) (fun e S2 => X e (sd S2 z)) :=
  mk_pic hL (by have := g.le; omega) (by rw [g.bad]; exact h)
def inP (rows : List Str) (x y : Int) : Bool := decide ((0 ≤ x ∧ x < wid rows) ∧ (0 ≤ y ∧ y < (rows.length : Nat)))
def sgnAt (rows : List Str) (x y : Int) : Str := if inP rows x y = true then (match rows[y.toNat]? with
  | some r => (match r.cps.toList[x.toNat]? with
    | some c => one c
    | none => "#")
  | none => "#") else "#"
theorem Grid.get {rows : List Str} (g : Grid rows) {x y : Int} (h : inP rows x y = true) : ∃ r c, rows[y.toNat]? = some r ∧ r.cps.toList[x.toNat]? = some c ∧ r ∈ rows ∧ c ∈ r.cps.toList ∧ sgnAt rows x y = one c := by
  have h' := of_decide_eq_true (show decide ((0 ≤ x ∧ x < wid rows) ∧ (0 ≤ y ∧ y < (rows.length : Nat))) = true from h)
  have hy : y.toNat < rows.length := by omega
  have hm : rows[y.toNat] ∈ rows := List.getElem_mem hy
  have hl := (g.row _ hm).1
  have hx : x.toNat < (rows[y.toNat]).cps.toList.length := by
    rw [Array.length_toList]
    have : ((rows[y.toNat]).cps.size : Int) = wid rows := hl
    omega
  refine ⟨rows[y.toNat], (rows[y.toNat]).cps.toList[x.toNat], by simp [hy], by rw [List.getElem?_eq_getElem hx], hm, List.getElem_mem hx, ?_⟩
  unfold sgnAt
  rw [if_pos h, List.getElem?_eq_getElem hy]
  simp only
  rw [List.getElem?_eq_getElem hx]
theorem ik_at {α : Type} {xs : List α} {i : Int} {v : α} {kk : α → Prop} (h0 : 0 ≤ i) (h : xs[i.toNat]? = some v) (q : kk v) : itk xs i kk := by
  obtain ⟨n, rfl⟩ : ∃ n : Nat, i = n := ⟨i.toNat, by omega⟩
  exact itk_of (atI_nat h) q
def t_Picture_lines : DTS := (dRet (dCB (on1 listDO) (dCons (dFld [(1, 0)] (dVar 0)) dNil)))
abbrev N_Picture_lines : List Str := ["self"]
@[irreducible] def r_Picture_lines : DSp := fun ds S Q _ => ∃ rows, ds = [pic rows] ∧ ∀ p, S p = none → Q (.adr p) (su S p (.lst (rows.map D.str)))
theorem len_Picture_lines : Ln 1 r_Picture_lines := fun ds S Q E h => by unfold r_Picture_lines at h; obtain ⟨a, rfl, _⟩ := h; rfl
theorem rd_Picture_lines : Rd t_Picture_lines N_Picture_lines r_Picture_lines := by
  intro ds S QD XD h
  unfold r_Picture_lines at h
  obtain ⟨rows, rfl, q⟩ := h
  rw [pic_is]
  row_hasAll w_d
  exact q
theorem i_linesO {rows : List Str} {S : Sto} {Q : DQ} {X : XQ} (h : ∀ p, S p = none → Q (.adr p) (su S p (.lst (rows.map D.str)))) : r_Picture_lines [pic rows] S Q X := by unfold r_Picture_lines; exact ⟨rows, rfl, h⟩
--#CALL refine mk_picG (.inl rfl) (by assumption) ?_
--#CALL refine i_contains ?_
--#CALL refine ik_at (by decide) rfl ?_
--#CALL refine i_getP (by assumption) ?_
--#CALL refine i_linesO fun p hp => fz_new hp ?_
end SM
--#ONETAC
local macro_rules | `(tactic| row_hasAll w_c) => `(tactic| first
  | refine mk_picG (.inl rfl) (by assumption) ?_
  | refine i_contains ?_
  | refine ik_at (by decide) rfl ?_
  | refine i_getP (by assumption) ?_
  | refine i_linesO fun p hp => fz_new hp ?_)
namespace SM
open PySem PySem.Spec PyProof.Rows L2
def cellsOf (p : Nat → Bool) (rows : List Str) : List Cell := rows.zipIdx.flatMap fun ry => (ry.1.cps.toList.zipIdx.filter fun cx => p cx.1).map fun cx => ((cx.2 : Int), (ry.2 : Int))
theorem mem_zi {α : Type} {l : List α} {x : α × Nat} (h : x ∈ l.zipIdx) : x.1 ∈ l := by
  obtain ⟨a, i⟩ := x
  rw [List.mem_zipIdx_iff_getElem?] at h
  exact List.mem_of_getElem? h
theorem cells_len {p : Nat → Bool} : ∀ {rows : List Str} {n : Nat}, (∀ r ∈ rows, r.length ≤ n) → (cellsOf p rows).length ≤ rows.length * n := by
  intro rows n h
  unfold cellsOf
  rw [List.length_flatMap]
  have e : rows.length = rows.zipIdx.length := by rw [List.length_zipIdx]
  rw [e]
  refine sum_le _ n rows.zipIdx fun ry hr => ?_
  rw [List.length_map]
  refine Nat.le_trans (List.length_filter_le ..) ?_
  rw [List.length_zipIdx, Array.length_toList]
  exact h _ (mem_zi hr)
theorem Grid.cl {rows : List Str} (g : Grid rows) (p : Nat → Bool) : (cellsOf p rows).length ≤ 64 := by
  have h1 := cells_len (p := p) (rows := rows) (n := 8) (fun r hr => by have := (g.row r hr).1; have := g.w8; omega)
  have := g.le
  omega
theorem Grid.rl {rows : List Str} (g : Grid rows) {r : Str} (hr : r ∈ rows) : r.cps.toList.length ≤ 8 := by
  have h1 := (g.row r hr).1
  have h2 := g.w8
  rw [Array.length_toList]
  have : (r.cps.size : Int) = wid rows := h1
  omega
end SM
--#ONETAC
local macro_rules | `(tactic| row_hasAll w_c) => `(tactic| first
  | refine i_stones (by assumption) ?_
  | refine i_holes (by assumption) ?_
  | refine i_lenP (by assumption) ?_
  | refine i_strP (by assumption) ?_)
namespace SM
open PySem PySem.Spec PyProof.Rows L2
theorem spl_mem {S0 : List Nat} : ∀ {l : List Nat} {k : Nat} {acc : List Nat} {p : List Nat}, p ∈ TL.spl S0 k acc l → p.length ≤ acc.length + l.length ∧ ∀ c ∈ p, c ∈ acc ∨ c ∈ l
  | [], k, acc, p, h => by
    rw [TL.spl_nil] at h
    simp at h
    subst h
    exact ⟨by simp, fun c hc => .inl hc⟩
  | c :: r, 0, acc, p, h => by
    cases e : TL.pre S0 (c :: r) with
    | true =>
      rw [TL.spl_hit e] at h
      rcases List.mem_cons.mp h with rfl | h
      · exact ⟨by omega, fun c hc => .inl hc⟩
      · obtain ⟨h1, h2⟩ := spl_mem h
        exact ⟨by simp at h1 ⊢; omega, fun d hd => by rcases h2 d hd with z | z; simp at z; exact .inr (List.mem_cons_of_mem _ z)⟩
    | false =>
      rw [TL.spl_miss e] at h
      obtain ⟨h1, h2⟩ := spl_mem h
      refine ⟨by simp at h1 ⊢; omega, fun d hd => ?_⟩
      rcases h2 d hd with z | z
      · rcases List.mem_append.mp z with z | z
        · exact .inl z
        · simp at z; subst z; exact .inr (List.mem_cons_self ..)
      · exact .inr (List.mem_cons_of_mem _ z)
  | c :: r, k + 1, acc, p, h => by
    obtain ⟨h1, h2⟩ := spl_mem (l := r) (k := k) (acc := acc) h
    exact ⟨by simp; omega, fun d hd => (h2 d hd).imp id (List.mem_cons_of_mem _)⟩
theorem spl_len {S0 : List Nat} : ∀ {l : List Nat} {k : Nat} {acc : List Nat}, (TL.spl S0 k acc l).length ≤ l.length + 1
  | [], k, acc => by rw [TL.spl_nil]; simp
  | c :: r, 0, acc => by
    cases e : TL.pre S0 (c :: r) with
    | true => rw [TL.spl_hit e]; have := spl_len (S0 := S0) (l := r) (k := S0.length - 1) (acc := []); simp; omega
    | false => rw [TL.spl_miss e]; have := spl_len (S0 := S0) (l := r) (k := 0) (acc := acc ++ [c]); simp; omega
  | c :: r, k + 1, acc => by
    have := spl_len (S0 := S0) (l := r) (k := k) (acc := acc)
    show (TL.spl S0 k acc r).length ≤ _
    simp; omega
theorem split_ok {a b : Str} (ha : okS a) (hb : TL.tl b ≠ []) (hk : b.cps.all (· < 256) = true) : (∀ s ∈ Txt.split a b, okS s) ∧ (Txt.split a b).length ≤ a.length + 1 := by
  have e := TL.split_spl a b hb (TL.kind_ok hk)
  constructor
  · intro s hs
    have hm : TL.tl s ∈ TL.spl (TL.tl b) 0 [] (TL.tl a) := by rw [← e]; exact List.mem_map_of_mem hs
    obtain ⟨h1, h2⟩ := spl_mem hm
    refine okS_sub (s := a) ha (fun c hc => ?_) ?_
    · rcases h2 c hc with z | z
      · simp at z
      · exact z
    · rw [len_tl s, len_tl a]
      simpa only [List.length_nil, Nat.zero_add] using h1
  · have : (Txt.split a b).length = ((Txt.split a b).map TL.tl).length := by rw [List.length_map]
    rw [this, e]
    have := spl_len (S0 := TL.tl b) (l := TL.tl a) (k := 0) (acc := [])
    have l2 := len_tl a
    omega
theorem sign_lt {c : Nat} (h : signB (one c) = true) : c < 123 ∧ c ≠ 10 ∧ (c = 46 ∨ 97 ≤ c) := by
  have h' : (decide (c = 46) || letB c) = true := h
  unfold letB at h'
  simp only [Bool.or_eq_true, decide_eq_true_eq] at h'
  omega
theorem Grid.split {rows : List Str} (g : Grid rows) : Txt.split (Txt.join "\n" rows) "\n" = rows :=
  TL.split_join (s := 10) (S := []) rfl (by decide +kernel) g.ne fun p hp hc => (sign_lt ((g.row p hp).2 10 hc)).2.1 rfl
theorem eqv_str (a b : Str) : PyData.eqv (toP (.str a)) (toP (.str b)) = decide (a = b) := by
  rw [← eqB_eq _ _ rfl rfl]; rfl
theorem eqB_strs : ∀ a b : List Str, eqB (.lst (a.map D.str)) (.lst (b.map D.str)) = decide (a = b)
  | [], [] => rfl
  | [], _ :: _ => rfl
  | _ :: _, [] => rfl
  | c :: a, d :: b => by
    have e : PyData.eqvAll (toPs (a.map D.str)) (toPs (b.map D.str)) = decide (a = b) := eqB_strs a b
    show (PyData.eqv (toP (.str c)) (toP (.str d)) && PyData.eqvAll (toPs (a.map D.str)) (toPs (b.map D.str))) = _
    rw [e, eqv_str]
    by_cases h1 : c = d <;> by_cases h2 : a = b <;> simp [h1, h2]
theorem pln_strs (n : Nat) (a : List Str) : pln (n + 2) (.lst (a.map D.str)) = true := by
  show plns (n + 1) (a.map D.str) = true
  rw [plns_all, List.all_eq_true]
  intro d hd
  obtain ⟨s, _, rfl⟩ := List.mem_map.mp hd
  rfl
end SM
--#ONETAC
local macro_rules | `(tactic| row_hasAll w_c) => `(tactic| first
  | refine i_readG (by assumption) ?_
  | refine i_eqPP ?_)
namespace SM
open PySem PySem.Spec PyProof.Rows L2
theorem lk_st {gd : Gd} {q : Pat} {te : DTE} {δ : DS} {α : Type} {g : α → D} (I : List α → List D → Sto → Prop) (hs : ∀ x r acc S, I (x :: r) acc S → gok gd S ∧ ∃ δ2, bindP q (g x) δ = some δ2 ∧ ∀ Q' : DQ, (∀ d S', I r (acc ++ [d]) S' → Q' d S') → te δ2 S Q' noX) {xs : List α} {S : Sto} {Q : List D → Sto → Prop}
    (h : I xs [] S) (hd : ∀ acc S, I [] acc S → gok gd S ∧ Q acc S) : lcK gd q dYes te δ (xs.map g) S Q := by
  rw [lcK_is]
  have key : ∀ (xs : List α) (acc : List D) (S : Sto), I xs acc S → dLcL gd q dYes te δ (xs.map g) S (fun ds S' => Q (acc ++ ds) S') := by
    intro xs
    induction xs with
    | nil => intro acc S h; exact ⟨(hd acc S h).1, by show Q (acc ++ []) S; rw [List.append_nil]; exact (hd acc S h).2⟩
    | cons x r ih =>
      intro acc S h
      obtain ⟨h1, δ2, e, t⟩ := hs x r acc S h
      rw [List.map_cons, dLcL, e]
      refine ⟨h1, ?_⟩
      show brn true _ _
      rw [brn_t]
      refine t _ fun d S' h' => ?_
      have := ih (acc ++ [d]) S' h'
      simpa using this
  simpa using key xs [] S h
def palOk (p : Str) : Prop := p.length = 3 ∧ ∀ c ∈ p.cps.toList, letB c = true
theorem abc_at {v : Int} (h0 : 0 ≤ v) (h1 : v < 26) : ∃ c, (Str.ofString "abcdefghijklmnopqrstuvwxyz").cps.toList[v.toNat]? = some c ∧ letB c = true := by
  have e : (Str.ofString "abcdefghijklmnopqrstuvwxyz").cps.toList = (List.range 26).map (· + 97) := by decide +kernel
  refine ⟨v.toNat + 97, ?_, ?_⟩
  · rw [e, List.getElem?_map, List.getElem?_range (by omega)]; rfl
  · unfold letB; exact decide_eq_true (by omega)
theorem app_codes (x y : Str) : (x ++ y).cps.toList = x.cps.toList ++ y.cps.toList := by
  show (x.cps ++ y.cps).toList = _
  exact Array.toList_append
def t_l_palette : DTS := (dSeq (dSet 1 (dC (.str "abcdefghijklmnopqrstuvwxyz"))) (dSeq (dSet 2 (dCall r_l_take [] (dCons (dVar 0) (dCons (dC (.int 26)) dNil)))) (dSeq (dSet 3 (dOp oMod (dCB (on1 intD) (dCons (dOp oAdd (dOp oAdd (dVar 2) (dC (.int 1))) (dCall r_l_take [] (dCons (dVar 0) (dCons (dC (.int 25)) dNil)))) dNil)) (dC (.int 26)))) (dSeq (dSet 4 (dOp oMod (dCB (on1 intD) (dCons (dOp oAdd (dOp oAdd (dVar 3) (dC (.int 1))) (dCall r_l_take [] (dCons (dVar 0) (dCons (dC (.int 25)) dNil)))) dNil)) (dC (.int 26)))) (dRet (dOp oAdd (dOp oAdd (dOp oIx (dVar 1) (dVar 2)) (dOp oIx (dVar 1) (dVar 3))) (dOp oIx (dVar 1) (dVar 4))))))))
abbrev N_l_palette : List Str := ["_law_bag_here", "_law_letters", "_law_first", "_law_second", "_law_third"]
@[irreducible] def r_l_palette : DSp := fun ds S Q _ => ∃ a b, ds = [.adr a] ∧ S a = some (bagO b) ∧ ∀ p b', palOk p → Q (.str p) (su S a (bagO b'))
theorem len_l_palette : Ln 1 r_l_palette := fun ds S Q E h => by unfold r_l_palette at h; obtain ⟨a, b, rfl, _⟩ := h; rfl
theorem rd_l_palette : Rd t_l_palette N_l_palette r_l_palette := by
  intro ds S QD XD h
  unfold r_l_palette at h
  obtain ⟨a, b, rfl, hS, q⟩ := h
  have hz := sizeLine_eq
  row_hasAll w_d
  refine i_take hS (by decide) (by decide) fun v1 b1 h1 h2 => ?_
  row_hasAll w_d
  refine i_takeB (by decide) (by decide) fun v2 b2 h3 h4 => ?_
  row_hasAll w_d
  refine i_takeB (by decide) (by decide) fun v3 b3 h5 h6 => ?_
  row_hasAll w_d
  obtain ⟨c1, e1, l1⟩ := abc_at h1 h2
  refine ik_at h1 e1 ?_
  row_hasAll w_d
  have g1 : 0 ≤ (v1 + 1 + v2) % 26 := by omega
  obtain ⟨c2, e2, l2⟩ := abc_at g1 (by omega)
  refine ik_at g1 e2 ?_
  row_hasAll w_d
  have g2 : 0 ≤ ((v1 + 1 + v2) % 26 + 1 + v3) % 26 := by omega
  obtain ⟨c3, e3, l3⟩ := abc_at g2 (by omega)
  refine ik_at g2 e3 ?_
  have a1 : (one c1 ++ one c2).length = 2 := by rw [slen_app]; rfl
  have a2 : (one c3).length = 1 := rfl
  row_hasAll w_d
  refine q _ b3 ⟨by rw [slen_app, slen_app]; rfl, fun c hc => ?_⟩
  rw [app_codes, app_codes] at hc
  simp [one] at hc
  rcases hc with rfl | rfl | rfl <;> assumption
theorem i_palette {a : Addr} {b : Bag} {S : Sto} {Q : DQ} {X : XQ} (hS : S a = some (bagO b)) (q : ∀ p b', palOk p → Q (.str p) (su S a (bagO b'))) : r_l_palette [.adr a] S Q X := by unfold r_l_palette; exact ⟨a, b, rfl, hS, q⟩
def t_l_row : DTS := (dSeq (dSet 3 (dC (.str ""))) (dSeq (dFor (dRng1 (dCons (dVar 2) dNil)) (.nm 4) (dSet 3 (dOp oAdd (dVar 3) (dOp oIx (dOp oAdd (dOp oAdd (dC (.str ".")) (dVar 1)) (dVar 1)) (dCall r_l_take [] (dCons (dVar 0) (dCons (dC (.int 7)) dNil))))))) (dRet (dVar 3))))
abbrev N_l_row : List Str := ["_law_bag_here", "_law_palette_here", "_law_wide", "_law_row_here", "_law_k"]
def rowOk (r : Str) : Prop := ∀ c ∈ r.cps.toList, signB (one c) = true
@[irreducible] def r_l_row : DSp := fun ds S Q _ => ∃ a b p n, ds = [.adr a, .str p, .int n] ∧ S a = some (bagO b) ∧ palOk p ∧ 0 ≤ n ∧ n ≤ 100 ∧ ∀ r b', (r.length : Int) = n → rowOk r → okS r → Q (.str r) (su S a (bagO b'))
theorem len_l_row : Ln 3 r_l_row := fun ds S Q E h => by unfold r_l_row at h; obtain ⟨a, b, c, d, rfl, _⟩ := h; rfl
theorem rowOk_ok {r : Str} (h : rowOk r) (hl : r.length ≤ 1000) : okS r := by
  rw [okS_iff]
  exact ⟨by rw [sizeLine_eq]; omega, fun c hc => by have := sign_lt (h c hc); omega⟩
theorem let_sign {c : Nat} (h : letB c = true) : signB (one c) = true := by
  show (decide (c = 46) || letB c) = true
  rw [h, Bool.or_true]
theorem pal_at {p : Str} (hp : palOk p) {v : Int} (h0 : 0 ≤ v) (h1 : v < 7) : ∃ c, (Str.ofString "." ++ p ++ p).cps.toList[v.toNat]? = some c ∧ signB (one c) = true := by
  have hl : p.cps.toList.length = 3 := by rw [Array.length_toList]; exact hp.1
  have e : (Str.ofString "." ++ p ++ p).cps.toList = [46] ++ p.cps.toList ++ p.cps.toList := by rw [app_codes, app_codes]; rfl
  rw [e]
  have hlt : v.toNat < ([46] ++ p.cps.toList ++ p.cps.toList).length := by simp only [List.length_append, hl, List.length_singleton]; omega
  refine ⟨_, List.getElem?_eq_getElem hlt, ?_⟩
  have hm := List.getElem_mem hlt
  rcases List.mem_append.mp hm with h | h
  · rcases List.mem_append.mp h with h | h
    · rw [List.mem_singleton.mp h]; rfl
    · exact let_sign (hp.2 _ h)
  · exact let_sign (hp.2 _ h)
theorem rd_l_row : Rd t_l_row N_l_row r_l_row := by
  intro ds S QD XD h
  unfold r_l_row at h
  obtain ⟨a, b, p, n, rfl, hS, hp, h0, h1, q⟩ := h
  have hz := sizeLine_eq
  row_hasAll w_d
  refine loop_of (xs := List.range (n - 0).toNat) (g := fun i : Nat => D.int (0 + (i : Nat))) (fun l δ S' => ∃ x b' r, δ = [some (.adr a), some (.str p), some (.int n), some (.str r), x] ∧ S' = su S a (bagO b') ∧ ((r.length + l.length : Nat) : Int) = n ∧ rowOk r) ?_ ?_ ?_
  rotate_left 2
  · have e0 : (Str.ofString "").length = 0 := rfl
    exact ⟨_, b, "", rfl, (su_self hS).symm, by rw [e0, List.length_range]; omega, fun c hc => by cases hc⟩
  · rintro i l δ S' ⟨x, b', r, rfl, rfl, hl, hr⟩
    refine ⟨_, rfl, fun N hN => ?_⟩
    have l1 : (Str.ofString ".").length = 1 := rfl
    have l2 := hp.1
    have l3 := slen_app (Str.ofString ".") p
    simp only [List.length_cons] at hl
    row_hasAll w_d
    refine i_takeB (by decide) (by decide) fun v b2 g0 g1 => ?_
    row_hasAll w_d
    obtain ⟨c, e, hc⟩ := pal_at hp g0 g1
    refine ik_at g0 e ?_
    have l4 : (one c).length = 1 := rfl
    row_hasAll w_d
    refine hN _ _ ⟨_, b2, r ++ one c, rfl, rfl, by rw [slen_app, l4]; omega, fun d hd => ?_⟩
    rw [app_codes] at hd
    rcases List.mem_append.mp hd with h | h
    · exact hr d h
    · have : d = c := by simpa [one] using h
      subst this
      exact hc
  · rintro δ S' ⟨x, b', r, rfl, rfl, hl, hr⟩
    row_hasAll w_d
    exact q r b' (by simpa using hl) hr (rowOk_ok hr (by simp at hl; omega))
theorem i_lrow {a : Addr} {b : Bag} {p : Str} {n : Int} {S : Sto} {Q : DQ} {X : XQ} (hS : S a = some (bagO b)) (hp : palOk p) (h0 : 0 ≤ n) (h1 : n ≤ 100) (q : ∀ r b', (r.length : Int) = n → rowOk r → okS r → Q (.str r) (su S a (bagO b'))) : r_l_row [.adr a, .str p, .int n] S Q X := by unfold r_l_row; exact ⟨a, b, p, n, rfl, hS, hp, h0, h1, q⟩
def t_l_big_grid : DTS := (dSeq (dSet 2 (dOp oAdd (dC (.int 1)) (dCall r_l_take [] (dCons (dVar 0) (dCons (dC (.int 8)) dNil))))) (dRet (dLc (dRng1 (dCons (dOp oAdd (dC (.int 1)) (dCall r_l_take [] (dCons (dVar 0) (dCons (dC (.int 8)) dNil)))) dNil)) (.nm 3) dYes (dCall r_l_row [] (dCons (dVar 0) (dCons (dVar 1) (dCons (dVar 2) dNil)))) [3])))
abbrev N_l_big_grid : List Str := ["_law_bag_here", "_law_palette_here", "_law_wide", "_law_k"]
@[irreducible] def r_l_big_grid : DSp := fun ds S Q _ => ∃ a b p, ds = [.adr a, .str p] ∧ S a = some (bagO b) ∧ palOk p ∧ ∀ rows b', Grid rows → Q (.lst (rows.map D.str)) (su S a (bagO b'))
theorem len_l_big_grid : Ln 2 r_l_big_grid := fun ds S Q E h => by unfold r_l_big_grid at h; obtain ⟨a, b, c, rfl, _⟩ := h; rfl
theorem rd_l_big_grid : Rd t_l_big_grid N_l_big_grid r_l_big_grid := by
  intro ds S QD XD h
  unfold r_l_big_grid at h
  obtain ⟨a, b, p, rfl, hS, hp, q⟩ := h
  row_hasAll w_d
  refine i_take hS (by decide) (by decide) fun v1 b1 h1 h2 => ?_
  row_hasAll w_d
  refine i_takeB (by decide) (by decide) fun v2 b2 h3 h4 => ?_
  row_hasAll w_d
  refine lk_st (xs := List.range (1 + v2 - 0).toNat) (g := fun i : Nat => D.int (0 + (i : Nat))) (fun l acc S' => ∃ b', ∃ rows : List Str, acc = rows.map D.str ∧ S' = su S a (bagO b') ∧ ((rows.length + l.length : Nat) : Int) = 1 + v2 ∧ ∀ r ∈ rows, (r.length : Int) = 1 + v1 ∧ rowOk r) ?_ ⟨b2, [], rfl, rfl, by simp; omega, by simp⟩ ?_
  · rintro i l acc S' ⟨b', rows, rfl, rfl, hl, hr⟩
    refine ⟨True.intro, _, rfl, fun Q' h => ?_⟩
    row_hasAll w_d
    refine i_lrow (b := b') su_same hp (by omega) (by omega) fun r b3 e1 e2 e3 => ?_
    rw [su_su]
    refine h _ _ ⟨b3, rows ++ [r], by simp, rfl, by simp at hl ⊢; omega, fun s hs => ?_⟩
    rcases List.mem_append.mp hs with h | h
    · exact hr s h
    · simp at h; subst h; exact ⟨e1, e2⟩
  · rintro acc S' ⟨b', rows, rfl, rfl, hl, hr⟩
    refine ⟨True.intro, ?_⟩
    have hn : rows ≠ [] := fun e => by rw [e] at hl; simp at hl; omega
    have hw : wid rows = 1 + v1 := by
      cases rows with
      | nil => exact absurd rfl hn
      | cons r rest => exact (hr r (List.mem_cons_self ..)).1
    exact q rows b' ⟨hn, by simp at hl; omega, by omega, by omega, fun r h => by rw [hw]; exact hr r h⟩
theorem i_big {a : Addr} {b : Bag} {p : Str} {S : Sto} {Q : DQ} {X : XQ} (hS : S a = some (bagO b)) (hp : palOk p) (q : ∀ rows b', Grid rows → Q (.lst (rows.map D.str)) (su S a (bagO b'))) : r_l_big_grid [.adr a, .str p] S Q X := by unfold r_l_big_grid; exact ⟨a, b, p, rfl, hS, hp, q⟩
theorem Grid.head {rows : List Str} (g : Grid rows) : ∃ r, rows[0]? = some r ∧ (r.length : Int) = wid rows := by
  cases rows with
  | nil => exact absurd rfl g.ne
  | cons r rest => exact ⟨r, rfl, rfl⟩
def allC (w h : Nat) : List Cell := (List.range h).flatMap fun (y : Nat) => (List.range w).map fun (x : Nat) => (((x : Nat) : Int), ((y : Nat) : Int))
theorem allC_succ (w h : Nat) : allC w (h + 1) = allC w h ++ (List.range w).map (fun (x : Nat) => (((x : Nat) : Int), ((h : Nat) : Int))) := by
  unfold allC
  rw [List.range_succ, List.flatMap_append]
  simp
end SM
--#ONETAC
local macro_rules | `(tactic| row_hasAll w_c) => `(tactic| first
  | refine i_lsign (by assumption) ?_
  | refine i_lcells (by assumption) ?_)
local macro_rules | `(tactic| row_hasAll w_d0) => `(tactic| (repeat ((try (conv => whnf)); first | refine vk_int ?_ | refine vk_str ?_ | refine vk_lst ?_ | refine vk_tup ?_ | refine vk_ins ?_| refine vk_bl ?_ | refine brT ?_ | refine brF ?_)); (try (conv => whnf)))
namespace SM
open PySem PySem.Spec PyProof.Rows L2
def codeAt (rows : List Str) (c : Cell) : Nat := match rows[c.2.toNat]? with
  | some r => (r.cps.toList[c.1.toNat]?).getD 0
  | none => 0
theorem zi_range (l : List Nat) : l.zipIdx = (List.range l.length).map fun x => ((l[x]?).getD 0, x) := by
  apply List.ext_getElem?
  intro i
  rw [List.getElem?_zipIdx, List.getElem?_map]
  rcases Nat.lt_or_ge i l.length with h | h
  · rw [List.getElem?_range h, List.getElem?_eq_getElem h]; simp [List.getElem?_eq_getElem h]
  · rw [List.getElem?_eq_none h, List.getElem?_eq_none (by simpa using h)]; rfl
theorem mem_allC {w h : Nat} {c : Cell} : c ∈ allC w h ↔ ∃ x y : Nat, x < w ∧ y < h ∧ c = ((x : Int), (y : Int)) := by
  unfold allC
  simp only [List.mem_flatMap, List.mem_map, List.mem_range]
  constructor
  · rintro ⟨y, hy, x, hx, rfl⟩; exact ⟨x, y, hx, hy, rfl⟩
  · rintro ⟨x, y, hx, hy, rfl⟩; exact ⟨y, hy, x, hx, rfl⟩
theorem cells_all {p : Nat → Bool} {w : Nat} : ∀ (n : Nat) (rows : List Str), rows.length = n → (∀ r ∈ rows, r.cps.toList.length = w) → cellsOf p rows = (allC w n).filter fun c => p (codeAt rows c)
  | 0, rows, hn, _ => by rw [List.length_eq_zero_iff.mp hn]; rfl
  | n + 1, rows, hn, hw => by
    obtain ⟨i, r, rfl⟩ : ∃ i r, rows = i ++ [r] := by
      rcases List.eq_nil_or_concat rows with h | ⟨i, r, h⟩
      · rw [h] at hn; cases hn
      · exact ⟨i, r, by simpa using h⟩
    have hi : i.length = n := by simpa using hn
    rw [allC_succ, List.filter_append]
    have a := cells_all (p := p) n i hi fun s hs => hw s (List.mem_append_left _ hs)
    have e1 : (allC w n).filter (fun c => p (codeAt (i ++ [r]) c)) = (allC w n).filter (fun c => p (codeAt i c)) := by
      refine List.filter_congr fun c hc => ?_
      obtain ⟨x, y, _, hy, rfl⟩ := mem_allC.mp hc
      unfold codeAt
      rw [show (i ++ [r])[((y : Nat) : Int).toNat]? = i[((y : Nat) : Int).toNat]? from List.getElem?_append_left (by simpa [hi] using hy)]
    rw [e1, ← a]
    unfold cellsOf
    rw [List.zipIdx_append, List.flatMap_append]
    congr 1
    have hr := hw r (List.mem_append_right _ (List.mem_singleton.mpr rfl))
    simp only [List.zipIdx_cons, List.zipIdx_nil, List.flatMap_cons, List.flatMap_nil, List.append_nil]
    rw [zi_range, hr, List.filter_map, List.filter_map, List.map_map]
    have e2 : (fun c => p c.1) ∘ (fun x => ((r.cps.toList[x]?).getD 0, x)) = (fun c => p (codeAt (i ++ [r]) c)) ∘ fun (x : Nat) => (((x : Nat) : Int), ((n : Nat) : Int)) := by
      funext x
      simp only [Function.comp]
      unfold codeAt
      rw [show (i ++ [r])[((n : Nat) : Int).toNat]? = some r by simp [hi]]
      rfl
    rw [e2]
    refine List.map_congr_left fun x _ => ?_
    simp [hi]
theorem Grid.all {rows : List Str} (g : Grid rows) (p : Nat → Bool) : cellsOf p rows = (allC (wid rows).toNat rows.length).filter fun c => p (codeAt rows c) :=
  cells_all _ _ rfl fun r hr => by
    have := (g.row r hr).1
    rw [Array.length_toList]
    have e : r.cps.size = r.length := rfl
    omega
theorem eqB_int (a b : Int) : eqB (.int a) (.int b) = decide (a = b) := by
  show PyData.eqv (toP (.int a)) (toP (.int b)) = _
  have : (a == b) = decide (a = b) := by by_cases h : a = b <;> simp [h]
  simp [toP, PyData.eqv, this]
theorem eqB_str (a b : Str) : eqB (.str a) (.str b) = decide (a = b) := eqv_str a b
end SM
--#ONETAC
local macro_rules | `(tactic| row_hasAll w_c) => `(tactic| first
  | refine i_lstones (by assumption) ?_
  | refine And.intro (by rw [pln_prs 6]; rfl) ?_
  | refine And.intro (by rw [pln_strs 7]; rfl) ?_
  | rw [eqB_prs]
  | rw [eqB_strs]
  | rw [eqB_str]
  | rw [eqB_int])
namespace SM
open PySem PySem.Spec PyProof.Rows L2
end SM
--#ONETAC
namespace SM
open PySem PySem.Spec PyProof.Rows L2
end SM
--#ONETAC
namespace SM
open PySem PySem.Spec PyProof.Rows L2
structure Bent (n : Nat) (rows : List Str) : Prop where
  ne : rows ≠ []
  le : rows.length ≤ 8
  row : ∀ r ∈ rows, r.length ≤ n ∧ ∀ c ∈ r.cps.toList, c < 128 ∧ c ≠ 10
def cutR (l : List Str) (lo hi : Option Int) : List Str := (l.drop (HT.sIx l.length 0 lo)).take (HT.sIx l.length l.length hi - HT.sIx l.length 0 lo)
theorem cutD_map (l : List Str) (lo hi : Option Int) : cutD (l.map D.str) lo hi = (cutR l lo hi).map D.str := by
  unfold cutD cutR
  rw [List.length_map, List.map_take, List.map_drop]
theorem cutR_mem {l : List Str} {lo hi : Option Int} {r : Str} (h : r ∈ cutR l lo hi) : r ∈ l := List.mem_of_mem_drop (List.mem_of_mem_take h)
end SM
--#ONETAC
namespace SM
open PySem PySem.Spec PyProof.Rows L2
theorem sIx_hi {n d : Nat} {i : Int} (h0 : 0 ≤ i) (h1 : i ≤ (n : Nat)) : HT.sIx n d (some i) = i.toNat := by
  show (if i < 0 then (i + (n : Int)).toNat else min i.toNat n) = _
  rw [if_neg (by omega)]; omega
theorem cutS_codes (z : Str) (lo hi : Option Int) : (cutS z lo hi).cps.toList = (z.cps.toList.drop (HT.sIx z.length 0 lo)).take (HT.sIx z.length z.length hi - HT.sIx z.length 0 lo) := by simp [cutS]
theorem slen_codes (z : Str) : z.cps.toList.length = z.length := Array.length_toList
def putS (r : Str) (x : Int) (s : Str) : Str := cutS r none (some x) ++ s ++ cutS r (some (x + 1)) none
theorem putS_codes {r : Str} {x : Int} {c : Nat} (h0 : 0 ≤ x) (h1 : x < (r.length : Nat)) : (putS r x (one c)).cps.toList = r.cps.toList.set x.toNat c := by
  unfold putS
  rw [app_codes, app_codes, cutS_codes, cutS_codes]
  have s1 : HT.sIx r.length 0 none = 0 := rfl
  have s2 : HT.sIx r.length r.length none = r.length := rfl
  rw [s1, s2, sIx_hi h0 (by omega), sIx_hi (by omega) (by omega), List.drop_zero, Nat.sub_zero]
  have hl := slen_codes r
  have e1 : (r.cps.toList.drop (x + 1).toNat).take (r.length - (x + 1).toNat) = r.cps.toList.drop (x + 1).toNat := List.take_of_length_le (by rw [List.length_drop]; omega)
  rw [e1, List.set_eq_take_append_cons_drop, if_pos (by omega)]
  have e2 : (x + 1).toNat = x.toNat + 1 := by omega
  have e3 : (one c).cps.toList = [c] := rfl
  rw [e2, e3, List.append_assoc]
  rfl
theorem putS_len {r : Str} {x : Int} {c : Nat} (h0 : 0 ≤ x) (h1 : x < (r.length : Nat)) : (putS r x (one c)).length = r.length := by
  rw [← slen_codes, putS_codes h0 h1, List.length_set, slen_codes]
def putR (rows : List Str) (x y : Int) (s : Str) : List Str := match rows[y.toNat]? with
  | some r => rows.set y.toNat (putS r x s)
  | none => rows
theorem putR_len (rows : List Str) (x y : Int) (s : Str) : (putR rows x y s).length = rows.length := by
  unfold putR
  split
  · rw [List.length_set]
  · rfl
theorem wid_head {rows : List Str} {r : Str} (h : rows[0]? = some r) : wid rows = (r.length : Nat) := by
  cases rows with
  | nil => cases h
  | cons a l => cases h; rfl
theorem Grid.wput {rows : List Str} (g : Grid rows) {x y : Int} (h : inP rows x y = true) (c : Nat) : wid (putR rows x y (one c)) = wid rows := by
  obtain ⟨r, k, e1, e2, hr, hc, e3⟩ := g.get h
  have h' := of_decide_eq_true (show decide ((0 ≤ x ∧ x < wid rows) ∧ (0 ≤ y ∧ y < (rows.length : Nat))) = true from h)
  have hl := (g.row r hr).1
  unfold putR
  rw [e1]
  obtain ⟨r0, e0, hw⟩ := g.head
  show wid (rows.set y.toNat (putS r x (one c))) = _
  by_cases hy : y.toNat = 0
  · have : (rows.set y.toNat (putS r x (one c)))[0]? = some (putS r x (one c)) := by
      rw [hy, List.getElem?_set_self (by have := (List.getElem?_eq_some_iff.mp e0).1; omega)]
    rw [wid_head this, putS_len h'.1.1 (by omega)]
    omega
  · have : (rows.set y.toNat (putS r x (one c)))[0]? = some r0 := by rw [List.getElem?_set_ne hy]; exact e0
    rw [wid_head this]; omega
theorem Grid.put {rows : List Str} (g : Grid rows) {x y : Int} (h : inP rows x y = true) {c : Nat} (hs : signB (one c) = true) : Grid (putR rows x y (one c)) := by
  have hw := g.wput h c
  obtain ⟨r, k, e1, e2, hr, hc, e3⟩ := g.get h
  have h' := of_decide_eq_true (show decide ((0 ≤ x ∧ x < wid rows) ∧ (0 ≤ y ∧ y < (rows.length : Nat))) = true from h)
  have hl := (g.row r hr).1
  refine ⟨fun e => ?_, by rw [putR_len]; exact g.le, by rw [hw]; exact g.w1, by rw [hw]; exact g.w8, fun s hs2 => ?_⟩
  · have := putR_len rows x y (one c)
    rw [e] at this
    exact g.ne (List.length_eq_zero_iff.mp this.symm)
  · rw [hw]
    unfold putR at hs2
    rw [e1] at hs2
    rcases List.mem_or_eq_of_mem_set hs2 with h9 | rfl
    · exact g.row s h9
    · refine ⟨by rw [putS_len h'.1.1 (by omega)]; exact hl, fun d hd => ?_⟩
      rw [putS_codes h'.1.1 (by omega)] at hd
      rcases List.mem_or_eq_of_mem_set hd with h9 | rfl
      · exact (g.row r hr).2 d h9
      · exact hs
theorem Grid.at {rows : List Str} (g : Grid rows) {x y : Nat} (hx : x < (wid rows).toNat) (hy : y < rows.length) : ∃ r, rows[y]? = some r ∧ r.cps.toList[x]? = some (codeAt rows (((x : Nat) : Int), ((y : Nat) : Int))) := by
  obtain ⟨r, k, e1, e2, _, _, e3⟩ := g.get (x := (x : Nat)) (y := (y : Nat)) (decide_eq_true ⟨⟨by omega, by omega⟩, by omega, by omega⟩)
  refine ⟨r, e1, ?_⟩
  have e : codeAt rows (((x : Nat) : Int), ((y : Nat) : Int)) = k := by unfold codeAt; rw [e1]; show (r.cps.toList[((x : Nat) : Int).toNat]?).getD 0 = k; rw [e2]; rfl
  rw [e]; exact e2
end SM
--#ONETAC
namespace SM
open PySem PySem.Spec PyProof.Rows L2
def cdF : List Nat → List Nat → Bool
  | _, [] => true
  | pre, c :: r => !decide (c ∈ pre) && ((decide (c = 35) || letB c) && cdF (pre ++ [c]) r)
def condB (s : Str) : Bool := cdF [] s.cps.toList && decide (0 < s.length)
theorem stone_one (c : Nat) : stoneB (one c) = letB c := rfl
def offB (x y : Int) : Bool := decide (¬ (x = 0 ∧ y = 0) ∧ -3 ≤ x ∧ x ≤ 3 ∧ -3 ≤ y ∧ y ≤ 3)
abbrev Part := Int × Int × Str
def prt (p : Part) : D := .tup [.int p.1, .int p.2.1, .str p.2.2]
def pk (p : Part) : Cell := (p.1, p.2.1)
def srtS (s : Str) : Str := Txt.join "" ((s.cps.toList.mergeSort (PySem.W.dataLe false fun c => PyData.str (one c))).map one)
def badPF : Nat → List Cell → List Part → Option Nat
  | _, _, [] => none
  | i, ks, p :: r => if 8 ≤ i ∨ offB p.1 p.2.1 = false ∨ pk p ∈ ks ∨ condB p.2.2 = false then some (i + 1) else badPF (i + 1) (ks ++ [pk p]) r
def badP (ps : List Part) : Option Nat := badPF 0 [] ps
def signsAt (ps : List Part) (c : Cell) : Str := ((ps.find? fun p => decide (pk p = c)).map (·.2.2)).getD ""
def sortP (ps : List Part) : List Part := (roSort (ps.map pk)).map fun c => (c.1, c.2, srtS (signsAt ps c))
end SM
namespace SM
open PySem PySem.Spec PyProof.Rows L2
def Grow (S S' : Sto) : Prop := ∀ a o, S a = some o → S' a = some o
theorem Grow.refl (S : Sto) : Grow S S := fun _ _ h => h
theorem Grow.trans {S S' S2 : Sto} (h : Grow S S') (h2 : Grow S' S2) : Grow S S2 := fun a o e => h2 a o (h a o e)
theorem Grow.new {S : Sto} {p : Addr} {o : OO} (h : S p = none) : Grow S (su S p o) := fun a o' e => by
  rw [su_ne]
  · exact e
  · intro z; subst z; rw [h] at e; cases e
end SM
--#ONETAC
local macro_rules | `(tactic| row_hasAll w_c) => `(tactic| first
  | refine i_cond ?_
  | refine i_offset ?_)
namespace SM
open PySem PySem.Spec PyProof.Rows L2
def GrowX (z : Addr) (S S' : Sto) : Prop := ∀ a o, a ≠ z → S a = some o → S' a = some o
def ruleOut (st : Str) (ps : List Part) : Option Nat := if stoneB st = false then some 0 else badP ps
theorem GrowX.refl {z : Addr} {S : Sto} : GrowX z S S := fun _ _ _ e => e
theorem GrowX.su {z : Addr} {S S' : Sto} {o : OO} (h : GrowX z S S') : GrowX z S (su S' z o) := fun a u haz e => by rw [su_ne haz]; exact h a u haz e
def countOut (st : Str) (ps : List Part) (nd : Int) : Option Nat := match ruleOut st ps with
  | some n => some n
  | none => if 0 ≤ nd ∧ nd ≤ (ps.length : Nat) then none else some 0
def placeP (cs : List Cell) : List Part := cs.map fun c => (c.1, c.2, "a")
def rul (k : Nat) (st : Str) (ps : List Part) (nd : Int) : D := match k with
  | 2 => .ins 2 [.str st, .lst (ps.map prt)]
  | 3 => .ins 3 [.str st, .lst (ps.map prt), .int nd]
  | _ => .ins 4 [.str st, .lst (ps.map prt), .int nd]
abbrev knd (k : Nat) : Prop := k = 2 ∨ k = 3 ∨ k = 4
def withS (ps : List Part) (s : Str) : List Part := ps.map fun p => (p.1, p.2.1, s)
end SM
--#ONETAC
namespace SM
open PySem PySem.Spec PyProof.Rows L2
structure PartsOk (ps : List Part) : Prop where
  le : ps.length ≤ 8
  nd : (ps.map pk).Nodup
  ok : ∀ p ∈ ps, offB p.1 p.2.1 = true ∧ condB p.2.2 = true ∧ p.2.2.length ≤ 30
theorem badPF_none : ∀ {ps : List Part} {i : Nat} {ks : List Cell}, i + ps.length ≤ 8 → (ks ++ ps.map pk).Nodup → (∀ p ∈ ps, offB p.1 p.2.1 = true ∧ condB p.2.2 = true) → badPF i ks ps = none
  | [], _, _, _, _, _ => rfl
  | p :: r, i, ks, hl, hn, h => by
    simp only [List.length_cons] at hl
    have hp := h p (List.mem_cons_self ..)
    rw [badPF, if_neg]
    · exact badPF_none (by omega) (by simpa using hn) fun q hq => h q (List.mem_cons_of_mem _ hq)
    · rintro (z | z | z | z)
      · omega
      · rw [hp.1] at z; cases z
      · rw [List.map_cons, List.nodup_append] at hn
        exact hn.2.2 _ z _ (List.mem_cons_self ..) rfl
      · rw [hp.2] at z; cases z
theorem PartsOk.bad {ps : List Part} (h : PartsOk ps) : badP ps = none := badPF_none (by have := h.le; omega) (by simpa using h.nd) fun p hp => ⟨(h.ok p hp).1, (h.ok p hp).2.1⟩
def kindS : Nat → Str
  | 2 => "all"
  | 3 => "count"
  | _ => "same"
structure LR (k : Nat) (hue : Str) (ps : List Part) (nd : Int) : Prop where
  kd : knd k
  hu : ∃ c, hue = one c ∧ letB c = true
  ok : PartsOk ps
  n0 : 0 ≤ nd
  n1 : nd ≤ (ps.length : Nat)
end SM
--#ONETAC
namespace SM
open PySem PySem.Spec PyProof.Rows L2
def t_l_is_letter : DTS := (dRet (dAndV (dOp oEq (dCB (on1 lenD) (dCons (dVar 0) dNil)) (dC (.int 1))) (dOp oIn (dVar 0) (dC (.str "abcdefghijklmnopqrstuvwxyz")))))
abbrev N_l_is_letter : List Str := ["_law_text"]
@[irreducible] def r_l_is_letter : DSp := fun ds S Q _ => ∃ s, ds = [.str s] ∧ Q (.bl (stoneB s)) S
theorem len_l_is_letter : Ln 1 r_l_is_letter := fun ds S Q E h => by unfold r_l_is_letter at h; obtain ⟨s, rfl, _⟩ := h; rfl
theorem rd_l_is_letter : Rd t_l_is_letter N_l_is_letter r_l_is_letter := by
  intro ds S QD XD h
  unfold r_l_is_letter at h
  obtain ⟨s, rfl, q⟩ := h
  exact rd_p_is_stone [.str s] S QD XD (by unfold r_p_is_stone; exact ⟨s, rfl, q⟩)
theorem i_letter {s : Str} {S : Sto} {Q : DQ} {X : XQ} (q : Q (.bl (stoneB s)) S) : r_l_is_letter [.str s] S Q X := by unfold r_l_is_letter; exact ⟨s, rfl, q⟩
theorem LR.out {k : Nat} {hue : Str} {ps : List Part} {nd : Int} (h : LR k hue ps nd) : ruleOut hue ps = none := by
  obtain ⟨c, rfl, hc⟩ := h.hu
  unfold ruleOut
  rw [if_neg (by rw [stone_one, hc]; simp), h.ok.bad]
theorem LR.len {k : Nat} {hue : Str} {ps : List Part} {nd : Int} (h : LR k hue ps nd) : ∀ p ∈ ps, p.2.2.length ≤ 1000 := fun p hp => by have := (h.ok.ok p hp).2.2; omega
end SM
--#ONETAC
local macro_rules | `(tactic| row_hasAll w_c) => `(tactic| first
  | refine i_llays (by row_hasAll w_side) ?_
  | refine i_lslack (by row_hasAll w_side) ?_
  | refine i_letter ?_)
namespace SM
open PySem PySem.Spec PyProof.Rows L2
def faultF (k : Nat) (st : Str) (ps : List Part) (nd : Int) : Int := if k ≠ 4 ∧ stoneB st = false then 0 else match badP ps with
  | some n => (n : Nat)
  | none => if nd < 0 ∨ nd > (ps.length : Nat) then 0 else -1
def outK (k : Nat) (st : Str) (ps : List Part) (nd : Int) : Option Nat := if k = 2 then ruleOut st ps else if k = 3 then countOut st ps nd else countOut "a" (placeP (ps.map pk)) nd
def partOf (k : Nat) (st : Str) (ps : List Part) (nd : Int) : Int := match outK k st ps nd with
  | some n => (n : Nat)
  | none => -1
end SM
--#ONETAC
namespace SM
open PySem PySem.Spec PyProof.Rows L2
end SM
--#ONETAC
namespace SM
open PySem PySem.Spec PyProof.Rows L2
def clB (rows : List Str) (x y : Int) (fr : List Cell) (p : Part) : Bool :=
  !decide (sgnAt rows (x + p.1) (y + p.2.1) = ".") && ((decide (sgnAt rows (x + p.1) (y + p.2.1) = "#") || !decide ((x + p.1, y + p.2.1) ∈ fr)) && !inS (sgnAt rows (x + p.1) (y + p.2.1)) p.2.2)
def shf (x y : Int) (p : Part) : Cell := (x + p.1, y + p.2.1)
def clL (rows : List Str) (x y : Int) (fr : List Cell) (ps : List Part) : List Cell := (ps.filter (clB rows x y fr)).map (shf x y)
def laysP (k : Nat) (st s : Str) : Bool := if k = 4 then stoneB s else decide (s = st)
def askP (k : Nat) (ps : List Part) (s : Str) : List Part := if k = 4 then withS ps s else ps
set_option hygiene false in
local macro_rules | `(tactic| row_hasAll w_tail19) => `(tactic| (
  rw [eqB_str]
  refine brN (c := sgnAt rows (x + t.1) (y + t.2.1) = Str.ofString ".") (fun h3 => ?_) (fun h3 => ?_)
  · row_hasAll w_d
    cases h4 : inS (sgnAt rows (x + t.1) (y + t.2.1)) t.2.2 with
    | true =>
      row_hasAll w_d
      exact no (by simp [h4])
    | false =>
      row_hasAll w_d
      refine ⟨by rw [List.length_map, sizeLine_eq]; omega, ?_⟩
      exact yes (by simp [h3, h4, hf])
  · row_hasAll w_d
    exact no (by simp [h3])))
end SM
--#ONETAC
namespace SM
open PySem PySem.Spec PyProof.Rows L2
def slkZ (k : Nat) (ps : List Part) (nd : Int) : Int := if k = 2 then 0 else (ps.length : Nat) - nd
def fitB (k : Nat) (st : Str) (ps : List Part) (nd : Int) (rows : List Str) (x y : Int) (s : Str) (fr : List Cell) : Bool := laysP k st s && decide (((clL rows x y fr (askP k ps s)).length : Int) ≤ slkZ k ps nd)
end SM
--#ONETAC
namespace SM
open PySem PySem.Spec PyProof.Rows L2
theorem inS_one (c : Nat) (s : Str) : inS (one c) s = decide (c ∈ s.cps.toList) := by
  unfold inS
  have e1 : (one c).cps.toList = [c] := rfl
  rw [e1]
def mparts (k : Nat) (ps : List Part) : List Part := if k = 4 then sortP (placeP (ps.map pk)) else sortP ps
def mhue (k : Nat) (hue : Str) : Str := if k = 4 then "" else hue
end SM
namespace SM
open PySem PySem.Spec PyProof.Rows L2
end SM
--#ONETAC
namespace SM
open PySem PySem.Spec PyProof.Rows L2
theorem vk_T3 {k : Nat} {st : Str} {ps : List Part} {nd : Int} {S : Sto} {r : DSp} {F : DSp → Prop} (hk : knd k) (h : F r) : vwk S (rul k st ps nd) (fun x' => tabK [(2, r), (3, r), (4, r)] x' F) := by
  rcases hk with rfl | rfl | rfl
  · exact vk_ins (tab_r rfl h)
  · exact vk_ins (tab_r rfl h)
  · exact vk_ins (tab_r rfl h)
end SM
namespace SM
open PySem PySem.Spec PyProof.Rows L2
end SM
--#ONETAC
local macro_rules | `(tactic| row_hasAll w_c) => `(tactic| first
  | refine i_laysK ?_
  | refine i_slackK ?_
  | refine vk_lays (by row_hasAll w_side) ?_
  | refine vk_slack (by row_hasAll w_side) ?_
  | refine vk_T3 (by row_hasAll w_side) ?_)
namespace SM
open PySem PySem.Spec PyProof.Rows L2
local macro_rules | `(tactic| row_hasAll w_c) => `(tactic| first
  | refine i_number (by row_hasAll w_side) ?_)
theorem split_len {a b : Str} (hb : TL.tl b ≠ []) (hk : b.cps.all (· < 256) = true) : ∀ s ∈ Txt.split a b, s.length ≤ a.length := fun s hs => by
  have e := TL.split_spl a b hb (TL.kind_ok hk)
  have hm : TL.tl s ∈ TL.spl (TL.tl b) 0 [] (TL.tl a) := by rw [← e]; exact List.mem_map_of_mem hs
  have := (spl_mem hm).1
  rw [len_tl s, len_tl a]
  simpa using this
def rdPart (w : Str) (same : Bool) : Option Part := match Txt.split (Txt.partition w ":").1 "," with
  | [a, b] => (match rdNum a, rdNum b with
    | some x, some y => if same = true then (if (Txt.partition w ":").2.1 = "" then some (x, y, "a") else none) else (if (Txt.partition w ":").2.2 = "" then none else some (x, y, (Txt.partition w ":").2.2))
    | _, _ => none)
  | _ => none
end SM
--#ONETAC
local macro_rules | `(tactic| row_hasAll w_c) => `(tactic| first
  | refine i_number (by row_hasAll w_side) ?_
  | refine i_part (by row_hasAll w_side) (by assumption) ?_)
namespace SM
open PySem PySem.Spec PyProof.Rows L2
def dig1 (w : Str) : Option Int := match w.cps.toList with
  | [c] => if 48 ≤ c ∧ c ≤ 57 then some ((c : Int) - 48) else none
  | _ => none
def rdPF (same : Bool) : Nat → List Str → Nat ⊕ List Part
  | _, [] => .inr []
  | i, w :: r => match rdPart w same with
    | none => .inl (i + 1)
    | some p => (match rdPF same (i + 1) r with
      | .inl n => .inl n
      | .inr ps => .inr (p :: ps))
theorem split_ne (a b : Str) (hb : TL.tl b ≠ []) (hk : b.cps.all (· < 256) = true) : Txt.split a b ≠ [] := fun h => by
  have e := TL.split_spl a b hb (TL.kind_ok hk)
  rw [h] at e
  have : ∀ (l acc : List Nat) (k : Nat), TL.spl (TL.tl b) k acc l ≠ [] := by
    intro l
    induction l with
    | nil => intro acc k; rw [TL.spl_nil]; simp
    | cons c r ih =>
      intro acc k
      cases k with
      | zero =>
        cases e : TL.pre (TL.tl b) (c :: r) with
        | true => rw [TL.spl_hit e]; simp
        | false => rw [TL.spl_miss e]; exact ih _ _
      | succ k => exact ih _ _
  exact this _ _ _ e.symm
set_option hygiene false in
local macro_rules | `(tactic| row_hasAll w_need26) => `(tactic| (
  by_cases hl1 : w1.cps.toList.length = 1
  · have hl2 : decide ((w1.length : Int) = 1) = true := decide_eq_true (by rw [slen_codes] at hl1; omega)
    rw [hl2]
    row_hasAll w_w
    cases hin : inS w1 (Str.ofString "0123456789") with
    | false =>
      have hn : dig1 w1 = none := by
        cases hd1 : dig1 w1 with
        | none => rfl
        | some v => have := ((hd w1).mpr ⟨v, hd1⟩).2; rw [hin] at this; cases this
      row_hasAll w_w
      exact hr hn hcond
    | true =>
      obtain ⟨v, hv⟩ := (hd w1).mp ⟨hl1, hin⟩
      row_hasAll w_w
      exact fun z => by rw [hv] at z; cases z.2
  · have hl2 : decide ((w1.length : Int) = 1) = false := decide_eq_false (by rw [slen_codes] at hl1; omega)
    have hn : dig1 w1 = none := by
      cases hd1 : dig1 w1 with
      | none => rfl
      | some v => exact absurd ((hd w1).mpr ⟨v, hd1⟩).1 hl1
    rw [hl2]
    row_hasAll w_w
    exact hr hn hcond))
end SM
--#ONETAC
namespace SM
open PySem PySem.Spec PyProof.Rows L2
structure SmP (st : Str) (ps : List Part) (nd : Int) : Prop where
  st : st.length ≤ 10
  le : ps.length ≤ 8
  ok : ∀ p ∈ ps, offB p.1 p.2.1 = true ∧ p.2.2.length ≤ 30
  n0 : 0 ≤ nd
  n8 : nd ≤ 8
theorem num_len {i : Int} (h : -8 ≤ i ∧ i ≤ 8) : (Str.ofString (toString i)).length ≤ 2 := by
  have : i = -8 ∨ i = -7 ∨ i = -6 ∨ i = -5 ∨ i = -4 ∨ i = -3 ∨ i = -2 ∨ i = -1 ∨ i = 0 ∨ i = 1 ∨ i = 2 ∨ i = 3 ∨ i = 4 ∨ i = 5 ∨ i = 6 ∨ i = 7 ∨ i = 8 := by omega
  rcases this with rfl | rfl | rfl | rfl | rfl | rfl | rfl | rfl | rfl | rfl | rfl | rfl | rfl | rfl | rfl | rfl | rfl <;> decide +kernel
theorem num_log {i : Int} (h : -8 ≤ i ∧ i ≤ 8) : i.natAbs.log2 < 1920 := by
  have : i = -8 ∨ i = -7 ∨ i = -6 ∨ i = -5 ∨ i = -4 ∨ i = -3 ∨ i = -2 ∨ i = -1 ∨ i = 0 ∨ i = 1 ∨ i = 2 ∨ i = 3 ∨ i = 4 ∨ i = 5 ∨ i = 6 ∨ i = 7 ∨ i = 8 := by omega
  rcases this with rfl | rfl | rfl | rfl | rfl | rfl | rfl | rfl | rfl | rfl | rfl | rfl | rfl | rfl | rfl | rfl | rfl <;> decide +kernel
theorem off_num {x y : Int} (h : offB x y = true) : (-8 ≤ x ∧ x ≤ 8) ∧ (-8 ≤ y ∧ y ≤ 8) := by
  have h2 := of_decide_eq_true h
  omega
set_option hygiene false in
local macro_rules | `(tactic| row_hasAll w_word27) => `(tactic| (
  obtain ⟨ho, hsl⟩ := h.ok x hx
  have hz := sizeLine_eq
  obtain ⟨n1, n2⟩ := off_num ho
  have l1 := num_len n1
  have l2 := num_len n2
  have e0 : Str.empty.length = 0 := rfl
  have e1 : (Str.ofString ",").length = 1 := rfl
  have e2 : (Str.ofString ":").length = 1 := rfl
  have g1 := num_log n1
  have g2 := num_log n2
  have a1 := slen_app Str.empty (Str.ofString (toString x.1))
  have a2 := slen_app (Str.empty ++ Str.ofString (toString x.1)) (Str.ofString ",")
  have a3 := slen_app (Str.empty ++ Str.ofString (toString x.1) ++ Str.ofString ",") (Str.ofString (toString x.2.1))
  have a4 := slen_app (Str.empty ++ Str.ofString (toString x.1) ++ Str.ofString "," ++ Str.ofString (toString x.2.1)) (Str.ofString ":")
  row_hasAll w_w
  rw [sempty_app]
  exact hh))
end SM
--#ONETAC
local macro_rules | `(tactic| row_hasAll w_c) => `(tactic| first
  | refine i_writtenK (by assumption) ?_
  | refine vk_written (by row_hasAll w_side) ?_)
namespace SM
open PySem PySem.Spec PyProof.Rows L2
def lsB (s : Str) : Prop := s ≠ "" ∧ ∀ c ∈ s.cps.toList, c = 35 ∨ letB c = true
theorem let_rng {c : Nat} (h : letB c = true) : 97 ≤ c ∧ c ≤ 122 := by
  unfold letB at h
  simpa using h
structure LnP (k : Nat) (st : Str) (ps : List Part) (nd : Int) : Prop where
  kd : knd k
  st : k ≠ 4 → ∃ c, st = one c ∧ letB c = true
  ok : ∀ p ∈ ps, offB p.1 p.2.1 = true ∧ lsB p.2.2
  n0 : 0 ≤ nd
  n8 : nd ≤ 8
end SM
--#ONETAC
namespace SM
open PySem PySem.Spec PyProof.Rows L2
theorem okS_ascii {s : Str} (hl : s.length ≤ sizeLine) (h : ∀ c ∈ s.cps.toList, c < 128) : okS s := by
  refine ⟨hl, ?_⟩
  unfold PyData.strOk
  rw [← Array.all_toList, List.all_eq_true]
  intro c hc
  have := h c hc
  simp
  omega
end SM
--#ONETAC
namespace SM
open PySem PySem.Spec PyProof.Rows L2
theorem vk_kind {k : Nat} {st : Str} {ps : List Part} {nd : Int} {S : Sto} {F : Str → Prop} (hk : knd k) (h : F (kindS k)) : vwk S (rul k st ps nd) (fun x' => tabV [(2, "all"), (3, "count"), (4, "same")] x' F) := by
  rcases hk with rfl | rfl | rfl <;> exact vk_ins (tabv_r rfl h)
--#CALL refine vk_conds (by row_hasAll w_side) ?_
end SM
--#ONETAC
local macro_rules | `(tactic| row_hasAll w_c) => `(tactic| first
  | refine vk_conds (by row_hasAll w_side) ?_
  | refine mlenM (by row_hasAll w_side) (by row_hasAll w_side) ?_
  | refine vk_kind (by row_hasAll w_side) ?_)
namespace SM
open PySem PySem.Spec PyProof.Rows L2
abbrev GR := Nat × Str × List Part × Int
def gD (g : GR) : D := rul g.1 g.2.1 g.2.2.1 g.2.2.2
structure GOk (g : GR) : Prop where
  kd : knd g.1
  le : g.2.2.1.length ≤ 8
  sm : SmP g.2.1 g.2.2.1 g.2.2.2
abbrev LRt (t : GR) : Prop := LR t.1 t.2.1 t.2.2.1 t.2.2.2
def mG (t : GR) : GR := (t.1, mhue t.1 t.2.1, mparts t.1 t.2.2.1, t.2.2.2)
theorem joinT_codes {y : Str} {l : List Str} {c : Nat} (h : c ∈ (Txt.join y l).cps.toList) : c ∈ y.cps.toList ∨ ∃ s ∈ l, c ∈ s.cps.toList := by
  have e : TL.tl (Txt.join y l) = TL.joinL (TL.tl y) (l.map TL.tl) := by rw [TL.join_eq]; exact TL.tl_join y l
  have h : c ∈ TL.tl (Txt.join y l) := h
  rw [e] at h
  rcases joinL_mem h with h | ⟨p, hp, h⟩
  · exact .inl h
  · obtain ⟨s, hs, rfl⟩ := List.mem_map.mp hp
    exact .inr ⟨s, hs, h⟩
structure LnOk (s : Str) : Prop where
  len : s.length ≤ 370
  ok : okS s
  nl : 10 ∉ s.cps.toList
  ne : s ≠ ""
theorem join_len (y : Str) (l : List Str) : (Txt.join y l).length ≤ (l.map (·.length)).sum + l.length * y.length := by
  have e : TL.tl (Txt.join y l) = TL.joinL (TL.tl y) (l.map TL.tl) := by rw [TL.join_eq]; exact TL.tl_join y l
  rw [len_tl, e]
  refine Nat.le_trans joinL_len ?_
  rw [List.map_map, List.length_map]
  exact Nat.le_refl _
end SM
--#ONETAC
namespace SM
open PySem PySem.Spec PyProof.Rows L2
theorem Sub.upd {S S' : Sto} {a : Addr} {o u : OO} (h : Sub (su S a o) S') : Sub (su S a u) (su S' a u) := fun b w e => by
  by_cases hb : b = a
  · subst hb; rw [su_same] at e ⊢; exact e
  · rw [su_ne hb] at e ⊢; exact h b w (by rw [su_ne hb]; exact e)
theorem Sub.own {S S' : Sto} {a : Addr} {o : OO} (h : Sub (su S a o) S') : S' a = some o := h _ _ su_same
theorem Sub.ne {S S' : Sto} {a p : Addr} {o : OO} (h : Sub (su S a o) S') (hp : S' p = none) : p ≠ a := fun e => by subst e; rw [h.own] at hp; cases hp
theorem Sub.drop {S S' : Sto} {p : Addr} (h : Sub S S') (hp : S p = none) : Sub S (sd S' p) := fun b o e => by
  have hbp : b ≠ p := fun z => by subst z; rw [hp] at e; cases e
  rw [sd_ne hbp]
  exact h b o e
theorem cutD_to (l : List D) (n : Nat) : cutD l none (some (n : Int)) = l.take n := by
  unfold cutD
  rw [HT.sIx_none, HT.sIx_nat, List.drop_zero, Nat.sub_zero]
  by_cases h : n ≤ l.length
  · rw [Nat.min_eq_left h]
  · rw [Nat.min_eq_right (by omega), List.take_of_length_le (Nat.le_refl _), List.take_of_length_le (by omega)]
theorem cutD_from (l : List D) (n : Nat) : cutD l (some (n : Int)) none = l.drop n := by
  unfold cutD
  rw [HT.sIx_none, HT.sIx_nat]
  rw [List.take_of_length_le (by rw [List.length_drop]; exact Nat.le_refl _)]
  by_cases h : n ≤ l.length
  · rw [Nat.min_eq_left h]
  · rw [Nat.min_eq_right (by omega), List.drop_of_length_le (Nat.le_refl _), List.drop_of_length_le (by omega)]
end SM
--#ONETAC
namespace SM
open PySem PySem.Spec PyProof.Rows L2
end SM
--#ONETAC
local macro_rules | `(tactic| row_hasAll w_c) => `(tactic| first
  | refine i_bookText (by row_hasAll w_side) (by assumption) ?_
  | refine i_lbookText (by row_hasAll w_side) (by assumption) ?_
  | refine i_lenB (by row_hasAll w_side) ?_
  | refine i_bookRead (by row_hasAll w_side) (by assumption) ?_
  | refine i_lbookIs (by row_hasAll w_side) (by assumption) ?_)
namespace SM
open PySem PySem.Spec PyProof.Rows L2
def gfit (g : GR) (rows : List Str) (x y : Int) (s : Str) (fr : List Cell) : Bool := fitB g.1 g.2.1 g.2.2.1 g.2.2.2 rows x y s fr
end SM
--#ONETAC
namespace SM
open PySem PySem.Spec PyProof.Rows L2
end SM
--#ONETAC
local macro_rules | `(tactic| row_hasAll w_c) => `(tactic| first
  | (first | refine i_free (.inl ⟨rfl, rfl⟩) ?_ | refine i_free (.inr rfl) ?_))
namespace SM
open PySem PySem.Spec PyProof.Rows L2
theorem Grid.inS {rows : List Str} (g : Grid rows) {p : Nat → Bool} {c : Cell} (h : c ∈ cellsOf p rows) : inP rows c.1 c.2 = true := by
  rw [g.all] at h
  obtain ⟨x, y, h1, h2, rfl⟩ := mem_allC.mp (List.mem_filter.mp h).1
  have := g.w1
  unfold inP
  rw [decide_eq_true_eq]
  refine ⟨⟨by show (0 : Int) ≤ (x : Int); omega, by show (x : Int) < _; omega⟩, ⟨by show (0 : Int) ≤ (y : Int); omega, by show (y : Int) < _; omega⟩⟩
end SM
--#ONETAC
namespace SM
open PySem PySem.Spec PyProof.Rows L2
end SM
--#ONETAC
namespace SM
open PySem PySem.Spec PyProof.Rows L2
end SM
namespace SM
open PySem PySem.Spec PyProof.Rows L2
end SM
--#ONETAC
namespace SM
open PySem PySem.Spec PyProof.Rows L2
theorem Grid.mem {rows : List Str} (g : Grid rows) {p : Nat → Bool} {c : Cell} : c ∈ cellsOf p rows ↔ inP rows c.1 c.2 = true ∧ p (codeAt rows c) = true := by
  constructor
  · intro h
    refine ⟨g.inS h, ?_⟩
    rw [g.all] at h
    exact (List.mem_filter.mp h).2
  · rintro ⟨h1, h2⟩
    rw [g.all]
    refine List.mem_filter.mpr ⟨mem_allC.mpr ⟨c.1.toNat, c.2.toNat, ?_⟩, h2⟩
    have h' := of_decide_eq_true (show decide ((0 ≤ c.1 ∧ c.1 < wid rows) ∧ (0 ≤ c.2 ∧ c.2 < (rows.length : Nat))) = true from h1)
    exact ⟨by omega, by omega, Prod.ext (by show c.1 = _; omega) (by show c.2 = _; omega)⟩
end SM
--#ONETAC
namespace SM
open PySem PySem.Spec PyProof.Rows L2
end SM
--#ONETAC
namespace SM
open PySem PySem.Spec PyProof.Rows L2
inductive Deed where
  | fall (c : Cell)
  | mend (c : Cell) (n : Nat) (s : Str)
def deD : Deed → D
  | .fall c => .tup [.str "fall", .int c.1, .int c.2]
  | .mend c n s => .tup [.str "mend", .int c.1, .int c.2, .int (n : Nat), .str s]
def Deed.cell : Deed → Cell
  | .fall c => c
  | .mend c _ _ => c
def Deed.sign : Deed → Str
  | .fall _ => "."
  | .mend _ _ s => s
def Deed.can (gs : List GR) (rows : List Str) : Deed → Prop
  | .fall c => inP rows c.1 c.2 = true ∧ sgnAt rows c.1 c.2 ≠ "."
  | .mend c n s => inP rows c.1 c.2 = true ∧ sgnAt rows c.1 c.2 = "." ∧ stoneB s = true ∧ ∃ g, gs[n]? = some g ∧ gfit g rows c.1 c.2 s [] = true
def Deed.on (rows : List Str) (d : Deed) : List Str := putR rows d.cell.1 d.cell.2 d.sign
def Tale (gs : List GR) : List Str → List Deed → List Str → Prop
  | r, [], r' => r' = r
  | r, d :: ds, r' => d.can gs r ∧ Tale gs (d.on r) ds r'
theorem Tale.append {gs : List GR} {c : List Str} {es : List Deed} : ∀ {a b : List Str} {ds : List Deed}, Tale gs a ds b → Tale gs b es c → Tale gs a (ds ++ es) c
  | _, _, [], h, h2 => by cases h; exact h2
  | _, _, d :: ds, h, h2 => ⟨h.1, Tale.append h.2 h2⟩
theorem Tale.split {gs : List GR} {c : List Str} {es : List Deed} : ∀ {a : List Str} {ds : List Deed}, Tale gs a (ds ++ es) c → ∃ b, Tale gs a ds b ∧ Tale gs b es c
  | a, [], h => ⟨a, rfl, h⟩
  | a, d :: ds, h => by
    obtain ⟨b, h1, h2⟩ := Tale.split h.2
    exact ⟨b, ⟨h.1, h1⟩, h2⟩
theorem stoneB_one {s : Str} (h : stoneB s = true) : ∃ k, s = one k ∧ letB k = true := by
  unfold stoneB at h
  split at h
  · rename_i c e
    exact ⟨c, str_of s [c] e, h⟩
  · cases h
theorem Deed.put1 {gs : List GR} {rows : List Str} {d : Deed} (h : d.can gs rows) : inP rows d.cell.1 d.cell.2 = true ∧ ∃ k, d.sign = one k ∧ signB (one k) = true := by
  cases d with
  | fall c => exact ⟨h.1, 46, rfl, rfl⟩
  | mend c n s =>
    obtain ⟨k, e, hk⟩ := stoneB_one h.2.2.1
    exact ⟨h.1, k, e, by show (decide (k = 46) || letB k) = true; rw [hk, Bool.or_true]⟩
structure Same (a b : List Str) : Prop where
  g : Grid b
  w : wid b = wid a
  h : b.length = a.length
theorem Deed.same {gs : List GR} {rows : List Str} {d : Deed} (g : Grid rows) (h : d.can gs rows) : Same rows (d.on rows) := by
  obtain ⟨h1, k, e, h2⟩ := Deed.put1 h
  unfold Deed.on
  rw [e]
  exact ⟨g.put h1 h2, g.wput h1 k, putR_len ..⟩
theorem Same.trans {a b c : List Str} (h : Same a b) (h2 : Same b c) : Same a c := ⟨h2.g, h2.w.trans h.w, h2.h.trans h.h⟩
theorem Same.refl {a : List Str} (g : Grid a) : Same a a := ⟨g, rfl, rfl⟩
theorem Tale.same {gs : List GR} : ∀ {a b : List Str} {ds : List Deed}, Grid a → Tale gs a ds b → Same a b
  | _, _, [], g, h => by cases h; exact .refl g
  | _, _, d :: ds, g, h => (Deed.same g h.1).trans (Tale.same (Deed.same g h.1).g h.2)
theorem Same.inP {a b : List Str} (h : Same a b) (x y : Int) : inP b x y = inP a x y := by
  unfold SM.inP
  rw [h.w, h.h]
theorem Same.all {a b : List Str} (h : Same a b) : allC (wid b).toNat b.length = allC (wid a).toNat a.length := by rw [h.w, h.h]
structure Scene (n : Int) (p : Str) (ts : List GR) (rows : List Str) (dl : List Deed) (rows' : List Str) : Prop where
  pal : palOk p
  tl : ts.length ≤ 4
  ok : ∀ t ∈ ts, LRt t
  g : Grid rows
  g12 : wid rows * (rows.length : Nat) ≤ 12
  tale : Tale (ts.map mG) rows dl rows'
  dl : (dl.length : Int) ≤ n + 64
end SM
--#ONETAC
namespace SM
open PySem PySem.Spec PyProof.Rows L2
def coordB (w : Str) : Bool := match w.cps.toList with
  | [c] => decide (48 ≤ c ∧ c ≤ 55)
  | _ => false
def ruleB (w : Str) : Bool := match w.cps.toList with
  | [c] => decide (48 ≤ c ∧ c ≤ 57)
  | [c, d] => decide (49 ≤ c ∧ c ≤ 57) && decide (48 ≤ d ∧ d ≤ 57)
  | _ => false
@[irreducible] def numW (w : Str) : Nat := ((PySem.intText? w).getD 0).toNat
@[irreducible] def nT (n : Nat) : Str := Str.ofString (toString (n : Int))
theorem nT_fact : ∀ n < 100, (nT n).cps.toList.all (fun c => decide (48 ≤ c ∧ c ≤ 57)) = true ∧ (nT n).length ≤ 2 ∧ PySem.intText? (nT n) = some (n : Int) ∧ ruleB (nT n) = true ∧ nT n ≠ "" := by decide +kernel
theorem nT_coord : ∀ n < 8, coordB (nT n) = true := by decide +kernel
theorem nT_one : ∀ a < 10, (⟨#[48 + a]⟩ : Str) = nT a := by decide +kernel
theorem nT_two : ∀ a < 9, ∀ b < 10, (⟨#[49 + a, 48 + b]⟩ : Str) = nT (10 * (a + 1) + b) := by decide +kernel
theorem coord_of {w : Str} (h : coordB w = true) : ∃ k : Nat, k < 8 ∧ w = nT k := by
  unfold coordB at h
  split at h
  · rename_i c e
    have h := of_decide_eq_true h
    refine ⟨c - 48, by omega, ?_⟩
    rw [← nT_one (c - 48) (by omega), show 48 + (c - 48) = c from by omega]
    exact str_of _ _ e
  · cases h
theorem rule_of {w : Str} (h : ruleB w = true) : ∃ k : Nat, k < 100 ∧ w = nT k := by
  unfold ruleB at h
  split at h
  · rename_i c e
    have h := of_decide_eq_true h
    refine ⟨c - 48, by omega, ?_⟩
    rw [← nT_one (c - 48) (by omega), show 48 + (c - 48) = c from by omega]
    exact str_of _ _ e
  · rename_i c d e
    rw [Bool.and_eq_true, decide_eq_true_eq, decide_eq_true_eq] at h
    refine ⟨10 * (c - 49 + 1) + (d - 48), by omega, ?_⟩
    rw [← nT_two (c - 49) (by omega) (d - 48) (by omega), show 49 + (c - 49) = c from by omega, show 48 + (d - 48) = d from by omega]
    exact str_of _ _ e
  · cases h
theorem nT_num {n : Nat} (h : n < 100) : numW (nT n) = n := by unfold numW; rw [(nT_fact n h).2.2.1]; rfl
def rdDeed (line : Str) : Option Deed := match Txt.split line " " with
  | w0 :: w1 :: w2 :: r => if coordB w1 = true ∧ coordB w2 = true then (match r with
    | [] => if w0 = "fall" then some (.fall (((numW w1 : Nat) : Int), ((numW w2 : Nat) : Int))) else none
    | [w3, w4] => if w0 = "mend" ∧ ruleB w3 = true ∧ stoneB w4 = true then some (.mend (((numW w1 : Nat) : Int), ((numW w2 : Nat) : Int)) (numW w3) w4) else none
    | _ => none) else none
  | _ => none
def CoB (c : Cell) : Prop := (0 ≤ c.1 ∧ c.1 ≤ 7) ∧ 0 ≤ c.2 ∧ c.2 ≤ 7
def Deed.txt : Deed → Prop
  | .fall c => CoB c
  | .mend c n s => CoB c ∧ n < 100 ∧ stoneB s = true
def wordsD : Deed → List Str
  | .fall c => ["fall", Str.ofString (toString c.1), Str.ofString (toString c.2)]
  | .mend c n s => ["mend", Str.ofString (toString c.1), Str.ofString (toString c.2), nT n, s]
def lineD (d : Deed) : Str := Txt.join " " (wordsD d)
def taleT (rows : List Str) (dl : List Deed) : Str := Txt.join "\n" (rows ++ [Str.ofString "--"] ++ dl.map lineD)
structure WdOk (w : Str) : Prop where
  cd : ∀ x ∈ w.cps.toList, 48 ≤ x ∧ x ≤ 122
  le : w.length ≤ 4
  ok : okS w
theorem okS_asc {w : Str} (h : ∀ x ∈ w.cps.toList, x ≤ 122) (hl : w.length ≤ 1000) : okS w := okS_ascii (Nat.le_trans hl (by decide)) (fun x hx => by have := h x hx; omega)
theorem nT_wd {n : Nat} (h : n < 100) : WdOk (nT n) := by
  obtain ⟨h1, h2, _⟩ := nT_fact n h
  have h3 : ∀ x ∈ (nT n).cps.toList, 48 ≤ x ∧ x ≤ 122 := fun x hx => by
    have := of_decide_eq_true (List.all_eq_true.mp h1 x hx)
    omega
  exact ⟨h3, by omega, okS_asc (fun x hx => (h3 x hx).2) (by omega)⟩
theorem intT {i : Int} (h : 0 ≤ i ∧ i ≤ 7) : ∃ n : Nat, n < 8 ∧ i = n ∧ Str.ofString (toString i) = nT n := ⟨i.toNat, by omega, by omega, by unfold nT; rw [Int.toNat_of_nonneg h.1]⟩
theorem words_wd {d : Deed} (h : d.txt) : ∀ w ∈ wordsD d, WdOk w := fun w hw => by
  have hs : ∀ s : Str, stoneB s = true → WdOk s := fun s hs => by
    obtain ⟨k, rfl, hk⟩ := stoneB_one hs
    have := let_rng hk
    have h3 : ∀ x ∈ (one k).cps.toList, 48 ≤ x ∧ x ≤ 122 := fun x hx => by
      have e : x = k := by simpa [one] using hx
      omega
    exact ⟨h3, by show 1 ≤ 4; decide, okS_asc (fun x hx => (h3 x hx).2) (by show 1 ≤ 1000; decide)⟩
  have hm : WdOk "mend" := ⟨by decide +kernel, by decide +kernel, by decide +kernel⟩
  have hf : WdOk "fall" := ⟨by decide +kernel, by decide +kernel, by decide +kernel⟩
  cases d with
  | fall c =>
    obtain ⟨h1, h2⟩ := h
    obtain ⟨a, ha, _, ea⟩ := intT h1
    obtain ⟨b, hb, _, eb⟩ := intT h2
    simp only [wordsD] at hw
    rw [ea, eb] at hw
    simp only [List.mem_cons, List.not_mem_nil, or_false] at hw
    rcases hw with rfl | rfl | rfl
    · exact hf
    · exact nT_wd (by omega)
    · exact nT_wd (by omega)
  | mend c n s =>
    obtain ⟨⟨h1, h2⟩, hn, hst⟩ := h
    obtain ⟨a, ha, _, ea⟩ := intT h1
    obtain ⟨b, hb, _, eb⟩ := intT h2
    simp only [wordsD] at hw
    rw [ea, eb] at hw
    simp only [List.mem_cons, List.not_mem_nil, or_false] at hw
    rcases hw with rfl | rfl | rfl | rfl | rfl
    · exact hm
    · exact nT_wd (by omega)
    · exact nT_wd (by omega)
    · exact nT_wd hn
    · exact hs _ hst
theorem words_ne (d : Deed) : wordsD d ≠ [] := by cases d <;> exact List.cons_ne_nil _ _
theorem words_len (d : Deed) : (wordsD d).length ≤ 5 := by cases d <;> simp [wordsD]
theorem lineD_split {d : Deed} (h : d.txt) : Txt.split (lineD d) " " = wordsD d := TL.split_join (s := 32) (S := []) rfl (by decide +kernel) (words_ne d) fun p hp hc => by
  have := (words_wd h p hp).cd 32 hc
  omega
theorem lineD_back {d : Deed} (h : d.txt) : rdDeed (lineD d) = some d := by
  unfold rdDeed
  rw [lineD_split h]
  cases d with
  | fall c =>
    obtain ⟨x, y⟩ := c
    obtain ⟨h1, h2⟩ := h
    obtain ⟨a, ha, rfl, ea⟩ := intT h1
    obtain ⟨b, hb, rfl, eb⟩ := intT h2
    simp only [wordsD]
    rw [ea, eb]
    rw [if_pos ⟨nT_coord a ha, nT_coord b hb⟩, if_pos trivial, nT_num (by omega), nT_num (by omega)]
  | mend c n s =>
    obtain ⟨x, y⟩ := c
    obtain ⟨⟨h1, h2⟩, hn, hst⟩ := h
    obtain ⟨a, ha, rfl, ea⟩ := intT h1
    obtain ⟨b, hb, rfl, eb⟩ := intT h2
    simp only [wordsD]
    rw [ea, eb]
    rw [if_pos ⟨nT_coord a ha, nT_coord b hb⟩, if_pos ⟨trivial, (nT_fact n hn).2.2.2.1, hst⟩, nT_num (by omega), nT_num (by omega), nT_num hn]
theorem lineD_codes {d : Deed} (h : d.txt) : ∀ x ∈ (lineD d).cps.toList, x = 32 ∨ (48 ≤ x ∧ x ≤ 122) := fun x hx => by
  rcases joinT_codes hx with hx | ⟨w, hw, hx⟩
  · have : x = 32 := by simpa using (show x ∈ [32] from hx)
    exact .inl this
  · exact .inr ((words_wd h w hw).cd x hx)
theorem sumL_le {l : List Str} {k : Nat} (h : ∀ w ∈ l, w.length ≤ k) : (l.map (·.length)).sum ≤ l.length * k := sum_le (fun s : Str => s.length) k l h
theorem lineD_len {d : Deed} (h : d.txt) : ((wordsD d).map (·.length)).sum + (wordsD d).length * (Str.ofString " ").length ≤ 25 := by
  have h1 := sumL_le fun w hw => (words_wd h w hw).le
  have h2 := words_len d
  have e : (Str.ofString " ").length = 1 := rfl
  rw [e]
  omega
theorem lineD_le {d : Deed} (h : d.txt) : (lineD d).length ≤ 25 := Nat.le_trans (join_len _ _) (lineD_len h)
theorem lineD_ok {d : Deed} (h : d.txt) : okS (lineD d) := okS_asc (fun x hx => by have := lineD_codes h x hx; omega) (Nat.le_trans (lineD_le h) (by decide))
theorem sign_codes {c : Nat} (h : signB (one c) = true) : c = 46 ∨ (97 ≤ c ∧ c ≤ 122) := by
  have h : (decide (c = 46) || letB c) = true := h
  rw [Bool.or_eq_true, decide_eq_true_eq] at h
  exact h.imp id let_rng
theorem row_codes {rows : List Str} (g : Grid rows) {r : Str} (hr : r ∈ rows) : ∀ x ∈ r.cps.toList, x = 46 ∨ (97 ≤ x ∧ x ≤ 122) := fun x hx => sign_codes ((g.row r hr).2 x hx)
theorem row_le {rows : List Str} (g : Grid rows) {r : Str} (hr : r ∈ rows) : r.length ≤ 8 := by
  have := (g.row r hr).1
  have := g.w8
  omega
theorem dash_no {rows : List Str} (g : Grid rows) : (Str.ofString "--") ∉ rows := fun h => by
  have := row_codes g h 45 (by decide +kernel)
  omega
theorem tale_split {rows : List Str} {dl : List Deed} (g : Grid rows) (h : ∀ d ∈ dl, d.txt) : Txt.split (taleT rows dl) "\n" = rows ++ [Str.ofString "--"] ++ dl.map lineD := TL.split_join (s := 10) (S := []) rfl (by decide +kernel) (by simp) fun p hp hc => by
  rcases List.mem_append.mp hp with hp | hp
  · rcases List.mem_append.mp hp with hp | hp
    · have := row_codes g hp 10 hc
      omega
    · have e : p = Str.ofString "--" := List.mem_singleton.mp hp
      rw [e] at hc
      revert hc
      decide +kernel
  · obtain ⟨d, hd, rfl⟩ := List.mem_map.mp hp
    have := lineD_codes (h d hd) 10 hc
    omega
theorem tale_ok1 {rows : List Str} {dl : List Deed} (g : Grid rows) (h : ∀ d ∈ dl, d.txt) : ∀ s ∈ rows ++ [Str.ofString "--"] ++ dl.map lineD, okS s ∧ s.length ≤ 25 := fun p hp => by
  rcases List.mem_append.mp hp with hp | hp
  · rcases List.mem_append.mp hp with hp | hp
    · have hl := row_le g hp
      exact ⟨okS_asc (fun x hx => by have := row_codes g hp x hx; omega) (by omega), by omega⟩
    · rw [List.mem_singleton.mp hp]
      exact ⟨by decide +kernel, by decide +kernel⟩
  · obtain ⟨d, hd, rfl⟩ := List.mem_map.mp hp
    exact ⟨lineD_ok (h d hd), lineD_le (h d hd)⟩
theorem tale_len {rows : List Str} {dl : List Deed} (g : Grid rows) (h : ∀ d ∈ dl, d.txt) : ((rows ++ [Str.ofString "--"] ++ dl.map lineD).map (·.length)).sum + (rows ++ [Str.ofString "--"] ++ dl.map lineD).length * (Str.ofString "\n").length ≤ 26 * (9 + dl.length) := by
  have h1 := sumL_le fun w hw => (tale_ok1 g h w hw).2
  have h2 : (rows ++ [Str.ofString "--"] ++ dl.map lineD).length ≤ 9 + dl.length := by
    rw [List.length_append, List.length_append, List.length_map, List.length_singleton]
    have := g.le
    omega
  have e : (Str.ofString "\n").length = 1 := rfl
  rw [e]
  omega
theorem can_txt {gs : List GR} {rows : List Str} {d : Deed} (g : Grid rows) (hl : gs.length ≤ 100) (h : d.can gs rows) : d.txt := by
  have hc : ∀ c : Cell, inP rows c.1 c.2 = true → CoB c := fun c h => by
    unfold inP at h
    rw [decide_eq_true_eq] at h
    have := g.w8
    have := g.le
    exact ⟨⟨h.1.1, by omega⟩, h.2.1, by omega⟩
  cases d with
  | fall c => exact hc c h.1
  | mend c n s =>
    obtain ⟨h1, _, h3, gg, h4, _⟩ := h
    have := (List.getElem?_eq_some_iff.mp h4).1
    exact ⟨hc c h1, by omega, h3⟩
theorem Tale.txt {gs : List GR} (hl : gs.length ≤ 100) : ∀ {a b : List Str} {dl : List Deed}, Grid a → Tale gs a dl b → ∀ d ∈ dl, d.txt
  | _, _, [], _, _, d, hd => nomatch hd
  | _, _, e :: dl, g, h, d, hd => by
    rcases List.mem_cons.mp hd with rfl | hd
    · exact can_txt g hl h.1
    · exact Tale.txt hl (Deed.same g h.1).g h.2 d hd
end SM
--#ONETAC
namespace SM
open PySem PySem.Spec PyProof.Rows L2
theorem len_two {α : Type} : ∀ {l : List α}, l.length = 2 → ∃ a b, l = [a, b]
  | [a, b], _ => ⟨a, b, rfl⟩
theorem slen1 {w : Str} : (((w.length : Nat) : Int) = 1) ↔ ∃ c, w.cps.toList = [c] := by
  have h := slen_codes w
  constructor
  · intro e
    have : w.cps.toList.length = 1 := by omega
    exact List.length_eq_one_iff.mp this
  · rintro ⟨c, e⟩
    rw [e] at h
    have : w.length = 1 := h.symm
    omega
def t_p_is_coordinate : DTS := (dRet (dAndV (dOp oEq (dCB (on1 lenD) (dCons (dVar 0) dNil)) (dC (.int 1))) (dOp oIn (dVar 0) (dC (.str "01234567")))))
abbrev N_p_is_coordinate : List Str := ["word"]
@[irreducible] def r_p_is_coordinate : DSp := fun ds S Q _ => ∃ w : Str, ds = [.str w] ∧ Q (.bl (coordB w)) S
theorem len_p_is_coordinate : Ln 1 r_p_is_coordinate := fun ds S Q E h => by unfold r_p_is_coordinate at h; obtain ⟨w, rfl, _⟩ := h; rfl
theorem i_coord {w : Str} {S : Sto} {Q : DQ} {X : XQ} (q : Q (.bl (coordB w)) S) : r_p_is_coordinate [.str w] S Q X := by unfold r_p_is_coordinate; exact ⟨w, rfl, q⟩
theorem rd_p_is_coordinate : Rd t_p_is_coordinate N_p_is_coordinate r_p_is_coordinate := by
  intro ds S QD XD h
  unfold r_p_is_coordinate at h
  obtain ⟨w, rfl, q⟩ := h
  row_hasAll w_w
  refine brP (fun h1 => ?_) (fun h1 => ?_)
  · row_hasAll w_w
    obtain ⟨c, hc⟩ := slen1.mp h1
    have e : inS w (Str.ofString "01234567") = coordB w := by
      unfold inS coordB
      rw [hc]
      show decide (c ∈ [48, 49, 50, 51, 52, 53, 54, 55]) = decide (48 ≤ c ∧ c ≤ 55)
      refine decide_eq_decide.mpr ⟨fun h => ?_, fun h => ?_⟩
      · simp at h; omega
      · simp; omega
    rw [e]
    exact q
  · have e : coordB w = false := by
      unfold coordB
      split
      · rename_i c hc
        exact absurd (slen1.mpr ⟨c, hc⟩) h1
      · rfl
    rw [e] at q
    row_hasAll w_w
    exact q
def t_p_is_rule_number : DTS := (dSeq (dFor (dItems (dVar 0)) (.nm 1) (dIf (dTestB (dOp oNotIn (dVar 1) (dC (.str "0123456789")))) (dRet (dC (.bl false))) dNext)) (dRet (dOrV (dOp oEq (dCB (on1 lenD) (dCons (dVar 0) dNil)) (dC (.int 1))) (dAndV (dOp oEq (dCB (on1 lenD) (dCons (dVar 0) dNil)) (dC (.int 2))) (dOp oNe (dOp oIx (dVar 0) (dC (.int 0))) (dC (.str "0")))))))
abbrev N_p_is_rule_number : List Str := ["word", "digit"]
@[irreducible] def r_p_is_rule_number : DSp := fun ds S Q _ => ∃ w : Str, ds = [.str w] ∧ Q (.bl (ruleB w)) S
theorem len_p_is_rule_number : Ln 1 r_p_is_rule_number := fun ds S Q E h => by unfold r_p_is_rule_number at h; obtain ⟨w, rfl, _⟩ := h; rfl
theorem i_ruleNo {w : Str} {S : Sto} {Q : DQ} {X : XQ} (q : Q (.bl (ruleB w)) S) : r_p_is_rule_number [.str w] S Q X := by unfold r_p_is_rule_number; exact ⟨w, rfl, q⟩
def digB (c : Nat) : Bool := decide (48 ≤ c ∧ c ≤ 57)
theorem ruleB_dig {w : Str} (h : ruleB w = true) : w.cps.toList.all digB = true := by
  unfold ruleB at h
  split at h
  · rename_i c e
    rw [e]
    simpa [digB] using h
  · rename_i c d e
    rw [e]
    rw [Bool.and_eq_true, decide_eq_true_eq, decide_eq_true_eq] at h
    simp only [digB, List.all_cons, List.all_nil, Bool.and_true, Bool.and_eq_true, decide_eq_true_eq]
    omega
  · cases h
theorem rd_p_is_rule_number : Rd t_p_is_rule_number N_p_is_rule_number r_p_is_rule_number := by
  intro ds S QD XD h
  unfold r_p_is_rule_number at h
  obtain ⟨w, rfl, q⟩ := h
  have hz := sizeLine_eq
  have hsl := slen_codes w
  row_hasAll w_w
  refine loop_e (xs := w.cps.toList) (g := fun c => D.str (one c)) [1] (fun r ws S' => S' = S ∧ (∃ x, ws = [x]) ∧ w.cps.toList.all digB = r.all digB ∧ ∀ c ∈ r, c ∈ w.cps.toList) (by row_hasAll w_env) ?_ ?_ ⟨rfl, ⟨_, rfl⟩, rfl, fun _ h => h⟩
  · rintro c r _ S' ⟨rfl, ⟨x, rfl⟩, ha, hm⟩
    refine ⟨_, rfl, fun N hN => ?_⟩
    row_hasAll w_w
    rw [inS_one, digits_mem]
    refine brN (fun h => ?_) (fun h => ?_)
    · row_hasAll w_w
      have e : ruleB w = false := by
        cases hr : ruleB w with
        | false => rfl
        | true =>
          have := List.all_eq_true.mp (ruleB_dig hr) c (hm c (List.mem_cons_self ..))
          exact absurd (of_decide_eq_true this) h
      rw [e] at q
      exact q
    · row_hasAll w_w
      refine hN _ _ (by row_hasAll w_env) ⟨rfl, ⟨_, rfl⟩, ?_, fun d hd => hm d (List.mem_cons_of_mem _ hd)⟩
      rw [ha, List.all_cons, show digB c = true from decide_eq_true h, Bool.true_and]
  · rintro _ S' ⟨rfl, ⟨x, rfl⟩, ha, hm⟩
    have ha : w.cps.toList.all digB = true := ha
    clear hm
    match hw : w.cps.toList, ha, hsl with
    | [], _, hsl =>
      have h0 : w.length = 0 := hsl.symm
      have e : ruleB w = false := by unfold ruleB; rw [hw]
      rw [e] at q
      row_hasAll w_w
      refine brP (fun h => by omega) fun _ => ?_
      row_hasAll w_w
      refine brP (fun h => by omega) fun _ => ?_
      row_hasAll w_w
      exact q
    | [c], ha, hsl =>
      have h0 : w.length = 1 := hsl.symm
      have e : ruleB w = true := by
        unfold ruleB; rw [hw]
        simpa [digB] using ha
      rw [e] at q
      row_hasAll w_w
      rw [h0]
      row_hasAll w_w
      exact q
    | [c, d], ha, hsl =>
      have h0 : w.length = 2 := hsl.symm
      have e : ruleB w = decide (c ≠ 48) := by
        unfold ruleB; rw [hw]
        simp only [digB, List.all_cons, List.all_nil, Bool.and_true, Bool.and_eq_true, decide_eq_true_eq] at ha
        show (decide (49 ≤ c ∧ c ≤ 57) && decide (48 ≤ d ∧ d ≤ 57)) = _
        rw [decide_eq_true ha.2, Bool.and_true]
        exact decide_eq_decide.mpr ⟨fun h => by omega, fun h => by omega⟩
      rw [e] at q
      row_hasAll w_w
      refine brP (fun h => by omega) fun _ => ?_
      row_hasAll w_w
      refine brP (fun _ => ?_) fun h => absurd (by omega) h
      row_hasAll w_w
      refine ⟨c, by rw [hw]; rfl, ?_⟩
      row_hasAll w_w
      have e2 : decide (one c = Str.ofString "0") = decide (c = 48) := decide_eq_decide.mpr ⟨fun h => by have h2 : [c] = [48] := congrArg (fun z : Str => z.cps.toList) h; cases h2; rfl, fun h => by rw [h]; rfl⟩
      rw [e2]
      by_cases hc : c = 48
      · rw [decide_eq_false (fun h => h hc)] at q
        rw [decide_eq_true hc]
        exact q
      · rw [decide_eq_true hc] at q
        rw [decide_eq_false hc]
        exact q
    | c :: d :: e1 :: r, ha, hsl =>
      have h0 : w.length = r.length + 3 := by rw [← hsl]; rfl
      have e : ruleB w = false := by unfold ruleB; rw [hw]
      rw [e] at q
      row_hasAll w_w
      refine brP (fun h => by omega) fun _ => ?_
      row_hasAll w_w
      refine brP (fun h => by omega) fun _ => ?_
      row_hasAll w_w
      exact q
def t_p_read_deed_1 : DTS := (dRet (dTup (dCons (dC (.str "fall")) (dCons (dCB (on1 intD) (dCons (dOp oIx (dVar 1) (dC (.int 1))) dNil)) (dCons (dCB (on1 intD) (dCons (dOp oIx (dVar 1) (dC (.int 2))) dNil)) dNil)))))
def t_p_read_deed_2 : DTS := (dRet (dTup (dCons (dC (.str "mend")) (dCons (dCB (on1 intD) (dCons (dOp oIx (dVar 1) (dC (.int 1))) dNil)) (dCons (dCB (on1 intD) (dCons (dOp oIx (dVar 1) (dC (.int 2))) dNil)) (dCons (dCB (on1 intD) (dCons (dOp oIx (dVar 1) (dC (.int 3))) dNil)) (dCons (dOp oIx (dVar 1) (dC (.int 4))) dNil)))))))
def t_p_read_deed_3 : DTS := (dSeq (dIf (dOr (dTestB (dOp oNe (dOp oIx (dVar 1) (dC (.int 0))) (dC (.str "mend")))) (dOr (dTestB (dOp oNe (dCB (on1 lenD) (dCons (dVar 1) dNil)) (dC (.int 5)))) (dOr (dNot (dTru (dCall r_p_is_rule_number [] (dCons (dOp oIx (dVar 1) (dC (.int 3))) dNil)))) (dNot (dTru (dCall r_p_is_stone [] (dCons (dOp oIx (dVar 1) (dC (.int 4))) dNil))))))) (dRet (dC .non)) dNext) t_p_read_deed_2)
def t_p_read_deed_4 : DTS := (dSeq (dIf (dAnd (dTestB (dOp oEq (dOp oIx (dVar 1) (dC (.int 0))) (dC (.str "fall")))) (dTestB (dOp oEq (dCB (on1 lenD) (dCons (dVar 1) dNil)) (dC (.int 3))))) t_p_read_deed_1 dNext) t_p_read_deed_3)
def t_p_read_deed_5 : DTS := (dSeq (dIf (dOr (dTestB (dOp oLt (dCB (on1 lenD) (dCons (dVar 1) dNil)) (dC (.int 3)))) (dOr (dNot (dTru (dCall r_p_is_coordinate [] (dCons (dOp oIx (dVar 1) (dC (.int 1))) dNil)))) (dNot (dTru (dCall r_p_is_coordinate [] (dCons (dOp oIx (dVar 1) (dC (.int 2))) dNil)))))) (dRet (dC .non)) dNext) t_p_read_deed_4)
def t_p_read_deed : DTS := (dSeq (dSet 1 (dBM .str splitD (dVar 0) (dCons (dC (.str " ")) dNil))) t_p_read_deed_5)
abbrev N_p_read_deed : List Str := ["line", "words"]
def oDeD : Option Deed → D
  | none => .non
  | some d => deD d
@[irreducible] def r_p_read_deed : DSp := fun ds S Q _ => ∃ w : Str, ds = [.str w] ∧ okS w ∧ w.length ≤ 2000 ∧ Q (oDeD (rdDeed w)) S
theorem len_p_read_deed : Ln 1 r_p_read_deed := fun ds S Q E h => by unfold r_p_read_deed at h; obtain ⟨w, rfl, _⟩ := h; rfl
theorem i_readDeed {w : Str} {S : Sto} {Q : DQ} {X : XQ} (ok : okS w) (hl : w.length ≤ 2000) (q : Q (oDeD (rdDeed w)) S) : r_p_read_deed [.str w] S Q X := by unfold r_p_read_deed; exact ⟨w, rfl, ok, hl, q⟩
theorem rd_p_read_deed : Rd t_p_read_deed N_p_read_deed r_p_read_deed := by
  intro ds S QD XD h
  unfold r_p_read_deed at h
  obtain ⟨w, rfl, ok, hl, q⟩ := h
  have hz := sizeLine_eq
  obtain ⟨h1, h2⟩ := split_ok (b := " ") ok (by decide) (by decide +kernel)
  unfold rdDeed at q
  row_hasAll w_w
  refine ⟨⟨rfl, by omega⟩, ⟨h1, by omega⟩, ?_⟩
  generalize Txt.split w " " = ws at *
  match ws, h1, h2, q with
  | [], _, _, q =>
    row_hasAll w_w
    exact q
  | [_], _, _, q =>
    row_hasAll w_w
    exact q
  | [_, _], _, _, q =>
    row_hasAll w_w
    exact q
  | w0 :: w1 :: w2 :: r, h1, h2, q =>
    dsimp only at q
    have hlr : (w0 :: w1 :: w2 :: r).length = r.length + 3 := rfl
    row_hasAll w_w
    refine i_coord ?_
    row_hasAll w_w
    cases hc1 : coordB w1 with
    | false =>
      rw [if_neg (fun h => by rw [hc1] at h; cases h.1)] at q
      row_hasAll w_w
      exact q
    | true =>
    obtain ⟨k1, hk1, rfl⟩ := coord_of hc1
    row_hasAll w_w
    refine i_coord ?_
    row_hasAll w_w
    cases hc2 : coordB w2 with
    | false =>
      rw [if_neg (fun h => by rw [hc2] at h; cases h.2)] at q
      row_hasAll w_w
      exact q
    | true =>
    obtain ⟨k2, hk2, rfl⟩ := coord_of hc2
    rw [if_pos ⟨hc1, hc2⟩, nT_num (by omega), nT_num (by omega)] at q
    have t1 := (nT_fact k1 (by omega)).2.2.1
    have t2 := (nT_fact k2 (by omega)).2.2.1
    row_hasAll w_w
    have n1 : (nT k1).length ≤ 640 := Nat.le_trans (nT_fact k1 (by omega)).2.1 (by decide)
    have n2 : (nT k2).length ≤ 640 := Nat.le_trans (nT_fact k2 (by omega)).2.1 (by decide)
    have two : (w0 = Str.ofString "mend" → r.length ≠ 2) → (w0 = Str.ofString "fall" → r ≠ []) → QD .non S := fun h1 h2 => by
      match r, h1, h2, q with
      | [], h1, h2, q => dsimp only at q; rw [if_neg (fun e => h2 e rfl)] at q; exact q
      | [_], _, _, q => exact q
      | [_, _], h1, _, q => dsimp only at q; rw [if_neg (fun e => h1 e.1 rfl)] at q; exact q
      | _ :: _ :: _ :: _, _, _, q => exact q
    refine brP (fun hf => ?_) (fun hf => ?_)
    · row_hasAll w_w
      refine brP (fun hl3 => ?_) (fun hl3 => ?_)
      · obtain rfl : r = [] := List.length_eq_zero_iff.mp (by simp only [List.length_map, List.length_cons] at hl3; omega)
        row_hasAll w_w
        rw [t1]
        refine ⟨n1, ?_⟩
        row_hasAll w_w
        rw [t2]
        refine ⟨n2, ?_⟩
        row_hasAll w_w
        dsimp only at q
        rw [if_pos hf] at q
        exact q
      · row_hasAll w_w
        refine brN (fun hm => ?_) (fun hm => ?_)
        · row_hasAll w_w
          exact two (fun e => absurd (hf.symm.trans e) (by decide +kernel)) (fun _ e => hl3 (by rw [e]; rfl))
        · exact absurd (hf.symm.trans hm) (by decide +kernel)
    · row_hasAll w_w
      refine brN (fun hm => ?_) (fun hm => ?_)
      · row_hasAll w_w
        exact two (fun e => absurd e hm) (fun e => absurd e hf)
      · row_hasAll w_w
        refine brN (fun h5 => ?_) (fun h5 => ?_)
        · row_hasAll w_w
          exact two (fun _ e => h5 (by simp [e])) (fun e => absurd e hf)
        · have hr2 : r.length = 2 := by simp only [List.length_map, List.length_cons] at h5; omega
          obtain ⟨w3, w4, rfl⟩ := len_two hr2
          clear two hr2 h5 hf
          dsimp only at q
          row_hasAll w_w
          refine i_ruleNo ?_
          row_hasAll w_w
          cases hr : ruleB w3 with
          | false =>
            rw [if_neg (fun e => by rw [hr] at e; cases e.2.1)] at q
            row_hasAll w_w
            exact q
          | true =>
          obtain ⟨k3, hk3, rfl⟩ := rule_of hr
          row_hasAll w_w
          cases hs : stoneB w4 with
          | false =>
            rw [if_neg (fun e => by rw [hs] at e; cases e.2.2)] at q
            row_hasAll w_w
            exact q
          | true =>
          rw [if_pos ⟨hm, hr, hs⟩, nT_num hk3] at q
          have t3 := (nT_fact k3 hk3).2.2.1
          have n3 : (nT k3).length ≤ 640 := Nat.le_trans (nT_fact k3 hk3).2.1 (by decide)
          row_hasAll w_w
          rw [t1]
          refine ⟨n1, ?_⟩
          row_hasAll w_w
          rw [t2]
          refine ⟨n2, ?_⟩
          row_hasAll w_w
          rw [t3]
          refine ⟨n3, ?_⟩
          row_hasAll w_w
          exact q
end SM
--#ONETAC
namespace SM
open PySem PySem.Spec PyProof.Rows L2
theorem inB_strs (s : Str) (l : List Str) : inB (.str s) (.lst (l.map D.str)) = some (decide (s ∈ l)) := by
  have e : plns 8 (l.map D.str) = true := pln_strs 7 l
  have e1 : pln 8 (.str s) = true := rfl
  have e2 : ∀ z : Str, eqB (.str z) (.str s) = decide (z = s) := fun z => by rw [eqB_eq _ _ rfl rfl, eqv_str]
  unfold inB
  simp only [e, e1, Bool.and_self, Option.some.injEq]
  rw [List.any_map, Bool.eq_iff_iff, List.any_eq_true, decide_eq_true_eq]
  constructor
  · rintro ⟨z, hz, h⟩
    rw [show ((fun z => eqB z (D.str s)) ∘ D.str) z = eqB (.str z) (.str s) from rfl, e2, decide_eq_true_eq] at h
    rw [← h]; exact hz
  · intro h
    refine ⟨s, h, ?_⟩
    rw [show ((fun z => eqB z (D.str s)) ∘ D.str) s = eqB (.str s) (.str s) from rfl, e2, decide_eq_true_eq]
def deT : Deed → List D
  | .fall c => [.str "fall", .int c.1, .int c.2]
  | .mend c n s => [.str "mend", .int c.1, .int c.2, .int (n : Nat), .str s]
theorem deD_tup (d : Deed) : deD d = .tup (deT d) := by cases d <;> rfl
theorem strs_tale (rows : List Str) (dl : List Deed) : strsD (rows.map D.str ++ [D.str (Str.ofString "--")] ++ dl.map (fun d => D.str (lineD d))) = some (rows ++ [Str.ofString "--"] ++ dl.map lineD) := by
  have e : rows.map D.str ++ [D.str (Str.ofString "--")] ++ dl.map (fun d => D.str (lineD d)) = (rows ++ [Str.ofString "--"] ++ dl.map lineD).map D.str := by rw [List.map_append, List.map_append, List.map_map]; rfl
  rw [e, strsD_map, List.map_id']
theorem nT_def (n : Nat) : Str.ofString (toString (n : Int)) = nT n := by unfold nT; rfl
theorem log_sm {i : Int} (h : 0 ≤ i) (h2 : i ≤ 99) : i.natAbs.log2 < 1920 := Nat.lt_of_le_of_lt (Nat.log2_le_self _) (by omega)
def t_History_init : DTS := (dSeq (dSetF [(9, 0)] (dVar 0) (dVar 1)) (dSetF [(9, 1)] (dVar 0) (dCB (on1 listD) (dCons (dVar 2) dNil))))
abbrev N_History_init : List Str := ["self", "first", "deeds"]
def hisD (rows : List Str) (l : List D) : D := .ins 9 [pic rows, .lst l]
@[irreducible] def r_History_init : DSp := fun ds S Q _ => ∃ (z : Addr) (rows : List Str) (d : D) (l : List D), ds = [.adr z, pic rows, d] ∧ isL S d l ∧ S z = some (.ins 9 []) ∧ l.length ≤ 1000 ∧ Q .non (su S z (.ins 9 [pic rows, .lst l]))
theorem len_History_init : Ln 3 r_History_init := fun ds S Q E h => by unfold r_History_init at h; obtain ⟨z, rows, d, l, rfl, _⟩ := h; rfl
theorem rd_History_init : RdW t_History_init N_History_init r_History_init := by
  intro ds S QD XD h
  unfold r_History_init at h
  obtain ⟨z, rows, d, l, rfl, hL, hS, hl, q⟩ := h
  have hz := sizeLine_eq
  have hL2 : isL (su S z (.ins 9 [pic rows])) d l := by
    rcases hL with rfl | ⟨a, rfl, ha⟩
    · exact .inl rfl
    · exact .inr ⟨a, rfl, by rw [su_ne (fun e => by rw [e, hS] at ha; cases ha)]; exact ha⟩
  row_hasAll w_w
  rw [vwk_is, hL2.vw]
  row_hasAll w_w
  exact shr_of Sub.refl q
theorem mk_his {d : D} {l : List D} {rows : List Str} {S : Sto} {Q : DQ} {X : Addr → XQ} (hL : isL S d l) (hl : l.length ≤ 1000) (h : Q (hisD rows l) S) : ∀ z, S z = none → r_History_init [.adr z, pic rows, d] (su S z (.ins 9 [])) (fun d S2 => d = .non ∧ mkF Q z S2) (X z) := by
  intro z hz
  unfold r_History_init
  have hL2 : isL (su S z (.ins 9 [])) d l := by
    rcases hL with rfl | ⟨a, rfl, ha⟩
    · exact .inl rfl
    · exact .inr ⟨a, rfl, by rw [su_ne (st_ne ha hz)]; exact ha⟩
  refine ⟨z, rows, d, l, rfl, hL2, su_same, hl, ?_⟩
  rw [su_su]
  refine ⟨rfl, ok_o su_same ?_⟩
  show Q _ _
  rw [sd_su_new hz]
  exact h
def t_History_text : DTS := (dSeq (dSet 1 (dLc (dItems (dFld [(9, 1)] (dVar 0))) (.nm 3) dYes (dBM .str joinD (dC (.str " ")) (dCons (dLc (dItems (dVar 3)) (.nm 2) dYes (dCB (on1 strD) (dCons (dVar 2) dNil)) [2]) dNil)) [3])) (dRet (dBM .str joinD (dC (.str "\n")) (dCons (dOp oAdd (dOp oAdd (dFz (dMeth 1 r_Picture_lines [] (dFld [(9, 0)] (dVar 0)) dNil)) (dLst (dCons (dC (.str "--")) dNil))) (dVar 1)) dNil))))
abbrev N_History_text : List Str := ["self", "lines", "word", "deed"]
@[irreducible] def r_History_text : DSp := fun ds S Q _ => ∃ (rows : List Str) (dl : List Deed), ds = [hisD rows (dl.map deD)] ∧ Grid rows ∧ dl.length ≤ 1000 ∧ (∀ d ∈ dl, d.txt) ∧ Q (.str (taleT rows dl)) S
theorem len_History_text : Ln 1 r_History_text := fun ds S Q E h => by unfold r_History_text at h; obtain ⟨rows, dl, rfl, _⟩ := h; rfl
theorem i_hText {rows : List Str} {dl : List Deed} {S : Sto} {Q : DQ} {X : XQ} (g : Grid rows) (hl : dl.length ≤ 1000) (ht : ∀ d ∈ dl, d.txt) (q : Q (.str (taleT rows dl)) S) : r_History_text [hisD rows (dl.map deD)] S Q X := by unfold r_History_text; exact ⟨rows, dl, rfl, g, hl, ht, q⟩
def strW : D → D
  | .int i => .str (Str.ofString (toString i))
  | d => d
theorem rd_History_text : Rd t_History_text N_History_text r_History_text := by
  intro ds S QD XD h
  unfold r_History_text at h
  obtain ⟨rows, dl, rfl, g, hl, ht, q⟩ := h
  have hz := sizeLine_eq
  have hle := tale_len g ht
  have gle := g.le
  unfold hisD
  row_hasAll w_w
  refine lk_map (xs := dl) (g := deD) (f := fun d => D.str (lineD d)) (fun d hd => ⟨_, rfl, fun Q' hh => ?_⟩) ?_
  · have hll := lineD_len (ht d hd)
    have htd := ht d hd
    cases d with
    | fall c =>
      have hc : CoB c := htd
      unfold deD
      row_hasAll w_w
      refine lk_map (xs := [D.str "fall", .int c.1, .int c.2]) (g := fun d => d) (f := strW) (fun d hd => ⟨_, rfl, fun Q2 h2 => ?_⟩) ?_
      · simp only [List.mem_cons, List.not_mem_nil, or_false] at hd
        row_hasAll w_w
        rcases hd with rfl | rfl | rfl
        · exact h2
        · exact ⟨log_sm hc.1.1 (by have := hc.1.2; omega), h2⟩
        · exact ⟨log_sm hc.2.1 (by have := hc.2.2; omega), h2⟩
      · row_hasAll w_w
        exact ⟨Nat.le_trans hll (by decide), hh⟩
    | mend c n s =>
      obtain ⟨hc, hn, hst⟩ := (show CoB c ∧ n < 100 ∧ stoneB s = true from htd)
      unfold deD
      row_hasAll w_w
      refine lk_map (xs := [D.str "mend", .int c.1, .int c.2, .int (n : Nat), .str s]) (g := fun d => d) (f := strW) (fun d hd => ⟨_, rfl, fun Q2 h2 => ?_⟩) ?_
      · simp only [List.mem_cons, List.not_mem_nil, or_false] at hd
        row_hasAll w_w
        rcases hd with rfl | rfl | rfl | rfl | rfl
        · exact h2
        · exact ⟨log_sm hc.1.1 (by have := hc.1.2; omega), h2⟩
        · exact ⟨log_sm hc.2.1 (by have := hc.2.2; omega), h2⟩
        · exact ⟨log_sm (by omega) (by omega), h2⟩
        · exact h2
      · row_hasAll w_w
        rw [nT_def]
        exact ⟨Nat.le_trans hll (by decide), hh⟩
  · row_hasAll w_w
    have es : strsD (rows.map D.str ++ [D.str (Str.ofString "--")] ++ dl.map (fun d => D.str (lineD d))) = some (rows ++ [Str.ofString "--"] ++ dl.map lineD) := strs_tale ..
    rw [es]
    exact ⟨Nat.le_trans hle (by omega), q⟩
def t_l_deed_line : DTS := (dSeq (dSet 1 (dLst (dCons (dOp oIx (dVar 0) (dC (.int 0))) (dCons (dCB (on1 strD) (dCons (dOp oIx (dVar 0) (dC (.int 1))) dNil)) (dCons (dCB (on1 strD) (dCons (dOp oIx (dVar 0) (dC (.int 2))) dNil)) dNil))))) (dSeq (dIf (dTestB (dOp oEq (dOp oIx (dVar 0) (dC (.int 0))) (dC (.str "mend")))) (dSet 1 (dOp oAdd (dVar 1) (dLst (dCons (dCB (on1 strD) (dCons (dOp oIx (dVar 0) (dC (.int 3))) dNil)) (dCons (dOp oIx (dVar 0) (dC (.int 4))) dNil))))) dNext) (dRet (dBM .str joinD (dC (.str " ")) (dCons (dVar 1) dNil)))))
abbrev N_l_deed_line : List Str := ["_law_deed", "_law_words"]
@[irreducible] def r_l_deed_line : DSp := fun ds S Q _ => ∃ d : Deed, ds = [deD d] ∧ d.txt ∧ Q (.str (lineD d)) S
theorem len_l_deed_line : Ln 1 r_l_deed_line := fun ds S Q E h => by unfold r_l_deed_line at h; obtain ⟨d, rfl, _⟩ := h; rfl
theorem i_deedLine {d : Deed} {S : Sto} {Q : DQ} {X : XQ} (ht : d.txt) (q : Q (.str (lineD d)) S) : r_l_deed_line [deD d] S Q X := by unfold r_l_deed_line; exact ⟨d, rfl, ht, q⟩
theorem rd_l_deed_line : Rd t_l_deed_line N_l_deed_line r_l_deed_line := by
  intro ds S QD XD h
  unfold r_l_deed_line at h
  obtain ⟨d, rfl, ht, q⟩ := h
  have hz := sizeLine_eq
  have hll := lineD_len ht
  cases d with
  | fall c =>
    have hc : CoB c := ht
    unfold deD
    row_hasAll w_w
    refine ⟨log_sm hc.1.1 (by have := hc.1.2; omega), ?_⟩
    row_hasAll w_w
    refine ⟨log_sm hc.2.1 (by have := hc.2.2; omega), ?_⟩
    row_hasAll w_w
    exact ⟨Nat.le_trans hll (by decide), q⟩
  | mend c n s =>
    obtain ⟨hc, hn, hst⟩ := (show CoB c ∧ n < 100 ∧ stoneB s = true from ht)
    unfold deD
    row_hasAll w_w
    refine ⟨log_sm hc.1.1 (by have := hc.1.2; omega), ?_⟩
    row_hasAll w_w
    refine ⟨log_sm hc.2.1 (by have := hc.2.2; omega), ?_⟩
    row_hasAll w_w
    refine ⟨log_sm (by omega) (by omega), ?_⟩
    row_hasAll w_w
    rw [nT_def]
    exact ⟨Nat.le_trans hll (by decide), q⟩
def t_l_tale_text : DTS := (dRet (dBM .str joinD (dC (.str "\n")) (dCons (dOp oAdd (dOp oAdd (dVar 0) (dLst (dCons (dC (.str "--")) dNil))) (dLc (dItems (dVar 1)) (.nm 2) dYes (dCall r_l_deed_line [] (dCons (dVar 2) dNil)) [2])) dNil)))
abbrev N_l_tale_text : List Str := ["_law_rows", "_law_deeds", "_law_deed"]
@[irreducible] def r_l_tale_text : DSp := fun ds S Q _ => ∃ (rows : List Str) (dl : List Deed), ds = [.lst (rows.map D.str), .lst (dl.map deD)] ∧ Grid rows ∧ dl.length ≤ 100 ∧ (∀ d ∈ dl, d.txt) ∧ Q (.str (taleT rows dl)) S
theorem len_l_tale_text : Ln 2 r_l_tale_text := fun ds S Q E h => by unfold r_l_tale_text at h; obtain ⟨rows, dl, rfl, _⟩ := h; rfl
theorem i_taleText {rows : List Str} {dl : List Deed} {S : Sto} {Q : DQ} {X : XQ} (g : Grid rows) (hl : dl.length ≤ 100) (ht : ∀ d ∈ dl, d.txt) (q : Q (.str (taleT rows dl)) S) : r_l_tale_text [.lst (rows.map D.str), .lst (dl.map deD)] S Q X := by unfold r_l_tale_text; exact ⟨rows, dl, rfl, g, hl, ht, q⟩
theorem rd_l_tale_text : Rd t_l_tale_text N_l_tale_text r_l_tale_text := by
  intro ds S QD XD h
  unfold r_l_tale_text at h
  obtain ⟨rows, dl, rfl, g, hl, ht, q⟩ := h
  have hz := sizeLine_eq
  have hle := tale_len g ht
  have gle := g.le
  row_hasAll w_w
  refine lk_map (xs := dl) (g := deD) (f := fun d => D.str (lineD d)) (fun d hd => ⟨_, rfl, fun Q' hh => ?_⟩) ?_
  · row_hasAll w_w
    exact i_deedLine (ht d hd) hh
  · row_hasAll w_w
    have es : strsD (rows.map D.str ++ [D.str (Str.ofString "--")] ++ dl.map (fun d => D.str (lineD d))) = some (rows ++ [Str.ofString "--"] ++ dl.map lineD) := strs_tale ..
    rw [es]
    exact ⟨Nat.le_trans hle (by omega), q⟩
end SM
--#ONETAC
namespace SM
open PySem PySem.Spec PyProof.Rows L2
section
open PySem.Builtin.Str
end
end SM
--#ONETAC
namespace SM
open PySem PySem.Spec PyProof.Rows L2
theorem all13 {st : Str} {ps : List Part} {nd : Int} : partOf 2 st ps nd = faultF 2 st ps 0 := by
  have e : outK 2 st ps nd = ruleOut st ps := rfl
  unfold partOf faultF
  rw [e]
  unfold ruleOut
  cases h : stoneB st with
  | false =>
    rw [if_pos rfl, if_pos ⟨by decide, rfl⟩]
    rfl
  | true =>
    rw [if_neg (by simp), if_neg (by simp)]
    cases badP ps with
    | some n => rfl
    | none =>
      show (-1 : Int) = if (0 : Int) < 0 ∨ (0 : Int) > ((ps.length : Nat) : Int) then 0 else -1
      rw [if_neg (by omega)]
set_option hygiene false in
local macro_rules | `(tactic| row_hasAll w_go96) => `(tactic| (
  cases sm with
  | true =>
    have hs : w0 = Str.ofString "same" := of_decide_eq_true hsm.symm
    rw [if_pos ⟨.inr hs, hd1⟩] at q
    row_hasAll w_w
    exact shr_of Sub.refl q
  | false =>
    row_hasAll w_w
    refine brN (fun ha => ?_) (fun ha => ?_)
    · rw [if_pos ⟨.inl ha, hd1⟩] at q
      row_hasAll w_w
      exact shr_of Sub.refl q
    · have hs : ¬ w0 = Str.ofString "same" := of_decide_eq_false hsm.symm
      rw [if_neg (fun h => h.1.elim (fun z => z ha) hs), ← hsm] at q
      row_hasAll w_w
      intro p hp
      refine key false false 0 p hp (fun z => nomatch z) (fun z => nomatch z) ?_
      cases hr : rdPF false 0 ws with
      | inl n => rw [hr] at q; exact q
      | inr ps =>
        rw [hr] at q
        dsimp only at q ⊢
        rw [if_neg hs, if_pos ha, all13] at q
        rw [if_neg (by decide), if_neg (by decide)]
        exact q))
end SM
--#ONETAC
namespace SM
open PySem PySem.Spec PyProof.Rows L2
end SM
--#ONETAC
namespace SM
open PySem PySem.Spec PyProof.Rows L2
def asc (s : Str) : Prop := ∀ c ∈ s.cps.toList, c < 128
theorem asc_ok {s : Str} (h : asc s) (hl : s.length ≤ 1000) : okS s := okS_ascii (by rw [sizeLine_eq]; omega) h
theorem cut2_le (s : Str) (n m : Nat) (h : n ≤ m) : (cutS s none (some (n : Int))).length + (cutS s (some (m : Int)) none).length ≤ s.length := by
  rw [← slen_codes, ← slen_codes, cutS_codes, cutS_codes, HT.sIx_none, HT.sIx_none, HT.sIx_nat, HT.sIx_nat, List.length_take, List.length_take, List.length_drop, List.length_drop, slen_codes]
  omega
theorem joinL_eq {S : List Nat} : ∀ {l : List (List Nat)}, l ≠ [] → (TL.joinL S l).length + S.length = (l.map (·.length)).sum + l.length * S.length
  | [], h => absurd rfl h
  | [p], _ => by simp [TL.joinL]
  | p :: q :: r, _ => by
    have ih := joinL_eq (S := S) (l := q :: r) (List.cons_ne_nil _ _)
    show (p ++ (S ++ TL.joinL S (q :: r))).length + S.length = p.length + ((q :: r).map (·.length)).sum + ((q :: r).length + 1) * S.length
    rw [List.length_append, List.length_append, Nat.add_mul, Nat.one_mul]
    omega
theorem joinL_sub {S : List Nat} : ∀ {l : List (List Nat)} {p : List Nat}, p ∈ l → ∀ c ∈ p, c ∈ TL.joinL S l
  | [], _, h, _, _ => nomatch h
  | [x], p, h, c, hc => by rw [List.mem_singleton.mp h] at hc; exact hc
  | x :: y :: r, p, h, c, hc => by
    show c ∈ x ++ (S ++ TL.joinL S (y :: r))
    rcases List.mem_cons.mp h with rfl | h
    · exact List.mem_append_left _ hc
    · exact List.mem_append_right _ (List.mem_append_right _ (joinL_sub h c hc))
end SM
--#ONETAC
namespace SM
open PySem PySem.Spec PyProof.Rows L2
def bkLns (t : Str) : List Str := if t = Str.ofString "" then [] else Txt.split t "\n"
structure BkT (t : Str) : Prop where
  ok : okS t
  le : t.length ≤ 100000
  ln : ∀ l ∈ bkLns t, l.length ≤ 500
end SM
--#ONETAC
namespace SM
open PySem PySem.Spec PyProof.Rows L2
def dlBad : Nat → List Str → Option Nat
  | _, [] => none
  | i, l :: r => if rdDeed l = none then some i else dlBad (i + 1) r
def hsT (t : Str) : Nat ⊕ (List Str × List Str) := match idxS (Txt.split t "\n") (Str.ofString "--") with
  | none => .inl ((Txt.split t "\n").length + 1)
  | some k => match bad ((Txt.split t "\n").take k) with
    | some n => .inl n
    | none => match dlBad (k + 2) ((Txt.split t "\n").drop (k + 1)) with
      | some n => .inl n
      | none => .inr ((Txt.split t "\n").take k, (Txt.split t "\n").drop (k + 1))
def t_History_read_sx : DTS := (dSeq (dSet 2 (dBM .str splitD (dVar 1) (dCons (dC (.str "\n")) dNil))) (dSeq (dIf (dTestB (dOp oNotIn (dC (.str "--")) (dVar 2))) (dRaise 25 (dCons (dOp oAdd (dCB (on1 lenD) (dCons (dVar 2) dNil)) (dC (.int 1))) dNil)) dNext) (dSeq (dSet 3 (dBM .lst idxD (dVar 2) (dCons (dC (.str "--")) dNil))) (dSeq (dTryR [(21, true)] 5 (dSet 4 (dMake mkF 1 r_Picture_init [] (dCons (dSl oSl (dVar 2) dNoPart (dPart (dVar 3))) dNil))) (fun a_ d_ c_ => (dRaiseF 25 5 a_ (dCons (dXf [(21, 0)] a_ d_ c_ (dVar 5)) dNil)))) (dSeq (dSet 6 (dLstO dNil)) (dSeq (dFor (dItems (dSl oSl (dVar 2) (dPart (dOp oAdd (dVar 3) (dC (.int 1)))) dNoPart)) (.nm 7) (dSeq (dSet 8 (dCall r_p_read_deed [] (dCons (dVar 7) dNil))) (dSeq (dIf (dTestB (dOp oIs (dVar 8) (dC .non))) (dRaise 25 (dCons (dOp oAdd (dOp oAdd (dVar 3) (dC (.int 2))) (dCB (on1 lenD) (dCons (dVar 6) dNil))) dNil)) dNext) (dDrop (dBM .lst appD (dVar 6) (dCons (dVar 8) dNil)))))) (dRet (dMakeL 0 mkF 9 r_History_init (dCons (dVar 4) (dCons (dVar 6) dNil))))))))))
abbrev N_History_read_sx : List Str := ["cls", "text", "lines", "at", "first", "e", "deeds", "line", "deed"]
structure HsT (t : Str) : Prop where
  ok : okS t
  le : t.length ≤ 900
@[irreducible] def r_History_read_sx : DSp := fun ds S Q X => ∃ t, ds = [.cls 9, .str t] ∧ HsT t ∧ (match hsT t with
  | .inl n => X ⟨25, [.int (n : Nat)]⟩ S
  | .inr (rows, ls) => ∀ dl : List Deed, Grid rows → (∀ d ∈ dl, d.txt) → ls = dl.map lineD → Q (hisD rows (dl.map deD)) S)
theorem len_History_read_sx : Ln 2 r_History_read_sx := fun ds S Q E h => by unfold r_History_read_sx at h; obtain ⟨ts, rfl, _⟩ := h; rfl
theorem i_hReadX {t : Str} {S : Sto} {Q : DQ} {X : XQ} (ht : HsT t) (q : match hsT t with
  | .inl n => X ⟨25, [.int (n : Nat)]⟩ S
  | .inr (rows, ls) => ∀ dl : List Deed, Grid rows → (∀ d ∈ dl, d.txt) → ls = dl.map lineD → Q (hisD rows (dl.map deD)) S) : r_History_read_sx [.cls 9, .str t] S Q X := by unfold r_History_read_sx; exact ⟨t, rfl, ht, q⟩
def CoB1 (n : Nat) : Prop := n < 8
theorem idxS_none {s : Str} : ∀ {l : List Str}, idxS l s = none → s ∉ l
  | [], _ => List.not_mem_nil
  | x :: r, h => by
    unfold idxS at h
    split at h
    · cases h
    · rename_i hne
      have hr : idxS r s = none := by
        cases e : idxS r s with
        | none => rfl
        | some j => rw [e] at h; cases h
      exact fun hm => (List.mem_cons.mp hm).elim (fun e => hne e.symm) (idxS_none hr)
theorem idxS_mem {s : Str} {l : List Str} {k : Nat} (h : idxS l s = some k) : s ∈ l ∧ k < l.length := by
  obtain ⟨h1, -⟩ := idxS_spec h
  exact ⟨List.mem_of_getElem? h1, (List.getElem?_eq_some_iff.mp h1).1⟩
theorem coord_w {w : Str} (h : coordB w = true) : CoB1 (numW w) ∧ Str.ofString (toString ((numW w : Nat) : Int)) = w := by
  obtain ⟨k, hk, rfl⟩ := coord_of h
  rw [nT_num (by omega)]
  exact ⟨by unfold CoB1; omega, nT_def k⟩
theorem rdDeed_line {l : Str} {d : Deed} (h : rdDeed l = some d) : d.txt ∧ l = lineD d := by
  have e := PySem.StrLaws.join_split l " "
  unfold rdDeed at h
  generalize Txt.split l " " = ws at *
  split at h
  · rename_i w0 w1 w2 r
    split at h
    · rename_i hc
      obtain ⟨c1, t1⟩ := coord_w hc.1
      obtain ⟨c2, t2⟩ := coord_w hc.2
      have hb : CoB (((numW w1 : Nat) : Int), ((numW w2 : Nat) : Int)) := by unfold CoB1 at c1 c2; exact ⟨⟨by omega, by omega⟩, by omega, by omega⟩
      split at h
      · split at h
        · rename_i hf
          cases h
          refine ⟨hb, ?_⟩
          rw [← e, hf]
          show _ = Txt.join " " [_, Str.ofString (toString ((numW w1 : Nat) : Int)), Str.ofString (toString ((numW w2 : Nat) : Int))]
          rw [t1, t2, TL.join_eq]
        · cases h
      · split at h
        · rename_i w3 w4 hm
          cases h
          obtain ⟨k, hk, ek⟩ := rule_of hm.2.1
          subst ek
          refine ⟨⟨hb, by rw [nT_num hk]; exact hk, hm.2.2⟩, ?_⟩
          rw [← e, hm.1]
          show _ = Txt.join " " [_, Str.ofString (toString ((numW w1 : Nat) : Int)), Str.ofString (toString ((numW w2 : Nat) : Int)), nT (numW (nT k)), w4]
          rw [t1, t2, nT_num hk, TL.join_eq]
        · cases h
      · cases h
    · cases h
  · cases h
theorem badF_rows {w : Int} : ∀ {l : List Str} {i : Nat}, badFrom w i l = none → (∀ r ∈ l, rowB r w = true) ∧ (l ≠ [] → i + l.length ≤ 8)
  | [], _, _ => ⟨fun _ h => (nomatch h), fun h => absurd rfl h⟩
  | r :: l, i, h => by
    rw [badFrom] at h
    split at h
    · cases h
    · rename_i hn
      obtain ⟨h1, h2⟩ := badF_rows h
      have hi : ¬ 8 ≤ i := fun z => hn (.inl z)
      have hr : rowB r w = true := by
        cases e : rowB r w with
        | true => rfl
        | false => exact absurd (.inr e) hn
      refine ⟨fun x hx => (List.mem_cons.mp hx).elim (fun e => e ▸ hr) (h1 x), fun _ => ?_⟩
      rw [List.length_cons]
      by_cases hl : l = []
      · rw [hl]; show i + (0 + 1) ≤ 8; omega
      · have := h2 hl; omega
theorem bad_gridX {rows : List Str} (h : bad rows = none) : Grid rows := by
  unfold bad at h
  split at h
  · cases h
  · rename_i hne
    obtain ⟨h1, h2⟩ := badF_rows h
    have h2 := h2 hne
    have hr : ∀ r ∈ rows, ((r.length : Int) = wid rows ∧ 1 ≤ wid rows ∧ wid rows ≤ 8) ∧ ∀ c ∈ r.cps.toList, signB (one c) = true := fun r hm => by
      have := h1 r hm
      unfold rowB at this
      rw [Bool.and_eq_true, decide_eq_true_eq, List.all_eq_true] at this
      exact this
    obtain ⟨r0, h0⟩ := List.exists_mem_of_ne_nil rows hne
    exact ⟨hne, by omega, (hr r0 h0).1.2.1, (hr r0 h0).1.2.2, fun r hm => ⟨(hr r hm).1.1, (hr r hm).2⟩⟩
theorem rd_History_read_sx : RdW t_History_read_sx N_History_read_sx r_History_read_sx := by
  intro ds S QD XD h
  unfold r_History_read_sx at h
  obtain ⟨t, rfl, ht, q⟩ := h
  have hz := sizeLine_eq
  have h1 := ht.ok
  have h2 := ht.le
  have hsl := split_len (a := t) (b := "\n") (by decide +kernel) (by decide +kernel)
  obtain ⟨s1, s2⟩ := split_ok (a := t) (b := "\n") h1 (by decide +kernel) (by decide +kernel)
  unfold hsT at q
  row_hasAll w_w
  refine ⟨⟨by decide +kernel, by omega⟩, ⟨s1, by omega⟩, ?_⟩
  generalize Txt.split t "\n" = ls at *
  row_hasAll w_w
  rw [inB_strs]
  cases hi : idxS ls (Str.ofString "--") with
  | none =>
    rw [hi] at q
    rw [decide_eq_false (idxS_none hi)]
    row_hasAll w_w
    rw [List.length_map]
    exact shr_x Sub.refl q
  | some k =>
    rw [hi] at q
    obtain ⟨hmem, hk⟩ := idxS_mem hi
    rw [decide_eq_true hmem]
    row_hasAll w_w
    rw [strsD_map, List.map_id']
    show (match idxS ls (Str.ofString "--") with | some j => _ | none => _)
    rw [hi]
    row_hasAll w_w
    rw [cutD_to, ← List.map_take]
    refine mk_pic (.inl rfl) (by rw [List.length_take]; omega) ?_
    dsimp only at q
    cases hb : bad (ls.take k) with
    | some n =>
      rw [hb] at q
      row_hasAll w_w
      intro a d
      row_hasAll w_w
      exact shr_x Sub.refl q
    | none =>
      rw [hb] at q
      have g := bad_gridX hb
      row_hasAll w_w
      intro p hp
      row_hasAll w_w
      rw [show ((k : Nat) : Int) + 1 = ((k + 1 : Nat) : Int) from rfl, cutD_from, ← List.map_drop]
      have hsub : ∀ x ∈ ls.drop (k + 1), okS x ∧ x.length ≤ 900 := fun x hx => ⟨s1 x (List.mem_of_mem_drop hx), Nat.le_trans (hsl x (List.mem_of_mem_drop hx)) h2⟩
      have hdl : (ls.drop (k + 1)).length ≤ 901 := by rw [List.length_drop]; omega
      dsimp only at q
      generalize ls.drop (k + 1) = dr at *
      generalize ls.take k = rows at *
      refine loop_e (xs := dr) (g := D.str) [7, 8] (fun r ws S' => ∃ w7 w8, ∃ (dn : List Str) (dl : List Deed), ws = [w7, w8] ∧ dn ++ r = dr ∧ dn = dl.map lineD ∧ (∀ d ∈ dl, d.txt) ∧ dlBad (k + 2) dr = dlBad (k + 2 + dl.length) r ∧ S' = su S p (.lst (dl.map deD))) (by row_hasAll w_env) ?_ ?_ ⟨_, _, [], [], rfl, rfl, rfl, (fun _ h => nomatch h), rfl, rfl⟩
      · rintro x r _ _ ⟨w7, w8, dn, dl, rfl, hd, hn, htx, hbd, rfl⟩
        refine ⟨_, rfl, fun N hN => ?_⟩
        have hx : x ∈ dr := by rw [← hd]; simp
        have hlen : dl.length ≤ 901 := by have := congrArg List.length hd; rw [hn, List.length_append, List.length_map] at this; omega
        row_hasAll w_w
        refine i_readDeed (hsub x hx).1 (by have := (hsub x hx).2; omega) ?_
        rw [dlBad] at hbd
        cases hr : rdDeed x with
        | none =>
          rw [if_pos hr] at hbd
          rw [hbd] at q
          row_hasAll w_w
          rw [List.length_map]
          refine shr_x (Sub.new hp) ?_
          rw [show ((k : Nat) : Int) + 2 + ((dl.length : Nat) : Int) = ((k + 2 + dl.length : Nat) : Int) by omega]
          exact q
        | some d =>
          obtain ⟨d1, d2⟩ := rdDeed_line hr
          rw [if_neg (by rw [hr]; exact fun z => nomatch z)] at hbd
          rw [show oDeD (some d) = .tup (deT d) from deD_tup d]
          row_hasAll w_w
          refine hN _ _ (by row_hasAll w_env) ⟨_, _, dn ++ [x], dl ++ [d], rfl, by simpa using hd, by rw [hn, d2, List.map_append]; rfl, fun y hy => (List.mem_append.mp hy).elim (htx y) fun h => by rw [List.mem_singleton.mp h]; exact d1, by rw [hbd, List.length_append]; rfl, ?_⟩
          rw [List.map_append, ← deD_tup]
          rfl
      · rintro _ _ ⟨w7, w8, dn, dl, rfl, hd, hn, htx, hbd, rfl⟩
        rw [List.append_nil] at hd
        subst hd
        rw [dlBad] at hbd
        rw [hbd] at q
        have hlen : dl.length ≤ 901 := by rw [hn, List.length_map] at hdl; exact hdl
        row_hasAll w_w
        exact mk_his (.inr ⟨p, rfl, su_same⟩) (by rw [List.length_map]; omega) (shr_of (Sub.new hp) (q dl g htx hn))
end SM
--#ONETAC
namespace SM
open PySem PySem.Spec PyProof.Rows L2
local macro_rules | `(tactic| row_hasAll w_n) => `(tactic| (try simp only [startD, put_0, put_s, setO_0, setO_s, sets_n, sets_c]))
local macro_rules | `(tactic| row_hasAll w_m) => `(tactic| (row_hasAll w_n; row_hasAll w_w; row_hasAll w_n))
def hsI (t : Str) : Int := match hsT t with
  | .inl n => (n : Nat)
  | .inr _ => 0
theorem idxS_cut {s : Str} : ∀ {l : List Str} {k : Nat}, idxS l s = some k → l = l.take k ++ [s] ++ l.drop (k + 1)
  | [], k, h => by cases h
  | x :: r, k, h => by
    unfold idxS at h
    split at h
    · rename_i e
      cases h
      rw [e]; rfl
    · cases hr : idxS r s with
      | none => rw [hr] at h; cases h
      | some j =>
        rw [hr] at h
        cases h
        have := idxS_cut hr
        show x :: r = x :: (r.take j ++ [s] ++ r.drop (j + 1))
        rw [← this]
theorem hsT_text {t : Str} {rows ls : List Str} (h : hsT t = .inr (rows, ls)) : t = Txt.join "\n" (rows ++ [Str.ofString "--"] ++ ls) := by
  have e := PySem.StrLaws.join_split t "\n"
  unfold hsT at h
  generalize Txt.split t "\n" = l at *
  cases hi : idxS l (Str.ofString "--") with
  | none => rw [hi] at h; cases h
  | some k =>
    rw [hi] at h
    dsimp only at h
    cases hb : bad (l.take k) with
    | some n => rw [hb] at h; cases h
    | none =>
      rw [hb] at h
      dsimp only at h
      cases hd : dlBad (k + 2) (l.drop (k + 1)) with
      | some n => rw [hd] at h; cases h
      | none =>
        rw [hd] at h
        cases h
        rw [← idxS_cut hi, TL.join_eq]
        exact e.symm
theorem hsT_len {t : Str} {rows ls : List Str} (ht : HsT t) (h : hsT t = .inr (rows, ls)) : ls.length ≤ 901 := by
  obtain ⟨-, s2⟩ := split_ok (a := t) (b := "\n") ht.ok (by decide +kernel) (by decide +kernel)
  have h2 := ht.le
  unfold hsT at h
  generalize Txt.split t "\n" = l at *
  cases hi : idxS l (Str.ofString "--") with
  | none => rw [hi] at h; cases h
  | some k =>
    rw [hi] at h
    dsimp only at h
    cases hb : bad (l.take k) with
    | some n => rw [hb] at h; cases h
    | none =>
      rw [hb] at h
      dsimp only at h
      cases hd : dlBad (k + 2) (l.drop (k + 1)) with
      | some n => rw [hd] at h; cases h
      | none =>
        rw [hd] at h
        cases h
        rw [List.length_drop]; omega
def t_l_line_of_k36 : DTS := (dSeq (dTryZ [(25, true)] (some 2) (dSet 1 (dCall (fun ds => r_History_read_sx (.cls 9 :: ds)) [] (dCons (dVar 0) dNil))) (fun a_ d_ c_ => (dSeq (dIf (dOr (dNot (dTru (dIsE [(25, true)] a_ d_ c_ (dVar 2)))) (dOr (dTru (dIsE [(25, false)] a_ d_ c_ (dVar 2))) (dNot (dTru (dCall r_l_is_int [] (dCons (dXf [(25, 0)] a_ d_ c_ (dVar 2)) dNil)))))) (dRet (dNeg (dC (.int 1)))) dNext) (dRet (dXf [(25, 0)] a_ d_ c_ (dVar 2)))))) (dSeq (dIf (dTestB (dOp oNe (dMeth 9 r_History_text [] (dVar 1) dNil) (dVar 0))) (dRet (dNeg (dC (.int 1)))) dNext) (dRet (dC (.int 0)))))
abbrev N_l_line_of_k36 : List Str := ["_law_text", "_law_history", "e"]
@[irreducible] def r_l_line_of_k36 : DSp := fun ds S Q _ => ∃ t, ds = [.str t] ∧ HsT t ∧ Q (.int (hsI t)) S
theorem len_l_line_of_k36 : Ln 1 r_l_line_of_k36 := fun ds S Q E h => by unfold r_l_line_of_k36 at h; obtain ⟨t, rfl, _⟩ := h; rfl
theorem i_lineOf36 {t : Str} {S : Sto} {Q : DQ} {X : XQ} (ht : HsT t) (q : Q (.int (hsI t)) S) : r_l_line_of_k36 [.str t] S Q X := by unfold r_l_line_of_k36; exact ⟨t, rfl, ht, q⟩
theorem rd_l_line_of_k36 : Rd t_l_line_of_k36 N_l_line_of_k36 r_l_line_of_k36 := by
  intro ds S QD XD h
  unfold r_l_line_of_k36 at h
  obtain ⟨t, rfl, ht, q⟩ := h
  have hz := sizeLine_eq
  row_hasAll w_m
  refine i_hReadX ht ?_
  unfold hsI at q
  cases hb : hsT t with
  | inl n =>
    rw [hb] at q
    row_hasAll w_m
    intro a d
    row_hasAll w_m
    exact q
  | inr v =>
    obtain ⟨rows, ls⟩ := v
    rw [hb] at q
    dsimp only
    intro dl g htx hls
    have hlen := hsT_len ht hb
    have hte := hsT_text hb
    rw [hls, List.length_map] at hlen
    rw [hls] at hte
    row_hasAll w_m
    refine i_hText g (by omega) htx ?_
    row_hasAll w_m
    rw [show taleT rows dl = t from hte.symm]
    row_hasAll w_m
    exact q
def t_l_is_digit_k36 : DTS := (dRet (dAndV (dOp oEq (dCB (on1 lenD) (dCons (dVar 0) dNil)) (dC (.int 1))) (dOp oIn (dVar 0) (dVar 1))))
abbrev N_l_is_digit_k36 : List Str := ["_law_word", "_law_digits"]
def digW (w ds : Str) : Bool := decide (w.length = 1) && inS w ds
@[irreducible] def r_l_is_digit_k36 : DSp := fun ds S Q _ => ∃ w d : Str, ds = [.str w, .str d] ∧ Q (.bl (digW w d)) S
theorem len_l_is_digit_k36 : Ln 2 r_l_is_digit_k36 := fun ds S Q E h => by unfold r_l_is_digit_k36 at h; obtain ⟨w, d, rfl, _⟩ := h; rfl
theorem i_isDigit36 {w d : Str} {S : Sto} {Q : DQ} {X : XQ} (q : Q (.bl (digW w d)) S) : r_l_is_digit_k36 [.str w, .str d] S Q X := by unfold r_l_is_digit_k36; exact ⟨w, d, rfl, q⟩
theorem rd_l_is_digit_k36 : Rd t_l_is_digit_k36 N_l_is_digit_k36 r_l_is_digit_k36 := by
  intro ds S QD XD h
  unfold r_l_is_digit_k36 at h
  obtain ⟨w, d, rfl, q⟩ := h
  have hz := sizeLine_eq
  unfold digW at q
  row_hasAll w_m
  refine brP (fun h1 => ?_) (fun h1 => ?_)
  · rw [decide_eq_true (show w.length = 1 by omega), Bool.true_and] at q
    row_hasAll w_m
    exact q
  · rw [decide_eq_false (show ¬ w.length = 1 by omega), Bool.false_and] at q
    row_hasAll w_m
    exact q
theorem digW_coord (w : Str) : digW w (Str.ofString "01234567") = coordB w := by
  unfold digW coordB
  have h := slen_codes w
  split
  · rename_i c hc
    rw [hc] at h
    rw [decide_eq_true (show w.length = 1 from h.symm), Bool.true_and]
    unfold inS
    rw [hc]
    show decide (c ∈ [48, 49, 50, 51, 52, 53, 54, 55]) = decide (48 ≤ c ∧ c ≤ 55)
    refine decide_eq_decide.mpr ⟨fun h => ?_, fun h => ?_⟩
    · simp at h; omega
    · simp; omega
  · rename_i hne
    rw [decide_eq_false, Bool.false_and]
    intro h1
    obtain ⟨c, hc⟩ := slen1.mp (show ((w.length : Nat) : Int) = 1 by omega)
    exact hne c hc
theorem digW_dig (c : Nat) : digW (one c) (Str.ofString "0123456789") = decide (48 ≤ c ∧ c ≤ 57) := by
  unfold digW inS
  rw [decide_eq_true (show (one c).length = 1 from rfl), Bool.true_and]
  show decide (c ∈ [48, 49, 50, 51, 52, 53, 54, 55, 56, 57]) = _
  refine decide_eq_decide.mpr ⟨fun h => ?_, fun h => ?_⟩
  · simp at h; omega
  · simp; omega
theorem digW_pos (c : Nat) : digW (one c) (Str.ofString "123456789") = decide (49 ≤ c ∧ c ≤ 57) := by
  unfold digW inS
  rw [decide_eq_true (show (one c).length = 1 from rfl), Bool.true_and]
  show decide (c ∈ [49, 50, 51, 52, 53, 54, 55, 56, 57]) = _
  refine decide_eq_decide.mpr ⟨fun h => ?_, fun h => ?_⟩
  · simp at h; omega
  · simp; omega
def t_l_is_deed_k36_1 : DTS := (dRet (dAndV (dOp (oInT false) (dCB (on1 lenD) (dCons (dVar 2) dNil)) (dTup (dCons (dC (.int 1)) (dCons (dC (.int 2)) dNil)))) (dCall r_l_is_digit_k36 [] (dCons (dOp oIx (dVar 2) (dNeg (dC (.int 1)))) (dCons (dC (.str "0123456789")) dNil)))))
def t_l_is_deed_k36_2 : DTS := (dSeq (dIf (dAnd (dTestB (dOp oEq (dCB (on1 lenD) (dCons (dVar 2) dNil)) (dC (.int 2)))) (dNot (dTru (dCall r_l_is_digit_k36 [] (dCons (dOp oIx (dVar 2) (dC (.int 0))) (dCons (dC (.str "123456789")) dNil)))))) (dRet (dC (.bl false))) dNext) t_l_is_deed_k36_1)
def t_l_is_deed_k36_3 : DTS := (dSeq (dIf (dOr (dTestB (dOp oNe (dOp oIx (dVar 1) (dC (.int 0))) (dC (.str "mend")))) (dOr (dTestB (dOp oNe (dCB (on1 lenD) (dCons (dVar 1) dNil)) (dC (.int 5)))) (dNot (dTru (dCall r_l_is_letter [] (dCons (dOp oIx (dVar 1) (dC (.int 4))) dNil)))))) (dRet (dC (.bl false))) dNext) (dSeq (dSet 2 (dOp oIx (dVar 1) (dC (.int 3)))) t_l_is_deed_k36_2))
def t_l_is_deed_k36_4 : DTS := (dSeq (dIf (dTestB (dOp oEq (dOp oIx (dVar 1) (dC (.int 0))) (dC (.str "fall")))) (dRet (dOp oEq (dCB (on1 lenD) (dCons (dVar 1) dNil)) (dC (.int 3)))) dNext) t_l_is_deed_k36_3)
def t_l_is_deed_k36_5 : DTS := (dSeq (dIf (dOr (dTestB (dOp oLt (dCB (on1 lenD) (dCons (dVar 1) dNil)) (dC (.int 3)))) (dOr (dNot (dTru (dCall r_l_is_digit_k36 [] (dCons (dOp oIx (dVar 1) (dC (.int 1))) (dCons (dC (.str "01234567")) dNil))))) (dNot (dTru (dCall r_l_is_digit_k36 [] (dCons (dOp oIx (dVar 1) (dC (.int 2))) (dCons (dC (.str "01234567")) dNil))))))) (dRet (dC (.bl false))) dNext) t_l_is_deed_k36_4)
def t_l_is_deed_k36 : DTS := (dSeq (dSet 1 (dBM .str splitD (dVar 0) (dCons (dC (.str " ")) dNil))) t_l_is_deed_k36_5)
abbrev N_l_is_deed_k36 : List Str := ["_law_line", "_law_words", "_law_number"]
@[irreducible] def r_l_is_deed_k36 : DSp := fun ds S Q _ => ∃ w : Str, ds = [.str w] ∧ okS w ∧ w.length ≤ 1000 ∧ Q (.bl (rdDeed w).isSome) S
theorem len_l_is_deed_k36 : Ln 1 r_l_is_deed_k36 := fun ds S Q E h => by unfold r_l_is_deed_k36 at h; obtain ⟨w, rfl, _⟩ := h; rfl
theorem i_isDeed36 {w : Str} {S : Sto} {Q : DQ} {X : XQ} (ok : okS w) (hl : w.length ≤ 1000) (q : Q (.bl (rdDeed w).isSome) S) : r_l_is_deed_k36 [.str w] S Q X := by unfold r_l_is_deed_k36; exact ⟨w, rfl, ok, hl, q⟩
theorem rd_l_is_deed_k36 : Rd t_l_is_deed_k36 N_l_is_deed_k36 r_l_is_deed_k36 := by
  intro ds S QD XD h
  unfold r_l_is_deed_k36 at h
  obtain ⟨w, rfl, ok, hl, q⟩ := h
  have hz := sizeLine_eq
  obtain ⟨h1, h2⟩ := split_ok (b := " ") ok (by decide) (by decide +kernel)
  unfold rdDeed at q
  row_hasAll w_m
  refine ⟨⟨rfl, by omega⟩, ⟨h1, by omega⟩, ?_⟩
  generalize Txt.split w " " = ws at *
  match ws, h1, h2, q with
  | [], _, _, q =>
    row_hasAll w_m
    exact q
  | [_], _, _, q =>
    row_hasAll w_m
    exact q
  | [_, _], _, _, q =>
    row_hasAll w_m
    exact q
  | w0 :: w1 :: w2 :: r, h1, h2, q =>
    dsimp only at q
    have hlr : (w0 :: w1 :: w2 :: r).length = r.length + 3 := rfl
    row_hasAll w_m
    refine i_isDigit36 ?_
    rw [digW_coord]
    row_hasAll w_m
    cases hc1 : coordB w1 with
    | false =>
      rw [if_neg (fun h => by rw [hc1] at h; cases h.1)] at q
      row_hasAll w_m
      exact q
    | true =>
    row_hasAll w_m
    refine i_isDigit36 ?_
    rw [digW_coord]
    row_hasAll w_m
    cases hc2 : coordB w2 with
    | false =>
      rw [if_neg (fun h => by rw [hc2] at h; cases h.2)] at q
      row_hasAll w_m
      exact q
    | true =>
    rw [if_pos ⟨hc1, hc2⟩] at q
    row_hasAll w_m
    have hl2 : (w0 :: w1 :: w2 :: r).length = r.length + 3 := rfl
    refine brP (fun hf => ?_) (fun hf => ?_)
    · match r, q with
      | [], q =>
        dsimp only at q
        rw [if_pos hf] at q
        row_hasAll w_m
        exact q
      | [w3], q =>
        row_hasAll w_m
        exact q
      | [w3, w4], q =>
        dsimp only at q
        rw [if_neg (fun e => by rw [hf] at e; exact absurd e.1 (by decide +kernel))] at q
        row_hasAll w_m
        exact q
      | w3 :: w4 :: w5 :: r', q =>
        row_hasAll w_m
        rw [decide_eq_false (by rw [List.length_map]; simp only [List.length_cons]; omega)]
        exact q
    · match r, q with
      | [], q =>
        dsimp only at q
        rw [if_neg hf] at q
        row_hasAll w_m
        refine brN (fun _ => ?_) (fun _ => ?_)
        · row_hasAll w_m
          exact q
        · row_hasAll w_m
          exact q
      | [w3], q =>
        row_hasAll w_m
        refine brN (fun _ => ?_) (fun _ => ?_)
        · row_hasAll w_m
          exact q
        · row_hasAll w_m
          exact q
      | w3 :: w4 :: w5 :: r', q =>
        row_hasAll w_m
        refine brN (fun _ => ?_) (fun _ => ?_)
        · row_hasAll w_m
          exact q
        · row_hasAll w_m
          exact q
      | [w3, w4], q =>
        dsimp only at q
        row_hasAll w_m
        refine brN (fun hm => ?_) (fun hm => ?_)
        · rw [if_neg (fun e => hm e.1)] at q
          row_hasAll w_m
          exact q
        · row_hasAll w_m
          cases hst : stoneB w4 with
          | false =>
            rw [if_neg (fun e => by rw [hst] at e; exact nomatch e.2.2)] at q
            row_hasAll w_m
            exact q
          | true =>
            row_hasAll w_m
            have fin : ∀ b, ruleB w3 = b → QD (.bl b) S := fun b e => by
              cases b with
              | true => rw [if_pos ⟨hm, e, hst⟩] at q; exact q
              | false => rw [if_neg (fun z => by rw [e] at z; exact nomatch z.2.1)] at q; exact q
            have hsl := slen_codes w3
            match hw : w3.cps.toList, hsl with
            | [], hsl =>
              have h0 : w3.length = 0 := hsl.symm
              have e := fin false (by unfold ruleB; rw [hw])
              rw [h0]
              row_hasAll w_m
              rw [decide_eq_false (show ¬ (1 : Int) = ((w3.length : Nat) : Int) by omega), decide_eq_false (show ¬ (2 : Int) = ((w3.length : Nat) : Int) by omega)]
              row_hasAll w_m
              exact e
            | [c], hsl =>
              have h0 : w3.length = 1 := hsl.symm
              have e := fin (decide (48 ≤ c ∧ c ≤ 57)) (by unfold ruleB; rw [hw])
              have e3 : w3 = one c := str_of _ _ hw
              subst e3
              rw [h0]
              row_hasAll w_m
              refine i_isDigit36 ?_
              rw [digW_dig]
              row_hasAll w_m
              exact e
            | [c, d], hsl =>
              have h0 : w3.length = 2 := hsl.symm
              have e := fin (decide (49 ≤ c ∧ c ≤ 57) && decide (48 ≤ d ∧ d ≤ 57)) (by unfold ruleB; rw [hw])
              rw [h0]
              row_hasAll w_m
              refine itk_of (atI_nat (j := 0) (v := c) (by rw [hw]; rfl)) ?_
              row_hasAll w_m
              refine i_isDigit36 ?_
              rw [digW_pos]
              row_hasAll w_m
              refine brN (fun h9 => ?_) (fun h9 => ?_)
              · rw [decide_eq_false h9, Bool.false_and] at e
                row_hasAll w_m
                exact e
              · rw [decide_eq_true h9, Bool.true_and] at e
                row_hasAll w_m
                rw [decide_eq_false (show ¬ (1 : Int) = ((w3.length : Nat) : Int) by omega), decide_eq_true (show (2 : Int) = ((w3.length : Nat) : Int) by omega)]
                row_hasAll w_m
                refine itk_of (show atI w3.cps.toList (-1) = some d by rw [hw]; rfl) ?_
                row_hasAll w_m
                refine i_isDigit36 ?_
                rw [digW_dig]
                row_hasAll w_m
                exact e
            | c :: d :: f :: r', hsl =>
              have h0 : w3.length = r'.length + 3 := hsl.symm
              have e := fin false (by unfold ruleB; rw [hw])
              rw [h0]
              row_hasAll w_m
              rw [decide_eq_false (show ¬ (1 : Int) = ((w3.length : Nat) : Int) by omega), decide_eq_false (show ¬ (2 : Int) = ((w3.length : Nat) : Int) by omega)]
              row_hasAll w_m
              exact e
def t_l_is_row_k36 : DTS := (dSeq (dIf (dOr (dTestB (dOp oNe (dCB (on1 lenD) (dCons (dVar 0) dNil)) (dVar 1))) (dOr (dTestB (dOp oLt (dVar 1) (dC (.int 1)))) (dTestB (dOp oGt (dVar 1) (dC (.int 8)))))) (dRet (dC (.bl false))) dNext) (dRet (dOp oEq (dLc (dItems (dVar 0)) (.nm 2) (dAnd (dTestB (dOp oNe (dVar 2) (dC (.str ".")))) (dNot (dTru (dCall r_l_is_letter [] (dCons (dVar 2) dNil))))) (dVar 2) [2]) (dLst dNil))))
abbrev N_l_is_row_k36 : List Str := ["_law_row_here", "_law_wide", "_law_sign"]
@[irreducible] def r_l_is_row_k36 : DSp := fun ds S Q _ => ∃ (r : Str) (w : Int), ds = [.str r, .int w] ∧ Q (.bl (rowB r w)) S
theorem len_l_is_row_k36 : Ln 2 r_l_is_row_k36 := fun ds S Q E h => by unfold r_l_is_row_k36 at h; obtain ⟨a, b, rfl, _⟩ := h; rfl
theorem i_isRow36 {r : Str} {w : Int} {S : Sto} {Q : DQ} {X : XQ} (q : Q (.bl (rowB r w)) S) : r_l_is_row_k36 [.str r, .int w] S Q X := by unfold r_l_is_row_k36; exact ⟨r, w, rfl, q⟩
theorem rd_l_is_row_k36 : Rd t_l_is_row_k36 N_l_is_row_k36 r_l_is_row_k36 := by
  intro ds S QD XD h
  unfold r_l_is_row_k36 at h
  obtain ⟨r, w, rfl, q⟩ := h
  have hz := sizeLine_eq
  unfold rowB at q
  have no : ¬ ((r.length : Int) = w ∧ 1 ≤ w ∧ w ≤ 8) → QD (.bl false) S := fun hn => by rw [decide_eq_false hn] at q; exact q
  row_hasAll w_m
  refine brN (c := ((r.length : Nat) : Int) = w) (fun h1 => ?_) (fun h1 => ?_)
  · row_hasAll w_m
    exact no fun z => h1 z.1
  · row_hasAll w_m
    refine brP (fun h2 => ?_) (fun h2 => ?_)
    · row_hasAll w_m
      exact no fun z => by omega
    · row_hasAll w_m
      refine brP (fun h3 => ?_) (fun h3 => ?_)
      · row_hasAll w_m
        exact no fun z => by omega
      · row_hasAll w_m
        rw [decide_eq_true (show ((r.length : Int) = w ∧ 1 ≤ w ∧ w ≤ 8) by exact ⟨h1, by omega, by omega⟩), Bool.true_and] at q
        refine lk_filter (xs := r.cps.toList) (g := fun c => D.str (one c)) (f := fun c => D.str (one c)) (p := fun c => !signB (one c)) (fun c hc => ⟨_, rfl, fun Q' hh => ?_, fun _ Q' hh => ?_⟩) ?_
        · row_hasAll w_m
          refine brN (fun hd => ?_) (fun hd => ?_)
          · row_hasAll w_m
            have e : signB (one c) = stoneB (one c) := by
              show (decide (c = 46) || letB c) = stoneB (one c)
              rw [decide_eq_false (fun e => hd (by rw [e]; rfl)), Bool.false_or, stone_one]
            rw [← e]
            exact hh
          · have e : signB (one c) = true := by rw [hd]; decide +kernel
            rw [e] at hh
            exact hh
        · row_hasAll w_m
          exact hh
        · row_hasAll w_m
          rw [show (r.cps.toList.filter fun c => !signB (one c)).map (fun c => D.str (one c)) = ((r.cps.toList.filter fun c => !signB (one c)).map one).map D.str from (List.map_map ..).symm]
          refine ⟨by rw [pln_strs 7]; rfl, ?_⟩
          have e2 : eqB (.lst (((r.cps.toList.filter fun c => !signB (one c)).map one).map D.str)) (.lst (([] : List Str).map D.str)) = r.cps.toList.all fun c => signB (one c) := by
            rw [eqB_strs, Bool.eq_iff_iff, decide_eq_true_eq, List.map_eq_nil_iff, List.filter_eq_nil_iff, List.all_eq_true]
            exact ⟨fun h x hx => by have := h x hx; simpa using this, fun h x hx => by rw [h x hx]; decide⟩
          rw [show (D.lst [] : D) = .lst (([] : List Str).map D.str) from rfl, e2]
          exact q
def t_l_bad_line_k36 : DTS := (dSeq (dSet 1 (dBM .str splitD (dVar 0) (dCons (dC (.str "\n")) dNil))) (dSeq (dIf (dTestB (dOp oNotIn (dC (.str "--")) (dVar 1))) (dRet (dOp oAdd (dCB (on1 lenD) (dCons (dVar 1) dNil)) (dC (.int 1)))) dNext) (dSeq (dSet 2 (dBM .lst idxD (dVar 1) (dCons (dC (.str "--")) dNil))) (dSeq (dIf (dTestB (dOp oEq (dVar 2) (dC (.int 0)))) (dRet (dC (.int 1))) dNext) (dSeq (dFor (dRng1 (dCons (dCB (on1 lenD) (dCons (dVar 1) dNil)) dNil)) (.nm 3) (dSeq (dIf (dAnd (dTestB (dOp oLt (dVar 3) (dVar 2))) (dOr (dTestB (dOp oGt (dVar 3) (dC (.int 7)))) (dNot (dTru (dCall r_l_is_row_k36 [] (dCons (dOp oIx (dVar 1) (dVar 3)) (dCons (dCB (on1 lenD) (dCons (dOp oIx (dVar 1) (dC (.int 0))) dNil)) dNil))))))) (dRet (dOp oAdd (dVar 3) (dC (.int 1)))) dNext) (dIf (dAnd (dTestB (dOp oGt (dVar 3) (dVar 2))) (dNot (dTru (dCall r_l_is_deed_k36 [] (dCons (dOp oIx (dVar 1) (dVar 3)) dNil))))) (dRet (dOp oAdd (dVar 3) (dC (.int 1)))) dNext))) (dRet (dC (.int 0))))))))
abbrev N_l_bad_line_k36 : List Str := ["_law_text", "_law_lines", "_law_many", "_law_k"]
@[irreducible] def r_l_bad_line_k36 : DSp := fun ds S Q _ => ∃ t, ds = [.str t] ∧ HsT t ∧ Q (.int (hsI t)) S
theorem len_l_bad_line_k36 : Ln 1 r_l_bad_line_k36 := fun ds S Q E h => by unfold r_l_bad_line_k36 at h; obtain ⟨t, rfl, _⟩ := h; rfl
theorem i_badLine36 {t : Str} {S : Sto} {Q : DQ} {X : XQ} (ht : HsT t) (q : Q (.int (hsI t)) S) : r_l_bad_line_k36 [.str t] S Q X := by unfold r_l_bad_line_k36; exact ⟨t, rfl, ht, q⟩
theorem rd_l_bad_line_k36 : Rd t_l_bad_line_k36 N_l_bad_line_k36 r_l_bad_line_k36 := by
  intro ds S QD XD h
  unfold r_l_bad_line_k36 at h
  obtain ⟨t, rfl, ht, q⟩ := h
  have hz := sizeLine_eq
  have h1 := ht.ok
  have h2 := ht.le
  have hsl := split_len (a := t) (b := "\n") (by decide +kernel) (by decide +kernel)
  obtain ⟨s1, s2⟩ := split_ok (a := t) (b := "\n") h1 (by decide +kernel) (by decide +kernel)
  have hne := split_ne t "\n" (by decide +kernel) (by decide +kernel)
  unfold hsI hsT at q
  row_hasAll w_m
  refine ⟨⟨by decide +kernel, by omega⟩, ⟨s1, by omega⟩, ?_⟩
  generalize Txt.split t "\n" = ls at *
  row_hasAll w_m
  rw [inB_strs]
  cases hi : idxS ls (Str.ofString "--") with
  | none =>
    rw [hi] at q
    rw [decide_eq_false (idxS_none hi)]
    row_hasAll w_m
    rw [List.length_map]
    exact q
  | some m =>
    rw [hi] at q
    obtain ⟨hmem, hk⟩ := idxS_mem hi
    rw [decide_eq_true hmem]
    row_hasAll w_m
    rw [strsD_map, List.map_id']
    show (match idxS ls (Str.ofString "--") with | some j => _ | none => _)
    rw [hi]
    dsimp only at q
    row_hasAll w_m
    refine brP (fun hm0 => ?_) (fun hm0 => ?_)
    · have e0 : m = 0 := by omega
      subst e0
      row_hasAll w_m
      exact q
    · row_hasAll w_m
      rw [List.length_map]
      obtain ⟨r0, er, hw⟩ : ∃ r, ls[0]? = some r ∧ (r.length : Int) = wid (ls.take m) := by
        cases ls with
        | nil => exact absurd rfl hne
        | cons r rest =>
          obtain ⟨m', rfl⟩ : ∃ m', m = m' + 1 := ⟨m - 1, by omega⟩
          exact ⟨r, rfl, rfl⟩
      have htn : ls.take m ≠ [] := fun e => by
        have := congrArg List.length e
        rw [List.length_take] at this
        have e0 : min m ls.length = 0 := this
        omega
      have hbad : bad (ls.take m) = badFrom (wid (ls.take m)) 0 (ls.take m) := if_neg htn
      have htl : (ls.take m).length = m := by rw [List.length_take]; omega
      refine loop_i ((ls.length : Int) - 0).toNat [3] (fun i ws S' => S = S' ∧ (i ≤ m → badFrom (wid (ls.take m)) i ((ls.take m).drop i) = bad (ls.take m)) ∧ (m < i → bad (ls.take m) = none ∧ dlBad (m + 2) (ls.drop (m + 1)) = dlBad (i + 1) (ls.drop i)) ∧ ∃ w, ws = [w]) (by row_hasAll w_env) ?_ ?_ ⟨rfl, fun _ => hbad.symm, fun z => absurd z (Nat.not_lt_zero _), _, rfl⟩
      · rintro i _ _ hi9 ⟨rfl, hA, hB, w, rfl⟩
        refine ⟨_, rfl, fun N hN => ?_⟩
        have hlt : i < ls.length := by omega
        have hx : ls[i] ∈ ls := List.getElem_mem hlt
        have hat : ∀ k, k (D.str ls[i]) → itk (ls.map D.str) (i : Int) k := fun k h => ik_at (by omega) (by rw [Int.toNat_natCast, List.getElem?_map, List.getElem?_eq_getElem hlt]; rfl) h
        rw [Int.zero_add]
        row_hasAll w_m
        rcases Nat.lt_trichotomy i m with him | him | him
        · have hA := hA (by omega)
          have hd : (ls.take m).drop i = ls[i] :: (ls.take m).drop (i + 1) := by
            rw [List.drop_eq_getElem_cons (by omega), List.getElem_take]
          rw [hd, badFrom] at hA
          rw [decide_eq_true (show ((i : Nat) : Int) < ((m : Nat) : Int) by omega)]
          row_hasAll w_m
          refine brP (fun h7 => ?_) (fun h7 => ?_)
          · rw [if_pos (.inl (by omega))] at hA
            rw [← hA] at q
            row_hasAll w_m
            exact q
          · row_hasAll w_m
            refine hat _ ?_
            row_hasAll w_m
            refine ik_at (v := .str r0) (by decide) (by rw [List.getElem?_map]; show Option.map D.str ls[0]? = _; rw [er]; rfl) ?_
            row_hasAll w_m
            rw [hw]
            refine i_isRow36 ?_
            row_hasAll w_m
            cases hs : rowB ls[i] (wid (ls.take m)) with
            | false =>
              rw [if_pos (.inr hs)] at hA
              rw [← hA] at q
              row_hasAll w_m
              exact q
            | true =>
              rw [hs, if_neg (by simp; omega)] at hA
              row_hasAll w_m
              rw [decide_eq_false (show ¬ ((m : Nat) : Int) < ((i : Nat) : Int) by omega)]
              row_hasAll w_m
              exact hN _ _ (by row_hasAll w_env) ⟨rfl, fun _ => hA, fun z => absurd z (by omega), _, rfl⟩
        · subst him
          have hA := hA (Nat.le_refl _)
          rw [show (ls.take i).drop i = [] from List.drop_eq_nil_of_le (by omega), badFrom] at hA
          row_hasAll w_m
          rw [decide_eq_false (Int.lt_irrefl _)]
          row_hasAll w_m
          rw [decide_eq_false (Int.lt_irrefl _)]
          row_hasAll w_m
          exact hN _ _ (by row_hasAll w_env) ⟨rfl, fun z => absurd z (by omega), fun _ => ⟨hA.symm, rfl⟩, _, rfl⟩
        · obtain ⟨b1, b2⟩ := hB him
          rw [decide_eq_false (show ¬ ((i : Nat) : Int) < ((m : Nat) : Int) by omega)]
          row_hasAll w_m
          rw [decide_eq_true (show ((m : Nat) : Int) < ((i : Nat) : Int) by omega)]
          row_hasAll w_m
          refine hat _ ?_
          row_hasAll w_m
          refine i_isDeed36 (s1 _ hx) (by have := hsl _ hx; omega) ?_
          row_hasAll w_m
          rw [List.drop_eq_getElem_cons hlt, dlBad] at b2
          cases hr : rdDeed ls[i] with
          | none =>
            rw [if_pos hr] at b2
            rw [b1] at q
            dsimp only at q
            rw [b2] at q
            row_hasAll w_m
            exact q
          | some d =>
            rw [if_neg (by rw [hr]; exact fun z => nomatch z)] at b2
            row_hasAll w_m
            exact hN _ _ (by row_hasAll w_env) ⟨rfl, fun z => absurd z (by omega), fun _ => ⟨b1, b2⟩, _, rfl⟩
      · rintro _ _ ⟨rfl, hA, hB, w, rfl⟩
        have en : ((ls.length : Int) - 0).toNat = ls.length := by omega
        obtain ⟨b1, b2⟩ := hB (by omega)
        rw [en, List.drop_length, dlBad] at b2
        rw [b1] at q
        dsimp only at q
        rw [b2] at q
        row_hasAll w_m
        exact q
structure TxA (n : Nat) (s : Str) : Prop where
  as : ∀ c ∈ s.cps.toList, c < 128
  le : s.length ≤ n
theorem TxA.hs {n : Nat} {s : Str} (h : TxA n s) (l : n ≤ 900) : HsT s := ⟨asc_ok h.as (by have := h.le; omega), Nat.le_trans h.le l⟩
theorem TxA.cut {n : Nat} {s : Str} (h : TxA n s) (lo hi : Option Int) : ∀ x ∈ (cutS s lo hi).cps.toList, x < 128 := fun x hx => by
  rw [cutS_codes] at hx
  exact h.as x (List.mem_of_mem_drop (List.mem_of_mem_take hx))
theorem TxA.two {n : Nat} {s : Str} (h : TxA n s) {k m : Nat} (hkm : k ≤ m) : TxA n (cutS s none (some (k : Int)) ++ cutS s (some (m : Int)) none) := by
  have c1 := cut2_le s k m hkm
  refine ⟨fun x hx => ?_, by rw [slen_app]; have := h.le; omega⟩
  rw [app_codes] at hx
  exact (List.mem_append.mp hx).elim (h.cut _ _ x) (h.cut _ _ x)
theorem TxA.three {n : Nat} {s : Str} (h : TxA n s) {k m c : Nat} (hkm : k ≤ m) (hc : c < 128) : TxA (n + 1) (cutS s none (some (k : Int)) ++ one c ++ cutS s (some (m : Int)) none) := by
  have c1 := cut2_le s k m hkm
  have ho1 : (one c).length = 1 := rfl
  refine ⟨fun x hx => ?_, by rw [slen_app, slen_app, ho1]; have := h.le; omega⟩
  rw [app_codes, app_codes] at hx
  rcases List.mem_append.mp hx with hx | hx
  · rcases List.mem_append.mp hx with hx | hx
    · exact h.cut _ _ x hx
    · have : x = c := by simpa [one] using hx
      rw [this]; exact hc
  · exact h.cut _ _ x hx
theorem alpha36 : ∀ n : Nat, n < 13 → ∃ c, (Str.ofString "0789a.- \nfm+A").cps.toList[n]? = some c ∧ c < 128 := by
  decide +kernel
def wsumN (ws : List Str) : Nat := (ws.map (·.length)).sum + ws.length
theorem lines36 {t : Str} : wsumN (Txt.split t "\n") = t.length + 1 ∧ ∀ w ∈ Txt.split t "\n", ∀ c ∈ w.cps.toList, c ∈ t.cps.toList := by
  have e := PySem.StrLaws.join_split t "\n"
  have ne := split_ne t "\n" (by decide +kernel) (by decide +kernel)
  generalize Txt.split t "\n" = ws at *
  have e2 : TL.tl t = TL.joinL (TL.tl "\n") (ws.map TL.tl) := by rw [← e]; exact TL.tl_join "\n" ws
  refine ⟨?_, fun w hw c hc => ?_⟩
  · have h := joinL_eq (S := TL.tl "\n") (l := ws.map TL.tl) (by simpa using ne)
    rw [← e2, ← len_tl, List.map_map, List.length_map, show (TL.tl (Str.ofString "\n")).length = 1 from rfl, Nat.mul_one] at h
    unfold wsumN
    have e3 : ws.map ((fun x : List Nat => x.length) ∘ TL.tl) = ws.map (·.length) := List.map_congr_left fun w _ => (len_tl w).symm
    have h4 : (ws.map ((fun x : List Nat => x.length) ∘ TL.tl)).sum = (ws.map (·.length)).sum := by rw [e3]
    omega
  · show c ∈ TL.tl t
    rw [e2]
    exact joinL_sub (List.mem_map.mpr ⟨w, hw, rfl⟩) c hc
theorem wsumN_app (a b : List Str) : wsumN (a ++ b) = wsumN a + wsumN b := by
  unfold wsumN
  rw [List.map_append, List.sum_append, List.length_append]
  omega
theorem wsumN_sub : ∀ (l : List Str) (k : Nat), wsumN (l.take k) + wsumN (l.drop k) = wsumN l := fun l k => by rw [← wsumN_app, List.take_append_drop]
theorem wsumN_le (l : List Str) (k : Nat) : wsumN (l.take k) ≤ wsumN l ∧ wsumN (l.drop k) ≤ wsumN l := by
  have := wsumN_sub l k
  omega
theorem wsumN_rev (l : List Str) : wsumN l.reverse = wsumN l := by
  induction l with
  | nil => rfl
  | cons a r ih => rw [List.reverse_cons, wsumN_app, ih, show a :: r = [a] ++ r from rfl, wsumN_app]; omega
theorem join36 {t : Str} {n : Nat} (h : TxA n t) {ls : List Str} (hm : ∀ l ∈ ls, l ∈ Txt.split t "\n") {m : Nat} (hw : wsumN ls ≤ m) : TxA m (Txt.join "\n" ls) ∧ (ls.map (·.length)).sum + ls.length * (Str.ofString "\n").length ≤ m := by
  have e1 : (ls.map (·.length)).sum + ls.length * (Str.ofString "\n").length ≤ m := by
    rw [show (Str.ofString "\n").length = 1 from rfl, Nat.mul_one]; exact hw
  refine ⟨⟨fun x hx => ?_, Nat.le_trans (join_len _ _) e1⟩, e1⟩
  rcases joinT_codes hx with hx | ⟨w, hw, hx⟩
  · have : x = 10 := by simpa using (show x ∈ [10] from hx)
    omega
  · exact h.as x (lines36.2 w (hm w hw) x hx)
def t_l_changed_k36_1 : DTS := (dRet (dBM .str joinD (dC (.str "\n")) (dCons (dOp oAdd (dSl oSl (dVar 5) dNoPart (dPart (dVar 6))) (dSl oSl (dVar 5) (dPart (dOp oAdd (dVar 6) (dC (.int 1)))) dNoPart)) dNil)))
def t_l_changed_k36_2 : DTS := (dRet (dBM .str joinD (dC (.str "\n")) (dCons (dOp oAdd (dSl oSl (dVar 5) dNoPart (dPart (dOp oAdd (dVar 6) (dC (.int 1))))) (dSl oSl (dVar 5) (dPart (dVar 6)) dNoPart)) dNil)))
def t_l_changed_k36_3 : DTS := (dRet (dBM .str joinD (dC (.str "\n")) (dCons (dOp oAdd (dOp oAdd (dSl oSl (dVar 5) dNoPart (dPart (dVar 6))) (dRev (dVar 7))) (dSl oSl (dVar 5) (dPart (dOp oAdd (dVar 6) (dC (.int 2)))) dNoPart)) dNil)))
def t_l_changed_k36_4 : DTS := (dSeq (dIf (dTestB (dOp oEq (dVar 4) (dC (.int 4)))) t_l_changed_k36_2 dNext) (dSeq (dSet 7 (dSl oSl (dVar 5) (dPart (dVar 6)) (dPart (dOp oAdd (dVar 6) (dC (.int 2)))))) t_l_changed_k36_3))
def t_l_changed_k36_5 : DTS := (dSeq (dSet 6 (dCall r_l_take [] (dCons (dVar 0) (dCons (dCB (on1 lenD) (dCons (dVar 5) dNil)) dNil)))) (dSeq (dIf (dTestB (dOp oEq (dVar 4) (dC (.int 3)))) t_l_changed_k36_1 dNext) t_l_changed_k36_4))
def t_l_changed_k36_6 : DTS := (dSeq (dIf (dTestB (dOp oEq (dVar 4) (dC (.int 2)))) (dRet (dOp oAdd (dOp oAdd (dSl oSl (dVar 1) dNoPart (dPart (dVar 2))) (dVar 3)) (dSl oSl (dVar 1) (dPart (dOp oAdd (dVar 2) (dC (.int 1)))) dNoPart))) dNext) (dSeq (dSet 5 (dBM .str splitD (dVar 1) (dCons (dC (.str "\n")) dNil))) t_l_changed_k36_5))
def t_l_changed_k36_7 : DTS := (dSeq (dIf (dTestB (dOp oEq (dVar 4) (dC (.int 1)))) (dRet (dOp oAdd (dOp oAdd (dSl oSl (dVar 1) dNoPart (dPart (dVar 2))) (dVar 3)) (dSl oSl (dVar 1) (dPart (dVar 2)) dNoPart))) dNext) t_l_changed_k36_6)
def t_l_changed_k36_8 : DTS := (dSeq (dIf (dTestB (dOp oEq (dVar 4) (dC (.int 0)))) (dRet (dOp oAdd (dSl oSl (dVar 1) dNoPart (dPart (dVar 2))) (dSl oSl (dVar 1) (dPart (dOp oAdd (dVar 2) (dC (.int 1)))) dNoPart))) dNext) t_l_changed_k36_7)
def t_l_changed_k36_9 : DTS := (dSeq (dSet 3 (dOp oIx (dC (.str "0789a.- \nfm+A")) (dCall r_l_take [] (dCons (dVar 0) (dCons (dC (.int 13)) dNil))))) (dSeq (dSet 4 (dCall r_l_take [] (dCons (dVar 0) (dCons (dC (.int 6)) dNil)))) t_l_changed_k36_8))
def t_l_changed_k36 : DTS := (dSeq (dSet 2 (dCall r_l_take [] (dCons (dVar 0) (dCons (dOp oAdd (dCB (on1 lenD) (dCons (dVar 1) dNil)) (dC (.int 1))) dNil)))) t_l_changed_k36_9)
abbrev N_l_changed_k36 : List Str := ["_law_bag_here", "_law_text", "_law_at", "_law_sign", "_law_way", "_law_lines", "_law_spot", "_law_turned"]
@[irreducible] def r_l_changed_k36 : DSp := fun ds S Q _ => ∃ (a : Addr) (b : Bag) (t : Str) (n : Nat), ds = [.adr a, .str t] ∧ S a = some (bagO b) ∧ TxA n t ∧ n ≤ 900 ∧ ∀ t' b', TxA (2 * n + 2) t' → Q (.str t') (su S a (bagO b'))
theorem len_l_changed_k36 : Ln 2 r_l_changed_k36 := fun ds S Q E h => by unfold r_l_changed_k36 at h; obtain ⟨a, b, t, n, rfl, _⟩ := h; rfl
theorem i_changed36 {a : Addr} {b : Bag} {t : Str} {n : Nat} {S : Sto} {Q : DQ} {X : XQ} (hS : S a = some (bagO b)) (ht : TxA n t) (hn : n ≤ 900) (q : ∀ t' b', TxA (2 * n + 2) t' → Q (.str t') (su S a (bagO b'))) : r_l_changed_k36 [.adr a, .str t] S Q X := by unfold r_l_changed_k36; exact ⟨a, b, t, n, rfl, hS, ht, hn, q⟩
theorem rd_l_changed_k36 : Rd t_l_changed_k36 N_l_changed_k36 r_l_changed_k36 := by
  intro ds S QD XD h
  unfold r_l_changed_k36 at h
  obtain ⟨a, b, t, n, rfl, hS, ht, hn, q⟩ := h
  have hz := sizeLine_eq
  have hle := ht.le
  have hts := ht.hs hn
  have up : ∀ {m : Nat} {s : Str} b', TxA m s → m ≤ 2 * n + 2 → QD (.str s) (su S a (bagO b')) := fun b' h l => q _ b' ⟨h.as, Nat.le_trans h.le l⟩
  row_hasAll w_m
  refine i_take hS (by omega) (by omega) fun at_ b1 a0 a1 => ?_
  obtain ⟨k, rfl⟩ : ∃ k : Nat, at_ = (k : Int) := ⟨at_.toNat, by omega⟩
  row_hasAll w_m
  refine i_takeB (by decide) (by decide) fun sg b2 g0 g1 => ?_
  obtain ⟨sg, rfl⟩ : ∃ m : Nat, sg = (m : Int) := ⟨sg.toNat, by omega⟩
  obtain ⟨c, hc, hc8⟩ := alpha36 sg (by omega)
  row_hasAll w_m
  refine ik_at (by omega) (by rw [Int.toNat_natCast]; exact hc) ?_
  row_hasAll w_m
  refine i_takeB (by decide) (by decide) fun way b3 w0 w1 => ?_
  row_hasAll w_m
  have c0 := cut2_le t k k (Nat.le_refl _)
  have c1 := cut2_le t k (k + 1) (by omega)
  have ho1 : (one c).length = 1 := rfl
  refine brP (fun h0 => ?_) (fun h0 => ?_)
  · row_hasAll w_m
    rw [show ((k : Nat) : Int) + 1 = ((k + 1 : Nat) : Int) from rfl]
    refine ⟨by omega, ?_⟩
    exact up b3 (ht.two (Nat.le_succ k)) (by omega)
  row_hasAll w_m
  refine brP (fun h1 => ?_) (fun h1 => ?_)
  · row_hasAll w_m
    exact up b3 (ht.three (Nat.le_refl k) hc8) (by omega)
  row_hasAll w_m
  refine brP (fun h2 => ?_) (fun h2 => ?_)
  · row_hasAll w_m
    rw [show ((k : Nat) : Int) + 1 = ((k + 1 : Nat) : Int) from rfl]
    refine ⟨by rw [slen_app, ho1]; omega, ?_⟩
    exact up b3 (ht.three (Nat.le_succ k) hc8) (by omega)
  row_hasAll w_m
  obtain ⟨s1, s2⟩ := split_ok (a := t) (b := "\n") hts.ok (by decide +kernel) (by decide +kernel)
  have hne := split_ne t "\n" (by decide +kernel) (by decide +kernel)
  have hws := (lines36 (t := t)).1
  refine ⟨⟨by decide +kernel, by omega⟩, ⟨s1, by omega⟩, ?_⟩
  have jn : ∀ (ls : List Str) (m : Nat) b', (∀ l ∈ ls, l ∈ Txt.split t "\n") → wsumN ls ≤ m → m ≤ 2 * n + 2 → (ls.map (·.length)).sum + ls.length * (Str.ofString "\n").length ≤ 16777216 ∧ QD (.str (Txt.join "\n" ls)) (su S a (bagO b')) := fun ls m b' hm hw hl => by
    obtain ⟨j1, j2⟩ := join36 ht hm hw
    exact ⟨by omega, up b' j1 hl⟩
  generalize Txt.split t "\n" = ls at *
  have hpos : 0 < ls.length := List.length_pos_iff.mpr hne
  row_hasAll w_m
  rw [List.length_map]
  refine i_takeB (by omega) (by omega) fun sp b4 p0 p1 => ?_
  obtain ⟨sp, rfl⟩ : ∃ m : Nat, sp = (m : Int) := ⟨sp.toNat, by omega⟩
  row_hasAll w_m
  have l1 := (wsumN_le ls sp)
  have l2 := (wsumN_le ls (sp + 1))
  have l3 := (wsumN_le ls (sp + 2))
  have l4 := wsumN_sub ls sp
  have l5 := wsumN_sub ls (sp + 1)
  have l6 := wsumN_sub ls (sp + 2)
  refine brP (fun h3 => ?_) (fun h3 => ?_)
  · row_hasAll w_m
    rw [show ((sp : Nat) : Int) + 1 = ((sp + 1 : Nat) : Int) from rfl, cutD_to, cutD_from, ← List.map_take, ← List.map_drop, ← List.map_append]
    refine ⟨by rw [List.length_map, List.length_map, List.length_take, List.length_drop]; omega, ?_⟩
    row_hasAll w_m
    rw [strsD_map, List.map_id']
    exact jn _ _ b4 (fun l hl => (List.mem_append.mp hl).elim List.mem_of_mem_take List.mem_of_mem_drop) (by rw [wsumN_app]; exact Nat.le_refl _) (by omega)
  row_hasAll w_m
  refine brP (fun h4 => ?_) (fun h4 => ?_)
  · row_hasAll w_m
    rw [show ((sp : Nat) : Int) + 1 = ((sp + 1 : Nat) : Int) from rfl, cutD_to, cutD_from, ← List.map_take, ← List.map_drop, ← List.map_append]
    refine ⟨by rw [List.length_map, List.length_map, List.length_take, List.length_drop]; omega, ?_⟩
    row_hasAll w_m
    rw [strsD_map, List.map_id']
    exact jn _ _ b4 (fun l hl => (List.mem_append.mp hl).elim List.mem_of_mem_take List.mem_of_mem_drop) (by rw [wsumN_app]; exact Nat.le_refl _) (by omega)
  row_hasAll w_m
  have m1 : wsumN (cutR ls (some ((sp : Nat) : Int)) (some ((sp : Nat) + 2))) ≤ wsumN (ls.drop sp) := by
    unfold cutR
    rw [HT.sIx_nat, Nat.min_eq_left (by omega)]
    exact (wsumN_le _ _).1
  rw [cutD_to, ← List.map_take, cutD_map, ← List.map_reverse]
  generalize hmid : cutR ls (some ((sp : Nat) : Int)) (some ((sp : Nat) + 2)) = mid at *
  have mm : ∀ l ∈ mid, l ∈ ls := fun l hl => cutR_mem (by rw [← hmid] at hl; exact hl)
  have ml : mid.length ≤ ls.length := by
    rw [← hmid]
    unfold cutR
    rw [List.length_take, List.length_drop]
    omega
  refine ⟨by rw [List.length_map, List.length_map, List.length_take, List.length_reverse]; omega, ?_⟩
  row_hasAll w_m
  rw [show ((sp : Nat) : Int) + 2 = ((sp + 2 : Nat) : Int) from rfl, cutD_from, ← List.map_drop, ← List.map_append]
  refine ⟨by rw [List.length_map, List.length_map, List.length_append, List.length_take, List.length_reverse, List.length_drop]; omega, ?_⟩
  row_hasAll w_m
  rw [← List.map_append, strsD_map, List.map_id']
  exact jn _ _ b4 (fun l hl => (List.mem_append.mp hl).elim (fun hl => (List.mem_append.mp hl).elim List.mem_of_mem_take fun h => mm l (List.mem_reverse.mp h)) List.mem_of_mem_drop) (by rw [wsumN_app, wsumN_app, wsumN_rev]; exact Nat.le_refl _) (by omega)
theorem dlBad_lines : ∀ {dl : List Deed} {i : Nat}, (∀ d ∈ dl, d.txt) → dlBad i (dl.map lineD) = none
  | [], _, _ => rfl
  | d :: r, i, h => by
    rw [List.map_cons, dlBad, if_neg (by rw [lineD_back (h d (List.mem_cons_self ..))]; exact fun z => nomatch z)]
    exact dlBad_lines fun x hx => h x (List.mem_cons_of_mem _ hx)
theorem hsI_tale {rows : List Str} {dl : List Deed} (g : Grid rows) (h : ∀ d ∈ dl, d.txt) : hsI (taleT rows dl) = 0 := by
  unfold hsI hsT
  rw [tale_split g h, List.append_assoc, show idxS (rows ++ ([Str.ofString "--"] ++ dl.map lineD)) (Str.ofString "--") = some rows.length from idxS_app (dash_no g)]
  dsimp only
  rw [List.take_left' rfl, g.bad]
  dsimp only
  rw [← List.append_assoc, List.drop_left' (by rw [List.length_append]; rfl), dlBad_lines h]
theorem wds_sum36 {d : Deed} (h : d.txt) : ((wordsD d).map (·.length)).sum ≤ 9 := by
  have n1 : ∀ k : Nat, k < 8 → (nT k).length = 1 := by decide +kernel
  cases d with
  | fall c =>
    obtain ⟨h1, h2⟩ := h
    obtain ⟨a, ha, _, ea⟩ := intT h1
    obtain ⟨b, hb, _, eb⟩ := intT h2
    simp only [wordsD]
    rw [ea, eb]
    simp only [List.map_cons, List.map_nil, List.sum_cons, List.sum_nil, n1 a ha, n1 b hb]
    rw [show (Str.ofString "fall").length = 4 from rfl]
    omega
  | mend c n s =>
    obtain ⟨⟨h1, h2⟩, hn, hst⟩ := h
    obtain ⟨a, ha, _, ea⟩ := intT h1
    obtain ⟨b, hb, _, eb⟩ := intT h2
    obtain ⟨k, rfl, hk⟩ := stoneB_one hst
    have n2 := (nT_fact n hn).2.1
    simp only [wordsD]
    rw [ea, eb]
    simp only [List.map_cons, List.map_nil, List.sum_cons, List.sum_nil, n1 a ha, n1 b hb]
    rw [show (Str.ofString "mend").length = 4 from rfl, show (one k).length = 1 from rfl]
    omega
theorem lineD_le14 {d : Deed} (h : d.txt) : (lineD d).length ≤ 14 := by
  have h1 := wds_sum36 h
  have h2 := words_len d
  have := join_len " " (wordsD d)
  rw [show (Str.ofString " ").length = 1 from rfl] at this
  exact Nat.le_trans this (by omega)
theorem taleT_tx {rows : List Str} {dl : List Deed} (g : Grid rows) (h : ∀ d ∈ dl, d.txt) (hl : dl.length ≤ 8) : TxA 195 (taleT rows dl) := by
  have gle := g.le
  have s1 : (rows.map (·.length)).sum ≤ rows.length * 8 := sum_le (fun s : Str => s.length) 8 rows fun r hr => row_le g hr
  have s2 : ((dl.map lineD).map (·.length)).sum ≤ dl.length * 14 := by
    have := sum_le (fun s : Str => s.length) 14 (dl.map lineD) fun r hr => by obtain ⟨d, hd, rfl⟩ := List.mem_map.mp hr; exact lineD_le14 (h d hd)
    rwa [List.length_map] at this
  refine ⟨fun c hc => ?_, ?_⟩
  · rcases joinT_codes hc with hc | ⟨w, hw, hc⟩
    · have : c = 10 := by simpa using (show c ∈ [10] from hc)
      omega
    · rcases List.mem_append.mp hw with hw | hw
      · rcases List.mem_append.mp hw with hw | hw
        · have := row_codes g hw c hc; omega
        · rw [List.mem_singleton.mp hw] at hc
          have e : ∀ c ∈ (Str.ofString "--").cps.toList, c < 128 := by decide +kernel
          exact e c hc
      · obtain ⟨d, hd, rfl⟩ := List.mem_map.mp hw
        have := lineD_codes (h d hd) c hc
        omega
  · refine Nat.le_trans (join_len _ _) ?_
    rw [List.map_append, List.map_append, List.sum_append, List.sum_append, List.length_append, List.length_append, List.length_map, show (Str.ofString "\n").length = 1 from rfl]
    show _ + 2 + _ + (rows.length + 1 + dl.length) * 1 ≤ 195
    omega
theorem odd36 : ∀ n : Nat, n < 8 → ∃ t : Str, ([D.str "", D.str "--", D.str "a", D.str "a\n--\n", D.str "--\na", D.str "a\n--\n--", D.str "a\n\n--", D.str "a\n--\nfall 0 0 "] : List D)[n]? = some (.str t) ∧ TxA 900 t := fun n hn => by
  have e : ∀ t : Str, (t.cps.toList.all (fun c => decide (c < 128)) && decide (t.length ≤ 900)) = true → TxA 900 t := fun t h => by
    rw [Bool.and_eq_true, List.all_eq_true, decide_eq_true_eq] at h
    exact ⟨fun c hc => of_decide_eq_true (h.1 c hc), h.2⟩
  match n, hn with
  | 0, _ => exact ⟨_, rfl, e _ (by decide +kernel)⟩
  | 1, _ => exact ⟨_, rfl, e _ (by decide +kernel)⟩
  | 2, _ => exact ⟨_, rfl, e _ (by decide +kernel)⟩
  | 3, _ => exact ⟨_, rfl, e _ (by decide +kernel)⟩
  | 4, _ => exact ⟨_, rfl, e _ (by decide +kernel)⟩
  | 5, _ => exact ⟨_, rfl, e _ (by decide +kernel)⟩
  | 6, _ => exact ⟨_, rfl, e _ (by decide +kernel)⟩
  | 7, _ => exact ⟨_, rfl, e _ (by decide +kernel)⟩
def t_law_k36_1 (a : Addr) (ns : List Int) : DTS := (dSet 6 (dTup (dCons (dC (.str "mend")) (dCons (dOp oIx (dVar 6) (dC (.int 1))) (dCons (dOp oIx (dVar 6) (dC (.int 2))) (dCons (dCall r_l_take [] (dCons (dVar 1) (dCons (dC (.int 100)) dNil))) (dCons (dOp oIx (dVar 2) (dCall r_l_take [] (dCons (dVar 1) (dCons (dC (.int 3)) dNil)))) dNil)))))))
def t_law_k36_2 (a : Addr) (ns : List Int) : DTS := (dCut (dIf (dTestB (dOp oEq (dCall r_l_take [] (dCons (dVar 1) (dCons (dC (.int 2)) dNil))) (dC (.int 0)))) (t_law_k36_1 a ns) dNext) (dDrop (dBM .lst appD (dVar 4) (dCons (dVar 6) dNil))))
def t_law_k36_3 (a : Addr) (ns : List Int) : DTS := (dSeq (dSet 6 (dTup (dCons (dC (.str "fall")) (dCons (dCall r_l_take [] (dCons (dVar 1) (dCons (dC (.int 8)) dNil))) (dCons (dCall r_l_take [] (dCons (dVar 1) (dCons (dC (.int 8)) dNil))) dNil))))) (t_law_k36_2 a ns))
def t_law_k36_4 (a : Addr) (ns : List Int) : DTS := (dSet 7 (dOp oIx (dLst (dCons (dC (.str "")) (dCons (dC (.str "--")) (dCons (dC (.str "a")) (dCons (dC (.str "a\n--\n")) (dCons (dC (.str "--\na")) (dCons (dC (.str "a\n--\n--")) (dCons (dC (.str "a\n\n--")) (dCons (dC (.str "a\n--\nfall 0 0 ")) dNil))))))))) (dCall r_l_take [] (dCons (dVar 1) (dCons (dC (.int 8)) dNil)))))
def t_law_k36_5 (a : Addr) (ns : List Int) : DTS := (dCut (dIf (dTestB (dOp oEq (dCall r_l_take [] (dCons (dVar 1) (dCons (dC (.int 8)) dNil))) (dC (.int 0)))) (t_law_k36_4 a ns) dNext) (dRet (dOp oEq (dCall r_l_line_of_k36 [] (dCons (dVar 7) dNil)) (dCall r_l_bad_line_k36 [] (dCons (dVar 7) dNil)))))
def t_law_k36_6 (a : Addr) (ns : List Int) : DTS := (dSeq (dFor (dRng1 (dCons (dCall r_l_take [] (dCons (dVar 1) (dCons (dC (.int 3)) dNil))) dNil)) (.nm 5) (dSet 7 (dCall r_l_changed_k36 [] (dCons (dVar 1) (dCons (dVar 7) dNil))))) (t_law_k36_5 a ns))
def t_law_k36_7 (a : Addr) (ns : List Int) : DTS := (dSeq (dFrzN 4 (dSet 7 (dCall r_l_tale_text [] (dCons (dVar 3) (dCons (dVar 4) dNil))))) (dSeq (dIf (dTestB (dOp oNe (dCall r_l_line_of_k36 [] (dCons (dVar 7) dNil)) (dC (.int 0)))) (dRet (dC (.bl false))) dNext) (t_law_k36_6 a ns)))
def t_law_k36_8 (a : Addr) (ns : List Int) : DTS := (dSeq (dSet 4 (dLstO dNil)) (dSeq (dFor (dRng1 (dCons (dCall r_l_take [] (dCons (dVar 1) (dCons (dC (.int 9)) dNil))) dNil)) (.nm 5) (t_law_k36_3 a ns)) (t_law_k36_7 a ns)))
def t_law_k36 (a : Addr) (ns : List Int) : DTS := (dSeq (dSet 1 (dCall (rScr a ns r_l_bag) [] (dCons (dVar 0) dNil))) (dSeq (dSet 2 (dCall r_l_palette [] (dCons (dVar 1) dNil))) (dSeq (dSet 3 (dCall r_l_big_grid [] (dCons (dVar 1) (dCons (dVar 2) dNil)))) (t_law_k36_8 a ns))))
abbrev N_law_k36 : List Str := ["_law_script", "_law_bag_here", "_law_palette_here", "_law_rows", "_law_deeds", "_law_k", "_law_deed", "_law_text"]
theorem rd_law_k36 (a : Addr) (ns : List Int) (hn : ns.length ≤ 63) : Rd (t_law_k36 a ns) N_law_k36 (rLaw a ns) := by
  intro ds S QD XD h
  unfold rLaw at h
  obtain ⟨rfl, q⟩ := h
  have hz := sizeLine_eq
  row_hasAll w_m
  refine i_bag fun p b hp => ?_
  row_hasAll w_m
  refine i_palette su_same fun pal b1 hpal => ?_
  row_hasAll w_m
  refine i_big (b := b1) su_same hpal fun rows b2 g => ?_
  row_hasAll w_m
  intro z hzn
  have hzp : z ≠ p := fun e => by rw [e, su_same] at hzn; cases hzn
  row_hasAll w_m
  have hb2 : su (su S p (bagO b2)) z (.lst []) p = some (bagO b2) := by rw [su_ne (Ne.symm hzp)]; exact su_same
  have hz2 : su (su S p (bagO b2)) z (.lst []) z = some (.lst (([] : List Deed).map deD)) := su_same
  generalize su (su S p (bagO b2)) z (.lst []) = S2 at *
  refine i_take hb2 (by decide) (by decide) fun v b3 v0 v1 => ?_
  have hb3 : su S2 p (bagO b3) p = some (bagO b3) := su_same
  have hz3 : su S2 p (bagO b3) z = some (.lst (([] : List Deed).map deD)) := by rw [su_ne hzp]; exact hz2
  generalize su S2 p (bagO b3) = S3 at *
  clear hb2 hz2
  row_hasAll w_m
  refine loop_i (v - 0).toNat [5, 6] (fun i ws S' => ∃ w5 w6, ∃ (dl : List Deed) (b' : Bag), ws = [w5, w6] ∧ dl.length = i ∧ (∀ d ∈ dl, d.txt) ∧ S' p = some (bagO b') ∧ S' z = some (.lst (dl.map deD))) (by row_hasAll w_env) ?_ ?_ ⟨_, _, [], b3, rfl, rfl, (fun _ h => nomatch h), hb3, hz3⟩
  · rintro i _ S4 hi ⟨w5, w6, dl, b4, rfl, hl, htx, hb4, hz4⟩
    refine ⟨_, rfl, fun N hN => ?_⟩
    row_hasAll w_m
    refine i_take hb4 (by decide) (by decide) fun x b5 x0 x1 => ?_
    row_hasAll w_m
    refine i_takeB (by decide) (by decide) fun y b6 y0 y1 => ?_
    have hb6 : su S4 p (bagO b6) p = some (bagO b6) := su_same
    have hz6 : su S4 p (bagO b6) z = some (.lst (dl.map deD)) := by rw [su_ne hzp]; exact hz4
    generalize su S4 p (bagO b6) = S5 at *
    row_hasAll w_m
    refine cut_e [6] (fun ws S' => ∃ (d : Deed) (b' : Bag), ws = [some (deD d)] ∧ d.txt ∧ S' p = some (bagO b') ∧ S' z = some (.lst (dl.map deD))) (by row_hasAll w_env) ?_ ?_
    · row_hasAll w_m
      refine i_take hb6 (by decide) (by decide) fun c b7 c0 c1 => ?_
      have hb7 : su S5 p (bagO b7) p = some (bagO b7) := su_same
      have hz7 : su S5 p (bagO b7) z = some (.lst (dl.map deD)) := by rw [su_ne hzp]; exact hz6
      generalize su S5 p (bagO b7) = S6 at *
      have hco : CoB (x, y) := ⟨⟨by show 0 ≤ x; omega, by show x ≤ 7; omega⟩, by show 0 ≤ y; omega, by show y ≤ 7; omega⟩
      row_hasAll w_m
      refine brP (fun hc => ?_) (fun hc => ?_)
      · row_hasAll w_m
        refine i_take hb7 (by decide) (by decide) fun n b8 n0 n1 => ?_
        have hb8 : su S6 p (bagO b8) p = some (bagO b8) := su_same
        have hz8 : su S6 p (bagO b8) z = some (.lst (dl.map deD)) := by rw [su_ne hzp]; exact hz7
        generalize su S6 p (bagO b8) = S7 at *
        row_hasAll w_m
        refine i_take hb8 (by decide) (by decide) fun s b9 s0 s1 => ?_
        have hb9 : su S7 p (bagO b9) p = some (bagO b9) := su_same
        have hz9 : su S7 p (bagO b9) z = some (.lst (dl.map deD)) := by rw [su_ne hzp]; exact hz8
        generalize su S7 p (bagO b9) = S8 at *
        row_hasAll w_m
        have hs3 : s.toNat < pal.cps.toList.length := by rw [Array.length_toList]; have := hpal.1; show s.toNat < pal.length; omega
        refine ik_at s0 (List.getElem?_eq_getElem hs3) ?_
        have hst : stoneB (one pal.cps.toList[s.toNat]) = true := by rw [stone_one]; exact hpal.2 _ (List.getElem_mem hs3)
        generalize pal.cps.toList[s.toNat] = c9 at *
        obtain ⟨n, rfl⟩ : ∃ m : Nat, n = (m : Int) := ⟨n.toNat, by omega⟩
        row_hasAll w_m
        exact ⟨.mend (x, y) n (one c9), b9, rfl, ⟨hco, by omega, hst⟩, hb9, hz9⟩
      · row_hasAll w_m
        exact ⟨.fall (x, y), b7, rfl, hco, hb7, hz7⟩
    rintro _ S6 ⟨d, b7, rfl, hd, hb7, hz7⟩
    row_hasAll w_m
    refine hN _ _ (by row_hasAll w_env) ⟨_, _, dl ++ [d], b7, rfl, by rw [List.length_append, hl]; rfl, fun e he => (List.mem_append.mp he).elim (htx e) fun h => by rw [List.mem_singleton.mp h]; exact hd, by rw [su_ne (Ne.symm hzp)]; exact hb7, by rw [su_same, List.map_append]; rfl⟩
  · rintro _ S4 ⟨w5, w6, dl, b4, rfl, hl, htx, hb4, hz4⟩
    have hl8 : dl.length ≤ 8 := by omega
    row_hasAll w_m
    refine ⟨z, dl.map deD, rfl, hz4, ?_⟩
    have hb5 : sd S4 z p = some (bagO b4) := by rw [sd_ne (Ne.symm hzp)]; exact hb4
    generalize sd S4 z = S5 at *
    row_hasAll w_m
    refine i_taleText g (by omega) htx ?_
    row_hasAll w_m
    have tx := taleT_tx g htx hl8
    refine i_lineOf36 (tx.hs (by decide)) ?_
    rw [hsI_tale g htx]
    row_hasAll w_m
    generalize taleT rows dl = t0 at *
    refine i_take hb5 (by decide) (by decide) fun m b6 m0 m1 => ?_
    have hb6 : su S5 p (bagO b6) p = some (bagO b6) := su_same
    generalize su S5 p (bagO b6) = S6 at *
    row_hasAll w_m
    refine loop_i (m - 0).toNat [5, 7] (fun i ws S' => ∃ w5, ∃ (t : Str) (b' : Bag), ws = [w5, some (.str t)] ∧ TxA (197 * 2 ^ i - 2) t ∧ S' p = some (bagO b')) (by row_hasAll w_env) ?_ ?_ ⟨_, t0, b6, rfl, tx, hb6⟩
    · rintro i _ S7 hi ⟨w5, t, b7, rfl, htx, hb7⟩
      refine ⟨_, rfl, fun N hN => ?_⟩
      have hi3 : i = 0 ∨ i = 1 := by omega
      row_hasAll w_m
      refine i_changed36 hb7 htx (by rcases hi3 with rfl | rfl <;> decide) fun t' b8 ht' => ?_
      row_hasAll w_m
      refine hN _ _ (by row_hasAll w_env) ⟨_, t', b8, rfl, ?_, su_same⟩
      refine ⟨ht'.as, Nat.le_trans ht'.le ?_⟩
      rcases hi3 with rfl | rfl <;> decide
    · rintro _ S7 ⟨w5, t, b7, rfl, htx, hb7⟩
      have ht9 : TxA 900 t := ⟨htx.as, by
        have h1 := htx.le
        have h2 : (m - 0).toNat = 0 ∨ (m - 0).toNat = 1 ∨ (m - 0).toNat = 2 := by omega
        rcases h2 with e | e | e <;> rw [e] at h1 <;> exact Nat.le_trans h1 (by decide)⟩
      row_hasAll w_m
      refine cut_e [7] (fun ws S' => ∃ t, ws = [some (.str t)] ∧ TxA 900 t) (by row_hasAll w_env) ?_ ?_
      · row_hasAll w_m
        refine i_take hb7 (by decide) (by decide) fun o b8 o0 o1 => ?_
        row_hasAll w_m
        refine brP (fun ho => ?_) (fun ho => ?_)
        · row_hasAll w_m
          refine i_takeB (by decide) (by decide) fun u b9 u0 u1 => ?_
          obtain ⟨t', e1, e2⟩ := odd36 u.toNat (by omega)
          row_hasAll w_m
          refine ik_at u0 e1 ?_
          row_hasAll w_m
          exact ⟨t', rfl, e2⟩
        · row_hasAll w_m
          exact ⟨t, rfl, ht9⟩
      rintro _ S8 ⟨t', rfl, ht'⟩
      have hst := ht'.hs (Nat.le_refl _)
      row_hasAll w_m
      refine i_lineOf36 hst ?_
      row_hasAll w_m
      refine i_badLine36 hst ?_
      row_hasAll w_m
      exact q _
end SM
namespace LAW
open PySem PySem.Spec PyProof.Rows L2 SM
variable {P : Program} {w : World} {K : PySem.W.Frag} {mg : Str → Option Value} {base : Heap} {f : Addr} {fd : FuncData}
theorem sc_l_bag : FnScope N_l_bag ["_law_script"] (defScope s_l_bag) := ⟨rfl, rfl, rfl, by decide +kernel, rfl, by decide +kernel, by decide +kernel⟩
theorem ok_l_bag (F : FunD K "_law_bag" "_law_bag" (defArgs s_l_bag) (defBody s_l_bag) (defScope s_l_bag) [] [] f fd) (n_int : mg "int" = none) : FnOk P w K mg base (L2N.CX P w) 1 f fd ["_law_script"] (spScr K 63 r_l_bag) :=
  fnScr F sc_l_bag r_l_bag (fun a ns ds S Q E h => len_l_bag a ns ds S Q E h) (by decide) fun cdv A outer s H E a ns hr hz hn => ⟨t_l_bag a ns, (dss_one (ds_ret (de_lstO (da_cons (de_lc (own := [("_law_cell", 1)]) rfl sc_l_bag.nd (di_items (de_sliceScr (a := a) (ns := ns) hz (Nat.le_trans hn (by decide)) (dv 0) do_none (do_some de_int))) (blk_of (by kernel_rfl)) (fun s H C cl fp => (dp_nm (i := 1) sc_l_bag.nd)) (fun s H C cl fp => dts_nil) (fun s H C cl fp => (de_callTy c_int (by rfl) n_int (by decide +kernel) (da_cons (dv 1) da_nil)))) (da_cons de_int (da_cons de_int (da_cons de_int da_nil))))))), rd_l_bag a ns hn⟩
theorem sc_l_take : FnScope N_l_take ["_law_bag_here", "_law_size"] (defScope s_l_take) := ⟨rfl, rfl, rfl, by decide +kernel, rfl, by decide +kernel, by decide +kernel⟩
theorem ok_l_take (F : FunD K "_law_take" "_law_take" (defArgs s_l_take) (defBody s_l_take) (defScope s_l_take) [] [] f fd) (n_len : mg "len" = none) (n_int : mg "int" = none) : FnOk P w K mg base (L2N.CX P w) 1 f fd ["_law_bag_here", "_law_size"] (toSp K r_l_take) :=
  fnT F sc_l_take len_l_take rd_l_take fun cdv A outer s H E hr => (dss_cut (ds_if (PDW.pt (dw_and (dt_cmp (o_eq (k := 0) hr) (de_ix (k := 0) hr (dv 0) de_int) de_int) (dw_and1 (dt_cmp o_lt (de_ix (k := 0) hr (dv 0) de_int) (de_callB c_len (by rfl) n_len PySem.boot_len (da_cons (de_ix (k := 0) hr (dv 0) de_int) da_nil)))))) (dss_cons (ds_set (i := 2) sc_l_take.nd (de_ix (k := 0) hr (de_ix (k := 0) hr (dv 0) de_int) (de_ix (k := 0) hr (dv 0) de_int))) (dss_cons (ds_setL (de_op o_add (de_ix (k := 0) hr (dv 0) de_int) de_int) (dv 0) de_int) (dss_one (ds_if (dt_cmp o_ge (dv 2) (de_op o_pow de_int de_int)) (dss_one (ds_setL (dv 2) (dv 0) de_int)) (dss_one (ds_setL (de_op o_mod (de_callTy c_int (by rfl) n_int (by decide +kernel) (da_cons (de_op o_add (de_op o_add (de_op o_mul (de_ix (k := 0) hr (dv 0) de_int) de_int) (de_op o_mul (dv 2) de_int)) de_int) da_nil)) de_int) (dv 0) de_int)))))) dss_nil) (dss_cons (ds_if (dt_cmp o_gt (de_ix (k := 0) hr (dv 0) de_int) de_int) (dss_cons (ds_set (i := 3) sc_l_take.nd (de_op o_mod (de_callTy c_int (by rfl) n_int (by decide +kernel) (da_cons (de_ix (k := 0) hr (dv 0) de_int) da_nil)) (dv 1))) (dss_cons (ds_setL (de_op o_fdiv (de_ix (k := 0) hr (dv 0) de_int) (dv 1)) (dv 0) de_int) (dss_one (ds_ret (dv 3))))) dss_nil) (dss_cons (ds_setL (de_op o_mod (de_callTy c_int (by rfl) n_int (by decide +kernel) (da_cons (de_op o_add (de_op o_mul (de_ix (k := 0) hr (dv 0) de_int) de_int) de_int) da_nil)) de_int) (dv 0) de_int) (dss_one (ds_ret (de_op o_mod (de_callTy c_int (by rfl) n_int (by decide +kernel) (da_cons (de_op o_fdiv (de_ix (k := 0) hr (dv 0) de_int) de_int) da_nil)) (dv 1)))))))
theorem sc_l_palette : FnScope N_l_palette ["_law_bag_here"] (defScope s_l_palette) := ⟨rfl, rfl, rfl, by decide +kernel, rfl, by decide +kernel, by decide +kernel⟩
theorem ok_l_palette (F : FunD K "_law_palette" "_law_palette" (defArgs s_l_palette) (defBody s_l_palette) (defScope s_l_palette) [] [] f fd) (n_int : mg "int" = none) (g__law_take : Gf P w K mg base 1 "_law_take" ["_law_bag_here", "_law_size"] r_l_take) : FnOk P w K mg base (L2N.CX P w) 2 f fd ["_law_bag_here"] (toSp K r_l_palette) :=
  fnT F sc_l_palette len_l_palette rd_l_palette fun cdv A outer s H E hr => (dss_cons (ds_set (i := 1) sc_l_palette.nd de_str) (dss_cons (ds_set (i := 2) sc_l_palette.nd (de_g g__law_take hr (by rfl) (da_cons (dv 0) (da_cons de_int da_nil)))) (dss_cons (ds_set (i := 3) sc_l_palette.nd (de_op o_mod (de_callTy c_int (by rfl) n_int (by decide +kernel) (da_cons (de_op o_add (de_op o_add (dv 2) de_int) (de_g g__law_take hr (by rfl) (da_cons (dv 0) (da_cons de_int da_nil)))) da_nil)) de_int)) (dss_cons (ds_set (i := 4) sc_l_palette.nd (de_op o_mod (de_callTy c_int (by rfl) n_int (by decide +kernel) (da_cons (de_op o_add (de_op o_add (dv 3) de_int) (de_g g__law_take hr (by rfl) (da_cons (dv 0) (da_cons de_int da_nil)))) da_nil)) de_int)) (dss_one (ds_ret (de_op o_add (de_op o_add (de_ix (k := 1) hr (dv 1) (dv 2)) (de_ix (k := 1) hr (dv 1) (dv 3))) (de_ix (k := 1) hr (dv 1) (dv 4)))))))))
theorem sc_l_row : FnScope N_l_row ["_law_bag_here", "_law_palette_here", "_law_wide"] (defScope s_l_row) := ⟨rfl, rfl, rfl, by decide +kernel, rfl, by decide +kernel, by decide +kernel⟩
theorem ok_l_row (F : FunD K "_law_row" "_law_row" (defArgs s_l_row) (defBody s_l_row) (defScope s_l_row) [] [] f fd) (n_range : mg "range" = none) (g__law_take : Gf P w K mg base 1 "_law_take" ["_law_bag_here", "_law_size"] r_l_take) : FnOk P w K mg base (L2N.CX P w) 2 f fd ["_law_bag_here", "_law_palette_here", "_law_wide"] (toSp K r_l_row) :=
  fnT F sc_l_row len_l_row rd_l_row fun cdv A outer s H E hr => (dss_cons (ds_set (i := 3) sc_l_row.nd de_str) (dss_cons (ds_for rfl (di_rng1 (by rfl) n_range (da_cons (dv 2) da_nil)) (dp_nm (i := 4) sc_l_row.nd) (dss_one (ds_set (i := 3) sc_l_row.nd (de_op o_add (dv 3) (de_ix (k := 1) hr (de_op o_add (de_op o_add de_str (dv 1)) (dv 1)) (de_g g__law_take hr (by rfl) (da_cons (dv 0) (da_cons de_int da_nil)))))))) (dss_one (ds_ret (dv 3)))))
theorem sc_l_big_grid : FnScope N_l_big_grid ["_law_bag_here", "_law_palette_here"] (defScope s_l_big_grid) := ⟨rfl, rfl, rfl, by decide +kernel, rfl, by decide +kernel, by decide +kernel⟩
theorem ok_l_big_grid (F : FunD K "_law_big_grid" "_law_big_grid" (defArgs s_l_big_grid) (defBody s_l_big_grid) (defScope s_l_big_grid) [] [] f fd) (n_range : mg "range" = none) (g__law_take : Gf P w K mg base 1 "_law_take" ["_law_bag_here", "_law_size"] r_l_take) (g__law_row : Gf P w K mg base 2 "_law_row" ["_law_bag_here", "_law_palette_here", "_law_wide"] r_l_row) : FnOk P w K mg base (L2N.CX P w) 3 f fd ["_law_bag_here", "_law_palette_here"] (toSp K r_l_big_grid) :=
  fnT F sc_l_big_grid len_l_big_grid rd_l_big_grid fun cdv A outer s H E hr => (dss_cons (ds_set (i := 2) sc_l_big_grid.nd (de_op o_add de_int (de_g g__law_take hr (by rfl) (da_cons (dv 0) (da_cons de_int da_nil))))) (dss_one (ds_ret (de_lc (own := [("_law_k", 3)]) rfl sc_l_big_grid.nd (di_rng1 (by rfl) n_range (da_cons (de_op o_add de_int (de_g g__law_take hr (by rfl) (da_cons (dv 0) (da_cons de_int da_nil)))) da_nil)) (blk_of (by kernel_rfl)) (fun s H C cl fp => (dp_nm (i := 3) sc_l_big_grid.nd)) (fun s H C cl fp => dts_nil) (fun s H C cl fp => (de_g g__law_row hr (by rfl) (da_cons (dv 0) (da_cons (dv 1) (da_cons (dv 2) da_nil)))))))))
theorem sc_l_deed_line : FnScope N_l_deed_line ["_law_deed"] (defScope s_l_deed_line) := ⟨rfl, rfl, rfl, by decide +kernel, rfl, by decide +kernel, by decide +kernel⟩
theorem ok_l_deed_line (F : FunD K "_law_deed_line" "_law_deed_line" (defArgs s_l_deed_line) (defBody s_l_deed_line) (defScope s_l_deed_line) [] [] f fd) (n_str : mg "str" = none) : FnOk P w K mg base (L2N.CX P w) 1 f fd ["_law_deed"] (toSp K r_l_deed_line) :=
  fnT F sc_l_deed_line len_l_deed_line rd_l_deed_line fun cdv A outer s H E hr => (dss_cons (ds_set (i := 1) sc_l_deed_line.nd (de_lst (da_cons (de_ix (k := 0) hr (dv 0) de_int) (da_cons (de_callTy c_str (by rfl) n_str (by decide +kernel) (da_cons (de_ix (k := 0) hr (dv 0) de_int) da_nil)) (da_cons (de_callTy c_str (by rfl) n_str (by decide +kernel) (da_cons (de_ix (k := 0) hr (dv 0) de_int) da_nil)) da_nil))))) (dss_cons (ds_if (dt_cmp (o_eq (k := 0) hr) (de_ix (k := 0) hr (dv 0) de_int) de_str) (dss_one (ds_set (i := 1) sc_l_deed_line.nd (de_op o_add (dv 1) (de_lst (da_cons (de_callTy c_str (by rfl) n_str (by decide +kernel) (da_cons (de_ix (k := 0) hr (dv 0) de_int) da_nil)) (da_cons (de_ix (k := 0) hr (dv 0) de_int) da_nil)))))) dss_nil) (dss_one (ds_ret (de_bm (by simp) PySem.F.plainAttrs_str PySem.F.slot_str_join PySem.F.type_str_join m_join de_str (da_cons (dv 1) da_nil))))))
theorem sc_l_tale_text : FnScope N_l_tale_text ["_law_rows", "_law_deeds"] (defScope s_l_tale_text) := ⟨rfl, rfl, rfl, by decide +kernel, rfl, by decide +kernel, by decide +kernel⟩
theorem ok_l_tale_text (F : FunD K "_law_tale_text" "_law_tale_text" (defArgs s_l_tale_text) (defBody s_l_tale_text) (defScope s_l_tale_text) [] [] f fd) (g__law_deed_line : Gf P w K mg base 1 "_law_deed_line" ["_law_deed"] r_l_deed_line) : FnOk P w K mg base (L2N.CX P w) 2 f fd ["_law_rows", "_law_deeds"] (toSp K r_l_tale_text) :=
  fnT F sc_l_tale_text len_l_tale_text rd_l_tale_text fun cdv A outer s H E hr => (dss_one (ds_ret (de_bm (by simp) PySem.F.plainAttrs_str PySem.F.slot_str_join PySem.F.type_str_join m_join de_str (da_cons (de_op o_add (de_op o_add (dv 0) (de_lst (da_cons de_str da_nil))) (de_lc (own := [("_law_deed", 2)]) rfl sc_l_tale_text.nd (di_items (dv 1)) (blk_of (by kernel_rfl)) (fun s H C cl fp => (dp_nm (i := 2) sc_l_tale_text.nd)) (fun s H C cl fp => dts_nil) (fun s H C cl fp => (de_g g__law_deed_line hr (by rfl) (da_cons (dv 2) da_nil))))) da_nil))))
theorem sc_p_is_stone : FnScope N_p_is_stone ["sign"] (defScope s_p_is_stone) := ⟨rfl, rfl, rfl, by decide +kernel, rfl, by decide +kernel, by decide +kernel⟩
theorem ok_p_is_stone (F : FunD K "is_stone" "is_stone" (defArgs s_p_is_stone) (defBody s_p_is_stone) (defScope s_p_is_stone) [] [] f fd) (n_len : mg "len" = none) (c_LETTERS : ∃ u, mg "LETTERS" = some u ∧ RelV (.str "abcdefghijklmnopqrstuvwxyz") u) : FnOk P w K mg base (L2N.CX P w) 1 f fd ["sign"] (toSp K r_p_is_stone) :=
  fnT F sc_p_is_stone len_p_is_stone rd_p_is_stone fun cdv A outer s H E hr => (dss_one (ds_ret (de_and (de_cmp (o_eq (k := 0) hr) (de_callB c_len (by rfl) n_len PySem.boot_len (da_cons (dv 0) da_nil)) de_int) (de_one (de_cmp (o_in (k := 0) hr) (dv 0) (de_gl (by rfl) c_LETTERS (fun _ => .str (by decide +kernel))))))))
theorem sc_p_is_sign : FnScope N_p_is_sign ["sign"] (defScope s_p_is_sign) := ⟨rfl, rfl, rfl, by decide +kernel, rfl, by decide +kernel, by decide +kernel⟩
theorem ok_p_is_sign (F : FunD K "is_sign" "is_sign" (defArgs s_p_is_sign) (defBody s_p_is_sign) (defScope s_p_is_sign) [] [] f fd) (g_is_stone : Gf P w K mg base 1 "is_stone" ["sign"] r_p_is_stone) : FnOk P w K mg base (L2N.CX P w) 2 f fd ["sign"] (toSp K r_p_is_sign) :=
  fnT F sc_p_is_sign len_p_is_sign rd_p_is_sign fun cdv A outer s H E hr => (dss_one (ds_ret (de_or (de_cmp (o_eq (k := 1) hr) (dv 0) de_str) (de_one (de_g g_is_stone hr (by rfl) (da_cons (dv 0) da_nil))))))
theorem sc_p_is_row : FnScope N_p_is_row ["row", "width"] (defScope s_p_is_row) := ⟨rfl, rfl, rfl, by decide +kernel, rfl, by decide +kernel, by decide +kernel⟩
theorem ok_p_is_row (F : FunD K "is_row" "is_row" (defArgs s_p_is_row) (defBody s_p_is_row) (defScope s_p_is_row) [] [] f fd) (n_len : mg "len" = none) (c_MOST : ∃ u, mg "MOST" = some u ∧ RelV (.int (8)) u) (g_is_sign : Gf P w K mg base 2 "is_sign" ["sign"] r_p_is_sign) : FnOk P w K mg base (L2N.CX P w) 3 f fd ["row", "width"] (toSp K r_p_is_row) :=
  fnT F sc_p_is_row len_p_is_row rd_p_is_row fun cdv A outer s H E hr => (dss_cons (ds_if (PDW.pt (dw_or (dt_cmp (o_ne (k := 2) hr) (de_callB c_len (by rfl) n_len PySem.boot_len (da_cons (dv 0) da_nil)) (dv 1)) (dw_or (dt_cmp o_lt (dv 1) de_int) (dw_or1 (dt_cmp o_gt (dv 1) (de_gl (by rfl) c_MOST (fun _ => .int _))))))) (dss_one (ds_ret de_bl)) dss_nil) (dss_cons (ds_for rfl (di_items (dv 0)) (dp_nm (i := 2) sc_p_is_row.nd) (dss_one (ds_if (dt_not (dt_val (de_g g_is_sign hr (by rfl) (da_cons (dv 2) da_nil)))) (dss_one (ds_ret de_bl)) dss_nil))) (dss_one (ds_ret de_bl))))
theorem sc_Picture_init : FnScope N_Picture_init ["self", "rows"] (defScope s_Picture_init) := ⟨rfl, rfl, rfl, by decide +kernel, rfl, by decide +kernel, by decide +kernel⟩
theorem ok_Picture_init (F : FunD K "__init__" "Picture.__init__" (defArgs s_Picture_init) (defBody s_Picture_init) (defScope s_Picture_init) [] [] f fd) (n_len : mg "len" = none) (x_InvalidPicture : Gx P w K mg base 21 "InvalidPicture") (n_enumerate : mg "enumerate" = none) (c_MOST : ∃ u, mg "MOST" = some u ∧ RelV (.int (8)) u) (n_list : mg "list" = none) (f_grid_1 : FOk K "grid" [(1, 0)]) (f_width_1 : FOk K "width" [(1, 1)]) (f_height_1 : FOk K "height" [(1, 2)]) (g_is_row : Gf P w K mg base 3 "is_row" ["row", "width"] r_p_is_row) : FnOk P w K mg base (L2N.CX P w) 4 f fd ["self", "rows"] (toSp K r_Picture_init) :=
  fnT F sc_Picture_init len_Picture_init rd_Picture_init fun cdv A outer s H E hr => (dss_cons (ds_if (dt_cmp (o_eq (k := 3) hr) (de_callB c_len (by rfl) n_len PySem.boot_len (da_cons (dv 1) da_nil)) de_int) (dss_one (ds_raise x_InvalidPicture hr rfl (by rfl) (da_cons de_int da_nil))) dss_nil) (dss_cons (ds_for rfl (di_enum (by rfl) n_enumerate (da_cons (dv 1) da_nil)) (dp_tp rfl (dps_cons (dp_nm (i := 2) sc_Picture_init.nd) (dps_cons (dp_nm (i := 3) sc_Picture_init.nd) dps_nil))) (dss_one (ds_if (PDW.pt (dw_or (dt_cmp o_ge (dv 2) (de_gl (by rfl) c_MOST (fun _ => .int _))) (dw_or1 (dt_not (dt_val (de_g g_is_row hr (by rfl) (da_cons (dv 3) (da_cons (de_callB c_len (by rfl) n_len PySem.boot_len (da_cons (de_ix (k := 3) hr (dv 1) de_int) da_nil)) da_nil)))))))) (dss_one (ds_raise x_InvalidPicture hr rfl (by rfl) (da_cons (de_op o_add (dv 2) de_int) da_nil))) dss_nil))) (dss_cons (ds_setF (dv 0) (de_callTy c_list (by rfl) n_list (by decide +kernel) (da_cons (dv 1) da_nil)) f_grid_1) (dss_cons (ds_setF (dv 0) (de_callB c_len (by rfl) n_len PySem.boot_len (da_cons (de_ix (k := 3) hr (dv 1) de_int) da_nil)) f_width_1) (dss_one (ds_setF (dv 0) (de_callB c_len (by rfl) n_len PySem.boot_len (da_cons (dv 1) da_nil)) f_height_1))))))
theorem sc_p_is_coordinate : FnScope N_p_is_coordinate ["word"] (defScope s_p_is_coordinate) := ⟨rfl, rfl, rfl, by decide +kernel, rfl, by decide +kernel, by decide +kernel⟩
theorem ok_p_is_coordinate (F : FunD K "is_coordinate" "is_coordinate" (defArgs s_p_is_coordinate) (defBody s_p_is_coordinate) (defScope s_p_is_coordinate) [] [] f fd) (n_len : mg "len" = none) (c_COORDINATES : ∃ u, mg "COORDINATES" = some u ∧ RelV (.str "01234567") u) : FnOk P w K mg base (L2N.CX P w) 1 f fd ["word"] (toSp K r_p_is_coordinate) :=
  fnT F sc_p_is_coordinate len_p_is_coordinate rd_p_is_coordinate fun cdv A outer s H E hr => (dss_one (ds_ret (de_and (de_cmp (o_eq (k := 0) hr) (de_callB c_len (by rfl) n_len PySem.boot_len (da_cons (dv 0) da_nil)) de_int) (de_one (de_cmp (o_in (k := 0) hr) (dv 0) (de_gl (by rfl) c_COORDINATES (fun _ => .str (by decide +kernel))))))))
theorem sc_p_is_rule_number : FnScope N_p_is_rule_number ["word"] (defScope s_p_is_rule_number) := ⟨rfl, rfl, rfl, by decide +kernel, rfl, by decide +kernel, by decide +kernel⟩
theorem ok_p_is_rule_number (F : FunD K "is_rule_number" "is_rule_number" (defArgs s_p_is_rule_number) (defBody s_p_is_rule_number) (defScope s_p_is_rule_number) [] [] f fd) (c_DIGITS : ∃ u, mg "DIGITS" = some u ∧ RelV (.str "0123456789") u) (n_len : mg "len" = none) : FnOk P w K mg base (L2N.CX P w) 1 f fd ["word"] (toSp K r_p_is_rule_number) :=
  fnT F sc_p_is_rule_number len_p_is_rule_number rd_p_is_rule_number fun cdv A outer s H E hr => (dss_cons (ds_for rfl (di_items (dv 0)) (dp_nm (i := 1) sc_p_is_rule_number.nd) (dss_one (ds_if (dt_cmp (o_notin (k := 0) hr) (dv 1) (de_gl (by rfl) c_DIGITS (fun _ => .str (by decide +kernel)))) (dss_one (ds_ret de_bl)) dss_nil))) (dss_one (ds_ret (de_or (de_cmp (o_eq (k := 0) hr) (de_callB c_len (by rfl) n_len PySem.boot_len (da_cons (dv 0) da_nil)) de_int) (de_one (de_and (de_cmp (o_eq (k := 0) hr) (de_callB c_len (by rfl) n_len PySem.boot_len (da_cons (dv 0) da_nil)) de_int) (de_one (de_cmp (o_ne (k := 0) hr) (de_ix (k := 0) hr (dv 0) de_int) de_str))))))))
theorem sc_p_read_deed : FnScope N_p_read_deed ["line"] (defScope s_p_read_deed) := ⟨rfl, rfl, rfl, by decide +kernel, rfl, by decide +kernel, by decide +kernel⟩
theorem ok_p_read_deed (F : FunD K "read_deed" "read_deed" (defArgs s_p_read_deed) (defBody s_p_read_deed) (defScope s_p_read_deed) [] [] f fd) (n_len : mg "len" = none) (n_int : mg "int" = none) (g_is_coordinate : Gf P w K mg base 1 "is_coordinate" ["word"] r_p_is_coordinate) (g_is_rule_number : Gf P w K mg base 1 "is_rule_number" ["word"] r_p_is_rule_number) (g_is_stone : Gf P w K mg base 1 "is_stone" ["sign"] r_p_is_stone) : FnOk P w K mg base (L2N.CX P w) 2 f fd ["line"] (toSp K r_p_read_deed) :=
  fnT F sc_p_read_deed len_p_read_deed rd_p_read_deed fun cdv A outer s H E hr => (dss_cons (ds_set (i := 1) sc_p_read_deed.nd (de_bm (by simp) PySem.F.plainAttrs_str PySem.F.slot_str_split PySem.F.type_str_split m_split (dv 0) (da_cons de_str da_nil))) (dss_cons (ds_if (PDW.pt (dw_or (dt_cmp o_lt (de_callB c_len (by rfl) n_len PySem.boot_len (da_cons (dv 1) da_nil)) de_int) (dw_or (dt_not (dt_val (de_g g_is_coordinate hr (by rfl) (da_cons (de_ix (k := 1) hr (dv 1) de_int) da_nil)))) (dw_or1 (dt_not (dt_val (de_g g_is_coordinate hr (by rfl) (da_cons (de_ix (k := 1) hr (dv 1) de_int) da_nil)))))))) (dss_one (ds_ret de_non)) dss_nil) (dss_cons (ds_if (PDW.pt (dw_and (dt_cmp (o_eq (k := 1) hr) (de_ix (k := 1) hr (dv 1) de_int) de_str) (dw_and1 (dt_cmp (o_eq (k := 1) hr) (de_callB c_len (by rfl) n_len PySem.boot_len (da_cons (dv 1) da_nil)) de_int)))) (dss_one (ds_ret (de_tup (da_cons de_str (da_cons (de_callTy c_int (by rfl) n_int (by decide +kernel) (da_cons (de_ix (k := 1) hr (dv 1) de_int) da_nil)) (da_cons (de_callTy c_int (by rfl) n_int (by decide +kernel) (da_cons (de_ix (k := 1) hr (dv 1) de_int) da_nil)) da_nil)))))) dss_nil) (dss_cons (ds_if (PDW.pt (dw_or (dt_cmp (o_ne (k := 1) hr) (de_ix (k := 1) hr (dv 1) de_int) de_str) (dw_or (dt_cmp (o_ne (k := 1) hr) (de_callB c_len (by rfl) n_len PySem.boot_len (da_cons (dv 1) da_nil)) de_int) (dw_or (dt_not (dt_val (de_g g_is_rule_number hr (by rfl) (da_cons (de_ix (k := 1) hr (dv 1) de_int) da_nil)))) (dw_or1 (dt_not (dt_val (de_g g_is_stone hr (by rfl) (da_cons (de_ix (k := 1) hr (dv 1) de_int) da_nil))))))))) (dss_one (ds_ret de_non)) dss_nil) (dss_one (ds_ret (de_tup (da_cons de_str (da_cons (de_callTy c_int (by rfl) n_int (by decide +kernel) (da_cons (de_ix (k := 1) hr (dv 1) de_int) da_nil)) (da_cons (de_callTy c_int (by rfl) n_int (by decide +kernel) (da_cons (de_ix (k := 1) hr (dv 1) de_int) da_nil)) (da_cons (de_callTy c_int (by rfl) n_int (by decide +kernel) (da_cons (de_ix (k := 1) hr (dv 1) de_int) da_nil)) (da_cons (de_ix (k := 1) hr (dv 1) de_int) da_nil))))))))))))
theorem sc_History_init : FnScope N_History_init ["self", "first", "deeds"] (defScope s_History_init) := ⟨rfl, rfl, rfl, by decide +kernel, rfl, by decide +kernel, by decide +kernel⟩
theorem ok_History_init (F : FunD K "__init__" "History.__init__" (defArgs s_History_init) (defBody s_History_init) (defScope s_History_init) [] [] f fd) (f_first_9 : FOk K "first" [(9, 0)]) (n_list : mg "list" = none) (f_deeds_9 : FOk K "deeds" [(9, 1)]) : FnOk P w K mg base (L2N.CX P w) 1 f fd ["self", "first", "deeds"] (toSp K r_History_init) :=
  fnTW F sc_History_init len_History_init rd_History_init fun cdv A outer s H E hr => (dss_cons (ds_setF (dv 0) (dv 1) f_first_9) (dss_one (ds_setF (dv 0) (de_callTy c_list (by rfl) n_list (by decide +kernel) (da_cons (dv 2) da_nil)) f_deeds_9)))
theorem sc_History_read_sx : FnScope N_History_read_sx ["cls", "text"] (defScope s_History_read_sx) := ⟨rfl, rfl, rfl, by decide +kernel, rfl, by decide +kernel, by decide +kernel⟩
theorem ok_History_read_sx (F : FunD K "read" "History.read" (defArgs s_History_read_sx) (defBody s_History_read_sx) (defScope s_History_read_sx) [] [] f fd) (x_InvalidHistory : Gx P w K mg base 25 "InvalidHistory") (n_len : mg "len" = none) (xh_InvalidHistory : GxH P w K mg base 25 "InvalidHistory") (fx_line_21 : FxOk K "line" [(21, 0)]) (g_InvalidPicture : mg "InvalidPicture" = some (.ref (cad K 21))) (em_InvalidPicture_21 : EmOk K (.ref (cad K 21)) [(21, true)]) (rx_21 : RxOk K [(21, true)]) (i_Picture : Gi P w K mg base 4 1 "Picture" ["self", "rows"] r_Picture_init) (g_read_deed : Gf P w K mg base 2 "read_deed" ["line"] r_p_read_deed) (i_History : Gi P w K mg base 1 9 "History" ["self", "first", "deeds"] r_History_init) : FnOk P w K mg base (L2.CX P w) 6 f fd ["cls", "text"] (toSp K r_History_read_sx) :=
  fnTWX F sc_History_read_sx len_History_read_sx rd_History_read_sx fun cdv A outer s H E hr => (xss_cons (xs_lf (ds_set (i := 2) sc_History_read_sx.nd (de_bm (by simp) PySem.F.plainAttrs_str PySem.F.slot_str_split PySem.F.type_str_split m_split (dv 1) (da_cons de_str da_nil)))) (xss_cons (xs_lf (ds_if (dt_cmp (o_notin (k := 5) hr) de_str (dv 2)) (dss_one (ds_raise x_InvalidHistory hr rfl (by rfl) (da_cons (de_op o_add (de_callB c_len (by rfl) n_len PySem.boot_len (da_cons (dv 2) da_nil)) de_int) da_nil))) dss_nil)) (xss_cons (xs_lf (ds_set (i := 3) sc_History_read_sx.nd (de_bm (by simp) PySem.F.plainAttrs_list PySem.F.slot_list_index PySem.F.type_list_index m_index (dv 2) (da_cons de_str da_nil)))) (xss_cons (xs_tryR (i := 5) rfl rfl sc_History_read_sx.nd rfl (by rfl) ⟨by rfl, by decide, .inl g_InvalidPicture⟩ em_InvalidPicture_21 rx_21 (fun _ => PySem.PassesOwnAt.leaving) (fun pn_ xe_ => (dss_one (ds_set (i := 4) sc_History_read_sx.nd (de_mk mkF_ok i_Picture hr (by rfl) (da_cons (de_slice (dv 2) do_none (do_some (dv 3))) da_nil))))) (fun a_ oe_ c_ d_ pn2_ xe2_ hz_ hs_ => (xss_one (xs_raiseF (i := 5) (j := 5) xh_InvalidHistory ⟨hr.dp, hr.un⟩ hz_ hs_ (by rfl) (da_cons (de_xfR fx_line_21 hz_ (dv 5)) da_nil))))) (xss_cons (xs_lf (ds_set (i := 6) sc_History_read_sx.nd (de_lstO da_nil))) (xss_cons (xs_lf (ds_for rfl (di_items (de_slice (dv 2) (do_some (de_op o_add (dv 3) de_int)) do_none)) (dp_nm (i := 7) sc_History_read_sx.nd) (dss_cons (ds_set (i := 8) sc_History_read_sx.nd (de_g g_read_deed hr (by rfl) (da_cons (dv 7) da_nil))) (dss_cons (ds_if (dt_cmp o_is (dv 8) de_non) (dss_one (ds_raise x_InvalidHistory hr rfl (by rfl) (da_cons (de_op o_add (de_op o_add (dv 3) de_int) (de_callB c_len (by rfl) n_len PySem.boot_len (da_cons (dv 6) da_nil))) da_nil))) dss_nil) (dss_one (ds_expr (de_bm (by simp) PySem.F.plainAttrs_list PySem.F.slot_list_append PySem.F.type_list_append m_append (dv 6) (da_cons (dv 8) da_nil)))))))) (xss_one (xs_lf (ds_ret (de_mkL (i := 0) mkF_ok i_History hr (da_cons (dv 4) (da_cons (dv 6) da_nil))))))))))))
theorem sc_l_is_int : FnScope N_l_is_int ["_law_value"] (defScope s_l_is_int) := ⟨rfl, rfl, rfl, by decide +kernel, rfl, by decide +kernel, by decide +kernel⟩
theorem ok_l_is_int (F : FunD K "_law_is_int" "_law_is_int" (defArgs s_l_is_int) (defBody s_l_is_int) (defScope s_l_is_int) [] [] f fd) (b_int : isiB K (.type "int") ti_int = true) (n_isinstance : mg "isinstance" = none) (n_int : mg "int" = none) (b_bool : isiB K (.type "bool") ti_bool = true) (n_bool : mg "bool" = none) : FnOk P w K mg base (L2N.CX P w) 1 f fd ["_law_value"] (toSp K r_l_is_int) :=
  fnT F sc_l_is_int len_l_is_int rd_l_is_int fun cdv A outer s H E hr => (dss_one (ds_ret (de_and (de_isi (by rfl) n_isinstance (.ty "int") (pe_bltn (by rfl) n_int (by decide +kernel) rfl) b_int rfl (dv 0)) (de_one (de_not (de_isi (by rfl) n_isinstance (.ty "bool") (pe_bltn (by rfl) n_bool (by decide +kernel) rfl) b_bool rfl (dv 0)))))))
theorem okZ_l_is_int (F : FunD K "_law_is_int" "_law_is_int" (defArgs s_l_is_int) (defBody s_l_is_int) (defScope s_l_is_int) [] [] f fd) (b_int : isiB K (.type "int") ti_int = true) (n_isinstance : mg "isinstance" = none) (n_int : mg "int" = none) (b_bool : isiB K (.type "bool") ti_bool = true) (n_bool : mg "bool" = none) : FnZ P w K mg base 1 f fd ["_law_value"] (toSp K r_l_is_int) :=
  fnTZ F sc_l_is_int len_l_is_int rd_l_is_int fun cdv A outer s H E p hr => (dss_one (ds_ret (de_and (de_isi (by rfl) n_isinstance (.ty "int") (pe_bltn (by rfl) n_int (by decide +kernel) rfl) b_int rfl (dv 0)) (de_one (de_not (de_isi (by rfl) n_isinstance (.ty "bool") (pe_bltn (by rfl) n_bool (by decide +kernel) rfl) b_bool rfl (dv 0)))))))
theorem sc_Picture_lines : FnScope N_Picture_lines ["self"] (defScope s_Picture_lines) := ⟨rfl, rfl, rfl, by decide +kernel, rfl, by decide +kernel, by decide +kernel⟩
theorem ok_Picture_lines (F : FunD K "lines" "Picture.lines" (defArgs s_Picture_lines) (defBody s_Picture_lines) (defScope s_Picture_lines) [] [] f fd) (f_grid_1 : FOk K "grid" [(1, 0)]) (n_list : mg "list" = none) : FnOk P w K mg base (L2N.CX P w) 1 f fd ["self"] (toSp K r_Picture_lines) :=
  fnT F sc_Picture_lines len_Picture_lines rd_Picture_lines fun cdv A outer s H E hr => (dss_one (ds_ret (de_callTy c_listO (by rfl) n_list (by decide +kernel) (da_cons (de_fld (dv 0) f_grid_1) da_nil))))
theorem sc_History_text : FnScope N_History_text ["self"] (defScope s_History_text) := ⟨rfl, rfl, rfl, by decide +kernel, rfl, by decide +kernel, by decide +kernel⟩
theorem ok_History_text (F : FunD K "text" "History.text" (defArgs s_History_text) (defBody s_History_text) (defScope s_History_text) [] [] f fd) (f_deeds_9 : FOk K "deeds" [(9, 1)]) (n_str : mg "str" = none) (f_first_9 : FOk K "first" [(9, 0)]) (m_Picture_lines : Gm P w K mg base 1 1 "lines" ["self"] r_Picture_lines) : FnOk P w K mg base (L2N.CX P w) 2 f fd ["self"] (toSp K r_History_text) :=
  fnT F sc_History_text len_History_text rd_History_text fun cdv A outer s H E hr => (dss_cons (ds_setLc (j := 1) (own := [("deed", 3)]) rfl sc_History_text.nd (by rfl) (di_items (de_fld (dv 0) f_deeds_9)) (blk_of (by kernel_rfl)) (fun s H C cl fp => (dp_nm (i := 3) sc_History_text.nd)) (fun s H C cl fp => dts_nil) (fun s H C cl fp => (de_bm (by simp) PySem.F.plainAttrs_str PySem.F.slot_str_join PySem.F.type_str_join m_join de_str (da_cons (de_lc (own := [("word", 2)]) rfl sc_History_text.nd (di_items (dv 3)) (blk_of (by kernel_rfl)) (fun s H C cl fp => (dp_nm (i := 2) sc_History_text.nd)) (fun s H C cl fp => dts_nil) (fun s H C cl fp => (de_callTy c_str (by rfl) n_str (by decide +kernel) (da_cons (dv 2) da_nil)))) da_nil)))) (dss_one (ds_ret (de_bm (by simp) PySem.F.plainAttrs_str PySem.F.slot_str_join PySem.F.type_str_join m_join de_str (da_cons (de_op o_add (de_op o_add (de_fz (de_gm0 (de_fld (dv 0) f_first_9) m_Picture_lines hr)) (de_lst (da_cons de_str da_nil))) (dv 1)) da_nil)))))
theorem sc_l_line_of_k36 : FnScope N_l_line_of_k36 ["_law_text"] (defScope s_l_line_of_k36) := ⟨rfl, rfl, rfl, by decide +kernel, rfl, by decide +kernel, by decide +kernel⟩
theorem ok_l_line_of_k36 (F : FunD K "_law_line_of" "_law_line_of" (defArgs s_l_line_of_k36) (defBody s_l_line_of_k36) (defScope s_l_line_of_k36) [] [] f fd) (ix_SmaltiError_25 : IxOk K (.ref (cad K 20)) [(25, true)]) (g_SmaltiError : mg "SmaltiError" = some (.ref (cad K 20))) (n_isinstance : mg "isinstance" = none) (ix_InvalidPicture_25 : IxOk K (.ref (cad K 21)) [(25, false)]) (g_InvalidPicture : mg "InvalidPicture" = some (.ref (cad K 21))) (fx_line_25 : FxOk K "line" [(25, 0)]) (g_InvalidHistory : mg "InvalidHistory" = some (.ref (cad K 25))) (em_InvalidHistory_25 : EmOk K (.ref (cad K 25)) [(25, true)]) (c_History_read : GcX P w K mg base 6 9 "History" "read" ["cls", "text"] r_History_read_sx) (gz__law_is_int : GfZ P w K mg base 1 "_law_is_int" ["_law_value"] r_l_is_int) (m_History_text : Gm P w K mg base 2 9 "text" ["self"] r_History_text) : FnOk P w K mg base (L2N.CX P w) 7 f fd ["_law_text"] (toSp K r_l_line_of_k36) :=
  fnT F sc_l_line_of_k36 len_l_line_of_k36 rd_l_line_of_k36 fun cdv A outer s H E hr => (dss_cons (ds_tryZ (i := 2) rfl rfl sc_l_line_of_k36.nd rfl (by rfl) ⟨by rfl, by decide, .inl g_InvalidHistory⟩ em_InvalidHistory_25 (fun pn_ xe_ => (xss_one (xs_set (i := 1) sc_l_line_of_k36.nd (xe_gc c_History_read hr (by rfl) (xa_lf (da_cons (dv 0) da_nil)))))) (fun a_ oe_ c_ d_ pn2_ hz_ => (dss_cons (ds_if (PDW.pt (dw_or (dt_not (dt_val (de_isEZ (u := .ref (cad K 20)) (cv := .ref (cad K 20)) (by rfl) n_isinstance (fun _ r => r) (pe_glob (by rfl) g_SmaltiError rfl) ix_SmaltiError_25 hz_ (dv 2)))) (dw_or (dt_val (de_isEZ (u := .ref (cad K 21)) (cv := .ref (cad K 21)) (by rfl) n_isinstance (fun _ r => r) (pe_glob (by rfl) g_InvalidPicture rfl) ix_InvalidPicture_25 hz_ (dv 2))) (dw_or1 (dt_not (dt_val (de_callZ (q := (a_, oe_)) (j := 6) gz__law_is_int ⟨hr.dp, hr.un⟩ List.mem_cons_self (by rfl) (da_cons (de_xfZ fx_line_25 hz_ (dv 2)) da_nil)))))))) (dss_one (ds_ret (de_neg de_int))) dss_nil) (dss_one (ds_ret (de_xfZ fx_line_25 hz_ (dv 2))))))) (dss_cons (ds_if (dt_cmp (o_ne (k := 6) hr) (de_gm0 (dv 1) m_History_text hr) (dv 0)) (dss_one (ds_ret (de_neg de_int))) dss_nil) (dss_one (ds_ret de_int))))
theorem sc_l_changed_k36 : FnScope N_l_changed_k36 ["_law_bag_here", "_law_text"] (defScope s_l_changed_k36) := ⟨rfl, rfl, rfl, by decide +kernel, rfl, by decide +kernel, by decide +kernel⟩
theorem ok_l_changed_k36 (F : FunD K "_law_changed" "_law_changed" (defArgs s_l_changed_k36) (defBody s_l_changed_k36) (defScope s_l_changed_k36) [] [] f fd) (n_len : mg "len" = none) (g__law_take : Gf P w K mg base 1 "_law_take" ["_law_bag_here", "_law_size"] r_l_take) : FnOk P w K mg base (L2N.CX P w) 2 f fd ["_law_bag_here", "_law_text"] (toSp K r_l_changed_k36) :=
  fnT F sc_l_changed_k36 len_l_changed_k36 rd_l_changed_k36 fun cdv A outer s H E hr => (dss_cons (ds_set (i := 2) sc_l_changed_k36.nd (de_g g__law_take hr (by rfl) (da_cons (dv 0) (da_cons (de_op o_add (de_callB c_len (by rfl) n_len PySem.boot_len (da_cons (dv 1) da_nil)) de_int) da_nil)))) (dss_cons (ds_set (i := 3) sc_l_changed_k36.nd (de_ix (k := 1) hr de_str (de_g g__law_take hr (by rfl) (da_cons (dv 0) (da_cons de_int da_nil))))) (dss_cons (ds_set (i := 4) sc_l_changed_k36.nd (de_g g__law_take hr (by rfl) (da_cons (dv 0) (da_cons de_int da_nil)))) (dss_cons (ds_if (dt_cmp (o_eq (k := 1) hr) (dv 4) de_int) (dss_one (ds_ret (de_op o_add (de_slice (dv 1) do_none (do_some (dv 2))) (de_slice (dv 1) (do_some (de_op o_add (dv 2) de_int)) do_none)))) dss_nil) (dss_cons (ds_if (dt_cmp (o_eq (k := 1) hr) (dv 4) de_int) (dss_one (ds_ret (de_op o_add (de_op o_add (de_slice (dv 1) do_none (do_some (dv 2))) (dv 3)) (de_slice (dv 1) (do_some (dv 2)) do_none)))) dss_nil) (dss_cons (ds_if (dt_cmp (o_eq (k := 1) hr) (dv 4) de_int) (dss_one (ds_ret (de_op o_add (de_op o_add (de_slice (dv 1) do_none (do_some (dv 2))) (dv 3)) (de_slice (dv 1) (do_some (de_op o_add (dv 2) de_int)) do_none)))) dss_nil) (dss_cons (ds_set (i := 5) sc_l_changed_k36.nd (de_bm (by simp) PySem.F.plainAttrs_str PySem.F.slot_str_split PySem.F.type_str_split m_split (dv 1) (da_cons de_str da_nil))) (dss_cons (ds_set (i := 6) sc_l_changed_k36.nd (de_g g__law_take hr (by rfl) (da_cons (dv 0) (da_cons (de_callB c_len (by rfl) n_len PySem.boot_len (da_cons (dv 5) da_nil)) da_nil)))) (dss_cons (ds_if (dt_cmp (o_eq (k := 1) hr) (dv 4) de_int) (dss_one (ds_ret (de_bm (by simp) PySem.F.plainAttrs_str PySem.F.slot_str_join PySem.F.type_str_join m_join de_str (da_cons (de_op o_add (de_slice (dv 5) do_none (do_some (dv 6))) (de_slice (dv 5) (do_some (de_op o_add (dv 6) de_int)) do_none)) da_nil)))) dss_nil) (dss_cons (ds_if (dt_cmp (o_eq (k := 1) hr) (dv 4) de_int) (dss_one (ds_ret (de_bm (by simp) PySem.F.plainAttrs_str PySem.F.slot_str_join PySem.F.type_str_join m_join de_str (da_cons (de_op o_add (de_slice (dv 5) do_none (do_some (de_op o_add (dv 6) de_int))) (de_slice (dv 5) (do_some (dv 6)) do_none)) da_nil)))) dss_nil) (dss_cons (ds_set (i := 7) sc_l_changed_k36.nd (de_slice (dv 5) (do_some (dv 6)) (do_some (de_op o_add (dv 6) de_int)))) (dss_one (ds_ret (de_bm (by simp) PySem.F.plainAttrs_str PySem.F.slot_str_join PySem.F.type_str_join m_join de_str (da_cons (de_op o_add (de_op o_add (de_slice (dv 5) do_none (do_some (dv 6))) (de_rev (dv 7))) (de_slice (dv 5) (do_some (de_op o_add (dv 6) de_int)) do_none)) da_nil)))))))))))))))
theorem sc_l_is_letter : FnScope N_l_is_letter ["_law_text"] (defScope s_l_is_letter) := ⟨rfl, rfl, rfl, by decide +kernel, rfl, by decide +kernel, by decide +kernel⟩
theorem ok_l_is_letter (F : FunD K "_law_is_letter" "_law_is_letter" (defArgs s_l_is_letter) (defBody s_l_is_letter) (defScope s_l_is_letter) [] [] f fd) (n_len : mg "len" = none) : FnOk P w K mg base (L2N.CX P w) 1 f fd ["_law_text"] (toSp K r_l_is_letter) :=
  fnT F sc_l_is_letter len_l_is_letter rd_l_is_letter fun cdv A outer s H E hr => (dss_one (ds_ret (de_and (de_cmp (o_eq (k := 0) hr) (de_callB c_len (by rfl) n_len PySem.boot_len (da_cons (dv 0) da_nil)) de_int) (de_one (de_cmp (o_in (k := 0) hr) (dv 0) de_str)))))
theorem sc_l_is_row_k36 : FnScope N_l_is_row_k36 ["_law_row_here", "_law_wide"] (defScope s_l_is_row_k36) := ⟨rfl, rfl, rfl, by decide +kernel, rfl, by decide +kernel, by decide +kernel⟩
theorem ok_l_is_row_k36 (F : FunD K "_law_is_row" "_law_is_row" (defArgs s_l_is_row_k36) (defBody s_l_is_row_k36) (defScope s_l_is_row_k36) [] [] f fd) (n_len : mg "len" = none) (g__law_is_letter : Gf P w K mg base 1 "_law_is_letter" ["_law_text"] r_l_is_letter) : FnOk P w K mg base (L2N.CX P w) 2 f fd ["_law_row_here", "_law_wide"] (toSp K r_l_is_row_k36) :=
  fnT F sc_l_is_row_k36 len_l_is_row_k36 rd_l_is_row_k36 fun cdv A outer s H E hr => (dss_cons (ds_if (PDW.pt (dw_or (dt_cmp (o_ne (k := 1) hr) (de_callB c_len (by rfl) n_len PySem.boot_len (da_cons (dv 0) da_nil)) (dv 1)) (dw_or (dt_cmp o_lt (dv 1) de_int) (dw_or1 (dt_cmp o_gt (dv 1) de_int))))) (dss_one (ds_ret de_bl)) dss_nil) (dss_one (ds_ret (de_cmp (o_eq (k := 1) hr) (de_lc (own := [("_law_sign", 2)]) rfl sc_l_is_row_k36.nd (di_items (dv 0)) (blk_of (by kernel_rfl)) (fun s H C cl fp => (dp_nm (i := 2) sc_l_is_row_k36.nd)) (fun s H C cl fp => (dts_one (PDW.pt (dw_and (dt_cmp (o_ne (k := 1) hr) (dv 2) de_str) (dw_and1 (dt_not (dt_val (de_g g__law_is_letter hr (by rfl) (da_cons (dv 2) da_nil))))))))) (fun s H C cl fp => (dv 2))) (de_lst da_nil)))))
theorem sc_l_is_digit_k36 : FnScope N_l_is_digit_k36 ["_law_word", "_law_digits"] (defScope s_l_is_digit_k36) := ⟨rfl, rfl, rfl, by decide +kernel, rfl, by decide +kernel, by decide +kernel⟩
theorem ok_l_is_digit_k36 (F : FunD K "_law_is_digit" "_law_is_digit" (defArgs s_l_is_digit_k36) (defBody s_l_is_digit_k36) (defScope s_l_is_digit_k36) [] [] f fd) (n_len : mg "len" = none) : FnOk P w K mg base (L2N.CX P w) 1 f fd ["_law_word", "_law_digits"] (toSp K r_l_is_digit_k36) :=
  fnT F sc_l_is_digit_k36 len_l_is_digit_k36 rd_l_is_digit_k36 fun cdv A outer s H E hr => (dss_one (ds_ret (de_and (de_cmp (o_eq (k := 0) hr) (de_callB c_len (by rfl) n_len PySem.boot_len (da_cons (dv 0) da_nil)) de_int) (de_one (de_cmp (o_in (k := 0) hr) (dv 0) (dv 1))))))
theorem sc_l_is_deed_k36 : FnScope N_l_is_deed_k36 ["_law_line"] (defScope s_l_is_deed_k36) := ⟨rfl, rfl, rfl, by decide +kernel, rfl, by decide +kernel, by decide +kernel⟩
theorem ok_l_is_deed_k36 (F : FunD K "_law_is_deed" "_law_is_deed" (defArgs s_l_is_deed_k36) (defBody s_l_is_deed_k36) (defScope s_l_is_deed_k36) [] [] f fd) (n_len : mg "len" = none) (g__law_is_digit : Gf P w K mg base 1 "_law_is_digit" ["_law_word", "_law_digits"] r_l_is_digit_k36) (g__law_is_letter : Gf P w K mg base 1 "_law_is_letter" ["_law_text"] r_l_is_letter) : FnOk P w K mg base (L2N.CX P w) 2 f fd ["_law_line"] (toSp K r_l_is_deed_k36) :=
  fnT F sc_l_is_deed_k36 len_l_is_deed_k36 rd_l_is_deed_k36 fun cdv A outer s H E hr => (dss_cons (ds_set (i := 1) sc_l_is_deed_k36.nd (de_bm (by simp) PySem.F.plainAttrs_str PySem.F.slot_str_split PySem.F.type_str_split m_split (dv 0) (da_cons de_str da_nil))) (dss_cons (ds_if (PDW.pt (dw_or (dt_cmp o_lt (de_callB c_len (by rfl) n_len PySem.boot_len (da_cons (dv 1) da_nil)) de_int) (dw_or (dt_not (dt_val (de_g g__law_is_digit hr (by rfl) (da_cons (de_ix (k := 1) hr (dv 1) de_int) (da_cons de_str da_nil))))) (dw_or1 (dt_not (dt_val (de_g g__law_is_digit hr (by rfl) (da_cons (de_ix (k := 1) hr (dv 1) de_int) (da_cons de_str da_nil))))))))) (dss_one (ds_ret de_bl)) dss_nil) (dss_cons (ds_if (dt_cmp (o_eq (k := 1) hr) (de_ix (k := 1) hr (dv 1) de_int) de_str) (dss_one (ds_ret (de_cmp (o_eq (k := 1) hr) (de_callB c_len (by rfl) n_len PySem.boot_len (da_cons (dv 1) da_nil)) de_int))) dss_nil) (dss_cons (ds_if (PDW.pt (dw_or (dt_cmp (o_ne (k := 1) hr) (de_ix (k := 1) hr (dv 1) de_int) de_str) (dw_or (dt_cmp (o_ne (k := 1) hr) (de_callB c_len (by rfl) n_len PySem.boot_len (da_cons (dv 1) da_nil)) de_int) (dw_or1 (dt_not (dt_val (de_g g__law_is_letter hr (by rfl) (da_cons (de_ix (k := 1) hr (dv 1) de_int) da_nil)))))))) (dss_one (ds_ret de_bl)) dss_nil) (dss_cons (ds_set (i := 2) sc_l_is_deed_k36.nd (de_ix (k := 1) hr (dv 1) de_int)) (dss_cons (ds_if (PDW.pt (dw_and (dt_cmp (o_eq (k := 1) hr) (de_callB c_len (by rfl) n_len PySem.boot_len (da_cons (dv 2) da_nil)) de_int) (dw_and1 (dt_not (dt_val (de_g g__law_is_digit hr (by rfl) (da_cons (de_ix (k := 1) hr (dv 2) de_int) (da_cons de_str da_nil)))))))) (dss_one (ds_ret de_bl)) dss_nil) (dss_one (ds_ret (de_and (de_cmp o_inT (de_callB c_len (by rfl) n_len PySem.boot_len (da_cons (dv 2) da_nil)) (de_tup (da_cons de_int (da_cons de_int da_nil)))) (de_one (de_g g__law_is_digit hr (by rfl) (da_cons (de_ix (k := 1) hr (dv 2) (de_neg de_int)) (da_cons de_str da_nil)))))))))))))
theorem sc_l_bad_line_k36 : FnScope N_l_bad_line_k36 ["_law_text"] (defScope s_l_bad_line_k36) := ⟨rfl, rfl, rfl, by decide +kernel, rfl, by decide +kernel, by decide +kernel⟩
theorem ok_l_bad_line_k36 (F : FunD K "_law_bad_line" "_law_bad_line" (defArgs s_l_bad_line_k36) (defBody s_l_bad_line_k36) (defScope s_l_bad_line_k36) [] [] f fd) (n_len : mg "len" = none) (n_range : mg "range" = none) (g__law_is_row : Gf P w K mg base 2 "_law_is_row" ["_law_row_here", "_law_wide"] r_l_is_row_k36) (g__law_is_deed : Gf P w K mg base 2 "_law_is_deed" ["_law_line"] r_l_is_deed_k36) : FnOk P w K mg base (L2N.CX P w) 3 f fd ["_law_text"] (toSp K r_l_bad_line_k36) :=
  fnT F sc_l_bad_line_k36 len_l_bad_line_k36 rd_l_bad_line_k36 fun cdv A outer s H E hr => (dss_cons (ds_set (i := 1) sc_l_bad_line_k36.nd (de_bm (by simp) PySem.F.plainAttrs_str PySem.F.slot_str_split PySem.F.type_str_split m_split (dv 0) (da_cons de_str da_nil))) (dss_cons (ds_if (dt_cmp (o_notin (k := 2) hr) de_str (dv 1)) (dss_one (ds_ret (de_op o_add (de_callB c_len (by rfl) n_len PySem.boot_len (da_cons (dv 1) da_nil)) de_int))) dss_nil) (dss_cons (ds_set (i := 2) sc_l_bad_line_k36.nd (de_bm (by simp) PySem.F.plainAttrs_list PySem.F.slot_list_index PySem.F.type_list_index m_index (dv 1) (da_cons de_str da_nil))) (dss_cons (ds_if (dt_cmp (o_eq (k := 2) hr) (dv 2) de_int) (dss_one (ds_ret de_int)) dss_nil) (dss_cons (ds_for rfl (di_rng1 (by rfl) n_range (da_cons (de_callB c_len (by rfl) n_len PySem.boot_len (da_cons (dv 1) da_nil)) da_nil)) (dp_nm (i := 3) sc_l_bad_line_k36.nd) (dss_cons (ds_if (PDW.pt (dw_and (dt_cmp o_lt (dv 3) (dv 2)) (dw_and1 (PDW.pt (dw_or (dt_cmp o_gt (dv 3) de_int) (dw_or1 (dt_not (dt_val (de_g g__law_is_row hr (by rfl) (da_cons (de_ix (k := 2) hr (dv 1) (dv 3)) (da_cons (de_callB c_len (by rfl) n_len PySem.boot_len (da_cons (de_ix (k := 2) hr (dv 1) de_int) da_nil)) da_nil))))))))))) (dss_one (ds_ret (de_op o_add (dv 3) de_int))) dss_nil) (dss_one (ds_if (PDW.pt (dw_and (dt_cmp o_gt (dv 3) (dv 2)) (dw_and1 (dt_not (dt_val (de_g g__law_is_deed hr (by rfl) (da_cons (de_ix (k := 2) hr (dv 1) (dv 3)) da_nil))))))) (dss_one (ds_ret (de_op o_add (dv 3) de_int))) dss_nil)))) (dss_one (ds_ret de_int)))))))
theorem sc_law_k36 : FnScope N_law_k36 ["_law_script"] (defScope s_law_k36) := ⟨rfl, rfl, rfl, by decide +kernel, rfl, by decide +kernel, by decide +kernel⟩
theorem ok_law_k36 (F : FunD K "law" "law" (defArgs s_law_k36) (defBody s_law_k36) (defScope s_law_k36) [] [] f fd) (n_range : mg "range" = none) (g__law_bag : Gz P w K mg base 1 "_law_bag" ["_law_script"] 63 r_l_bag) (g__law_palette : Gf P w K mg base 2 "_law_palette" ["_law_bag_here"] r_l_palette) (g__law_big_grid : Gf P w K mg base 3 "_law_big_grid" ["_law_bag_here", "_law_palette_here"] r_l_big_grid) (g__law_take : Gf P w K mg base 1 "_law_take" ["_law_bag_here", "_law_size"] r_l_take) (g__law_tale_text : Gf P w K mg base 2 "_law_tale_text" ["_law_rows", "_law_deeds"] r_l_tale_text) (g__law_line_of : Gf P w K mg base 7 "_law_line_of" ["_law_text"] r_l_line_of_k36) (g__law_changed : Gf P w K mg base 2 "_law_changed" ["_law_bag_here", "_law_text"] r_l_changed_k36) (g__law_bad_line : Gf P w K mg base 3 "_law_bad_line" ["_law_text"] r_l_bad_line_k36) : FnOk P w K mg base (L2N.CX P w) 8 f fd ["_law_script"] (spScr K 63 rLaw) :=
  fnScr F sc_law_k36 rLaw (fun a ns ds S Q E h => len_law a ns ds S Q E h) (by decide) fun cdv A outer s H E a ns hr hz hn => ⟨t_law_k36 a ns, (dss_cons (ds_set (i := 1) sc_law_k36.nd (de_gScr g__law_bag hz (Nat.le_trans hn (by decide)) hr (by rfl) (da_cons (dv 0) da_nil))) (dss_cons (ds_set (i := 2) sc_law_k36.nd (de_g g__law_palette hr (by rfl) (da_cons (dv 1) da_nil))) (dss_cons (ds_set (i := 3) sc_law_k36.nd (de_g g__law_big_grid hr (by rfl) (da_cons (dv 1) (da_cons (dv 2) da_nil)))) (dss_cons (ds_set (i := 4) sc_law_k36.nd (de_lstO da_nil)) (dss_cons (ds_for rfl (di_rng1 (by rfl) n_range (da_cons (de_g g__law_take hr (by rfl) (da_cons (dv 1) (da_cons de_int da_nil))) da_nil)) (dp_nm (i := 5) sc_law_k36.nd) (dss_cons (ds_set (i := 6) sc_law_k36.nd (de_tup (da_cons de_str (da_cons (de_g g__law_take hr (by rfl) (da_cons (dv 1) (da_cons de_int da_nil))) (da_cons (de_g g__law_take hr (by rfl) (da_cons (dv 1) (da_cons de_int da_nil))) da_nil))))) (dss_cut (ds_if (dt_cmp (o_eq (k := 7) hr) (de_g g__law_take hr (by rfl) (da_cons (dv 1) (da_cons de_int da_nil))) de_int) (dss_one (ds_set (i := 6) sc_law_k36.nd (de_tup (da_cons de_str (da_cons (de_ix (k := 7) hr (dv 6) de_int) (da_cons (de_ix (k := 7) hr (dv 6) de_int) (da_cons (de_g g__law_take hr (by rfl) (da_cons (dv 1) (da_cons de_int da_nil))) (da_cons (de_ix (k := 7) hr (dv 2) (de_g g__law_take hr (by rfl) (da_cons (dv 1) (da_cons de_int da_nil)))) da_nil)))))))) dss_nil) (dss_one (ds_expr (de_bm (by simp) PySem.F.plainAttrs_list PySem.F.slot_list_append PySem.F.type_list_append m_append (dv 4) (da_cons (dv 6) da_nil))))))) (dss_cons (ds_frzN (i := 4) (ds_set (i := 7) sc_law_k36.nd (de_g g__law_tale_text hr (by rfl) (da_cons (dv 3) (da_cons (dv 4) da_nil))))) (dss_cons (ds_if (dt_cmp (o_ne (k := 7) hr) (de_g g__law_line_of hr (by rfl) (da_cons (dv 7) da_nil)) de_int) (dss_one (ds_ret de_bl)) dss_nil) (dss_cons (ds_for rfl (di_rng1 (by rfl) n_range (da_cons (de_g g__law_take hr (by rfl) (da_cons (dv 1) (da_cons de_int da_nil))) da_nil)) (dp_nm (i := 5) sc_law_k36.nd) (dss_one (ds_set (i := 7) sc_law_k36.nd (de_g g__law_changed hr (by rfl) (da_cons (dv 1) (da_cons (dv 7) da_nil)))))) (dss_cut (ds_if (dt_cmp (o_eq (k := 7) hr) (de_g g__law_take hr (by rfl) (da_cons (dv 1) (da_cons de_int da_nil))) de_int) (dss_one (ds_set (i := 7) sc_law_k36.nd (de_ix (k := 7) hr (de_lst (da_cons de_str (da_cons de_str (da_cons de_str (da_cons de_str (da_cons de_str (da_cons de_str (da_cons de_str (da_cons de_str da_nil))))))))) (de_g g__law_take hr (by rfl) (da_cons (dv 1) (da_cons de_int da_nil)))))) dss_nil) (dss_one (ds_ret (de_cmp (o_eq (k := 7) hr) (de_g g__law_line_of hr (by rfl) (da_cons (dv 7) da_nil)) (de_g g__law_bad_line hr (by rfl) (da_cons (dv 7) da_nil)))))))))))))), rd_law_k36 a ns hn⟩
theorem facts {P : Program} {w : World} {K : PySem.W.Frag} {h : Heap} {mg : Str → Option Value} {f : Addr} (X : K.In h) (G : h.Ns mainGlobals mg) (hfa : mg ("law" : Str) = some (.ref f)) (c : Says2 ch fn fs K) :
    ∃ fd : FuncData, (∀ (s : Shared) (v : Value), BindsTo s fd ⟨[v], []⟩ [("_law_script", v)]) ∧ ∀ base : Heap, K.In base → base.Ns mainGlobals mg → FnOk P w K mg base (L2N.CX P w) 8 f fd ["_law_script"] (spScr K 63 rLaw) := by
  obtain ⟨fd_l_bag, F_l_bag⟩ := c.df 0 (d := d_l_bag) rfl
  obtain ⟨fd_l_take, F_l_take⟩ := c.df 1 (d := d_l_take) rfl
  obtain ⟨fd_l_palette, F_l_palette⟩ := c.df 2 (d := d_l_palette) rfl
  obtain ⟨fd_l_row, F_l_row⟩ := c.df 3 (d := d_l_row) rfl
  obtain ⟨fd_l_big_grid, F_l_big_grid⟩ := c.df 4 (d := d_l_big_grid) rfl
  obtain ⟨fd_l_deed_line, F_l_deed_line⟩ := c.df 5 (d := d_l_deed_line) rfl
  obtain ⟨fd_l_tale_text, F_l_tale_text⟩ := c.df 6 (d := d_l_tale_text) rfl
  obtain ⟨fd_p_is_stone, F_p_is_stone⟩ := c.df 7 (d := d_p_is_stone) rfl
  obtain ⟨fd_p_is_sign, F_p_is_sign⟩ := c.df 8 (d := d_p_is_sign) rfl
  obtain ⟨fd_p_is_row, F_p_is_row⟩ := c.df 9 (d := d_p_is_row) rfl
  obtain ⟨fd_Picture_init, F_Picture_init⟩ := c.df 10 (d := d_Picture_init) rfl
  obtain ⟨fd_p_is_coordinate, F_p_is_coordinate⟩ := c.df 11 (d := d_p_is_coordinate) rfl
  obtain ⟨fd_p_is_rule_number, F_p_is_rule_number⟩ := c.df 12 (d := d_p_is_rule_number) rfl
  obtain ⟨fd_p_read_deed, F_p_read_deed⟩ := c.df 13 (d := d_p_read_deed) rfl
  obtain ⟨fd_History_init, F_History_init⟩ := c.df 14 (d := d_History_init) rfl
  obtain ⟨fd_History_read_sx, F_History_read_sx⟩ := c.df 15 (d := d_History_read_sx) rfl
  obtain ⟨fd_l_is_int, F_l_is_int⟩ := c.df 16 (d := d_l_is_int) rfl
  obtain ⟨fd_Picture_lines, F_Picture_lines⟩ := c.df 17 (d := d_Picture_lines) rfl
  obtain ⟨fd_History_text, F_History_text⟩ := c.df 18 (d := d_History_text) rfl
  obtain ⟨fd_l_line_of_k36, F_l_line_of_k36⟩ := c.df 19 (d := d_l_line_of_k36) rfl
  obtain ⟨fd_l_changed_k36, F_l_changed_k36⟩ := c.df 20 (d := d_l_changed_k36) rfl
  obtain ⟨fd_l_is_letter, F_l_is_letter⟩ := c.df 21 (d := d_l_is_letter) rfl
  obtain ⟨fd_l_is_row_k36, F_l_is_row_k36⟩ := c.df 22 (d := d_l_is_row_k36) rfl
  obtain ⟨fd_l_is_digit_k36, F_l_is_digit_k36⟩ := c.df 23 (d := d_l_is_digit_k36) rfl
  obtain ⟨fd_l_is_deed_k36, F_l_is_deed_k36⟩ := c.df 24 (d := d_l_is_deed_k36) rfl
  obtain ⟨fd_l_bad_line_k36, F_l_bad_line_k36⟩ := c.df 25 (d := d_l_bad_line_k36) rfl
  obtain ⟨fd_law_k36, F_law_k36⟩ := c.df 26 (d := d_law_k36) rfl
  obtain ⟨fd_xInvalidPicture, F_xInvalidPicture⟩ := c.df 27 (d := d_xInvalidPicture) rfl
  obtain ⟨fd_xInvalidHistory, F_xInvalidHistory⟩ := c.df 28 (d := d_xInvalidHistory) rfl
  have e := hfa.symm.trans (He.glo_ok X G (c.fact 63 (p := fun K => (He.Fa.glo "law").ok K) rfl))
  cases e
  have b := FunD.bindsA (ps := ["_law_script"]) F_law_k36 fun _ _ _ _ _ _ us hl => match us, hl with | [_], _ => rfl
  refine ⟨fd_law_k36, fun s v => b s [v] rfl, fun base _ _ => ?_⟩
  have x_InvalidPicture : Gx P w K mg base 21 "InvalidPicture" := gx1 F_xInvalidPicture sc_xInvalidPicture rfl (FunD.bindsN (ps := ["self", "line"]) F_xInvalidPicture fun _ _ _ _ _ _ us hl => match us, hl with | [_, _], _ => rfl) (c.fact 0 (p := fun K => oexB K 21) rfl) (c.fact 1 (p := fun K => oinB K 21) rfl) (He.glo_ok X G (c.fact 2 (p := fun K => (He.Fa.glo "InvalidPicture").ok K) rfl))
  have x_InvalidHistory : Gx P w K mg base 25 "InvalidHistory" := gx1 F_xInvalidHistory sc_xInvalidHistory rfl (FunD.bindsN (ps := ["self", "line"]) F_xInvalidHistory fun _ _ _ _ _ _ us hl => match us, hl with | [_, _], _ => rfl) (c.fact 3 (p := fun K => oexB K 25) rfl) (c.fact 4 (p := fun K => oinB K 25) rfl) (He.glo_ok X G (c.fact 5 (p := fun K => (He.Fa.glo "InvalidHistory").ok K) rfl))
  have xh_InvalidHistory : GxH P w K mg base 25 "InvalidHistory" := gxh1 F_xInvalidHistory sc_xInvalidHistory rfl (FunD.bindsN (ps := ["self", "line"]) F_xInvalidHistory fun _ _ _ _ _ _ us hl => match us, hl with | [_, _], _ => rfl) (c.fact 3 (p := fun K => oexB K 25) rfl) (c.fact 4 (p := fun K => oinB K 25) rfl) (He.glo_ok X G (c.fact 5 (p := fun K => (He.Fa.glo "InvalidHistory").ok K) rfl))
  have n_int : mg "int" = none := He.free_ok X G (c.fact 6 (p := fun K => (He.Fa.free "int").ok K) rfl)
  have o_l_bag := ok_l_bag (P := P) (w := w) (mg := mg) (base := base) F_l_bag n_int
  have n_len : mg "len" = none := He.free_ok X G (c.fact 7 (p := fun K => (He.Fa.free "len").ok K) rfl)
  have o_l_take := ok_l_take (P := P) (w := w) (mg := mg) (base := base) F_l_take n_len n_int
  have g__law_take : Gf P w K mg base 1 "_law_take" ["_law_bag_here", "_law_size"] r_l_take := ⟨_, _, o_l_take, He.glo_ok X G (c.fact 8 (p := fun K => (He.Fa.glo "_law_take").ok K) rfl), F_l_take.kp, (FunD.bindsN (ps := ["_law_bag_here", "_law_size"]) F_l_take fun _ _ _ _ _ _ us hl => match us, hl with | [_, _], _ => rfl)⟩
  have o_l_palette := ok_l_palette (P := P) (w := w) (mg := mg) (base := base) F_l_palette n_int g__law_take
  have n_range : mg "range" = none := He.free_ok X G (c.fact 9 (p := fun K => (He.Fa.free "range").ok K) rfl)
  have o_l_row := ok_l_row (P := P) (w := w) (mg := mg) (base := base) F_l_row n_range g__law_take
  have g__law_row : Gf P w K mg base 2 "_law_row" ["_law_bag_here", "_law_palette_here", "_law_wide"] r_l_row := ⟨_, _, o_l_row, He.glo_ok X G (c.fact 10 (p := fun K => (He.Fa.glo "_law_row").ok K) rfl), F_l_row.kp, (FunD.bindsN (ps := ["_law_bag_here", "_law_palette_here", "_law_wide"]) F_l_row fun _ _ _ _ _ _ us hl => match us, hl with | [_, _, _], _ => rfl)⟩
  have o_l_big_grid := ok_l_big_grid (P := P) (w := w) (mg := mg) (base := base) F_l_big_grid n_range g__law_take g__law_row
  have n_str : mg "str" = none := He.free_ok X G (c.fact 11 (p := fun K => (He.Fa.free "str").ok K) rfl)
  have o_l_deed_line := ok_l_deed_line (P := P) (w := w) (mg := mg) (base := base) F_l_deed_line n_str
  have g__law_deed_line : Gf P w K mg base 1 "_law_deed_line" ["_law_deed"] r_l_deed_line := ⟨_, _, o_l_deed_line, He.glo_ok X G (c.fact 12 (p := fun K => (He.Fa.glo "_law_deed_line").ok K) rfl), F_l_deed_line.kp, (FunD.bindsN (ps := ["_law_deed"]) F_l_deed_line fun _ _ _ _ _ _ us hl => match us, hl with | [_], _ => rfl)⟩
  have o_l_tale_text := ok_l_tale_text (P := P) (w := w) (mg := mg) (base := base) F_l_tale_text g__law_deed_line
  have c_LETTERS : ∃ u, mg "LETTERS" = some u ∧ RelV (.str "abcdefghijklmnopqrstuvwxyz") u := gstr_of (He.str_ok X G (c.fact 13 (p := fun K => (He.Fa.str "LETTERS" "abcdefghijklmnopqrstuvwxyz").ok K) rfl))
  have o_p_is_stone := ok_p_is_stone (P := P) (w := w) (mg := mg) (base := base) F_p_is_stone n_len c_LETTERS
  have g_is_stone : Gf P w K mg base 1 "is_stone" ["sign"] r_p_is_stone := ⟨_, _, o_p_is_stone, He.glo_ok X G (c.fact 14 (p := fun K => (He.Fa.glo "is_stone").ok K) rfl), F_p_is_stone.kp, (FunD.bindsN (ps := ["sign"]) F_p_is_stone fun _ _ _ _ _ _ us hl => match us, hl with | [_], _ => rfl)⟩
  have o_p_is_sign := ok_p_is_sign (P := P) (w := w) (mg := mg) (base := base) F_p_is_sign g_is_stone
  have c_MOST : ∃ u, mg "MOST" = some u ∧ RelV (.int (8)) u := gint_of (He.int_ok X G (c.fact 15 (p := fun K => (He.Fa.int "MOST" (8)).ok K) rfl))
  have g_is_sign : Gf P w K mg base 2 "is_sign" ["sign"] r_p_is_sign := ⟨_, _, o_p_is_sign, He.glo_ok X G (c.fact 16 (p := fun K => (He.Fa.glo "is_sign").ok K) rfl), F_p_is_sign.kp, (FunD.bindsN (ps := ["sign"]) F_p_is_sign fun _ _ _ _ _ _ us hl => match us, hl with | [_], _ => rfl)⟩
  have o_p_is_row := ok_p_is_row (P := P) (w := w) (mg := mg) (base := base) F_p_is_row n_len c_MOST g_is_sign
  have n_enumerate : mg "enumerate" = none := He.free_ok X G (c.fact 17 (p := fun K => (He.Fa.free "enumerate").ok K) rfl)
  have n_list : mg "list" = none := He.free_ok X G (c.fact 18 (p := fun K => (He.Fa.free "list").ok K) rfl)
  have f_grid_1 : FOk K "grid" [(1, 0)] := fok_of (c.fact 19 (p := fun K => fokB K "grid" [(1, 0)]) rfl)
  have f_width_1 : FOk K "width" [(1, 1)] := fok_of (c.fact 20 (p := fun K => fokB K "width" [(1, 1)]) rfl)
  have f_height_1 : FOk K "height" [(1, 2)] := fok_of (c.fact 21 (p := fun K => fokB K "height" [(1, 2)]) rfl)
  have g_is_row : Gf P w K mg base 3 "is_row" ["row", "width"] r_p_is_row := ⟨_, _, o_p_is_row, He.glo_ok X G (c.fact 22 (p := fun K => (He.Fa.glo "is_row").ok K) rfl), F_p_is_row.kp, (FunD.bindsN (ps := ["row", "width"]) F_p_is_row fun _ _ _ _ _ _ us hl => match us, hl with | [_, _], _ => rfl)⟩
  have o_Picture_init := ok_Picture_init (P := P) (w := w) (mg := mg) (base := base) F_Picture_init n_len x_InvalidPicture n_enumerate c_MOST n_list f_grid_1 f_width_1 f_height_1 g_is_row
  have c_COORDINATES : ∃ u, mg "COORDINATES" = some u ∧ RelV (.str "01234567") u := gstr_of (He.str_ok X G (c.fact 23 (p := fun K => (He.Fa.str "COORDINATES" "01234567").ok K) rfl))
  have o_p_is_coordinate := ok_p_is_coordinate (P := P) (w := w) (mg := mg) (base := base) F_p_is_coordinate n_len c_COORDINATES
  have c_DIGITS : ∃ u, mg "DIGITS" = some u ∧ RelV (.str "0123456789") u := gstr_of (He.str_ok X G (c.fact 24 (p := fun K => (He.Fa.str "DIGITS" "0123456789").ok K) rfl))
  have o_p_is_rule_number := ok_p_is_rule_number (P := P) (w := w) (mg := mg) (base := base) F_p_is_rule_number c_DIGITS n_len
  have g_is_coordinate : Gf P w K mg base 1 "is_coordinate" ["word"] r_p_is_coordinate := ⟨_, _, o_p_is_coordinate, He.glo_ok X G (c.fact 25 (p := fun K => (He.Fa.glo "is_coordinate").ok K) rfl), F_p_is_coordinate.kp, (FunD.bindsN (ps := ["word"]) F_p_is_coordinate fun _ _ _ _ _ _ us hl => match us, hl with | [_], _ => rfl)⟩
  have g_is_rule_number : Gf P w K mg base 1 "is_rule_number" ["word"] r_p_is_rule_number := ⟨_, _, o_p_is_rule_number, He.glo_ok X G (c.fact 26 (p := fun K => (He.Fa.glo "is_rule_number").ok K) rfl), F_p_is_rule_number.kp, (FunD.bindsN (ps := ["word"]) F_p_is_rule_number fun _ _ _ _ _ _ us hl => match us, hl with | [_], _ => rfl)⟩
  have o_p_read_deed := ok_p_read_deed (P := P) (w := w) (mg := mg) (base := base) F_p_read_deed n_len n_int g_is_coordinate g_is_rule_number g_is_stone
  have f_first_9 : FOk K "first" [(9, 0)] := fok_of (c.fact 27 (p := fun K => fokB K "first" [(9, 0)]) rfl)
  have f_deeds_9 : FOk K "deeds" [(9, 1)] := fok_of (c.fact 28 (p := fun K => fokB K "deeds" [(9, 1)]) rfl)
  have o_History_init := ok_History_init (P := P) (w := w) (mg := mg) (base := base) F_History_init f_first_9 n_list f_deeds_9
  have fx_line_21 : FxOk K "line" [(21, 0)] := fx_of (c.fact 29 (p := fun K => fxB K "line" [(21, 0)]) rfl)
  have g_InvalidPicture : mg "InvalidPicture" = some (.ref (cad K 21)) := He.glo_ok X G (c.fact 2 (p := fun K => (He.Fa.glo "InvalidPicture").ok K) rfl)
  have em_InvalidPicture_21 : EmOk K (.ref (cad K 21)) [(21, true)] := em_of (c.fact 30 (p := fun K => emB K (.ref (cad K 21)) [(21, true)]) rfl)
  have rx_21 : RxOk K [(21, true)] := rx_of (c.fact 31 (p := fun K => rxB K [(21, true)]) rfl)
  have i_Picture : Gi P w K mg base 4 1 "Picture" ["self", "rows"] r_Picture_init := ⟨_, _, o_Picture_init, He.glo_ok X G (c.fact 32 (p := fun K => (He.Fa.glo "Picture").ok K) rfl), He.mkr_ok (c.fact 33 (p := fun K => (He.Fa.mkr "Picture").ok K) rfl), (FunD.bindsN (ps := ["self", "rows"]) F_Picture_init fun _ _ _ _ _ _ us hl => match us, hl with | [_, _], _ => rfl)⟩
  have g_read_deed : Gf P w K mg base 2 "read_deed" ["line"] r_p_read_deed := ⟨_, _, o_p_read_deed, He.glo_ok X G (c.fact 34 (p := fun K => (He.Fa.glo "read_deed").ok K) rfl), F_p_read_deed.kp, (FunD.bindsN (ps := ["line"]) F_p_read_deed fun _ _ _ _ _ _ us hl => match us, hl with | [_], _ => rfl)⟩
  have i_History : Gi P w K mg base 1 9 "History" ["self", "first", "deeds"] r_History_init := ⟨_, _, o_History_init, He.glo_ok X G (c.fact 35 (p := fun K => (He.Fa.glo "History").ok K) rfl), He.mkr_ok (c.fact 36 (p := fun K => (He.Fa.mkr "History").ok K) rfl), (FunD.bindsN (ps := ["self", "first", "deeds"]) F_History_init fun _ _ _ _ _ _ us hl => match us, hl with | [_, _, _], _ => rfl)⟩
  have o_History_read_sx := ok_History_read_sx (P := P) (w := w) (mg := mg) (base := base) F_History_read_sx x_InvalidHistory n_len xh_InvalidHistory fx_line_21 g_InvalidPicture em_InvalidPicture_21 rx_21 i_Picture g_read_deed i_History
  have b_int : isiB K (.type "int") ti_int = true := (c.fact 37 (p := fun K => isiB K (.type "int") ti_int) rfl)
  have n_isinstance : mg "isinstance" = none := He.free_ok X G (c.fact 38 (p := fun K => (He.Fa.free "isinstance").ok K) rfl)
  have b_bool : isiB K (.type "bool") ti_bool = true := (c.fact 39 (p := fun K => isiB K (.type "bool") ti_bool) rfl)
  have n_bool : mg "bool" = none := He.free_ok X G (c.fact 40 (p := fun K => (He.Fa.free "bool").ok K) rfl)
  have o_l_is_int := ok_l_is_int (P := P) (w := w) (mg := mg) (base := base) F_l_is_int b_int n_isinstance n_int b_bool n_bool
  have oz_l_is_int := okZ_l_is_int (P := P) (w := w) (mg := mg) (base := base) F_l_is_int b_int n_isinstance n_int b_bool n_bool
  have o_Picture_lines := ok_Picture_lines (P := P) (w := w) (mg := mg) (base := base) F_Picture_lines f_grid_1 n_list
  have m_Picture_lines : Gm P w K mg base 1 1 "lines" ["self"] r_Picture_lines := ⟨_, _, o_Picture_lines, ⟨He.cls_ok (c.fact 41 (p := fun K => (He.Fa.cls "Picture").ok K) rfl), He.meth_ok (c.fact 42 (p := fun K => (He.Fa.meth "Picture" "lines").ok K) rfl), by decide⟩, (FunD.bindsN (ps := ["self"]) F_Picture_lines fun _ _ _ _ _ _ us hl => match us, hl with | [_], _ => rfl)⟩
  have o_History_text := ok_History_text (P := P) (w := w) (mg := mg) (base := base) F_History_text f_deeds_9 n_str f_first_9 m_Picture_lines
  have ix_SmaltiError_25 : IxOk K (.ref (cad K 20)) [(25, true)] := ix_of (c.fact 43 (p := fun K => ixB K (.ref (cad K 20)) [(25, true)]) rfl)
  have g_SmaltiError : mg "SmaltiError" = some (.ref (cad K 20)) := He.glo_ok X G (c.fact 44 (p := fun K => (He.Fa.glo "SmaltiError").ok K) rfl)
  have ix_InvalidPicture_25 : IxOk K (.ref (cad K 21)) [(25, false)] := ix_of (c.fact 45 (p := fun K => ixB K (.ref (cad K 21)) [(25, false)]) rfl)
  have fx_line_25 : FxOk K "line" [(25, 0)] := fx_of (c.fact 46 (p := fun K => fxB K "line" [(25, 0)]) rfl)
  have g_InvalidHistory : mg "InvalidHistory" = some (.ref (cad K 25)) := He.glo_ok X G (c.fact 5 (p := fun K => (He.Fa.glo "InvalidHistory").ok K) rfl)
  have em_InvalidHistory_25 : EmOk K (.ref (cad K 25)) [(25, true)] := em_of (c.fact 47 (p := fun K => emB K (.ref (cad K 25)) [(25, true)]) rfl)
  have c_History_read : GcX P w K mg base 6 9 "History" "read" ["cls", "text"] r_History_read_sx := ⟨_, _, _, (cm_of (c.fact 48 (p := fun K => cmB K 9 "read") rfl)).1, (cm_of (c.fact 48 (p := fun K => cmB K 9 "read") rfl)).2, o_History_read_sx, (FunD.bindsN (ps := ["cls", "text"]) F_History_read_sx fun _ _ _ _ _ _ us hl => match us, hl with | [_, _], _ => rfl), He.glo_ok X G (c.fact 35 (p := fun K => (He.Fa.glo "History").ok K) rfl)⟩
  have gz__law_is_int : GfZ P w K mg base 1 "_law_is_int" ["_law_value"] r_l_is_int := ⟨_, _, oz_l_is_int, He.glo_ok X G (c.fact 49 (p := fun K => (He.Fa.glo "_law_is_int").ok K) rfl), F_l_is_int.kp, (FunD.bindsN (ps := ["_law_value"]) F_l_is_int fun _ _ _ _ _ _ us hl => match us, hl with | [_], _ => rfl)⟩
  have m_History_text : Gm P w K mg base 2 9 "text" ["self"] r_History_text := ⟨_, _, o_History_text, ⟨He.cls_ok (c.fact 50 (p := fun K => (He.Fa.cls "History").ok K) rfl), He.meth_ok (c.fact 51 (p := fun K => (He.Fa.meth "History" "text").ok K) rfl), by decide⟩, (FunD.bindsN (ps := ["self"]) F_History_text fun _ _ _ _ _ _ us hl => match us, hl with | [_], _ => rfl)⟩
  have o_l_line_of_k36 := ok_l_line_of_k36 (P := P) (w := w) (mg := mg) (base := base) F_l_line_of_k36 ix_SmaltiError_25 g_SmaltiError n_isinstance ix_InvalidPicture_25 g_InvalidPicture fx_line_25 g_InvalidHistory em_InvalidHistory_25 c_History_read gz__law_is_int m_History_text
  have o_l_changed_k36 := ok_l_changed_k36 (P := P) (w := w) (mg := mg) (base := base) F_l_changed_k36 n_len g__law_take
  have o_l_is_letter := ok_l_is_letter (P := P) (w := w) (mg := mg) (base := base) F_l_is_letter n_len
  have g__law_is_letter : Gf P w K mg base 1 "_law_is_letter" ["_law_text"] r_l_is_letter := ⟨_, _, o_l_is_letter, He.glo_ok X G (c.fact 52 (p := fun K => (He.Fa.glo "_law_is_letter").ok K) rfl), F_l_is_letter.kp, (FunD.bindsN (ps := ["_law_text"]) F_l_is_letter fun _ _ _ _ _ _ us hl => match us, hl with | [_], _ => rfl)⟩
  have o_l_is_row_k36 := ok_l_is_row_k36 (P := P) (w := w) (mg := mg) (base := base) F_l_is_row_k36 n_len g__law_is_letter
  have o_l_is_digit_k36 := ok_l_is_digit_k36 (P := P) (w := w) (mg := mg) (base := base) F_l_is_digit_k36 n_len
  have g__law_is_digit : Gf P w K mg base 1 "_law_is_digit" ["_law_word", "_law_digits"] r_l_is_digit_k36 := ⟨_, _, o_l_is_digit_k36, He.glo_ok X G (c.fact 53 (p := fun K => (He.Fa.glo "_law_is_digit").ok K) rfl), F_l_is_digit_k36.kp, (FunD.bindsN (ps := ["_law_word", "_law_digits"]) F_l_is_digit_k36 fun _ _ _ _ _ _ us hl => match us, hl with | [_, _], _ => rfl)⟩
  have o_l_is_deed_k36 := ok_l_is_deed_k36 (P := P) (w := w) (mg := mg) (base := base) F_l_is_deed_k36 n_len g__law_is_digit g__law_is_letter
  have g__law_is_row : Gf P w K mg base 2 "_law_is_row" ["_law_row_here", "_law_wide"] r_l_is_row_k36 := ⟨_, _, o_l_is_row_k36, He.glo_ok X G (c.fact 54 (p := fun K => (He.Fa.glo "_law_is_row").ok K) rfl), F_l_is_row_k36.kp, (FunD.bindsN (ps := ["_law_row_here", "_law_wide"]) F_l_is_row_k36 fun _ _ _ _ _ _ us hl => match us, hl with | [_, _], _ => rfl)⟩
  have g__law_is_deed : Gf P w K mg base 2 "_law_is_deed" ["_law_line"] r_l_is_deed_k36 := ⟨_, _, o_l_is_deed_k36, He.glo_ok X G (c.fact 55 (p := fun K => (He.Fa.glo "_law_is_deed").ok K) rfl), F_l_is_deed_k36.kp, (FunD.bindsN (ps := ["_law_line"]) F_l_is_deed_k36 fun _ _ _ _ _ _ us hl => match us, hl with | [_], _ => rfl)⟩
  have o_l_bad_line_k36 := ok_l_bad_line_k36 (P := P) (w := w) (mg := mg) (base := base) F_l_bad_line_k36 n_len n_range g__law_is_row g__law_is_deed
  have g__law_bag : Gz P w K mg base 1 "_law_bag" ["_law_script"] 63 r_l_bag := ⟨_, _, o_l_bag, He.glo_ok X G (c.fact 56 (p := fun K => (He.Fa.glo "_law_bag").ok K) rfl), F_l_bag.kp, (FunD.bindsN (ps := ["_law_script"]) F_l_bag fun _ _ _ _ _ _ us hl => match us, hl with | [_], _ => rfl)⟩
  have g__law_palette : Gf P w K mg base 2 "_law_palette" ["_law_bag_here"] r_l_palette := ⟨_, _, o_l_palette, He.glo_ok X G (c.fact 57 (p := fun K => (He.Fa.glo "_law_palette").ok K) rfl), F_l_palette.kp, (FunD.bindsN (ps := ["_law_bag_here"]) F_l_palette fun _ _ _ _ _ _ us hl => match us, hl with | [_], _ => rfl)⟩
  have g__law_big_grid : Gf P w K mg base 3 "_law_big_grid" ["_law_bag_here", "_law_palette_here"] r_l_big_grid := ⟨_, _, o_l_big_grid, He.glo_ok X G (c.fact 58 (p := fun K => (He.Fa.glo "_law_big_grid").ok K) rfl), F_l_big_grid.kp, (FunD.bindsN (ps := ["_law_bag_here", "_law_palette_here"]) F_l_big_grid fun _ _ _ _ _ _ us hl => match us, hl with | [_, _], _ => rfl)⟩
  have g__law_tale_text : Gf P w K mg base 2 "_law_tale_text" ["_law_rows", "_law_deeds"] r_l_tale_text := ⟨_, _, o_l_tale_text, He.glo_ok X G (c.fact 59 (p := fun K => (He.Fa.glo "_law_tale_text").ok K) rfl), F_l_tale_text.kp, (FunD.bindsN (ps := ["_law_rows", "_law_deeds"]) F_l_tale_text fun _ _ _ _ _ _ us hl => match us, hl with | [_, _], _ => rfl)⟩
  have g__law_line_of : Gf P w K mg base 7 "_law_line_of" ["_law_text"] r_l_line_of_k36 := ⟨_, _, o_l_line_of_k36, He.glo_ok X G (c.fact 60 (p := fun K => (He.Fa.glo "_law_line_of").ok K) rfl), F_l_line_of_k36.kp, (FunD.bindsN (ps := ["_law_text"]) F_l_line_of_k36 fun _ _ _ _ _ _ us hl => match us, hl with | [_], _ => rfl)⟩
  have g__law_changed : Gf P w K mg base 2 "_law_changed" ["_law_bag_here", "_law_text"] r_l_changed_k36 := ⟨_, _, o_l_changed_k36, He.glo_ok X G (c.fact 61 (p := fun K => (He.Fa.glo "_law_changed").ok K) rfl), F_l_changed_k36.kp, (FunD.bindsN (ps := ["_law_bag_here", "_law_text"]) F_l_changed_k36 fun _ _ _ _ _ _ us hl => match us, hl with | [_, _], _ => rfl)⟩
  have g__law_bad_line : Gf P w K mg base 3 "_law_bad_line" ["_law_text"] r_l_bad_line_k36 := ⟨_, _, o_l_bad_line_k36, He.glo_ok X G (c.fact 62 (p := fun K => (He.Fa.glo "_law_bad_line").ok K) rfl), F_l_bad_line_k36.kp, (FunD.bindsN (ps := ["_law_text"]) F_l_bad_line_k36 fun _ _ _ _ _ _ us hl => match us, hl with | [_], _ => rfl)⟩
  have o_law_k36 := ok_law_k36 (P := P) (w := w) (mg := mg) (base := base) F_law_k36 n_range g__law_bag g__law_palette g__law_big_grid g__law_take g__law_tale_text g__law_line_of g__law_changed g__law_bad_line
  exact o_law_k36
end LAW
open PySem PySem.W PySem.Calls PyProof.Rows
theorem PySem.Challenge.cw_smalti_k36_history_refused_holds : PySem.Challenge.rw_smalti_k36_history_refused.Holds := by
  w_on; o_law
  refine HandSHeadRun.head_any (r := OpenLaw.row PySem.Challenge.rw_smalti_k36_history_refused) (q := view (OpenLaw.row PySem.Challenge.rw_smalti_k36_history_refused).prog [39]) (H := LAW.hk) (ob := LAW.ob) (M := 30000) (loose := LAW.nms) (d := HandSHeadRun.topDef (OpenLaw.row PySem.Challenge.rw_smalti_k36_history_refused).prog 39) (kwd := []) LAW.ob_eq
    (by kernel_rfl) (fun s => by kernel_rfl) LAW.run (by kernel_rfl) (by kernel_rfl) (by kernel_rfl) (by rfl) (by first | assumption | decide +kernel) (by decide +kernel) ⟨rfl, rfl, rfl, rfl, rfl, by decide +kernel⟩ ?hw ?hc
  case hw => w_witness2
  case hc =>
    refine SM.walk_law (l := PySem.Challenge.rw_smalti_k36_history_refused) (k := 8) (x := "_law_script") rfl (by kernel_rfl) ⟨rfl, by decide, by decide⟩ ?F
    intro w mg fa h Y G hmg0
    obtain ⟨K, KX, c⟩ := Y
    have hmg : mg ("law" : PySem.Str) = some (.ref fa) := by
      have e : (HandSHeadRun.topDef (OpenLaw.row PySem.Challenge.rw_smalti_k36_history_refused).prog 39).name = ("law" : PySem.Str) := by kernel_rfl
      rw [← e]
      exact hmg0
    obtain ⟨fd, hb, hF⟩ := LAW.facts (P := (PySem.Challenge.rw_smalti_k36_history_refused).prog) (w := w) KX G hmg c
    exact ⟨K, fd, KX, hb, hF⟩
