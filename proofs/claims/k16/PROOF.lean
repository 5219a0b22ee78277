import PyProof.Rows.All
import Wide.All
import OpenK.AllK
import Wide.FinOn
import HandS.ForMost
import HandS.ForExc
import HandS.Defaults
import HandS.DictComp
import HandS.Conv
import HandS.IsInst
import HandS.Star
import HandS.Property
import HandS.ClsMeth
import HandS.ExcInit
import HandS.ExcField
import HandS.ExcIs
import HandS.TryMany
import HandS.FStr
import HandS.Deep
import HandS.OwnEq
import HandS.SortRule
import HandS.SortKw
import HandS.Codes
import HandS.Head2
import HandS.HeadEnd
import HandS.HeadHook4
import KE.SortKeyHeap
import HandS.Style
import HandS.Flow
import HandS.Small
import HandS.RaiseMore
import HandS.ExcCtx
import HandS.HotCalls
import HandS.SuiteRaise
import HandS.RaiseFrom
import HandS.TryOnly
import HandS.Finally
import HandS.CallSlots
import KE.KCallOwn
import HandS.Text
import HandS.StrSplit
import KE.KOpsOwn
import PyProof.Draws
import PyProof.EnumMake
import HandS.Iter
import KE.KExcIs
import PyProof.StrOps2
import HandS.Nested
import KE.KSuper
import PyProof.CollectStr
import HandS.ExcValue
import HandS.MakeKwOnly
import OpenK.KMake
import HandS.ExcInitHot
import KE.GoesRaise
import PyProof.Rows.StrRev
import HandS.Hot
import PySem.Challenge.RW_smalti_k16_book_refused
set_option Elab.async false
set_option linter.all false
set_option maxRecDepth 100000
set_option maxHeartbeats 0
namespace SM
open PySem PySem.Spec PyProof.Rows L2
abbrev okS (s : Str) : Prop := s.length ≤ sizeLine ∧ PyData.strOk s = true
inductive D where
  | non | bl (b : Bool) | int (i : Int) | str (s : Str) | ty (n : String) | adr (a : Addr)
  | tup (ds : List D) | lst (ds : List D) | dT (kvs : List (List Key × D)) | ins (c : Nat) (ds : List D) | cls (c : Nat) | exn (a : Addr) (d : Option Addr) (c : Nat) (ds : List D)
inductive OO where
  | lst (ds : List D) | dT (kvs : List (List Key × D)) | ins (c : Nat) (ds : List D)
  | dF (od : Obj) (ws : List (List Key × V)) (kvs : List (List Key × D))   -- a dict that is walked: it may not change
abbrev Sto := Addr → Option OO
@[irreducible] def su (S : Sto) (a : Addr) (o : OO) : Sto := fun b => if b = a then some o else S b
@[irreducible] def sd (S : Sto) (a : Addr) : Sto := fun b => if b = a then none else S b
theorem sd_same {S : Sto} {a : Addr} : sd S a a = none := by unfold sd; exact if_pos rfl
theorem sd_ne {S : Sto} {a b : Addr} (h : b ≠ a) : sd S a b = S b := by unfold sd; exact if_neg h
def cnm : Nat → Str
  | 0 => "Region" | 1 => "Picture" | 2 => "Rule" | 3 => "CountRule" | 4 => "SameRule" | 5 => "Book" | 6 => "Sketch" | 7 => "Mender" | 8 => "Site" | 9 => "History" | 10 => "Clash" | 11 => "Case" | 12 => "State" | 13 => "Inquiry" | 14 => "Chronicle"
  | 20 => "SmaltiError" | 21 => "InvalidPicture" | 22 => "InvalidRule" | 23 => "InvalidBook" | 24 => "InvalidSketch" | 25 => "InvalidHistory" | 26 => "InvalidSign" | 27 => "InvalidSigns" | 28 => "InvalidLimit"
  | 30 => "OutOfPicture" | 31 => "NoStone" | 32 => "NoHole" | 33 => "EmptyCell" | 34 => "Opposed" | 35 => "NotOld" | 36 => "NotNew" | 37 => "SurelyOld" | 38 => "SurelyNew" | 39 => "SurelyAfter"
  | 40 => "NoRule" | 41 => "NoPhotograph" | 42 => "WrongStone" | 43 => "RuleClash" | 44 => "BadDeed" | 45 => "Impossible" | 46 => "TooManyCases" | 47 => "UnknownOption" | 48 => "UnequalSize" | 49 => "NothingToUndo" | 50 => "StillPossible"
  | _ => "?"
def cfs : Nat → List Str
  | 0 => ["found", "row"] | 1 => ["grid", "width", "height"] | 2 => ["stone", "parts"] | 3 => ["stone", "parts", "need"] | 4 => ["stone", "parts", "need"] | 5 => ["rules"] | 6 => ["width", "height", "table"] | 7 => ["known", "laid", "refused"] | 8 => ["book", "now", "past"]
  | 9 => ["first", "deeds"] | 10 => ["region", "refusals"] | 11 => ["book", "view", "solid", "held", "needed"] | 12 => ["view", "never", "certain", "needed", "loosened", "lacking"] | 13 => ["book", "sketch", "most", "past", "state"] | 14 => ["book", "sketch", "shots"]
  | 21 => ["line"] | 22 => ["part"] | 23 => ["line"] | 24 => ["line"] | 25 => ["line"] | 26 => ["sign"] | 27 => ["signs"] | 28 => ["value"]
  | 30 => ["x", "y"] | 31 => ["x", "y"] | 32 => ["x", "y"] | 33 => ["x", "y"] | 34 => ["x", "y"] | 35 => ["x", "y"] | 36 => ["x", "y"] | 37 => ["x", "y"] | 38 => ["x", "y"] | 39 => ["x", "y"]
  | 40 => ["number"] | 41 => ["number"] | 42 => ["stone"] | 43 => ["places"] | 44 => ["index"] | 45 => ["lacking"] | 46 => ["cases"] | 47 => ["name"]
  | _ => []
def cad (K : PySem.W.Frag) (c : Nat) : Addr := He.ga K (cnm c)
mutual
inductive Rp (K : PySem.W.Frag) (G : Hp) : V → D → Prop
  | non : Rp K G .non .non
  | bl (b : Bool) : Rp K G (.bl b) (.bl b)
  | int (i : Int) : Rp K G (.int i) (.int i)
  | str {s : Str} (h : okS s) : Rp K G (.str s) (.str s)
  | ty (n : String) : Rp K G (.ty n) (.ty n)
  | adr (a : Addr) : Rp K G (.ref a) (.adr a)
  | tup {a : Addr} {vs : List V} {ds : List D} : G a = some (.tup vs) → Rps K G vs ds → ds.length ≤ sizeLine → Rp K G (.ref a) (.tup ds)
  | lst {a : Addr} {vs : List V} {ds : List D} : G a = some (.lst vs) → Rps K G vs ds → ds.length ≤ sizeLine → Rp K G (.ref a) (.lst ds)
  | dT {a : Addr} {ws : List (List Key × V)} {kvs : List (List Key × D)} : G a = some (.dT ws) → Rkv K G ws kvs → Rp K G (.ref a) (.dT kvs)
  | ins {a dx : Addr} {c : Nat} {vs : List V} {ds : List D} : G a = some (.ins (cad K c) dx ((cfs c).zip vs)) → Rps K G vs ds → ds.length ≤ (cfs c).length → Rp K G (.ref a) (.ins c ds)
  | cls {a : Addr} (c : Nat) : a = cad K c → Rp K G (.ref a) (.cls c)
  | exn0 {a : Addr} (c : Nat) : Rp K G (.ref a) (.exn a none c [])
  | exn {a dd : Addr} {fs : List (Str × V)} {vs : List V} {c : Nat} {ds : List D} : G dd = some (.xd fs) → Rps K G vs ds → ds.length = (cfs c).length → (∀ (j : Nat) (fl : Str) (v : V), (cfs c)[j]? = some fl → vs[j]? = some v → fs.lookup fl = some v) → Rp K G (.ref a) (.exn a (some dd) c ds)
inductive Rps (K : PySem.W.Frag) (G : Hp) : List V → List D → Prop
  | nil : Rps K G [] []
  | cons {v : V} {d : D} {vs : List V} {ds : List D} : Rp K G v d → Rps K G vs ds → Rps K G (v :: vs) (d :: ds)
inductive Rkv (K : PySem.W.Frag) (G : Hp) : List (List Key × V) → List (List Key × D) → Prop
  | nil : Rkv K G [] []
  | cons {k : List Key} {v : V} {d : D} {ws : List (List Key × V)} {kvs : List (List Key × D)} : Rp K G v d → Rkv K G ws kvs → Rkv K G ((k, v) :: ws) ((k, d) :: kvs)
end
variable {K : PySem.W.Frag} {G G' G2 H H' H2 : Hp} {S S' S2 : Sto}
mutual
theorem Rp.mono (s : Same G G') : ∀ {v : V} {d : D}, Rp K G v d → Rp K G' v d
  | _, _, .non => .non
  | _, _, .bl b => .bl b
  | _, _, .int i => .int i
  | _, _, .str h => .str h
  | _, _, .ty n => .ty n
  | _, _, .adr a => .adr a
  | _, _, .tup h r l => .tup (s _ _ h) (Rps.mono s r) l
  | _, _, .lst h r l => .lst (s _ _ h) (Rps.mono s r) l
  | _, _, .dT h r => .dT (s _ _ h) (Rkv.mono s r)
  | _, _, .ins h r l => .ins (s _ _ h) (Rps.mono s r) l
  | _, _, .cls c h => .cls c h
  | _, _, .exn0 c => .exn0 c
  | _, _, .exn h r l q => .exn (s _ _ h) (Rps.mono s r) l q
theorem Rps.mono (s : Same G G') : ∀ {vs : List V} {ds : List D}, Rps K G vs ds → Rps K G' vs ds
  | _, _, .nil => .nil
  | _, _, .cons h r => .cons (Rp.mono s h) (Rps.mono s r)
theorem Rkv.mono (s : Same G G') : ∀ {vs : List (List Key × V)} {ds : List (List Key × D)}, Rkv K G vs ds → Rkv K G' vs ds
  | _, _, .nil => .nil
  | _, _, .cons h r => .cons (Rp.mono s h) (Rkv.mono s r)
end
theorem Rps.length : ∀ {vs : List V} {ds : List D}, Rps K G vs ds → vs.length = ds.length
  | _, _, .nil => rfl
  | _, _, .cons _ r => congrArg Nat.succ (Rps.length r)
theorem Rps.get : ∀ {vs : List V} {ds : List D} {i : Nat} {d : D}, Rps K G vs ds → ds[i]? = some d → ∃ v, vs[i]? = some v ∧ Rp K G v d
  | _, _, _, _, .nil, e => by simp at e
  | _, _, 0, _, .cons h _, e => by simp at e; subst e; exact ⟨_, rfl, h⟩
  | _, _, i + 1, d, .cons _ r, e => by
    obtain ⟨v, h1, h2⟩ := Rps.get (i := i) r (by simpa using e)
    exact ⟨v, by simpa using h1, h2⟩
theorem Rps.set {v : V} {d : D} (r : Rp K G v d) : ∀ {vs : List V} {ds : List D} (i : Nat), Rps K G vs ds → Rps K G (vs.set i v) (ds.set i d)
  | _, _, _, .nil => .nil
  | _, _, 0, .cons _ t => .cons r t
  | _, _, i + 1, .cons q t => .cons q (Rps.set r i t)
theorem Rps.take : ∀ {vs : List V} {ds : List D} (n : Nat), Rps K G vs ds → Rps K G (vs.take n) (ds.take n)
  | _, _, 0, _ => .nil
  | _, _, _ + 1, .nil => .nil
  | _, _, n + 1, .cons r t => .cons r (Rps.take n t)
theorem Rps.drop : ∀ {vs : List V} {ds : List D} (n : Nat), Rps K G vs ds → Rps K G (vs.drop n) (ds.drop n)
  | _, _, 0, r => r
  | _, _, _ + 1, .nil => .nil
  | _, _, n + 1, .cons _ t => Rps.drop n t
def isD : HO → Bool
  | .dT _ => true
  | .dK _ => true
  | _ => false
def Le (G H : Hp) : Prop := ∀ a u, G a = some u → H a = some u ∨ (isD u = true ∧ ∃ o, H a = some (.frz o u))
def RO (K : PySem.W.Frag) (G : Hp) (h : Option HO) : OO → Prop
  | .lst ds => ∃ vs, h = some (.lst vs) ∧ Rps K G vs ds ∧ ds.length ≤ sizeLine
  | .dT kvs => ∃ ws, h = some (.dT ws) ∧ Rkv K G ws kvs
  | .ins c ds => ∃ dx vs, h = some (.ins (cad K c) dx ((cfs c).zip vs)) ∧ Rps K G vs ds ∧ ds.length ≤ (cfs c).length
  | .dF od ws kvs => h = some (.frz od (.dT ws)) ∧ Rkv K G ws kvs
theorem RO.mono (s : Same G G') {h : Option HO} : ∀ {o : OO}, RO K G h o → RO K G' h o
  | .lst _, ⟨vs, e, r, l⟩ => ⟨vs, e, r.mono s, l⟩
  | .dT _, ⟨vs, e, r⟩ => ⟨vs, e, r.mono s⟩
  | .ins _ _, ⟨dx, vs, e, r, l⟩ => ⟨dx, vs, e, r.mono s, l⟩
  | .dF _ _ _, ⟨e, r⟩ => ⟨e, r.mono s⟩
theorem RO.some {h : Option HO} : ∀ {o : OO}, RO K G h o → ∃ u, h = Option.some u
  | .lst _, ⟨vs, e, r⟩ => ⟨_, e⟩
  | .dT _, ⟨vs, e, r⟩ => ⟨_, e⟩
  | .ins _ _, ⟨dx, vs, e, r, l⟩ => ⟨_, e⟩
  | .dF _ _ _, ⟨e, r⟩ => ⟨_, e⟩
structure Rel (K : PySem.W.Frag) (G H : Hp) (S : Sto) : Prop where
  le : Le G H
  own : ∀ a o, S a = some o → G a = none ∧ RO K G (H a) o
theorem Rel.at (r : Rel K G H S) {a : Addr} {u : HO} (h : G a = some u) (n : isD u = false) : H a = some u := by
  rcases r.le a u h with q | ⟨q, _⟩
  · exact q
  · rw [n] at q; cases q
theorem Rel.rd (r : Rel K G H S) {a : Addr} {u : HO} (h : G a = some u) : Rd H a u := by
  rcases r.le a u h with q | ⟨_, o, q⟩
  · exact .inl q
  · exact .inr ⟨o, q⟩
theorem Rel.free (r : Rel K G H S) {a : Addr} (h : H a = none) : G a = none ∧ S a = none := by
  constructor
  · cases q : G a with
    | none => rfl
    | some u => rcases r.le a u q with z | ⟨_, o, z⟩ <;> (rw [h] at z; cases z)
  · cases q : S a with
    | none => rfl
    | some u =>
      obtain ⟨w, e⟩ := (r.own a u q).2.some
      rw [h] at e; cases e
structure Stp (K : PySem.W.Frag) (G H : Hp) (S : Sto) (G' H' : Hp) (S' : Sto) : Prop where
  sg : Same G G'
  rel : Rel K G' H' S'
  fr : ∀ b o, H b = some o → G b = none → S b = none → H' b = some o ∧ S' b = none ∧ (G' b = none ∨ ∃ vs, o = .tup vs)
theorem Stp.trans (a : Stp K G H S G' H' S') (b : Stp K G' H' S' G2 H2 S2) : Stp K G H S G2 H2 S2 where
  sg := a.sg.trans b.sg
  rel := b.rel
  fr := fun c o h g s => by
    obtain ⟨h1, s1, g1⟩ := a.fr c o h g s
    cases q : G' c with
    | none => exact b.fr c o h1 q s1
    | some u =>
      rcases g1 with g1 | ⟨vs, rfl⟩
      · rw [q] at g1; cases g1
      · have q2 := b.sg c u q
        have eu : u = .tup vs := by
          rcases a.rel.le c u q with z | ⟨_, o, z⟩
          · rw [h1] at z; exact (Option.some.inj z).symm
          · rw [h1] at z; cases z
        subst eu
        refine ⟨b.rel.at q2 rfl, ?_, .inr ⟨vs, rfl⟩⟩
        cases z : S2 c with
        | none => rfl
        | some w => rw [(b.rel.own c w z).1] at q2; cases q2
theorem Stp.frz (r : Rel K G H S) {p : Addr} {u : HO} {o : OO} (h : S p = some o) (hu : H p = some u) : Stp K G H S (upd G p u) H (sd S p) where
  sg := fun b w e => by
    have hb : b ≠ p := fun z => by subst z; rw [(r.own _ _ h).1] at e; cases e
    rw [upd_ne hb]; exact e
  rel := {
    le := fun b w e => by
      by_cases hb : b = p
      · subst hb; rw [upd_same] at e; cases e; exact .inl hu
      · rw [upd_ne hb] at e; exact r.le b w e
    own := fun b w e => by
      by_cases hb : b = p
      · subst hb; rw [sd_same] at e; cases e
      · rw [sd_ne hb] at e; rw [upd_ne hb]
        refine ⟨(r.own b w e).1, (r.own b w e).2.mono fun c w q => ?_⟩
        have hc : c ≠ p := fun z => by subst z; rw [(r.own _ _ h).1] at q; cases q
        rw [upd_ne hc]; exact q }
  fr := fun b w e g s => by
    have hb : b ≠ p := fun z => by subst z; rw [h] at s; cases s
    rw [upd_ne hb, sd_ne hb]; exact ⟨e, s, .inl g⟩
theorem Stp.drop (r : Rel K G H S) {p : Addr} : Stp K G H S G H (sd S p) where
  sg := fun b w e => e
  rel := {
    le := r.le
    own := fun b w e => by
      by_cases hb : b = p
      · subst hb; rw [sd_same] at e; cases e
      · rw [sd_ne hb] at e; exact r.own b w e }
  fr := fun b w e g s => by
    refine ⟨e, ?_, .inl g⟩
    by_cases hb : b = p
    · subst hb; exact sd_same
    · rw [sd_ne hb]; exact s
def vw (S : Sto) : D → D
  | .adr a => match S a with
    | some (.lst ds) => .lst ds
    | some (.dT kvs) => .dT kvs
    | some (.ins c ds) => .ins c ds
    | some (.dF _ _ kvs) => .dT kvs
    | none => .adr a
  | d => d
structure vwk (S : Sto) (x : D) (k : D → Prop) : Prop where
  it : k (vw S x)
structure itk {α : Type} (xs : List α) (i : Int) (k : α → Prop) : Prop where
  it : ∃ d, atI xs i = some d ∧ k d
structure brn (b : Bool) (A B : Prop) : Prop where
  it : if b = true then A else B
end SM
namespace SM
open PySem PySem.Spec PyProof.Rows L2
abbrev DS := List (Option D)
def nth : DS → Nat → Option D
  | [], _ => none
  | x :: _, 0 => x
  | _ :: r, n + 1 => nth r n
def put : DS → Nat → D → DS
  | [], _, _ => []
  | _ :: r, 0, d => some d :: r
  | x :: r, n + 1, d => x :: put r n d
def unset : DS → Nat → DS
  | [], _ => []
  | _ :: r, 0 => none :: r
  | x :: r, n + 1 => x :: unset r n
structure Exn where
  c : Nat
  ds : List D
abbrev DQ := D → Sto → Prop
abbrev XQ := Exn → Sto → Prop
abbrev DTE := DS → Sto → DQ → XQ → Prop
abbrev DTT := DS → Sto → (Bool → Sto → Prop) → XQ → Prop
abbrev DTA := DS → Sto → (List D → Sto → Prop) → XQ → Prop
structure DEnds where
  nx : DS → Sto → Prop
  rt : DQ
  bk : DS → Sto → Prop
  ct : DS → Sto → Prop
  xc : Exn → DS → Sto → Prop
abbrev DTS := DEnds → DS → Sto → Prop
abbrev DSp := List D → Sto → DQ → XQ → Prop
abbrev DTG := D → DS → Sto → (DS → Sto → Prop) → Prop
abbrev DTGs := List D → DS → Sto → (DS → Sto → Prop) → Prop
abbrev Gd := Option (Addr × OO)
def gok : Gd → Sto → Prop
  | none, _ => True
  | some (a, o), S => S a = some o
abbrev DTI := DS → Sto → (Gd → List D → Sto → Prop) → XQ → Prop
variable {K : PySem.W.Frag} {G G' G2 H H' H2 : Hp} {S S' S2 : Sto}
structure RpE (K : PySem.W.Frag) (G : Hp) (σ : L2.St) (δ : DS) : Prop where
  len : σ.length = δ.length
  at_ : ∀ i d, nth δ i = some d → ∃ v, σ[i]? = some (some v) ∧ Rp K G v d
theorem RpE.mono {σ : L2.St} {δ : DS} (s : Same G G') (h : RpE K G σ δ) : RpE K G' σ δ := ⟨h.len, fun i d e => let ⟨v, a, b⟩ := h.at_ i d e; ⟨v, a, b.mono s⟩⟩
theorem nth_put : ∀ (δ : DS) (i j : Nat) (d e : D), nth (put δ i d) j = some e → (j = i ∧ i < δ.length ∧ e = d) ∨ (j ≠ i ∧ nth δ j = some e)
  | [], _, _, _, _, h => by simp [put, nth] at h
  | x :: r, 0, 0, d, e, h => by simp [put, nth] at h; exact .inl ⟨rfl, by simp, h.symm⟩
  | x :: r, 0, j + 1, d, e, h => by simp [put, nth] at h; exact .inr ⟨by simp, by simpa [nth] using h⟩
  | x :: r, i + 1, 0, d, e, h => by simp [put, nth] at h; exact .inr ⟨by simp, by simpa [nth] using h⟩
  | x :: r, i + 1, j + 1, d, e, h => by
    simp only [put, nth] at h
    rcases nth_put r i j d e h with ⟨a, b, c⟩ | ⟨a, b⟩
    · exact .inl ⟨by omega, by simp; omega, c⟩
    · exact .inr ⟨by omega, by simpa [nth] using b⟩
theorem put_len : ∀ (δ : DS) (i : Nat) (d : D), (put δ i d).length = δ.length
  | [], _, _ => rfl
  | _ :: _, 0, _ => rfl
  | _ :: r, i + 1, d => congrArg Nat.succ (put_len r i d)
theorem nth_unset : ∀ (δ : DS) (i j : Nat) (e : D), nth (unset δ i) j = some e → j ≠ i ∧ nth δ j = some e
  | [], _, _, _, h => by simp [unset, nth] at h
  | x :: r, 0, 0, e, h => by simp [unset, nth] at h
  | x :: r, 0, j + 1, e, h => by simp [unset, nth] at h; exact ⟨by simp, by simpa [nth] using h⟩
  | x :: r, i + 1, 0, e, h => by simp [unset, nth] at h; exact ⟨by simp, by simpa [nth] using h⟩
  | x :: r, i + 1, j + 1, e, h => by
    simp only [unset, nth] at h
    obtain ⟨a, b⟩ := nth_unset r i j e h
    exact ⟨by omega, by simpa [nth] using b⟩
theorem unset_len : ∀ (δ : DS) (i : Nat), (unset δ i).length = δ.length
  | [], _ => rfl
  | _ :: _, 0 => rfl
  | _ :: r, i + 1 => congrArg Nat.succ (unset_len r i)
theorem RpE.put {σ : L2.St} {δ : DS} {v : V} {d : D} (i : Nat) (h : RpE K G σ δ) (r : Rp K G v d) : RpE K G (σ.set i (some v)) (put δ i d) := by
  refine ⟨by rw [List.length_set, put_len, h.len], fun j e he => ?_⟩
  rcases nth_put δ i j d e he with ⟨rfl, hl, rfl⟩ | ⟨hne, q⟩
  · exact ⟨v, by rw [List.getElem?_set_self (by rw [h.len]; exact hl)], r⟩
  · obtain ⟨u, a, b⟩ := h.at_ j e q
    exact ⟨u, by rw [List.getElem?_set_ne (Ne.symm hne)]; exact a, b⟩
theorem RpE.unset {σ : L2.St} {δ : DS} (i : Nat) (h : RpE K G σ δ) : RpE K G (σ.set i none) (unset δ i) := by
  refine ⟨by rw [List.length_set, unset_len, h.len], fun j e he => ?_⟩
  obtain ⟨hne, q⟩ := nth_unset δ i j e he
  obtain ⟨u, a, b⟩ := h.at_ j e q
  exact ⟨u, by rw [List.getElem?_set_ne (Ne.symm hne)]; exact a, b⟩
def Rx (K : PySem.W.Frag) (G : Hp) (cls : Value) (d : Option Addr) (x : Exn) : Prop :=
  cls = .ref (cad K x.c) ∧ ((x.ds = [] ∧ d = none) ∨ ∃ dd fs vs, d = some dd ∧ G dd = some (.xd fs) ∧ Rps K G vs x.ds ∧ x.ds.length = (cfs x.c).length ∧ ∀ (j : Nat) (fl : Str) (v : V), (cfs x.c)[j]? = some fl → vs[j]? = some v → fs.lookup fl = some v)
theorem Rx.mono {cls : Value} {d : Option Addr} {x : Exn} (s : Same G G') (h : Rx K G cls d x) : Rx K G' cls d x := by
  obtain ⟨e, h⟩ := h
  refine ⟨e, ?_⟩
  rcases h with h | ⟨dd, fs, vs, a, b, c, l⟩
  · exact .inl h
  · exact .inr ⟨dd, fs, vs, a, s _ _ b, c.mono s, l⟩
theorem takes0N {X : Cx} : L2N.Takes X (fun _ _ _ _ => False) := fun u s' ⟨_, _, _, _, _, _, _, _, _, _, _, _, _, _, _, _, w⟩ => w.elim
def KX (K : PySem.W.Frag) (W : WX) (σ : L2.St) (G H : Hp) (S : Sto) (XD : XQ) : Prop := ∀ G' H' S' cls d x, Stp K G H S G' H' S' → Rx K G' cls d x → XD x S' → W cls d σ H'
def liftE (K : PySem.W.Frag) (W : WX) (td : DTE) : TE := fun σ H Q => ∃ G δ S QD XD, RpE K G σ δ ∧ Rel K G H S ∧ td δ S QD XD ∧ (∀ G' H' S' v d, Stp K G H S G' H' S' → Rp K G' v d → QD d S' → Q v H') ∧ KX K W σ G H S XD
def liftT (K : PySem.W.Frag) (W : WX) (td : DTT) : TT := fun σ H Q => ∃ G δ S QD XD, RpE K G σ δ ∧ Rel K G H S ∧ td δ S QD XD ∧ (∀ G' H' S' b, Stp K G H S G' H' S' → QD b S' → Q b H') ∧ KX K W σ G H S XD
def liftA (K : PySem.W.Frag) (W : WX) (td : DTA) : TA := fun σ H Q => ∃ G δ S QD XD, RpE K G σ δ ∧ Rel K G H S ∧ td δ S QD XD ∧ (∀ G' H' S' vs ds, Stp K G H S G' H' S' → Rps K G' vs ds → QD ds S' → Q vs H') ∧ KX K W σ G H S XD
structure ER (K : PySem.W.Frag) (W : WX) (G H : Hp) (S : Sto) (E : DEnds) (D : Ends) : Prop where
  nx : ∀ G' H' S' σ' δ', Stp K G H S G' H' S' → RpE K G' σ' δ' → E.nx δ' S' → D.nx σ' H'
  rt : ∀ G' H' S' v d, Stp K G H S G' H' S' → Rp K G' v d → E.rt d S' → D.rt v H'
  bk : ∀ G' H' S' σ' δ', Stp K G H S G' H' S' → RpE K G' σ' δ' → E.bk δ' S' → D.bk σ' H'
  ct : ∀ G' H' S' σ' δ', Stp K G H S G' H' S' → RpE K G' σ' δ' → E.ct δ' S' → D.ct σ' H'
  xc : ∀ G' H' S' σ' δ' cls d x, Stp K G H S G' H' S' → RpE K G' σ' δ' → Rx K G' cls d x → E.xc x δ' S' → W cls d σ' H'
def liftS (K : PySem.W.Frag) (W : WX) (ts : DTS) : TS := fun D σ H => ∃ G δ S E, RpE K G σ δ ∧ Rel K G H S ∧ ts E δ S ∧ ER K W G H S E D
def liftG (K : PySem.W.Frag) (g : DTG) : TG := fun v σ H Q => ∃ G δ S d QD, RpE K G σ δ ∧ Rel K G H S ∧ Rp K G v d ∧ g d δ S QD ∧ ∀ G' H' S' σ' δ', Stp K G H S G' H' S' → RpE K G' σ' δ' → QD δ' S' → Q σ' H'
def liftGs (K : PySem.W.Frag) (g : DTGs) : TGs := fun vs σ H Q => ∃ G δ S ds QD, RpE K G σ δ ∧ Rel K G H S ∧ Rps K G vs ds ∧ g ds δ S QD ∧ ∀ G' H' S' σ' δ', Stp K G H S G' H' S' → RpE K G' σ' δ' → QD δ' S' → Q σ' H'
def ItD (K : PySem.W.Frag) (G : Hp) (gd : Gd) (J : It) (xs : List D) : Prop := ∀ G1 H1 S1, Same G G1 → Rel K G1 H1 S1 → gok gd S1 → ∀ i, (i < xs.length → J.go i H1 ∧ ∀ x H2, J.yld i H1 x H2 → ∃ G2, Stp K G1 H1 S1 G2 H2 S1 ∧ ∀ d, xs[i]? = some d → Rp K G2 x d) ∧ (xs.length ≤ i → J.stop i H1)
def liftI (K : PySem.W.Frag) (W : WX) (ti : DTI) : TI := fun σ H R => ∃ G δ S QD XD, RpE K G σ δ ∧ Rel K G H S ∧ ti δ S QD XD ∧ (∀ G' H' S' J gd xs, Stp K G H S G' H' S' → ItD K G' gd J xs → xs.length ≤ sizeLine → QD gd xs S' → R J H') ∧ KX K W σ G H S XD
theorem ItD.mono {J : It} {gd : Gd} {xs : List D} (s : Same G G') (h : ItD K G gd J xs) : ItD K G' gd J xs := fun G1 H1 S1 a r => h G1 H1 S1 (s.trans a) r
structure PD (X : Cx) (e : Expr) (td : DTE) : Prop where
  run : ∀ W, L2N.Takes X W → PE X e (liftE X.K W td)
structure PDT (X : Cx) (e : Expr) (td : DTT) : Prop where
  run : ∀ W, L2N.Takes X W → PT X e (liftT X.K W td)
structure PDW (X : Cx) (e : Expr) (td : DTT) : Prop where
  run : ∀ W, L2N.Takes X W → PW X e (liftT X.K W td)
structure PDA (X : Cx) (es : List Expr) (td : DTA) : Prop where
  run : ∀ W, L2N.Takes X W → PA X es (liftA X.K W td)
structure PDS (X : Cx) (st : Stmt) (ts : DTS) : Prop where
  run : ∀ W, L2N.Takes X W → PassesOwn (model X.prog X.w) X.A X.env X.xe → PS X st (liftS X.K W ts)
structure PDSs (X : Cx) (st : List Stmt) (ts : DTS) : Prop where
  run : ∀ W, L2N.Takes X W → PassesOwn (model X.prog X.w) X.A X.env X.xe → PSs X st (liftS X.K W ts)
structure PDI (X : Cx) (tg iter : Expr) (ti : DTI) : Prop where
  run : ∀ W, L2N.Takes X W → PI X tg iter (liftI X.K W ti)
structure PDG (X : Cx) (tg : Expr) (g : DTG) : Prop where
  run : PG X tg (liftG X.K g)
structure PDGs (X : Cx) (tgs : List Expr) (g : DTGs) : Prop where
  run : PGs X tgs (liftGs X.K g)
section
variable {X : Cx} {e a b c : Expr} {es : List Expr} {st : Stmt} {sts : List Stmt} {pos : Pos} {W : WX}
theorem ER.kx {E : DEnds} {D : Ends} {σ : L2.St} {δ : DS} (k : ER K W G H S E D) (re : RpE K G σ δ) : KX K W σ G H S (fun x S' => E.xc x δ S') := fun G' H' S' cls d x st r q => k.xc G' H' S' σ δ cls d x st (re.mono st.sg) r q
end
end SM
namespace SM
open PySem PySem.Spec PyProof.Rows L2
variable {K : PySem.W.Frag} {G G' G2 H H' H2 : Hp} {S S' S2 : Sto}
mutual
def toP : D → PyData
  | .bl b => .bool b
  | .int i => .int i
  | .str s => .str s
  | .tup ds => .tuple (toPs ds)
  | .lst ds => .list (toPs ds)
  | _ => .none
def toPs : List D → List PyData
  | [] => []
  | d :: r => toP d :: toPs r
end
mutual
def pln : Nat → D → Bool
  | _, .non => true
  | _, .bl _ => true
  | _, .int _ => true
  | _, .str _ => true
  | n + 1, .tup ds => plns n ds
  | n + 1, .lst ds => plns n ds
  | _, _ => false
def plns : Nat → List D → Bool
  | _, [] => true
  | n, d :: r => pln n d && plns n r
end
mutual
theorem dp_of (r : Rel K G H S) : ∀ (n : Nat) (d : D) (v : V), Rp K G v d → pln n d = true → Dp K H v (toP d) ∧ PyData.canLay0 (toP d) = true ∧ (toP d).depth ≤ n
  | n, _, _, .non, _ => ⟨.non, rfl, by simp [toP, PyData.depth]⟩
  | n, _, _, .bl b, _ => ⟨.bl b, rfl, by simp [toP, PyData.depth]⟩
  | n, _, _, .int i, _ => ⟨.int i, rfl, by simp [toP, PyData.depth]⟩
  | n, _, _, .str h, _ => ⟨.str _, by simp [toP, PyData.canLay0, h.2], by simp [toP, PyData.depth]⟩
  | 0, _, _, .tup h q l, e => by simp [pln] at e
  | 0, _, _, .lst h q l, e => by simp [pln] at e
  | n + 1, _, _, .tup h q l, e => by
    obtain ⟨a, b, c⟩ := dps_of r n _ _ q (by simpa [pln] using e)
    exact ⟨.tup (SqT.of (r.at h rfl)) a, by simpa [toP, PyData.canLay0] using b, by simp only [toP, PyData.depth]; omega⟩
  | n + 1, _, _, .lst h q l, e => by
    obtain ⟨a, b, c⟩ := dps_of r n _ _ q (by simpa [pln] using e)
    exact ⟨.lst (SqL.of (r.at h rfl)) a, by simpa [toP, PyData.canLay0] using b, by simp only [toP, PyData.depth]; omega⟩
  | n, _, _, .ty _, e => by cases n <;> simp [pln] at e
  | n, _, _, .adr _, e => by cases n <;> simp [pln] at e
  | n, _, _, .dT _ _, e => by cases n <;> simp [pln] at e
  | n, _, _, .ins _ _ _, e => by cases n <;> simp [pln] at e
  | n, _, _, .cls _ _, e => by cases n <;> simp [pln] at e
  | n, _, _, .exn0 _, e => by cases n <;> simp [pln] at e
  | n, _, _, .exn _ _ _ _, e => by cases n <;> simp [pln] at e
theorem dps_of (r : Rel K G H S) : ∀ (n : Nat) (ds : List D) (vs : List V), Rps K G vs ds → plns n ds = true → DpAll K H vs (toPs ds) ∧ PyData.canLayAll0 (toPs ds) = true ∧ PyData.depthAll (toPs ds) ≤ n
  | n, _, _, .nil, _ => ⟨.nil, rfl, by simp [toPs, PyData.depthAll]⟩
  | n, _, _, .cons h q, e => by
    simp only [plns, Bool.and_eq_true] at e
    obtain ⟨a, b, c⟩ := dp_of r n _ _ h e.1
    obtain ⟨a', b', c'⟩ := dps_of r n _ _ q e.2
    exact ⟨.cons a a', by simp [toPs, PyData.canLayAll0, b, b'], by simp only [toPs, PyData.depthAll]; omega⟩
end
section
variable {X : Cx} {e a b c : Expr} {es : List Expr} {st : Stmt} {sts : List Stmt} {pos : Pos} {W : WX} {k : Nat}
end
end SM
namespace SM
open PySem PySem.Spec PyProof.Rows L2
variable {K : PySem.W.Frag} {G G' G2 H H' H2 : Hp} {S S' S2 : Sto}
section
variable {X : Cx} {e a b c : Expr} {es : List Expr} {st : Stmt} {sts : List Stmt} {pos : Pos} {W : WX} {k : Nat}
end
end SM
namespace SM
open PySem PySem.Spec PyProof.Rows L2
variable {K : PySem.W.Frag} {G G' G2 H H' H2 : Hp} {S S' S2 : Sto}
section
variable {X : Cx} {e a b c o i : Expr} {es : List Expr} {st : Stmt} {sts : List Stmt} {pos p apos cpos : Pos} {W : WX} {k : Nat} {x : Str}
def dKey : D → Option Key
  | .int i => some (.inl i)
  | .str s => some (.inr s)
  | _ => none
def dKeys : List D → Option (List Key)
  | [] => some []
  | d :: r => match dKey d, dKeys r with
    | some k, some ks => some (k :: ks)
    | _, _ => none
end
end SM
namespace SM
open PySem PySem.Spec PyProof.Rows L2
variable {K : PySem.W.Frag} {G G' G2 H H' H2 : Hp} {S S' S2 : Sto}
section
variable {X : Cx} {e a b c o i : Expr} {es : List Expr} {st : Stmt} {sts : List Stmt} {pos p apos cpos pos' : Pos} {W : WX} {k : Nat} {x : Str}
abbrev DTO := DS → Sto → (Option Int → Sto → Prop) → XQ → Prop
def liftO (K : PySem.W.Frag) (W : WX) (td : DTO) : TO := fun σ H Q => ∃ G δ S QD XD, RpE K G σ δ ∧ Rel K G H S ∧ td δ S QD XD ∧ (∀ G' H' S' o, Stp K G H S G' H' S' → QD o S' → Q o H') ∧ KX K W σ G H S XD
structure PDO (X : Cx) (e : Option Expr) (td : DTO) : Prop where
  run : ∀ W, L2N.Takes X W → PO X e (liftO X.K W td)
inductive Pat where
  | nm (i : Nat) | tp (ps : List Pat)
mutual
def pG (K : PySem.W.Frag) : Pat → TG
  | .nm i => gName i
  | .tp ps => gTup K ps.length (pGs K ps)
def pGs (K : PySem.W.Frag) : List Pat → TGs
  | [] => gNil
  | q :: r => gCons (pG K q) (pGs K r)
end
mutual
def bindP : Pat → D → DS → Option DS
  | .nm i, d, δ => some (put δ i d)
  | .tp ps, .tup ds, δ => bindPs ps ds δ
  | .tp _, _, _ => none
def bindPs : List Pat → List D → DS → Option DS
  | [], [], δ => some δ
  | q :: ps, d :: ds, δ => match bindP q d δ with
    | some δ1 => bindPs ps ds δ1
    | none => none
  | _, _, _ => none
end
mutual
def slots : Pat → List Nat
  | .nm i => [i]
  | .tp ps => slotss ps
def slotss : List Pat → List Nat
  | [] => []
  | q :: r => slots q ++ slotss r
end
def Agr (l : List Nat) (σ σ' : L2.St) : Prop := σ'.length = σ.length ∧ ∀ i, i ∉ l → σ'[i]? = σ[i]?
mutual
theorem pG_run (rl : Rel K G H S) : ∀ (q : Pat) (d : D) (v : V) (σ : L2.St) (δ δ' : DS), RpE K G σ δ → Rp K G v d → bindP q d δ = some δ' → ∃ σ', (∀ Q : L2.St → Hp → Prop, Q σ' H → pG K q v σ H Q) ∧ RpE K G σ' δ' ∧ Agr (slots q) σ σ'
  | .nm i, d, v, σ, δ, δ', re, rp, h => by
    cases h
    refine ⟨σ.set i (some v), fun Q q => by rw [pG]; exact q, re.put i rp, ?_, fun j hj => ?_⟩
    · rw [List.length_set]
    · rw [List.getElem?_set_ne]; intro z; apply hj; simp [slots, z]
  | .tp ps, .tup ds, v, σ, δ, δ', re, rp, h => by
    cases rp with
    | tup hg rs l =>
    rename_i a vs
    obtain ⟨σ', h1, h2, h3⟩ := pGs_run rl ps ds vs σ δ δ' re rs (by simpa [bindP] using h)
    refine ⟨σ', fun Q q => ?_, h2, by simpa [slots] using h3⟩
    rw [pG]
    refine ⟨a, vs, rfl, SqT.of (rl.at hg rfl), ?_, h1 Q q⟩
    rw [rs.length]
    exact bindPs_len ps ds δ δ' (by simpa [bindP] using h)
  | .tp _, .non, _, _, _, _, _, _, h => by simp [bindP] at h
  | .tp _, .bl _, _, _, _, _, _, _, h => by simp [bindP] at h
  | .tp _, .int _, _, _, _, _, _, _, h => by simp [bindP] at h
  | .tp _, .str _, _, _, _, _, _, _, h => by simp [bindP] at h
  | .tp _, .ty _, _, _, _, _, _, _, h => by simp [bindP] at h
  | .tp _, .adr _, _, _, _, _, _, _, h => by simp [bindP] at h
  | .tp _, .lst _, _, _, _, _, _, _, h => by simp [bindP] at h
  | .tp _, .dT _, _, _, _, _, _, _, h => by simp [bindP] at h
  | .tp _, .ins _ _, _, _, _, _, _, _, h => by simp [bindP] at h
theorem pGs_run (rl : Rel K G H S) : ∀ (ps : List Pat) (ds : List D) (vs : List V) (σ : L2.St) (δ δ' : DS), RpE K G σ δ → Rps K G vs ds → bindPs ps ds δ = some δ' → ∃ σ', (∀ Q : L2.St → Hp → Prop, Q σ' H → pGs K ps vs σ H Q) ∧ RpE K G σ' δ' ∧ Agr (slotss ps) σ σ'
  | [], [], vs, σ, δ, δ', re, rs, h => by
    cases rs
    cases h
    exact ⟨σ, fun Q q => ⟨rfl, q⟩, re, rfl, fun _ _ => rfl⟩
  | q :: ps, d :: ds, vs, σ, δ, δ', re, rs, h => by
    cases rs with
    | cons r1 r2 =>
    rw [bindPs] at h
    split at h
    · rename_i δ1 e1
      obtain ⟨σ1, a1, a2, a3⟩ := pG_run rl q d _ σ δ δ1 re r1 e1
      obtain ⟨σ2, b1, b2, b3⟩ := pGs_run rl ps ds _ σ1 δ1 δ' a2 r2 h
      refine ⟨σ2, fun Q z => ?_, b2, b3.1.trans a3.1, fun i hi => ?_⟩
      · rw [pGs]; exact ⟨_, _, rfl, a1 _ (b1 Q z)⟩
      · simp only [slotss, List.mem_append, not_or] at hi
        rw [b3.2 i hi.2, a3.2 i hi.1]
    · cases h
  | [], _ :: _, _, _, _, _, _, _, h => by simp [bindPs] at h
  | _ :: _, [], _, _, _, _, _, _, h => by simp [bindPs] at h
theorem bindPs_len : ∀ (ps : List Pat) (ds : List D) (δ δ' : DS), bindPs ps ds δ = some δ' → ds.length = ps.length
  | [], [], _, _, _ => rfl
  | q :: ps, d :: ds, δ, δ', h => by
    rw [bindPs] at h
    split at h
    · rename_i δ1 e1
      rw [List.length_cons, List.length_cons, bindPs_len ps ds δ1 δ' h]
    · cases h
  | [], _ :: _, _, _, h => by simp [bindPs] at h
  | _ :: _, [], _, _, h => by simp [bindPs] at h
end
structure PDP (X : Cx) (tg : Expr) (q : Pat) : Prop where
  run : PG X tg (pG X.K q)
structure PDPs (X : Cx) (tgs : List Expr) (q : List Pat) : Prop where
  run : PGs X tgs (pGs X.K q)
end
end SM
namespace SM
open PySem PySem.Spec PyProof.Rows L2
variable {K : PySem.W.Frag} {G G' G2 H H' H2 : Hp} {S S' S2 : Sto}
section
variable {X : Cx} {e a b c o i : Expr} {es : List Expr} {st : Stmt} {sts rest : List Stmt} {pos p apos cpos pos' : Pos} {W : WX} {k : Nat} {x : Str} {t u : DTS} {te : DTE}
structure ownk (S : Sto) (a : Addr) (k : Option OO → Prop) : Prop where
  it : k (S a)
def dLoop (gd : Gd) (q : Pat) (tb : DTS) (E : DEnds) : List D → DS → Sto → Prop
  | [], δ, S => gok gd S ∧ E.nx δ S
  | d :: r, δ, S => gok gd S ∧ match bindP q d δ with
    | some δ1 => tb { E with nx := fun δ2 S2 => dLoop gd q tb E r δ2 S2, ct := fun δ2 S2 => dLoop gd q tb E r δ2 S2, bk := E.nx } δ1 S
    | none => False
structure loopK (gd : Gd) (q : Pat) (tb : DTS) (E : DEnds) (xs : List D) (δ : DS) (S : Sto) : Prop where
  it : dLoop gd q tb E xs δ S
end
end SM
namespace SM
open PySem PySem.Spec PyProof.Rows L2
variable {K : PySem.W.Frag} {G G' G2 H H' H2 : Hp} {S S' S2 : Sto}
def toSp (K : PySem.W.Frag) (R : DSp) : Sp := fun vs H Q E => ∃ G S ds QD XD, Rel K G H S ∧ Rps K G vs ds ∧ R ds S QD XD ∧ (∀ G' H' S' v d, Stp K G H S G' H' S' → Rp K G' v d → QD d S' → Q v H') ∧
  ∀ G' H' S' cls d x, Stp K G H S G' H' S' → Rx K G' cls d x → XD x S' → E cls d H'
def startD : List Str → List D → DS
  | [], _ => []
  | _ :: n, [] => none :: startD n []
  | _ :: n, d :: ds => some d :: startD n ds
section
variable {P : Program} {w : World} {mg : Str → Option Value} {base : Heap}
end
section
variable {X : Cx} {e a b c o i : Expr} {es : List Expr} {st : Stmt} {sts rest : List Stmt} {pos p apos cpos pos' : Pos} {W : WX} {k : Nat} {x m : Str} {t : DTA} {te : DTE} {f C : Addr} {fd : FuncData} {ps : List Str} {R : DSp} {dvs : List V} {dds : List D} {ds : List Value}
structure MOk (K : PySem.W.Frag) (c : Nat) (m : Str) (f : Addr) : Prop where
  cl : Cls K (cad K c)
  me : Meth K (cad K c) m f
  nf : m ∉ cfs c
end
end SM
namespace SM
open PySem PySem.Spec PyProof.Rows L2
variable {K : PySem.W.Frag} {G G' G2 H H' H2 : Hp} {S S' S2 : Sto}
section
variable {X : Cx} {e a b c o i : Expr} {es : List Expr} {st : Stmt} {sts rest : List Stmt} {pos p apos cpos pos' : Pos} {W : WX} {k : Nat} {x m fl : Str} {t : DTA} {te to : DTE} {f C : Addr} {fd : FuncData} {ps : List Str} {R : DSp} {dvs : List V} {dds : List D} {ds : List Value}
inductive Bt where
  | lst | str | dct
def Bt.nm : Bt → String
  | .lst => "list" | .str => "str" | .dct => "dict"
end
end SM
namespace SM
open PySem PySem.Spec PyProof.Rows L2
variable {K : PySem.W.Frag} {G G' G2 H H' H2 : Hp} {S S' S2 : Sto}
section
variable {k : D → Prop} {ko : Option OO → Prop} {ds : List D} {kvs : List (List Key × D)} {c : Nat} {a b : Addr} {o u : OO}
end
section
variable {X : Cx} {st : Stmt} {rest : List Stmt} {t u : DTS}
structure cutK (t u : DTS) (E : DEnds) (δ : DS) (S : Sto) : Prop where
  it : ∃ M : DS → Sto → Prop, t { E with nx := M } δ S ∧ ∀ δ' S', M δ' S' → u E δ' S'
end
structure Bag where
  cells : List Int
  at_ : Nat
  big : Int
  seed : Int
end SM
namespace SM
open PySem PySem.Spec PyProof.Rows L2
variable {K : PySem.W.Frag} {G G' G2 H H' H2 G0 H0 : Hp} {S S' S2 S0 : Sto}
def uns (δ : DS) : List Nat → DS
  | [] => δ
  | v :: vs => unset (uns δ vs) v
def noX : XQ := fun _ _ => False
def dLcL (gd : Gd) (q : Pat) (tt : DTT) (te : DTE) (δ : DS) : List D → Sto → (List D → Sto → Prop) → Prop
  | [], S, Q => gok gd S ∧ Q [] S
  | x :: r, S, Q => gok gd S ∧ match bindP q x δ with
    | some δ2 => tt δ2 S (fun b S3 => brn b (te δ2 S3 (fun d S4 => dLcL gd q tt te δ r S4 (fun ds S5 => Q (d :: ds) S5)) noX) (dLcL gd q tt te δ r S3 Q)) noX
    | none => False
structure lcK (gd : Gd) (q : Pat) (tt : DTT) (te : DTE) (δ : DS) (xs : List D) (S : Sto) (Q : List D → Sto → Prop) : Prop where
  it : dLcL gd q tt te δ xs S Q
structure PDTs (X : Cx) (ifs : List Expr) (tt : DTT) : Prop where
  run : ∀ W, L2N.Takes X W → PTs X ifs (liftT X.K W tt)
section
variable {X : Cx} {e a b c o i : Expr} {pos p : Pos} {W : WX} {k : Nat}
structure LcI (K : PySem.W.Frag) (G0 H0 : Hp) (S0 : Sto) (A : Addr) (G H : Hp) (S : Sto) (acc : List D) : Prop where
  st : Stp K G0 H0 S0 G H S
  ex : ∃ vs, H A = some (.lst vs) ∧ Rps K G vs acc
  hg : G A = none
  hs : S A = none
section
variable {elt tg iter : Expr} {ifs : List Expr} {scope : Scope} {own : List (Str × Nat)} {ti : DTI} {q : Pat} {tt : DTT} {te : DTE}
abbrev Cx.bk (X : Cx) (scope : Scope) (s : Shared) (H : Hp) (C : Addr) (cl : List (Str × Addr)) (fp : List Addr) : Cx := X.blk s H scope (compEnvC scope cl C X.env) fp
end
end
end SM
namespace SM
open PySem PySem.Spec PyProof.Rows L2
variable {K : PySem.W.Frag} {G G' G2 H H' H2 G0 H0 : Hp} {S S' S2 S0 : Sto}
section
variable {X : Cx} {e a b c o i : Expr} {es : List Expr} {pos p py spos : Pos} {W : WX} {k : Nat} {x y : Str} {t : DTA} {te : DTE} {f C : Addr} {fd : FuncData} {ps : List Str} {R : DSp} {dvs : List V} {dds : List D} {ds : List Value}
section
variable {elt tg iter : Expr} {ifs : List Expr} {scope : Scope} {own : List (Str × Nat)} {ti : DTI} {q : Pat} {tt : DTT}
end
def tagV (K : PySem.W.Frag) : Nat → Value
  | 100 => .type "NoneType" | 101 => .type "bool" | 102 => .type "int" | 103 => .type "str" | 104 => .type "tuple" | 105 => .type "list"
  | c => .ref (cad K c)
def clsB (K : PySem.W.Frag) (c : Nat) : Bool := PySem.W.plainGet K (cad K c) Str.empty && (PySem.W.hasDictIn K (cad K c) && (PySem.W.plainOver K (cad K c) && (He.eqO (PySem.W.findIn K (.ref (cad K c)) "__setattr__") (some (some (.builtin "object.__setattr__"))) &&
  (He.eqO (PySem.W.findIn K (.ref (cad K c)) "__class__") (some (some (.builtin "object.__class__"))) && (He.eqO (PySem.W.specialIn K (.builtin "object.__class__") "__get__") (some (some (.builtin "getset_descriptor.__get__"))) && (decide (PySem.W.takesIn K (.builtin "object.__class__") = some true) && decide (PySem.W.mroIn K (cad K c) (.type "object") = some true)))))))
def isiB (K : PySem.W.Frag) (u : Value) (tbl : List (Nat × Bool)) : Bool := tbl.all fun p => decide (PySem.W.kitOne K (tagV K p.1) u = some p.2) && (decide (100 ≤ p.1) || clsB K p.1)
end
end SM
namespace SM
open PySem PySem.Spec PyProof.Rows L2
open PySem.W (EachIs AllAlike Sortable dataLe)
variable {K : PySem.W.Frag} {G G' G2 H H' H2 G0 H0 : Hp} {S S' S2 S0 : Sto}
def sorted (l : List D) : List D := l.mergeSort (dataLe false toP)
section
variable {X : Cx} {k : Nat}
end
end SM
namespace SM
open PySem PySem.Spec PyProof.Rows L2
section
variable {X : Cx}
end
variable {K : PySem.W.Frag} {G G' G2 H H' H2 G0 H0 : Hp} {S S' S2 S0 : Sto}
def putD (kvs : List (List Key × D)) (k : List Key) (d : D) : List (List Key × D) :=
  if (kvs.any fun p => decide (p.1 = k)) = true then kvs.map (fun p => if p.1 = k then (p.1, d) else p) else kvs ++ [(k, d)]
def dDcL (gd : Gd) (q : Pat) (tt : DTT) (tk tv : DTE) (δ : DS) : List D → List (List Key × D) → Sto → (List (List Key × D) → Sto → Prop) → Prop
  | [], a, S, Q => gok gd S ∧ Q a S
  | x :: r, a, S, Q => gok gd S ∧ match bindP q x δ with
    | some δ2 => tt δ2 S (fun b S3 => brn b (tk δ2 S3 (fun y S4 => tv δ2 S4 (fun z S5 => (match y with
      | .tup ds => (match dKeys ds with
        | some ks => dDcL gd q tt tk tv δ r (putD a ks z) S5 Q
        | none => False)
      | _ => False)) noX) noX) (dDcL gd q tt tk tv δ r a S3 Q)) noX
    | none => False
structure dcK (gd : Gd) (q : Pat) (tt : DTT) (tk tv : DTE) (δ : DS) (xs : List D) (a : List (List Key × D)) (S : Sto) (Q : List (List Key × D) → Sto → Prop) : Prop where
  it : dDcL gd q tt tk tv δ xs a S Q
structure DcI (K : PySem.W.Frag) (G0 H0 : Hp) (S0 : Sto) (A : Addr) (G H : Hp) (S : Sto) (acc : List (List Key × D)) : Prop where
  st : Stp K G0 H0 S0 G H S
  ex : ∃ ws, H A = some (.dT ws) ∧ Rkv K G ws acc
  hg : G A = none
  hs : S A = none
section
variable {X : Cx} {W : WX} {k : Nat}
end
end SM
namespace SM
open PySem PySem.Spec PyProof.Rows L2
open PySem.W (EachIs AllAlike Sortable dataLe KeyPure)
def roB (c : Str) (q1 q2 q3 q4 q5 q6 q7 q8 : Pos) (k1 k2 k3 : Nat) : List Stmt :=
  [.Return (some (.Tuple [.Subscript (.Name c q1) (.Constant (.int 1) k1 q2) q3, .Subscript (.Name c q4) (.Constant (.int 0) k2 q5) q6] k3 q7)) q8]
section
variable {prog : Program} {w : World} {A : Around} {E : Value → Shared → Prop} {s : Shared} {env : Env} {c : Str}
end
variable {K : PySem.W.Frag} {G G' G2 H H' H2 G0 H0 : Hp} {S S' S2 S0 : Sto}
structure RoF (K : PySem.W.Frag) (f : Addr) : Prop where
  ex : ∃ (oc : Value) (od : Option Addr) (name qual : Str) (params : Arguments) (scope : Scope) (dV kV doc pm cdv ct : Value) (an : Option Addr) (osl : Array (Option Value)) (c : Str) (q1 q2 q3 q4 q5 q6 q7 q8 : Pos) (k1 k2 k3 : Nat),
    K.lookup f = some ⟨oc, od, .func (PySem.W.fnOf name qual params (roB c q1 q2 q3 q4 q5 q6 q7 q8 k1 k2 k3) scope dV kV doc pm an cdv ct), osl⟩ ∧ PySem.W.codeIn K cdv qual = true ∧ scope.kind = .function ∧ scope.isCoroutine = false ∧ scope.isGenerator = false ∧ scope.names.lookup c = some .local ∧
    (∀ b, bindArgs (PySem.W.fnOf name qual params (roB c q1 q2 q3 q4 q5 q6 q7 q8 k1 k2 k3) scope dV kV doc pm an cdv ct) ⟨[.ref b], []⟩ = pure [(c, .ref b)]) ∧ (c == ("__debug__" : Str)) = false
section
variable {X : Cx} {k : Nat}
end
end SM
namespace SM
open PySem PySem.Spec PyProof.Rows L2
variable {K : PySem.W.Frag} {G G' G2 H H' H2 : Hp} {S S' S2 : Sto}
def starSp (n : Nat) (R : DSp) : DSp := fun ds S Q E => n ≤ ds.length ∧ R (ds.take n ++ [.tup (ds.drop n)]) S Q E
section
variable {P : Program} {w : World} {mg : Str → Option Value} {base : Heap}
end
structure SMet (K : PySem.W.Frag) (C : Addr) (m : Str) (g : Addr) : Prop where
  rd : PySem.W.readsIn K C (.type "type") = true
  ga : PySem.W.specialIn K (.ref C) "__getattribute__" = some (some (.builtin "type.__getattribute__"))
  me : ∃ p rest, PySem.W.findCls K (.ref C) (.type "type") m = some (.get (.builtin "staticmethod.__get__") (.ref p) .none (.ref C)) ∧ PySem.W.recIn K p "staticmethod" = some (.ref g :: rest)
  kp : PySem.W.keepIn K (.ref g) = true
section
variable {X : Cx} {e o : Expr} {es : List Expr} {pos p apos : Pos} {W : WX} {k : Nat} {x m : Str} {t : DTA} {g C : Addr} {R : DSp} {pins : List (Addr × Obj)} {σ : L2.St} {s : Shared} {H : Hp} {A : Around} {E : Value → Shared → Prop}
end
end SM
namespace SM
open PySem PySem.Spec PyProof.Rows L2
open PySem.W (Looks)
variable {K : PySem.W.Frag} {G G' G2 H H' H2 : Hp} {S S' S2 : Sto}
structure EqF (K : PySem.W.Frag) (c : Nat) (oth : List Nat) (f : Addr) : Prop where
  ot : ∀ c2, oth.contains c2 = true → PySem.W.notFirst K (cad K c) (.ref (cad K c2)) = true
  eq : PySem.W.findIn K (.ref (cad K c)) "__eq__" = some (some (.ref f))
  fn : PySem.W.isFn K (.ref f) = true
  ne : PySem.W.findIn K (.ref (cad K c)) "__ne__" = some (some (.builtin "object.__ne__"))
  mro : PySem.W.mroIn K (cad K c) (.type "object") = some true
section
variable {X : Cx} {k : Nat} {c : Nat} {oth : List Nat} {f : Addr} {fd : FuncData} {ps : List Str} {R : DSp} {A : Around} {pins : List (Addr × Obj)} {σ : L2.St} {s : Shared}
end
end SM
namespace SM
open PySem PySem.Spec PyProof.Rows L2
open PySem.W (Frag)
structure Df where
  ad : Frag → Addr
  name : Str
  qual : Str
  st : Stmt
  dfl : List He.Dv := []
  kwd : List (Str × He.Dv) := []
def Df.val (d : Df) : He.FnW := some (d.name, d.qual, defArgs d.st, .stmts (defBody d.st), defScope d.st, mainGlobals, [], builtinsNs)
def Df.ob (K : Frag) (d : Df) : He.FnW := match K.lookup (d.ad K) with
  | some ⟨_, _, .func g, _⟩ => some (g.name, g.qualname, g.params, g.body, g.scope, g.globals, g.closure, g.builtins)
  | _ => none
def Df.dvs (K : Frag) (d : Df) : List V := d.dfl.map (He.Dv.v K)
def Df.kws (K : Frag) (d : Df) : List (Str × V) := d.kwd.map fun q => (q.1, q.2.v K)
def Df.ok (K : Frag) (d : Df) : Bool := PySem.W.keepIn K (.ref (d.ad K)) && (match K.lookup (d.ad K) with
  | some ⟨_, _, .func g, _⟩ => PySem.W.codeIn K g.code d.qual && (He.dflB K g.defaults (d.dvs K) && He.kwdB K g.kwdefaults (d.kws K))
  | _ => false)
abbrev ChK := List (Frag → Bool)
end SM
namespace SM
open PySem PySem.Spec PyProof.Rows L2
variable {K : PySem.W.Frag} {G G' G2 H H' H2 : Hp} {S S' S2 : Sto}
def Fz (K : PySem.W.Frag) (H : Hp) (a : Addr) (xs : List V) : Prop := (∃ o, H a = some (.frz o (.lst xs))) ∨
  ∃ (o : Obj) (its : Array Value) (n : Nat), K.lookup a = some o ∧ o.cls = .type "list" ∧ o.dict = none ∧ o.data = .seq its n ∧ its.size ≤ sizeLine ∧ Vals xs its.toList
theorem Fz.of {a : Addr} {xs : List V} (o : Only H) (h : SqL K H a xs) : Fz K H a xs := by
  rcases h with (h | h) | h
  · rcases o a with q | ⟨w, ys, q⟩
    · rw [q] at h; cases h
    · rw [q] at h; cases h
  · exact .inl h
  · exact .inr h
theorem Fz.inv {X : Cx} {pins : List (Addr × Obj)} {σ : L2.St} {s : Shared} {a : Addr} {xs : List V} (h : Fz X.K X.H_0 a xs) (I : Inv X pins σ H s) : Fz X.K H a xs := by
  rcases h with ⟨o, h⟩ | h
  · exact .inl ⟨o, I.base.frzs a o _ h⟩
  · exact .inr h
def spScr (K : PySem.W.Frag) (n : Nat) (R : Addr → List Int → DSp) : Sp := fun vs H Q E => ∃ a ns, vs = [.ref a] ∧ Fz K H a (ns.map V.int) ∧ ns.length ≤ n ∧ toSp K (R a ns) vs H Q E
section
variable {P : Program} {w : World} {mg : Str → Option Value} {base : Heap}
end
section
variable {X : Cx} {e : Expr} {es : List Expr} {pos p p2 : Pos} {k n : Nat} {x : Str} {t : DTA} {f a : Addr} {fd : FuncData} {ps : List Str} {R : Addr → List Int → DSp} {ns : List Int}
end
end SM
namespace SM
open PySem PySem.Spec PyProof.Rows L2
variable {S : Sto}
structure Gf (P : Program) (w : World) (K : PySem.W.Frag) (mg : Str → Option Value) (base : Heap) (k : Nat) (x : Str) (ps : List Str) (R : DSp) : Prop where
  ex : ∃ f fd, FnOk P w K mg base (L2N.CX P w) k f fd ps (toSp K R) ∧ mg x = some (.ref f) ∧ PySem.W.keepIn K (.ref f) = true ∧ Binds K fd ps []
structure Gm (P : Program) (w : World) (K : PySem.W.Frag) (mg : Str → Option Value) (base : Heap) (k : Nat) (c : Nat) (m : Str) (ps : List Str) (R : DSp) : Prop where
  ex : ∃ f fd, FnOk P w K mg base (L2N.CX P w) k f fd ps (toSp K R) ∧ MOk K c m f ∧ Binds K fd ps []
structure Gi (P : Program) (w : World) (K : PySem.W.Frag) (mg : Str → Option Value) (base : Heap) (k : Nat) (c : Nat) (x : Str) (ps : List Str) (R : DSp) : Prop where
  ex : ∃ f fd, FnOk P w K mg base (L2N.CX P w) k f fd ps (toSp K R) ∧ mg x = some (.ref (cad K c)) ∧ Mk K (cad K c) f ∧ Binds K fd ps []
section
variable {X : Cx} {e o : Expr} {es : List Expr} {pos p apos : Pos} {k j : Nat} {x m : Str} {t : DTA} {ps : List Str} {R : DSp}
end
end SM
namespace SM
open PySem PySem.Spec PyProof.Rows L2
variable {K : PySem.W.Frag} {G G' G2 H H' H2 : Hp} {S S' S2 : Sto}
abbrev ends (QD : DQ) (XD : XQ) : DEnds := ⟨fun _ S' => QD .non S', QD, fun _ _ => False, fun _ _ => False, fun x _ S' => XD x S'⟩
def ti_int : List (Nat × Bool) := [(102, true), (101, true), (100, false), (103, false), (104, false), (105, false)]
def ti_bool : List (Nat × Bool) := [(102, false), (101, true), (100, false), (103, false), (104, false), (105, false)]
def fokB (K : PySem.W.Frag) (fl : Str) (tbl : List (Nat × Nat)) : Bool := tbl.all fun p => (He.Fa.cls (cnm p.1)).ok K && ((He.Fa.noat (cnm p.1) fl).ok K && (decide ((cfs p.1)[p.2]? = some fl) && decide (cfs p.1).Nodup))
section
variable {P : Program} {w : World} {mg : Str → Option Value} {base : Heap}
structure Ge (P : Program) (w : World) (K : PySem.W.Frag) (mg : Str → Option Value) (base : Heap) (k : Nat) (c : Nat) (oth : List Nat) (ps : List Str) (R : DSp) : Prop where
  ex : ∃ f fd, FnOk P w K mg base (L2N.CX P w) k f fd ps (toSp K R) ∧ Binds K fd ps [] ∧ EqF K c oth f
structure Gs (P : Program) (w : World) (K : PySem.W.Frag) (mg : Str → Option Value) (base : Heap) (k : Nat) (c : Nat) (x m : Str) (R : DSp) : Prop where
  ex : ∃ g, SMet K (cad K c) m g ∧ FnR P w K mg base (L2N.CX P w) k g (toSp K R) ∧ mg x = some (.ref (cad K c))
end
section
variable {X : Cx} {e o a b : Expr} {es : List Expr} {pos p apos : Pos} {k j : Nat} {x m : Str} {t : DTA} {te : DTE} {ps : List Str} {R : DSp} {c : Nat} {oth : List Nat}
structure Gz (P : Program) (w : World) (K : PySem.W.Frag) (mg : Str → Option Value) (base : Heap) (k : Nat) (x : Str) (ps : List Str) (n : Nat) (R : Addr → List Int → DSp) : Prop where
  ex : ∃ f fd, FnOk P w K mg base (L2N.CX P w) k f fd ps (spScr K n R) ∧ mg x = some (.ref f) ∧ PySem.W.keepIn K (.ref f) = true ∧ Binds K fd ps []
end
end SM
namespace SM
open PySem PySem.Spec PyProof.Rows L2
variable {K : PySem.W.Frag} {G G' G2 H H' H2 : Hp} {S S' S2 : Sto}
section
variable {P : Program} {w : World} {mg : Str → Option Value} {base : Heap}
end
end SM
namespace SM
open PySem PySem.Spec PyProof.Rows L2
variable {K : PySem.W.Frag} {G G' G2 H H' H2 : Hp} {S S' S2 : Sto}
structure Go (P : Program) (w : World) (K : PySem.W.Frag) (mg : Str → Option Value) (base : Heap) (k : Nat) (c : Nat) (m : Str) (ps : List Str) (R : DSp) : Prop where
  ex : ∃ f fd, FnOk P w K mg base (L2N.CX P w) k f fd ps (toSp K R) ∧ Binds K fd ps [] ∧ Meth K (cad K c) m f
section
variable {X : Cx} {e o a b : Expr} {es : List Expr} {pos p apos : Pos} {k j : Nat} {x m : Str} {t : DTA} {te ta tb : DTE} {ps : List Str} {R : DSp} {c : Nat} {f : Addr} {fd : FuncData} {A : Around} {pins : List (Addr × Obj)} {σ : L2.St} {s : Shared} {W : WX}
end
end SM
namespace SM
open PySem PySem.Spec PyProof.Rows L2 TL
variable {K : PySem.W.Frag} {G G' G2 H H' H2 : Hp} {S S' S2 : Sto}
section
variable {X : Cx} {e o a b : Expr} {es : List Expr} {pos p apos : Pos} {k j : Nat} {x m : Str} {t : DTA} {te ta tb : DTE} {ps : List Str} {R : DSp} {c : Nat} {W : WX}
def dJs : List DTE → Str → DS → Sto → (Str → Sto → Prop) → XQ → Prop
  | [], acc, _, S, Q, _ => Q acc S
  | t :: ts, acc, δ, S, Q, X => t δ S (fun x S1 => match x with
    | .str y => (acc.length + y.length ≤ sizeLine) ∧ dJs ts (acc ++ y) δ S1 Q X
    | _ => False) X
structure PDJ (X : Cx) (es : List Expr) (ts : List DTE) : Prop where
  run : ∀ W, L2N.Takes X W → ∃ us, PJ X es us ∧ ∀ acc, okS acc → ∀ σ H Q, (∃ G δ S QD XD, RpE X.K G σ δ ∧ Rel X.K G H S ∧ dJs ts acc δ S QD XD ∧ (∀ G' H' S' o, Stp X.K G H S G' H' S' → okS o → QD o S' → Q o H') ∧ KX X.K W σ G H S XD) → tJs us acc σ H Q
end
end SM
namespace PySem.W
open PySem
section
variable {prog : Program} {w : World} {A : Around} {E : Value → Shared → Prop} {s : Shared} {K : Frag} {x C L f : Addr} {h₀ : Heap} {m : Str → Option Value} {ox : Obj} {od : Option Obj}
end
end PySem.W
namespace SM
open PySem PySem.Spec PyProof.Rows L2
variable {K : PySem.W.Frag} {G G' G2 H H' H2 : Hp} {S S' S2 : Sto}
section
variable {X : Cx} {e o a b : Expr} {es : List Expr} {pos p apos : Pos} {k j : Nat} {x m : Str} {t : DTA} {te ta tb : DTE} {ps : List Str} {R : DSp} {c : Nat} {W : WX}
end
end SM
namespace SM
open PySem PySem.Spec PyProof.Rows L2
variable {K : PySem.W.Frag} {G G' G2 H H' H2 : Hp} {S S' S2 : Sto}
section
variable {X : Cx} {e o a b : Expr} {es : List Expr} {pos p apos : Pos} {k j : Nat} {x m : Str} {t : DTA} {te ta tb : DTE} {ps : List Str} {R : DSp} {c : Nat} {W : WX}
end
end SM
namespace SM
open PySem PySem.Spec PyProof.Rows L2
variable {K : PySem.W.Frag} {G G' G2 H H' H2 : Hp} {S S' S2 : Sto}
def spE (C : Addr) (fls : List Str) : Sp := fun vs H Q _ => ∃ a ws, vs = .ref a :: ws ∧ ws.length = fls.length ∧ H a = some (exo a C none) ∧
  ∀ H' d fs, H' a = some (exo a C (some d)) → H' d = some (exd d fs) → H d = none → d ≠ a → (∀ b, b ≠ a → b ≠ d → H' b = H b) → (∀ (j : Nat) (fl : Str) (v : V), fls[j]? = some fl → ws[j]? = some v → fs.lookup fl = some v) → Q .non H'
section
variable {P : Program} {w : World} {mg : Str → Option Value} {base : Heap} {qual : Str} {params : Arguments} {scope : Scope} {f : Addr} {fd : FuncData} {c : Nat} {x y : Str} {p1 p2 p3 p4 q1 q2 q3 q4 : Pos}
end
structure Gx (P : Program) (w : World) (K : PySem.W.Frag) (mg : Str → Option Value) (base : Heap) (c : Nat) (x : Str) : Prop where
  ex : ∃ f fd ps, FnOk P w K mg base (L2N.CX P w) 1 f fd ps (spE (cad K c) (cfs c)) ∧ OexC K (cad K c) ∧ PySem.W.findIn K (.ref (cad K c)) "__init__" = some (some (.ref f)) ∧ PySem.W.typeIn K (.ref f) = some (.type "function") ∧ Binds K fd ps [] ∧ mg x = some (.ref (cad K c))
section
variable {X : Cx} {e : Expr} {es : List Expr} {pos p pos' : Pos} {k j : Nat} {x : Str} {t : DTA} {c : Nat} {W : WX}
end
end SM
namespace PySem.W
open PySem
section
variable {prog : Program} {w : World} {M : Model} {A : Around} {E : Value → Shared → Prop} {s : Shared} {K : Frag} {x C L f : Addr} {h₀ : Heap} {m : Str → Option Value} {ox : Obj} {od : Option Obj} {nm : String}
end
end PySem.W
namespace SM
open PySem PySem.Spec PyProof.Rows L2
variable {K : PySem.W.Frag} {G G' G2 H H' H2 : Hp} {S S' S2 : Sto}
section
variable {X : Cx} {e o a b : Expr} {es : List Expr} {pos p pos' p1 p2 p3 : Pos} {k j : Nat} {x m : Str} {t : DTA} {te ta tb : DTE} {ps : List Str} {R : DSp} {c : Nat} {W : WX}
structure NoI (K : PySem.W.Frag) (c : Nat) (op : Operator) : Prop where
  ex : ∃ cd, PySem.W.clsIn K (cad K c) = some cd ∧ cd.mro = [.ref (cad K c), .type "object"]
  h1 : PySem.W.findIn K (.ref (cad K c)) (PySem.dunderI op.info.2) = some none
  h2 : PySem.W.findIn K (.type "object") (PySem.dunderI op.info.2) = some none
end
end SM
namespace SM
open PySem PySem.Spec PyProof.Rows L2
variable {K : PySem.W.Frag} {G G' G2 H H' H2 : Hp} {S S' S2 : Sto}
section
variable {X : Cx} {e a b : Expr} {p pos tpos : Pos} {elts : List Expr} {kk : Nat} {t : DTA}
end
end SM
namespace SM
open PySem PySem.Spec PyProof.Rows L2
variable {K : PySem.W.Frag} {G G' G2 H H' H2 G0 H0 : Hp} {S S' S2 S0 : Sto}
def dLc2L (gd : Gd) (q : Pat) (tt : DTT) (ti1 : DTI) (q1 : Pat) (tt1 : DTT) (te : DTE) (vs1 : List Nat) (δ : DS) : List D → Sto → (List D → Sto → Prop) → Prop
  | [], S, Q => gok gd S ∧ Q [] S
  | x :: r, S, Q => gok gd S ∧ match bindP q x δ with
    | some δ2 => tt δ2 S (fun b S3 => brn b (ti1 δ2 S3 (fun gd1 ys S4 => ys.length ≤ 1000 ∧ dLcL gd1 q1 tt1 te (uns δ2 vs1) ys S4 (fun ds S5 => dLc2L gd q tt ti1 q1 tt1 te vs1 δ r S5 (fun ds' S6 => Q (ds ++ ds') S6))) noX) (dLc2L gd q tt ti1 q1 tt1 te vs1 δ r S3 Q)) noX
    | none => False
structure lc2K (gd : Gd) (q : Pat) (tt : DTT) (ti1 : DTI) (q1 : Pat) (tt1 : DTT) (te : DTE) (vs1 : List Nat) (δ : DS) (xs : List D) (S : Sto) (Q : List D → Sto → Prop) : Prop where
  it : xs.length ≤ 1000 ∧ dLc2L gd q tt ti1 q1 tt1 te vs1 δ xs S Q
section
variable {W : WX}
end
section
variable {X : Cx} {elt tg iter tg1 iter1 : Expr} {ifs ifs1 : List Expr} {scope : Scope} {own : List (Str × Nat)} {vs1 : List Nat} {ti ti1 : DTI} {q q1 : Pat} {tt tt1 : DTT} {te : DTE} {pos : Pos}
end
end SM
namespace SM
open PySem PySem.Spec PyProof.Rows L2
variable {K : PySem.W.Frag} {G G' G2 H H' H2 : Hp} {S S' S2 : Sto}
structure Gc (P : Program) (w : World) (K : PySem.W.Frag) (mg : Str → Option Value) (base : Heap) (k : Nat) (c : Nat) (x m : Str) (ps : List Str) (R : DSp) : Prop where
  ex : ∃ p g fd, ClX.CRead K (cad K c) (.type "type") ∧ ClX.CMet K (cad K c) (.type "type") m p g ∧ FnOk P w K mg base (L2N.CX P w) k g fd ps (toSp K R) ∧ Binds K fd ps [] ∧ mg x = some (.ref (cad K c))
section
variable {X : Cx} {e o : Expr} {es : List Expr} {pos p apos : Pos} {W : WX} {k j i : Nat} {x m : Str} {t : DTA} {te : DTE} {ps : List Str} {R : DSp} {c : Nat} {g C : Addr} {pins : List (Addr × Obj)} {σ : L2.St} {s : Shared}
structure CStr (K : PySem.W.Frag) (mg : Str → Option Value) (c : Nat) (x f z : Str) : Prop where
  ex : ∃ u, ClX.CRead K (cad K c) (.type "type") ∧ ClX.CVal K (cad K c) (.type "type") f (.str z) u ∧ mg x = some (.ref (cad K c))
end
def creadB (K : PySem.W.Frag) (c : Nat) : Bool := PySem.W.readsIn K (cad K c) (.type "type") && decide (PySem.W.specialIn K (.ref (cad K c)) "__getattribute__" = some (some (.builtin "type.__getattribute__")))
def cmP (K : PySem.W.Frag) (C : Addr) (m : Str) : Addr := match PySem.W.findCls K (.ref C) (.type "type") m with
  | some (.get _ (.ref p) _ _) => p
  | _ => 0
def cmAd (K : PySem.W.Frag) (C : Addr) (m : Str) : Addr := match PySem.W.recIn K (cmP K C m) "classmethod" with
  | some (.ref g :: _) => g
  | _ => 0
def cmB (K : PySem.W.Frag) (c : Nat) (m : Str) : Bool := creadB K c && (PySem.W.fnIn K (cmAd K (cad K c) m) && ((match PySem.W.recIn K (cmP K (cad K c) m) "classmethod" with
  | some (.ref _ :: _) => true
  | _ => false) && (match PySem.W.findCls K (.ref (cad K c)) (.type "type") m with
    | some (.get (.builtin b) (.ref _) .none (.ref C)) => decide (b = "classmethod.__get__") && decide (C = cad K c)
    | _ => false)))
section
variable {X : Cx}
end
end SM
namespace SM
open PySem PySem.Spec PyProof.Rows L2
variable {K : PySem.W.Frag} {G G' G2 H H' H2 : Hp} {S S' S2 : Sto}
def oexClsB (K : PySem.W.Frag) (C : Addr) : Bool := match K.lookup C with
  | some ⟨.type "type", _, .cls cd, ⟨[_, _, _, _, some (.builtin n), _]⟩⟩ => (match cd.mro with
    | .ref C' :: bm => decide (C' = C) && (decide (n = "ValueError.__new__") && (!cd.hasDel && (cd.hasDict && PySem.HandSPX.refsVE bm)))
    | _ => false)
  | _ => false
def oexB (K : PySem.W.Frag) (c : Nat) : Bool := oexClsB K (cad K c) && (He.eqO (PySem.W.findIn K (.ref (cad K c)) "__setattr__") (some (some (.builtin "object.__setattr__"))) && (decide (PySem.W.subIn K (.ref (cad K c)) (.type "BaseException") = some true) && (decide (PySem.W.typeIn K (.ref (cad K c)) = some (.type "type")) && PySem.W.keepIn K (.ref (cad K c)))))
def oinB (K : PySem.W.Frag) (c : Nat) : Bool := He.eqO (PySem.W.findIn K (.ref (cad K c)) "__init__") (some (some (.ref (He.ma K (cad K c) "__init__")))) && (decide (PySem.W.typeIn K (.ref (He.ma K (cad K c) "__init__")) = some (.type "function")) && (cfs c).all fun f => He.eqO (PySem.W.findIn K (.ref (cad K c)) f) (some none))
section
variable {P : Program} {w : World} {mg : Str → Option Value} {base : Heap} {c : Nat} {x y z qual : Str} {params : Arguments} {scope : Scope} {fd : FuncData} {p1 p2 p3 p4 q1 q2 q3 q4 : Pos}
end
end SM
namespace SM
open PySem PySem.Spec PyProof.Rows L2
variable {K : PySem.W.Frag} {G G' G2 H H' H2 : Hp} {S S' S2 : Sto}
def EmOk (K : PySem.W.Frag) (cv : Value) (tab : List (Nat × Bool)) : Prop := ∀ c b, tab.lookup c = some b → PySem.W.exmOne K (.ref (cad K c)) cv = some b
def emB (K : PySem.W.Frag) (cv : Value) (tab : List (Nat × Bool)) : Bool := tab.all fun p => decide (PySem.W.exmOne K (.ref (cad K p.1)) cv = some p.2)
theorem Rx.rp {cls : Value} {d : Option Addr} {x : Exn} {a : Addr} (h : Rx K G cls d x) : Rp K G (.ref a) (.exn a d x.c x.ds) := by
  obtain ⟨_, h⟩ := h
  rcases h with ⟨h1, h2⟩ | ⟨dd, fs, vs, h1, h2, h3, h4, h5⟩
  · rw [h1, h2]; exact .exn0 _
  · rw [h1]; exact .exn h2 h3 h4 h5
structure Cgt (K : PySem.W.Frag) (oe : Obj) (c : Nat) (d : Option Addr) : Prop where
  zn : L2N.Zn (.ref (cad K c)) d oe
  fl : ∃ vs, oe.data = .fields vs
section
variable {X : Cx} {x n : Str} {cv : Value} {i : Nat} {body suite : List Stmt} {b₀ : Stmt} {np pos pos' : Pos} {tb : DTS} {ts : Addr → Option Addr → Nat → DTS} {tab : List (Nat × Bool)}
end
end SM
namespace SM
open PySem PySem.Spec PyProof.Rows L2
variable {K : PySem.W.Frag} {G G' G2 H H' H2 : Hp} {S S' S2 : Sto}
def fxB (K : PySem.W.Frag) (fl : Str) (tbl : List (Nat × Nat)) : Bool := tbl.all fun p => xfB K (cad K p.1) && (He.eqO (PySem.W.findIn K (.ref (cad K p.1)) fl) (some none) && decide ((cfs p.1)[p.2]? = some fl))
section
variable {X : Cx} {a : Addr} {oe : Obj} {c : Nat} {d : Option Addr} {pn : List (Addr × Obj)} {e : Expr} {te : DTE} {fl : Str} {pos : Pos} {tbl : List (Nat × Nat)}
end
section
variable {X : Cx} {a : Addr} {oe : Obj} {c : Nat} {d : Option Addr} {pn : List (Addr × Obj)} {e : Expr} {te : DTE} {pos p : Pos} {tab : List (Nat × Bool)}
end
end SM
namespace SM
open PySem PySem.Spec PyProof.Rows L2
variable {K : PySem.W.Frag} {G G' G2 H H' H2 : Hp} {S S' S2 : Sto}
section
variable {P : Program} {w : World} {mg : Str → Option Value} {base : Heap}
end
structure GfH (P : Program) (w : World) (K : PySem.W.Frag) (mg : Str → Option Value) (base : Heap) (k : Nat) (x : Str) (ps : List Str) (R : DSp) : Prop where
  ex : ∃ f fd, L2H.FnH P w K mg base (L2N.CX P w) k f fd ps (toSp K R) ∧ mg x = some (.ref f) ∧ PySem.W.keepIn K (.ref f) = true ∧ Binds K fd ps []
section
variable {X : Cx} {e : Expr} {es : List Expr} {pos p : Pos} {k j : Nat} {x : Str} {t : DTA} {ps : List Str} {R : DSp}
end
end SM
namespace SM
open PySem PySem.Spec PyProof.Rows L2
variable {K : PySem.W.Frag}
def excB (K : PySem.W.Frag) (D : Addr) : Bool := He.eqO (PySem.W.findIn K (.ref D) "__getattribute__") (some (some (.builtin "BaseException.__getattribute__"))) && (He.eqO (PySem.W.findIn K (.ref D) "__getattr__") (some none) && (decide (PySem.W.subIn K (.ref D) (.type "BaseException") = some true) && (PySem.W.hasDictIn K D &&
  (He.eqO (PySem.W.findIn K (.ref D) "__class__") (some (some (.builtin "object.__class__"))) && (He.eqO (PySem.W.specialIn K (.builtin "object.__class__") "__get__") (some (some (.builtin "getset_descriptor.__get__"))) && (decide (PySem.W.takesIn K (.builtin "object.__class__") = some true) && (decide (PySem.W.mroIn K D (.type "object") = some true) && (PySem.W.clsIn K D).isSome)))))))
def ixB (K : PySem.W.Frag) (cv : Value) (tab : List (Nat × Bool)) : Bool := tab.all fun p => excB K (cad K p.1) && decide (PySem.W.kitOne K (.ref (cad K p.1)) cv = some p.2)
section
variable {P : Program} {w : World} {mg : Str → Option Value} {base : Heap}
end
end SM
namespace SM
open PySem PySem.Spec PyProof.Rows L2
variable {K : PySem.W.Frag} {G H : Hp} {S : Sto}
end SM
namespace SM
open PySem PySem.Spec PyProof.Rows L2
variable {K : PySem.W.Frag} {G G' G2 H H' H2 : Hp} {S S' S2 : Sto}
def ofEnds (D : Ends) : Option Nat → Ends
  | none => D
  | some i => { nx := fun σ' H' => D.nx (σ'.set i none) H', rt := D.rt, bk := fun σ' H' => D.bk (σ'.set i none) H', ct := fun σ' H' => D.ct (σ'.set i none) H' }
def atSt (σ : L2.St) (a : Addr) : Option Nat → L2.St
  | none => σ
  | some i => σ.set i (some (.ref a))
abbrev Cl := Value × Option Nat × (Addr → Value → Option Addr → TS)
def wCl (K : PySem.W.Frag) (Wo : WX) (D : Ends) : List Cl → WX
  | [] => Wo
  | (c, oi, ts) :: r => fun cls d σ H =>
    ∃ b, PySem.W.exmOne K cls c = some b ∧ (b = true → ∀ a, H a = none → ts a cls d (ofEnds D oi) (atSt σ a oi) H) ∧ (b = false → wCl K Wo D r cls d σ H)
inductive ClsOk (X : Cx) : List ExceptHandler → List Cl → Prop
  | nil : ClsOk X [] []
  | plain {x : Str} {c : Value} {ts : Addr → Value → Option Addr → TS} {b0 : Stmt} {su : List Stmt} {np p2 : Pos} {hds : List ExceptHandler} {l : List Cl}
      (hc : Names X x c)
      (hsu : ∀ (a : Addr) (oe : Obj) (cls : Value) (d : Option Addr) (pn : List (Addr × Obj)),
        L2N.Zn cls d oe → (∃ vs, oe.data = .fields vs) → PSs (X.suite a ((a, oe) :: pn)) (b0 :: su) (ts a cls d))
      (r : ClsOk X hds l) : ClsOk X (.ExceptHandler (some (.Name x np)) none (b0 :: su) p2 :: hds) ((c, none, ts) :: l)
  | named {x n : Str} {c : Value} {i : Nat} {ts : Addr → Value → Option Addr → TS} {b0 : Stmt} {su : List Stmt} {np p2 : Pos} {hds : List ExceptHandler} {l : List Cl}
      (hN : X.N.Nodup) (hi : X.N[i]? = some n) (hln : X.env.kindOf n = some .local) (hc : Names X x c)
      (hsu : ∀ (a : Addr) (oe : Obj) (cls : Value) (d : Option Addr) (pn : List (Addr × Obj)),
        L2N.Zn cls d oe → (∃ vs, oe.data = .fields vs) → PSs (X.suite a ((a, oe) :: pn)) (b0 :: su) (ts a cls d))
      (r : ClsOk X hds l) : ClsOk X (.ExceptHandler (some (.Name x np)) (some n) (b0 :: su) p2 :: hds) ((c, some i, ts) :: l)
section
variable {X : Cx} {body : List Stmt} {h0 : ExceptHandler} {hds : List ExceptHandler} {l : List Cl} {pos : Pos} {tb : WX → TS} {Wo : WX}
end
abbrev DCl := List (Nat × Bool) × Option Nat × (Addr → Option Addr → Nat → DTS)
def dEnds (E : DEnds) : Option Nat → DEnds
  | none => { nx := E.nx, rt := E.rt, bk := E.bk, ct := E.ct, xc := fun _ _ _ => False }
  | some i => { nx := fun δ S => E.nx (unset δ i) S, rt := E.rt, bk := fun δ S => E.bk (unset δ i) S, ct := fun δ S => E.ct (unset δ i) S, xc := fun _ _ _ => False }
def dAt (δ : DS) (a : Addr) (d : Option Addr) (x : Exn) : Option Nat → DS
  | none => δ
  | some i => put δ i (.exn a d x.c x.ds)
def trXs (E : DEnds) : List DCl → Exn → DS → Sto → Prop
  | [], x, δ', S' => E.xc x δ' S'
  | (tab, oi, ts) :: r, x, δ', S' => match tab.lookup x.c with
    | some true => ∀ a d, ts a d x.c (dEnds E oi) (dAt δ' a d x oi) S'
    | some false => trXs E r x δ' S'
    | none => False
inductive DClOk (X : Cx) : List ExceptHandler → List DCl → Prop
  | nil : DClOk X [] []
  | plain {x : Str} {cv : Value} {tab : List (Nat × Bool)} {ts : Addr → Option Addr → Nat → DTS} {b0 : Stmt} {su : List Stmt} {np p2 : Pos} {hds : List ExceptHandler} {l : List DCl}
      (hc : Names X x cv) (em : EmOk X.K cv tab)
      (hsu : ∀ (a : Addr) (oe : Obj) (c : Nat) (d : Option Addr) (pn : List (Addr × Obj)), Cgt X.K oe c d → PDSs (X.suite a ((a, oe) :: pn)) (b0 :: su) (ts a d c))
      (r : DClOk X hds l) : DClOk X (.ExceptHandler (some (.Name x np)) none (b0 :: su) p2 :: hds) ((tab, none, ts) :: l)
  | named {x n : Str} {cv : Value} {i : Nat} {tab : List (Nat × Bool)} {ts : Addr → Option Addr → Nat → DTS} {b0 : Stmt} {su : List Stmt} {np p2 : Pos} {hds : List ExceptHandler} {l : List DCl}
      (hN : X.N.Nodup) (hi : X.N[i]? = some n) (hln : X.env.kindOf n = some .local) (hc : Names X x cv) (em : EmOk X.K cv tab)
      (hsu : ∀ (a : Addr) (oe : Obj) (c : Nat) (d : Option Addr) (pn : List (Addr × Obj)), Cgt X.K oe c d → PDSs (X.suite a ((a, oe) :: pn)) (b0 :: su) (ts a d c))
      (r : DClOk X hds l) : DClOk X (.ExceptHandler (some (.Name x np)) (some n) (b0 :: su) p2 :: hds) ((tab, some i, ts) :: l)
def liftCl (X : Cx) (ts : Addr → Option Addr → Nat → DTS) : Addr → Value → Option Addr → TS := fun a cls d D σ H => ∃ c, cls = .ref (cad X.K c) ∧ liftS X.K (fun _ _ _ _ => False) (ts a d c) D σ H
theorem DClOk.ok {X : Cx} {W : WX} : ∀ {hds : List ExceptHandler} {l : List DCl}, DClOk X hds l → ∃ l' : List Cl, ClsOk X hds l' ∧
    ∀ {D : Ends} {E : DEnds} {G0 H0 : Hp} {S0 : Sto}, ER X.K W G0 H0 S0 E D → ∀ {G H : Hp} {S : Sto} {σ : L2.St} {δ : DS} {cls : Value} {d : Option Addr} {x : Exn}, Stp X.K G0 H0 S0 G H S → RpE X.K G σ δ → Rx X.K G cls d x →
      trXs E l x δ S → wCl X.K W D l' cls d σ H := by
  intro hds l h
  induction h with
  | nil => exact ⟨[], .nil, fun er _ _ _ _ _ _ _ _ st re rx q => er.xc _ _ _ _ _ _ _ _ st re rx q⟩
  | @plain x0 cv tab ts b0 su np p2 hd2 l2 hc em hsu r ih =>
    obtain ⟨l', ok', go⟩ := ih
    refine ⟨(cv, none, liftCl X ts) :: l', .plain hc (fun a oe cls d pn hz hff => ⟨fun pins s σ H D I h => ?_⟩) ok', fun er G' H' S' σ' δ' cls d x st re' rx q => ?_⟩
    · obtain ⟨c, rfl, h⟩ := h
      exact ((hsu a oe c d pn ⟨hz, hff⟩).run _ takes0N PassesOwn.never).run pins s σ H D I h
    · have ec := rx.1
      subst ec
      revert q
      show (match tab.lookup x.c with | some true => _ | some false => _ | none => _) → _
      cases hl : tab.lookup x.c with
      | none => exact fun z => z.elim
      | some b =>
        cases b with
        | false => exact fun q => ⟨false, em _ _ hl, fun z => Bool.noConfusion z, fun _ => go er st re' rx q⟩
        | true =>
          intro q
          refine ⟨true, em _ _ hl, fun _ a ha => ⟨x.c, rfl, G', _, S', _, re', st.rel, q a d, ?_⟩, fun z => Bool.noConfusion z⟩
          exact ⟨fun G2 H2 S2 σ2 δ2 s2 r2 z => er.nx _ _ _ _ _ (st.trans s2) r2 z, fun G2 H2 S2 v d2 s2 r2 z => er.rt _ _ _ _ _ (st.trans s2) r2 z, fun G2 H2 S2 σ2 δ2 s2 r2 z => er.bk _ _ _ _ _ (st.trans s2) r2 z, fun G2 H2 S2 σ2 δ2 s2 r2 z => er.ct _ _ _ _ _ (st.trans s2) r2 z, fun _ _ _ _ _ _ _ _ _ _ _ z => z⟩
  | @named x0 n cv i tab ts b0 su np p2 hd2 l2 hN hi hln hc em hsu r ih =>
    obtain ⟨l', ok', go⟩ := ih
    refine ⟨(cv, some i, liftCl X ts) :: l', .named hN hi hln hc (fun a oe cls d pn hz hff => ⟨fun pins s σ H D I h => ?_⟩) ok', fun er G' H' S' σ' δ' cls d x st re' rx q => ?_⟩
    · obtain ⟨c, rfl, h⟩ := h
      exact ((hsu a oe c d pn ⟨hz, hff⟩).run _ takes0N PassesOwn.never).run pins s σ H D I h
    · have ec := rx.1
      subst ec
      revert q
      show (match tab.lookup x.c with | some true => _ | some false => _ | none => _) → _
      cases hl : tab.lookup x.c with
      | none => exact fun z => z.elim
      | some b =>
        cases b with
        | false => exact fun q => ⟨false, em _ _ hl, fun z => Bool.noConfusion z, fun _ => go er st re' rx q⟩
        | true =>
          intro q
          refine ⟨true, em _ _ hl, fun _ a ha => ⟨x.c, rfl, G', _, S', _, re'.put i rx.rp, st.rel, q a d, ?_⟩, fun z => Bool.noConfusion z⟩
          exact ⟨fun G2 H2 S2 σ2 δ2 s2 r2 z => er.nx _ _ _ _ _ (st.trans s2) (r2.unset i) z, fun G2 H2 S2 v d2 s2 r2 z => er.rt _ _ _ _ _ (st.trans s2) r2 z, fun G2 H2 S2 σ2 δ2 s2 r2 z => er.bk _ _ _ _ _ (st.trans s2) (r2.unset i) z, fun G2 H2 S2 σ2 δ2 s2 r2 z => er.ct _ _ _ _ _ (st.trans s2) (r2.unset i) z, fun _ _ _ _ _ _ _ _ _ _ _ z => z⟩
end SM
namespace SM
open PySem PySem.Spec PyProof.Rows L2
variable {K : PySem.W.Frag} {G G' G2 H H' H2 : Hp} {S S' S2 : Sto}
def veB : List Value := [.type "ValueError", .type "Exception", .type "BaseException", .type "object"]
structure Gx0 (K : PySem.W.Frag) (mg : Str → Option Value) (c : Nat) (x : Str) : Prop where
  q : PySem.W.excIn K (cad K c) veB "ValueError.__new__" = true
  kC : PySem.W.keepIn K (.ref (cad K c)) = true
  exC : PySem.W.subIn K (.ref (cad K c)) (.type "BaseException") = some true
  tyC : PySem.W.typeIn K (.ref (cad K c)) = some (.type "type")
  hm : mg x = some (.ref (cad K c))
section
variable {X : Cx} {pos p pos' : Pos} {x : Str} {c : Nat}
end
end SM
namespace SM
open PySem PySem.Spec PyProof.Rows L2
variable {K : PySem.W.Frag} {G G' G2 H H' H2 : Hp} {S S' S2 : Sto}
structure GeH (P : Program) (w : World) (K : PySem.W.Frag) (mg : Str → Option Value) (base : Heap) (k : Nat) (c : Nat) (oth : List Nat) (ps : List Str) (R : DSp) : Prop where
  ex : ∃ f fd, L2H.FnH P w K mg base (L2N.CX P w) k f fd ps (toSp K R) ∧ Binds K fd ps [] ∧ EqF K c oth f
section
variable {X : Cx} {k j : Nat} {c : Nat} {oth : List Nat} {ps : List Str} {R : DSp}
end
end SM
namespace SM
open PySem PySem.Spec PyProof.Rows L2
variable {K : PySem.W.Frag} {G G' G2 H H' H2 : Hp} {S S' S2 : Sto}
section
variable {X : Cx} {a b : Expr} {pos : Pos} {k j : Nat} {ta tb : DTE} {ps : List Str} {R : DSp} {c : Nat}
end
end SM
namespace SM
open PySem PySem.Spec PyProof.Rows L2
variable {K : PySem.W.Frag} {G G' G2 H H' H2 : Hp} {S S' S2 : Sto}
section
variable {X : Cx} {k : Nat}
end
end SM
namespace SM
open PySem PySem.Spec PyProof.Rows L2
variable {K : PySem.W.Frag} {G G' G2 H H' H2 : Hp} {S S' S2 : Sto}
structure FunS (K : PySem.W.Frag) (x qual : Str) (params : Arguments) (body : List Stmt) (scope : Scope) (f : Addr) (fd : FuncData) (cc c : Addr) : Prop where
  ex : ∃ (oc : Value) (od : Option Addr) (dV kV doc pm : Value) (an : Option Addr) (ct : Value) (osl : Array (Option Value)),
    fd = PySem.W.fnX x qual params body scope [("__class__", cc)] dV kV doc pm an (.ref c) ct ∧ K.lookup f = some ⟨oc, od, .func fd, osl⟩ ∧ PySem.W.codeIn K (.ref c) qual = true ∧ DflV K dV [] ∧ KwdV K kV []
  kp : PySem.W.keepIn K (.ref f) = true
structure SupF (P : Program) (K : PySem.W.Frag) (mg : Str → Option Value) (cc c D f2 : Addr) (cs : List Nat) : Prop where
  cell : ∃ cl cld csl, K.lookup cc = some ⟨cl, cld, .cell (some (.ref D)), csl⟩
  code : ∃ ccl cdd vs ccs tf, K.lookup c = some ⟨ccl, cdd, .fields vs, ccs⟩ ∧ vs[2]? = some (.str P.main.file tf)
  cls : ∃ cd, PySem.W.clsIn K D = some cd
  top : (P.main.scope.names.lookup ("super" : Str)).isSome = false
  ng : mg "super" = none
  st : PySem.W.nsIn K cStatics "thirdparty.any" = some none
  ty2 : PySem.W.typeIn K (.ref f2) = some (.type "function")
  fi2 : PySem.W.fnIn K f2 = true
  sub : ∀ c', cs.contains c' = true → PySem.W.mroIn K (cad K c') (.ref D) = some true ∧ PySem.W.ks_superIn K (cad K c') D "__init__" = some (some (.ref f2))
section
variable {X : Cx} {cc c D f2 f : Addr} {cs : List Nat} {ps2 : List Str} {k2 : Nat} {R2 : DSp} {ta : DTA} {e : Expr} {es : List Expr} {p0 p1 p2 p3 p4 : Pos} {ar : Arg} {fd fd2 : FuncData} {body : List Stmt} {σ : L2.St} {δ : DS} {s : Shared} {E : DEnds} {W : WX} {oc : Value} {od : Option Addr} {osl : Array (Option Value)}
end
section
variable {P : Program} {w : World} {mg : Str → Option Value} {base : Heap}
end
end SM
namespace SM
open PySem PySem.Spec PyProof.Rows L2
open PySem.W (EachIs AllAlike Sortable dataLe)
variable {K : PySem.W.Frag} {G G' G2 H H' H2 : Hp} {S S' S2 : Sto}
section
variable {X : Cx} {pos pos' : Pos} {e o i : Expr} {te : DTE} {k : Nat}
end
end SM
namespace SM
open PySem PySem.Spec PyProof.Rows L2
variable {K : PySem.W.Frag} {G G' G2 H H' H2 : Hp} {S S' S2 : Sto}
def TabAll {α : Type} (Pr : Nat → α → Prop) : List (Nat × α) → Prop
  | [] => True
  | (c, x) :: T => Pr c x ∧ TabAll Pr T
theorem TabAll.at {α : Type} {Pr : Nat → α → Prop} : ∀ {T : List (Nat × α)} {c : Nat} {x : α}, TabAll Pr T → T.lookup c = some x → Pr c x
  | (c0, x0) :: T, c, x, h, e => by
    rw [List.lookup_cons] at e
    split at e
    · rename_i q
      cases e
      rw [eq_of_beq q]
      exact h.1
    · exact TabAll.at h.2 e
section
variable {X : Cx} {e o : Expr} {es : List Expr} {pos apos : Pos} {k j : Nat} {m : Str} {t : DTA} {to : DTE} {T : List (Nat × DSp)}
structure tabK (T : List (Nat × DSp)) (x : D) (F : DSp → Prop) : Prop where
  it : ∃ c fs R R0, x = .ins c fs ∧ T.lookup c = some R ∧ (∀ ds S Q X, R0 ds S Q X → R ds S Q X) ∧ F R0
structure tabV (T : List (Nat × Str)) (x : D) (F : Str → Prop) : Prop where
  it : ∃ c fs z, x = .ins c fs ∧ T.lookup c = some z ∧ F z
structure Gp (P : Program) (w : World) (K : PySem.W.Frag) (mg : Str → Option Value) (base : Heap) (k : Nat) (c : Nat) (m : Str) (ps : List Str) (R : DSp) : Prop where
  ex : ∃ f fd p, FnOk P w K mg base (L2N.CX P w) k f fd ps (toSp K R) ∧ Cls K (cad K c) ∧ PropOf K (cad K c) m p f ∧ Binds K fd ps []
end
end SM
namespace SM
open PySem PySem.Spec PyProof.Rows L2
open PySem.W (Frag)
def ccOf (K : Frag) (f : Addr) : Addr := match K.lookup f with
  | some ⟨_, _, .func g, _⟩ => (match g.closure with
    | [(_, a)] => a
    | _ => 0)
  | _ => 0
def coOf (K : Frag) (f : Addr) : Addr := match K.lookup f with
  | some ⟨_, _, .func g, _⟩ => (match g.code with
    | .ref c => c
    | _ => 0)
  | _ => 0
def Df.obS (K : Frag) (d : Df) : He.FnW := match K.lookup (d.ad K) with
  | some ⟨_, _, .func g, _⟩ => some (g.name, g.qualname, g.params, g.body, g.scope, g.globals, [], g.builtins)
  | _ => none
def Df.okS (K : Frag) (d : Df) : Bool := PySem.W.keepIn K (.ref (d.ad K)) && (match K.lookup (d.ad K) with
  | some ⟨_, _, .func g, _⟩ => PySem.W.codeIn K g.code d.qual && (He.dflB K g.defaults [] && (He.kwdB K g.kwdefaults [] && ((match g.code with
    | .ref _ => true
    | _ => false) && (match g.closure with
    | [(n, _)] => decide (n = "__class__")
    | _ => false))))
  | _ => false)
def obC2 (ch : ChK) (fn fs : List Df) (K : Frag) : He.AlD := (ch.all (fun p => p K) && (fn.all (fun d => d.ok K) && fs.all fun d => d.okS K), (fn.map fun d => d.ob K) ++ fs.map fun d => d.obS K)
def vlC2 (fn fs : List Df) : He.AlD := (true, fn.map Df.val ++ fs.map Df.val)
def Says2 (ch : ChK) (fn fs : List Df) (K : Frag) : Prop := obC2 ch fn fs K = vlC2 fn fs
theorem Says2.bool {ch : ChK} {fn fs : List Df} {K : Frag} (c : Says2 ch fn fs K) : ch.all (fun p => p K) = true ∧ fn.all (fun d => d.ok K) = true ∧ fs.all (fun d => d.okS K) = true := by
  have c1 : (ch.all (fun p => p K) && (fn.all (fun d => d.ok K) && fs.all fun d => d.okS K)) = true := congrArg Prod.fst c
  simpa only [Bool.and_eq_true] using c1
def supB (K : Frag) (f : Addr) (dc : Nat) (f2 : Addr) (cs : List Nat) (file : Str) : Bool :=
  (match K.lookup (ccOf K f) with
    | some ⟨_, _, .cell (some (.ref D)), _⟩ => decide (D = cad K dc)
    | _ => false) && ((match K.lookup (coOf K f) with
    | some ⟨_, _, .fields vs, _⟩ => (match (vs[2]? : Option Value) with
      | some (.str fl _) => decide (fl = file)
      | _ => false)
    | _ => false) && ((PySem.W.clsIn K (cad K dc)).isSome && (He.eqO (PySem.W.nsIn K cStatics "thirdparty.any") (some none) && (decide (PySem.W.typeIn K (.ref f2) = some (.type "function")) && (PySem.W.fnIn K f2 &&
    cs.all fun c' => decide (PySem.W.mroIn K (cad K c') (.ref (cad K dc)) = some true) && He.eqO (PySem.W.ks_superIn K (cad K c') (cad K dc) "__init__") (some (some (.ref f2))))))))
end SM
namespace SM
open PySem PySem.Spec PyProof.Rows L2
variable {K : PySem.W.Frag} {G G' G2 H H' H2 : Hp} {S S' S2 : Sto}
structure Gmd (P : Program) (w : World) (K : PySem.W.Frag) (mg : Str → Option Value) (base : Heap) (k : Nat) (c : Nat) (m : Str) (ps : List Str) (dds : List D) (R : DSp) : Prop where
  ex : ∃ f fd dvs ds, FnOk P w K mg base (L2N.CX P w) k f fd ps (toSp K R) ∧ MOk K c m f ∧ Binds K fd ps ds ∧ Vals dvs ds ∧ ∀ G, Rps K G dvs dds
structure Gmk (P : Program) (w : World) (K : PySem.W.Frag) (mg : Str → Option Value) (base : Heap) (k : Nat) (c : Nat) (m : Str) (n : Nat) (x : Str) (ps : List Str) (R : DSp) : Prop where
  ex : ∃ f fd, FnOk P w K mg base (L2N.CX P w) k f fd ps (toSp K R) ∧ MOk K c m f ∧ KBn K fd ps n [x] (fun us ws => us ++ ws) (fun vs zs => vs ++ zs)
section
variable {X : Cx} {e o ke : Expr} {es : List Expr} {pos apos kpos : Pos} {k j n : Nat} {m kx : Str} {t : DTA} {to tke : DTE} {T : List (Nat × DSp)} {dds : List D}
end
end SM
namespace SM
open PySem PySem.Spec PyProof.Rows L2
end SM
namespace SM
open PySem PySem.Spec PyProof.Rows L2
end SM
namespace SM
open PySem PySem.Spec PyProof.Rows L2
structure Gmr (P : Program) (w : World) (K : PySem.W.Frag) (mg : Str → Option Value) (base : Heap) (k : Nat) (c : Nat) (m : Str) (n : Nat) (R : DSp) : Prop where
  ex : ∃ f, FnR P w K mg base (L2N.CX P w) k f (toSp K (starSp n R)) ∧ MOk K c m f
section
variable {X : Cx} {e o : Expr} {es : List Expr} {pos apos : Pos} {k j n : Nat} {m : Str} {t : DTA} {R : DSp}
end
end SM
namespace SM
open PySem PySem.Spec PyProof.Rows L2
structure PropSet (K : PySem.W.Frag) (C : Addr) (m : Str) (p f : Addr) : Prop where
  at_ : PySem.W.findIn K (.ref C) m = some (some (.ref p))
  tak : PySem.W.takesIn K (.ref p) = some true
  ty : PySem.W.typeIn K (.ref p) = some (.type "property")
  rec_ : ∃ a rest, PySem.W.recIn K p "property" = some (a :: .ref f :: rest)
structure Gps (P : Program) (w : World) (K : PySem.W.Frag) (mg : Str → Option Value) (base : Heap) (k : Nat) (c : Nat) (m : Str) (ps : List Str) (R : DSp) : Prop where
  ex : ∃ f fd p, FnOk P w K mg base (L2N.CX P w) k f fd ps (toSp K R) ∧ PropSet K (cad K c) m p f ∧ Cls K (cad K c) ∧ Binds K fd ps []
section
variable {X : Cx} {o e : Expr} {m : Str} {pos pos' : Pos} {k j c : Nat} {ps : List Str} {R : DSp} {to te : DTE}
end
end SM
namespace SM
open PySem PySem.Spec PyProof.Rows L2
variable {K : PySem.W.Frag} {G G' G2 H H' H2 : Hp} {S S' S2 : Sto}
def TestOk (X : Cx) (t : Expr) (tst : Value → Option Bool) : Prop := ∀ (a : Addr) (oe : Obj) (pn : List (Addr × Obj)) (σ : L2.St) (H : Hp) (s : Shared) (cls : Value) (b : Bool) (Q : Bool → Shared → Prop) (E : Value → Shared → Prop),
  Inv (X.suite a ((a, oe) :: pn)) [] σ H s → PySem.W.Looks (model X.prog X.w) s.heap (typeOf (.ref a)) cls → tst cls = some b →
  (∀ h', (∀ c o, s.heap.get? c = some o → h'.get? c = some o) → Q b { s with heap := h' }) →
  wpAny (model X.prog X.w) (X.A.mark (some (.ref a))) (eval t X.env) (fun c s1 => wpAny (model X.prog X.w) (X.A.mark (some (.ref a))) (excMatches (.ref a) c) Q E s1) E s
section
variable {X : Cx}
end
abbrev ClG := (Value → Option Bool) × Option Nat × (Addr → Value → Option Addr → TS)
def wClG (Wo : WX) (D : Ends) : List ClG → WX
  | [] => Wo
  | (tst, oi, ts) :: r => fun cls d σ H =>
    ∃ b, tst cls = some b ∧ (b = true → ∀ a, H a = none → ts a cls d (ofEnds D oi) (atSt σ a oi) H) ∧ (b = false → wClG Wo D r cls d σ H)
inductive ClsG (X : Cx) : List ExceptHandler → List ClG → Prop
  | nil : ClsG X [] []
  | plain {t : Expr} {tst : Value → Option Bool} {ts : Addr → Value → Option Addr → TS} {b0 : Stmt} {su : List Stmt} {p2 : Pos} {hds : List ExceptHandler} {l : List ClG}
      (hc : TestOk X t tst)
      (hsu : ∀ (a : Addr) (oe : Obj) (cls : Value) (d : Option Addr) (pn : List (Addr × Obj)),
        L2N.Zn cls d oe → (∃ vs, oe.data = .fields vs) → PSs (X.suite a ((a, oe) :: pn)) (b0 :: su) (ts a cls d))
      (r : ClsG X hds l) : ClsG X (.ExceptHandler (some t) none (b0 :: su) p2 :: hds) ((tst, none, ts) :: l)
  | named {n : Str} {t : Expr} {tst : Value → Option Bool} {i : Nat} {ts : Addr → Value → Option Addr → TS} {b0 : Stmt} {su : List Stmt} {p2 : Pos} {hds : List ExceptHandler} {l : List ClG}
      (hN : X.N.Nodup) (hi : X.N[i]? = some n) (hln : X.env.kindOf n = some .local) (hc : TestOk X t tst)
      (hsu : ∀ (a : Addr) (oe : Obj) (cls : Value) (d : Option Addr) (pn : List (Addr × Obj)),
        L2N.Zn cls d oe → (∃ vs, oe.data = .fields vs) → PSs (X.suite a ((a, oe) :: pn)) (b0 :: su) (ts a cls d))
      (r : ClsG X hds l) : ClsG X (.ExceptHandler (some t) (some n) (b0 :: su) p2 :: hds) ((tst, some i, ts) :: l)
section
variable {X : Cx} {body : List Stmt} {h0 : ExceptHandler} {hds : List ExceptHandler} {l : List ClG} {pos : Pos} {tb : WX → TS} {Wo : WX}
end
def TabOk (K : PySem.W.Frag) (tst : Value → Option Bool) (tab : List (Nat × Bool)) : Prop := ∀ c b, tab.lookup c = some b → tst (.ref (cad K c)) = some b
inductive DClG (X : Cx) : List ExceptHandler → List DCl → Prop
  | nil : DClG X [] []
  | plain {t : Expr} {tst : Value → Option Bool} {tab : List (Nat × Bool)} {ts : Addr → Option Addr → Nat → DTS} {b0 : Stmt} {su : List Stmt} {p2 : Pos} {hds : List ExceptHandler} {l : List DCl}
      (hc : TestOk X t tst) (em : TabOk X.K tst tab)
      (hsu : ∀ (a : Addr) (oe : Obj) (c : Nat) (d : Option Addr) (pn : List (Addr × Obj)), Cgt X.K oe c d → PDSs (X.suite a ((a, oe) :: pn)) (b0 :: su) (ts a d c))
      (r : DClG X hds l) : DClG X (.ExceptHandler (some t) none (b0 :: su) p2 :: hds) ((tab, none, ts) :: l)
  | named {n : Str} {t : Expr} {tst : Value → Option Bool} {i : Nat} {tab : List (Nat × Bool)} {ts : Addr → Option Addr → Nat → DTS} {b0 : Stmt} {su : List Stmt} {p2 : Pos} {hds : List ExceptHandler} {l : List DCl}
      (hN : X.N.Nodup) (hi : X.N[i]? = some n) (hln : X.env.kindOf n = some .local) (hc : TestOk X t tst) (em : TabOk X.K tst tab)
      (hsu : ∀ (a : Addr) (oe : Obj) (c : Nat) (d : Option Addr) (pn : List (Addr × Obj)), Cgt X.K oe c d → PDSs (X.suite a ((a, oe) :: pn)) (b0 :: su) (ts a d c))
      (r : DClG X hds l) : DClG X (.ExceptHandler (some t) (some n) (b0 :: su) p2 :: hds) ((tab, some i, ts) :: l)
theorem DClG.ok {X : Cx} {W : WX} : ∀ {hds : List ExceptHandler} {l : List DCl}, DClG X hds l → ∃ l' : List ClG, ClsG X hds l' ∧
    ∀ {D : Ends} {E : DEnds} {G0 H0 : Hp} {S0 : Sto}, ER X.K W G0 H0 S0 E D → ∀ {G H : Hp} {S : Sto} {σ : L2.St} {δ : DS} {cls : Value} {d : Option Addr} {x : Exn}, Stp X.K G0 H0 S0 G H S → RpE X.K G σ δ → Rx X.K G cls d x →
      trXs E l x δ S → wClG W D l' cls d σ H := by
  intro hds l h
  induction h with
  | nil => exact ⟨[], .nil, fun er _ _ _ _ _ _ _ _ st re rx q => er.xc _ _ _ _ _ _ _ _ st re rx q⟩
  | @plain t0 tst tab ts b0 su p2 hd2 l2 hc em hsu r ih =>
    obtain ⟨l', ok', go⟩ := ih
    refine ⟨(tst, none, liftCl X ts) :: l', .plain hc (fun a oe cls d pn hz hff => ⟨fun pins s σ H D I h => ?_⟩) ok', fun er G' H' S' σ' δ' cls d x st re' rx q => ?_⟩
    · obtain ⟨c, rfl, h⟩ := h
      exact ((hsu a oe c d pn ⟨hz, hff⟩).run _ takes0N PassesOwn.never).run pins s σ H D I h
    · have ec := rx.1
      subst ec
      revert q
      show (match tab.lookup x.c with | some true => _ | some false => _ | none => _) → _
      cases hl : tab.lookup x.c with
      | none => exact fun z => z.elim
      | some b =>
        cases b with
        | false => exact fun q => ⟨false, em _ _ hl, fun z => Bool.noConfusion z, fun _ => go er st re' rx q⟩
        | true =>
          intro q
          refine ⟨true, em _ _ hl, fun _ a ha => ⟨x.c, rfl, G', _, S', _, re', st.rel, q a d, ?_⟩, fun z => Bool.noConfusion z⟩
          exact ⟨fun G2 H2 S2 σ2 δ2 s2 r2 z => er.nx _ _ _ _ _ (st.trans s2) r2 z, fun G2 H2 S2 v d2 s2 r2 z => er.rt _ _ _ _ _ (st.trans s2) r2 z, fun G2 H2 S2 σ2 δ2 s2 r2 z => er.bk _ _ _ _ _ (st.trans s2) r2 z, fun G2 H2 S2 σ2 δ2 s2 r2 z => er.ct _ _ _ _ _ (st.trans s2) r2 z, fun _ _ _ _ _ _ _ _ _ _ _ z => z⟩
  | @named n t0 tst i tab ts b0 su p2 hd2 l2 hN hi hln hc em hsu r ih =>
    obtain ⟨l', ok', go⟩ := ih
    refine ⟨(tst, some i, liftCl X ts) :: l', .named hN hi hln hc (fun a oe cls d pn hz hff => ⟨fun pins s σ H D I h => ?_⟩) ok', fun er G' H' S' σ' δ' cls d x st re' rx q => ?_⟩
    · obtain ⟨c, rfl, h⟩ := h
      exact ((hsu a oe c d pn ⟨hz, hff⟩).run _ takes0N PassesOwn.never).run pins s σ H D I h
    · have ec := rx.1
      subst ec
      revert q
      show (match tab.lookup x.c with | some true => _ | some false => _ | none => _) → _
      cases hl : tab.lookup x.c with
      | none => exact fun z => z.elim
      | some b =>
        cases b with
        | false => exact fun q => ⟨false, em _ _ hl, fun z => Bool.noConfusion z, fun _ => go er st re' rx q⟩
        | true =>
          intro q
          refine ⟨true, em _ _ hl, fun _ a ha => ⟨x.c, rfl, G', _, S', _, re'.put i rx.rp, st.rel, q a d, ?_⟩, fun z => Bool.noConfusion z⟩
          exact ⟨fun G2 H2 S2 σ2 δ2 s2 r2 z => er.nx _ _ _ _ _ (st.trans s2) (r2.unset i) z, fun G2 H2 S2 v d2 s2 r2 z => er.rt _ _ _ _ _ (st.trans s2) r2 z, fun G2 H2 S2 σ2 δ2 s2 r2 z => er.bk _ _ _ _ _ (st.trans s2) (r2.unset i) z, fun G2 H2 S2 σ2 δ2 s2 r2 z => er.ct _ _ _ _ _ (st.trans s2) (r2.unset i) z, fun _ _ _ _ _ _ _ _ _ _ _ z => z⟩
end SM
namespace SM
open PySem PySem.Spec PyProof.Rows L2 HotX
section
variable {prog : Program} {w : World} {A : Around} {E : Value → Shared → Prop} {s : Shared}
end
section
variable {X : Cx} {W : WX}
end
end SM
namespace SM
open PySem PySem.Spec PyProof.Rows L2 HotX
structure Ready (X : Cx) (pins : List (Addr × Obj)) (σ : L2.St) (H : Hp) (a : Addr) (cls : Value) (d : Option Addr) (s' : Shared) (h : Heap) : Prop where
  ex : ∃ B sI, Inv X pins σ H sI ∧ (∀ b o, sI.heap.get? b = some o → b ∉ frs X.stack → B.get? b = some o) ∧ sI.heap.UpToSlots h ∧ HandSPX.FlyingZ B (X.env :: X.outer) a (L2N.Zn cls d) h ∧ s'.os = sI.os
  na : H a = none
  bare : AllBare s'.gens
section
variable {X : Cx} {pins : List (Addr × Obj)} {σ : L2.St} {H : Hp} {a : Addr} {cls : Value} {d : Option Addr} {s' : Shared} {h : Heap}
theorem Ready.inv (r : Ready X pins σ H a cls d s' h) : Inv X pins σ H { s' with heap := h } := by
  obtain ⟨B, sI, I, nb, up, fly, os⟩ := r.ex
  exact I.landed (s' := { s' with heap := h }) nb fly.1 up os r.bare
theorem Ready.suite (r : Ready X pins σ H a cls d s' h) (hf : X.env.frame = some X.env.locals) : ∃ oe, Inv (X.suite a ((a, oe) :: (X.pn ++ pins))) [] σ H { s' with heap := h } ∧ h.get? a = some oe ∧ L2N.Zn cls d oe ∧ ∃ vs, oe.data = .fields vs := by
  have I := r.inv
  obtain ⟨B, sI, _, _, _, fly, _⟩ := r.ex
  obtain ⟨oe, vs, g, z, dt⟩ := fly.there
  have out : a ∉ frs (X.env :: X.outer) := fun m => by
    obtain ⟨_, o, g', nf⟩ := fly.2.2.1.mem m
    cases g.symm.trans g'
    exact nf vs dt
  have mem : ∀ {b : Addr} {e : Env}, e ∈ X.env :: X.outer → e.frame = some b → b ∈ frs (X.env :: X.outer) := fun m q => List.mem_filterMap.mpr ⟨_, m, q⟩
  refine ⟨oe, I.suite g dt r.na (fun q => out (q ▸ mem List.mem_cons_self hf)) (fun m => ?_), g, z, vs, dt⟩
  obtain ⟨e, me, q⟩ := List.mem_filterMap.mp m
  exact out (mem (List.mem_cons_of_mem _ me) q)
end
section
variable {X : Cx} {pins pn pn' : List (Addr × Obj)} {σ : L2.St} {H : Hp} {s : Shared} {a : Addr} {q : Addr × Obj} {xe : Value → Shared → Prop}
end
section
variable {X : Cx} {x n : Str} {c : Value} {i : Nat} {b₀ : Stmt} {body suite : List Stmt} {np pos pos' : Pos} {tb : WX → TS} {ts : Addr → Value → Option Addr → TS} {Wo : WX}
end
end SM
namespace SM
open PySem PySem.Spec PyProof.Rows L2
section
variable {X : Cx}
end
end SM
namespace SM
open PySem PySem.Spec PyProof.Rows L2
section
variable {X : Cx}
end
end SM
namespace SM
open PySem PySem.Spec PyProof.Rows L2 HotX
variable {K : PySem.W.Frag} {G G' G2 H H' H2 : Hp} {S S' S2 : Sto}
structure PDX (X : Cx) (e : Expr) (td : DTE) : Prop where
  run : ∀ W, L2.Takes X W → PE X e (liftE X.K W td)
structure PDAX (X : Cx) (es : List Expr) (td : DTA) : Prop where
  run : ∀ W, L2.Takes X W → PA X es (liftA X.K W td)
structure PDSX (X : Cx) (st : Stmt) (ts : DTS) : Prop where
  run : ∀ W, L2.Takes X W → PassesOwn (model X.prog X.w) X.A X.env X.xe → PS X st (liftS X.K W ts)
structure PDSsX (X : Cx) (st : List Stmt) (ts : DTS) : Prop where
  run : ∀ W, L2.Takes X W → PassesOwn (model X.prog X.w) X.A X.env X.xe → PSs X st (liftS X.K W ts)
section
variable {X : Cx} {e a b o i iter : Expr} {c : Nat} {es : List Expr} {st : Stmt} {sts rest : List Stmt} {pos p apos cpos pos' : Pos} {W : WX} {k j : Nat} {x m : Str} {t : DTA} {te : DTE} {f C g : Addr} {fd : FuncData} {ps : List Str} {R : DSp} {dvs : List V} {dds : List D} {ds : List Value} {pins : List (Addr × Obj)} {σ : L2.St} {s : Shared}
structure GmX (P : Program) (w : World) (K : PySem.W.Frag) (mg : Str → Option Value) (base : Heap) (k : Nat) (c : Nat) (m : Str) (ps : List Str) (R : DSp) : Prop where
  ex : ∃ f fd, FnOk P w K mg base (L2.CX P w) k f fd ps (toSp K R) ∧ MOk K c m f ∧ Binds K fd ps []
structure GcX (P : Program) (w : World) (K : PySem.W.Frag) (mg : Str → Option Value) (base : Heap) (k : Nat) (c : Nat) (x m : Str) (ps : List Str) (R : DSp) : Prop where
  ex : ∃ p g fd, ClX.CRead K (cad K c) (.type "type") ∧ ClX.CMet K (cad K c) (.type "type") m p g ∧ FnOk P w K mg base (L2.CX P w) k g fd ps (toSp K R) ∧ Binds K fd ps [] ∧ mg x = some (.ref (cad K c))
variable {ts tu u : DTS}
end
section
variable {P : Program} {w : World} {mg : Str → Option Value} {base : Heap}
end
end SM
namespace SM
open PySem PySem.Spec PyProof.Rows L2 HotX
variable {K : PySem.W.Frag} {G G' G2 H H' H2 : Hp} {S S' S2 : Sto}
section
variable {P : Program} {w : World} {mg : Str → Option Value} {base : Heap} {qual : Str} {params : Arguments} {scope : Scope} {f : Addr} {fd : FuncData} {c : Nat} {x z : Str} {p1 p2 p3 p4 : Pos}
structure GxH (P : Program) (w : World) (K : PySem.W.Frag) (mg : Str → Option Value) (base : Heap) (c : Nat) (x : Str) : Prop where
  ex : ∃ f fd ps, L2H.FnH P w K mg base (L2N.CX P w) 1 f fd ps (spE (cad K c) (cfs c)) ∧ OexC K (cad K c) ∧ PySem.W.findIn K (.ref (cad K c)) "__init__" = some (some (.ref f)) ∧ PySem.W.typeIn K (.ref f) = some (.type "function") ∧ Binds K fd ps [] ∧ mg x = some (.ref (cad K c))
end
def rxB (K : PySem.W.Frag) (tab : List (Nat × Bool)) : Bool := tab.all fun p => decide (PySem.W.subIn K (.ref (cad K p.1)) (.type "BaseException") = some true)
section
variable {X : Cx} {e : Expr} {es : List Expr} {pos p np pos' : Pos} {j i : Nat} {x n : Str} {t : DTA} {c c' : Nat} {a : Addr} {oe : Obj} {d : Option Addr} {pn : List (Addr × Obj)} {xe : Value → Shared → Prop}
end
section
variable {X : Cx} {x n : Str} {cv : Value} {i : Nat} {body suite : List Stmt} {b₀ : Stmt} {np pos pos' : Pos} {tb : DTS} {ts : Addr → Option Addr → Nat → DTS} {tab : List (Nat × Bool)}
end
end SM
namespace SM
open PySem PySem.Spec PyProof.Rows L2
open PySem.W (Frag)
def obL (as : List Addr) (ch : ChK) (fn fs : List Df) (g : Addr → Option Obj) : He.AlD := obC2 ch fn fs (He.frG g as)
def hookL (as : List Addr) (ch : ChK) (fn fs : List Df) : PySem.W.Hook where
  α := He.AlD
  obs s := obL as ch fn fs s.heap.get?
  val _ := vlC2 fn fs
  says _ h := ∃ K : Frag, K.In h ∧ Says2 ch fn fs K
  of _ _ e := ⟨_, He.frG_in, e⟩
  keeps := fun _ _ _ ⟨K, hK, c⟩ k => ⟨K, hK.keeps k, c⟩
theorem obL_eq {as : List Addr} {ch : ChK} {fn fs : List Df} {g : Addr → Option Obj} {s : Shared} (h : ∀ a, g a = s.heap.get? a) : obL as ch fn fs g = (hookL as ch fn fs).obs s := by
  have e : g = s.heap.get? := funext h
  rw [e] <;> rfl
end SM
namespace LAW
open PySem PySem.Spec PyProof.Rows L2 SM
def top (i : Nat) : Stmt := PySem.Challenge.pw_smalti_k16_book_refused.main.body.getD i (.Pass ⟨0, 0, 0, 0⟩)
abbrev s_l_bag : Stmt := top 29
abbrev s_l_take : Stmt := top 30
abbrev s_l_palette : Stmt := top 32
abbrev s_l_offset : Stmt := top 33
abbrev s_l_signs : Stmt := top 34
abbrev s_l_parts : Stmt := top 35
abbrev s_l_rule : Stmt := top 36
abbrev s_l_rules : Stmt := top 37
abbrev s_Book_len : Stmt := inClass (top 27) 5
abbrev s_Book_init : Stmt := inClass (top 27) 0
abbrev s_p_is_stone : Stmt := top 11
abbrev s_p_is_offset : Stmt := top 17
abbrev s_p_are_condition_signs : Stmt := top 16
abbrev s_p_reading_order : Stmt := top 8
abbrev s_p_checked_parts : Stmt := top 18
abbrev s_Rule_init : Stmt := inClass (top 19) 1
abbrev s_CountRule_init : Stmt := inClass (top 20) 1
abbrev s_SameRule_init : Stmt := inClass (top 21) 1
abbrev s_l_made : Stmt := top 41
abbrev s_l_made_of_k16 : Stmt := top 49
abbrev s_l_sorted_parts : Stmt := top 38
abbrev s_l_written : Stmt := top 39
abbrev s_p_read_number : Stmt := top 22
abbrev s_p_read_part : Stmt := top 23
abbrev s_p_read_rule : Stmt := top 24
abbrev s_Book_read_sx : Stmt := inClass (top 27) 1
abbrev s_l_is_int : Stmt := top 31
abbrev s_l_line_of_k16 : Stmt := top 47
abbrev s_l_is_letter : Stmt := top 40
abbrev s_l_number : Stmt := top 44
abbrev s_l_word_part : Stmt := top 45
abbrev s_l_bad_part : Stmt := top 42
abbrev s_l_fault : Stmt := top 43
abbrev s_l_line_fault : Stmt := top 46
abbrev s_l_due_k16 : Stmt := top 48
abbrev s_law_k16 : Stmt := top 50
def d_l_bag : Df := ⟨fun K => He.ga K "_law_bag", "_law_bag", "_law_bag", s_l_bag, [], []⟩
def d_l_take : Df := ⟨fun K => He.ga K "_law_take", "_law_take", "_law_take", s_l_take, [], []⟩
def d_l_palette : Df := ⟨fun K => He.ga K "_law_palette", "_law_palette", "_law_palette", s_l_palette, [], []⟩
def d_l_offset : Df := ⟨fun K => He.ga K "_law_offset", "_law_offset", "_law_offset", s_l_offset, [], []⟩
def d_l_signs : Df := ⟨fun K => He.ga K "_law_signs", "_law_signs", "_law_signs", s_l_signs, [], []⟩
def d_l_parts : Df := ⟨fun K => He.ga K "_law_parts", "_law_parts", "_law_parts", s_l_parts, [], []⟩
def d_l_rule : Df := ⟨fun K => He.ga K "_law_rule", "_law_rule", "_law_rule", s_l_rule, [], []⟩
def d_l_rules : Df := ⟨fun K => He.ga K "_law_rules", "_law_rules", "_law_rules", s_l_rules, [], []⟩
def d_Book_len : Df := ⟨fun K => He.ma K (He.ga K "Book") "__len__", "__len__", "Book.__len__", s_Book_len, [], []⟩
def d_Book_init : Df := ⟨fun K => He.ma K (He.ga K "Book") "__init__", "__init__", "Book.__init__", s_Book_init, [], []⟩
def d_p_is_stone : Df := ⟨fun K => He.ga K "is_stone", "is_stone", "is_stone", s_p_is_stone, [], []⟩
def d_p_is_offset : Df := ⟨fun K => He.ga K "is_offset", "is_offset", "is_offset", s_p_is_offset, [], []⟩
def d_p_are_condition_signs : Df := ⟨fun K => He.ga K "are_condition_signs", "are_condition_signs", "are_condition_signs", s_p_are_condition_signs, [], []⟩
def d_p_reading_order : Df := ⟨fun K => He.ga K "reading_order", "reading_order", "reading_order", s_p_reading_order, [], []⟩
def d_p_checked_parts : Df := ⟨fun K => He.ga K "checked_parts", "checked_parts", "checked_parts", s_p_checked_parts, [], []⟩
def d_Rule_init : Df := ⟨fun K => He.ma K (He.ga K "Rule") "__init__", "__init__", "Rule.__init__", s_Rule_init, [], []⟩
def d_CountRule_init : Df := ⟨fun K => He.ma K (He.ga K "CountRule") "__init__", "__init__", "CountRule.__init__", s_CountRule_init, [], []⟩
def d_SameRule_init : Df := ⟨fun K => He.ma K (He.ga K "SameRule") "__init__", "__init__", "SameRule.__init__", s_SameRule_init, [], []⟩
def d_l_made : Df := ⟨fun K => He.ga K "_law_made", "_law_made", "_law_made", s_l_made, [], []⟩
def d_l_made_of_k16 : Df := ⟨fun K => He.ga K "_law_made_of", "_law_made_of", "_law_made_of", s_l_made_of_k16, [], []⟩
def d_l_sorted_parts : Df := ⟨fun K => He.ga K "_law_sorted_parts", "_law_sorted_parts", "_law_sorted_parts", s_l_sorted_parts, [], []⟩
def d_l_written : Df := ⟨fun K => He.ga K "_law_written", "_law_written", "_law_written", s_l_written, [], []⟩
def d_p_read_number : Df := ⟨fun K => He.ga K "read_number", "read_number", "read_number", s_p_read_number, [], []⟩
def d_p_read_part : Df := ⟨fun K => He.ga K "read_part", "read_part", "read_part", s_p_read_part, [], []⟩
def d_p_read_rule : Df := ⟨fun K => He.ga K "read_rule", "read_rule", "read_rule", s_p_read_rule, [], []⟩
def d_Book_read_sx : Df := ⟨fun K => SM.cmAd K (He.ga K "Book") "read", "read", "Book.read", s_Book_read_sx, [], []⟩
def d_l_is_int : Df := ⟨fun K => He.ga K "_law_is_int", "_law_is_int", "_law_is_int", s_l_is_int, [], []⟩
def d_l_line_of_k16 : Df := ⟨fun K => He.ga K "_law_line_of", "_law_line_of", "_law_line_of", s_l_line_of_k16, [], []⟩
def d_l_is_letter : Df := ⟨fun K => He.ga K "_law_is_letter", "_law_is_letter", "_law_is_letter", s_l_is_letter, [], []⟩
def d_l_number : Df := ⟨fun K => He.ga K "_law_number", "_law_number", "_law_number", s_l_number, [], []⟩
def d_l_word_part : Df := ⟨fun K => He.ga K "_law_word_part", "_law_word_part", "_law_word_part", s_l_word_part, [], []⟩
def d_l_bad_part : Df := ⟨fun K => He.ga K "_law_bad_part", "_law_bad_part", "_law_bad_part", s_l_bad_part, [], []⟩
def d_l_fault : Df := ⟨fun K => He.ga K "_law_fault", "_law_fault", "_law_fault", s_l_fault, [], []⟩
def d_l_line_fault : Df := ⟨fun K => He.ga K "_law_line_fault", "_law_line_fault", "_law_line_fault", s_l_line_fault, [], []⟩
def d_l_due_k16 : Df := ⟨fun K => He.ga K "_law_due", "_law_due", "_law_due", s_l_due_k16, [], []⟩
def d_law_k16 : Df := ⟨fun K => He.ga K "law", "law", "law", s_law_k16, [], []⟩
abbrev s_xInvalidBook : Stmt := inClass (top 4) 0
theorem sc_xInvalidBook : FnScope ["self", "line"] ["self", "line"] (defScope s_xInvalidBook) := ⟨rfl, rfl, rfl, by decide +kernel, rfl, by decide +kernel, by decide +kernel⟩
def d_xInvalidBook : Df := ⟨fun K => He.ma K (He.ga K "InvalidBook") "__init__", "__init__", "InvalidBook.__init__", s_xInvalidBook, [], []⟩
abbrev s_xInvalidRule : Stmt := inClass (top 3) 0
theorem sc_xInvalidRule : FnScope ["self", "part"] ["self", "part"] (defScope s_xInvalidRule) := ⟨rfl, rfl, rfl, by decide +kernel, rfl, by decide +kernel, by decide +kernel⟩
def d_xInvalidRule : Df := ⟨fun K => He.ma K (He.ga K "InvalidRule") "__init__", "__init__", "InvalidRule.__init__", s_xInvalidRule, [], []⟩
def fn : List Df := [d_l_bag, d_l_take, d_l_palette, d_l_offset, d_l_signs, d_l_parts, d_l_rule, d_l_rules, d_Book_len, d_Book_init, d_p_is_stone, d_p_is_offset, d_p_are_condition_signs, d_p_reading_order, d_p_checked_parts, d_Rule_init, d_l_made, d_l_made_of_k16, d_l_sorted_parts, d_l_written, d_p_read_number, d_p_read_part, d_p_read_rule, d_Book_read_sx, d_l_is_int, d_l_line_of_k16, d_l_is_letter, d_l_number, d_l_word_part, d_l_bad_part, d_l_fault, d_l_line_fault, d_l_due_k16, d_law_k16, d_xInvalidBook, d_xInvalidRule]
def fs : List Df := [d_CountRule_init, d_SameRule_init]
abbrev FILE : Str := PySem.Challenge.pw_smalti_k16_book_refused.main.file
def ch : ChK := [fun K => oexB K 23,
  fun K => oinB K 23,
  fun K => (He.Fa.glo "InvalidBook").ok K,
  fun K => oexB K 22,
  fun K => oinB K 22,
  fun K => (He.Fa.glo "InvalidRule").ok K,
  fun K => (He.Fa.free "int").ok K,
  fun K => (He.Fa.free "len").ok K,
  fun K => (He.Fa.glo "_law_take").ok K,
  fun K => (He.Fa.free "range").ok K,
  fun K => (He.Fa.glo "_law_offset").ok K,
  fun K => (He.Fa.glo "_law_signs").ok K,
  fun K => (He.Fa.glo "_law_parts").ok K,
  fun K => (He.Fa.glo "_law_rule").ok K,
  fun K => fokB K "rules" [(5, 0)],
  fun K => (He.Fa.int "MOST_RULES" (20)).ok K,
  fun K => (He.Fa.free "list").ok K,
  fun K => (He.Fa.str "LETTERS" "abcdefghijklmnopqrstuvwxyz").ok K,
  fun K => (He.Fa.int "REACH" (3)).ok K,
  fun K => (He.Fa.free "enumerate").ok K,
  fun K => (He.Fa.glo "is_stone").ok K,
  fun K => (He.Fa.glo "reading_order").ok K,
  fun K => (He.Fa.int "MOST_PARTS" (8)).ok K,
  fun K => (He.Fa.free "sorted").ok K,
  fun K => (He.Fa.glo "is_offset").ok K,
  fun K => (He.Fa.glo "are_condition_signs").ok K,
  fun K => fokB K "stone" [(2, 0), (3, 0), (4, 0)],
  fun K => fokB K "parts" [(2, 1), (3, 1), (4, 1)],
  fun K => (He.Fa.glo "checked_parts").ok K,
  fun K => fokB K "parts" [(3, 1), (4, 1)],
  fun K => fokB K "need" [(3, 2), (4, 2)],
  fun K => supB K (He.ma K (He.ga K "CountRule") "__init__") 3 (He.ma K (He.ga K "Rule") "__init__") [3, 4] FILE,
  fun K => (He.Fa.free "super").ok K,
  fun K => fokB K "stone" [(4, 0)],
  fun K => supB K (He.ma K (He.ga K "SameRule") "__init__") 4 (He.ma K (He.ga K "CountRule") "__init__") [4] FILE,
  fun K => (He.Fa.glo "Rule").ok K,
  fun K => (He.Fa.mkr "Rule").ok K,
  fun K => (He.Fa.glo "CountRule").ok K,
  fun K => (He.Fa.mkr "CountRule").ok K,
  fun K => (He.Fa.glo "SameRule").ok K,
  fun K => (He.Fa.mkr "SameRule").ok K,
  fun K => fxB K "line" [(23, 0)],
  fun K => emB K (.ref (cad K 23)) [(23, true)],
  fun K => (He.Fa.meth "Book" "__len__").ok K,
  fun K => (He.Fa.glo "Book").ok K,
  fun K => (He.Fa.mkr "Book").ok K,
  fun K => (He.Fa.glo "_law_made").ok K,
  fun K => (He.Fa.free "str").ok K,
  fun K => (He.Fa.glo "_law_sorted_parts").ok K,
  fun K => (He.Fa.str "DIGITS" "0123456789").ok K,
  fun K => (He.Fa.glo "read_number").ok K,
  fun K => (He.Fa.glo "read_part").ok K,
  fun K => emB K (.ref (cad K 22)) [(22, true)],
  fun K => rxB K [(22, true)],
  fun K => (He.Fa.glo "read_rule").ok K,
  fun K => isiB K (.type "int") ti_int,
  fun K => (He.Fa.free "isinstance").ok K,
  fun K => isiB K (.type "bool") ti_bool,
  fun K => (He.Fa.free "bool").ok K,
  fun K => ixB K (.ref (cad K 20)) [(23, true)],
  fun K => (He.Fa.glo "SmaltiError").ok K,
  fun K => ixB K (.ref (cad K 22)) [(23, false)],
  fun K => cmB K 5 "read",
  fun K => (He.Fa.glo "_law_is_int").ok K,
  fun K => (He.Fa.glo "_law_number").ok K,
  fun K => (He.Fa.glo "_law_is_letter").ok K,
  fun K => (He.Fa.glo "_law_bad_part").ok K,
  fun K => (He.Fa.glo "_law_word_part").ok K,
  fun K => (He.Fa.glo "_law_fault").ok K,
  fun K => (He.Fa.glo "_law_line_fault").ok K,
  fun K => (He.Fa.glo "_law_bag").ok K,
  fun K => (He.Fa.glo "_law_palette").ok K,
  fun K => (He.Fa.glo "_law_rules").ok K,
  fun K => (He.Fa.glo "_law_made_of").ok K,
  fun K => (He.Fa.glo "_law_written").ok K,
  fun K => (He.Fa.glo "_law_line_of").ok K,
  fun K => (He.Fa.glo "_law_due").ok K,
  fun K => (He.Fa.glo "law").ok K]
def nm0 : List Str := ["_wall", "SmaltiError", "InvalidRule", "InvalidBook", "NoRule", "WrongStone", "reading_order", "LETTERS", "is_stone", "REACH", "MOST_PARTS", "DIGITS", "are_condition_signs", "is_offset", "checked_parts", "Rule", "CountRule", "SameRule", "read_number", "read_part", "read_rule", "MOST_RULES", "Book", "_law_bag", "_law_take", "_law_is_int", "_law_palette", "_law_offset", "_law_signs", "_law_parts"]
def nm1 : List Str := ["_law_rule", "_law_rules", "_law_sorted_parts", "_law_written", "_law_is_letter", "_law_made", "_law_bad_part", "_law_fault", "_law_number", "_law_word_part", "_law_line_fault", "_law_line_of", "_law_due", "_law_made_of"]
abbrev nms : List Str := nm0 ++ nm1
def as0 : List Addr := [2, 3, 6, 4, 21, 31, 51, 70, 89, 108, 117, 124, 131, 138, 143, 210, 246, 282, 291, 296, 303, 364, 373, 380, 387, 394, 401, 408, 413, 420, 427, 432, 439, 446, 451, 456, 463, 470, 477, 484, 491, 498, 503, 508, 0, 20, 30, 50, 69, 88]
def as1 : List Addr := [107, 116, 123, 130, 137, 142, 209, 245, 281, 290, 295, 302, 363, 372, 379, 386, 393, 400, 407, 412, 419, 426, 431, 438, 445, 450, 455, 462, 469, 476, 483, 490, 497, 502, 507, 15, 16, 17, 18, 19, 29, 32, 48, 49, 67, 68, 86, 87, 105, 106]
def as2 : List Addr := [111, 112, 113, 114, 115, 118, 119, 120, 121, 122, 125, 126, 127, 128, 129, 132, 133, 134, 135, 136, 139, 140, 141, 157, 165, 172, 179, 187, 195, 200, 207, 208, 211, 212, 230, 238, 243, 244, 262, 269, 274, 279, 280, 285, 286, 287, 288, 289, 292, 293]
def as3 : List Addr := [294, 297, 298, 299, 300, 301, 317, 326, 332, 339, 347, 354, 361, 362, 365, 366, 369, 370, 371, 374, 375, 376, 377, 378, 381, 382, 383, 384, 385, 388, 389, 390, 391, 392, 395, 396, 397, 398, 399, 402, 403, 404, 405, 406, 409, 410, 411, 414, 415, 416]
def as4 : List Addr := [417, 418, 421, 422, 423, 424, 425, 428, 429, 430, 433, 434, 435, 436, 437, 440, 441, 442, 443, 444, 447, 448, 449, 452, 453, 454, 457, 458, 459, 460, 461, 464, 465, 466, 467, 468, 471, 472, 473, 474, 475, 478, 479, 480, 481, 482, 485, 486, 487, 488]
def as5 : List Addr := [489, 492, 493, 494, 495, 496, 499, 500, 501, 504, 505, 506, 47, 66, 85, 104, 156, 164, 171, 178, 186, 180, 194, 188, 199, 206, 229, 218, 237, 242, 261, 252, 268, 273, 278, 316, 324, 325, 331, 338, 346, 340, 353, 360, 42, 43, 44, 45, 46, 61]
def as6 : List Addr := [62, 63, 64, 65, 80, 81, 82, 83, 84, 99, 100, 101, 102, 103, 151, 152, 153, 154, 155, 163, 166, 167, 168, 169, 170, 173, 174, 175, 176, 177, 181, 182, 183, 184, 185, 189, 190, 191, 192, 193, 196, 197, 198, 201, 202, 203, 204, 205, 224, 225]
def as7 : List Addr := [226, 227, 228, 236, 239, 240, 241, 258, 259, 260, 263, 264, 265, 266, 267, 270, 271, 272, 275, 276, 277, 311, 312, 313, 314, 315, 323, 327, 328, 329, 330, 333, 334, 335, 336, 337, 341, 342, 343, 344, 345, 348, 349, 350, 351, 352, 355, 356, 357, 358]
def as8 : List Addr := [359, 158, 159, 160, 161, 162, 231, 232, 233, 234, 235, 318, 319, 320, 321, 322]
abbrev as : List Addr := as0 ++ (as1 ++ (as2 ++ (as3 ++ (as4 ++ (as5 ++ (as6 ++ (as7 ++ (as8))))))))
abbrev R : PySem.W.OpenRow := PySem.W.OpenLaw.row PySem.Challenge.rw_smalti_k16_book_refused
abbrev hk : PySem.W.Hook := hookL as ch fn fs
def ob (s : PySem.W.SharedT) : He.AlD := obL as ch fn fs (HandSHeadRun.getT s)
theorem ob_eq (s : PySem.W.SharedT) : ob s = hk.obs s.abs := obL_eq (HandSHeadRun.getT_eq s)
theorem run (w : World) : HandSHeadRun.RunEq R (PySem.W.view R.prog [50]) hk ob 30000 nms w := by
  intro os
  kernel_rfl
end LAW
namespace SM
open PySem PySem.Spec PyProof.Rows L2
theorem su_same {S : Sto} {a : Addr} {o : OO} : su S a o a = some o := by unfold su; exact if_pos rfl
theorem su_ne {S : Sto} {a b : Addr} {o : OO} (h : b ≠ a) : su S a o b = S b := by unfold su; exact if_neg h
theorem su_su {S : Sto} {a : Addr} {o u : OO} : su (su S a o) a u = su S a u := by funext b; unfold su; by_cases h : b = a <;> simp [h]
theorem sd_su {S : Sto} {a : Addr} {o : OO} : sd (su S a o) a = sd S a := by funext b; unfold su sd; by_cases h : b = a <;> simp [h]
theorem sd_none {S : Sto} {a : Addr} (h : S a = none) : sd S a = S := by
  funext b; unfold sd; split
  · rename_i e; rw [e, h]
  · rfl
theorem sd_su_new {S : Sto} {a : Addr} {o : OO} (h : S a = none) : sd (su S a o) a = S := by rw [sd_su, sd_none h]
theorem su_self {S : Sto} {a : Addr} {o : OO} (h : S a = some o) : su S a o = S := by
  funext b; unfold su; split
  · rename_i e; rw [e, h]
  · rfl
theorem st_ne {S : Sto} {a b : Addr} {o : OO} (h : S a = some o) (h' : S b = none) : a ≠ b := by
  intro e; subst e; rw [h] at h'; cases h'
variable {K : PySem.W.Frag} {G G' G2 H H' H2 : Hp} {S S' S2 : Sto}
theorem Rps.append : ∀ {vs ws : List V} {ds es : List D}, Rps K G vs ds → Rps K G ws es → Rps K G (vs ++ ws) (ds ++ es)
  | _, _, _, _, .nil, s => s
  | _, _, _, _, .cons r t, s => .cons r (Rps.append t s)
theorem RO.ntup {h : Option HO} {vs : List V} : ∀ {o : OO}, RO K G h o → h ≠ Option.some (.tup vs)
  | .lst _, ⟨_, e, _⟩, z => by rw [e] at z; cases z
  | .dT _, ⟨_, e, _⟩, z => by rw [e] at z; cases z
  | .ins _ _, ⟨_, _, e, _⟩, z => by rw [e] at z; cases z
  | .dF _ _ _, ⟨e, _⟩, z => by rw [e] at z; cases z
theorem Rel.sq (r : Rel K G H S) {a : Addr} {vs : List V} (h : SqL K G a vs) : SqL K H a vs := by
  rcases h with (h | ⟨o, h⟩) | h
  · exact .inl (.inl (r.at h rfl))
  · exact .inl (.inr ⟨o, r.at h rfl⟩)
  · exact .inr h
theorem Stp.refl (r : Rel K G H S) : Stp K G H S G H S := ⟨fun _ _ h => h, r, fun b o h g s => ⟨h, s, .inl g⟩⟩
theorem Stp.newF (r : Rel K G H S) {p : Addr} {o : HO} (h : H p = none) : Stp K G H S (upd G p o) (upd H p o) S where
  sg := fun b u e => by rw [upd_ne (ne_of_none e (r.free h).1)]; exact e
  rel := {
    le := fun b u e => by
      by_cases hb : b = p
      · subst hb; rw [upd_same] at e ⊢; exact .inl e
      · rw [upd_ne hb] at e ⊢; exact r.le b u e
    own := fun b u e => by
      have hb : b ≠ p := st_ne e (r.free h).2
      rw [upd_ne hb, upd_ne hb]
      refine ⟨(r.own b u e).1, (r.own b u e).2.mono fun c w q => ?_⟩
      rw [upd_ne (ne_of_none q (r.free h).1)]; exact q }
  fr := fun b u e g s => by
    have hb : b ≠ p := ne_of_none e h
    rw [upd_ne hb, upd_ne hb]; exact ⟨e, s, .inl g⟩
theorem Stp.newO (r : Rel K G H S) {p : Addr} {u : HO} {o : OO} (h : H p = none) (ro : RO K G (some u) o) : Stp K G H S G (upd H p u) (su S p o) where
  sg := fun _ _ e => e
  rel := {
    le := fun b w e => by
      have hb : b ≠ p := ne_of_none e (r.free h).1
      rw [upd_ne hb]; exact r.le b w e
    own := fun b w e => by
      by_cases hb : b = p
      · subst hb; rw [su_same] at e; cases e; rw [upd_same]; exact ⟨(r.free h).1, ro⟩
      · rw [su_ne hb] at e; rw [upd_ne hb]; exact r.own b w e }
  fr := fun b w e g s => by
    have hb : b ≠ p := ne_of_none e h
    rw [upd_ne hb, su_ne hb]; exact ⟨e, s, .inl g⟩
theorem Stp.mut (r : Rel K G H S) {p : Addr} {u : HO} {o o' : OO} (h : S p = some o) (ro : RO K G (some u) o') : Stp K G H S G (upd H p u) (su S p o') where
  sg := fun _ _ e => e
  rel := {
    le := fun b w e => by
      have hb : b ≠ p := fun z => by subst z; rw [(r.own _ _ h).1] at e; cases e
      rw [upd_ne hb]; exact r.le b w e
    own := fun b w e => by
      by_cases hb : b = p
      · subst hb; rw [su_same] at e; cases e; rw [upd_same]; exact ⟨(r.own _ _ h).1, ro⟩
      · rw [su_ne hb] at e; rw [upd_ne hb]; exact r.own b w e }
  fr := fun b w e g s => by
    have hb : b ≠ p := fun z => by subst z; rw [h] at s; cases s
    rw [upd_ne hb, su_ne hb]; exact ⟨e, s, .inl g⟩
theorem Stp.addT (r : Rel K G H S) {b : Addr} {vs : List V} (h : H b = some (.tup vs)) : ∃ G', Stp K G H S G' H S ∧ G' b = some (.tup vs) := by
  cases q : G b with
  | some u =>
    refine ⟨G, Stp.refl r, ?_⟩
    rcases r.le b u q with z | ⟨_, o, z⟩
    · rw [h] at z; rw [q]; exact z.symm
    · rw [h] at z; cases z
  | none =>
    have sn : S b = none := by
      cases z : S b with
      | none => rfl
      | some o => exact absurd h ((r.own b o z).2.ntup)
    refine ⟨upd G b (.tup vs), ⟨fun c u e => ?_, ⟨fun c u e => ?_, fun c u e => ?_⟩, fun c u e g s => ?_⟩, upd_same⟩
    · rw [upd_ne (ne_of_none e q)]; exact e
    · by_cases hc : c = b
      · subst hc; rw [upd_same] at e; cases e; exact .inl h
      · rw [upd_ne hc] at e; exact r.le c u e
    · have hc : c ≠ b := st_ne e sn
      rw [upd_ne hc]
      refine ⟨(r.own c u e).1, (r.own c u e).2.mono fun d w z => ?_⟩
      rw [upd_ne (ne_of_none z q)]; exact z
    · refine ⟨e, s, ?_⟩
      by_cases hc : c = b
      · subst hc; rw [h] at e; cases e; exact .inr ⟨vs, rfl⟩
      · rw [upd_ne hc]; exact .inl g
theorem vwk_is {S : Sto} {x : D} {k : D → Prop} : vwk S x k = k (vw S x) := propext ⟨fun h => h.it, fun h => ⟨h⟩⟩
theorem vwk_of {S : Sto} {x d : D} {k : D → Prop} (h : vw S x = d) (q : k d) : vwk S x k := by rw [vwk_is, h]; exact q
theorem itk_is {α : Type} {xs : List α} {i : Int} {k : α → Prop} : itk xs i k = ∃ d, atI xs i = some d ∧ k d := propext ⟨fun h => h.it, fun h => ⟨h⟩⟩
theorem itk_of {α : Type} {xs : List α} {i : Int} {d : α} {k : α → Prop} (h : atI xs i = some d) (q : k d) : itk xs i k := by rw [itk_is]; exact ⟨d, h, q⟩
theorem brn_t {A B : Prop} : brn true A B = A := propext ⟨fun h => by have q := h.it; rwa [if_pos rfl] at q, fun h => ⟨by rw [if_pos rfl]; exact h⟩⟩
theorem brn_f {A B : Prop} : brn false A B = B := propext ⟨fun h => by have q := h.it; rwa [if_neg Bool.false_ne_true] at q, fun h => ⟨by rw [if_neg Bool.false_ne_true]; exact h⟩⟩
theorem brn_of {b : Bool} {A B : Prop} (h1 : b = true → A) (h2 : b = false → B) : brn b A B := by
  cases b
  · rw [brn_f]; exact h2 rfl
  · rw [brn_t]; exact h1 rfl
theorem vw_lst (r : Rel K G H S) {v : V} {d : D} {ds : List D} (h : Rp K G v d) (e : vw S d = .lst ds) : ∃ a vs, v = .ref a ∧ H a = some (.lst vs) ∧ Rps K G vs ds ∧ ds.length ≤ sizeLine := by
  cases h with
  | lst h q l => cases e; exact ⟨_, _, rfl, r.at h rfl, q, l⟩
  | adr a =>
    unfold vw at e
    cases q : S a with
    | none => simp [q] at e
    | some o =>
      cases o with
      | lst es =>
        simp [q] at e; subst e
        obtain ⟨vs, e1, e2, e3⟩ := (r.own a _ q).2
        exact ⟨a, vs, rfl, e1, e2, e3⟩
      | dT _ => simp [q] at e
      | ins _ _ => simp [q] at e
      | dF _ _ _ => simp [q] at e
  | _ => cases e
theorem vw_tup (r : Rel K G H S) {v : V} {d : D} {ds : List D} (h : Rp K G v d) (e : vw S d = .tup ds) : ∃ a vs, v = .ref a ∧ G a = some (.tup vs) ∧ H a = some (.tup vs) ∧ Rps K G vs ds ∧ ds.length ≤ sizeLine := by
  cases h with
  | tup h q l => cases e; exact ⟨_, _, rfl, h, r.at h rfl, q, l⟩
  | adr a =>
    unfold vw at e
    cases q : S a with
    | none => simp [q] at e
    | some o => cases o <;> simp [q] at e
  | _ => cases e
theorem vw_dT (r : Rel K G H S) {v : V} {d : D} {ds : List (List Key × D)} (h : Rp K G v d) (e : vw S d = .dT ds) : ∃ a vs, v = .ref a ∧ Rd H a (.dT vs) ∧ Rkv K G vs ds := by
  cases h with
  | dT h q => cases e; exact ⟨_, _, rfl, r.rd h, q⟩
  | adr a =>
    unfold vw at e
    cases q : S a with
    | none => simp [q] at e
    | some o =>
      cases o with
      | dT es =>
        simp [q] at e; subst e
        obtain ⟨vs, e1, e2⟩ := (r.own a _ q).2
        exact ⟨a, vs, rfl, .inl e1, e2⟩
      | dF od vs es =>
        simp [q] at e; subst e
        obtain ⟨e1, e2⟩ := (r.own a _ q).2
        exact ⟨a, vs, rfl, .inr ⟨od, e1⟩, e2⟩
      | lst _ => simp [q] at e
      | ins _ _ => simp [q] at e
  | _ => cases e
theorem vw_ins (r : Rel K G H S) {v : V} {d : D} {c : Nat} {ds : List D} (h : Rp K G v d) (e : vw S d = .ins c ds) : ∃ a dx vs, v = .ref a ∧ H a = some (.ins (cad K c) dx ((cfs c).zip vs)) ∧ Rps K G vs ds ∧ ds.length ≤ (cfs c).length := by
  cases h with
  | ins h q l => cases e; exact ⟨_, _, _, rfl, r.at h rfl, q, l⟩
  | adr a =>
    unfold vw at e
    cases q : S a with
    | none => simp [q] at e
    | some o =>
      cases o with
      | ins c' es =>
        simp [q] at e; obtain ⟨rfl, rfl⟩ := e
        obtain ⟨dx, vs, e1, e2, e3⟩ := (r.own a _ q).2
        exact ⟨a, dx, vs, rfl, e1, e2, e3⟩
      | lst _ => simp [q] at e
      | dT _ => simp [q] at e
      | dF _ _ _ => simp [q] at e
  | _ => cases e
theorem vw_scal {v : V} {d : D} (h : Rp K G v d) : (∀ b, vw S d = .bl b → v = .bl b) ∧ (∀ i, vw S d = .int i → v = .int i) ∧ (∀ s, vw S d = .str s → v = .str s ∧ okS s) ∧ (vw S d = .non → v = .non) ∧ (∀ s, vw S d = .ty s → v = .ty s) := by
  cases h with
  | adr a =>
    unfold vw
    cases q : S a with
    | none => simp [q]
    | some o => cases o <;> simp [q]
  | str h => simp only [vw]; exact ⟨(fun _ e => nomatch e), (fun _ e => nomatch e), (fun s e => by cases e; exact ⟨rfl, h⟩), (fun e => nomatch e), (fun _ e => nomatch e)⟩
  | _ => simp [vw]
end SM
namespace SM
open PySem PySem.Spec PyProof.Rows L2
abbrev R2D := D → D → Sto → DQ → Prop
abbrev RCD := List D → Sto → DQ → Prop
variable {K : PySem.W.Frag} {G G' G2 H H' H2 : Hp} {S S' S2 : Sto}
def lift2 (K : PySem.W.Frag) (r : R2D) : R2 := fun x y H Q => ∃ G S dx dy QD, Rel K G H S ∧ Rp K G x dx ∧ Rp K G y dy ∧ r dx dy S QD ∧ ∀ G' H' S' v d, Stp K G H S G' H' S' → Rp K G' v d → QD d S' → Q v H'
def liftC (K : PySem.W.Frag) (r : RCD) : List V → Hp → VK → Prop := fun vs H Q => ∃ G S ds QD, Rel K G H S ∧ Rps K G vs ds ∧ r ds S QD ∧ ∀ G' H' S' v d, Stp K G H S G' H' S' → Rp K G' v d → QD d S' → Q v H'
def liftM (K : PySem.W.Frag) (r : RCD) : V → List V → Hp → VK → Prop := fun x vs H Q => liftC K r (x :: vs) H Q
section
variable {X : Cx} {e a b c : Expr} {es : List Expr} {st : Stmt} {sts : List Stmt} {pos : Pos} {W : WX}
theorem PE.weak {t t' : TE} (h : PE X e t) (w : ∀ σ H Q, t' σ H Q → t σ H Q) : PE X e t' := ⟨fun pins s σ H Q I q => h.run pins s σ H Q I (w σ H Q q)⟩
theorem PT.weak {t t' : TT} (h : PT X e t) (w : ∀ σ H Q, t' σ H Q → t σ H Q) : PT X e t' := ⟨fun pins s σ H Q I q => h.run pins s σ H Q I (w σ H Q q)⟩
theorem PW.weak {t t' : TT} (h : PW X e t) (w : ∀ σ H Q, t' σ H Q → t σ H Q) : PW X e t' := ⟨fun wh pins s σ H Q I q => h.run wh pins s σ H Q I (w σ H Q q)⟩
theorem PA.weak {t t' : TA} (h : PA X es t) (w : ∀ σ H Q, t' σ H Q → t σ H Q) : PA X es t' := ⟨fun p pins s σ H Q I q => h.run p pins s σ H Q I (w σ H Q q)⟩
theorem PS.weak {t t' : TS} (h : PS X st t) (w : ∀ D σ H, t' D σ H → t D σ H) : PS X st t' := ⟨fun pins s σ H D I q => h.run pins s σ H D I (w D σ H q)⟩
theorem PSs.weak {t t' : TS} (h : PSs X sts t) (w : ∀ D σ H, t' D σ H → t D σ H) : PSs X sts t' := ⟨fun pins s σ H D I q => h.run pins s σ H D I (w D σ H q)⟩
theorem PI.weak {tg : Expr} {t t' : TI} (h : PI X tg e t) (w : ∀ σ H R, t' σ H R → t σ H R) : PI X tg e t' := ⟨fun pins s σ H R I q => h.run pins s σ H R I (w σ H R q)⟩
theorem PG.weak {g g' : TG} (h : PG X e g) (w : ∀ v σ H Q, g' v σ H Q → g v σ H Q) : PG X e g' := ⟨fun pins s σ H v u Q I r q => h.run pins s σ H v u Q I r (w v σ H Q q)⟩
theorem PGs.weak {g g' : TGs} (h : PGs X es g) (w : ∀ v σ H Q, g' v σ H Q → g v σ H Q) : PGs X es g' := ⟨fun pins s σ H v u Q I r q => h.run pins s σ H v u Q I r (w v σ H Q q)⟩
theorem OpR.weak {f : Value → Value → Sem Value} {r r' : R2} (h : OpR X f r) (w : ∀ x y H Q, r' x y H Q → r x y H Q) : OpR X f r' := fun pins s σ H x y v u Q I r1 r2 q => h pins s σ H x y v u Q I r1 r2 (w x y H Q q)
theorem OpR.or {f : Value → Value → Sem Value} {r r' : R2} (h : OpR X f r) (h' : OpR X f r') : OpR X f (fun x y H Q => r x y H Q ∨ r' x y H Q) := fun pins s σ H x y v u Q I r1 r2 q => q.elim (h pins s σ H x y v u Q I r1 r2) (h' pins s σ H x y v u Q I r1 r2)
theorem CallR.weak {f : Value} {r r' : List V → Hp → VK → Prop} (h : CallR X f r) (w : ∀ x H Q, r' x H Q → r x H Q) : CallR X f r' := fun pins s σ H xs us Q I r1 q => h pins s σ H xs us Q I r1 (w xs H Q q)
theorem CallR.or {f : Value} {r r' : List V → Hp → VK → Prop} (h : CallR X f r) (h' : CallR X f r') : CallR X f (fun x H Q => r x H Q ∨ r' x H Q) := fun pins s σ H xs us Q I r1 q => q.elim (h pins s σ H xs us Q I r1) (h' pins s σ H xs us Q I r1)
theorem IxR.weak {r r' : R2} (h : IxR X r) (w : ∀ x y H Q, r' x y H Q → r x y H Q) : IxR X r' := fun vl sl pins s σ H x y v u Q I r1 r2 q z => h vl sl pins s σ H x y v u Q I r1 r2 (w x y H Q q) z
theorem IxR.or {r r' : R2} (h : IxR X r) (h' : IxR X r') : IxR X (fun x y H Q => r x y H Q ∨ r' x y H Q) := fun vl sl pins s σ H x y v u Q I r1 r2 q z => q.elim (fun q => h vl sl pins s σ H x y v u Q I r1 r2 q z) (fun q => h' vl sl pins s σ H x y v u Q I r1 r2 q z)
theorem PE.or {t t' : TE} (h : PE X e t) (h' : PE X e t') : PE X e (fun σ H Q => t σ H Q ∨ t' σ H Q) := ⟨fun pins s σ H Q I q => q.elim (h.run pins s σ H Q I) (h'.run pins s σ H Q I)⟩
theorem KX.step {σ : L2.St} {XD : XQ} (k : KX K W σ G H S XD) (s : Stp K G H S G' H' S') : KX K W σ G' H' S' XD := fun G2 H2 S2 cls d x st r q => k G2 H2 S2 cls d x (s.trans st) r q
theorem ER.step {E : DEnds} {D : Ends} (k : ER K W G H S E D) (s : Stp K G H S G' H' S') : ER K W G' H' S' E D :=
  ⟨fun G2 H2 S2 σ δ st r q => k.nx G2 H2 S2 σ δ (s.trans st) r q, fun G2 H2 S2 v d st r q => k.rt G2 H2 S2 v d (s.trans st) r q, fun G2 H2 S2 σ δ st r q => k.bk G2 H2 S2 σ δ (s.trans st) r q, fun G2 H2 S2 σ δ st r q => k.ct G2 H2 S2 σ δ (s.trans st) r q, fun G2 H2 S2 σ δ cls d x st re r q => k.xc G2 H2 S2 σ δ cls d x (s.trans st) re r q⟩
def dVar (i : Nat) : DTE := fun δ S Q _ => match nth δ i with
  | some d => Q d S
  | none => False
def dC (d : D) : DTE := fun _ S Q _ => Q d S
theorem sim_var {i : Nat} : ∀ σ H Q, liftE K W (dVar i) σ H Q → tVar i σ H Q := by
  rintro σ H Q ⟨G, δ, S, QD, XD, re, rl, h, kq, kx⟩
  unfold dVar at h
  cases e : nth δ i with
  | none => rw [e] at h; exact h.elim
  | some d =>
    rw [e] at h
    obtain ⟨v, h1, h2⟩ := re.at_ i d e
    exact ⟨v, h1, kq G H S v d (Stp.refl rl) h2 h⟩
theorem dv (i : Nat) {x : Str} {pos : Pos} (hN : X.N[i]? = some x := by rfl) (hv : Vis X.env.scope x := by first | exact Or.inl rfl | exact Or.inr (Or.inl rfl) | exact Or.inr (Or.inr rfl)) (hd : (x == ("__debug__" : Str)) = false := by decide)
    (hcd : (x == ("__classdict__" : Str)) = false := by decide) : PD X (.Name x pos) (dVar i) := ⟨fun W _ => PE.weak (pe_var hN hv hd hcd) sim_var⟩
theorem sim_c {v : V} {d : D} (r : ∀ G, Rp K G v d) : ∀ σ H Q, liftE K W (dC d) σ H Q → tC v σ H Q := by
  rintro σ H Q ⟨G, δ, S, QD, XD, re, rl, h, kq, kx⟩
  exact kq G H S v d (Stp.refl rl) (r G) h
theorem de_int {i j pos} : PD X (.Constant (.int i) j pos) (dC (.int i)) := ⟨fun W _ => PE.weak pe_int (sim_c fun _ => .int i)⟩
theorem de_bl {i j pos} : PD X (.Constant (.bool i) j pos) (dC (.bl i)) := ⟨fun W _ => PE.weak pe_bl (sim_c fun _ => .bl i)⟩
theorem de_non {j pos} : PD X (.Constant .none j pos) (dC .non) := ⟨fun W _ => PE.weak pe_non (sim_c fun _ => .non)⟩
theorem de_str {x : Str} {j pos} (h : okS x := by decide +kernel) : PD X (.Constant (.str x) j pos) (dC (.str x)) := ⟨fun W _ => PE.weak pe_str (sim_c fun _ => .str h)⟩
theorem de_glob {x : Str} {v : V} {d : D} {u : Value} {pos : Pos} (hg : Gl X x) (hm : X.mg x = some u) (r : RelV v u) (rd : ∀ G, Rp X.K G v d) (hd : (x == ("__debug__" : Str)) = false := by decide) : PD X (.Name x pos) (dC d) := ⟨fun W _ => PE.weak (pe_glob hg hm r hd) (sim_c rd)⟩
def dOp (r : R2D) (ta tb : DTE) : DTE := fun δ S Q X => ta δ S (fun x S1 => tb δ S1 (fun y S2 => r x y S2 Q) X) X
theorem sim_op {r : R2D} {ta tb : DTE} : ∀ σ H Q, liftE K W (dOp r ta tb) σ H Q → tOp (lift2 K r) (liftE K W ta) (liftE K W tb) σ H Q := by
  rintro σ H Q ⟨G, δ, S, QD, XD, re, rl, h, kq, kx⟩
  exact ⟨G, δ, S, _, XD, re, rl, h, fun G1 H1 S1 x dx s1 rx q => ⟨G1, δ, S1, _, XD, re.mono s1.sg, s1.rel, q, fun G2 H2 S2 y dy s2 ry q2 =>
    ⟨G2, S2, dx, dy, QD, s2.rel, rx.mono s2.sg, ry, q2, fun G3 H3 S3 v d s3 rv q3 => kq G3 H3 S3 v d ((s1.trans s2).trans s3) rv q3⟩, kx.step s1⟩, kx⟩
theorem de_op {op : Operator} {r : R2D} {ta tb : DTE} (ho : OpR X (binaryOp op) (lift2 X.K r)) (ha : PD X a ta) (hb : PD X b tb) : PD X (.BinOp a op b pos) (dOp r ta tb) := ⟨fun W tk => PE.weak (pe_op ho (ha.run W tk) (hb.run W tk)) sim_op⟩
theorem de_cmp {op : CmpOp} {r : R2D} {ta tb : DTE} (ho : OpR X (compareOp op) (lift2 X.K r)) (ha : PD X a ta) (hb : PD X b tb) (hm : behindInMarks op b = false := by rfl) : PD X (.Compare a [op] [b] pos) (dOp r ta tb) := ⟨fun W tk => PE.weak (pe_cmpR ho (ha.run W tk) (hb.run W tk) hm) sim_op⟩
def dUn (r : D → Sto → DQ → Prop) (ta : DTE) : DTE := fun δ S Q X => ta δ S (fun x S1 => r x S1 Q) X
theorem de_neg {ta : DTE} (ha : PD X a ta) : PD X (.UnaryOp .USub a pos) (dUn (fun x S Q => match x with | .int i => Q (.int (-i)) S | _ => False) ta) := ⟨fun W tk => PE.weak (pe_un un_neg (ha.run W tk)) (by
  rintro σ H Q ⟨G, δ, S, QD, XD, re, rl, h, kq, kx⟩
  refine ⟨G, δ, S, _, XD, re, rl, h, fun G1 H1 S1 x dx s1 rx q => ?_, kx⟩
  cases rx with
  | int i => exact ⟨i, rfl, kq _ _ _ _ _ s1 (.int _) q⟩
  | _ => exact q.elim)⟩
def oInt (C : Int → Int → Prop) (g : Int → Int → D) : R2D := fun x y S Q => match x, y with
  | .int i, .int j => C i j ∧ Q (g i j) S
  | _, _ => False
def oInt0 (g : Int → Int → D) : R2D := fun x y S Q => match x, y with
  | .int i, .int j => Q (g i j) S
  | _, _ => False
theorem sim_int {C : Int → Int → Prop} {g : Int → Int → V} {gd : Int → Int → D} (hg : ∀ G i j, Rp K G (g i j) (gd i j)) : ∀ x y H Q, lift2 K (oInt C gd) x y H Q → rI C g x y H Q := by
  rintro x y H Q ⟨G, S, dx, dy, QD, rl, rx, ry, h, kq⟩
  cases rx with
  | int i => cases ry with
    | int j => exact ⟨i, j, rfl, rfl, h.1, kq G H S _ _ (Stp.refl rl) (hg G i j) h.2⟩
    | _ => exact h.elim
  | _ => exact h.elim
theorem sim_int0 {g : Int → Int → V} {gd : Int → Int → D} (hg : ∀ G i j, Rp K G (g i j) (gd i j)) : ∀ x y H Q, lift2 K (oInt0 gd) x y H Q → rI0 g x y H Q := by
  rintro x y H Q ⟨G, S, dx, dy, QD, rl, rx, ry, h, kq⟩
  cases rx with
  | int i => cases ry with
    | int j => exact ⟨i, j, rfl, rfl, kq G H S _ _ (Stp.refl rl) (hg G i j) h⟩
    | _ => exact h.elim
  | _ => exact h.elim
theorem o_sub : OpR X (binaryOp .Sub) (lift2 X.K (oInt0 fun i j => .int (i - j))) := OpR.weak op_sub (sim_int0 fun _ _ _ => .int _)
theorem o_fdiv : OpR X (binaryOp .FloorDiv) (lift2 X.K (oInt (fun _ j => 0 < j ∧ j < 1073741824) fun i j => .int (i / j))) := OpR.weak op_fdiv (sim_int fun _ _ _ => .int _)
theorem o_mod : OpR X (binaryOp .Mod) (lift2 X.K (oInt (fun _ j => 0 < j) fun i j => .int (i % j))) := OpR.weak op_mod (sim_int fun _ _ _ => .int _)
theorem o_pow : OpR X (binaryOp .Pow) (lift2 X.K (oInt (fun i j => 0 ≤ j ∧ j ≤ 1000000 ∧ i.natAbs < 2 ^ 64) fun i j => .int (i ^ j.toNat))) := OpR.weak op_pow (sim_int fun _ _ _ => .int _)
theorem o_lt : OpR X (compareOp .Lt) (lift2 X.K (oInt0 fun i j => .bl (decide (i < j)))) := OpR.weak op_lt (sim_int0 fun _ _ _ => .bl _)
theorem o_le : OpR X (compareOp .LtE) (lift2 X.K (oInt0 fun i j => .bl (decide (i ≤ j)))) := OpR.weak op_le (sim_int0 fun _ _ _ => .bl _)
theorem o_gt : OpR X (compareOp .Gt) (lift2 X.K (oInt0 fun i j => .bl (decide (j < i)))) := OpR.weak op_gt (sim_int0 fun _ _ _ => .bl _)
theorem o_ge : OpR X (compareOp .GtE) (lift2 X.K (oInt0 fun i j => .bl (decide (j ≤ i)))) := OpR.weak op_ge (sim_int0 fun _ _ _ => .bl _)
end
end SM
namespace SM
open PySem PySem.Spec PyProof.Rows L2
variable {K : PySem.W.Frag} {G G' G2 H H' H2 : Hp} {S S' S2 : Sto}
theorem plns_all (n : Nat) (ds : List D) : plns n ds = ds.all (pln n) := by
  induction ds with
  | nil => rfl
  | cons d r ih => rw [plns, ih]; rfl
theorem dp_vw (r : Rel K G H S) {n : Nat} {d : D} {v : V} (h : Rp K G v d) (e : pln (n + 1) (vw S d) = true) : Dp K H v (toP (vw S d)) ∧ PyData.canLay0 (toP (vw S d)) = true ∧ (toP (vw S d)).depth ≤ n + 1 := by
  cases q : vw S d with
  | lst ds =>
    rw [q] at e
    obtain ⟨a, vs, rfl, h1, h2, h3⟩ := vw_lst r h q
    obtain ⟨x, b, c⟩ := dps_of r n _ _ h2 (by simpa [pln] using e)
    exact ⟨.lst (SqL.of h1) x, by simpa [toP, PyData.canLay0] using b, by simp only [toP, PyData.depth]; omega⟩
  | tup ds =>
    rw [q] at e
    obtain ⟨a, vs, rfl, h0, h1, h2, h3⟩ := vw_tup r h q
    obtain ⟨x, b, c⟩ := dps_of r n _ _ h2 (by simpa [pln] using e)
    exact ⟨.tup (SqT.of h1) x, by simpa [toP, PyData.canLay0] using b, by simp only [toP, PyData.depth]; omega⟩
  | non => obtain ⟨_, _, _, z, _⟩ := vw_scal (S := S) h; rw [z q]; exact ⟨.non, rfl, by simp [toP, PyData.depth]⟩
  | bl b => obtain ⟨z, _, _, _, _⟩ := vw_scal (S := S) h; rw [z _ q]; exact ⟨.bl _, rfl, by simp [toP, PyData.depth]⟩
  | int b => obtain ⟨_, z, _, _, _⟩ := vw_scal (S := S) h; rw [z _ q]; exact ⟨.int _, rfl, by simp [toP, PyData.depth]⟩
  | str b => obtain ⟨_, _, z, _, _⟩ := vw_scal (S := S) h; obtain ⟨z1, z2⟩ := z _ q; rw [z1]; exact ⟨.str _, by simp [toP, PyData.canLay0, z2.2], by simp [toP, PyData.depth]⟩
  | _ => rw [q] at e; simp [pln] at e
def eqB : D → D → Bool
  | .int i, .int j => decide (i = j)
  | .str i, .str j => decide (i = j)
  | .bl i, .bl j => decide (i = j)
  | .non, .non => true
  | x, y => PyData.eqv (toP x) (toP y)
theorem eqB_eq (x y : D) (hx : pln 9 x = true) (hy : pln 9 y = true) : eqB x y = PyData.eqv (toP x) (toP y) := by
  cases x <;> cases y <;> first | rfl | (simp only [eqB, toP, PyData.eqv]; first | rfl | (rw [Bool.eq_iff_iff]; simp))
def oEq : R2D := fun x y S Q => vwk S x fun x' => vwk S y fun y' => (pln 9 x' && pln 9 y') = true ∧ Q (.bl (eqB x' y')) S
def oNe : R2D := fun x y S Q => vwk S x fun x' => vwk S y fun y' => (pln 9 x' && pln 9 y') = true ∧ Q (.bl (!eqB x' y')) S
section
variable {X : Cx} {e a b c : Expr} {es : List Expr} {st : Stmt} {sts : List Stmt} {pos : Pos} {W : WX} {k : Nat}
theorem o_eq (hr : Room k X.A) : OpR X (compareOp .Eq) (lift2 X.K oEq) := OpR.weak (op_eqD hr.units) (by
  rintro x y H Q ⟨G, S, dx, dy, QD, rl, rx, ry, hh, kq⟩
  obtain ⟨h, q⟩ : (pln 9 (vw S dx) && pln 9 (vw S dy)) = true ∧ _ := by simpa only [oEq, oNe, vwk_is] using hh
  rw [Bool.and_eq_true] at h
  obtain ⟨a1, a2, a3⟩ := dp_vw rl rx h.1
  obtain ⟨b1, b2, b3⟩ := dp_vw rl ry h.2
  refine ⟨_, _, a1, b1, by simp [SeqAt.shaped, a2]; omega, by simp [SeqAt.shaped, b2]; omega, ?_⟩
  rw [← eqB_eq _ _ h.1 h.2]
  exact kq _ _ _ _ _ (Stp.refl rl) (.bl _) q)
theorem o_ne (hr : Room k X.A) : OpR X (compareOp .NotEq) (lift2 X.K oNe) := OpR.weak (op_neD hr.units) (by
  rintro x y H Q ⟨G, S, dx, dy, QD, rl, rx, ry, hh, kq⟩
  obtain ⟨h, q⟩ : (pln 9 (vw S dx) && pln 9 (vw S dy)) = true ∧ _ := by simpa only [oEq, oNe, vwk_is] using hh
  rw [Bool.and_eq_true] at h
  obtain ⟨a1, a2, a3⟩ := dp_vw rl rx h.1
  obtain ⟨b1, b2, b3⟩ := dp_vw rl ry h.2
  refine ⟨_, _, a1, b1, by simp [SeqAt.shaped, a2]; omega, by simp [SeqAt.shaped, b2]; omega, ?_⟩
  rw [← eqB_eq _ _ h.1 h.2]
  exact kq _ _ _ _ _ (Stp.refl rl) (.bl _) q)
def isNon : D → Bool
  | .non => true
  | _ => false
theorem isNon_v {v : V} {d : D} (h : Rp K G v d) : decide (v = .non) = isNon d := by cases h <;> simp [isNon]
def oIs : R2D := fun x y S Q => match y with
  | .non => Q (.bl (isNon x)) S
  | .bl b => (match x with
    | .bl a => Q (.bl (decide (a = b))) S
    | _ => False)
  | _ => False
end
end SM
namespace SM
open PySem PySem.Spec PyProof.Rows L2
variable {K : PySem.W.Frag} {G G' G2 H H' H2 : Hp} {S S' S2 : Sto}
section
variable {X : Cx} {e a b c : Expr} {es : List Expr} {st : Stmt} {sts : List Stmt} {pos : Pos} {W : WX} {k : Nat}
theorem o_is : OpR X (compareOp .Is) (lift2 X.K oIs) := OpR.weak (OpR.or op_isN op_isBl) (by
  rintro x y H Q ⟨G, S, dx, dy, QD, rl, rx, ry, h, kq⟩
  cases ry with
  | non => exact .inl ⟨rfl, by rw [isNon_v rx]; exact kq _ _ _ _ _ (Stp.refl rl) (.bl _) h⟩
  | bl b => cases rx with
    | bl a => exact .inr ⟨a, b, rfl, rfl, kq _ _ _ _ _ (Stp.refl rl) (.bl _) h⟩
    | _ => exact h.elim
  | _ => exact h.elim)
theorem str_append {x y : Str} (hx : okS x) (hy : okS y) (h : x.length + y.length ≤ sizeLine) : okS (x ++ y) := by
  have e : (x ++ y) = ⟨x.cps ++ y.cps⟩ := rfl
  refine ⟨?_, ?_⟩
  · show (x.cps ++ y.cps).size ≤ sizeLine
    rw [Array.size_append]; exact h
  · rw [e]
    have h1 := hx.2
    have h2 := hy.2
    unfold PyData.strOk at h1 h2 ⊢
    simp only [Array.all_append, h1, h2, Bool.and_self]
theorem fz_lst (rl : Rel K G H S) {p : Addr} {vs : List V} {ds : List D} (hp : H p = none) (r : Rps K G vs ds) (hl : ds.length ≤ sizeLine) : Stp K G H S (upd G p (.lst vs)) (upd H p (.lst vs)) S ∧ Rp K (upd G p (.lst vs)) (.ref p) (.lst ds) :=
  ⟨Stp.newF rl hp, .lst upd_same (r.mono (Stp.newF (o := .lst vs) rl hp).sg) hl⟩
theorem fz_tup (rl : Rel K G H S) {p : Addr} {vs : List V} {ds : List D} (hp : H p = none) (r : Rps K G vs ds) (hl : ds.length ≤ sizeLine) : Stp K G H S (upd G p (.tup vs)) (upd H p (.tup vs)) S ∧ Rp K (upd G p (.tup vs)) (.ref p) (.tup ds) :=
  ⟨Stp.newF rl hp, .tup upd_same (r.mono (Stp.newF (o := .tup vs) rl hp).sg) hl⟩
theorem ow_lst (rl : Rel K G H S) {p : Addr} {vs : List V} {ds : List D} (hp : H p = none) (r : Rps K G vs ds) (hl : ds.length ≤ sizeLine) : Stp K G H S G (upd H p (.lst vs)) (su S p (.lst ds)) := Stp.newO rl hp ⟨vs, rfl, r, hl⟩
def oAdd : R2D := fun x y S Q => vwk S x fun x' => vwk S y fun y' => match x', y' with
  | .int i, .int j => Q (.int (i + j)) S
  | .str i, .str j => i.length + j.length ≤ sizeLine ∧ Q (.str (i ++ j)) S
  | .lst i, .lst j => i.length + j.length ≤ sizeLine ∧ Q (.lst (i ++ j)) S
  | _, _ => False
theorem o_add : OpR X (binaryOp .Add) (lift2 X.K oAdd) := OpR.weak (OpR.or op_add (OpR.or op_add_str op_cat)) (by
  rintro x y H Q ⟨G, S, dx, dy, QD, rl, rx, ry, h, kq⟩
  simp only [oAdd, vwk_is] at h
  split at h
  · rename_i i j ex ey
    rw [(vw_scal rx).2.1 _ ex, (vw_scal ry).2.1 _ ey]
    exact .inl ⟨i, j, rfl, rfl, kq _ _ _ _ _ (Stp.refl rl) (.int _) h⟩
  · rename_i i j ex ey
    obtain ⟨hx, ox⟩ := (vw_scal rx).2.2.1 _ ex
    obtain ⟨hy, oy⟩ := (vw_scal ry).2.2.1 _ ey
    rw [hx, hy]
    exact .inr (.inl ⟨i, j, rfl, rfl, h.1, kq _ _ _ _ _ (Stp.refl rl) (.str (str_append ox oy h.1)) h.2⟩)
  · rename_i i j ex ey
    obtain ⟨p, vs, rfl, hp, rv, lv⟩ := vw_lst rl rx ex
    obtain ⟨q, us, rfl, hq, ru, lu⟩ := vw_lst rl ry ey
    refine .inr (.inr ⟨p, q, vs, us, rfl, rfl, hp, hq, by rw [rv.length, ru.length]; exact h.1, fun z hz => ?_⟩)
    obtain ⟨s1, r1⟩ := fz_lst rl hz (rv.append ru) (by rw [List.length_append]; exact h.1)
    exact kq _ _ _ _ _ s1 r1 h.2
  · exact h.elim)
def oMul : R2D := fun x y S Q => vwk S x fun x' => match x', y with
  | .int i, .int j => ((-(2 ^ 64) < i ∧ i < 2 ^ 64) ∨ (-(2 ^ 64) < j ∧ j < 2 ^ 64)) ∧ Q (.int (i * j)) S
  | .lst ds, .int j => (0 ≤ j ∧ j < 2 ^ 63 ∧ ds.length * j.toNat ≤ sizeLine) ∧ Q (.lst (List.replicate j.toNat ds).flatten) S
  | _, _ => False
theorem Rps.rep {vs : List V} {ds : List D} (r : Rps K G vs ds) : ∀ n : Nat, Rps K G (List.replicate n vs).flatten (List.replicate n ds).flatten
  | 0 => .nil
  | n + 1 => by
    rw [List.replicate_succ, List.replicate_succ, List.flatten_cons, List.flatten_cons]
    exact r.append (r.rep n)
theorem rep_len {α : Type} (l : List α) (n : Nat) : (List.replicate n l).flatten.length = l.length * n := by
  induction n with
  | zero => rfl
  | succ n ih => rw [List.replicate_succ, List.flatten_cons, List.length_append, ih, Nat.mul_succ]; omega
theorem o_mul : OpR X (binaryOp .Mult) (lift2 X.K oMul) := OpR.weak (OpR.or op_mul op_rep) (by
  rintro x y H Q ⟨G, S, dx, dy, QD, rl, rx, ry, h, kq⟩
  simp only [oMul, vwk_is] at h
  split at h
  · rename_i i j ex
    rw [(vw_scal rx).2.1 _ ex]
    cases ry
    exact .inl ⟨i, j, rfl, rfl, h.1, kq _ _ _ _ _ (Stp.refl rl) (.int _) h.2⟩
  · rename_i ds j ex
    obtain ⟨p, vs, rfl, hp, rv, lv⟩ := vw_lst rl rx ex
    cases ry
    obtain ⟨⟨h1, h2, h3⟩, h4⟩ := h
    refine .inr ⟨p, j, vs, rfl, rfl, hp, by omega, h2, by rw [rv.length]; exact h3, fun z hz => ?_⟩
    obtain ⟨s1, r1⟩ := fz_lst rl hz (rv.rep j.toNat) (by rw [rep_len]; exact h3)
    exact kq _ _ _ _ _ s1 r1 h4
  · exact h.elim)
def dNil : DTA := fun _ S Q _ => Q [] S
def dCons (ta : DTE) (tr : DTA) : DTA := fun δ S Q X => ta δ S (fun x S1 => tr δ S1 (fun xs S2 => Q (x :: xs) S2) X) X
theorem da_nil : PDA X [] dNil := ⟨fun W tk => PA.weak pa_nil (by
  rintro σ H Q ⟨G, δ, S, QD, XD, re, rl, h, kq, kx⟩
  exact kq _ _ _ _ _ (Stp.refl rl) .nil h)⟩
theorem da_cons {ta : DTE} {tr : DTA} (ha : PD X e ta) (hr : PDA X es tr) (hs : starEach (e :: es) X.env = (false, eval e X.env) :: starEach es X.env := by rfl) : PDA X (e :: es) (dCons ta tr) := ⟨fun W tk => PA.weak (pa_cons (ha.run W tk) (hr.run W tk) hs) (by
  rintro σ H Q ⟨G, δ, S, QD, XD, re, rl, h, kq, kx⟩
  exact ⟨G, δ, S, _, XD, re, rl, h, fun G1 H1 S1 x dx s1 rx q => ⟨G1, δ, S1, _, XD, re.mono s1.sg, s1.rel, q, fun G2 H2 S2 xs ds s2 rs q2 =>
    kq _ _ _ _ _ (s1.trans s2) (.cons (rx.mono s2.sg) rs) q2, kx.step s1⟩, kx⟩)⟩
def few (xs : List D) (P : Prop) : Prop := match Nat.ble xs.length 1000 with
  | true => P
  | false => False
theorem few_of {xs : List D} {P : Prop} (h : few xs P) : xs.length ≤ sizeLine ∧ P := by
  unfold few at h
  cases q : Nat.ble xs.length 1000 with
  | false => rw [q] at h; exact h.elim
  | true => rw [q] at h; exact ⟨Nat.le_trans (Nat.le_of_ble_eq_true q) (by decide), h⟩
def dTup (t : DTA) : DTE := fun δ S Q X => t δ S (fun xs S1 => few xs (Q (.tup xs) S1)) X
def dLst (t : DTA) : DTE := fun δ S Q X => t δ S (fun xs S1 => few xs (Q (.lst xs) S1)) X
def dLstO (t : DTA) : DTE := fun δ S Q X => t δ S (fun xs S1 => few xs (∀ p, S1 p = none → Q (.adr p) (su S1 p (.lst xs)))) X
theorem de_tup {x1} {t : DTA} (h : PDA X es t) : PD X (.Tuple es x1 pos) (dTup t) := ⟨fun W tk => PE.weak (pe_tup (h.run W tk)) (by
  rintro σ H Q ⟨G, δ, S, QD, XD, re, rl, h, kq, kx⟩
  refine ⟨G, δ, S, _, XD, re, rl, h, fun G1 H1 S1 xs ds s1 rs q => ?_, kx⟩
  obtain ⟨l, q⟩ := few_of q
  refine ⟨by rw [rs.length]; exact l, fun p hp => ?_⟩
  obtain ⟨s2, r2⟩ := fz_tup s1.rel hp rs l
  exact kq _ _ _ _ _ (s1.trans s2) r2 q)⟩
theorem de_lst {t : DTA} (h : PDA X es t) : PD X (.List es pos) (dLst t) := ⟨fun W tk => PE.weak (pe_lst (h.run W tk)) (by
  rintro σ H Q ⟨G, δ, S, QD, XD, re, rl, h, kq, kx⟩
  refine ⟨G, δ, S, _, XD, re, rl, h, fun G1 H1 S1 xs ds s1 rs q => ?_, kx⟩
  obtain ⟨l, q⟩ := few_of q
  refine ⟨by rw [rs.length]; exact l, fun p hp => ?_⟩
  obtain ⟨s2, r2⟩ := fz_lst s1.rel hp rs l
  exact kq _ _ _ _ _ (s1.trans s2) r2 q)⟩
theorem de_lstO {t : DTA} (h : PDA X es t) : PD X (.List es pos) (dLstO t) := ⟨fun W tk => PE.weak (pe_lst (h.run W tk)) (by
  rintro σ H Q ⟨G, δ, S, QD, XD, re, rl, h, kq, kx⟩
  refine ⟨G, δ, S, _, XD, re, rl, h, fun G1 H1 S1 xs ds s1 rs q => ?_, kx⟩
  obtain ⟨l, q⟩ := few_of q
  refine ⟨by rw [rs.length]; exact l, fun p hp => ?_⟩
  exact kq _ _ _ _ _ (s1.trans (ow_lst s1.rel hp rs l)) (.adr p) (q p (s1.rel.free hp).2))⟩
def oTru (d : D) (S : Sto) (Q : Bool → Sto → Prop) : Prop := vwk S d fun d' => match d' with
  | .bl b => Q b S
  | .int i => Q (decide (i ≠ 0)) S
  | .str s => Q (decide (s.length ≠ 0)) S
  | .lst ds => Q (!ds.isEmpty) S
  | .tup ds => Q (!ds.isEmpty) S
  | .non => Q false S
  | _ => False
def dTru (t : DTE) : DTT := fun δ S Q X => t δ S (fun x S1 => oTru x S1 Q) X
theorem emp_len {vs : List V} {ds : List D} (r : Rps K G vs ds) : (!vs.isEmpty) = !ds.isEmpty := by cases r <;> rfl
theorem dt_val {t : DTE} (h : PD X a t) (he : ∀ whole, isTrue a X.env whole = (do let v ← whole; standAt a.pos; holding [v] (truthy v)) := by intro _; rfl) : PDT X a (dTru t) := ⟨fun W tk => PT.weak (pt_truth (h.run W tk) he) (by
  rintro σ H Q ⟨G, δ, S, QD, XD, re, rl, h, kq, kx⟩
  refine ⟨G, δ, S, _, XD, re, rl, h, fun G1 H1 S1 x d s1 rx q => ?_, kx⟩
  simp only [oTru, vwk_is] at q
  split at q
  · rename_i b ex; rw [(vw_scal rx).1 _ ex]; exact ⟨b, rfl, kq _ _ _ _ s1 q⟩
  · rename_i i ex
    rw [(vw_scal rx).2.1 _ ex]
    refine ⟨_, rfl, ?_⟩
    have e : (i != 0) = decide (i ≠ 0) := by rw [Bool.eq_iff_iff]; simp
    rw [e]
    exact kq _ _ _ _ s1 q
  · rename_i z ex
    obtain ⟨h1, h2⟩ := (vw_scal rx).2.2.1 _ ex
    rw [h1]
    refine ⟨_, ⟨h2.1, rfl⟩, ?_⟩
    have e : ((z.length : Int) != 0) = decide (z.length ≠ 0) := by
      rw [Bool.eq_iff_iff]; simp
    rw [e]; exact kq _ _ _ _ s1 q
  · rename_i ds ex
    obtain ⟨p, vs, rfl, hp, rv, _⟩ := vw_lst s1.rel rx ex
    exact ⟨_, .inl ⟨vs, SqL.of hp, rfl⟩, by rw [emp_len rv]; exact kq _ _ _ _ s1 q⟩
  · rename_i ds ex
    obtain ⟨p, vs, rfl, _, hp, rv, _⟩ := vw_tup s1.rel rx ex
    exact ⟨_, .inr (.inl ⟨vs, SqT.of hp, rfl⟩), by rw [emp_len rv]; exact kq _ _ _ _ s1 q⟩
  · rename_i ex
    rw [(vw_scal rx).2.2.2.1 ex]
    exact ⟨false, rfl, kq _ _ _ _ s1 q⟩
  · exact q.elim)⟩
def dNot (t : DTT) : DTT := fun δ S Q X => t δ S (fun b S1 => Q (!b) S1) X
def dAnd (t u : DTT) : DTT := fun δ S Q X => t δ S (fun b S1 => brn b (u δ S1 Q X) (Q false S1)) X
def dOr (t u : DTT) : DTT := fun δ S Q X => t δ S (fun b S1 => brn b (Q true S1) (u δ S1 Q X)) X
theorem dt_not {t : DTT} (h : PDT X a t) : PDT X (.UnaryOp .Not a pos) (dNot t) := ⟨fun W tk => PT.weak (pt_not (h.run W tk)) (by
  rintro σ H Q ⟨G, δ, S, QD, XD, re, rl, h, kq, kx⟩
  exact ⟨G, δ, S, _, XD, re, rl, h, fun G1 H1 S1 b s1 q => kq _ _ _ _ s1 q, kx⟩)⟩
theorem sim_and {t u : DTT} : ∀ σ H Q, liftT K W (dAnd t u) σ H Q → tAnd (liftT K W t) (liftT K W u) σ H Q := by
  rintro σ H Q ⟨G, δ, S, QD, XD, re, rl, h, kq, kx⟩
  refine ⟨G, δ, S, _, XD, re, rl, h, fun G1 H1 S1 b s1 q => ?_, kx⟩
  cases b with
  | true => rw [brn_t] at q; rw [if_pos rfl]; exact ⟨G1, δ, S1, QD, XD, re.mono s1.sg, s1.rel, q, fun G2 H2 S2 b s2 q2 => kq _ _ _ _ (s1.trans s2) q2, kx.step s1⟩
  | false => rw [brn_f] at q; rw [if_neg Bool.false_ne_true]; exact kq _ _ _ _ s1 q
theorem sim_or {t u : DTT} : ∀ σ H Q, liftT K W (dOr t u) σ H Q → tOr (liftT K W t) (liftT K W u) σ H Q := by
  rintro σ H Q ⟨G, δ, S, QD, XD, re, rl, h, kq, kx⟩
  refine ⟨G, δ, S, _, XD, re, rl, h, fun G1 H1 S1 b s1 q => ?_, kx⟩
  cases b with
  | false => rw [brn_f] at q; rw [if_neg Bool.false_ne_true]; exact ⟨G1, δ, S1, QD, XD, re.mono s1.sg, s1.rel, q, fun G2 H2 S2 b s2 q2 => kq _ _ _ _ (s1.trans s2) q2, kx.step s1⟩
  | true => rw [brn_t] at q; rw [if_pos rfl]; exact kq _ _ _ _ s1 q
theorem dw_and {t u : DTT} {rest : List Expr} (ha : PDT X a t) (hb : PDW X (.BoolOp .And (b :: rest) pos) u) : PDW X (.BoolOp .And (a :: b :: rest) pos) (dAnd t u) := ⟨fun W tk => PW.weak (pw_and (ha.run W tk) (hb.run W tk)) sim_and⟩
theorem dw_and1 {t : DTT} (ha : PDT X a t) : PDW X (.BoolOp .And [a] pos) t := ⟨fun W tk => pw_and1 (ha.run W tk)⟩
theorem dw_or {t u : DTT} {rest : List Expr} (ha : PDT X a t) (hb : PDW X (.BoolOp .Or (b :: rest) pos) u) : PDW X (.BoolOp .Or (a :: b :: rest) pos) (dOr t u) := ⟨fun W tk => PW.weak (pw_or (ha.run W tk) (hb.run W tk)) sim_or⟩
theorem dw_or1 {t : DTT} (ha : PDT X a t) : PDW X (.BoolOp .Or [a] pos) t := ⟨fun W tk => pw_or1 (ha.run W tk)⟩
theorem PDW.pt {t : DTT} (h : PDW X a t) : PDT X a t := ⟨fun W tk => (h.run W tk).pt⟩
def dAndV (t u : DTE) : DTE := fun δ S Q X => t δ S (fun x S1 => match x with
  | .bl b => brn b (u δ S1 Q X) (Q (.bl false) S1)
  | _ => False) X
def dNotV (t : DTE) : DTE := fun δ S Q X => t δ S (fun x S1 => match x with
  | .bl b => Q (.bl (!b)) S1
  | _ => False) X
theorem de_and {t u : DTE} {rest : List Expr} (ha : PD X a t) (hb : PD X (.BoolOp .And (b :: rest) pos) u) : PD X (.BoolOp .And (a :: b :: rest) pos) (dAndV t u) := ⟨fun W tk => PE.weak (pe_and (ha.run W tk) (hb.run W tk)) (by
  rintro σ H Q ⟨G, δ, S, QD, XD, re, rl, h, kq, kx⟩
  refine ⟨G, δ, S, _, XD, re, rl, h, fun G1 H1 S1 x d s1 rx q => ?_, kx⟩
  cases rx with
  | bl c =>
    refine ⟨c, rfl, ?_⟩
    cases c with
    | true => rw [if_pos rfl]; simp only [brn_t] at q; exact ⟨G1, δ, S1, QD, XD, re.mono s1.sg, s1.rel, q, fun G2 H2 S2 v d s2 rv q2 => kq _ _ _ _ _ (s1.trans s2) rv q2, kx.step s1⟩
    | false => rw [if_neg Bool.false_ne_true]; simp only [brn_f] at q; exact kq _ _ _ _ _ s1 (.bl _) q
  | _ => exact q.elim)⟩
theorem de_one {op} {t : DTE} (ha : PD X a t) : PD X (.BoolOp op [a] pos) t := ⟨fun W tk => pe_one (ha.run W tk)⟩
theorem de_not {t : DTE} (ha : PD X a t) : PD X (.UnaryOp .Not a pos) (dNotV t) := ⟨fun W tk => PE.weak (pe_not (ha.run W tk)) (by
  rintro σ H Q ⟨G, δ, S, QD, XD, re, rl, h, kq, kx⟩
  refine ⟨G, δ, S, _, XD, re, rl, h, fun G1 H1 S1 x d s1 rx q => ?_, kx⟩
  cases rx with
  | bl c => exact ⟨c, rfl, kq _ _ _ _ _ s1 (.bl _) q⟩
  | _ => exact q.elim)⟩
def dIfE (t : DTT) (u w : DTE) : DTE := fun δ S Q X => t δ S (fun b S1 => brn b (u δ S1 Q X) (w δ S1 Q X)) X
theorem de_ifExp {t : DTT} {u w : DTE} (hc : PDT X c t) (ha : PD X a u) (hb : PD X b w) : PD X (.IfExp c a b pos) (dIfE t u w) := ⟨fun W tk => PE.weak (pe_ifExp (hc.run W tk) (ha.run W tk) (hb.run W tk)) (by
  rintro σ H Q ⟨G, δ, S, QD, XD, re, rl, h, kq, kx⟩
  refine ⟨G, δ, S, _, XD, re, rl, h, fun G1 H1 S1 b s1 q => ?_, kx⟩
  cases b with
  | true => rw [brn_t] at q; rw [if_pos rfl]; exact ⟨G1, δ, S1, QD, XD, re.mono s1.sg, s1.rel, q, fun G2 H2 S2 v d s2 rv q2 => kq _ _ _ _ _ (s1.trans s2) rv q2, kx.step s1⟩
  | false => rw [brn_f] at q; rw [if_neg Bool.false_ne_true]; exact ⟨G1, δ, S1, QD, XD, re.mono s1.sg, s1.rel, q, fun G2 H2 S2 v d s2 rv q2 => kq _ _ _ _ _ (s1.trans s2) rv q2, kx.step s1⟩)⟩
def dChain (r r' : R2D) (ta tb tc : DTE) : DTE := fun δ S Q X => ta δ S (fun x S1 => tb δ S1 (fun y S2 => r x y S2 (fun z S3 => match z with
  | .bl b => brn b (tc δ S3 (fun w S4 => r' y w S4 Q) X) (Q (.bl false) S3)
  | _ => False)) X) X
theorem sim_chain {r r' : R2D} {ta tb tc : DTE} : ∀ σ H Q, liftE K W (dChain r r' ta tb tc) σ H Q → tChain (lift2 K r) (lift2 K r') (liftE K W ta) (liftE K W tb) (liftE K W tc) σ H Q := by
  rintro σ H Q ⟨G, δ, S, QD, XD, re, rl, h, kq, kx⟩
  refine ⟨G, δ, S, _, XD, re, rl, h, fun G1 H1 S1 x dx s1 rx q => ⟨G1, δ, S1, _, XD, re.mono s1.sg, s1.rel, q, fun G2 H2 S2 y dy s2 ry q2 =>
    ⟨G2, S2, dx, dy, _, s2.rel, rx.mono s2.sg, ry, q2, fun G3 H3 S3 v d s3 rv q3 => ?_⟩, kx.step s1⟩, kx⟩
  have s13 := (s1.trans s2).trans s3
  cases rv with
  | bl b =>
    refine ⟨b, rfl, ?_⟩
    cases b with
    | true => rw [if_pos rfl]; simp only [brn_t] at q3; exact ⟨G3, δ, S3, _, XD, re.mono s13.sg, s3.rel, q3, fun G4 H4 S4 w dw s4 rw' q4 => ⟨G4, S4, dy, dw, QD, s4.rel, ry.mono (s3.sg.trans s4.sg), rw', q4, fun G5 H5 S5 v d s5 rv q5 => kq _ _ _ _ _ ((s13.trans s4).trans s5) rv q5⟩, kx.step s13⟩
    | false => rw [if_neg Bool.false_ne_true]; simp only [brn_f] at q3; exact kq _ _ _ _ _ s13 (.bl _) q3
  | _ => exact q3.elim
theorem de_chain {op op' : CmpOp} {r r' : R2D} {ta tb tc : DTE} (ho : OpR X (compareOp op) (lift2 X.K r)) (ho' : OpR X (compareOp op') (lift2 X.K r')) (ha : PD X a ta) (hb : PD X b tb) (hc : PD X c tc)
    (hm : lastMarks [op, op'] [b, c] = false := by with_unfolding_all rfl) : PD X (.Compare a [op, op'] [b, c] pos) (dChain r r' ta tb tc) := ⟨fun W tk => PE.weak (pe_chain ho ho' (ha.run W tk) (hb.run W tk) (hc.run W tk) hm) sim_chain⟩
def dTestB (t : DTE) : DTT := fun δ S Q X => t δ S (fun x S1 => match x with
  | .bl b => Q b S1
  | _ => False) X
theorem sim_testB {t : DTE} : ∀ σ H Q, liftT K W (dTestB t) σ H Q → tTest (liftE K W t) σ H Q := by
  rintro σ H Q ⟨G, δ, S, QD, XD, re, rl, h, kq, kx⟩
  refine ⟨G, δ, S, _, XD, re, rl, h, fun G1 H1 S1 x d s1 rx q => ?_, kx⟩
  cases rx with
  | bl c => exact ⟨c, rfl, kq _ _ _ _ s1 q⟩
  | _ => exact q.elim
theorem dt_cmp {op : CmpOp} {r : R2D} {ta tb : DTE} (ho : OpR X (compareOp op) (lift2 X.K r)) (ha : PD X a ta) (hb : PD X b tb) (hm : behindInMarks op b = false := by rfl) : PDT X (.Compare a [op] [b] pos) (dTestB (dOp r ta tb)) :=
  ⟨fun W tk => PT.weak (pt_cmpR ho (ha.run W tk) (hb.run W tk) hm) (by
    rintro σ H Q h
    obtain ⟨G, δ, S, QD, XD, re, rl, h, kq, kx⟩ := sim_testB σ H Q h
    exact sim_op σ H _ ⟨G, δ, S, QD, XD, re, rl, h, kq, kx⟩)⟩
theorem dt_chain {op op' : CmpOp} {r r' : R2D} {ta tb tc : DTE} (ho : OpR X (compareOp op) (lift2 X.K r)) (ho' : OpR X (compareOp op') (lift2 X.K r')) (ha : PD X a ta) (hb : PD X b tb) (hc : PD X c tc)
    (hm : lastMarks [op, op'] [b, c] = false := by with_unfolding_all rfl) : PDT X (.Compare a [op, op'] [b, c] pos) (dTestB (dChain r r' ta tb tc)) :=
  ⟨fun W tk => PT.weak (pt_chain ho ho' (ha.run W tk) (hb.run W tk) (hc.run W tk) hm) (by
    rintro σ H Q h
    obtain ⟨G, δ, S, QD, XD, re, rl, h, kq, kx⟩ := sim_testB σ H Q h
    exact sim_chain σ H _ ⟨G, δ, S, QD, XD, re, rl, h, kq, kx⟩)⟩
end
end SM
namespace SM
open PySem PySem.Spec PyProof.Rows L2
variable {K : PySem.W.Frag} {G G' G2 H H' H2 : Hp} {S S' S2 : Sto}
section
variable {X : Cx} {e a b c o i : Expr} {es : List Expr} {st : Stmt} {sts : List Stmt} {pos p apos cpos : Pos} {W : WX} {k : Nat} {x : Str}
def one (c : Nat) : Str := ⟨#[c]⟩
theorem atI_rps {vs : List V} {ds : List D} {i : Int} {d : D} (r : Rps K G vs ds) (h : atI ds i = some d) : ∃ v, atI vs i = some v ∧ Rp K G v d := by
  unfold atI at h ⊢
  rw [r.length]
  cases q : ixN ds.length i with
  | none => rw [q] at h; cases h
  | some j => rw [q] at h; exact r.get h
theorem okS_one {s : Str} {i : Int} {c : Nat} (h : okS s) (e : atI s.cps.toList i = some c) : okS (one c) := by
  refine ⟨(by show 1 ≤ sizeLine; decide), ?_⟩
  have hm : c ∈ s.cps.toList := by
    unfold atI at e
    cases q : ixN s.cps.toList.length i with
    | none => rw [q] at e; cases e
    | some j => rw [q] at e; exact List.mem_of_getElem? e
  have h2 := h.2
  unfold PyData.strOk at h2 ⊢
  rw [Array.all_eq_true_iff_forall_mem] at h2 ⊢
  intro z hz
  have : z = c := by simpa [one] using hz
  subst this
  exact h2 z (by simpa using hm)
theorem dKey_rp {v : V} {d : D} {k : Key} (r : Rp K G v d) (h : dKey d = some k) : v = kV k := by
  cases r <;> simp [dKey] at h
  · subst h; rfl
  · subst h; rfl
theorem dKeys_rps : ∀ {vs : List V} {ds : List D} {ks : List Key}, Rps K G vs ds → dKeys ds = some ks → vs = ks.map kV
  | _, _, ks, .nil, h => by cases h; rfl
  | _, _, ks, .cons r q, h => by
    unfold dKeys at h
    split at h
    · rename_i k ks' h1 h2
      cases h
      rw [List.map_cons, dKey_rp r h1, dKeys_rps q h2]
    · cases h
def valD (kvs : List (List Key × D)) (k : List Key) : Option D := (kvs.find? fun kv => decide (kv.1 = k)).map (·.2)
theorem valD_rkv : ∀ {ws : List (List Key × V)} {kvs : List (List Key × D)} (k : List Key), Rkv K G ws kvs → (valD kvs k = none ∧ valV ws k = none) ∨ ∃ d v, valD kvs k = some d ∧ valV ws k = some v ∧ Rp K G v d
  | _, _, k, .nil => .inl ⟨rfl, rfl⟩
  | _, _, k, @Rkv.cons _ _ k0 v d ws kvs r q => by
    unfold valD valV
    rw [List.find?_cons, List.find?_cons]
    by_cases h : k0 = k
    · simp only [h, decide_true]; exact .inr ⟨d, v, rfl, rfl, r⟩
    · simp only [h, decide_false]
      exact valD_rkv k q
def oIx : R2D := fun x y S Q => vwk S x fun x' => match x' with
  | .lst ds => (match y with
    | .int i => itk ds i fun d => Q d S
    | _ => False)
  | .tup ds => (match y with
    | .int i => itk ds i fun d => Q d S
    | _ => False)
  | .str s => (match y with
    | .int i => itk s.cps.toList i fun c => Q (.str (one c)) S
    | _ => False)
  | .dT kvs => (match y with
    | .tup ds => (match dKeys ds with
      | some ks => (match valD kvs ks with
        | some d => Q d S
        | none => False)
      | none => False)
    | _ => False)
  | _ => False
theorem ix_dict (hu : X.A.units + 1 < cLine) : IxR X (fun x y H Q => ∃ a v, x = .ref a ∧ DGet H a y (some v) ∧ Q v H) := by
  intro value slice pins s σ H x y v u Q I rx ry h hs
  obtain ⟨a, w, rfl, g, q⟩ := h
  obtain rfl : v = Value.ref a := rx
  have hT := dict_typeIs I g
  unfold subscriptTail
  refine wpAny_bind ?_
  rw [getitemInPython_of_ne hT.not_modules]
  refine wpAny_bind (wpAny_specialOf hT PySem.F.slot_dict_getitem.lookup ?_)
  have fin : wpAny (model X.prog X.w) X.A (subscripted slice false (.ref a) u) (fun r s₃ => wpAny (model X.prog X.w) X.A (letTemporaryGo value (.ref a) r >>= fun _ => pure r) (EP X pins σ Q) X.xe s₃) X.xe s := by
    rw [hs]
    exact wpAny_operating (d_getItem hu I g ry fun w' s3 I3 rw' => wpAny_bind (wpAny_letTemporaryGo (wpAny_pure ⟨w, H, I3, rw', q⟩)))
  first
    | exact wpAny_pure (wpAny_bind fin)
    | exact wpAny_bind (wpAny_pure (wpAny_bind fin))
    | exact wpAny_bind fin
theorem op_din (hu : X.A.units + 1 < cLine) : OpR X (compareOp .In) (fun y x H Q => ∃ a o, x = .ref a ∧ DGet H a y o ∧ Q (.bl o.isSome) H) := by
  intro pins s σ H y x v u Q I ry rx h
  obtain ⟨a, o, rfl, g, q⟩ := h
  obtain rfl : u = Value.ref a := rx
  exact d_in hu I g ry fun s3 I3 => ⟨.bl o.isSome, H, I3, rfl, q⟩
theorem op_dnin (hu : X.A.units + 1 < cLine) : OpR X (compareOp .NotIn) (fun y x H Q => ∃ a o, x = .ref a ∧ DGet H a y o ∧ Q (.bl (!o.isSome)) H) := by
  intro pins s σ H y x v u Q I ry rx h
  obtain ⟨a, o, rfl, g, q⟩ := h
  obtain rfl : u = Value.ref a := rx
  exact d_notIn hu I g ry fun s3 I3 => ⟨.bl (!o.isSome), H, I3, rfl, q⟩
theorem DGet.of_rd {a b : Addr} {ws : List (List Key × V)} {ks : List Key} (h : Rd H a (.dT ws)) (hb : H b = some (.tup (ks.map kV))) : DGet H a (.ref b) (valV ws ks) := .inr ⟨ws, ks, b, h, rfl, hb, rfl⟩
theorem i_ix (hr : Room k X.A) : IxR X (lift2 X.K oIx) := IxR.weak (IxR.or ix_list (IxR.or ix_tup (IxR.or ix_str (ix_dict (hu_of hr))))) (by
  rintro x y H Q ⟨G, S, dx, dy, QD, rl, rx, ry, h, kq⟩
  simp only [oIx, vwk_is, itk_is] at h
  split at h
  · rename_i ds ex
    obtain ⟨p, vs, rfl, hp, rv, lv⟩ := vw_lst rl rx ex
    split at h
    · rename_i i
      cases ry
      obtain ⟨d, ed, h⟩ := h
      · obtain ⟨v, e1, e2⟩ := atI_rps rv ed
        exact .inl ⟨p, vs, i, v, rfl, rfl, SqL.of hp, e1, kq _ _ _ _ _ (Stp.refl rl) e2 h⟩
    · exact h.elim
  · rename_i ds ex
    obtain ⟨p, vs, rfl, _, hp, rv, lv⟩ := vw_tup rl rx ex
    split at h
    · rename_i i
      cases ry
      obtain ⟨d, ed, h⟩ := h
      · obtain ⟨v, e1, e2⟩ := atI_rps rv ed
        exact .inr (.inl ⟨p, vs, i, v, rfl, rfl, SqT.of hp, e1, kq _ _ _ _ _ (Stp.refl rl) e2 h⟩)
    · exact h.elim
  · rename_i z ex
    obtain ⟨hx, ox⟩ := (vw_scal rx).2.2.1 _ ex
    subst hx
    split at h
    · rename_i i
      cases ry
      obtain ⟨d, ed, h⟩ := h
      · exact .inr (.inr (.inl ⟨z, i, d, rfl, rfl, ox.1, ed, kq _ _ _ _ _ (Stp.refl rl) (.str (okS_one ox ed)) h⟩))
    · exact h.elim
  · rename_i kvs ex
    obtain ⟨p, ws, rfl, hp, rv⟩ := vw_dT rl rx ex
    split at h
    · rename_i ds
      cases ry with
      | tup hg rs l =>
      split at h
      · rename_i ks ek
        split at h
        · rename_i d ed
          have e1 := dKeys_rps rs ek
          rcases valD_rkv ks rv with ⟨z, _⟩ | ⟨d', v, z1, z2, z3⟩
          · rw [z] at ed; cases ed
          · rw [z1] at ed; cases ed
            refine .inr (.inr (.inr ⟨p, v, rfl, ?_, kq _ _ _ _ _ (Stp.refl rl) z3 h⟩))
            rw [← z2]
            exact DGet.of_rd hp (by rw [← e1]; exact rl.at hg rfl)
        · exact h.elim
      · exact h.elim
    · exact h.elim
  · exact h.elim)
theorem de_ix {ta tb : DTE} (hr : Room k X.A) (ha : PD X a ta) (hb : PD X b tb) (hs : PlainIx b := by exact fun _ _ => rfl) : PD X (.Subscript a b pos) (dOp oIx ta tb) := ⟨fun W tk => PE.weak (pe_ix (i_ix hr) (ha.run W tk) (hb.run W tk) hs) sim_op⟩
def inS (s t : Str) : Bool := match s.cps.toList with
  | [c] => decide (c ∈ t.cps.toList)
  | _ => !(Builtin.Str.occurrences t s 0 t.length 1).isEmpty
def inB (x y : D) : Option Bool := match y with
  | .lst ds => (match pln 8 x && plns 8 ds with
    | true => some (ds.any fun z => eqB z x)
    | false => none)
  | .str t => (match x with
    | .str s => some (inS s t)
    | _ => none)
  | .dT kvs => (match x with
    | .tup ds => (match dKeys ds with
      | some ks => some (valD kvs ks).isSome
      | none => none)
    | _ => none)
  | _ => none
def oIn : R2D := fun x y S Q => vwk S y fun y' => match inB x y' with
  | some b => Q (.bl b) S
  | none => False
def oNotIn : R2D := fun x y S Q => vwk S y fun y' => match inB x y' with
  | some b => Q (.bl (!b)) S
  | none => False
theorem pln_mono : ∀ (n : Nat) (d : D), pln n d = true → pln (n + 1) d = true ∧ True := by
  intro n d h
  exact ⟨(pm n d h), trivial⟩
where
  pm : ∀ (n : Nat) (d : D), pln n d = true → pln (n + 1) d = true
    | n, .non, _ => by simp [pln]
    | n, .bl _, _ => by simp [pln]
    | n, .int _, _ => by simp [pln]
    | n, .str _, _ => by simp [pln]
    | 0, .tup _, h => by simp [pln] at h
    | 0, .lst _, h => by simp [pln] at h
    | n + 1, .tup ds, h => by simp only [pln] at h ⊢; exact pms n ds h
    | n + 1, .lst ds, h => by simp only [pln] at h ⊢; exact pms n ds h
    | n, .ty _, h => by cases n <;> simp [pln] at h
    | n, .adr _, h => by cases n <;> simp [pln] at h
    | n, .dT _, h => by cases n <;> simp [pln] at h
    | n, .ins _ _, h => by cases n <;> simp [pln] at h
  pms : ∀ (n : Nat) (ds : List D), plns n ds = true → plns (n + 1) ds = true
    | n, [], _ => by simp [plns]
    | n, d :: r, h => by
      simp only [plns, Bool.and_eq_true] at h ⊢
      exact ⟨pm n d h.1, pms n r h.2⟩
theorem any_eqB {x : D} (hx : pln 8 x = true) : ∀ {ds : List D}, plns 8 ds = true → ((toPs ds).any fun z => PyData.eqv z (toP x)) = ds.any fun z => eqB z x
  | [], _ => rfl
  | d :: r, h => by
    simp only [plns, Bool.and_eq_true] at h
    rw [toPs, List.any_cons, List.any_cons, any_eqB hx h.2, eqB_eq _ _ (pln_mono 8 d h.1).1 (pln_mono 8 x hx).1]
theorem sim_in (neg : Bool) : ∀ (x y : V) (H : Hp) (Q : VK), (∃ (G : Hp) (S : Sto) (dx dy : D) (QD : DQ), Rel K G H S ∧ Rp K G x dx ∧ Rp K G y dy ∧ (match inB dx (vw S dy) with
      | some b => QD (.bl (if neg then !b else b)) S
      | none => False) ∧ ∀ G' H' S' v d, Stp K G H S G' H' S' → Rp K G' v d → QD d S' → Q v H') →
    (∃ d ds, Dp K H x d ∧ Dp K H y (.list ds) ∧ SeqAt.shaped d = true ∧ SeqAt.shaped (.list ds) = true ∧ Q (.bl (if neg then !ds.any fun z => PyData.eqv z d else ds.any fun z => PyData.eqv z d)) H) ∨
    ((∃ (c : Nat) (z : Str), x = .str ⟨#[c]⟩ ∧ y = .str z ∧ Q (.bl (if neg then !decide (c ∈ z.cps.toList) else decide (c ∈ z.cps.toList))) H) ∨
    ((∃ i j, x = .str i ∧ y = .str j ∧ Q (.bl (if neg then !(!(Builtin.Str.occurrences j i 0 j.length 1).isEmpty) else !(Builtin.Str.occurrences j i 0 j.length 1).isEmpty)) H) ∨
    ∃ a o, y = .ref a ∧ DGet H a x o ∧ Q (.bl (if neg then !o.isSome else o.isSome)) H)) := by
  rintro x y H Q ⟨G, S, dx, dy, QD, rl, rx, ry, h, kq⟩
  cases e : inB dx (vw S dy) with
  | none => rw [e] at h; exact h.elim
  | some r =>
  rw [e] at h
  have q := kq _ _ _ _ _ (Stp.refl rl) (.bl _) h
  unfold inB at e
  split at e
  · rename_i ds ey
    split at e
    · rename_i hp
      rw [Bool.and_eq_true] at hp
      cases e
      obtain ⟨p, vs, rfl, hy, rv, lv⟩ := vw_lst rl ry ey
      obtain ⟨a1, a2, a3⟩ := dp_of rl 8 _ _ rx hp.1
      obtain ⟨b1, b2, b3⟩ := dps_of rl 8 _ _ rv hp.2
      refine .inl ⟨_, _, a1, .lst (SqL.of hy) b1, by simp [SeqAt.shaped, a2]; omega, by rw [SeqAt.shaped, Bool.and_eq_true]; exact ⟨by simpa [PyData.canLay0] using b2, decide_eq_true (by simp only [PyData.depth]; omega)⟩, ?_⟩
      rw [any_eqB hp.1 hp.2]
      exact q
    · cases e
  · rename_i t ey
    split at e
    · rename_i s
      cases e
      cases rx with
      | str hs =>
      obtain ⟨hy, oy⟩ := (vw_scal ry).2.2.1 _ ey
      subst hy
      by_cases hc : ∃ c, s.cps.toList = [c]
      · obtain ⟨c, ec⟩ := hc
        have ei : inS s t = decide (c ∈ t.cps.toList) := by unfold inS; rw [ec]
        rw [ei] at q
        have es : s = ⟨#[c]⟩ := by
          cases s with
          | mk cps => simp only at ec; congr 1; exact Array.toList_inj.mp (by simpa using ec)
        exact .inr (.inl ⟨c, t, by rw [es], rfl, q⟩)
      · have ei : inS s t = !(Builtin.Str.occurrences t s 0 t.length 1).isEmpty := by
          unfold inS
          split
          · rename_i c ec; exact absurd ⟨c, ec⟩ hc
          · rfl
        rw [ei] at q
        exact .inr (.inr (.inl ⟨s, t, rfl, rfl, q⟩))
    · cases e
  · rename_i kvs ey
    obtain ⟨p, ws, rfl, hp, rv⟩ := vw_dT rl ry ey
    split at e
    · rename_i ds
      cases rx with
      | tup hg rs l =>
      split at e
      · rename_i ks ek
        cases e
        have e1 := dKeys_rps rs ek
        refine .inr (.inr (.inr ⟨p, valV ws ks, rfl, DGet.of_rd hp (by rw [← e1]; exact rl.at hg rfl), ?_⟩))
        have : (valV ws ks).isSome = (valD kvs ks).isSome := by
          rcases valD_rkv ks rv with ⟨z1, z2⟩ | ⟨d', v, z1, z2, z3⟩ <;> rw [z1, z2] <;> rfl
        rw [this]
        exact q
      · cases e
    · cases e
  · cases e
theorem o_in (hr : Room k X.A) : OpR X (compareOp .In) (lift2 X.K oIn) := OpR.weak (OpR.or (op_inD (by have := hr.un; omega)) (OpR.or op_in_sign (OpR.or op_in_str (op_din (hu_of hr))))) (fun x y H Q h => sim_in false x y H Q (by simp only [lift2, oIn, vwk_is] at h; exact h))
theorem o_notin (hr : Room k X.A) : OpR X (compareOp .NotIn) (lift2 X.K oNotIn) := OpR.weak (OpR.or (op_notInD (by have := hr.un; omega)) (OpR.or op_notIn_sign (OpR.or op_notIn_str (op_dnin (hu_of hr))))) (fun x y H Q h => sim_in true x y H Q (by simp only [lift2, oNotIn, vwk_is] at h; exact h))
end
end SM
namespace SM
open PySem PySem.Spec PyProof.Rows L2
variable {K : PySem.W.Frag} {G G' G2 H H' H2 : Hp} {S S' S2 : Sto}
section
variable {X : Cx} {e a b c o i : Expr} {es : List Expr} {st : Stmt} {sts : List Stmt} {pos p apos cpos pos' : Pos} {W : WX} {k : Nat} {x : Str}
def dCB (r : RCD) (t : DTA) : DTE := fun δ S Q X => t δ S (fun ds S1 => r ds S1 Q) X
theorem sim_cb {r : RCD} {t : DTA} : ∀ σ H Q, liftE K W (dCB r t) σ H Q → tCB (liftC K r) (liftA K W t) σ H Q := by
  rintro σ H Q ⟨G, δ, S, QD, XD, re, rl, h, kq, kx⟩
  exact ⟨G, δ, S, _, XD, re, rl, h, fun G1 H1 S1 vs ds s1 rs q => ⟨G1, S1, ds, QD, s1.rel, rs, q, fun G2 H2 S2 v d s2 rv q2 => kq _ _ _ _ _ (s1.trans s2) rv q2⟩, kx⟩
theorem de_callB {id : String} {r : RCD} {t : DTA} (hc : CallR X (.builtin id) (liftC X.K r)) (hg : Gl X x) (hm : X.mg x = none) (hv : bootBuiltins x = some (.builtin id)) (ha : PDA X (e :: es) t) (hn : x ≠ "__name__" := by decide) (hdb : (x == ("__debug__" : Str)) = false := by decide)
    (he : starEach (e :: es) X.env = (false, eval e X.env) :: starEach es X.env := by rfl) (hpl : (backTo pos (starEach es X.env)).any (·.1) = false := by rfl) : PD X (.Call (.Name x p) (e :: es) [] pos) (dCB r t) := ⟨fun W tk => PE.weak (pe_callB hc hg hm hv (ha.run W tk) hn hdb he hpl) sim_cb⟩
theorem de_callTy {T : String} {r : RCD} {t : DTA} (hc : CallR X (.type T) (liftC X.K r)) (hg : Gl X x) (hm : X.mg x = none) (hv : bootBuiltins x = some (.type T)) (ha : PDA X (e :: es) t) (hn : x ≠ "__name__" := by decide) (hdb : (x == ("__debug__" : Str)) = false := by decide)
    (he : starEach (e :: es) X.env = (false, eval e X.env) :: starEach es X.env := by rfl) (hpl : (backTo pos (starEach es X.env)).any (·.1) = false := by rfl) : PD X (.Call (.Name x p) (e :: es) [] pos) (dCB r t) := ⟨fun W tk => PE.weak (pe_callTy hc hg hm hv (ha.run W tk) hn hdb he hpl) sim_cb⟩
def on1 (f : D → Sto → DQ → Prop) : RCD := fun ds S Q => match ds with
  | [d] => f d S Q
  | _ => False
theorem on1_of {f : D → Sto → DQ → Prop} {ds : List D} {Q : DQ} {vs : List V} (h : on1 f ds S Q) (r : Rps K G vs ds) : ∃ d v, ds = [d] ∧ vs = [v] ∧ Rp K G v d ∧ f d S Q := by
  unfold on1 at h
  split at h
  · cases r with
    | cons r1 r2 => cases r2; exact ⟨_, _, rfl, rfl, r1, h⟩
  · exact h.elim
def lenD (d : D) (S : Sto) (Q : DQ) : Prop := vwk S d fun d' => match d' with
  | .lst ds => Q (.int ds.length) S
  | .tup ds => Q (.int ds.length) S
  | .str s => Q (.int s.length) S
  | _ => False
theorem c_len : CallR X (.builtin "len") (liftC X.K (on1 lenD)) := CallR.weak call_len (by
  rintro vs H Q ⟨G, S, ds, QD, rl, rs, h, kq⟩
  obtain ⟨d, v, rfl, rfl, rx, h⟩ := on1_of h rs
  simp only [lenD, vwk_is] at h
  split at h
  · rename_i l ex
    obtain ⟨p, us, rfl, hp, rv, _⟩ := vw_lst rl rx ex
    refine ⟨_, us.length, rfl, .inl ⟨us, SqL.of hp, rfl⟩, ?_⟩
    rw [rv.length]; exact kq _ _ _ _ _ (Stp.refl rl) (.int _) h
  · rename_i l ex
    obtain ⟨p, us, rfl, _, hp, rv, _⟩ := vw_tup rl rx ex
    refine ⟨_, us.length, rfl, .inr ⟨us, SqT.of hp, rfl⟩, ?_⟩
    rw [rv.length]; exact kq _ _ _ _ _ (Stp.refl rl) (.int _) h
  · rename_i s ex
    obtain ⟨e1, e2⟩ := (vw_scal rx).2.2.1 _ ex
    subst e1
    exact ⟨_, s.length, rfl, ⟨e2.1, rfl⟩, kq _ _ _ _ _ (Stp.refl rl) (.int _) h⟩
  · exact h.elim)
def intD (d : D) (S : Sto) (Q : DQ) : Prop := match d with
  | .int i => Q (.int i) S
  | .bl b => Q (.int (if b then 1 else 0)) S
  | .str s => (match PySem.intText? s with
    | some n => s.length ≤ 640 ∧ Q (.int n) S
    | none => False)
  | _ => False
theorem c_int : CallR X (.type "int") (liftC X.K (on1 intD)) := CallR.weak (CallR.or call_int1 call_int_str) (by
  rintro vs H Q ⟨G, S, ds, QD, rl, rs, h, kq⟩
  obtain ⟨d, v, rfl, rfl, rx, h⟩ := on1_of h rs
  cases rx with
  | int i => exact .inl (.inl ⟨i, rfl, kq _ _ _ _ _ (Stp.refl rl) (.int _) h⟩)
  | bl b => exact .inl (.inr ⟨b, rfl, kq _ _ _ _ _ (Stp.refl rl) (.int _) h⟩)
  | @str s hs =>
    unfold intD at h
    simp only at h
    split at h
    · rename_i n en
      exact .inr ⟨s, n, rfl, en, h.1, kq _ _ _ _ _ (Stp.refl rl) (.int _) h.2⟩
    · exact h.elim
  | _ => exact h.elim)
def itemsD (d : D) : Option (List D) := match d with
  | .lst ds => some ds
  | .tup ds => some ds
  | _ => none
def listD (d : D) (S : Sto) (Q : DQ) : Prop := vwk S d fun d' => match itemsD d' with
  | some ds => Q (.lst ds) S
  | none => False
theorem items_of (rl : Rel K G H S) {v : V} {d : D} {ds : List D} (rx : Rp K G v d) (h : itemsD (vw S d) = some ds) : ∃ p us, v = .ref p ∧ (SqL K H p us ∨ SqT K H p us) ∧ Rps K G us ds ∧ ds.length ≤ sizeLine := by
  unfold itemsD at h
  split at h
  · rename_i l ex
    cases h
    obtain ⟨p, us, rfl, hp, rv, l⟩ := vw_lst rl rx ex
    exact ⟨p, us, rfl, .inl (SqL.of hp), rv, l⟩
  · rename_i l ex
    cases h
    obtain ⟨p, us, rfl, _, hp, rv, l⟩ := vw_tup rl rx ex
    exact ⟨p, us, rfl, .inr (SqT.of hp), rv, l⟩
  · cases h
theorem c_list : CallR X (.type "list") (liftC X.K (on1 listD)) := CallR.weak call_list_of (by
  rintro vs H Q ⟨G, S, ds, QD, rl, rs, h, kq⟩
  obtain ⟨d, v, rfl, rfl, rx, h⟩ := on1_of h rs
  simp only [listD, vwk_is] at h
  split at h
  · rename_i l ex
    obtain ⟨p, us, rfl, hp, rv, hl⟩ := items_of rl rx ex
    refine ⟨p, us, rfl, hp, fun q hq => ?_⟩
    obtain ⟨s1, r1⟩ := fz_lst rl hq rv hl
    exact kq _ _ _ _ _ s1 r1 h
  · exact h.elim)
theorem PO.weak {e : Option Expr} {t t' : TO} (h : PO X e t) (w : ∀ σ H Q, t' σ H Q → t σ H Q) : PO X e t' := ⟨fun pins s σ H Q I q => h.run pins s σ H Q I (w σ H Q q)⟩
def dNoPart : DTO := fun _ S Q _ => Q none S
def dPart (t : DTE) : DTO := fun δ S Q X => t δ S (fun x S1 => match x with
  | .int i => Q (some i) S1
  | _ => False) X
theorem do_none : PDO X none dNoPart := ⟨fun W tk => PO.weak po_none (by
  rintro σ H Q ⟨G, δ, S, QD, XD, re, rl, h, kq, kx⟩
  exact kq _ _ _ _ (Stp.refl rl) h)⟩
theorem do_some {t : DTE} (h : PD X e t) : PDO X (some e) (dPart t) := ⟨fun W tk => PO.weak (po_some (h.run W tk)) (by
  rintro σ H Q ⟨G, δ, S, QD, XD, re, rl, h, kq, kx⟩
  refine ⟨G, δ, S, _, XD, re, rl, h, fun G1 H1 S1 x d s1 rx q => ?_, kx⟩
  cases rx with
  | int i => exact ⟨i, rfl, kq _ _ _ _ s1 q⟩
  | _ => exact q.elim)⟩
def cutD (xs : List D) (lo hi : Option Int) : List D := (xs.drop (HT.sIx xs.length 0 lo)).take (HT.sIx xs.length xs.length hi - HT.sIx xs.length 0 lo)
theorem cut_rps {vs : List V} {ds : List D} (r : Rps K G vs ds) (lo hi : Option Int) : Rps K G (cutV vs lo hi) (cutD ds lo hi) := by
  unfold cutV cutD; rw [r.length]; exact (r.drop _).take _
theorem cut_len (ds : List D) (lo hi : Option Int) : (cutD ds lo hi).length ≤ ds.length := by
  unfold cutD; rw [List.length_take, List.length_drop]; omega
def oSl (d : D) (lo hi : Option Int) (S : Sto) (Q : DQ) : Prop := vwk S d fun d' => match d' with
  | .lst ds => Q (.lst (cutD ds lo hi)) S
  | .str s => Q (.str (cutS s lo hi)) S
  | _ => False
def dSl (r : D → Option Int → Option Int → Sto → DQ → Prop) (te : DTE) (tl th : DTO) : DTE := fun δ S Q X => te δ S (fun x S1 => tl δ S1 (fun l S2 => th δ S2 (fun u S3 => r x l u S3 Q) X) X) X
theorem okS_sub {s t : Str} (h : okS s) (hm : ∀ c ∈ t.cps.toList, c ∈ s.cps.toList) (hl : t.length ≤ s.length) : okS t := by
  refine ⟨Nat.le_trans hl h.1, ?_⟩
  have h2 := h.2
  unfold PyData.strOk at h2 ⊢
  rw [Array.all_eq_true_iff_forall_mem] at h2 ⊢
  intro z hz
  exact h2 z (by simpa using hm z (by simpa using hz))
theorem okS_cut {s : Str} (h : okS s) (lo hi : Option Int) : okS (cutS s lo hi) := by
  refine okS_sub h (fun c hc => ?_) ?_
  · have hc' : c ∈ (s.cps.toList.drop (HT.sIx s.length 0 lo)).take (HT.sIx s.length s.length hi - HT.sIx s.length 0 lo) := by simpa [cutS] using hc
    exact List.mem_of_mem_drop (List.mem_of_mem_take hc')
  · show (cutS s lo hi).cps.size ≤ s.cps.size
    simp only [cutS, List.size_toArray, List.length_take, List.length_drop, Array.length_toList]
    omega
theorem de_slice {p2 : Pos} {lo hi : Option Expr} {te : DTE} {tl th : DTO} (he : PD X e te) (hl : PDO X lo tl) (hu : PDO X hi th) : PD X (.Subscript e (.Slice lo hi none p2) pos) (dSl oSl te tl th) := ⟨fun W tk => PE.weak (pe_slice (SlR.or sl_list sl_str) (he.run W tk) (hl.run W tk) (hu.run W tk)) (by
  rintro σ H Q ⟨G, δ, S, QD, XD, re, rl, h, kq, kx⟩
  refine ⟨G, δ, S, _, XD, re, rl, h, fun G1 H1 S1 x d s1 rx q => ⟨G1, δ, S1, _, XD, re.mono s1.sg, s1.rel, q, fun G2 H2 S2 l s2 q2 => ⟨G2, δ, S2, _, XD, re.mono (s1.trans s2).sg, s2.rel, q2, fun G3 H3 S3 u s3 q3 => ?_, kx.step (s1.trans s2)⟩, kx.step s1⟩, kx⟩
  have s13 := (s1.trans s2).trans s3
  have rx3 := rx.mono (s2.trans s3).sg
  simp only [oSl, vwk_is] at q3
  split at q3
  · rename_i ds ex
    obtain ⟨p, vs, rfl, hp, rv, lv⟩ := vw_lst s3.rel rx3 ex
    refine .inl ⟨p, vs, rfl, SqL.of hp, fun z hz => ?_⟩
    obtain ⟨s4, r4⟩ := fz_lst s3.rel hz (cut_rps rv l u) (Nat.le_trans (cut_len _ _ _) lv)
    exact kq _ _ _ _ _ (s13.trans s4) r4 q3
  · rename_i z ex
    obtain ⟨e1, e2⟩ := (vw_scal rx3).2.2.1 _ ex
    subst e1
    exact .inr ⟨z, rfl, e2.1, kq _ _ _ _ _ s13 (.str (okS_cut e2 l u)) q3⟩
  · exact q3.elim)⟩
theorem dp_nm {i : Nat} {x : Str} {pos : Pos} (hN : X.N.Nodup) (hi : X.N[i]? = some x := by rfl) (hx : Loc X.env.scope x := by first | exact .inl rfl | exact .inr rfl) (hf : X.fn x = true ∨ X.env.scope.names.lookup x = some .local := by first | exact .inl rfl | exact .inr rfl | assumption) : PDP X (.Name x pos) (.nm i) := ⟨by rw [pG]; exact pg_name hN hi hx hf⟩
theorem dp_tp {es : List Expr} {kk : Nat} {ps : List Pat} {pos : Pos} (hc : X.calm = true) (h : PDPs X es ps) (hn : (assignEach es X.env).length = ps.length := by rfl) (hst : (assignEach es X.env).findIdx? (·.1) = none := by rfl) : PDP X (.Tuple es kk pos) (.tp ps) := ⟨by rw [pG]; exact pg_tup hc h.run hn hst⟩
theorem dps_nil : PDPs X [] [] := ⟨by rw [pGs]; exact pgs_nil⟩
theorem dps_cons {e : Expr} {es : List Expr} {q : Pat} {ps : List Pat} (h1 : PDP X e q) (h2 : PDPs X es ps) (hs : (assignEach (e :: es) X.env).map (·.2) = assign e X.env :: (assignEach es X.env).map (·.2) := by rfl) : PDPs X (e :: es) (q :: ps) := ⟨by rw [pGs]; exact pgs_cons h1.run h2.run hs⟩
end
end SM
namespace SM
open PySem PySem.Spec PyProof.Rows L2
variable {K : PySem.W.Frag} {G G' G2 H H' H2 : Hp} {S S' S2 : Sto}
section
variable {X : Cx} {e a b c o i : Expr} {es : List Expr} {st : Stmt} {sts rest : List Stmt} {pos p apos cpos pos' : Pos} {W : WX} {k : Nat} {x : Str} {t u : DTS} {te : DTE}
theorem ownk_is {S : Sto} {a : Addr} {k : Option OO → Prop} : ownk S a k = k (S a) := propext ⟨fun h => h.it, fun h => ⟨h⟩⟩
theorem ownk_of {S : Sto} {a : Addr} {o : OO} {k : Option OO → Prop} (h : S a = some o) (q : k (some o)) : ownk S a k := by rw [ownk_is, h]; exact q
def dVarM (i : Nat) : DTE := fun δ S Q _ => match nth δ i with
  | some (.adr a) => ownk S a fun oo => (match oo with
    | some (.lst ds) => Q (.lst ds) (sd S a)
    | some (.dT kvs) => Q (.dT kvs) (sd S a)
    | some (.ins c ds) => Q (.ins c ds) (sd S a)
    | some (.dF _ _ _) => False
    | none => Q (.adr a) S)
  | some d => Q d S
  | none => False
theorem frz_lst (rl : Rel K G H S) {p : Addr} {ds : List D} (h : S p = some (.lst ds)) : ∃ G', Stp K G H S G' H (sd S p) ∧ Rp K G' (.ref p) (.lst ds) := by
  obtain ⟨_, vs, e, r, l⟩ := rl.own p _ h
  exact ⟨_, Stp.frz rl h e, .lst upd_same (r.mono (Stp.frz rl h e).sg) l⟩
theorem frz_dT (rl : Rel K G H S) {p : Addr} {ds : List (List Key × D)} (h : S p = some (.dT ds)) : ∃ G', Stp K G H S G' H (sd S p) ∧ Rp K G' (.ref p) (.dT ds) := by
  obtain ⟨_, vs, e, r⟩ := rl.own p _ h
  exact ⟨_, Stp.frz rl h e, .dT upd_same (r.mono (Stp.frz rl h e).sg)⟩
theorem frz_ins (rl : Rel K G H S) {p : Addr} {c : Nat} {ds : List D} (h : S p = some (.ins c ds)) : ∃ G', Stp K G H S G' H (sd S p) ∧ Rp K G' (.ref p) (.ins c ds) := by
  obtain ⟨_, dx, vs, e, r, l⟩ := rl.own p _ h
  exact ⟨_, Stp.frz rl h e, .ins upd_same (r.mono (Stp.frz rl h e).sg) l⟩
theorem sim_varM {i : Nat} : ∀ σ H Q, liftE K W (dVarM i) σ H Q → tVar i σ H Q := by
  rintro σ H Q ⟨G, δ, S, QD, XD, re, rl, h, kq, kx⟩
  unfold dVarM at h
  cases e : nth δ i with
  | none => rw [e] at h; exact h.elim
  | some d =>
    rw [e] at h
    obtain ⟨v, h1, h2⟩ := re.at_ i d e
    refine ⟨v, h1, ?_⟩
    cases h2 with
    | adr a =>
      simp only [ownk_is] at h
      cases q : S a with
      | none => rw [q] at h; exact kq G H S _ _ (Stp.refl rl) (.adr a) h
      | some oo =>
        rw [q] at h
        cases oo with
        | lst ds => obtain ⟨G', s1, r1⟩ := frz_lst rl q; exact kq _ _ _ _ _ s1 r1 h
        | dT ds => obtain ⟨G', s1, r1⟩ := frz_dT rl q; exact kq _ _ _ _ _ s1 r1 h
        | ins c ds => obtain ⟨G', s1, r1⟩ := frz_ins rl q; exact kq _ _ _ _ _ s1 r1 h
        | dF _ _ _ => exact h.elim
    | non => exact kq G H S _ _ (Stp.refl rl) .non h
    | bl z => exact kq G H S _ _ (Stp.refl rl) (.bl z) h
    | int z => exact kq G H S _ _ (Stp.refl rl) (.int z) h
    | str z => exact kq G H S _ _ (Stp.refl rl) (.str z) h
    | ty z => exact kq G H S _ _ (Stp.refl rl) (.ty z) h
    | tup z1 z2 z3 => exact kq G H S _ _ (Stp.refl rl) (.tup z1 z2 z3) h
    | lst z1 z2 z3 => exact kq G H S _ _ (Stp.refl rl) (.lst z1 z2 z3) h
    | dT z1 z2 => exact kq G H S _ _ (Stp.refl rl) (.dT z1 z2) h
    | ins z1 z2 z3 => exact kq G H S _ _ (Stp.refl rl) (.ins z1 z2 z3) h
    | cls z1 z2 => exact kq G H S _ _ (Stp.refl rl) (.cls z1 z2) h
    | exn0 z1 => exact kq G H S _ _ (Stp.refl rl) (.exn0 z1) h
    | exn z1 z2 z3 z4 => exact kq G H S _ _ (Stp.refl rl) (.exn z1 z2 z3 z4) h
theorem dvM (i : Nat) {x : Str} {pos : Pos} (hN : X.N[i]? = some x := by rfl) (hv : Vis X.env.scope x := by first | exact Or.inl rfl | exact Or.inr (Or.inl rfl) | exact Or.inr (Or.inr rfl)) (hd : (x == ("__debug__" : Str)) = false := by decide)
    (hcd : (x == ("__classdict__" : Str)) = false := by decide) : PD X (.Name x pos) (dVarM i) := ⟨fun W _ => PE.weak (pe_var hN hv hd hcd) sim_varM⟩
def dNext : DTS := fun E δ S => E.nx δ S
def dSeq (t u : DTS) : DTS := fun E δ S => t { E with nx := u E } δ S
theorem dss_nil : PDSs X [] dNext := ⟨fun W tk po => PSs.weak pss_nil (by
  rintro D σ H ⟨G, δ, S, E, re, rl, h, er⟩
  exact er.nx _ _ _ _ _ (Stp.refl rl) re h)⟩
theorem dss_cons (h1 : PDS X st t) (h2 : PDSs X rest u) : PDSs X (st :: rest) (dSeq t u) := ⟨fun W tk po => PSs.weak (pss_cons (h1.run W tk po) (h2.run W tk po)) (by
  rintro D σ H ⟨G, δ, S, E, re, rl, h, er⟩
  exact ⟨G, δ, S, _, re, rl, h, ⟨fun G1 H1 S1 σ1 δ1 s1 re1 q => ⟨G1, δ1, S1, E, re1, s1.rel, q, er.step s1⟩, er.rt, er.bk, er.ct, er.xc⟩⟩)⟩
theorem dss_one (h1 : PDS X st t) : PDSs X [st] t := ⟨fun W tk po => pss_one (h1.run W tk po)⟩
def dDrop (te : DTE) : DTS := fun E δ S => te δ S (fun _ S1 => E.nx δ S1) (fun x S1 => E.xc x δ S1)
theorem ds_expr (he : PD X e te) (hs : swapsWith e none pos.line X.env = pure false := by rfl) : PDS X (.Expr e pos) (dDrop te) := ⟨fun W tk po => PS.weak (ps_expr (he.run W tk) hs) (by
  rintro D σ H ⟨G, δ, S, E, re, rl, h, er⟩
  exact ⟨G, δ, S, _, _, re, rl, h, fun G1 H1 S1 v d s1 rv q => er.nx _ _ _ _ _ s1 (re.mono s1.sg) q, er.kx re⟩)⟩
def dRet (te : DTE) : DTS := fun E δ S => te δ S E.rt (fun x S1 => E.xc x δ S1)
theorem ds_ret (he : PD X e te) : PDS X (.Return (some e) pos) (dRet te) := ⟨fun W tk po => PS.weak (ps_ret (he.run W tk)) (by
  rintro D σ H ⟨G, δ, S, E, re, rl, h, er⟩
  exact ⟨G, δ, S, _, _, re, rl, h, fun G1 H1 S1 v d s1 rv q => er.rt _ _ _ _ _ s1 rv q, er.kx re⟩)⟩
def dIf (tc : DTT) (t u : DTS) : DTS := fun E δ S => tc δ S (fun b S1 => brn b (t E δ S1) (u E δ S1)) (fun x S1 => E.xc x δ S1)
theorem ds_if {tc : DTT} {ya yb : List Stmt} (hc : PDT X c tc) (ha : PDSs X ya t) (hb : PDSs X yb u) : PDS X (.If c ya yb pos) (dIf tc t u) := ⟨fun W tk po => PS.weak (ps_if (hc.run W tk) (ha.run W tk po) (hb.run W tk po)) (by
  rintro D σ H ⟨G, δ, S, E, re, rl, h, er⟩
  refine ⟨G, δ, S, _, _, re, rl, h, fun G1 H1 S1 b s1 q => ?_, er.kx re⟩
  cases b with
  | true => rw [brn_t] at q; rw [if_pos rfl]; exact ⟨G1, δ, S1, E, re.mono s1.sg, s1.rel, q, er.step s1⟩
  | false => rw [brn_f] at q; rw [if_neg Bool.false_ne_true]; exact ⟨G1, δ, S1, E, re.mono s1.sg, s1.rel, q, er.step s1⟩)⟩
def dSet (i : Nat) (te : DTE) : DTS := fun E δ S => te δ S (fun d S1 => E.nx (put δ i d) S1) (fun x S1 => E.xc x δ S1)
theorem ds_set {i : Nat} {x : Str} {pos' : Pos} (hN : X.N.Nodup) (he : PD X e te) (hi : X.N[i]? = some x := by rfl) (hx : Loc X.env.scope x := by first | exact .inl rfl | exact .inr rfl) (hs : swapsWith e (some (.Name x pos')) pos.line X.env = pure false := by rfl)
    (hf : X.fn x = true ∨ X.env.scope.names.lookup x = some .local := by first | exact .inl rfl | exact .inr rfl | assumption) : PDS X (.Assign [.Name x pos'] e pos) (dSet i te) := ⟨fun W tk po => PS.weak (ps_set hN hi hx (he.run W tk) hs hf) (by
  rintro D σ H ⟨G, δ, S, E, re, rl, h, er⟩
  exact ⟨G, δ, S, _, _, re, rl, h, fun G1 H1 S1 v d s1 rv q => er.nx _ _ _ _ _ s1 ((re.mono s1.sg).put i rv) q, er.kx re⟩)⟩
def dUnp (q : Pat) (te : DTE) : DTS := fun E δ S => te δ S (fun d S1 => match bindP q d δ with
  | some δ1 => E.nx δ1 S1
  | none => False) (fun x S1 => E.xc x δ S1)
theorem ds_unp {tg : Expr} {q : Pat} (he : PD X e te) (hg : PDP X tg q) (hs : swapsWithSole [tg] e pos.line X.env = pure false := by rfl) (hw : swappedStores [tg] e X.env = pure none := by rfl)
    (h1 : (assignEach [tg] X.env).map (·.2) = [assign tg X.env] := by rfl) : PDS X (.Assign [tg] e pos) (dUnp q te) := ⟨fun W tk po => PS.weak (ps_asg (he.run W tk) hg.run hs hw h1) (by
  rintro D σ H ⟨G, δ, S, E, re, rl, h, er⟩
  refine ⟨G, δ, S, _, _, re, rl, h, fun G1 H1 S1 v d s1 rv q => ?_, er.kx re⟩
  split at q
  · rename_i δ1 e1
    obtain ⟨σ', a1, a2, a3⟩ := pG_run s1.rel _ d v σ δ δ1 (re.mono s1.sg) rv e1
    exact a1 _ (er.nx _ _ _ _ _ s1 a2 q)
  · exact q.elim)⟩
def dSetL (to ti te : DTE) : DTS := fun E δ S => te δ S (fun d S1 => to δ S1 (fun y S2 => ti δ S2 (fun z S3 => match y, z with
  | .adr q, .int n => ownk S3 q fun oo => (match oo with
    | some (.lst ds) => (match ixN ds.length n with
      | some j => E.nx δ (su S3 q (.lst (ds.set j d)))
      | none => False)
    | _ => False)
  | _, _ => False) (fun x S1 => E.xc x δ S1)) (fun x S1 => E.xc x δ S1)) (fun x S1 => E.xc x δ S1)
theorem ds_setL {to ti : DTE} (he : PD X e te) (ho : PD X o to) (hi : PD X i ti) (hs : swapsWithSole [.Subscript o i pos'] e pos.line X.env = pure false := by rfl) (hw : swappedStores [.Subscript o i pos'] e X.env = pure none := by rfl)
    (h1 : (assignEach [.Subscript o i pos'] X.env).map (·.2) = [assign (.Subscript o i pos') X.env] := by rfl)
    (ha : ∀ v, assign (.Subscript o i pos') X.env v = (do
      let ov ← holding [v] (eval o X.env)
      let iv ← holding [v, ov] (eval i X.env)
      standAt pos'
      holding [v, ov, iv] (setItem ov iv v)
      release [v, ov, iv] []) := by intro _; rfl) : PDS X (.Assign [.Subscript o i pos'] e pos) (dSetL to ti te) := ⟨fun W tk po => PS.weak (ps_asg (he.run W tk) (pg_sub (ho.run W tk) (hi.run W tk) set_list ha) hs hw h1) (by
  rintro D σ H ⟨G, δ, S, E, re, rl, h, er⟩
  refine ⟨G, δ, S, _, _, re, rl, h, fun G1 H1 S1 v d s1 rv q => ⟨G1, δ, S1, _, _, re.mono s1.sg, s1.rel, q, fun G2 H2 S2 y dy s2 ry q2 => ⟨G2, δ, S2, _, _, re.mono (s1.trans s2).sg, s2.rel, q2, fun G3 H3 S3 z dz s3 rz q3 => ?_, (er.kx re).step (s1.trans s2)⟩, (er.kx re).step s1⟩, er.kx re⟩
  split at q3
  · rename_i q n
    cases ry
    cases rz
    simp only [ownk_is] at q3
    split at q3
    · rename_i ds eS
      split at q3
      · rename_i j ej
        obtain ⟨_, vs, e1, r1, l1⟩ := s3.rel.own q _ eS
        refine ⟨q, vs, n, j, rfl, rfl, e1, by rw [r1.length]; exact ej, ?_⟩
        have s4 : Stp X.K G3 H3 S3 G3 (upd H3 q (.lst (vs.set j v))) (su S3 q (.lst (ds.set j d))) := Stp.mut s3.rel eS ⟨_, rfl, r1.set (rv.mono (s2.trans s3).sg) j, by rw [List.length_set]; exact l1⟩
        have s14 := ((s1.trans s2).trans s3).trans s4
        exact er.nx _ _ _ _ _ s14 (re.mono s14.sg) q3
      · exact q3.elim
    · exact q3.elim
  · exact q3.elim)⟩
theorem loopK_is {gd : Gd} {q : Pat} {tb : DTS} {E : DEnds} {xs : List D} {δ : DS} {S : Sto} : loopK gd q tb E xs δ S = dLoop gd q tb E xs δ S := propext ⟨fun h => h.it, fun h => ⟨h⟩⟩
def dFor (ti : DTI) (q : Pat) (tb : DTS) : DTS := fun E δ S => ti δ S (fun gd xs S1 => loopK gd q tb E xs δ S1) (fun x S1 => E.xc x δ S1)
theorem ds_for {tg iter : Expr} {body : List Stmt} {ti : DTI} {q : Pat} {tb : DTS} (hc : X.calm = true) (hi : PDI X tg iter ti) (hg : PDP X tg q) (hb : PDSs X body tb) (hs : ∀ x, foldedSetIterable iter X.env x = pure x := by intro _; rfl) :
    PDS X (.For tg iter body [] pos) (dFor ti q tb) := ⟨fun W tk po => PS.weak (ps_for po hc (hi.run W tk) hg.run (hb.run W tk po) hs) (by
  rintro D σ H ⟨G, δ, S, E, re, rl, h, er⟩
  unfold dFor at h
  simp only [loopK_is] at h
  refine ⟨G, δ, S, _, _, re, rl, h, fun G1 H1 S1 J gd xs s1 hJ hl hq => ?_, er.kx re⟩
  -- the invariant
  refine ⟨fun i m σ' H' => m = xs.length - i ∧ ∃ G' δ' S', Stp X.K G H S G' H' S' ∧ Same G1 G' ∧ RpE X.K G' σ' δ' ∧ dLoop gd q tb E (xs.drop i) δ' S', ⟨xs.length, by simp, G1, δ, S1, s1, Same.refl _, re.mono s1.sg, by simpa using hq⟩, ?_⟩
  rintro i m σ' H' ⟨rfl, G', δ', S', s2, sg, re', hd⟩
  have hgd : gok gd S' := by
    cases q : xs.drop i with
    | nil => rw [q, dLoop] at hd; exact hd.1
    | cons y z => rw [q, dLoop] at hd; exact hd.1
  obtain ⟨h1, h2⟩ := hJ G' H' S' sg s2.rel hgd i
  by_cases hlt : i < xs.length
  · obtain ⟨hgo, hy⟩ := h1 hlt
    refine .inr ⟨hgo, fun σ3 H3 => ∃ G3 δ3 S3, Stp X.K G H S G3 H3 S3 ∧ Same G1 G3 ∧ RpE X.K G3 σ3 δ3 ∧ dLoop gd q tb E (xs.drop (i + 1)) δ3 S3, fun σ3 H3 ⟨G3, δ3, S3, a1, a2, a3, a4⟩ => ⟨xs.length - (i + 1), by omega, rfl, G3, δ3, S3, a1, a2, a3, a4⟩, fun x H3 yl => ?_⟩
    obtain ⟨G3, s3, rx⟩ := hy x H3 yl
    have ed : xs[i]? = some (xs[i]) := by simp [hlt]
    have rx := rx _ ed
    rw [List.drop_eq_getElem_cons hlt, dLoop] at hd
    replace hd := hd.2
    split at hd
    · rename_i δ4 e4
      obtain ⟨σ4, a1, a2, a3⟩ := pG_run s3.rel _ _ x σ' δ' δ4 (re'.mono s3.sg) rx e4
      refine a1 _ ?_
      have s23 := s2.trans s3
      refine ⟨G3, δ4, S', _, a2, s3.rel, hd, ?_⟩
      exact ⟨fun G5 H5 S5 σ5 δ5 s5 r5 q5 => ⟨G5, δ5, S5, s23.trans s5, (sg.trans s3.sg).trans s5.sg, r5, q5⟩, fun G5 H5 S5 v d s5 r5 q5 => er.rt _ _ _ _ _ (s23.trans s5) r5 q5, fun G5 H5 S5 σ5 δ5 s5 r5 q5 => er.nx _ _ _ _ _ (s23.trans s5) r5 q5,
        fun G5 H5 S5 σ5 δ5 s5 r5 q5 => ⟨G5, δ5, S5, s23.trans s5, (sg.trans s3.sg).trans s5.sg, r5, q5⟩, fun G5 H5 S5 σ5 δ5 cls d x s5 r5 rx5 q5 => er.xc _ _ _ _ _ _ _ _ (s23.trans s5) r5 rx5 q5⟩
    · exact hd.elim
  · have hle : xs.length ≤ i := by omega
    refine .inl ⟨h2 hle, ?_⟩
    rw [List.drop_of_length_le hle, dLoop] at hd
    exact er.nx _ _ _ _ _ s2 re' hd.2)⟩
def rngD (a b : Int) : List D := (List.range (b - a).toNat).map fun i => .int (a + (i : Nat))
theorem it_range {lo : Int} {n : Nat} (xs : List D) (h : xs = (List.range n).map fun i => .int (lo + (i : Nat))) : ItD K G none (Itr lo n) xs := by
  subst h
  intro G1 H1 S1 sg rl _ i
  refine ⟨fun hi => ⟨(by simpa using hi : i < n), fun x H2 yl => ?_⟩, fun hi => (by simpa using hi : n ≤ i)⟩
  obtain ⟨e1, e2⟩ := yl
  subst e1 e2
  refine ⟨G1, Stp.refl rl, fun d hd => ?_⟩
  have hi' : i < n := by simpa using hi
  simp [hi'] at hd
  subst hd
  exact .int _
def dRng1 (t : DTA) : DTI := fun δ S Q X => t δ S (fun ds S1 => match ds with
  | [.int n] => (-16777216 ≤ n ∧ n ≤ 16777216) ∧ Q none (rngD 0 n) S1
  | _ => False) X
def dRng2 (t : DTA) : DTI := fun δ S Q X => t δ S (fun ds S1 => match ds with
  | [.int m, .int n] => (-16777216 ≤ n ∧ 0 ≤ m ∧ m ≤ 16777216 ∧ n ≤ 16777216) ∧ Q none (rngD m n) S1
  | _ => False) X
theorem rngD_len (a b : Int) : (rngD a b).length = (b - a).toNat := by simp [rngD]
theorem di_rng1 {tg : Expr} {t : DTA} (hg : Gl X "range") (hm : X.mg "range" = none) (ha : PDA X [a] t) (hs : starEach [a] X.env = [(false, eval a X.env)] := by rfl) : PDI X tg (.Call (.Name "range" p) [a] [] pos) (dRng1 t) := ⟨fun W tk => PI.weak (pi_range1 hg hm (ha.run W tk) hs) (by
  rintro σ H R ⟨G, δ, S, QD, XD, re, rl, h, kq, kx⟩
  refine ⟨G, δ, S, _, XD, re, rl, h, fun G1 H1 S1 vs ds s1 rs q => ?_, kx⟩
  split at q
  · rename_i n
    cases rs with
    | cons r1 r2 =>
    cases r2
    cases r1
    have hs : sizeLine = 16777216 := sizeLine_eq
    exact ⟨n, rfl, by omega, by omega, kq _ _ _ _ none _ s1 (it_range _ (by simp [rngD])) (by rw [rngD_len]; omega) q.2⟩
  · exact q.elim)⟩
theorem di_rng2 {tg : Expr} {t : DTA} (hg : Gl X "range") (hm : X.mg "range" = none) (ha : PDA X [a, b] t) (hs : starEach [a, b] X.env = [(false, eval a X.env), (false, eval b X.env)] := by rfl) (hs2 : starEach [b] X.env = [(false, eval b X.env)] := by rfl) : PDI X tg (.Call (.Name "range" p) [a, b] [] pos) (dRng2 t) := ⟨fun W tk => PI.weak (pi_range2 hg hm (ha.run W tk) hs hs2) (by
  rintro σ H R ⟨G, δ, S, QD, XD, re, rl, h, kq, kx⟩
  refine ⟨G, δ, S, _, XD, re, rl, h, fun G1 H1 S1 vs ds s1 rs q => ?_, kx⟩
  split at q
  · rename_i m n
    cases rs with
    | cons r1 r2 =>
    cases r2 with
    | cons r2 r3 =>
    cases r3
    cases r1
    cases r2
    have hs : sizeLine = 16777216 := sizeLine_eq
    exact ⟨m, n, rfl, ⟨by omega, by omega, by omega, by omega⟩, kq _ _ _ _ none (rngD m n) s1 (it_range _ rfl) (by rw [rngD_len]; omega) q.2⟩
  · exact q.elim)⟩
def dItems (t : DTE) : DTI := fun δ S Q X => t δ S (fun d S1 => match d with
  | .lst ds => Q none ds S1
  | .tup ds => Q none ds S1
  | .str s => Q none (s.cps.toList.map fun c => .str (one c)) S1
  | .adr a => ownk S1 a fun o => (match o with
    | some (.lst ds) => Q (some (a, .lst ds)) ds S1
    | _ => False)
  | _ => False) X
theorem PI.or {tg : Expr} {t t' : TI} (h : PI X tg e t) (h' : PI X tg e t') : PI X tg e (fun σ H R => t σ H R ∨ t' σ H R) := ⟨fun pins s σ H R I q => q.elim (h.run pins s σ H R I) (h'.run pins s σ H R I)⟩
theorem it_lst {q : Addr} {vs : List V} {ds : List D} (h : G q = some (.lst vs)) (r : Rps K G vs ds) : ItD K G none (Itl K q) ds := by
  intro G1 H1 S1 sg rl _ i
  have hq : SqL K H1 q vs := SqL.of (rl.at (sg _ _ h) rfl)
  refine ⟨fun hi => ⟨⟨vs, vs[i]'(by rw [r.length]; exact hi), hq, by simp⟩, fun x H2 yl => ?_⟩, fun hi => ⟨vs, hq, by rw [r.length]; exact hi⟩⟩
  obtain ⟨e1, e2⟩ := yl
  subst e1
  refine ⟨G1, Stp.refl rl, fun d hd => ?_⟩
  obtain ⟨v, z1, z2⟩ := r.get hd
  have := e2 vs hq
  rw [z1] at this
  cases this
  exact z2.mono sg
theorem it_own {q : Addr} {ds : List D} : ItD K G (some (q, .lst ds)) (Itl K q) ds := by
  intro G1 H1 S1 sg rl hgd i
  obtain ⟨vs, e1, r, e3⟩ := (rl.own q _ hgd).2
  have hq : SqL K H1 q vs := SqL.of e1
  refine ⟨fun hi => ⟨⟨vs, vs[i]'(by rw [r.length]; exact hi), hq, by simp⟩, fun x H2 yl => ?_⟩, fun hi => ⟨vs, hq, by rw [r.length]; exact hi⟩⟩
  obtain ⟨e1, e2⟩ := yl
  subst e1
  refine ⟨G1, Stp.refl rl, fun d hd => ?_⟩
  obtain ⟨v, z1, z2⟩ := r.get hd
  have := e2 vs hq
  rw [z1] at this
  cases this
  exact z2
theorem it_tup {q : Addr} {vs : List V} {ds : List D} (h : G q = some (.tup vs)) (r : Rps K G vs ds) : ItD K G none (Itt K q) ds := by
  intro G1 H1 S1 sg rl _ i
  have hq : SqT K H1 q vs := SqT.of (rl.at (sg _ _ h) rfl)
  refine ⟨fun hi => ⟨⟨vs, vs[i]'(by rw [r.length]; exact hi), hq, by simp⟩, fun x H2 yl => ?_⟩, fun hi => ⟨vs, hq, by rw [r.length]; exact hi⟩⟩
  obtain ⟨e1, e2⟩ := yl
  subst e1
  refine ⟨G1, Stp.refl rl, fun d hd => ?_⟩
  obtain ⟨v, z1, z2⟩ := r.get hd
  have := e2 vs hq
  rw [z1] at this
  cases this
  exact z2.mono sg
theorem it_str {z : Str} (hz : okS z) : ItD K G none (Its z) (z.cps.toList.map fun c => .str (one c)) := by
  intro G1 H1 S1 sg rl _ i
  refine ⟨fun hi => ⟨(by simpa using hi : i < z.cps.size), fun x H2 yl => ?_⟩, fun hi => (by simpa using hi : z.cps.size ≤ i)⟩
  obtain ⟨e1, c, e2, e3⟩ := yl
  subst e1 e3
  refine ⟨G1, Stp.refl rl, fun d hd => ?_⟩
  have h2 : z.cps.toList[i]? = some c := by rw [Array.getElem?_toList]; exact e2
  rw [List.getElem?_map, h2] at hd
  cases hd
  refine .str (okS_sub (s := z) hz (fun q hq => ?_) ?_)
  · have : q = c := by simpa using hq
    subst this
    exact List.mem_of_getElem? h2
  · have := Array.getElem?_eq_some_iff.mp e2
    obtain ⟨h, _⟩ := this
    show 1 ≤ z.cps.size
    omega
def iAny (K : PySem.W.Frag) (te : TE) : TI := fun σ H R => te σ H fun x H1 => (∃ q vs, x = .ref q ∧ SqL K H1 q vs ∧ R (Itl K q) H1) ∨ (∃ q vs, x = .ref q ∧ SqT K H1 q vs ∧ R (Itt K q) H1) ∨ ∃ z, x = .str z ∧ R (Its z) H1
theorem pi_any {tg : Expr} {te : TE} (he : PE X e te) : PI X tg e (iAny X.K te) := by
  constructor
  intro pins s σ H R I h
  apply thn (he.run pins s σ H _ I h)
  rintro v s1 ⟨y, H1, I1, r1, q1⟩
  rcases q1 with ⟨q, vs, rfl, hq, hR⟩ | ⟨q, vs, rfl, hq, hR⟩ | ⟨z, rfl, hR⟩
  · obtain rfl : v = Value.ref q := r1
    obtain ⟨its, _, pl, _⟩ := I1.list hq
    exact wpAny_pyIter_list pl.isList (pi_one (tk := s1.toks) I1 _ (turn_list q _) ⟨_, Heap.get?_push_size _ rfl, rfl, rfl⟩ hR)
  · obtain rfl : v = Value.ref q := r1
    obtain ⟨its, _, pl, _⟩ := I1.tuple hq
    exact wpAny_pyIter_tuple (show s1.heap.IsTuple q its.toArray from pl) (pi_one (tk := s1.toks) I1 _ (turn_tuple q _) ⟨_, Heap.get?_push_size _ rfl, rfl, rfl⟩ hR)
  · obtain ⟨tk, rfl⟩ := r1
    by_cases hA : z.cps.all (fun c => decide (c < 128)) = true
    · exact wpAny_pyIter_ascii hA (pi_one (tk := s1.toks) I1 _ (turn_str _ z tk "str_ascii_iterator" (Or.inl rfl)) ⟨_, Heap.get?_push_size _ rfl, rfl, rfl⟩ hR)
    · exact wpAny_pyIter_wide (Bool.eq_false_iff.mpr hA) (pi_one (tk := s1.toks) I1 _ (turn_str _ z tk "str_iterator" (Or.inr rfl)) ⟨_, Heap.get?_push_size _ rfl, rfl, rfl⟩ hR)
theorem di_items {tg : Expr} {t : DTE} (ha : PD X a t) : PDI X tg a (dItems t) := ⟨fun W tk => PI.weak (pi_any (ha.run W tk)) (by
  rintro σ H R ⟨G, δ, S, QD, XD, re, rl, h, kq, kx⟩
  refine ⟨G, δ, S, _, XD, re, rl, h, fun G1 H1 S1 v d s1 rv q => ?_, kx⟩
  split at q
  · cases rv with
    | lst hg rs l => exact .inl ⟨_, _, rfl, SqL.of (s1.rel.at hg rfl), kq _ _ _ _ none _ s1 (it_lst hg rs) l q⟩
  · cases rv with
    | tup hg rs l => exact .inr (.inl ⟨_, _, rfl, SqT.of (s1.rel.at hg rfl), kq _ _ _ _ none _ s1 (it_tup hg rs) l q⟩)
  · cases rv with
    | str hz => exact .inr (.inr ⟨_, rfl, kq _ _ _ _ none _ s1 (it_str hz) (by simp only [List.length_map, Array.length_toList]; exact hz.1) q⟩)
  · rename_i a
    rw [ownk_is] at q
    split at q
    · rename_i ds e
      cases rv
      obtain ⟨vs, e1, e2, e3⟩ := (s1.rel.own a _ e).2
      exact .inl ⟨_, _, rfl, SqL.of e1, kq _ _ _ _ (some (a, .lst ds)) _ s1 it_own e3 q⟩
    · exact q.elim
  · exact q.elim)⟩
def enumD : Nat → List D → List D
  | _, [] => []
  | n, d :: r => .tup [.int (n : Nat), d] :: enumD (n + 1) r
theorem enumD_len : ∀ (n : Nat) (ds : List D), (enumD n ds).length = ds.length
  | _, [] => rfl
  | n, _ :: r => congrArg Nat.succ (enumD_len (n + 1) r)
theorem enumD_get : ∀ (n : Nat) (ds : List D) (i : Nat) (d : D), (enumD n ds)[i]? = some d → ∃ y, ds[i]? = some y ∧ d = .tup [.int ((n + i : Nat) : Int), y]
  | n, [], i, d, h => by simp [enumD] at h
  | n, y :: r, 0, d, h => by simp [enumD] at h; exact ⟨y, rfl, by rw [← h]; rfl⟩
  | n, y :: r, i + 1, d, h => by
    obtain ⟨z, h1, h2⟩ := enumD_get (n + 1) r i d (by simpa [enumD] using h)
    exact ⟨z, by simpa using h1, by rw [h2]; congr 3; omega⟩
def dEnum (t : DTA) : DTI := fun δ S Q X => t δ S (fun ds S1 => match ds with
  | [.lst l] => Q none (enumD 0 l) S1
  | [.adr a] => ownk S1 a fun o => (match o with
    | some (.lst l) => Q (some (a, .lst l)) (enumD 0 l) S1
    | _ => False)
  | _ => False) X
theorem di_enum {elts : List Expr} {kk : Nat} {tpos : Pos} {t : DTA} (hg : Gl X "enumerate") (hm : X.mg "enumerate" = none) (ha : PDA X [e] t) (hs : starEach [e] X.env = [(false, eval e X.env)] := by rfl) : PDI X (.Tuple elts kk tpos) (.Call (.Name "enumerate" p) [e] [] pos) (dEnum t) := ⟨fun W tk => PI.weak (pi_enum hg hm (ha.run W tk) hs) (by
  rintro σ H R ⟨G, δ, S, QD, XD, re, rl, h, kq, kx⟩
  refine ⟨G, δ, S, _, XD, re, rl, h, fun G1 H1 S1 vs ds s1 rs q => ?_, kx⟩
  split at q
  · rename_i l
    cases rs with
    | cons r1 r2 =>
    cases r2
    cases r1 with
    | lst hg rv hl =>
    rename_i a us
    refine ⟨a, us, rfl, SqL.of (s1.rel.at hg rfl), kq _ _ _ _ none (enumD 0 l) s1 ?_ (by rw [enumD_len]; exact hl) q⟩
    intro G2 H2 S2 sg rl2 _ i
    have hq : SqL X.K H2 a us := SqL.of (rl2.at (sg _ _ hg) rfl)
    rw [enumD_len]
    refine ⟨fun hi => ⟨⟨us, us[i]'(by rw [rv.length]; exact hi), hq, by simp⟩, fun x H3 yl => ?_⟩, fun hi => ⟨us, hq, by rw [rv.length]; exact hi⟩⟩
    obtain ⟨T, y, rfl, hT, rfl, hy⟩ := yl
    have s2 : Stp X.K G2 H2 S2 (upd G2 T (.tup [.int (i : Nat), y])) (upd H2 T (.tup [.int (i : Nat), y])) S2 := Stp.newF rl2 hT
    refine ⟨_, s2, fun d hd => ?_⟩
    obtain ⟨z, z1, z2⟩ := enumD_get 0 l i d hd
    subst z2
    obtain ⟨v, w1, w2⟩ := rv.get z1
    have := hy us hq
    rw [w1] at this
    cases this
    rw [Nat.zero_add]
    exact .tup upd_same (.cons (.int _) (.cons ((w2.mono sg).mono s2.sg) .nil)) (by show 2 ≤ sizeLine; decide)
  · rename_i a
    rw [ownk_is] at q
    split at q
    · rename_i l e
      cases rs with
      | cons r1 r2 =>
      cases r2
      cases r1
      obtain ⟨us, e1, rv, hl⟩ := (s1.rel.own a _ e).2
      refine ⟨a, us, rfl, SqL.of e1, kq _ _ _ _ (some (a, .lst l)) (enumD 0 l) s1 ?_ (by rw [enumD_len]; exact hl) q⟩
      intro G2 H2 S2 sg rl2 hgd i
      obtain ⟨us, e1, rv, hl⟩ := (rl2.own a _ hgd).2
      have hq : SqL X.K H2 a us := SqL.of e1
      rw [enumD_len]
      refine ⟨fun hi => ⟨⟨us, us[i]'(by rw [rv.length]; exact hi), hq, by simp⟩, fun x H3 yl => ?_⟩, fun hi => ⟨us, hq, by rw [rv.length]; exact hi⟩⟩
      obtain ⟨T, y, rfl, hT, rfl, hy⟩ := yl
      have s2 : Stp X.K G2 H2 S2 (upd G2 T (.tup [.int (i : Nat), y])) (upd H2 T (.tup [.int (i : Nat), y])) S2 := Stp.newF rl2 hT
      refine ⟨_, s2, fun d hd => ?_⟩
      obtain ⟨z, z1, z2⟩ := enumD_get 0 l i d hd
      subst z2
      obtain ⟨v, w1, w2⟩ := rv.get z1
      have := hy us hq
      rw [w1] at this
      cases this
      rw [Nat.zero_add]
      exact .tup upd_same (.cons (.int _) (.cons (w2.mono s2.sg) .nil)) (by show 2 ≤ sizeLine; decide)
    · exact q.elim
  · exact q.elim)⟩
end
end SM
namespace SM
open PySem PySem.Spec PyProof.Rows L2
variable {K : PySem.W.Frag} {G G' G2 H H' H2 : Hp} {S S' S2 : Sto}
theorem startD_len : ∀ (N : List Str) (ds : List D), (startD N ds).length = N.length
  | [], _ => rfl
  | _ :: n, [] => congrArg Nat.succ (startD_len n [])
  | _ :: n, _ :: ds => congrArg Nat.succ (startD_len n ds)
theorem startD_nth : ∀ (N : List Str) (ds : List D) (i : Nat) (d : D), nth (startD N ds) i = some d → ds[i]? = some d
  | [], _, _, _, h => by simp [startD, nth] at h
  | _ :: n, [], 0, _, h => by simp [startD, nth] at h
  | _ :: n, [], i + 1, d, h => by have := startD_nth n [] i d (by simpa [startD, nth] using h); simp at this
  | _ :: n, e :: ds, 0, d, h => by simpa [startD, nth] using h
  | _ :: n, e :: ds, i + 1, d, h => by simpa using startD_nth n ds i d (by simpa [startD, nth] using h)
theorem startD_rpe {N : List Str} {vs : List V} {ds : List D} (r : Rps K G vs ds) (hl : ds.length ≤ N.length) : RpE K G (L2.start N vs) (startD N ds) := by
  refine ⟨?_, fun i d h => ?_⟩
  · rw [startD_len, L2.start, List.length_append, List.length_map, List.length_replicate, r.length]; omega
  · obtain ⟨v, h1, h2⟩ := r.get (startD_nth N ds i d h)
    refine ⟨v, ?_, h2⟩
    have hi := (List.getElem?_eq_some_iff.mp h1).1
    rw [L2.start, List.getElem?_append_left (by rw [List.length_map]; exact hi), List.getElem?_map, h1]
    rfl
section
variable {P : Program} {w : World} {mg : Str → Option Value} {base : Heap}
theorem fnD {x qual : Str} {params : Arguments} {body : List Stmt} {scope : Scope} {dvs : List V} {kws : List (Str × V)} {f : Addr} {fd : FuncData} {N ps : List Str} {k : Nat} (F : FunD K x qual params body scope dvs kws f fd) (Sc : FnScope N ps scope) (R : DSp)
    (len : ∀ ds S Q E, R ds S Q E → ds.length = ps.length) (hps : ps.length ≤ N.length)
    (hb : ∀ (cdv : Value) (A : Around) (outer : List Env) (s : Shared) (H : Hp) (E : XK), Room k (A.deeper (envOfC qual scope s.heap.objs.size f cdv)) → ∃ ts, PDSs (cxOf (L2N.CX P w) P w K mg base N qual scope f cdv A outer s H E) body ts ∧
      ∀ ds S QD XD, R ds S QD XD → ts ⟨fun _ S' => QD .non S', QD, fun _ _ => False, fun _ _ => False, fun x _ S' => XD x S'⟩ (startD N ds) S) : FnOk P w K mg base (L2N.CX P w) (k + 1) f fd ps (toSp K R) := by
  refine F.ok Sc (fun vs H Q E h => ?_) (fun cdv A outer s H vs Q E hr h => ?_)
  · obtain ⟨G, S, ds, QD, XD, _, rs, h, _⟩ := h
    rw [rs.length]; exact len _ _ _ _ h
  · obtain ⟨G, S, ds, QD, XD, rl, rs, h, kq, kx⟩ := h
    obtain ⟨ts, p, q⟩ := hb cdv A outer s H E hr
    refine ⟨liftS K (fun cls d _ H => E cls d H) ts, p.run _ (L2N.takes_of rfl rfl rfl rfl) (passes_of rfl), ⟨G, startD N ds, S, _, startD_rpe rs (by rw [len _ _ _ _ h]; exact hps), rl, q ds S QD XD h, ?_⟩⟩
    exact ⟨fun G1 H1 S1 σ δ s1 _ q => kq _ _ _ _ _ s1 .non q, fun G1 H1 S1 v d s1 r q => kq _ _ _ _ _ s1 r q, fun _ _ _ _ _ _ _ q => q.elim, fun _ _ _ _ _ _ _ q => q.elim, fun G1 H1 S1 σ δ cls d x s1 _ r q => kx _ _ _ _ _ _ s1 r q⟩
end
section
variable {X : Cx} {e a b c o i : Expr} {es : List Expr} {st : Stmt} {sts rest : List Stmt} {pos p apos cpos pos' : Pos} {W : WX} {k : Nat} {x m : Str} {t : DTA} {te : DTE} {f C : Addr} {fd : FuncData} {ps : List Str} {R : DSp} {dvs : List V} {dds : List D} {ds : List Value}
def dCall (R : DSp) (dds : List D) (t : DTA) : DTE := fun δ S Q X => t δ S (fun ds S1 => R (ds ++ dds) S1 Q X) X
theorem sim_call {σ : L2.St} {H : Hp} {Q : VK} (hdd : ∀ G, Rps K G dvs dds) (h : liftE K W (dCall R dds t) σ H Q) : liftA K W t σ H fun vs H1 => toSp K R (vs ++ dvs) H1 Q (WE W σ) := by
  obtain ⟨G, δ, S, QD, XD, re, rl, h, kq, kx⟩ := h
  exact ⟨G, δ, S, _, XD, re, rl, h, fun G1 H1 S1 vs ds s1 rs q => ⟨G1, S1, ds ++ dds, QD, XD, s1.rel, rs.append (hdd G1), q, fun G2 H2 S2 v d s2 r q => kq _ _ _ _ _ (s1.trans s2) r q, fun G2 H2 S2 cls d x s2 r q => kx _ _ _ _ _ _ (s1.trans s2) r q⟩, kx⟩
theorem de_call (F : FnOk X.prog X.w X.K X.mg X.base (L2N.CX X.prog X.w) k f fd ps (toSp X.K R)) (hr : Room k X.A) (hg : Gl X x) (hm : X.mg x = some (.ref f)) (hk : PySem.W.keepIn X.K (.ref f) = true) (hb : Binds X.K fd ps ds) (hd : Vals dvs ds) (hdd : ∀ G, Rps X.K G dvs dds)
    (ha : PDA X (e :: es) t) (hdb : (x == ("__debug__" : Str)) = false := by decide) (he : starEach (e :: es) X.env = (false, eval e X.env) :: starEach es X.env := by rfl) (hpl : (backTo pos (starEach es X.env)).any (·.1) = false := by rfl) :
    PD X (.Call (.Name x p) (e :: es) [] pos) (dCall R dds t) := ⟨fun W tk => PE.weak (pe_callSD (E := WE W) F hr hg hm hk hb hd (fun σ => L2N.passAt tk σ) (ha.run W tk) hdb he hpl) fun σ H Q h => sim_call hdd h⟩
end
end SM
namespace SM
open PySem PySem.Spec PyProof.Rows L2
variable {K : PySem.W.Frag} {G G' G2 H H' H2 : Hp} {S S' S2 : Sto}
section
variable {X : Cx} {e a b c o i : Expr} {es : List Expr} {st : Stmt} {sts rest : List Stmt} {pos p apos cpos pos' : Pos} {W : WX} {k : Nat} {x m fl : Str} {t : DTA} {te to : DTE} {f C : Addr} {fd : FuncData} {ps : List Str} {R : DSp} {dvs : List V} {dds : List D} {ds : List Value}
def fsel : List (Nat × Nat) → Nat → Option Nat
  | [], _ => none
  | (c, j) :: r, d => match Nat.beq c d with
    | true => some j
    | false => fsel r d
def FOk (K : PySem.W.Frag) (fl : Str) (tbl : List (Nat × Nat)) : Prop := ∀ c j, fsel tbl c = some j → Cls K (cad K c) ∧ NoAttr K (cad K c) fl ∧ (cfs c)[j]? = some fl ∧ (cfs c).Nodup
theorem fok_nil : FOk K fl [] := fun _ _ h => by cases h
theorem fok_cons {c j : Nat} {tbl : List (Nat × Nat)} (h1 : Cls K (cad K c)) (h2 : NoAttr K (cad K c) fl) (h3 : (cfs c)[j]? = some fl) (h4 : (cfs c).Nodup) (hr : FOk K fl tbl) : FOk K fl ((c, j) :: tbl) := fun c' j' h => by
  unfold fsel at h
  split at h
  · rename_i e
    have : c = c' := Nat.eq_of_beq_eq_true e
    subst this
    cases h
    exact ⟨h1, h2, h3, h4⟩
  · exact hr c' j' h
theorem lookup_zip {fl : Str} : ∀ {ns : List Str} {vs : List V} {j : Nat} {v : V}, ns.Nodup → ns[j]? = some fl → vs[j]? = some v → (ns.zip vs).lookup fl = some v
  | [], _, _, _, _, h, _ => by simp at h
  | _ :: _, [], _, _, _, _, h => by simp at h
  | n :: ns, u :: vs, 0, v, _, h, h' => by
    simp at h h'
    subst h h'
    simp [List.lookup]
  | n :: ns, u :: vs, j + 1, v, nd, h, h' => by
    simp only [List.getElem?_cons_succ] at h h'
    rw [List.nodup_cons] at nd
    have : (fl == n) = false := by
      rw [beq_eq_false_iff_ne]
      intro z
      subst z
      exact nd.1 (List.mem_of_getElem? h)
    rw [List.zip_cons_cons, List.lookup_cons, this]
    exact lookup_zip nd.2 h h'
theorem putF_set {fl : Str} {v : V} : ∀ {ns : List Str} {vs : List V} {j : Nat}, ns.Nodup → ns[j]? = some fl → j < vs.length → putF fl v (ns.zip vs) = ns.zip (vs.set j v)
  | [], _, _, _, h, _ => by simp at h
  | _ :: _, [], _, _, _, h => by simp at h
  | n :: ns, u :: vs, 0, _, h, _ => by
    simp at h
    subst h
    simp [putF]
  | n :: ns, u :: vs, j + 1, nd, h, h' => by
    simp only [List.getElem?_cons_succ] at h
    rw [List.nodup_cons] at nd
    have hn : ¬ n = fl := by
      intro z
      subst z
      exact nd.1 (List.mem_of_getElem? h)
    rw [List.zip_cons_cons, putF, if_neg hn, putF_set nd.2 h (by simpa using h')]
    rfl
theorem putF_app {fl : Str} {v : V} : ∀ {ns : List Str} {vs : List V}, ns.Nodup → ns[vs.length]? = some fl → putF fl v (ns.zip vs) = ns.zip (vs ++ [v])
  | [], _, _, h => by simp at h
  | n :: ns, [], nd, h => by
    simp at h
    subst h
    simp [putF]
  | n :: ns, u :: vs, nd, h => by
    simp only [List.length_cons, List.getElem?_cons_succ] at h
    rw [List.nodup_cons] at nd
    have hn : ¬ n = fl := by
      intro z
      subst z
      exact nd.1 (List.mem_of_getElem? h)
    rw [List.zip_cons_cons, putF, if_neg hn, putF_app nd.2 h]
    rfl
def dFld (tbl : List (Nat × Nat)) (to : DTE) : DTE := fun δ S Q X => to δ S (fun x S1 => vwk S1 x fun x' => match x' with
  | .ins c ds => (match fsel tbl c with
    | some j => (match ds[j]? with
      | some d => Q d S1
      | none => False)
    | none => False)
  | _ => False) X
theorem de_fld {tbl : List (Nat × Nat)} (ho : PD X e to) (hf : FOk X.K fl tbl) (hb : attributeBase e fl X.env (eval e X.env) = eval e X.env := by rfl) : PD X (.Attribute e fl pos) (dFld tbl to) := ⟨fun W tk => PE.weak (pe_fld (ho.run W tk) hb) (by
  rintro σ H Q ⟨G, δ, S, QD, XD, re, rl, h, kq, kx⟩
  refine ⟨G, δ, S, _, XD, re, rl, h, fun G1 H1 S1 v d s1 rv q => ?_, kx⟩
  simp only [vwk_is] at q
  split at q
  · rename_i c ds ex
    obtain ⟨z, dx, vs, rfl, hz, rs, hl⟩ := vw_ins s1.rel rv ex
    split at q
    · rename_i j ej
      obtain ⟨h1, h2, h3, h4⟩ := hf c j ej
      split at q
      · rename_i d ed
        obtain ⟨w, e1, e2⟩ := rs.get ed
        exact ⟨z, _, dx, _, w, rfl, hz, h1, h2, lookup_zip h4 h3 e1, kq _ _ _ _ _ s1 e2 q⟩
      · exact q.elim
    · exact q.elim
  · exact q.elim)⟩
def dSetF (tbl : List (Nat × Nat)) (to te : DTE) : DTS := fun E δ S => te δ S (fun d S1 => to δ S1 (fun y S2 => match y with
  | .adr q => ownk S2 q fun oo => (match oo with
    | some (.ins c fs) => (match fsel tbl c with
      | some j => (match Nat.blt j fs.length with
        | true => E.nx δ (su S2 q (.ins c (fs.set j d)))
        | false => j = fs.length ∧ E.nx δ (su S2 q (.ins c (fs ++ [d]))))
      | none => False)
    | _ => False)
  | _ => False) (fun x S1 => E.xc x δ S1)) (fun x S1 => E.xc x δ S1)
theorem ds_setF {tbl : List (Nat × Nat)} (ho : PD X o to) (he : PD X e te) (hf : FOk X.K fl tbl) (hs : swapsWith e (some (.Attribute o fl pos')) pos.line X.env = pure false := by rfl) : PDS X (.Assign [.Attribute o fl pos'] e pos) (dSetF tbl to te) := ⟨fun W tk po => PS.weak (ps_fld (ho.run W tk) (he.run W tk) hs) (by
  rintro D σ H ⟨G, δ, S, E, re, rl, h, er⟩
  refine ⟨G, δ, S, _, _, re, rl, h, fun G1 H1 S1 v d s1 rv q => ⟨G1, δ, S1, _, _, re.mono s1.sg, s1.rel, q, fun G2 H2 S2 y dy s2 ry q2 => ?_, (er.kx re).step s1⟩, er.kx re⟩
  split at q2
  · rename_i q
    cases ry
    simp only [ownk_is] at q2
    split at q2
    · rename_i c fs eS
      split at q2
      · rename_i j ej
        obtain ⟨h1, h2, h3, h4⟩ := hf c j ej
        obtain ⟨_, dx, vs, e1, r1, l1⟩ := s2.rel.own q _ eS
        have hlen : ((cfs c).zip vs).length < 1000 := by
          rw [List.length_zip]
          have : (cfs c).length < 1000 := by
            unfold cfs
            split <;> decide
          omega
        refine ⟨q, _, dx, _, rfl, e1, h1, h2, hlen, ?_⟩
        split at q2
        · rename_i hj
          have hj : j < fs.length := Nat.lt_of_succ_le (by simpa [Nat.blt] using hj)
          have s3 : Stp X.K G2 H2 S2 G2 (upd H2 q (.ins (cad X.K c) dx (putF fl v ((cfs c).zip vs)))) (su S2 q (.ins c (fs.set j d))) := Stp.mut s2.rel eS ⟨dx, vs.set j v, by rw [putF_set h4 h3 (by rw [r1.length]; exact hj)], r1.set (rv.mono s2.sg) j, by rw [List.length_set]; exact l1⟩
          have s13 := (s1.trans s2).trans s3
          exact er.nx _ _ _ _ _ s13 (re.mono s13.sg) q2
        · obtain ⟨hj, q2⟩ := q2
          have s3 : Stp X.K G2 H2 S2 G2 (upd H2 q (.ins (cad X.K c) dx (putF fl v ((cfs c).zip vs)))) (su S2 q (.ins c (fs ++ [d]))) := Stp.mut s2.rel eS ⟨dx, vs ++ [v], by rw [putF_app h4 (by rw [r1.length, ← hj]; exact h3)], r1.append (.cons (rv.mono s2.sg) .nil), by
            have := (List.getElem?_eq_some_iff.mp h3).1
            rw [List.length_append, List.length_singleton]; omega⟩
          have s13 := (s1.trans s2).trans s3
          exact er.nx _ _ _ _ _ s13 (re.mono s13.sg) q2
      · exact q2.elim
    · exact q2.elim
  · exact q2.elim)⟩
def Bt.is : Bt → D → Bool
  | .lst, .lst _ => true
  | .str, .str _ => true
  | .dct, .dT _ => true
  | _, _ => false
def dBM (T : Bt) (r : RCD) (to : DTE) (t : DTA) : DTE := fun δ S Q X => to δ S (fun x S1 => vwk S1 x fun x' => match T.is x' with
  | true => t δ S1 (fun ds S2 => r (x :: ds) S2 Q) X
  | false => False) X
theorem MtR.weak {id : String} {r r' : V → List V → Hp → VK → Prop} (h : MtR X id r) (w : ∀ x xs H Q, r' x xs H Q → r x xs H Q) : MtR X id r' := fun pins s σ H x xs v us Q I rx rs q => h pins s σ H x xs v us Q I rx rs (w x xs H Q q)
theorem bt_ty (rl : Rel K G H S) {T : Bt} {v : V} {d : D} (r : Rp K G v d) (h : T.is (vw S d) = true) (hT : T ≠ .dct) : tyV K T.nm v H := by
  cases e : vw S d with
  | lst ds =>
    rw [e] at h
    obtain ⟨q, vs, rfl, hq, _, _⟩ := vw_lst rl r e
    cases T <;> simp [Bt.is] at h
    exact .inl ⟨rfl, vs, SqL.of hq⟩
  | str z =>
    rw [e] at h
    obtain ⟨e1, _⟩ := (vw_scal r).2.2.1 _ e
    subst e1
    cases T <;> simp [Bt.is] at h
    rfl
  | _ => rw [e] at h; cases T <;> simp [Bt.is] at h hT
theorem sim_bm {T : Bt} {r : RCD} (hT : T ≠ .dct) : ∀ σ H Q, liftE K W (dBM T r to t) σ H Q → tBM K T.nm (liftM K r) (liftE K W to) (liftA K W t) σ H Q := by
  rintro σ H Q ⟨G, δ, S, QD, XD, re, rl, h, kq, kx⟩
  refine ⟨G, δ, S, _, XD, re, rl, h, fun G1 H1 S1 v d s1 rv q => ?_, kx⟩
  simp only [vwk_is] at q
  split at q
  · rename_i ht
    exact ⟨bt_ty s1.rel rv ht hT, G1, δ, S1, _, XD, re.mono s1.sg, s1.rel, q, fun G2 H2 S2 vs ds s2 rs q2 => ⟨G2, S2, _, QD, s2.rel, .cons (rv.mono s2.sg) rs, q2, fun G3 H3 S3 v d s3 r q => kq _ _ _ _ _ ((s1.trans s2).trans s3) r q⟩, kx.step s1⟩
  · exact q.elim
abbrev FewA (X : Cx) (q : Pos) (l : List Expr) : Prop := ((backTo q (starEach l X.env)).all (fun x => !x.1) && (backToKw q (keywordEach [] X.env)).all (fun x => x.1.isSome) && decide (l.length + ([] : List Keyword).length + (if ([] : List Keyword).isEmpty then 0 else 1) < 30)) = true
theorem de_bm {T : Bt} {r : RCD} {name : Str} {id : String} (hT : T ≠ .dct) (pa : PlainAttrs T.nm) (slot : Slot T.nm name id) (hty : typeOf (.builtin id) = pure (.type "method_descriptor")) (hm : MtR X id (liftM X.K r)) (ho : PD X o to) (ha : PDA X (e :: es) t)
    (hbase : attributeBase o name X.env (eval o X.env) = eval o X.env := by rfl) (hfew : FewA X cpos (e :: es) := by rfl) (hline : (apos.endLine == cpos.line) = true := by rfl) (he : starEach (e :: es) X.env = (false, eval e X.env) :: starEach es X.env := by rfl) (hpl : (backTo cpos (starEach es X.env)).any (·.1) = false := by rfl) :
    PD X (.Call (.Attribute o name apos) (e :: es) [] cpos) (dBM T r to t) := ⟨fun W tk => PE.weak (pe_bm pa slot hty hm (ho.run W tk) (ha.run W tk) hbase hfew hline he hpl) (sim_bm hT)⟩
def appD : RCD := fun ds S Q => match ds with
  | [.adr q, d] => ownk S q fun oo => (match oo with
    | some (.lst es) => es.length < sizeLine ∧ Q .non (su S q (.lst (es ++ [d])))
    | _ => False)
  | _ => False
theorem m_append : MtR X "list.append" (liftM X.K appD) := MtR.weak mt_append (by
  rintro x xs H Q ⟨G, S, ds, QD, rl, rs, h, kq⟩
  unfold appD at h
  split at h
  · rename_i q d
    cases rs with
    | cons r1 r2 =>
    cases r2 with
    | cons r2 r3 =>
    cases r3
    cases r1
    simp only [ownk_is] at h
    split at h
    · rename_i es eS
      obtain ⟨_, vs, e1, re, l1⟩ := rl.own q _ eS
      refine ⟨q, vs, _, rfl, rfl, e1, by rw [re.length]; exact h.1, ?_⟩
      exact kq _ _ _ _ _ (Stp.mut (o' := .lst (es ++ [d])) rl eS ⟨_, rfl, re.append (.cons r2 .nil), by rw [List.length_append]; exact h.1⟩) .non h.2
    · exact h.elim
  · exact h.elim)
def strsD : List D → Option (List Str)
  | [] => some []
  | .str s :: r => (match strsD r with
    | some l => some (s :: l)
    | none => none)
  | _ => none
theorem strsD_rps : ∀ {vs : List V} {ds : List D} {l : List Str}, Rps K G vs ds → strsD ds = some l → vs = l.map V.str ∧ ∀ s ∈ l, okS s
  | _, _, _, .nil, h => by cases h; exact ⟨rfl, fun _ h => nomatch h⟩
  | _, _, _, .cons r q, h => by
    unfold strsD at h
    split at h
    · rename_i e; cases e
    · rename_i s r' e
      cases e
      split at h
      · rename_i l' el
        cases h
        cases r with
        | str hs =>
        obtain ⟨z1, z2⟩ := strsD_rps q el
        exact ⟨by rw [z1]; rfl, fun s hs' => by
          rcases List.mem_cons.mp hs' with rfl | hm
          · exact hs
          · exact z2 s hm⟩
      · cases h
    · cases h
end
end SM
namespace SM
open PySem PySem.Spec PyProof.Rows L2
variable {K : PySem.W.Frag} {G G' G2 H H' H2 : Hp} {S S' S2 : Sto}
section
variable {k : D → Prop} {ko : Option OO → Prop} {ds : List D} {kvs : List (List Key × D)} {c : Nat} {a b : Addr} {o u : OO}
theorem vk_non (q : k .non) : vwk S .non k := vwk_of rfl q
theorem vk_bl {z : Bool} (q : k (.bl z)) : vwk S (.bl z) k := vwk_of rfl q
theorem vk_int {z : Int} (q : k (.int z)) : vwk S (.int z) k := vwk_of rfl q
theorem vk_str {z : Str} (q : k (.str z)) : vwk S (.str z) k := vwk_of rfl q
theorem vk_tup (q : k (.tup ds)) : vwk S (.tup ds) k := vwk_of rfl q
theorem vk_lst (q : k (.lst ds)) : vwk S (.lst ds) k := vwk_of rfl q
theorem vk_dT (q : k (.dT kvs)) : vwk S (.dT kvs) k := vwk_of rfl q
theorem vk_ins (q : k (.ins c ds)) : vwk S (.ins c ds) k := vwk_of rfl q
theorem vw_own {a : Addr} : ∀ {o : OO}, S a = some o → vw S (.adr a) = (match o with | .lst ds => .lst ds | .dT kvs => .dT kvs | .ins c ds => .ins c ds | .dF _ _ kvs => .dT kvs)
  | .lst _, h => by simp [vw, h]
  | .dF _ _ _, h => by simp [vw, h]
  | .dT _, h => by simp [vw, h]
  | .ins _ _, h => by simp [vw, h]
def ofO : OO → D
  | .lst ds => .lst ds
  | .dT kvs => .dT kvs
  | .ins c ds => .ins c ds
  | .dF _ _ kvs => .dT kvs
theorem vk_o (h : S a = some o) (q : k (ofO o)) : vwk S (.adr a) k := vwk_of (by rw [vw_own h]; cases o <;> rfl) q
theorem ok_o (h : S a = some o) (q : ko (some o)) : ownk S a ko := ownk_of h q
theorem brT {A B : Prop} (h : A) : brn true A B := by rw [brn_t]; exact h
theorem brF {A B : Prop} (h : B) : brn false A B := by rw [brn_f]; exact h
theorem ik_map {α : Type} {f : α → D} {xs : List α} {i : Nat} {kk : D → Prop} (h : i < xs.length) (q : kk (f xs[i])) : itk (xs.map f) (i : Int) kk := itk_of (atI_nat (by rw [List.getElem?_map]; simp [h])) q
theorem brP {c : Prop} [Decidable c] {A B : Prop} (h1 : c → A) (h2 : ¬ c → B) : brn (decide c) A B := brn_of (fun h => h1 (of_decide_eq_true h)) (fun h => h2 (of_decide_eq_false h))
theorem brN {c : Prop} [Decidable c] {A B : Prop} (h1 : ¬ c → A) (h2 : c → B) : brn (!decide c) A B := brn_of (fun h => h1 (by simpa using h)) (fun h => h2 (by simpa using h))
end
section
variable {X : Cx} {st : Stmt} {rest : List Stmt} {t u : DTS}
def dCut (t u : DTS) : DTS := fun E δ S => cutK t u E δ S
theorem dss_cut (h1 : PDS X st t) (h2 : PDSs X rest u) : PDSs X (st :: rest) (dCut t u) := ⟨fun W tk po => PSs.weak (pss_cons (h1.run W tk po) (h2.run W tk po)) (by
  rintro D σ H ⟨G, δ, S, E, re, rl, ⟨M, h, hm⟩, er⟩
  exact ⟨G, δ, S, _, re, rl, h, ⟨fun G1 H1 S1 σ1 δ1 s1 re1 q => ⟨G1, δ1, S1, E, re1, s1.rel, hm _ _ q, er.step s1⟩, er.rt, er.bk, er.ct, er.xc⟩⟩)⟩
end
def bagO (b : Bag) : OO := .lst [.lst (b.cells.map D.int), .int b.at_, .int b.big, .int b.seed]
end SM
namespace SM
open PySem PySem.Spec PyProof.Rows L2
variable {K : PySem.W.Frag} {G G' G2 H H' H2 G0 H0 : Hp} {S S' S2 S0 : Sto}
theorem Stp.newH (r : Rel K G H S) {p : Addr} {o : HO} (h : H p = none) : Stp K G H S G (upd H p o) S where
  sg := fun _ _ e => e
  rel := {
    le := fun b w e => by
      have hb : b ≠ p := ne_of_none e (r.free h).1
      rw [upd_ne hb]; exact r.le b w e
    own := fun b w e => by
      have hb : b ≠ p := st_ne e (r.free h).2
      rw [upd_ne hb]; exact r.own b w e }
  fr := fun b w e g s => by
    have hb : b ≠ p := ne_of_none e h
    rw [upd_ne hb]; exact ⟨e, s, .inl g⟩
theorem Stp.mutH (s : Stp K G0 H0 S0 G H S) {p : Addr} {o : HO} (h0 : H0 p = none) (hg : G p = none) (hs : S p = none) : Stp K G0 H0 S0 G (upd H p o) S where
  sg := s.sg
  rel := {
    le := fun b w e => by
      have hb : b ≠ p := ne_of_none e hg
      rw [upd_ne hb]; exact s.rel.le b w e
    own := fun b w e => by
      have hb : b ≠ p := st_ne e hs
      rw [upd_ne hb]; exact s.rel.own b w e }
  fr := fun b w e g z => by
    have hb : b ≠ p := ne_of_none e h0
    rw [upd_ne hb]; exact s.fr b w e g z
theorem Stp.frzH (s : Stp K G0 H0 S0 G H S) {p : Addr} {o : HO} (h0 : H0 p = none) (hg : G p = none) (hs : S p = none) (hp : H p = some o) : Stp K G0 H0 S0 (upd G p o) H S where
  sg := fun b w e => by
    have := s.sg b w e
    rw [upd_ne (ne_of_none this hg)]; exact this
  rel := {
    le := fun b w e => by
      by_cases hb : b = p
      · subst hb; rw [upd_same] at e; cases e; exact .inl hp
      · rw [upd_ne hb] at e; exact s.rel.le b w e
    own := fun b w e => by
      have hb : b ≠ p := st_ne e hs
      rw [upd_ne hb]
      refine ⟨(s.rel.own b w e).1, (s.rel.own b w e).2.mono fun c w q => ?_⟩
      rw [upd_ne (ne_of_none q hg)]; exact q }
  fr := fun b w e g z => by
    have hb : b ≠ p := ne_of_none e h0
    rw [upd_ne hb]; exact s.fr b w e g z
theorem uns_rpe {σ : L2.St} {δ : DS} (h : RpE K G σ δ) : ∀ vs : List Nat, RpE K G (wipe σ vs) (uns δ vs)
  | [] => h
  | v :: vs => (uns_rpe h vs).unset v
theorem wipe_at (σ : L2.St) : ∀ (vs : List Nat) (i : Nat), (wipe σ vs)[i]? = if i ∈ vs then (σ[i]?).map (fun _ => none) else σ[i]?
  | [], i => by simp [wipe]
  | v :: vs, i => by
    rw [wipe]
    by_cases hv : v = i
    · subst hv
      rw [List.getElem?_set_self']
      rw [wipe_at σ vs v]
      by_cases hm : v ∈ vs
      · simp [hm]
        cases σ[v]? <;> rfl
      · simp [hm]
        cases σ[v]? <;> rfl
    · rw [List.getElem?_set_ne hv, wipe_at σ vs i]
      have : ¬ i = v := fun z => hv z.symm
      simp [this]
theorem wipe_agr {σ σ2 : L2.St} {vs l : List Nat} (h : Agr l (wipe σ vs) σ2) (hl : ∀ i ∈ l, i ∈ vs) : wipe σ2 vs = wipe σ vs := by
  apply List.ext_getElem?
  intro i
  rw [wipe_at σ2 vs i]
  by_cases hi : i ∈ vs
  · rw [if_pos hi, wipe_at σ vs i, if_pos hi]
    have hlen : σ2.length = σ.length := by rw [h.1, wipe_length]
    by_cases hb : i < σ.length
    · rw [List.getElem?_eq_getElem (by omega), List.getElem?_eq_getElem hb]; rfl
    · rw [List.getElem?_eq_none (by omega), List.getElem?_eq_none (by omega)]
  · rw [if_neg hi]
    exact h.2 i fun z => hi (hl i z)
def dYes : DTT := fun _ S Q _ => Q true S
theorem lcK_is {gd : Gd} {q : Pat} {tt : DTT} {te : DTE} {δ : DS} {xs : List D} {S : Sto} {Q : List D → Sto → Prop} : lcK gd q tt te δ xs S Q = dLcL gd q tt te δ xs S Q := propext ⟨fun h => h.it, fun h => ⟨h⟩⟩
def dLc (ti : DTI) (q : Pat) (tt : DTT) (te : DTE) (vs : List Nat) : DTE := fun δ S Q X => ti δ S (fun gd xs S1 => lcK gd q tt te (uns δ vs) xs S1 (fun ds S2 => Q (.lst ds) S2)) X
def dLcO (ti : DTI) (q : Pat) (tt : DTT) (te : DTE) (vs : List Nat) : DTE := fun δ S Q X => ti δ S (fun gd xs S1 => lcK gd q tt te (uns δ vs) xs S1 (fun ds S2 => ∀ p, S2 p = none → Q (.adr p) (su S2 p (.lst ds)))) X
section
variable {X : Cx} {e a b c o i : Expr} {pos p : Pos} {W : WX} {k : Nat}
theorem PTs.weak {ifs : List Expr} {t t' : TT} (h : PTs X ifs t) (w : ∀ σ H Q, t' σ H Q → t σ H Q) : PTs X ifs t' := ⟨fun pins s σ H Q I q => h.run pins s σ H Q I (w σ H Q q)⟩
theorem dts_nil : PDTs X [] dYes := ⟨fun W tk => PTs.weak pts_nil (by
  rintro σ H Q ⟨G, δ, S, QD, XD, re, rl, h, kq, kx⟩
  exact kq _ _ _ _ (Stp.refl rl) h)⟩
abbrev W0 : WX := fun _ _ _ _ => False
theorem kx0 {σ : L2.St} : KX K W0 σ G H S noX := fun _ _ _ _ _ _ _ _ z => z
theorem LcI.step {A : Addr} {acc : List D} (I : LcI K G0 H0 S0 A G H S acc) (s : Stp K G H S G' H' S') : LcI K G0 H0 S0 A G' H' S' acc := by
  obtain ⟨vs, e, r⟩ := I.ex
  obtain ⟨e1, e2, e3⟩ := s.fr A _ e I.hg I.hs
  refine ⟨I.st.trans s, ⟨vs, e1, r.mono s.sg⟩, ?_, e2⟩
  rcases e3 with e3 | ⟨z, e3⟩
  · exact e3
  · cases e3
theorem LcI.more {A : Addr} {acc vs : List D} {us : List V} {v : V} {d : D} (I : LcI K G0 H0 S0 A G H S acc) (h0 : H0 A = none) (r : Rp K G v d) (hu : H A = some (.lst us)) : LcI K G0 H0 S0 A G (upd H A (.lst (us ++ [v]))) S (acc ++ [d]) := by
  obtain ⟨ws, e, rs⟩ := I.ex
  rw [hu] at e
  cases e
  exact ⟨I.st.mutH h0 I.hg I.hs, ⟨_, upd_same, rs.append (.cons r .nil)⟩, I.hg, I.hs⟩
theorem sim_lc {ti : DTI} {q : Pat} {tt : DTT} {te : DTE} {vs : List Nat} (hq : ∀ i ∈ slots q, i ∈ vs) (fin : DQ → List D → Sto → Prop)
    (hfin : ∀ G0 H0 S0 G H S A ds vv QD, Stp K G0 H0 S0 G H S → H0 A = none → G A = none → S A = none → H A = some (.lst vv) → Rps K G vv ds → ds.length ≤ sizeLine → fin QD ds S → ∃ G' S' d, Stp K G0 H0 S0 G' H S' ∧ Rp K G' (.ref A) d ∧ QD d S') :
    ∀ σ H Q, liftE K W (fun δ S Q X => ti δ S (fun gd xs S1 => dLcL gd q tt te (uns δ vs) xs S1 (fin Q)) X) σ H Q → tLc (liftI K W ti) (pG K q) (liftT K W0 tt) (liftE K W0 te) vs σ H Q := by
  rintro σ H Q ⟨G, δ, S, QD, XD, re, rl, h, kq, kx⟩
  refine ⟨G, δ, S, _, XD, re, rl, h, fun G1 H1 S1 J gd xs s1 hJ hl hd A hA => ?_, kx⟩
  have fA := s1.rel.free hA
  refine ⟨fun i m H' => m = xs.length - i ∧ i ≤ xs.length ∧ ∃ G' S' acc, LcI K G1 H1 S1 A G' H' S' acc ∧ acc.length ≤ i ∧ dLcL gd q tt te (uns δ vs) (xs.drop i) S' (fun ds S'' => fin QD (acc ++ ds) S''), ⟨xs.length, by simp, by simp, G1, S1, [], ⟨Stp.newH s1.rel hA, ⟨[], upd_same, .nil⟩, fA.1, fA.2⟩, by simp, by simpa using hd⟩, ?_⟩
  rintro i m H' ⟨rfl, hi, G', S', acc, I, la, hd'⟩
  have hgd : gok gd S' := by
    cases q : xs.drop i with
    | nil => rw [q, dLcL] at hd'; exact hd'.1
    | cons y z => rw [q, dLcL] at hd'; exact hd'.1
  obtain ⟨h1, h2⟩ := hJ G' H' S' I.st.sg I.st.rel hgd i
  by_cases hlt : i < xs.length
  · obtain ⟨hgo, hy⟩ := h1 hlt
    refine .inr ⟨hgo, fun H3 => ∃ G3 S3 acc3, LcI K G1 H1 S1 A G3 H3 S3 acc3 ∧ acc3.length ≤ i + 1 ∧ dLcL gd q tt te (uns δ vs) (xs.drop (i + 1)) S3 (fun ds S'' => fin QD (acc3 ++ ds) S''), fun H3 ⟨G3, S3, acc3, a1, a2, a3⟩ => ⟨xs.length - (i + 1), by omega, rfl, hlt, G3, S3, acc3, a1, a2, a3⟩, fun x H3 yl => ?_⟩
    obtain ⟨G3, s3, rx⟩ := hy x H3 yl
    have rx := rx _ (show xs[i]? = some xs[i] by simp [hlt])
    have I3 := I.step s3
    rw [List.drop_eq_getElem_cons hlt, dLcL] at hd'
    replace hd' := hd'.2
    split at hd'
    · rename_i δ2 e2
      have re3 : RpE K G3 (wipe σ vs) (uns δ vs) := uns_rpe (re.mono (s1.sg.trans (I.st.sg.trans s3.sg))) vs
      obtain ⟨σ2, a1, a2, a3⟩ := pG_run s3.rel _ _ x (wipe σ vs) (uns δ vs) δ2 re3 rx e2
      refine a1 _ ⟨wipe_agr a3 hq, ?_⟩
      refine ⟨G3, δ2, S', _, noX, a2, s3.rel, hd', fun G4 H4 S4 b s4 q4 => ?_, kx0⟩
      have I4 := I3.step s4
      cases b with
      | true =>
        rw [brn_t] at q4
        refine iteT ?_
        refine ⟨G4, δ2, S4, _, noX, a2.mono s4.sg, s4.rel, q4, fun G5 H5 S5 v d s5 rv q5 => ?_, kx0⟩
        have I5 := I4.step s5
        obtain ⟨us, e5, r5⟩ := I5.ex
        refine ⟨us, e5, by rw [r5.length]; omega, G5, S5, acc ++ [d], I5.more (vs := []) hA rv e5, by rw [List.length_append, List.length_singleton]; omega, ?_⟩
        simpa using q5
      | false =>
        rw [brn_f] at q4
        refine iteF ?_
        exact ⟨G4, S4, acc, I4, by omega, q4⟩
    · exact hd'.elim
  · have hle : xs.length ≤ i := by omega
    refine .inl ⟨h2 hle, ?_⟩
    rw [List.drop_of_length_le hle, dLcL] at hd'
    replace hd' := hd'.2
    obtain ⟨us, e5, r5⟩ := I.ex
    obtain ⟨G5, S5, d, s5, r6, q6⟩ := hfin G1 H1 S1 G' H' S' A _ us QD I.st hA I.hg I.hs e5 r5 (by omega) (by simpa using hd')
    exact kq _ _ _ _ _ (s1.trans s5) r6 q6
theorem fin_f : ∀ (G0 H0 : Hp) (S0 : Sto) (G H : Hp) (S : Sto) (A : Addr) (ds : List D) (vv : List V) (QD : DQ), Stp K G0 H0 S0 G H S → H0 A = none → G A = none → S A = none → H A = some (.lst vv) → Rps K G vv ds → ds.length ≤ sizeLine → QD (.lst ds) S → ∃ G' S' d, Stp K G0 H0 S0 G' H S' ∧ Rp K G' (.ref A) d ∧ QD d S' := by
  intro G0 H0 S0 G H S A ds vv QD s h0 hg hs hA r l q
  have s2 := s.frzH h0 hg hs hA
  refine ⟨_, S, _, s2, .lst upd_same (r.mono fun b w e => ?_) l, q⟩
  rw [upd_ne (ne_of_none e hg)]; exact e
theorem fin_o : ∀ (G0 H0 : Hp) (S0 : Sto) (G H : Hp) (S : Sto) (A : Addr) (ds : List D) (vv : List V) (QD : DQ), Stp K G0 H0 S0 G H S → H0 A = none → G A = none → S A = none → H A = some (.lst vv) → Rps K G vv ds → ds.length ≤ sizeLine → (∀ p, S p = none → QD (.adr p) (su S p (.lst ds))) → ∃ G' S' d, Stp K G0 H0 S0 G' H S' ∧ Rp K G' (.ref A) d ∧ QD d S' := by
  intro G0 H0 S0 G H S A ds vv QD s h0 hg hs hA r l q
  refine ⟨G, su S A (.lst ds), .adr A, ⟨s.sg, ⟨s.rel.le, fun b w e => ?_⟩, fun b w e g z => ?_⟩, .adr A, q A hs⟩
  · by_cases hb : b = A
    · subst hb; rw [su_same] at e; cases e; exact ⟨hg, vv, hA, r, l⟩
    · rw [su_ne hb] at e; exact s.rel.own b w e
  · obtain ⟨z1, z2, z3⟩ := s.fr b w e g z
    refine ⟨z1, ?_, z3⟩
    rw [su_ne (ne_of_none e h0)]; exact z2
section
variable {elt tg iter : Expr} {ifs : List Expr} {scope : Scope} {own : List (Str × Nat)} {ti : DTI} {q : Pat} {tt : DTT} {te : DTE}
theorem de_lc (hc : X.calm = true) (hN : X.N.Nodup) (hi : PDI X tg iter ti) (ok : BlkOk X.N X.env.scope scope own) (hg : ∀ s H C cl fp, PDP (Cx.bk X scope s H C cl fp) tg q) (ht : ∀ s H C cl fp, PDTs (Cx.bk X scope s H C cl fp) ifs tt) (he : ∀ s H C cl fp, PD (Cx.bk X scope s H C cl fp) elt te)
    (hq : ∀ i ∈ slots q, i ∈ own.map (·.2) := by decide) (hs : ∀ x, foldedSetIterable iter X.env x = pure x := by intro _; rfl) : PD X (.ListComp elt [⟨tg, iter, ifs, 0⟩] scope pos) (dLc ti q tt te (own.map (·.2))) := by
  unfold dLc
  simp only [lcK_is]
  exact ⟨fun W tk =>
  PE.weak (pe_lc hc hN (hi.run W tk) ok (fun s H C cl fp => (hg s H C cl fp).run) (fun s H C cl fp => (ht s H C cl fp).run W0 takes0N) (fun s H C cl fp => (he s H C cl fp).run W0 takes0N) hs) (sim_lc hq (fun Q ds S => Q (.lst ds) S) fin_f)⟩
end
end
end SM
namespace SM
open PySem PySem.Spec PyProof.Rows L2
variable {K : PySem.W.Frag} {G G' G2 H H' H2 G0 H0 : Hp} {S S' S2 S0 : Sto}
section
variable {X : Cx} {e a b c o i : Expr} {es : List Expr} {pos p py spos : Pos} {W : WX} {k : Nat} {x y : Str} {t : DTA} {te : DTE} {f C : Addr} {fd : FuncData} {ps : List Str} {R : DSp} {dvs : List V} {dds : List D} {ds : List Value}
section
variable {elt tg iter : Expr} {ifs : List Expr} {scope : Scope} {own : List (Str × Nat)} {ti : DTI} {q : Pat} {tt : DTT}
theorem ds_setLc {j : Nat} (hc : X.calm = true) (hN : X.N.Nodup) (hsw : swapsWith (.ListComp elt [⟨tg, iter, ifs, 0⟩] scope pos) (some (.Name y py)) spos.line X.env = pure true) (hi : PDI X tg iter ti) (ok : BlkOk X.N X.env.scope scope own) (hg : ∀ s H C cl fp, PDP (Cx.bk X scope s H C cl fp) tg q) (ht : ∀ s H C cl fp, PDTs (Cx.bk X scope s H C cl fp) ifs tt) (he : ∀ s H C cl fp, PD (Cx.bk X scope s H C cl fp) elt te)
    (hy : X.N[j]? = some y := by rfl) (hyl : X.env.scope.names.lookup y = some .local := by rfl) (hq : ∀ i ∈ slots q, i ∈ own.map (·.2) := by decide) (hs : ∀ x, foldedSetIterable iter X.env x = pure x := by intro _; rfl) : PDS X (.Assign [.Name y py] (.ListComp elt [⟨tg, iter, ifs, 0⟩] scope pos) spos) (dSet j (dLc ti q tt te (own.map (·.2)))) := by
  unfold dLc
  simp only [lcK_is]
  exact ⟨fun W tk po =>
  PS.weak (ps_setLc (tt := liftT X.K W0 tt) (te := liftE X.K W0 te) hc hN hy hyl hsw (hi.run W tk) ok (fun s H C cl fp => (hg s H C cl fp).run) (fun s H C cl fp => (ht s H C cl fp).run W0 takes0N) (fun s H C cl fp => (he s H C cl fp).run W0 takes0N) hs) (by
    rintro D σ H ⟨G, δ, S, E, re, rl, h, er⟩
    exact sim_lc hq (fun Q ds S => Q (.lst ds) S) fin_f σ H _ ⟨G, δ, S, fun d S1 => E.nx (put δ j d) S1, fun x S1 => E.xc x δ S1, re, rl, h, fun G1 H1 S1 v d s1 rv q => er.nx _ _ _ _ _ s1 ((re.mono s1.sg).put j rv) q, er.kx re⟩)⟩
theorem ds_setLcO {j : Nat} (hc : X.calm = true) (hN : X.N.Nodup) (hsw : swapsWith (.ListComp elt [⟨tg, iter, ifs, 0⟩] scope pos) (some (.Name y py)) spos.line X.env = pure true) (hi : PDI X tg iter ti) (ok : BlkOk X.N X.env.scope scope own) (hg : ∀ s H C cl fp, PDP (Cx.bk X scope s H C cl fp) tg q) (ht : ∀ s H C cl fp, PDTs (Cx.bk X scope s H C cl fp) ifs tt) (he : ∀ s H C cl fp, PD (Cx.bk X scope s H C cl fp) elt te)
    (hy : X.N[j]? = some y := by rfl) (hyl : X.env.scope.names.lookup y = some .local := by rfl) (hq : ∀ i ∈ slots q, i ∈ own.map (·.2) := by decide) (hs : ∀ x, foldedSetIterable iter X.env x = pure x := by intro _; rfl) : PDS X (.Assign [.Name y py] (.ListComp elt [⟨tg, iter, ifs, 0⟩] scope pos) spos) (dSet j (dLcO ti q tt te (own.map (·.2)))) := by
  unfold dLcO
  simp only [lcK_is]
  exact ⟨fun W tk po =>
  PS.weak (ps_setLc (tt := liftT X.K W0 tt) (te := liftE X.K W0 te) hc hN hy hyl hsw (hi.run W tk) ok (fun s H C cl fp => (hg s H C cl fp).run) (fun s H C cl fp => (ht s H C cl fp).run W0 takes0N) (fun s H C cl fp => (he s H C cl fp).run W0 takes0N) hs) (by
    rintro D σ H ⟨G, δ, S, E, re, rl, h, er⟩
    exact sim_lc hq (fun Q ds S => ∀ p, S p = none → Q (.adr p) (su S p (.lst ds))) fin_o σ H _ ⟨G, δ, S, fun d S1 => E.nx (put δ j d) S1, fun x S1 => E.xc x δ S1, re, rl, h, fun G1 H1 S1 v d s1 rv q => er.nx _ _ _ _ _ s1 ((re.mono s1.sg).put j rv) q, er.kx re⟩)⟩
end
theorem run_makeD {pins : List (Addr × Obj)} {σ : L2.St} {H : Hp} {s : Shared} {Q : VK} {us : List Value} {vs : List V} (M : Mk X.K C f) (F : FnOk X.prog X.w X.K X.mg X.base (L2N.CX X.prog X.w) k f fd ps (toSp X.K R)) (hr : Room (k + 1) X.A) (hb : Binds X.K fd ps ds) (hd : Vals dvs ds)
    (tk : L2N.Takes X W) (I : Inv X pins σ H s) (r : Vals vs us)
    (h : ∀ z dx, H z = none → H dx = none → dx ≠ z → toSp X.K R (.ref z :: (vs ++ dvs)) (upd (upd H dx (.own z)) z (.ins C dx [])) (fun v H2 => v = .non ∧ Q (.ref z) H2) (WE W σ)) :
    wpAny (model X.prog X.w) X.A (call (.ref C) us) (EP X pins σ Q) X.xe s := by
  let z : Addr := s.heap.objs.size + 1
  have hq := h z s.heap.objs.size (I.hok.fresh (Nat.le_succ _)) (I.hok.fresh (Nat.le_refl _)) (Nat.ne_of_lt (Nat.lt_succ_self _))
  have J := Inv.made (C := C) I
  have rr : Vals (V.ref z :: (vs ++ dvs)) (Value.ref z :: (us ++ ds)) := .cons rfl (r.append hd)
  have hl : (Value.ref z :: us ++ ds).length = ps.length := (rr.length.symm.trans (F.len _ _ _ _ hq))
  apply wpAny_call
  apply make_map (f := f) I.kIn M.makes M.init (beq_iff_eq.mp M.fn)
  apply codeAny_mono (F.run _ X.stack _ _ ⟨Value.ref z :: us, []⟩ (Value.ref z :: (us ++ ds)) _ _ (WE W σ) (hr.make C us []) (J.env0.make C us []) (hb _ (Value.ref z :: us) J.kIn hl) rr hq)
  intro r s' hq'
  match r, hq' with
  | .error e, hq' => exact L2N.passAt tk σ pins _ _ e s' J hq'
  | .ok (.ret u), hq' =>
    obtain ⟨v, H', I3, rv, ev, q3⟩ := J.after hq'
    subst ev
    exact ⟨rv, ⟨V.ref z, H', I3, rfl, q3⟩⟩
  | .ok .next, hq' => exact False.elim hq'
  | .ok .brk, hq' => exact False.elim hq'
  | .ok .cont, hq' => exact False.elim hq'
def mkF (Q : DQ) (z : Addr) (S : Sto) : Prop := ownk S z fun oo => match oo with
  | some (.ins c fs) => Q (.ins c fs) (sd S z)
  | _ => False
def dMake (fin : DQ → Addr → Sto → Prop) (c : Nat) (R : DSp) (dds : List D) (t : DTA) : DTE := fun δ S Q X => t δ S (fun ds S1 => ∀ z, S1 z = none → R (.adr z :: (ds ++ dds)) (su S1 z (.ins c [])) (fun d S2 => d = .non ∧ fin Q z S2) (fun e S2 => X e (sd S2 z))) X
theorem mkF_ok : ∀ (Q : DQ) (z : Addr) (G H : Hp) (S : Sto), Rel K G H S → mkF Q z S → ∃ G' S' d, Stp K G H S G' H S' ∧ Rp K G' (.ref z) d ∧ Q d S' := by
  intro Q z G H S rl h
  simp only [mkF, ownk_is] at h
  split at h
  · rename_i c fs e
    obtain ⟨G', s1, r1⟩ := frz_ins rl e
    exact ⟨G', _, _, s1, r1, h⟩
  · exact h.elim
theorem make_sp {fin : DQ → Addr → Sto → Prop} {c : Nat} (hfin : ∀ (Q : DQ) (z : Addr) (G H : Hp) (S : Sto), Rel K G H S → fin Q z S → ∃ G' S' d, Stp K G H S G' H S' ∧ Rp K G' (.ref z) d ∧ Q d S') (hdd : ∀ G, Rps K G dvs dds) {σ : L2.St} {Q : VK} {QD : DQ} {XD : XQ} {vs : List V} {ds : List D}
    (rl : Rel K G H S) (rs : Rps K G vs ds) (h : ∀ z, S z = none → R (.adr z :: (ds ++ dds)) (su S z (.ins c [])) (fun d S2 => d = .non ∧ fin QD z S2) (fun e S2 => XD e (sd S2 z)))
    (kq : ∀ G' H' S' v d, Stp K G H S G' H' S' → Rp K G' v d → QD d S' → Q v H') (kx : KX K W σ G H S XD) :
    ∀ z dx, H z = none → H dx = none → dx ≠ z → toSp K R (.ref z :: (vs ++ dvs)) (upd (upd H dx (.own z)) z (.ins (cad K c) dx [])) (fun v H2 => v = .non ∧ Q (.ref z) H2) (WE W σ) := by
  intro z dx hz hdx hne
  have s1 : Stp K G H S G (upd H dx (.own z)) S := Stp.newH rl hdx
  have hz1 : upd H dx (.own z) z = none := by rw [upd_ne (Ne.symm hne)]; exact hz
  have s2 : Stp K G (upd H dx (.own z)) S G (upd (upd H dx (.own z)) z (.ins (cad K c) dx [])) (su S z (.ins c [])) := Stp.newO s1.rel hz1 ⟨dx, [], by rw [List.zip_nil_right], .nil, Nat.zero_le _⟩
  have s12 := s1.trans s2
  refine ⟨G, su S z (.ins c []), _, _, _, s2.rel, .cons (.adr z) (rs.append (hdd G)), h z (rl.free hz).2, fun G3 H3 S3 v d s3 rv q => ?_, fun G3 H3 S3 cls d x s3 r q => ?_⟩
  · obtain ⟨e, q⟩ := q
    subst e
    cases rv
    refine ⟨rfl, ?_⟩
    obtain ⟨G4, S4, d4, s4, r4, q4⟩ := hfin QD z G3 H3 S3 s3.rel q
    exact kq _ _ _ _ _ ((s12.trans s3).trans s4) r4 q4
  · exact kx _ _ _ _ _ _ ((s12.trans s3).trans (Stp.drop s3.rel)) r q
theorem de_make {fin : DQ → Addr → Sto → Prop} {c : Nat} (hfin : ∀ (Q : DQ) (z : Addr) (G H : Hp) (S : Sto), Rel X.K G H S → fin Q z S → ∃ G' S' d, Stp X.K G H S G' H S' ∧ Rp X.K G' (.ref z) d ∧ Q d S') (M : Mk X.K (cad X.K c) f) (F : FnOk X.prog X.w X.K X.mg X.base (L2N.CX X.prog X.w) k f fd ps (toSp X.K R)) (hr : Room (k + 1) X.A) (hg : Gl X x) (hm : X.mg x = some (.ref (cad X.K c))) (hb : Binds X.K fd ps ds) (hd : Vals dvs ds) (hdd : ∀ G, Rps X.K G dvs dds)
    (ha : PDA X (e :: es) t) (hdb : (x == ("__debug__" : Str)) = false := by decide) (he : starEach (e :: es) X.env = (false, eval e X.env) :: starEach es X.env := by rfl) (hpl : (backTo pos (starEach es X.env)).any (·.1) = false := by rfl) :
    PD X (.Call (.Name x p) (e :: es) [] pos) (dMake fin c R dds t) := ⟨fun W tk => ⟨fun pins s σ H Q I h => by
  obtain ⟨G, δ, S, QD, XD, re, rl, h, kq, kx⟩ := h
  apply wpAny_Call_Name_kw
  apply ld_glob I hg hm (hd := hdb)
  refine PySem.W.callWith_K (h₀ := X.base) I.ok.mod.kin M.kp ?_ he hpl
  apply thn ((ha.run W tk).run pos pins s σ H (fun vs H1 => ∀ z dx, H1 z = none → H1 dx = none → dx ≠ z → toSp X.K R (.ref z :: (vs ++ dvs)) (upd (upd H1 dx (.own z)) z (.ins (cad X.K c) dx [])) (fun v H2 => v = .non ∧ Q (.ref z) H2) (WE W σ)) I ⟨G, δ, S, _, XD, re, rl, h, fun G1 H1 S1 vs ds s1 rs q => make_sp hfin hdd s1.rel rs q (fun G2 H2 S2 v d s2 rv q2 => kq _ _ _ _ _ (s1.trans s2) rv q2) (kx.step s1), kx⟩)
  rintro us s1 ⟨vs, H1, I1, r, q⟩
  exact ⟨I1.kIn, run_makeD M F hr hb hd tk I1 r q⟩⟩⟩
def tagOf : D → Nat
  | .non => 100 | .bl _ => 101 | .int _ => 102 | .str _ => 103 | .tup _ => 104 | .lst _ => 105
  | .ins c _ => (match Nat.blt c 100 with
    | true => c
    | false => 107)
  | _ => 107
def selB : List (Nat × Bool) → Nat → Option Bool
  | [], _ => none
  | (c, b) :: r, d => match Nat.beq c d with
    | true => some b
    | false => selB r d
theorem cls_of {K : PySem.W.Frag} {c : Nat} (h : clsB K c = true) : Cls K (cad K c) := by
  simp only [clsB, Bool.and_eq_true] at h
  obtain ⟨h1, h2, h3, h4, _⟩ := h
  exact ⟨h1, h2, h3, He.eqO_ok h4⟩
theorem isiB_sel {u : Value} : ∀ {tbl : List (Nat × Bool)} {c : Nat} {b : Bool}, isiB K u tbl = true → selB tbl c = some b → PySem.W.kitOne K (tagV K c) u = some b ∧ (100 ≤ c ∨ clsB K c = true)
  | [], _, _, _, h => by cases h
  | (c', b') :: r, c, b, h, e => by
    simp only [isiB, List.all_cons, Bool.and_eq_true, Bool.or_eq_true, decide_eq_true_eq] at h
    unfold selB at e
    split at e
    · rename_i q
      have : c' = c := Nat.eq_of_beq_eq_true q
      subst this
      cases e
      exact ⟨h.1.1, h.1.2⟩
    · exact isiB_sel (tbl := r) (by simpa only [isiB, Bool.and_eq_true, Bool.or_eq_true, List.all_eq_true, decide_eq_true_eq] using h.2) e
theorem tagV_own {c : Nat} (h : c < 100) : tagV K c = .ref (cad K c) := by
  unfold tagV
  split <;> first | omega | rfl
theorem ty_of (rl : Rel K G H S) {v : V} {d : D} (r : Rp K G v d) (hc : 100 ≤ tagOf (vw S d) ∨ clsB K (tagOf (vw S d)) = true) (hn : tagOf (vw S d) ≠ 107) : TyX K H v (tagV K (tagOf (vw S d))) := by
  cases e : vw S d with
  | non => rw [(vw_scal r).2.2.2.1 e]; exact .base .non
  | bl z => rw [(vw_scal r).1 _ e]; exact .base (.bl _)
  | int z => rw [(vw_scal r).2.1 _ e]; exact .base (.int _)
  | str z => rw [((vw_scal r).2.2.1 _ e).1]; exact .base (.str _)
  | tup z => obtain ⟨q, vs, rfl, _, hq, _⟩ := vw_tup rl r e; exact .base (.tup hq)
  | lst z => obtain ⟨q, vs, rfl, hq, _⟩ := vw_lst rl r e; exact .base (.lst hq)
  | ins c fs =>
    obtain ⟨q, dx, vs, rfl, hq, _⟩ := vw_ins rl r e
    rw [e] at hc hn
    simp only [tagOf] at hc hn ⊢
    cases hb : Nat.blt c 100 with
    | false => rw [hb] at hn; exact absurd rfl hn
    | true =>
      rw [hb] at hc
      have hlt : c < 100 := Nat.lt_of_succ_le (by simpa [Nat.blt] using hb)
      simp only at hc ⊢
      rw [tagV_own hlt]
      have hk : clsB K c = true := hc.resolve_left (by omega)
      have cl := cls_of hk
      simp only [clsB, Bool.and_eq_true, decide_eq_true_eq] at hk
      obtain ⟨_, _, _, _, h5, h6, h7, h8⟩ := hk
      exact .base (.ins hq cl (He.eqO_ok h5) (He.eqO_ok h6) h7 h8)
  | _ => rw [e] at hn; exact absurd rfl hn
def isiD (tbl : List (Nat × Bool)) : D → Sto → DQ → Prop := fun x S Q => vwk S x fun x' => match selB tbl (tagOf x') with
  | some b => Q (.bl b) S
  | none => False
theorem sim_isi {tbl : List (Nat × Bool)} {u : Value} {cv : V} (hcv : ClsV cv u) (hb : isiB K u tbl = true) (h7 : selB tbl 107 = none) {x : V} {dx : D} {QD : DQ} {Q : VK} (rl : Rel K G H S) (rx : Rp K G x dx) (h : isiD tbl dx S QD) (kq : ∀ G' H' S' v d, Stp K G H S G' H' S' → Rp K G' v d → QD d S' → Q v H') :
    rIsi K [x, cv] H Q := by
  simp only [isiD, vwk_is] at h
  split at h
  · rename_i b eb
    obtain ⟨h1, h2⟩ := isiB_sel hb eb
    exact ⟨x, cv, _, u, b, rfl, hcv, ty_of rl rx h2 (fun z => by rw [z, h7] at eb; cases eb), h1, kq _ _ _ _ _ (Stp.refl rl) (.bl b) h⟩
  · exact h.elim
theorem de_isi {tbl : List (Nat × Bool)} {u : Value} {cv : V} {ce : Expr} (hg : Gl X "isinstance") (hm : X.mg "isinstance" = none) (hcv : ClsV cv u) (hce : PE X ce (tC cv)) (hb : isiB X.K u tbl = true) (h7 : selB tbl 107 = none) (ha : PD X a te)
    (h1 : starEach (a :: [ce]) X.env = (false, eval a X.env) :: starEach [ce] X.env := by rfl) (h2 : starEach (ce :: []) X.env = (false, eval ce X.env) :: starEach [] X.env := by rfl) (h3 : (backTo pos (starEach [ce] X.env)).any (·.1) = false := by rfl) :
    PD X (.Call (.Name "isinstance" p) [a, ce] [] pos) (dUn (isiD tbl) te) := ⟨fun W tk => PE.weak (pe_callB call_isi hg hm (by decide +kernel) (pa_cons (ha.run W tk) (pa_cons hce pa_nil h2) h1) (he := h1) (hpl := h3)) (by
  rintro σ H Q ⟨G, δ, S, QD, XD, re, rl, h, kq, kx⟩
  exact ⟨G, δ, S, _, XD, re, rl, h, fun G1 H1 S1 v d s1 rv q => sim_isi hcv hb h7 s1.rel rv q (fun G2 H2 S2 v d s2 r q => kq _ _ _ _ _ (s1.trans s2) r q), kx⟩)⟩
end
end SM
namespace SM
open PySem PySem.Spec PyProof.Rows L2
open PySem.W (EachIs AllAlike Sortable dataLe)
variable {K : PySem.W.Frag} {G G' G2 H H' H2 G0 H0 : Hp} {S S' S2 S0 : Sto}
theorem rps_pairs : ∀ {l : List (V × D)}, (∀ z ∈ l, Rp K G z.1 z.2) → Rps K G (l.map (·.1)) (l.map (·.2))
  | [], _ => .nil
  | z :: r, h => .cons (h z (List.mem_cons_self ..)) (rps_pairs fun y hy => h y (List.mem_cons_of_mem _ hy))
theorem rps_zip : ∀ {vs : List V} {ds : List D}, Rps K G vs ds → (∀ z ∈ vs.zip ds, Rp K G z.1 z.2) ∧ (vs.zip ds).map (·.1) = vs ∧ (vs.zip ds).map (·.2) = ds
  | _, _, .nil => ⟨(fun _ h => nomatch h), rfl, rfl⟩
  | _, _, .cons r q => by
    obtain ⟨h1, h2, h3⟩ := rps_zip q
    refine ⟨fun z hz => ?_, by rw [List.zip_cons_cons, List.map_cons, h2], by rw [List.zip_cons_cons, List.map_cons, h3]⟩
    rcases List.mem_cons.mp hz with rfl | hm
    · exact r
    · exact h1 z hm
theorem each_of {F : Value → V × D → Prop} : ∀ {l : List (V × D)} {us : List Value}, Vals (l.map (·.1)) us → (∀ z ∈ l, ∀ u, RelV z.1 u → F u z) → EachIs F us l
  | [], _, .nil, _ => .nil
  | z :: r, _, .cons a b, h => .cons (h z (List.mem_cons_self ..) _ a) (each_of b fun y hy => h y (List.mem_cons_of_mem _ hy))
theorem vals_each : ∀ {l : List (V × D)} {us : List Value}, EachIs (fun u z => RelV z.1 u) us l → Vals (l.map (·.1)) us
  | _, _, .nil => .nil
  | _, _, .cons a b => .cons a (vals_each b)
theorem plns_mem {n : Nat} {l : List D} (h : plns n l = true) {d : D} (hd : d ∈ l) : pln n d = true := by
  rw [plns_all, List.all_eq_true] at h
  exact h d hd
def srtOk (l : List D) : Prop := plns 8 l = true ∧ AllAlike (l.map toP) ∧ Sortable (l.map toP)
def sortD (d : D) (S : Sto) (Q : DQ) : Prop := vwk S d fun d' => match d' with
  | .lst l => srtOk l ∧ Q (.lst (sorted l)) S
  | _ => False
section
variable {X : Cx} {k : Nat}
theorem c_sorted (hr : Room k X.A) : CallR X (.builtin "sorted") (liftC X.K (on1 sortD)) := by
  intro pins s σ H vs us Q I r h
  obtain ⟨G, S, ds, QD, rl, rs, h, kq⟩ := h
  obtain ⟨d, v, rfl, rfl, rx, h⟩ := on1_of h rs
  simp only [sortD, vwk_is] at h
  split at h
  · rename_i l ex
    obtain ⟨⟨hp, hal, hk⟩, h⟩ := h
    obtain ⟨a, xs, rfl, ha, rv, lv⟩ := vw_lst rl rx ex
    obtain ⟨u, rfl, ru⟩ := vals1 r
    obtain rfl : u = Value.ref a := ru
    obtain ⟨its, rI, hl, hz⟩ := I.list (SqL.of ha)
    obtain ⟨z1, z2, z3⟩ := rps_zip rv
    have em : (xs.zip l).map (fun c => toP c.2) = l.map toP := by rw [← z3, List.map_map]; simp only [z3]; rfl
    have ev : Vals ((xs.zip l).map (·.1)) its := by rw [z2]; exact rI
    have un := hr.un
    refine PySem.W.sorted_data (R := fun u c => RelV c.1 u) (enc := fun c => toP c.2) (bs := xs.zip l) hl.isList (each_of ev fun z _ u ru => ru) (each_of ev fun z hz u ru => ?_) (by rw [em]; exact hal) (by rw [em]; exact hk) ?_ (fun b hb => ?_) (fun out hlen eo => ?_)
    · have hm : z.2 ∈ l := by rw [← z3]; exact List.mem_map_of_mem hz
      exact Dp.reads I _ z.1 u (dp_of rl 8 _ _ (z1 z hz) (plns_mem hp hm)).1 ru
    · have : (xs.zip l).length = l.length := by rw [List.length_zip, rv.length, Nat.min_self]
      rw [this]; exact lv
    · have hm : b.2 ∈ l := by rw [← z3]; exact List.mem_map_of_mem hb
      have := (dp_of rl 8 _ _ (z1 b hb) (plns_mem hp hm)).2.2
      omega
    · have vo := vals_each eo
      have hf : H (s.heap.objs.size + 1) = none := I.hok.fresh (Nat.le_succ _)
      have es : ((xs.zip l).mergeSort (dataLe false fun c => toP c.2)).map (·.2) = sorted l := by
        have := PySem.W.sort_maps (r := dataLe false fun c : V × D => toP c.2) (s := dataLe false toP) (fun c : V × D => c.2) (l := xs.zip l) (fun _ _ _ _ => rfl)
        rw [this, z3]; rfl
      have rsort : Rps X.K G (((xs.zip l).mergeSort (dataLe false fun c => toP c.2)).map (·.1)) (sorted l) := by
        rw [← es]
        exact rps_pairs fun z hz => z1 z ((List.mergeSort_perm ..).mem_iff.mp hz)
      have ls : (sorted l).length = l.length := (List.mergeSort_perm ..).length_eq
      obtain ⟨e, he⟩ := sortedAll_at s.heap its (List.toArray out)
      obtain ⟨s1, r1⟩ := fz_lst rl hf rsort (by rw [ls]; exact lv)
      refine ⟨.ref (s.heap.objs.size + 1), _, I.laid (t' := s.toks) (fun b o hb => sortedAll_old hb) (Nat.le_succ _) ?_, rfl, kq _ _ _ _ _ s1 r1 h⟩
      exact ⟨by rw [rsort.length, ls]; exact lv, out, e, vo, he⟩
  · exact h.elim
end
end SM
namespace SM
open PySem PySem.Spec PyProof.Rows L2
section
variable {X : Cx}
end
variable {K : PySem.W.Frag} {G G' G2 H H' H2 G0 H0 : Hp} {S S' S2 S0 : Sto}
theorem rkv_any : ∀ {ws : List (List Key × V)} {kvs : List (List Key × D)} (k : List Key), Rkv K G ws kvs → (ws.any fun p => decide (p.1 = k)) = (kvs.any fun p => decide (p.1 = k))
  | _, _, k, .nil => rfl
  | _, _, k, .cons r q => by rw [List.any_cons, List.any_cons, rkv_any k q]
theorem rkv_repl {v : V} {d : D} (rv : Rp K G v d) : ∀ {ws : List (List Key × V)} {kvs : List (List Key × D)} (k : List Key), Rkv K G ws kvs → Rkv K G (ws.map fun p => if p.1 = k then (p.1, v) else p) (kvs.map fun p => if p.1 = k then (p.1, d) else p)
  | _, _, k, .nil => .nil
  | _, _, k, @Rkv.cons _ _ k0 _ _ _ _ r q => by
    rw [List.map_cons, List.map_cons]
    by_cases e : k0 = k
    · simp only [e, if_true]; exact .cons rv (rkv_repl rv k q)
    · simp only [e, if_false]; exact .cons r (rkv_repl rv k q)
theorem rkv_snoc {k : List Key} {v : V} {d : D} (rv : Rp K G v d) : ∀ {ws : List (List Key × V)} {kvs : List (List Key × D)}, Rkv K G ws kvs → Rkv K G (ws ++ [(k, v)]) (kvs ++ [(k, d)])
  | _, _, .nil => .cons rv .nil
  | _, _, .cons r q => .cons r (rkv_snoc rv q)
theorem rkv_put {ws : List (List Key × V)} {kvs : List (List Key × D)} {v : V} {d : D} (k : List Key) (r : Rkv K G ws kvs) (rv : Rp K G v d) : Rkv K G (putK ws k v) (putD kvs k d) := by
  unfold putK putD
  rw [rkv_any k r]
  split
  · exact rkv_repl rv k r
  · exact rkv_snoc rv r
theorem rkv_len : ∀ {ws : List (List Key × V)} {kvs : List (List Key × D)}, Rkv K G ws kvs → ws.length = kvs.length
  | _, _, .nil => rfl
  | _, _, .cons r q => by rw [List.length_cons, List.length_cons, rkv_len q]
theorem DcI.step {A : Addr} {acc : List (List Key × D)} (I : DcI K G0 H0 S0 A G H S acc) (s : Stp K G H S G' H' S') : DcI K G0 H0 S0 A G' H' S' acc := by
  obtain ⟨vs, e, r⟩ := I.ex
  obtain ⟨e1, e2, e3⟩ := s.fr A _ e I.hg I.hs
  refine ⟨I.st.trans s, ⟨vs, e1, r.mono s.sg⟩, ?_, e2⟩
  rcases e3 with e3 | ⟨z, e3⟩
  · exact e3
  · cases e3
theorem DcI.more {A : Addr} {acc : List (List Key × D)} {us : List (List Key × V)} {v : V} {d : D} {k : List Key} (I : DcI K G0 H0 S0 A G H S acc) (h0 : H0 A = none) (r : Rp K G v d) (hu : H A = some (.dT us)) : DcI K G0 H0 S0 A G (upd H A (.dT (putK us k v))) S (putD acc k d) := by
  obtain ⟨ws, e, rs⟩ := I.ex
  rw [hu] at e
  cases e
  exact ⟨I.st.mutH h0 I.hg I.hs, ⟨_, upd_same, rkv_put k rs r⟩, I.hg, I.hs⟩
section
variable {X : Cx} {W : WX} {k : Nat}
end
end SM
namespace SM
open PySem PySem.Spec PyProof.Rows L2
open PySem.W (EachIs AllAlike Sortable dataLe KeyPure)
section
variable {prog : Program} {w : World} {A : Around} {E : Value → Shared → Prop} {s : Shared} {env : Env} {c : Str}
theorem raw_item {b : Addr} {its : Array Value} {i : Int} {j : Nat} {u : Value} {q1 q2 q3 : Pos} {k : Nat} {m : Str → Option Value} {Q : Value → Shared → Prop} (hk : env.scope.kind = .function) (hl : env.kindOf c = some .local) (hn : s.heap.Ns env.locals m) (hv : m c = some (.ref b)) (ht : IsTup s.heap b its)
    (hj : seqIndex? i its.size = some j) (hx : its[j]? = some u) (h0 : -(2 ^ 63) ≤ i) (h1 : i < 2 ^ 63) (hd : (c == ("__debug__" : Str)) = false) (h : Q u { s with toks := s.toks + 1 }) :
    wpAny (model prog w) A (eval (.Subscript (.Name c q1) (.Constant (.int i) k q2) q3) env) Q E s := by
  refine wpAny_Subscript_Constant_late (wpAny_Name (wpAny_loadName_local hk hl hn hv ?_) hd)
  refine wpAny_Constant_int ?_
  exact ⟨"tuple", _, slot_tuple_getitem.lookup, ht.typeIs, getItem_tuple (s := { s with toks := s.toks + 1 }) ht h0 h1 hj hx h⟩
theorem bindL_one {kd : Str → Option NameKind} {v : Value} (h : kd c = some .local) : bindL kd [(c, v)] (fun _ => none) c = some v := by
  show (if kd c = some .local then fun y => if y = c then some v else none else fun _ => none) c = some v
  rw [if_pos h, if_pos rfl]
theorem ro_call {K : PySem.W.Frag} {f b : Addr} {name qual : Str} {params : Arguments} {scope : Scope} {dV kV doc pm cdv ct oc : Value} {an od : Option Addr} {osl : Array (Option Value)} {q1 q2 q3 q4 q5 q6 q7 q8 : Pos} {k1 k2 k3 : Nat} {x y : Int} {t u : Tok}
    (lk : K.lookup f = some ⟨oc, od, .func (PySem.W.fnOf name qual params (roB c q1 q2 q3 q4 q5 q6 q7 q8 k1 k2 k3) scope dV kV doc pm an cdv ct), osl⟩) (hcd : PySem.W.codeIn K cdv qual = true) (KX : K.In s.heap) (lim : s.heap.NoLimit) (hk : scope.kind = .function) (hco : scope.isCoroutine = false) (hge : scope.isGenerator = false) (hloc : scope.names.lookup c = some .local) (hdep : A.depth < recursionLimit)
    (hb : bindArgs (PySem.W.fnOf name qual params (roB c q1 q2 q3 q4 q5 q6 q7 q8 k1 k2 k3) scope dV kV doc pm an cdv ct) ⟨[.ref b], []⟩ = pure [(c, .ref b)]) (hd : (c == ("__debug__" : Str)) = false) (ht : IsTup s.heap b #[.int x t, .int y u]) :
    wpAny (model prog w) A (call (.ref f) [.ref b]) (KeyPure (.tuple [.int y, .int x]) s) E s := by
  refine wpAny_call (codeAny_call_function hdep (KX _ _ lk) rfl hco hge rfl (PySem.W.codeRec_of KX hcd) ?_)
  rw [hb]
  refine wpAny_pure ?_
  refine wpAny_newFunctionEnv_cells hk (fun z hz => ?_) fun env he s1 z => ?_
  · rcases List.mem_cons.mp hz with rfl | h
    · exact .inl hloc
    · cases h
  subst he
  refine ⟨lim.keeps z.toInCall.keep, codeAny_func ?_⟩
  obtain ⟨h', tk, e1⟩ := z.toInCall.same
  have kp := z.toInCall.keep
  have ns := z.toInCall.ns
  subst e1
  have ht1 : IsTup h' b #[.int x t, .int y u] := by
    obtain ⟨o, a1, a2⟩ := ht
    exact ⟨o, kp _ _ a1, a2⟩
  refine wpAny_execs_cons (wpAny_Return_some (wpAny_Tuple (wpAny_items_cons ?_)))
  refine raw_item (j := 1) (u := .int y u) hk hloc ns (bindL_one hloc) ht1 rfl rfl (by decide) (by decide) hd (wpAny_items_cons ?_)
  refine raw_item (j := 0) (u := .int x t) hk hloc ns (bindL_one hloc) ht1 rfl rfl (by decide) (by decide) hd (wpAny_items_nil ⟨(show 2 ≤ sizeLine by decide), ?_⟩)
  exact ⟨_, _, rfl, fun b o e => Heap.get?_push_of_some _ (kp b o e), .tuple (as := []) (Heap.get?_push_size _ rfl) rfl rfl (.cons (as := []) (bs := []) (.int y u) (.cons (as := []) (bs := []) (.int x t) .nil))⟩
end
def pr (c : Int × Int) : D := .tup [.int c.1, .int c.2]
def roK (c : Int × Int) : PyData := .tuple [.int c.2, .int c.1]
def roSort (l : List (Int × Int)) : List (Int × Int) := l.mergeSort fun p q => decide (p.2 < q.2 ∨ (p.2 = q.2 ∧ p.1 ≤ q.1))
variable {K : PySem.W.Frag} {G G' G2 H H' H2 G0 H0 : Hp} {S S' S2 S0 : Sto}
theorem pr_tup {P : Program} {w : World} {h : Heap} (rl : Rel K G H S) (ok : HOk P w H h) {v : V} {u : Value} {c : Int × Int} (r : Rp K G v (pr c)) (ru : RelV v u) : ∃ b t t', u = .ref b ∧ IsTup h b #[.int c.1 t, .int c.2 t'] := by
  unfold pr at r
  cases r with
  | @tup a vs _ hg rs l =>
    cases rs with
    | cons r1 rs =>
      cases rs with
      | cons r2 rs =>
        cases rs
        cases r1
        cases r2
        obtain rfl : u = Value.ref a := ru
        have hh : H a = some (.tup [.int c.1, .int c.2]) := rl.at hg rfl
        obtain ⟨_, its, rv, it⟩ := (show ObjOk P w H h a (.tup [.int c.1, .int c.2]) from ok a _ hh)
        cases rv with
        | cons ra rv =>
          cases rv with
          | cons rb rv =>
            cases rv
            obtain ⟨t, rfl⟩ := ra
            obtain ⟨t', rfl⟩ := rb
            exact ⟨a, t, t', rfl, it⟩
def dSortRo (t : DTE) : DTE := fun δ S Q X => t δ S (fun d S1 => vwk S1 d fun d' => match d' with
  | .lst l => ∃ cs, l = cs.map pr ∧ Q (.lst ((roSort cs).map pr)) S1
  | _ => False) X
section
variable {X : Cx} {k : Nat}
def rRo (K : PySem.W.Frag) (f : Addr) (vs zs : List V) (H : Hp) (Q : VK) : Prop := ∃ (G : Hp) (S : Sto) (v : V) (d : D) (l : List D) (cs : List (Int × Int)) (QD : DQ), vs = [v] ∧ zs = [.ref f] ∧ Rel K G H S ∧ Rp K G v d ∧ vw S d = .lst l ∧ l = cs.map pr ∧ QD (.lst ((roSort cs).map pr)) S ∧ ∀ G' H' S' v d, Stp K G H S G' H' S' → Rp K G' v d → QD d S' → Q v H'
theorem vals_eachG {α : Type} : ∀ {l : List (V × α)} {us : List Value}, Vals (l.map (·.1)) us → EachIs (fun u z => RelV z.1 u) us l
  | [], _, .nil => .nil
  | _ :: _, _, .cons a b => .cons a (vals_eachG b)
theorem each_valsG {α : Type} : ∀ {l : List (V × α)} {us : List Value}, EachIs (fun u z => RelV z.1 u) us l → Vals (l.map (·.1)) us
  | _, _, .nil => .nil
  | _, _, .cons a b => .cons a (each_valsG b)
theorem c_ro {f : Addr} (hr : Room k X.A) (F : RoF X.K f) : CallRK X (.builtin "sorted") [Str.ofString "key"] (rRo X.K f) := by
  intro pins s σ H vs zs us ws Q I r r2 h
  obtain ⟨G, S, v, d, l, cs, QD, rfl, rfl, rl, rx, ex, el, h, kq⟩ := h
  obtain ⟨a, xs, rfl, ha, rv, lv⟩ := vw_lst rl rx ex
  obtain ⟨u, rfl, ru⟩ := vals1 r
  obtain ⟨u2, rfl, ru2⟩ := vals1 r2
  obtain rfl : u = Value.ref a := ru
  obtain rfl : u2 = Value.ref f := ru2
  obtain ⟨its, rI, hl, hz⟩ := I.list (SqL.of ha)
  subst el
  have hlen : xs.length = cs.length := by rw [rv.length, List.length_map]
  obtain ⟨z1, z2, z3⟩ := rps_zip rv
  have un := hr.un
  have dp := hr.dp
  have ez : (xs.zip cs).map (fun z => (z.1, pr z.2)) = xs.zip (cs.map pr) := by
    rw [List.zip_map_right]; rfl
  have rz : ∀ z ∈ xs.zip cs, Rp X.K G z.1 (pr z.2) := fun z hz => z1 (z.1, pr z.2) (by rw [← ez]; exact List.mem_map_of_mem (f := fun z : V × (Int × Int) => (z.1, pr z.2)) hz)
  have em : (xs.zip cs).map (·.1) = xs := by
    have := congrArg (List.map Prod.fst) ez
    rw [z2, List.map_map] at this
    exact this
  have em2 : (xs.zip cs).map (·.2) = cs := List.map_snd_zip (by omega)
  have each : EachIs (fun u z => RelV z.1 u) its (xs.zip cs) := vals_eachG (by rw [em]; exact rI)
  obtain ⟨oc, od, name, qual, params, scope, dV, kV, doc, pm, cdv, ct, an, osl, c, q1, q2, q3, q4, q5, q6, q7, q8, k1, k2, k3, lk, hcd, hk, hco, hge, hloc, hb, hdbg⟩ := F.ex
  have e0 := I.env0
  refine PySem.W.sorted_key_data (b := false) (R := fun u z => RelV z.1 u) (bs := xs.zip cs) (fun z => roK z.2) hl.isList each (AllAlike.of fun _ _ => by simp [PySem.W.alike, PySem.W.alikeAll, roK]) (Sortable.tuples fun _ => ⟨_, _, rfl⟩) ?_ (fun z hz => ?_) (ksk_s1 _ _) (fun _ => ksk_l1 _ _) (fun _ => ksk_t1 _ _)
    (fun u z ru hz h tk kp => ?_) (fun out cc h' tk kp fr hD hlo eo => ?_)
  · rw [List.length_zip, hlen, Nat.min_self]
    rw [List.length_map] at lv
    exact lv
  · have hd : (roK z.2).depth = 1 := by simp [roK, PyData.depth, PyData.depthAll]
    omega
  · obtain ⟨b, t, t', rfl, it⟩ := pr_tup rl I.hok (rz z hz) ru
    have KX : X.K.In h := I.kIn.keeps kp
    have lim : h.NoLimit := (e0.mod.nolimit.keeps fun b o e => (e0.bs b o e).1).keeps kp
    refine ro_call (t := t) (u := t') lk hcd KX lim hk hco hge hloc ?_ (hb b) hdbg ?_
    · show X.A.depth < recursionLimit
      omega
    · obtain ⟨o, a1, a2⟩ := it
      exact ⟨o, kp _ _ a1, a2⟩
  · have vo : Vals (((xs.zip cs).mergeSort (dataLe false fun z => roK z.2)).map (·.1)) out := each_valsG eo
    have es : ((xs.zip cs).mergeSort (dataLe false fun z => roK z.2)).map (·.2) = roSort cs := by
      have := PySem.W.sort_maps (r := dataLe false fun z : V × (Int × Int) => roK z.2) (s := dataLe false roK) (fun z : V × (Int × Int) => z.2) (l := xs.zip cs) (fun _ _ _ _ => rfl)
      rw [this, em2, roSort]
      exact congrArg (cs.mergeSort ·) (PySem.W.dataLe_ii (β := Int × Int) (fun p => p.2) (fun p => p.1))
    have hf : H (s.heap.objs.size + 1) = none := I.hok.fresh (Nat.le_succ _)
    have rsort : Rps X.K G (((xs.zip cs).mergeSort (dataLe false fun z => roK z.2)).map (·.1)) ((roSort cs).map pr) := by
      rw [← es, List.map_map]
      have := rps_pairs (K := X.K) (G := G) (l := ((xs.zip cs).mergeSort (dataLe false fun z => roK z.2)).map fun z => (z.1, pr z.2)) (fun z hz => by
        obtain ⟨y, hy, rfl⟩ := List.mem_map.mp hz
        exact rz y ((List.mergeSort_perm ..).mem_iff.mp hy))
      rw [List.map_map, List.map_map] at this
      exact this
    have ls : ((roSort cs).map pr).length ≤ sizeLine := by
      rw [List.length_map] at lv ⊢
      unfold roSort
      rw [(List.mergeSort_perm ..).length_eq]
      exact lv
    obtain ⟨s1, r1⟩ := fz_lst rl hf rsort ls
    refine ⟨.ref (s.heap.objs.size + 1), _, I.laid (t' := tk) kp (Nat.le_succ _) ?_, rfl, kq _ _ _ _ _ s1 r1 h⟩
    exact ⟨by rw [rsort.length]; exact ls, out, cc, vo, hD⟩
theorem de_sortRo {f : Addr} {x y : Str} {p p2 kp pos : Pos} {e : Expr} {t : DTE} (hr : Room k X.A) (F : RoF X.K f) (ha : PD X e t) (hgf : Gl X y) (hmf : X.mg y = some (.ref f)) (hg : Gl X x) (hm : X.mg x = none) (hv : bootBuiltins x = some (.builtin "sorted")) (hn : x ≠ "__name__" := by decide) (hdb : (x == ("__debug__" : Str)) = false := by decide) (hdy : (y == ("__debug__" : Str)) = false := by decide)
    (hse : starEach [e] X.env = (false, eval e X.env) :: starEach [] X.env := by rfl) (he : backTo pos (starEach [e] X.env) = (false, eval e X.env) :: backTo pos (starEach [] X.env) := by rfl) (hpl : (backTo pos (starEach [e] X.env)).any (·.1) = false := by rfl) : PD X (.Call (.Name x p) [e] [⟨some (Str.ofString "key"), .Name y p2, kp⟩] pos) (dSortRo t) := ⟨fun W tk =>
  PE.weak (pe_callBK (c_ro hr F) hg hm hv (pa_cons (ha.run W tk) pa_nil hse) (pk_cons (pe_glob (v := .ref f) hgf hmf rfl hdy) pk_nil) hn hdb he hpl) (by
    rintro σ H Q ⟨G, δ, S, QD, XD, re, rl, h, kq, kx⟩
    refine ⟨G, δ, S, _, XD, re, rl, h, fun G1 H1 S1 v d s1 rv q => ?_, kx⟩
    simp only [vwk_is] at q
    split at q
    · rename_i l ex
      obtain ⟨cs, el, q⟩ := q
      exact ⟨G1, S1, v, d, l, cs, QD, rfl, rfl, s1.rel, rv, ex, el, q, fun G2 H2 S2 v d s2 r q => kq _ _ _ _ _ (s1.trans s2) r q⟩
    · exact q.elim)⟩
end
def kD : Key → D
  | .inl i => .int i
  | .inr s => .str s
def ksOk (ks : List Key) : Prop := ∀ s, Sum.inr s ∈ ks → okS s
theorem kD_rps : ∀ {ks : List Key}, ksOk ks → Rps K G (ks.map kV) (ks.map kD)
  | [], _ => .nil
  | .inl i :: r, h => .cons (.int i) (kD_rps fun s hs => h s (List.mem_cons_of_mem _ hs))
  | .inr z :: r, h => .cons (.str (h z (List.mem_cons_self ..))) (kD_rps fun s hs => h s (List.mem_cons_of_mem _ hs))
def keysD (kvs : List (List Key × D)) : List D := kvs.map fun p => .tup (p.1.map kD)
theorem keys_frz : ∀ {ws : List (List Key × V)} {kvs : List (List Key × D)} {bs : List Addr} {G G0 : Hp}, Rkv K G0 ws kvs → IsKeys H ws bs → (∀ p ∈ kvs, ksOk p.1 ∧ p.1.length ≤ sizeLine) → Rel K G H S → ∃ G', Stp K G H S G' H S ∧ Rps K G' (bs.map V.ref) (keysD kvs)
  | _, _, _, G, _, .nil, .nil, _, rl => ⟨G, Stp.refl rl, .nil⟩
  | _, _, _, G, _, .cons rv rr, .cons hb hr, hk, rl => by
    obtain ⟨G1, s1, e1⟩ := Stp.addT rl hb
    obtain ⟨G2, s2, r2⟩ := keys_frz rr hr (fun p hp => hk p (List.mem_cons_of_mem _ hp)) s1.rel
    obtain ⟨k1, k2⟩ := hk _ (List.mem_cons_self ..)
    exact ⟨G2, s1.trans s2, .cons (.tup (s2.sg _ _ e1) (kD_rps k1) (by rw [List.length_map]; exact k2)) r2⟩
def listKD (d : D) (S : Sto) (Q : DQ) : Prop := vwk S d fun d' => match d' with
  | .dT kvs => (∀ p ∈ kvs, ksOk p.1 ∧ p.1.length ≤ sizeLine) ∧ kvs.length ≤ sizeLine ∧ Q (.lst (keysD kvs)) S
  | _ => False
theorem c_listK {X : Cx} (hc : X.calm = true) : CallR X (.type "list") (liftC X.K (on1 listKD)) := CallR.weak (call_list_dT hc) (by
  rintro vs H Q ⟨G, S, ds, QD, rl, rs, h, kq⟩
  obtain ⟨d, v, rfl, rfl, rx, h⟩ := on1_of h rs
  simp only [listKD, vwk_is] at h
  split at h
  · rename_i kvs ex
    obtain ⟨h1, hl, h⟩ := h
    obtain ⟨a, ws, rfl, hd, rk⟩ := vw_dT rl rx ex
    refine ⟨a, ws, rfl, hd, fun p bs hp ik => ?_⟩
    obtain ⟨G', s1, r1⟩ := keys_frz rk ik h1 rl
    obtain ⟨s2, r2⟩ := fz_lst s1.rel hp r1 (by rw [keysD, List.length_map]; exact hl)
    exact kq _ _ _ _ _ (s1.trans s2) r2 h
  · exact h.elim)
end SM
namespace SM
open PySem PySem.Spec PyProof.Rows L2
variable {K : PySem.W.Frag} {G G' G2 H H' H2 : Hp} {S S' S2 : Sto}
section
variable {P : Program} {w : World} {mg : Str → Option Value} {base : Heap}
end
section
variable {X : Cx} {e o : Expr} {es : List Expr} {pos p apos : Pos} {W : WX} {k : Nat} {x m : Str} {t : DTA} {g C : Addr} {R : DSp} {pins : List (Addr × Obj)} {σ : L2.St} {s : Shared} {H : Hp} {A : Around} {E : Value → Shared → Prop}
end
end SM
namespace SM
open PySem PySem.Spec PyProof.Rows L2
open PySem.W (Looks)
variable {K : PySem.W.Frag} {G G' G2 H H' H2 : Hp} {S S' S2 : Sto}
section
variable {X : Cx} {k : Nat} {c : Nat} {oth : List Nat} {f : Addr} {fd : FuncData} {ps : List Str} {R : DSp} {A : Around} {pins : List (Addr × Obj)} {σ : L2.St} {s : Shared}
end
end SM
namespace SM
open PySem PySem.Spec PyProof.Rows L2
open PySem.W (Frag)
abbrev Df.Is (K : Frag) (d : Df) : Prop := ∃ fd, FunD K d.name d.qual (defArgs d.st) (defBody d.st) (defScope d.st) (d.dvs K) (d.kws K) (d.ad K) fd
theorem Df.is {K : Frag} {d : Df} (e : d.ob K = d.val) (c : d.ok K = true) : d.Is K := by
  unfold Df.ok at c
  rw [Bool.and_eq_true] at c
  obtain ⟨kp, c2⟩ := c
  unfold Df.ob at e
  split at c2
  · rename_i oc od g osl lk
    rw [lk] at e
    simp only [Bool.and_eq_true] at c2
    obtain ⟨c3, c4, c5⟩ := c2
    obtain ⟨n1, n2, n3, n4, n5, n6, n7, n8, n9, n10, n11, n12, n13, n14, n15⟩ := g
    simp only [Df.val, Option.some.injEq, Prod.mk.injEq] at e
    obtain ⟨rfl, rfl, rfl, rfl, rfl, rfl, rfl, rfl⟩ := e
    exact ⟨_, ⟨oc, od, n8, n9, n10, n11, n12, n13, n14, osl, rfl, lk, c3, He.dflB_ok c4, He.kwdB_ok c5⟩, kp⟩
  · cases c2
def obC (ch : ChK) (fn : List Df) (K : Frag) : He.AlD := (ch.all (fun p => p K) && fn.all (fun d => d.ok K), fn.map fun d => d.ob K)
def vlC (fn : List Df) : He.AlD := (true, fn.map Df.val)
def Says (ch : ChK) (fn : List Df) (K : Frag) : Prop := obC ch fn K = vlC fn
theorem Says.fact {ch : ChK} {fn : List Df} {K : Frag} (c : Says ch fn K) (i : Nat) {p : Frag → Bool} (h : ch[i]? = some p := by rfl) : p K = true := by
  have c1 : (ch.all (fun p => p K) && fn.all (fun d => d.ok K)) = true := congrArg Prod.fst c
  rw [Bool.and_eq_true] at c1
  exact List.all_eq_true.mp c1.1 p (List.mem_of_getElem? h)
theorem Says.df {ch : ChK} {fn : List Df} {K : Frag} (c : Says ch fn K) (i : Nat) {d : Df} (h : fn[i]? = some d := by rfl) : d.Is K := by
  have c1 : (ch.all (fun p => p K) && fn.all (fun d => d.ok K)) = true := congrArg Prod.fst c
  have c2 : fn.map (fun d => d.ob K) = fn.map Df.val := congrArg Prod.snd c
  rw [Bool.and_eq_true] at c1
  have e2 : (fn.map fun d => d.ob K)[i]? = (fn.map Df.val)[i]? := by rw [c2]
  rw [List.getElem?_map, List.getElem?_map, h] at e2
  exact Df.is (Option.some.inj e2) (List.all_eq_true.mp c1.2 d (List.mem_of_getElem? h))
end SM
namespace SM
open PySem PySem.Spec PyProof.Rows L2
variable {K : PySem.W.Frag} {G G' G2 H H' H2 : Hp} {S S' S2 : Sto}
theorem Fz.sq {a : Addr} {xs : List V} (h : Fz K H a xs) : SqL K H a xs := by
  rcases h with ⟨o, h⟩ | h
  · exact .inl (.inr ⟨o, h⟩)
  · exact .inr h
theorem rps_ints : ∀ ns : List Int, Rps K G (ns.map V.int) (ns.map D.int)
  | [] => .nil
  | n :: r => .cons (.int n) (rps_ints r)
section
variable {P : Program} {w : World} {mg : Str → Option Value} {base : Heap}
theorem fnScr {x qual : Str} {params : Arguments} {body : List Stmt} {scope : Scope} {dvs : List V} {kws : List (Str × V)} {f : Addr} {fd : FuncData} {N ps : List Str} {k n : Nat} (F : FunD K x qual params body scope dvs kws f fd) (Sc : FnScope N ps scope) (R : Addr → List Int → DSp)
    (len : ∀ a ns ds S Q E, R a ns ds S Q E → ds.length = ps.length) (hps : ps.length ≤ N.length)
    (hb : ∀ (cdv : Value) (A : Around) (outer : List Env) (s : Shared) (H : Hp) (E : XK) (a : Addr) (ns : List Int), Room k (A.deeper (envOfC qual scope s.heap.objs.size f cdv)) → Fz K H a (ns.map V.int) → ns.length ≤ n → ∃ ts, PDSs (cxOf (L2N.CX P w) P w K mg base N qual scope f cdv A outer s H E) body ts ∧
      ∀ ds S QD XD, R a ns ds S QD XD → ts ⟨fun _ S' => QD .non S', QD, fun _ _ => False, fun _ _ => False, fun x _ S' => XD x S'⟩ (startD N ds) S) : FnOk P w K mg base (L2N.CX P w) (k + 1) f fd ps (spScr K n R) := by
  refine F.ok Sc (fun vs H Q E h => ?_) (fun cdv A outer s H vs Q E hr h => ?_)
  · obtain ⟨a, ns, _, _, _, G, S, ds, QD, XD, _, rs, h, _⟩ := h
    rw [rs.length]; exact len _ _ _ _ _ _ h
  · obtain ⟨a, ns, _, hz, hn, G, S, ds, QD, XD, rl, rs, h, kq, kx⟩ := h
    obtain ⟨ts, p, q⟩ := hb cdv A outer s H E a ns hr hz hn
    refine ⟨liftS K (fun cls d _ H => E cls d H) ts, p.run _ (L2N.takes_of rfl rfl rfl rfl) (passes_of rfl), ⟨G, startD N ds, S, _, startD_rpe rs (by rw [len _ _ _ _ _ _ h]; exact hps), rl, q ds S QD XD h, ?_⟩⟩
    exact ⟨fun G1 H1 S1 σ δ s1 _ q => kq _ _ _ _ _ s1 .non q, fun G1 H1 S1 v d s1 r q => kq _ _ _ _ _ s1 r q, fun _ _ _ _ _ _ _ q => q.elim, fun _ _ _ _ _ _ _ q => q.elim, fun G1 H1 S1 σ δ cls d x s1 _ r q => kx _ _ _ _ _ _ s1 r q⟩
end
section
variable {X : Cx} {e : Expr} {es : List Expr} {pos p p2 : Pos} {k n : Nat} {x : Str} {t : DTA} {f a : Addr} {fd : FuncData} {ps : List Str} {R : Addr → List Int → DSp} {ns : List Int}
def oScr (a : Addr) (ns : List Int) (d : D) (lo hi : Option Int) (S : Sto) (Q : DQ) : Prop := d = .adr a ∧ Q (.lst (cutD (ns.map D.int) lo hi)) S
theorem sl_scr {xs : List V} (hz : Fz X.K X.H_0 a xs) : SlR X (fun x lo hi H Q => x = .ref a ∧ ∀ z, H z = none → Q (.ref z) (upd H z (.lst (cutV xs lo hi)))) := by
  intro pins s σ H x v vl vu lo hi sl Q I rx hs pl pu h
  obtain ⟨rfl, q⟩ := h
  exact sl_list pins s σ H _ v vl vu lo hi sl Q I rx hs pl pu ⟨a, xs, rfl, (hz.inv I).sq, q⟩
theorem de_sliceScr {lo hi : Option Expr} {te : DTE} {tl th : DTO} (hz : Fz X.K X.H_0 a (ns.map V.int)) (hn : ns.length ≤ sizeLine) (he : PD X e te) (hl : PDO X lo tl) (hu : PDO X hi th) : PD X (.Subscript e (.Slice lo hi none p2) pos) (dSl (oScr a ns) te tl th) := ⟨fun W tk => PE.weak (pe_slice (sl_scr hz) (he.run W tk) (hl.run W tk) (hu.run W tk)) (by
  rintro σ H Q ⟨G, δ, S, QD, XD, re, rl, h, kq, kx⟩
  refine ⟨G, δ, S, _, XD, re, rl, h, fun G1 H1 S1 x d s1 rx q => ⟨G1, δ, S1, _, XD, re.mono s1.sg, s1.rel, q, fun G2 H2 S2 l s2 q2 => ⟨G2, δ, S2, _, XD, re.mono (s1.trans s2).sg, s2.rel, q2, fun G3 H3 S3 u s3 q3 => ?_, kx.step (s1.trans s2)⟩, kx.step s1⟩, kx⟩
  have s13 := (s1.trans s2).trans s3
  obtain ⟨rfl, q3⟩ := q3
  cases rx
  refine ⟨rfl, fun z hz => ?_⟩
  obtain ⟨s4, r4⟩ := fz_lst s3.rel hz (cut_rps (rps_ints ns) l u) (Nat.le_trans (cut_len _ _ _) (by rw [List.length_map]; exact hn))
  exact kq _ _ _ _ _ (s13.trans s4) r4 q3)⟩
theorem de_callScr (F : FnOk X.prog X.w X.K X.mg X.base (L2N.CX X.prog X.w) k f fd ps (spScr X.K n R)) (hz : Fz X.K X.H_0 a (ns.map V.int)) (hn : ns.length ≤ n) (hr : Room k X.A) (hg : Gl X x) (hm : X.mg x = some (.ref f)) (hk : PySem.W.keepIn X.K (.ref f) = true) (hb : Binds X.K fd ps [])
    (ha : PDA X (e :: es) t) (hdb : (x == ("__debug__" : Str)) = false := by decide) (he : starEach (e :: es) X.env = (false, eval e X.env) :: starEach es X.env := by rfl) (hpl : (backTo pos (starEach es X.env)).any (·.1) = false := by rfl) :
    PD X (.Call (.Name x p) (e :: es) [] pos) (dCall (fun ds S Q E => ds = [.adr a] ∧ R a ns ds S Q E) [] t) := ⟨fun W tk => ⟨fun pins s σ H Q I h => by
  apply wpAny_Call_Name_kw
  apply ld_glob I hg hm (hd := hdb)
  refine PySem.W.callWith_K (first := []) (h₀ := X.base) I.ok.mod.kin hk ?_ he hpl
  obtain ⟨G, δ, S, QD, XD, re, rl, h, kq, kx⟩ := h
  apply thn ((ha.run W tk).run pos pins s σ H (fun vs H1 => ∃ G1 S1, Stp X.K G H S G1 H1 S1 ∧ vs = [.ref a] ∧ R a ns [.adr a] S1 QD XD) I ⟨G, δ, S, _, XD, re, rl, h, fun G1 H1 S1 vs ds s1 rs q => ?_, kx⟩)
  · rintro us s2 ⟨vs, H2, I2, r, G1, S1, s1, rfl, q2⟩
    refine ⟨I2.kIn, run_fnSD (E := WE W) F hr hb .nil (L2N.passAt tk σ) I2 r ?_⟩
    exact ⟨a, ns, rfl, hz.inv I2, hn, G1, S1, [.adr a], QD, XD, s1.rel, .cons (.adr a) .nil, q2, fun G3 H3 S3 v d s3 r q => kq _ _ _ _ _ (s1.trans s3) r q, fun G3 H3 S3 cls d x s3 r q => kx _ _ _ _ _ _ (s1.trans s3) r q⟩
  · rw [List.append_nil] at q
    obtain ⟨rfl, q⟩ := q
    cases rs with
    | cons r0 rs =>
      cases rs
      cases r0
      exact ⟨G1, S1, s1, rfl, q⟩⟩⟩
end
end SM
namespace SM
open PySem PySem.Spec PyProof.Rows L2
variable {S : Sto}
theorem lc_map {gd : Gd} (hg : gok gd S) {q : Pat} {te : DTE} {δ : DS} {α : Type} {g f : α → D} : ∀ {xs : List α} {Q : List D → Sto → Prop}, (∀ x ∈ xs, ∃ δ2, bindP q (g x) δ = some δ2 ∧ ∀ Q' : DQ, Q' (f x) S → te δ2 S Q' noX) → Q (xs.map f) S → dLcL gd q dYes te δ (xs.map g) S Q
  | [], _, _, h => ⟨hg, h⟩
  | x :: r, Q, hh, h => by
    obtain ⟨δ2, e, t⟩ := hh x (List.mem_cons_self ..)
    rw [List.map_cons, dLcL, e]
    refine ⟨hg, ?_⟩
    show brn true _ _
    rw [brn_t]
    exact t _ (lc_map hg (fun y hy => hh y (List.mem_cons_of_mem _ hy)) h)
abbrev Cell := Int × Int
def once (cs : List Cell) : List Cell := cs.foldl (fun a c => if c ∈ a then a else a ++ [c]) []
def cKey (c : Cell) : List Key := [.inl c.1, .inl c.2]
theorem cKey_inj {c d : Cell} (h : cKey c = cKey d) : c = d := by
  unfold cKey at h
  cases c; cases d
  simp at h
  rw [h.1, h.2]
theorem roSort_perm (cs : List Cell) : (roSort cs).Perm cs := List.mergeSort_perm ..
theorem roSort_len (cs : List Cell) : (roSort cs).length = cs.length := (roSort_perm cs).length_eq
theorem pln_prs (n : Nat) (cs : List Cell) : pln (n + 3) (.lst (cs.map pr)) = true := by
  show plns (n + 2) (cs.map pr) = true
  rw [plns_all, List.all_eq_true]
  intro d hd
  obtain ⟨c, _, rfl⟩ := List.mem_map.mp hd
  rfl
theorem eqv_pr (c d : Cell) : PyData.eqv (toP (pr c)) (toP (pr d)) = decide (c = d) := by
  obtain ⟨x, y⟩ := c
  obtain ⟨u, v⟩ := d
  show (decide (x = u) && (decide (y = v) && true)) = _
  by_cases h1 : x = u <;> by_cases h2 : y = v <;> simp [h1, h2]
theorem eqB_pr (c d : Cell) : eqB (pr c) (pr d) = decide (c = d) := eqv_pr c d
theorem eqB_prs : ∀ a b : List Cell, eqB (.lst (a.map pr)) (.lst (b.map pr)) = decide (a = b)
  | [], [] => rfl
  | [], _ :: _ => rfl
  | _ :: _, [] => rfl
  | c :: a, d :: b => by
    have ih := eqB_prs a b
    show (PyData.eqv (toP (pr c)) (toP (pr d)) && PyData.eqvAll (toPs (a.map pr)) (toPs (b.map pr))) = _
    have e : PyData.eqvAll (toPs (a.map pr)) (toPs (b.map pr)) = decide (a = b) := ih
    rw [e, eqv_pr]
    by_cases h1 : c = d <;> by_cases h2 : a = b <;> simp [h1, h2]
theorem any_pr (l : List Cell) (c : Cell) : ((l.map pr).any fun z => eqB z (pr c)) = decide (c ∈ l) := by
  rw [List.any_map, Bool.eq_iff_iff, List.any_eq_true, decide_eq_true_iff]
  constructor
  · rintro ⟨d, hd, h⟩
    have : d = c := by simpa [eqB_pr] using h
    exact this ▸ hd
  · exact fun h => ⟨c, h, by simp [eqB_pr]⟩
theorem plns_prs (n : Nat) (cs : List Cell) : plns (n + 2) (cs.map pr) = true := pln_prs n cs
def blkB (N : List Str) (sc scope : Scope) (own : List (Str × Nat)) : Bool := decide (scope.kind = .function) && (scope.names.all (fun y => decide (scope.names.lookup y.1 = some y.2)) && (own.all (fun p => decide (N[p.2]? = some p.1)) &&
  (scope.names.all (fun y => !decide (y.2 = .free) || (decide (sc.names.lookup y.1 = some .cell) || decide (sc.names.lookup y.1 = some .free))) && scope.names.all (fun y => !(decide (y.2 = .local) || decide (y.2 = .cell)) || (decide (y.1 ∈ own.map (·.1)) || !decide (y.1 ∈ N))))))
theorem blk_of {N : List Str} {sc scope : Scope} {own : List (Str × Nat)} (h : blkB N sc scope own = true) : BlkOk N sc scope own := by
  simp only [blkB, Bool.and_eq_true, List.all_eq_true, Bool.or_eq_true, Bool.not_eq_true', decide_eq_true_eq, decide_eq_false_iff_not] at h
  obtain ⟨h1, h2, h3, h4, h5⟩ := h
  exact ⟨h1, h2, h3, fun y hy e => (h4 y hy).resolve_left fun z => z e, fun y hy e => (h5 y hy).resolve_left fun z => by
    have : ¬ (y.2 = .local ∨ y.2 = .cell) := by simpa [Bool.or_eq_false_iff] using z
    exact this e⟩
theorem lk_map {gd : Gd} {q : Pat} {te : DTE} {δ : DS} {α : Type} {g f : α → D} {xs : List α} {Q : List D → Sto → Prop} (h : ∀ x ∈ xs, ∃ δ2, bindP q (g x) δ = some δ2 ∧ ∀ Q' : DQ, Q' (f x) S → te δ2 S Q' noX) (hq : Q (xs.map f) S) (hg : gok gd S := by first | exact True.intro | assumption | exact su_same) : lcK gd q dYes te δ (xs.map g) S Q := by
  rw [lcK_is]; exact lc_map hg h hq
theorem loop_ofG {gd : Gd} {q : Pat} {tb : DTS} {E : DEnds} {α : Type} {g : α → D} (I : List α → DS → Sto → Prop) (hI : ∀ xs δ S, I xs δ S → gok gd S) (hs : ∀ x r δ S, I (x :: r) δ S → ∃ δ1, bindP q (g x) δ = some δ1 ∧ ∀ N : DS → Sto → Prop, (∀ δ2 S2, I r δ2 S2 → N δ2 S2) → tb { E with nx := N, ct := N, bk := E.nx } δ1 S) (hd : ∀ δ S, I [] δ S → E.nx δ S) :
    ∀ {xs : List α} {δ : DS} {S : Sto}, I xs δ S → loopK gd q tb E (xs.map g) δ S := by
  intro xs δ S h
  rw [loopK_is]
  induction xs generalizing δ S with
  | nil => exact ⟨hI _ _ _ h, hd _ _ h⟩
  | cons x r ih =>
    obtain ⟨δ1, e, t⟩ := hs x r δ S h
    rw [List.map_cons, dLoop, e]
    exact ⟨hI _ _ _ h, t _ fun δ2 S2 i => ih i⟩
theorem loop_of {q : Pat} {tb : DTS} {E : DEnds} {α : Type} {g : α → D} (I : List α → DS → Sto → Prop) (hs : ∀ x r δ S, I (x :: r) δ S → ∃ δ1, bindP q (g x) δ = some δ1 ∧ ∀ N : DS → Sto → Prop, (∀ δ2 S2, I r δ2 S2 → N δ2 S2) → tb { E with nx := N, ct := N, bk := E.nx } δ1 S) (hd : ∀ δ S, I [] δ S → E.nx δ S) {xs : List α} {δ : DS} {S : Sto} (h : I xs δ S) : loopK none q tb E (xs.map g) δ S :=
  loop_ofG (gd := none) I (fun _ _ _ _ => True.intro) hs hd h
section
variable {X : Cx} {e o : Expr} {es : List Expr} {pos p apos : Pos} {k j : Nat} {x m : Str} {t : DTA} {ps : List Str} {R : DSp}
theorem de_g (F : Gf X.prog X.w X.K X.mg X.base k x ps R) (hr : Room j X.A) (hg : Gl X x) (ha : PDA X (e :: es) t) (hkj : k ≤ j := by decide) (hdb : (x == ("__debug__" : Str)) = false := by decide) (he : starEach (e :: es) X.env = (false, eval e X.env) :: starEach es X.env := by rfl) (hpl : (backTo pos (starEach es X.env)).any (·.1) = false := by rfl) :
    PD X (.Call (.Name x p) (e :: es) [] pos) (dCall R [] t) := by
  obtain ⟨f, fd, F, hm, hk, hb⟩ := F.ex
  exact de_call F (hr.mono hkj) hg hm hk hb .nil (fun _ => .nil) ha hdb he hpl
theorem de_mk {fin : DQ → Addr → Sto → Prop} {c : Nat} (hfin : ∀ (Q : DQ) (z : Addr) (G H : Hp) (S : Sto), Rel X.K G H S → fin Q z S → ∃ G' S' d, Stp X.K G H S G' H S' ∧ Rp X.K G' (.ref z) d ∧ Q d S') (F : Gi X.prog X.w X.K X.mg X.base k c x ps R) (hr : Room j X.A) (hg : Gl X x) (ha : PDA X (e :: es) t) (hkj : k + 1 ≤ j := by decide) (hdb : (x == ("__debug__" : Str)) = false := by decide) (he : starEach (e :: es) X.env = (false, eval e X.env) :: starEach es X.env := by rfl) (hpl : (backTo pos (starEach es X.env)).any (·.1) = false := by rfl) :
    PD X (.Call (.Name x p) (e :: es) [] pos) (dMake fin c R [] t) := by
  obtain ⟨f, fd, F, hm, hk, hb⟩ := F.ex
  exact de_make hfin hk F (hr.mono hkj) hg hm hb .nil (fun _ => .nil) ha hdb he hpl
end
end SM
namespace SM
open PySem PySem.Spec PyProof.Rows L2
variable {K : PySem.W.Frag} {G G' G2 H H' H2 : Hp} {S S' S2 : Sto}
abbrev oSub : R2D := oInt0 fun i j => .int (i - j)
abbrev oFdiv : R2D := oInt (fun _ j => 0 < j ∧ j < 1073741824) fun i j => .int (i / j)
abbrev oMod : R2D := oInt (fun _ j => 0 < j) fun i j => .int (i % j)
abbrev oPow : R2D := oInt (fun i j => 0 ≤ j ∧ j ≤ 1000000 ∧ i.natAbs < 2 ^ 64) fun i j => .int (i ^ j.toNat)
abbrev oLt : R2D := oInt0 fun i j => .bl (decide (i < j))
abbrev oLe : R2D := oInt0 fun i j => .bl (decide (i ≤ j))
abbrev oGt : R2D := oInt0 fun i j => .bl (decide (j < i))
abbrev oGe : R2D := oInt0 fun i j => .bl (decide (j ≤ i))
abbrev dNeg (t : DTE) : DTE := dUn (fun x S Q => match x with | .int i => Q (.int (-i)) S | _ => False) t
abbrev Rd (t : DTS) (N : List Str) (R : DSp) : Prop := ∀ ds S QD XD, R ds S QD XD → t (ends QD XD) (startD N ds) S
abbrev Ln (n : Nat) (R : DSp) : Prop := ∀ ds S Q E, R ds S Q E → ds.length = n
theorem fok_of {fl : Str} : ∀ {tbl : List (Nat × Nat)}, fokB K fl tbl = true → FOk K fl tbl
  | [], _ => fok_nil
  | (c, j) :: r, h => by
    unfold fokB at h
    rw [List.all_cons, Bool.and_eq_true] at h
    obtain ⟨h1, h2⟩ := h
    simp only [Bool.and_eq_true] at h1
    exact fok_cons (He.cls_ok h1.1) (He.noat_ok h1.2.1) (of_decide_eq_true h1.2.2.1) (of_decide_eq_true h1.2.2.2) (fok_of h2)
section
variable {P : Program} {w : World} {mg : Str → Option Value} {base : Heap}
theorem fnT {x qual : Str} {params : Arguments} {body : List Stmt} {scope : Scope} {dvs : List V} {kws : List (Str × V)} {f : Addr} {fd : FuncData} {N ps : List Str} {k : Nat} {R : DSp} {t : DTS} (F : FunD K x qual params body scope dvs kws f fd) (Sc : FnScope N ps scope)
    (len : Ln ps.length R) (rd : Rd t N R) (hd : ∀ (cdv : Value) (A : Around) (outer : List Env) (s : Shared) (H : Hp) (E : XK), Room k (A.deeper (envOfC qual scope s.heap.objs.size f cdv)) → PDSs (cxOf (L2N.CX P w) P w K mg base N qual scope f cdv A outer s H E) body t) (hps : ps.length ≤ N.length := by decide) : FnOk P w K mg base (L2N.CX P w) (k + 1) f fd ps (toSp K R) :=
  fnD F Sc R len hps fun cdv A outer s H E hr => ⟨t, hd cdv A outer s H E hr, rd⟩
end
section
variable {X : Cx} {e o a b : Expr} {es : List Expr} {pos p apos : Pos} {k j : Nat} {x m : Str} {t : DTA} {te : DTE} {ps : List Str} {R : DSp} {c : Nat} {oth : List Nat}
theorem de_sortRoE {x y : Str} {p p2 kp pos : Pos} (hr : Room k X.A) (F : ∃ f, RoF X.K f ∧ X.mg y = some (.ref f)) (ha : PD X e te) (hgf : Gl X y) (hg : Gl X x) (hm : X.mg x = none) (hv : bootBuiltins x = some (.builtin "sorted")) (hn : x ≠ "__name__" := by decide) (hdb : (x == ("__debug__" : Str)) = false := by decide) (hdy : (y == ("__debug__" : Str)) = false := by decide)
    (hse : starEach [e] X.env = (false, eval e X.env) :: starEach [] X.env := by rfl) (he : backTo pos (starEach [e] X.env) = (false, eval e X.env) :: backTo pos (starEach [] X.env) := by rfl) (hpl : (backTo pos (starEach [e] X.env)).any (·.1) = false := by rfl) : PD X (.Call (.Name x p) [e] [⟨some (Str.ofString "key"), .Name y p2, kp⟩] pos) (dSortRo te) := by
  obtain ⟨f, F, hm2⟩ := F
  exact de_sortRo hr F ha hgf hm2 hg hm hv hn hdb hdy hse he hpl
def rScr (a : Addr) (ns : List Int) (R : Addr → List Int → DSp) : DSp := fun ds S Q E => ds = [.adr a] ∧ R a ns ds S Q E
theorem de_gScr {n : Nat} {a : Addr} {ns : List Int} {R : Addr → List Int → DSp} (F : Gz X.prog X.w X.K X.mg X.base k x ps n R) (hz : Fz X.K X.H_0 a (ns.map V.int)) (hn : ns.length ≤ n) (hr : Room j X.A) (hg : Gl X x) (ha : PDA X (e :: es) t) (hkj : k ≤ j := by decide)
    (hdb : (x == ("__debug__" : Str)) = false := by decide) (he : starEach (e :: es) X.env = (false, eval e X.env) :: starEach es X.env := by rfl) (hpl : (backTo pos (starEach es X.env)).any (·.1) = false := by rfl) :
    PD X (.Call (.Name x p) (e :: es) [] pos) (dCall (rScr a ns R) [] t) := by
  obtain ⟨f, fd, F, hm, hk, hb⟩ := F.ex
  exact de_callScr F hz hn (hr.mono hkj) hg hm hk hb ha hdb he hpl
theorem de_gl {v : V} {d : D} {pos : Pos} (hg : Gl X x) (hm : ∃ u, X.mg x = some u ∧ RelV v u) (rd : ∀ G, Rp X.K G v d) (hd : (x == ("__debug__" : Str)) = false := by decide) : PD X (.Name x pos) (dC d) := by
  obtain ⟨u, hm, r⟩ := hm
  exact de_glob hg hm r rd hd
end
end SM
namespace SM
open PySem PySem.Spec PyProof.Rows L2
variable {K : PySem.W.Frag} {G G' G2 H H' H2 : Hp} {S S' S2 : Sto}
@[irreducible] def rLaw (a : Addr) (ns : List Int) : DSp := fun ds S Q _ => ds = [.adr a] ∧ ∀ S', Q (.bl true) S'
theorem len_law (a : Addr) (ns : List Int) : Ln 1 (rLaw a ns) := fun ds S Q E h => by unfold rLaw at h; rw [h.1]; rfl
theorem law_sp {a : Addr} {ns : List Int} (hl : ns.length ≤ 63) (hO : Only H) (hS : SqL K H a (ns.map V.int)) : spScr K 63 rLaw [.ref a] H (fun v _ => v = .bl true) fun _ _ _ => False := by
  refine ⟨a, ns, rfl, Fz.of hO hS, hl, fun _ => none, fun _ => none, [.adr a], fun d _ => d = .bl true, fun _ _ => False, ⟨(fun _ _ h => nomatch h), (fun _ _ h => nomatch h)⟩, .cons (.adr a) .nil, by unfold rLaw; exact ⟨rfl, fun _ => rfl⟩, fun G' H' S' v d _ r q => ?_, fun _ _ _ _ _ _ _ _ z => z⟩
  subst q
  cases r
  rfl
theorem law_noX {P : Program} {w : World} {H : Hp} {s s' : Shared} {e : Value} (z : L2N.CX P w [] H s (fun _ _ _ => False) e s') : False := by
  obtain ⟨_, _, _, _, _, _, _, _, _, _, _, _, z⟩ := z
  exact z
theorem walk_law {l : PySem.W.OpenLaw} {k : Nat} {q : Program} {loose : List Str} {XP : (Str → Option Value) → Heap → Prop} {YP : World → Heap → Prop} {d : DefRec} {x : Str} (hn : l.most = some 63) (hdf : d.params.defaults = []) (hr : Room k callerA)
    (F : ∀ (w : World) (mg : Str → Option Value) (fa : Addr) (h : Heap), YP w h → h.Ns mainGlobals mg → mg d.name = some (.ref fa) → ∃ (K : PySem.W.Frag) (fd : FuncData), K.In h ∧ (∀ (s : Shared) (u : Value), BindsTo s fd ⟨[u], []⟩ [(x, u)]) ∧
      ∀ base : Heap, K.In base → base.Ns mainGlobals mg → FnOk l.prog w K mg base (L2N.CX l.prog w) k fa fd [x] (spScr K 63 rLaw)) :
    PySem.W.WalkO q loose XP YP l.row.toRowW d [] (fun f vs => PySem.call f vs) := by
  refine Att.attach_call hn hdf fun w s0 s1 mg mb fa o pm cd doc a vs ns G Y ho hd hcd hmg hobj hints hlen hg => ?_
  obtain ⟨K, fd, KX, hb, hF⟩ := F w mg fa _ Y G.T.g hmg
  exact law_call KX G.T.g G.T.b G.T.builtins G.T.nolimit hg hobj hints (Nat.le_trans hlen (by decide)) hr hF hb (fun H hO hS => law_sp hlen hO hS) fun H e s' => law_noX
theorem gint_of {u : Option Value} {i : Int} (h : ∃ t, u = some (.int i t)) : ∃ v, u = some v ∧ RelV (.int i) v := by
  obtain ⟨t, h⟩ := h
  exact ⟨_, h, _, rfl⟩
theorem gstr_of {u : Option Value} {i : Str} (h : ∃ t, u = some (.str i t)) : ∃ v, u = some v ∧ RelV (.str i) v := by
  obtain ⟨t, h⟩ := h
  exact ⟨_, h, _, rfl⟩
theorem ro_of {x qual : Str} {params : Arguments} {scope : Scope} {f : Addr} {fd : FuncData} {c : Str} {q1 q2 q3 q4 q5 q6 q7 q8 : Pos} {k1 k2 k3 : Nat} (F : FunD K x qual params (roB c q1 q2 q3 q4 q5 q6 q7 q8 k1 k2 k3) scope [] [] f fd) (hd : (c == ("__debug__" : Str)) = false)
    (hk : scope.kind = .function := by rfl) (hc : scope.isCoroutine = false := by rfl) (hg : scope.isGenerator = false := by rfl) (hl : scope.names.lookup c = some .local := by rfl)
    (hb : ∀ kV doc pm an cdv ct b, bindArgs (PySem.W.fnOf x qual params (roB c q1 q2 q3 q4 q5 q6 q7 q8 k1 k2 k3) scope .none kV doc pm an cdv ct) ⟨[.ref b], []⟩ = pure [(c, .ref b)] := by intros; rfl) : RoF K f := by
  obtain ⟨oc, od, dV, kV, doc, pm, an, cdv, ct, osl, rfl, lk, hcd, hdv, _⟩ := F.ex
  obtain rfl : dV = .none := by
    rcases hdv with ⟨_, h⟩ | ⟨h, _⟩
    · exact h
    · exact absurd rfl h
  exact ⟨oc, od, x, qual, params, scope, .none, kV, doc, pm, cdv, ct, an, osl, c, q1, q2, q3, q4, q5, q6, q7, q8, k1, k2, k3, lk, hcd, hk, hc, hg, hl, fun b => hb .., hd⟩
section
variable {P : Program} {w : World} {mg : Str → Option Value} {base : Heap}
end
end SM
namespace SM
open PySem PySem.Spec PyProof.Rows L2
variable {K : PySem.W.Frag} {G G' G2 H H' H2 : Hp} {S S' S2 : Sto}
section
variable {X : Cx} {e o a b : Expr} {es : List Expr} {pos p apos : Pos} {k j : Nat} {x m : Str} {t : DTA} {te ta tb : DTE} {ps : List Str} {R : DSp} {c : Nat} {f : Addr} {fd : FuncData} {A : Around} {pins : List (Addr × Obj)} {σ : L2.St} {s : Shared} {W : WX}
theorem run_own {vs : List V} {us : List Value} {ds : List D} {Q : VK} {QD : DQ} (F : FnOk X.prog X.w X.K X.mg X.base (L2N.CX X.prog X.w) k f fd ps (toSp X.K R)) (hb : Binds X.K fd ps []) (hr : Room k A) (hfr : A.frames = X.A.frames) (I : Inv X pins σ H s) (rv : Vals vs us)
    (rl : Rel X.K G H S) (rd : Rps X.K G vs ds) (h : R ds S QD noX) (kq : ∀ G' H' S' v d, Stp X.K G H S G' H' S' → Rp X.K G' v d → QD d S' → Q v H') {E : Value → Shared → Prop} : wpAny (model X.prog X.w) A (call (.ref f) us) (EP X pins σ Q) E s := by
  have hsp : toSp X.K R vs H Q (fun _ _ _ => False) := ⟨G, S, ds, QD, noX, rl, rd, h, kq, fun _ _ _ _ _ _ _ _ z => z⟩
  have e0 : Env0 X.prog X.w X.K X.mg X.base A X.stack s H := by
    have e := I.env0
    exact ⟨by rw [hfr]; exact e.frames, e.mod, e.bs, e.bsz, e.funs, e.frf, e.hok, e.bare⟩
  have hl := F.len _ _ _ _ hsp
  have bd := hb s us I.kIn (by rw [List.append_nil, ← rv.length]; exact hl)
  rw [List.append_nil] at bd
  refine wpAny_call (codeAny_mono (F.run A X.stack s H ⟨us, []⟩ us vs _ _ hr e0 bd rv hsp) fun r s' hq => ?_)
  match r, hq with
  | .error e, hq =>
    obtain ⟨_, _, _, _, _, _, _, _, _, _, _, _, he⟩ := hq
    exact he.elim
  | .ok (.ret w), hq => exact I.after hq
def ownI (c : Nat) (R : DSp) (ds : List D) (S : Sto) (Q : DQ) : Prop := match ds with
  | x :: _ => vwk S x fun x' => (match x' with
    | .ins c' _ => c' = c ∧ R ds S Q noX
    | _ => False)
  | _ => False
theorem own_at {x : V} {dx : D} {u : Value} {c' : Nat} {fs : List D} (I : Inv X pins σ H s) (rl : Rel X.K G H S) (r1 : Rp X.K G x dx) (rx : RelV x u) (ex : vw S dx = .ins c' fs) : ∃ a ox od, u = .ref a ∧ x = .ref a ∧ PySem.W.InstAt s.heap a ox (cad X.K c') od := by
  obtain ⟨a, ax, vs, rfl, ha, _⟩ := vw_ins rl r1 ex
  obtain rfl : u = Value.ref a := rx
  obtain ⟨mA, J, _⟩ := ins_get I.hok ha
  obtain ⟨od, J, _⟩ := J.look
  exact ⟨a, _, od, rfl, rfl, J⟩
@[irreducible] def lenI (c : Nat) (R : DSp) : D → Sto → DQ → Prop := fun d S Q => ownI c R [d] S fun v S' => match v with
  | .int n => (0 ≤ n ∧ n < 9223372036854775808) ∧ Q (.int n) S'
  | _ => False
theorem c_lenI (F : Go X.prog X.w X.K X.mg X.base k c "__len__" ps R) (hr : Room j X.A) (hkj : k + 1 ≤ j := by decide) : CallR X (.builtin "len") (liftC X.K (on1 (lenI c R))) := by
  obtain ⟨f, fd, F1, hb, M⟩ := F.ex
  intro pins s σ H vs us Q I r h
  obtain ⟨G, S, ds, QD, rl, rs, h, kq⟩ := h
  obtain ⟨d, v, rfl, rfl, rx, h⟩ := on1_of h rs
  obtain ⟨u, rfl, ru⟩ := vals1 r
  simp only [lenI, ownI, vwk_is] at h
  split at h
  · rename_i c' fs ex
    obtain ⟨rfl, h2⟩ := h
    obtain ⟨a, ox, od, rfl, rfl, J⟩ := own_at I rl rx ru ex
    obtain ⟨m, hF⟩ := I.fr
    refine PySem.W.len_K hF I.ok.mod.kin J M.at_ M.fn ?_
    refine wpAny_mono (run_own (vs := [.ref a]) (Q := fun v H' => ∃ n, v = .int n ∧ (0 ≤ n ∧ n < 9223372036854775808) ∧ Q (.int n) H') F1 hb (hr.mono hkj).in1 rfl I r rl rs h2 fun G' H' S' v d s1 r1 q => ?_) (fun z s' hz => ?_) fun _ _ e => e
    · cases r1 with
      | int n => exact ⟨n, rfl, q.1, kq _ _ _ _ _ s1 (.int n) q.2⟩
      | _ => exact q.elim
    · obtain ⟨v, H', I', rz, n, rfl, hn, q⟩ := hz
      obtain ⟨tk, rfl⟩ := rz
      exact ⟨hn, .int n, H', I'.tok _, ⟨_, rfl⟩, q⟩
  · exact h.elim
end
end SM
namespace SM
open PySem PySem.Spec PyProof.Rows L2 TL
variable {K : PySem.W.Frag} {G G' G2 H H' H2 : Hp} {S S' S2 : Sto}
theorem okS_iff {s : Str} : okS s ↔ s.length ≤ sizeLine ∧ ∀ c ∈ s.cps.toList, c < 1114112 := by
  unfold okS PyData.strOk
  rw [Array.all_eq_true_iff_forall_mem]
  simp
theorem okS_empty : okS Str.empty := by decide +kernel
theorem len_tl (s : Str) : s.length = (tl s).length := by show s.cps.size = s.cps.toList.length; simp
theorem joinL_mem {S : List Nat} : ∀ {l : List (List Nat)} {c : Nat}, c ∈ joinL S l → c ∈ S ∨ ∃ p ∈ l, c ∈ p
  | [], _, h => by simp [joinL] at h
  | [p], _, h => .inr ⟨p, by simp, h⟩
  | p :: q :: r, c, h => by
    simp only [joinL, List.mem_append] at h
    rcases h with h | h | h
    · exact .inr ⟨p, by simp, h⟩
    · exact .inl h
    · rcases joinL_mem h with h | ⟨z, hz, h⟩
      · exact .inl h
      · exact .inr ⟨z, List.mem_cons_of_mem _ hz, h⟩
theorem joinL_len {S : List Nat} : ∀ {l : List (List Nat)}, (joinL S l).length ≤ (l.map (·.length)).sum + l.length * S.length
  | [] => by simp [joinL]
  | [p] => by simp [joinL]
  | p :: q :: r => by
    have := joinL_len (S := S) (l := q :: r)
    simp only [joinL, List.length_append, List.map_cons, List.sum_cons, List.length_cons] at *
    have e : (r.length + 1 + 1) * S.length = (r.length + 1) * S.length + S.length := by rw [Nat.add_mul (r.length + 1) 1, Nat.one_mul]
    omega
theorem okS_join {y : Str} {l : List Str} (hy : okS y) (hl : ∀ s ∈ l, okS s) (hz : (l.map (·.length)).sum + l.length * y.length ≤ 16777216) : okS (Txt.join y l) := by
  rw [join_eq, okS_iff]
  have e : (Str.join y l).cps.toList = joinL (tl y) (l.map tl) := tl_join y l
  refine ⟨?_, fun c hc => ?_⟩
  · show (Str.join y l).cps.size ≤ _
    rw [← Array.length_toList, e, sizeLine_eq]
    refine Nat.le_trans joinL_len (Nat.le_trans (Nat.le_of_eq ?_) hz)
    rw [List.map_map, List.length_map, ← len_tl]
    congr 2
  · rw [e] at hc
    rcases joinL_mem hc with h | ⟨p, hp, h⟩
    · exact (okS_iff.mp hy).2 c h
    · obtain ⟨s, hs, rfl⟩ := List.mem_map.mp hp
      exact (okS_iff.mp (hl s hs)).2 c h
theorem okS_int {i : Int} (h : i.natAbs.log2 < 1920) : okS (toString i) := by
  have hl : (Str.ofString (toString i)).length ≤ sizeLine := int_text_fits h
  rw [okS_iff]
  refine ⟨hl, fun c hc => ?_⟩
  have e : (Str.ofString (toString i)).cps.toList = (toString i).toList.map Char.toNat := by rw [Str.ofString_eq_toList]
  replace hc : c ∈ (Str.ofString (toString i)).cps.toList := hc
  rw [e] at hc
  obtain ⟨z, _, rfl⟩ := List.mem_map.mp hc
  have := z.valid
  have h2 : z.toNat.isValidChar := this
  unfold Nat.isValidChar at h2
  omega
section
variable {X : Cx} {e o a b : Expr} {es : List Expr} {pos p apos : Pos} {k j : Nat} {x m : Str} {t : DTA} {te ta tb : DTE} {ps : List Str} {R : DSp} {c : Nat} {W : WX}
def strD (d : D) (S : Sto) (Q : DQ) : Prop := match d with
  | .int i => i.natAbs.log2 < 1920 ∧ Q (.str (toString i)) S
  | .str s => Q (.str s) S
  | _ => False
theorem c_str : CallR X (.type "str") (liftC X.K (on1 strD)) := CallR.weak (CallR.or call_str_int SkE.call_str_str) (by
  rintro vs H Q ⟨G, S, ds, QD, rl, rs, h, kq⟩
  obtain ⟨d, v, rfl, rfl, rx, h⟩ := on1_of h rs
  cases rx with
  | int i => exact .inl ⟨i, rfl, h.1, kq _ _ _ _ _ (Stp.refl rl) (.str (okS_int h.1)) h.2⟩
  | str hs => exact .inr ⟨_, rfl, kq _ _ _ _ _ (Stp.refl rl) (.str hs) h⟩
  | _ => exact h.elim)
def joinD : RCD := fun ds S Q => match ds with
  | [.str y, d] => vwk S d fun d' => (match d' with
    | .lst l => (match strsD l with
      | some ys => (ys.map (·.length)).sum + ys.length * y.length ≤ 16777216 ∧ Q (.str (Txt.join y ys)) S
      | none => False)
    | _ => False)
  | _ => False
theorem m_join : MtR X "str.join" (liftM X.K joinD) := MtR.weak mt_join (by
  rintro x xs H Q ⟨G, S, ds, QD, rl, rs, h, kq⟩
  unfold joinD at h
  split at h
  · rename_i y d
    cases rs with
    | cons r1 r2 =>
    cases r2 with
    | cons r2 r3 =>
    cases r3
    cases r1 with
    | str hy =>
    rw [vwk_is] at h
    split at h
    · rename_i l ed
      split at h
      · rename_i ys el
        obtain ⟨a, vs, rfl, ha, rv, _⟩ := vw_lst rl r2 ed
        obtain ⟨rfl, hok⟩ := strsD_rps rv el
        exact ⟨y, a, ys, rfl, rfl, .inl (SqL.of ha), h.1, kq _ _ _ _ _ (Stp.refl rl) (.str (okS_join hy hok h.1)) h.2⟩
      · exact h.elim
    · exact h.elim
  · exact h.elim)
end
end SM
namespace PySem.W
open PySem
section
variable {prog : Program} {w : World} {A : Around} {E : Value → Shared → Prop} {s : Shared} {K : Frag} {x C L f : Addr} {h₀ : Heap} {m : Str → Option Value} {ox : Obj} {od : Option Obj}
end
end PySem.W
namespace SM
open PySem PySem.Spec PyProof.Rows L2
variable {K : PySem.W.Frag} {G G' G2 H H' H2 : Hp} {S S' S2 : Sto}
section
variable {X : Cx} {e o a b : Expr} {es : List Expr} {pos p apos : Pos} {k j : Nat} {x m : Str} {t : DTA} {te ta tb : DTE} {ps : List Str} {R : DSp} {c : Nat} {W : WX}
end
end SM
namespace SM
open PySem PySem.Spec PyProof.Rows L2
variable {K : PySem.W.Frag} {G G' G2 H H' H2 : Hp} {S S' S2 : Sto}
section
variable {X : Cx} {e o a b : Expr} {es : List Expr} {pos p apos : Pos} {k j : Nat} {x m : Str} {t : DTA} {te ta tb : DTE} {ps : List Str} {R : DSp} {c : Nat} {W : WX}
def fzD (d : D) (S : Sto) (Q : DQ) : Prop := match d with
  | .adr a => ownk S a fun oo => (match oo with
    | some (.lst ds) => Q (.lst ds) (sd S a)
    | some (.dT ds) => Q (.dT ds) (sd S a)
    | some (.ins c ds) => Q (.ins c ds) (sd S a)
    | some (.dF _ _ _) => False
    | none => False)
  | d => Q d S
end
theorem slen_app (x y : Str) : (x ++ y).length = x.length + y.length := by
  show (x.cps ++ y.cps).size = x.cps.size + y.cps.size
  rw [Array.size_append]
theorem sempty_app (x : Str) : Str.empty ++ x = x := by
  show (⟨#[] ++ x.cps⟩ : Str) = x
  rw [Array.empty_append]
theorem strsD_map {α : Type} (f : α → Str) : ∀ l : List α, strsD (l.map fun c => .str (f c)) = some (l.map f)
  | [] => rfl
  | c :: r => by rw [List.map_cons, strsD, strsD_map f r]; rfl
theorem sum_le {α : Type} (f : α → Nat) (n : Nat) : ∀ l : List α, (∀ x ∈ l, f x ≤ n) → (l.map f).sum ≤ l.length * n
  | [], _ => by simp
  | x :: r, h => by
    have h1 := sum_le f n r fun y hy => h y (List.mem_cons_of_mem _ hy)
    have h2 := h x (List.mem_cons_self ..)
    rw [List.map_cons, List.sum_cons, List.length_cons, Nat.add_mul, Nat.one_mul]
    omega
theorem fz_new {S : Sto} {p : Addr} {ds : List D} {Q : DQ} (h : S p = none) (q : Q (.lst ds) S) : fzD (.adr p) (su S p (.lst ds)) Q := by
  refine ok_o su_same ?_
  show Q (.lst ds) (sd (su S p (.lst ds)) p)
  rw [sd_su_new h]
  exact q
end SM
namespace SM
open PySem PySem.Spec PyProof.Rows L2
variable {K : PySem.W.Frag} {G G' G2 H H' H2 : Hp} {S S' S2 : Sto}
section
variable {P : Program} {w : World} {mg : Str → Option Value} {base : Heap} {qual : Str} {params : Arguments} {scope : Scope} {f : Addr} {fd : FuncData} {c : Nat} {x y : Str} {p1 p2 p3 p4 q1 q2 q3 q4 : Pos}
theorem fnE1 (F : FunD K "__init__" qual params [.Assign [.Attribute (.Name "self" p1) x p2] (.Name x p3) p4] scope [] [] f fd) (Sc : FnScope ["self", x] ["self", x] scope) (T : OexC K (cad K c)) (n1 : PySem.W.findIn K (.ref (cad K c)) x = some none)
    (d1 : (x == ("__debug__" : Str)) = false := by decide) (d2 : (x == ("__classdict__" : Str)) = false := by decide) : FnOk P w K mg base (L2N.CX P w) 1 f fd ["self", x] (spE (cad K c) [x]) := by
  refine F.ok Sc (fun vs H Q E h => ?_) (fun cdv A outer s H vs Q E hr h => ?_)
  · obtain ⟨a, ws, rfl, hl, _⟩ := h
    simp only [List.length_cons, hl, List.length_nil]
  · have v0 := Sc.par "self" (by simp)
    have v1 := Sc.par x (by simp)
    refine ⟨_, pss_one (ps_ost (pe_var (i := 0) rfl (by rcases v0 with h | h; exact .inl h; exact .inr (.inl h)) (by decide) (by decide)) (pe_var (i := 1) rfl (by rcases v1 with h | h; exact .inl h; exact .inr (.inl h)) d1 d2)), ?_⟩
    obtain ⟨a, ws, rfl, hl, ha, q⟩ := h
    match ws, hl with
    | [v], _ =>
      refine ⟨v, rfl, .ref a, rfl, a, _, rfl, T, n1, .inl ⟨ha, fun dx hn hne => ?_⟩⟩
      refine q _ dx [(x, v)] upd_same (by rw [upd_ne hne, upd_same]) hn hne (fun b h1 h2 => by rw [upd_ne h1, upd_ne h2]) fun j fl u hj hv => ?_
      match j, hj, hv with
      | 0, hj, hv =>
        simp at hj hv
        subst hj hv
        simp
end
theorem cx_no {P : Program} {w : World} {outer : List Env} {H : Hp} {s s' : Shared} {e : Value} (z : L2N.CX P w outer H s (fun _ _ _ => False) e s') : False := by
  obtain ⟨_, _, _, _, _, _, _, _, _, _, _, _, z⟩ := z
  exact z
theorem pmkN {X : Cx} {CX : CXT} {x : Str} {C fI : Addr} {k : Nat} {fd : FuncData} {ps : List Str} {sp : Sp} {e : Expr} {es : List Expr} {ta : TA} {p pos : Pos} (T : OexC X.K C) (iC : PySem.W.findIn X.K (.ref C) "__init__" = some (some (.ref fI)))
    (tI : PySem.W.typeIn X.K (.ref fI) = some (.type "function")) (F1 : FnOk X.prog X.w X.K X.mg X.base CX k fI fd ps sp) (hr : Room (k + 1) X.A) (hb : Binds X.K fd ps []) (hx : Passes CX X (fun _ _ _ => False)) (hg : Gl X x) (hm : X.mg x = some (.ref C)) (ha : PA X (e :: es) ta)
    (hdb : (x == ("__debug__" : Str)) = false := by decide) (he : starEach (e :: es) X.env = (false, eval e X.env) :: starEach es X.env := by rfl) (hpl : (backTo pos (starEach es X.env)).any (·.1) = false := by rfl) :
    L2N.PMk X (.Call (.Name x p) (e :: es) [] pos) (tMkO C sp [] ta) := by
  intro pins s σ H Q I h
  obtain ⟨nm, q, N, bs, bm, sn, sub, ab, col, dd, k0, k1, k2, k3, k5, hC, hbm⟩ := T.cls
  refine wpAny_Call_Name_kw (ld_glob I hg hm ?_ hdb)
  refine PySem.W.callWith_K (h₀ := X.base) I.ok.mod.kin T.kC (thn (ha.run pos pins s σ H _ I h) ?_) he hpl
  rintro us s1 ⟨vs, H1, I1, r1, hz, q1⟩
  refine ⟨I1.kIn, ?_⟩
  show wpAny _ _ (call (.ref C) us) _ _ _
  obtain ⟨hp, g, dr, tk, os⟩ := s1
  generalize hn1 : hp.objs.size + 1 = n1
  have hsz : hp.objs.size ≤ n1 := by omega
  have hq := q1 n1 (I1.hok.fresh hsz)
  rw [List.append_nil] at hq
  generalize hh2 : (hp.push (PySem.W.kdv_tup us)).push (PySem.HandSPX.excO C hp.objs.size) = hp2
  have kk : ∀ b o, hp.get? b = some o → hp2.get? b = some o := by
    subst hh2
    exact fun b o e => Heap.get?_push_of_some _ (Heap.get?_push_of_some _ e)
  have hget : hp2.get? n1 = some (PySem.HandSPX.excO C hp.objs.size) := by
    subst hh2 hn1
    heap_get
  have I2 : Inv X pins σ (upd H1 n1 (exo n1 C none)) ⟨hp2, g, dr, tk, os⟩ := I1.laid (t' := tk) kk hsz (exo_ok hget)
  have r2 : Vals (V.ref n1 :: vs) (Value.ref n1 :: us) := .cons rfl r1
  have hl : (Value.ref n1 :: us ++ []).length = ps.length := by
    rw [List.append_nil, ← r2.length]
    exact F1.len _ _ _ _ hq
  have hus : us.length ≤ sizeLine := by
    rw [← Paired.length r1, sizeLine_eq]
    omega
  subst hh2 hn1
  refine wpAny_call (PySem.HandSPX.call_own F.excBase_ValueError (fun Y => PySem.HandSPX.refsVE_contains Y bm hbm) (I1.kIn _ _ hC) (PySem.W.looks_findIn I1.kIn iC) (fun self => PySem.W.bind_fn I1.kIn self tI) hus ?_)
  refine codeAny_mono (F1.run _ X.stack _ _ ⟨_ :: us, []⟩ (Value.ref (hp.objs.size + 1) :: us ++ []) _ _ (fun _ _ _ => False) (hr.make C us []) (I2.env0.make C us []) (hb _ (_ :: us) I2.kIn hl) (by rw [List.append_nil]; exact r2) hq) ?_
  intro r s' hq'
  match r, hq' with
  | .error er, hq' => exact hx pins σ _ _ er s' I2 hq'
  | .ok (.ret u), hq' =>
    obtain ⟨v, H2, os2, bare2, un2, hok2, rv, ev, d, fs, ea, ed, hd1, q2⟩ := hq'
    subst ev
    obtain ⟨h2, g2, d2, t2, os'⟩ := s'
    obtain ⟨t0, G, J, kG, ge, hoe, na⟩ := mk_end0 (d2 := d2) (t2 := t2) I1 hsz kk un2 hok2 os2 bare2 ea ed hd1
    refine ⟨rv, _, _, _, ⟨G, g2, d2, t2, os'⟩, _, .ref C, some d, rfl, J, kG, ge, hoe, ⟨rfl, rfl, fun vs e => ?_⟩, rfl, rfl, na, rfl, bare2, raises_own T.exC T.tyC, q2⟩
    cases e
    rfl
section
variable {X : Cx} {e : Expr} {es : List Expr} {pos p pos' : Pos} {k j : Nat} {x : Str} {t : DTA} {c : Nat} {W : WX}
def dRaise (c : Nat) (t : DTA) : DTS := fun E δ S => t δ S (fun ds S1 => ds.length = (cfs c).length ∧ E.xc ⟨c, ds⟩ δ S1) (fun x S1 => E.xc x δ S1)
theorem ds_raise (F : Gx X.prog X.w X.K X.mg X.base c x) (hr : Room j X.A) (hc : X.calm = true) (hg : Gl X x) (ha : PDA X (e :: es) t) (hkj : 2 ≤ j := by decide) (hl9 : (cfs c).length ≤ 900 := by decide) (hdb : (x == ("__debug__" : Str)) = false := by decide) (he : starEach (e :: es) X.env = (false, eval e X.env) :: starEach es X.env := by rfl) (hpl : (backTo pos (starEach es X.env)).any (·.1) = false := by rfl) :
    PDS X (.Raise (some (.Call (.Name x p) (e :: es) [] pos)) none pos') (dRaise c t) := ⟨fun W tk po => by
  obtain ⟨f, fd, ps, F1, T, iC, tI, hb, hm⟩ := F.ex
  refine PS.weak (L2N.ps_raise hc tk (pmkN T iC tI F1 (hr.mono hkj) hb (fun pins σ H s e s' I z => (cx_no z).elim) hg hm (ha.run W tk) hdb he hpl)) ?_
  rintro D σ H ⟨G, δ, S, E, re, rl, h, er⟩
  refine ⟨G, δ, S, _, _, re, rl, h, fun G1 H1 S1 vs ds s1 rs q => ?_, er.kx re⟩
  obtain ⟨hl, q⟩ := q
  refine ⟨by rw [rs.length, hl]; omega, fun a na => ?_⟩
  rw [List.append_nil]
  refine ⟨a, vs, rfl, by rw [rs.length, hl], upd_same, fun H' d fs h1 h2 hn hne hk hlk => ⟨rfl, d, fs, h1, h2, by rw [upd_ne hne] at hn; exact hn, ?_⟩⟩
  have hn1 : H1 d = none := by rw [upd_ne hne] at hn; exact hn
  have eH : upd (del H' a) d (.xd fs) = upd H1 d (.xd fs) := by
    funext b
    by_cases hb1 : b = d
    · subst hb1; rw [upd_same, upd_same]
    · rw [upd_ne hb1, upd_ne hb1]
      by_cases hb2 : b = a
      · subst hb2; rw [del_same, na]
      · rw [del_ne hb2, hk b hb2 hb1, upd_ne hb2]
  rw [eH]
  have s2 : Stp X.K G1 H1 S1 (upd G1 d (.xd fs)) (upd H1 d (.xd fs)) S1 := Stp.newF s1.rel hn1
  exact er.xc _ _ _ σ δ _ _ ⟨c, ds⟩ (s1.trans s2) ((re.mono s1.sg).mono s2.sg) ⟨rfl, .inr ⟨d, fs, vs, rfl, upd_same, rs.mono s2.sg, hl, hlk⟩⟩ q⟩
end
end SM
namespace PySem.W
open PySem
section
variable {prog : Program} {w : World} {M : Model} {A : Around} {E : Value → Shared → Prop} {s : Shared} {K : Frag} {x C L f : Addr} {h₀ : Heap} {m : Str → Option Value} {ox : Obj} {od : Option Obj} {nm : String}
end
end PySem.W
namespace SM
open PySem PySem.Spec PyProof.Rows L2
variable {K : PySem.W.Frag} {G G' G2 H H' H2 : Hp} {S S' S2 : Sto}
section
variable {X : Cx} {e o a b : Expr} {es : List Expr} {pos p pos' p1 p2 p3 : Pos} {k j : Nat} {x m : Str} {t : DTA} {te ta tb : DTE} {ps : List Str} {R : DSp} {c : Nat} {W : WX}
end
end SM
namespace SM
open PySem PySem.Spec PyProof.Rows L2
variable {K : PySem.W.Frag} {G G' G2 H H' H2 : Hp} {S S' S2 : Sto}
def Itse (z : Str) : It :=
  ⟨fun i _ => i < z.cps.size, fun i H v H' => ∃ T c, v = .ref T ∧ H T = none ∧ z.cps[i]? = some c ∧ H' = upd H T (.tup [.int (i : Nat), .str ⟨#[c]⟩]), fun i _ => z.cps.size ≤ i⟩
theorem str_draws {prog : Program} {w : World} {A : Around} (hh : A.handled = none) (it : Addr) (z : Str) (t : Tok) : Draws prog w A it [it] z.cps.size (fun i v => ∃ c u, z.cps[i]? = some c ∧ v = .str ⟨#[c]⟩ u) (fun i h => h.IsStrIter it (strIterType z) z t i) := by
  unfold strIterType
  split
  · exact Draws.strAscii hh it z t
  · exact Draws.strWide hh it z t
theorem turn_enumS {P : Program} {w : World} {K : PySem.W.Frag} {elts : List Expr} {kk : Nat} {tpos : Pos} (z : Str) (t : Tok) (e it : Addr) :
    Turn P w K (.Tuple elts kk tpos) (Itse z) [e, it] e (fun i h => ((∃ old, IsEnum h e it ((i : Nat) : Int) old) ∧ h.IsStrIter it (strIterType z) z t i) ∧ (e ≠ it ∧ i ≤ z.cps.size)) where
  mem := List.mem_cons_self ..
  obj := fun i h st b hb => by
    obtain ⟨⟨⟨old, he⟩, ⟨o, ho, hc, hd⟩⟩, _⟩ := st
    rcases (show b = e ∨ b = it by simpa using hb) with rfl | rfl
    · exact ⟨_, he, (fun v q => nomatch q)⟩
    · exact ⟨o, ho, fun v q => by rw [hd] at q; cases q⟩
  keep := fun i h h' st k => by
    obtain ⟨⟨⟨old, he⟩, ⟨o, ho, r⟩⟩, hn⟩ := st
    exact ⟨⟨⟨old, k e (by simp) _ he⟩, ⟨o, k it (by simp) o ho, r⟩⟩, hn⟩
  item := by
    intro X hP hw hK hc i pins s σ H E I hf st hg
    subst hP hw hK
    obtain ⟨⟨⟨old, he⟩, hit⟩, hne, hle⟩ := st
    have hg : i < z.cps.size := hg
    have hel := Heap.lt_size he
    have hil : it < s.heap.objs.size := by obtain ⟨_, q, _⟩ := hit; exact Heap.lt_size q
    have hh : X.A.in1.handled = none := I.ok.hd hc
    refine wpAny_pyNext_enum_itemD (str_draws hh it z t) he hit hg hne (by simpa using hne) fun x h' tk hx ho hit' hT hsz hk => ?_
    obtain ⟨c, u, hcx, rfl⟩ := hx
    refine ⟨_, rfl, wpAny_letOwnedTupleGo_enum (s := { s with heap := h', toks := tk + 1 }) ho fun h'' he' sb => ?_⟩
    have hT2 := (sb.2 _ (Nat.ne_of_gt hel)).trans hT
    have new : ObjOk X.prog X.w (upd H s.heap.objs.size (.tup [.int (i : Nat), .str ⟨#[c]⟩])) h'' s.heap.objs.size (.tup [.int (i : Nat), .str ⟨#[c]⟩]) := by
      refine ⟨by show 2 ≤ sizeLine; decide, [.int i tk, .str ⟨#[c]⟩ u], .cons ⟨tk, rfl⟩ (.cons ⟨u, rfl⟩ .nil), ⟨_, hT2, rfl, _, rfl⟩⟩
    have I1 := I.turnedNew (ch := [e, it]) (t' := tk + 1) (fun b ob hb q => (sb.2 b (fun y => hb (by simp [y]))).trans (hk b ob (fun y => hb (by simp [y])) (fun y => hb (by simp [y])) q)) hf (Nat.le_refl _) new
    refine ⟨.ref s.heap.objs.size, _, I1, rfl, ⟨_, c, rfl, I.hok.fresh (Nat.le_refl _), hcx, rfl⟩, ⟨⟨⟨_, by rw [show ((i + 1 : Nat) : Int) = (i : Int) + 1 by omega]; exact he'⟩, ?_⟩, hne, hg⟩, fun b hb => ?_⟩
    · obtain ⟨o, ho2, r⟩ := hit'
      exact ⟨o, (sb.2 it (Ne.symm hne)).trans ho2, r⟩
    · have hb' : b < s.heap.objs.size := by
        rcases (show b = e ∨ b = it by simpa using hb) with rfl | rfl <;> assumption
      rw [upd_ne (Nat.ne_of_lt hb')]
      exact (hf b hb).1
  done := by
    intro X hP hw hK hc i pins s σ H E I hf st hg
    subst hP hw hK
    obtain ⟨⟨⟨old, he⟩, hit⟩, hne, hle⟩ := st
    obtain rfl : i = z.cps.size := Nat.le_antisymm hle hg
    obtain ⟨f0, f1, f2, f3, f4, f5⟩ := hf it (by simp)
    have hh : X.A.in1.handled = none := I.ok.hd hc
    exact wpAny_pyNext_enum_endD (str_draws hh it z t) he hit fun h' eb => ⟨rfl, I.turned (t' := s.toks) (fun b o hb q => eb b o hb q) f0 f1 f3 f4 f5⟩
  self := fun A i s Q E st h => by
    obtain ⟨⟨⟨_, he⟩, _⟩, _⟩ := st
    exact wpAny_pyIter_enum he h
def iEnumS (ta : TA) : TI := fun σ H R => ta σ H fun vs H1 => ∃ z, vs = [.str z] ∧ R (Itse z) H1
section
variable {X : Cx} {e a b : Expr} {p pos tpos : Pos} {elts : List Expr} {kk : Nat} {t : DTA}
theorem pi_enumS {ta : TA} (hg : Gl X "enumerate") (hm : X.mg "enumerate" = none) (ha : PA X [e] ta) (hs : starEach [e] X.env = [(false, eval e X.env)] := by rfl) : PI X (.Tuple elts kk tpos) (.Call (.Name "enumerate" p) [e] [] pos) (iEnumS ta) := by
  constructor
  intro pins s σ H R I h
  refine Call_ (ld_blt I hg hm boot_enumerate (PyProof.Rows.callWith_type1 (thn (ha.run pos pins s σ H _ I h) fun us s1 hq => ?_) hs rfl))
  obtain ⟨vs, H1, I1, r1, z, rfl, q⟩ := hq
  obtain ⟨u, rfl, ru⟩ := vals1 r1
  obtain ⟨tk, rfl⟩ := ru
  refine call_enumerate_str fun h' he hit hsz hk => wpAny_pyIter_enum he ?_
  have I2 : Inv X pins σ H1 { s1 with heap := h' } := I1.kept (t' := s1.toks) hk
  refine ⟨s1.heap.objs.size + 1, [s1.heap.objs.size + 1, s1.heap.objs.size], _, _, H1, rfl, I2, turn_enumS z tk (s1.heap.objs.size + 1) s1.heap.objs.size, ⟨⟨⟨.none, he⟩, hit⟩, Nat.succ_ne_self _, Nat.zero_le _⟩, fun b hb => ?_, q⟩
  have hle : s1.heap.objs.size ≤ b := by
    rcases (show b = s1.heap.objs.size + 1 ∨ b = s1.heap.objs.size by simpa using hb) with rfl | rfl <;> omega
  exact I1.fpOk hle (I1.hok.fresh hle)
def enumS (z : Str) : List D := enumD 0 (z.cps.toList.map fun c => .str (one c))
def dEnumS (t : DTA) : DTI := fun δ S Q X => t δ S (fun ds S1 => match ds with
  | [.str z] => Q none (enumS z) S1
  | _ => False) X
theorem di_enumS (hg : Gl X "enumerate") (hm : X.mg "enumerate" = none) (ha : PDA X [e] t) (hs : starEach [e] X.env = [(false, eval e X.env)] := by rfl) : PDI X (.Tuple elts kk tpos) (.Call (.Name "enumerate" p) [e] [] pos) (dEnumS t) := ⟨fun W tk => PI.weak (pi_enumS hg hm (ha.run W tk) hs) (by
  rintro σ H R ⟨G, δ, S, QD, XD, re, rl, h, kq, kx⟩
  refine ⟨G, δ, S, _, XD, re, rl, h, fun G1 H1 S1 vs ds s1 rs q => ?_, kx⟩
  split at q
  · rename_i z
    cases rs with
    | cons r1 r2 =>
    cases r2
    cases r1 with
    | str hz =>
    have hl : (enumS z).length = z.cps.size := by unfold enumS; rw [enumD_len, List.length_map, Array.length_toList]
    refine ⟨z, rfl, kq _ _ _ _ none (enumS z) s1 ?_ (by rw [hl]; exact hz.1) q⟩
    intro G2 H2 S2 sg rl2 _ i
    rw [hl]
    refine ⟨fun hi => ⟨hi, fun x H3 yl => ?_⟩, fun hi => hi⟩
    obtain ⟨T, c, rfl, hT, hc, rfl⟩ := yl
    have s2 : Stp X.K G2 H2 S2 (upd G2 T (.tup [.int (i : Nat), .str ⟨#[c]⟩])) (upd H2 T (.tup [.int (i : Nat), .str ⟨#[c]⟩])) S2 := Stp.newF rl2 hT
    refine ⟨_, s2, fun d hd => ?_⟩
    obtain ⟨y, z1, z2⟩ := enumD_get 0 _ i d hd
    subst z2
    have h2 : z.cps.toList[i]? = some c := by rw [Array.getElem?_toList]; exact hc
    rw [List.getElem?_map, h2] at z1
    cases z1
    rw [Nat.zero_add]
    have okc : okS (one c) := by
      refine okS_sub (s := z) hz (fun q hq => ?_) ?_
      · have : q = c := by simpa [one] using hq
        subst this
        exact List.mem_of_getElem? h2
      · obtain ⟨h, _⟩ := Array.getElem?_eq_some_iff.mp hc
        show 1 ≤ z.cps.size
        omega
    exact .tup upd_same (.cons (.int _) (.cons (.str okc) .nil)) (by show 2 ≤ sizeLine; decide)
  · exact q.elim)⟩
end
end SM
namespace SM
open PySem PySem.Spec PyProof.Rows L2
variable {K : PySem.W.Frag} {G G' G2 H H' H2 G0 H0 : Hp} {S S' S2 S0 : Sto}
section
variable {W : WX}
end
section
variable {X : Cx} {elt tg iter tg1 iter1 : Expr} {ifs ifs1 : List Expr} {scope : Scope} {own : List (Str × Nat)} {vs1 : List Nat} {ti ti1 : DTI} {q q1 : Pat} {tt tt1 : DTT} {te : DTE} {pos : Pos}
end
end SM
namespace SM
open PySem PySem.Spec PyProof.Rows L2
variable {K : PySem.W.Frag} {G G' G2 H H' H2 : Hp} {S S' S2 : Sto}
section
variable {X : Cx} {e o : Expr} {es : List Expr} {pos p apos : Pos} {W : WX} {k j i : Nat} {x m : Str} {t : DTA} {te : DTE} {ps : List Str} {R : DSp} {c : Nat} {g C : Addr} {pins : List (Addr × Obj)} {σ : L2.St} {s : Shared}
def dMakeL (i : Nat) (fin : DQ → Addr → Sto → Prop) (c : Nat) (R : DSp) (t : DTA) : DTE := fun δ S Q X => match nth δ i with
  | some (.cls c') => c' = c ∧ dMake fin c R [] t δ S Q X
  | _ => False
theorem de_mkL {fin : DQ → Addr → Sto → Prop} (hfin : ∀ (Q : DQ) (z : Addr) (G H : Hp) (S : Sto), Rel X.K G H S → fin Q z S → ∃ G' S' d, Stp X.K G H S G' H S' ∧ Rp X.K G' (.ref z) d ∧ Q d S') {y : Str} (F : Gi X.prog X.w X.K X.mg X.base k c y ps R) (hr : Room j X.A) (ha : PDA X (e :: es) t) (hN : X.N[i]? = some x := by rfl)
    (hv : Vis X.env.scope x := by first | exact Or.inl rfl | exact Or.inr (Or.inl rfl) | exact Or.inr (Or.inr rfl)) (hkj : k + 1 ≤ j := by decide) (hdb : (x == ("__debug__" : Str)) = false := by decide) (hcd : (x == ("__classdict__" : Str)) = false := by decide) (he : starEach (e :: es) X.env = (false, eval e X.env) :: starEach es X.env := by rfl) (hpl : (backTo pos (starEach es X.env)).any (·.1) = false := by rfl) :
    PD X (.Call (.Name x p) (e :: es) [] pos) (dMakeL i fin c R t) := ⟨fun W tk => ⟨fun pins s σ H Q I h => by
  obtain ⟨f, fd, F1, hm, M, hb⟩ := F.ex
  obtain ⟨G, δ, S, QD, XD, re, rl, h, kq, kx⟩ := h
  unfold dMakeL at h
  split at h
  · rename_i c' en
    obtain ⟨rfl, h⟩ := h
    obtain ⟨v, hs, rv⟩ := re.at_ i _ en
    cases rv with
    | cls _ ea =>
    subst ea
    refine wpAny_Call_Name_kw (thn ((pe_var (pos := p) hN hv hdb hcd).run pins s σ H (fun v H1 => v = .ref (cad X.K c') ∧ H1 = H) I ⟨.ref (cad X.K c'), hs, rfl, rfl⟩) fun u s0 hu => ?_)
    obtain ⟨v, H0, I0, r0, ev, eH⟩ := hu
    subst ev eH
    obtain rfl : u = Value.ref (cad X.K c') := r0
    refine PySem.W.callWith_K (h₀ := X.base) I.ok.mod.kin M.kp ?_ he hpl
    apply thn ((ha.run W tk).run pos pins s0 σ H0 (fun vs H1 => ∀ z dx, H1 z = none → H1 dx = none → dx ≠ z → toSp X.K R (.ref z :: (vs ++ [])) (upd (upd H1 dx (.own z)) z (.ins (cad X.K c') dx [])) (fun v H2 => v = .non ∧ Q (.ref z) H2) (WE W σ)) I0 ⟨G, δ, S, _, XD, re, rl, h, fun G1 H1 S1 vs ds s1 rs q => make_sp (dvs := []) hfin (fun _ => .nil) s1.rel rs q (fun G2 H2 S2 v d s2 rv q2 => kq _ _ _ _ _ (s1.trans s2) rv q2) (kx.step s1), kx⟩)
    rintro us s1 ⟨vs, H1, I1, r, q⟩
    exact ⟨I1.kIn, run_makeD M F1 (hr.mono hkj) hb .nil tk I1 r q⟩
  · exact h.elim⟩⟩
end
theorem cread_of {c : Nat} (h : creadB K c = true) : ClX.CRead K (cad K c) (.type "type") := by
  unfold creadB at h
  rw [Bool.and_eq_true] at h
  exact ⟨h.1, of_decide_eq_true h.2⟩
theorem cm_of {c : Nat} {m : Str} (h : cmB K c m = true) : ClX.CRead K (cad K c) (.type "type") ∧ ClX.CMet K (cad K c) (.type "type") m (cmP K (cad K c) m) (cmAd K (cad K c) m) := by
  unfold cmB at h
  simp only [Bool.and_eq_true] at h
  obtain ⟨h1, h2, h3, h4⟩ := h
  refine ⟨cread_of h1, ?_, ?_, h2⟩
  · split at h4
    · rename_i b p C e
      simp only [Bool.and_eq_true, decide_eq_true_eq] at h4
      obtain ⟨rfl, rfl⟩ := h4
      have ep : cmP K (cad K c) m = p := by unfold cmP; rw [e]
      rw [ep]
      exact e
    · cases h4
  · split at h3
    · rename_i g rest e
      have eg : cmAd K (cad K c) m = g := by unfold cmAd; rw [e]
      rw [eg]
      exact ⟨rest, e⟩
    · cases h3
section
variable {X : Cx}
def splitD : RCD := fun ds S Q => match ds with
  | [.str a, .str b] => ((b.length == 0) = false ∧ a.length + 2 ≤ sizeLine) ∧ ((∀ s ∈ Txt.split a b, okS s) ∧ (Txt.split a b).length ≤ sizeLine) ∧ Q (.lst ((Txt.split a b).map D.str)) S
  | _ => False
theorem rps_strs : ∀ {l : List Str}, (∀ s ∈ l, okS s) → Rps K G (l.map V.str) (l.map D.str)
  | [], _ => .nil
  | s :: r, h => .cons (.str (h s (List.mem_cons_self ..))) (rps_strs fun z hz => h z (List.mem_cons_of_mem _ hz))
theorem m_split : MtR X "str.split" (liftM X.K splitD) := MtR.weak mt_split (by
  rintro x xs H Q ⟨G, S, ds, QD, rl, rs, h, kq⟩
  unfold splitD at h
  split at h
  · rename_i a b
    cases rs with
    | cons r1 r2 =>
    cases r2 with
    | cons r2 r3 =>
    cases r3
    cases r1 with
    | str ha =>
    cases r2 with
    | str hb =>
    obtain ⟨⟨h1, h2⟩, ⟨h3, h4⟩, q⟩ := h
    refine ⟨a, b, rfl, rfl, h1, h2, fun p hp => ?_⟩
    obtain ⟨s2, r2⟩ := fz_lst rl hp (rps_strs (K := X.K) (G := G) h3) (by rw [List.length_map]; exact h4)
    exact kq _ _ _ _ _ s2 r2 q
  · exact h.elim)
end
end SM
namespace SM
open PySem PySem.Spec PyProof.Rows L2
variable {K : PySem.W.Frag} {G G' G2 H H' H2 : Hp} {S S' S2 : Sto}
theorem ik_0 {α : Type} {x : α} {l : List α} {kk : α → Prop} (q : kk x) : itk (x :: l) 0 kk := itk_of (atI_nat (j := 0) (xs := x :: l) (v := x) rfl) q
theorem oex_of {c : Nat} (h : oexB K c = true) : OexC K (cad K c) := by
  unfold oexB at h
  simp only [Bool.and_eq_true] at h
  obtain ⟨h0, h1, h2, h3, h4⟩ := h
  refine ⟨?_, He.eqO_ok h1, of_decide_eq_true h2, of_decide_eq_true h3, h4⟩
  unfold oexClsB at h0
  split at h0
  · rename_i dd cd k0 k1 k2 k3 n k5 ho
    split at h0
    · rename_i C' bm hm
      simp only [Bool.and_eq_true, decide_eq_true_eq, Bool.not_eq_true'] at h0
      obtain ⟨rfl, rfl, hdel, hdict, hr⟩ := h0
      obtain ⟨nm, bs, mro, ns, qn, hd, sn, sub, ab, col, del⟩ := cd
      dsimp only at hm hdel hdict
      subst hm hdel hdict
      exact ⟨nm, qn, ns, bs, bm, sn, sub, ab, col, dd, k0, k1, k2, k3, k5, ho, hr⟩
    · cases h0
  · cases h0
theorem oin_of {c : Nat} (h : oinB K c = true) : PySem.W.findIn K (.ref (cad K c)) "__init__" = some (some (.ref (He.ma K (cad K c) "__init__"))) ∧ PySem.W.typeIn K (.ref (He.ma K (cad K c) "__init__")) = some (.type "function") ∧ ∀ f ∈ cfs c, PySem.W.findIn K (.ref (cad K c)) f = some none := by
  unfold oinB at h
  simp only [Bool.and_eq_true] at h
  obtain ⟨h1, h2, h3⟩ := h
  exact ⟨He.eqO_ok h1, of_decide_eq_true h2, fun f hf => He.eqO_ok (List.all_eq_true.mp h3 f hf)⟩
section
variable {P : Program} {w : World} {mg : Str → Option Value} {base : Heap} {c : Nat} {x y z qual : Str} {params : Arguments} {scope : Scope} {fd : FuncData} {p1 p2 p3 p4 q1 q2 q3 q4 : Pos}
theorem gx1 (F : FunD K "__init__" qual params [.Assign [.Attribute (.Name "self" p1) x p2] (.Name x p3) p4] scope [] [] (He.ma K (cad K c) "__init__") fd) (Sc : FnScope ["self", x] ["self", x] scope) (ec : cfs c = [x]) (hb : Binds K fd ["self", x] []) (ho : oexB K c = true) (hi : oinB K c = true) (hm : mg z = some (.ref (cad K c)))
    (d1 : (x == ("__debug__" : Str)) = false := by decide) (d2 : (x == ("__classdict__" : Str)) = false := by decide) : Gx P w K mg base c z := by
  obtain ⟨i1, i2, i3⟩ := oin_of hi
  exact ⟨_, fd, _, by rw [ec]; exact fnE1 F Sc (oex_of ho) (i3 x (by rw [ec]; simp)) d1 d2, oex_of ho, i1, i2, hb, hm⟩
end
end SM
namespace SM
open PySem PySem.Spec PyProof.Rows L2
variable {K : PySem.W.Frag} {G G' G2 H H' H2 : Hp} {S S' S2 : Sto}
theorem lookup_memP {α : Type} : ∀ {l : List (Nat × α)} {c : Nat} {b : α}, l.lookup c = some b → (c, b) ∈ l
  | (x, y) :: r, c, b, h => by
    rw [List.lookup_cons] at h
    split at h
    · rename_i e
      cases h
      rw [eq_of_beq e]
      exact List.mem_cons_self
    · exact List.mem_cons_of_mem _ (lookup_memP h)
theorem em_of {cv : Value} {tab : List (Nat × Bool)} (h : emB K cv tab = true) : EmOk K cv tab := fun c b hl => of_decide_eq_true (List.all_eq_true.mp h _ (lookup_memP hl))
def trX (tab : List (Nat × Bool)) (i : Nat) (ts : Addr → Option Addr → Nat → DTS) (E : DEnds) (x : Exn) (δ' : DS) (S' : Sto) : Prop := match tab.lookup x.c with
  | some true => ∀ a d, ts a d x.c { nx := fun δ S => E.nx (unset δ i) S, rt := E.rt, bk := fun δ S => E.bk (unset δ i) S, ct := fun δ S => E.ct (unset δ i) S, xc := fun _ _ _ => False } (put δ' i (.exn a d x.c x.ds)) S'
  | some false => E.xc x δ' S'
  | none => False
def dTryAs (tab : List (Nat × Bool)) (i : Nat) (tb : DTS) (ts : Addr → Option Addr → Nat → DTS) : DTS := fun E δ S => tb { nx := E.nx, rt := E.rt, bk := E.bk, ct := E.ct, xc := trX tab i ts E } δ S
theorem Cgt.hot {X : Cx} {a : Addr} {oe : Obj} {c : Nat} {d : Option Addr} {pn : List (Addr × Obj)} (h : Cgt X.K oe c d) : L2H.HotC (X.suite a ((a, oe) :: pn)) := by
  obtain ⟨vs, e⟩ := h.fl
  exact ⟨(a, oe), ⟨rfl, vs, e, h.zn.2.2 vs e⟩, List.mem_cons_self⟩
section
variable {X : Cx} {x n : Str} {cv : Value} {i : Nat} {body suite : List Stmt} {b₀ : Stmt} {np pos pos' : Pos} {tb : DTS} {ts : Addr → Option Addr → Nat → DTS} {tab : List (Nat × Bool)}
theorem ds_tryAs (hs : X.stack = X.env :: X.outer) (hf : X.env.frame = some X.env.locals) (hN : X.N.Nodup) (hi : X.N[i]? = some n) (hln : X.env.kindOf n = some .local) (hc : Names X x cv) (em : EmOk X.K cv tab)
    (hb : ∀ (pn : List (Addr × Obj)) (xe : Value → Shared → Prop), PDSs (X.tr pn xe) body tb)
    (hsu : ∀ (a : Addr) (oe : Obj) (c : Nat) (d : Option Addr) (pn : List (Addr × Obj)), Cgt X.K oe c d → PDSs (X.suite a ((a, oe) :: pn)) (b₀ :: suite) (ts a d c)) :
    PDS X (.Try body [.ExceptHandler (some (.Name x np)) (some n) (b₀ :: suite) pos'] [] [] pos) (dTryAs tab i tb ts) := ⟨fun W tk po => by
  refine PS.weak (L2N.ps_try_as (tb := fun W => liftS X.K W tb) (ts := fun a cls d => fun D σ H => ∃ c, cls = .ref (cad X.K c) ∧ liftS X.K (fun _ _ _ _ => False) (ts a d c) D σ H) (Wout := W) hs hf hN hi hln hc tk (fun W' pn xe tk' po' => (hb pn xe).run W' tk' po') (fun a oe cls d pn hz hff => ⟨fun pins s σ H D I h => ?_⟩)) ?_
  · obtain ⟨c, rfl, h⟩ := h
    exact ((hsu a oe c d pn ⟨hz, hff⟩).run _ takes0N PassesOwn.never).run pins s σ H D I h
  · rintro D σ H ⟨G, δ, S, E, re, rl, h, er⟩
    refine ⟨G, δ, S, _, re, rl, h, ⟨er.nx, er.rt, er.bk, er.ct, fun G' H' S' σ' δ' cls d x st re' rx q => ?_⟩⟩
    have ec := rx.1
    subst ec
    revert q
    unfold trX
    show (match tab.lookup x.c with | some true => _ | some false => _ | none => _) → _
    cases hl : tab.lookup x.c with
    | none => exact fun z => z.elim
    | some b =>
      cases b with
      | false => exact fun q => ⟨false, em _ _ hl, fun z => Bool.noConfusion z, fun _ => er.xc G' H' S' σ' δ' _ d x st re' rx q⟩
      | true =>
        intro q
        refine ⟨true, em _ _ hl, fun _ a ha => ⟨x.c, rfl, G', _, S', _, re'.put i rx.rp, st.rel, q a d, ?_⟩, fun z => Bool.noConfusion z⟩
        refine ⟨fun G2 H2 S2 σ2 δ2 s2 r2 z => er.nx _ _ _ _ _ (st.trans s2) (r2.unset i) z, fun G2 H2 S2 v d2 s2 r2 z => er.rt _ _ _ _ _ (st.trans s2) r2 z, fun G2 H2 S2 σ2 δ2 s2 r2 z => er.bk _ _ _ _ _ (st.trans s2) (r2.unset i) z, fun G2 H2 S2 σ2 δ2 s2 r2 z => er.ct _ _ _ _ _ (st.trans s2) (r2.unset i) z, fun _ _ _ _ _ _ _ _ _ _ _ z => z⟩⟩
end
end SM
namespace SM
open PySem PySem.Spec PyProof.Rows L2
variable {K : PySem.W.Frag} {G G' G2 H H' H2 : Hp} {S S' S2 : Sto}
def FxOk (K : PySem.W.Frag) (fl : Str) (tbl : List (Nat × Nat)) : Prop := ∀ c j, tbl.lookup c = some j → XfC K (cad K c) ∧ PySem.W.findIn K (.ref (cad K c)) fl = some none ∧ (cfs c)[j]? = some fl
def dXf (tbl : List (Nat × Nat)) (a : Addr) (d : Option Addr) (c : Nat) (te : DTE) : DTE := fun δ S Q XX => te δ S (fun x S1 => match x with
  | .exn a' d' c' ds => a' = a ∧ d' = d ∧ c' = c ∧ (match tbl.lookup c with
    | some j => (match ds[j]? with
      | some v => Q v S1
      | none => False)
    | none => False)
  | _ => False) XX
section
variable {X : Cx} {a : Addr} {oe : Obj} {c : Nat} {d : Option Addr} {pn : List (Addr × Obj)} {e : Expr} {te : DTE} {fl : Str} {pos : Pos} {tbl : List (Nat × Nat)}
theorem de_xf (F : FxOk X.K fl tbl) (hz : Cgt X.K oe c d) (he : PD (X.suite a ((a, oe) :: pn)) e te) (hb : attributeBase e fl X.env (eval e X.env) = eval e X.env := by rfl) :
    PD (X.suite a ((a, oe) :: pn)) (.Attribute e fl pos) (dXf tbl a d c te) := ⟨fun W tk => by
  cases hl : tbl.lookup c with
  | none =>
    refine ⟨fun pins s σ H Q I h => ?_⟩
    refine attr_of hb (thn ((he.run W tk).run pins s σ H (fun _ _ => False) I ?_) fun u s1 hh => ?_)
    · obtain ⟨G, δ, S, QD, XD, re, rl, h, q, kx⟩ := h
      refine ⟨G, δ, S, _, XD, re, rl, h, fun G1 H1 S1 v x s1 r z => ?_, kx⟩
      cases x <;> first | exact z.elim | (rw [hl] at z; exact z.2.2.2.elim)
    · obtain ⟨_, _, _, _, z⟩ := hh
      exact z.elim
  | some j =>
    obtain ⟨T, hno, hj⟩ := F c j hl
    refine PE.weak (pe_xf (d := d) T hno hz.zn.zc hz.fl (he.run W tk) hb) ?_
    rintro σ H Q ⟨G, δ, S, QD, XD, re, rl, h, q, kx⟩
    refine ⟨G, δ, S, _, XD, re, rl, h, fun G1 H1 S1 v x s1 r z => ?_, kx⟩
    cases r with
    | exn0 c' =>
      obtain ⟨rfl, hd, _, z⟩ := z
      rw [hl] at z
      exact False.elim z
    | @exn a' dd fs vs c' ds h1 h2 h3 h4 =>
      obtain ⟨rfl, hd, rfl, z⟩ := z
      rw [hl] at z
      have z' : (match ds[j]? with | some v => QD v S1 | none => False) := z
      cases hv : ds[j]? with
      | none => rw [hv] at z'; exact False.elim z'
      | some v =>
        rw [hv] at z'
        obtain ⟨u, hu, ru⟩ := h2.get hv
        exact ⟨rfl, rfl, dd, fs, u, hd.symm, s1.rel.at h1 rfl, h4 j fl u hj hu, q _ _ _ _ _ s1 ru z'⟩
    | _ => exact z.elim⟩
end
def IxOk (K : PySem.W.Frag) (cv : Value) (tab : List (Nat × Bool)) : Prop := ∀ c b, tab.lookup c = some b → ExcC K (cad K c) ∧ (PySem.W.clsIn K (cad K c)).isSome = true ∧ PySem.W.kitOne K (.ref (cad K c)) cv = some b
def dIsE (tab : List (Nat × Bool)) (a : Addr) (d : Option Addr) (c : Nat) (te : DTE) : DTE := fun δ S Q XX => te δ S (fun x S1 => match x with
  | .exn a' d' c' _ => a' = a ∧ d' = d ∧ c' = c ∧ (match tab.lookup c with
    | some b => Q (.bl b) S1
    | none => False)
  | _ => False) XX
def rIsX (K : PySem.W.Frag) (D a : Addr) (d : Option Addr) : List V → Hp → VK → Prop := fun xs H Q => ∃ (c : V) (cv : Value) (b : Bool), xs = [.ref a, c] ∧ (∀ u, RelV c u → u = cv) ∧ PySem.W.kitOne K (.ref D) cv = some b ∧ (∀ dd, d = some dd → ∃ fs, H dd = some (.xd fs)) ∧ Q (.bl b) H
theorem call_isX {X : Cx} {a D : Addr} {oe : Obj} {d : Option Addr} {pn : List (Addr × Obj)} (C : ExcC X.K D) (hcl : (PySem.W.clsIn X.K D).isSome = true) (hz : Zc (.ref D) d oe) (hf : ∃ vs, oe.data = .fields vs) : CallR (X.suite a ((a, oe) :: pn)) (.builtin "isinstance") (rIsX X.K D a d) := by
  intro pins s σ H xs us Q I r h
  obtain ⟨c, cv, b, rfl, hcv, e, hd, q⟩ := h
  cases r with
  | cons rx rr =>
    cases rr with
    | cons rt rr =>
      cases rr
      cases rx
      have ec := hcv _ rt
      subst ec
      obtain ⟨hget, _⟩ := I.pin (a, oe) (List.mem_append.mpr (.inl List.mem_cons_self))
      obtain ⟨vs, hv⟩ := hf
      have J : ∃ od, PySem.W.InstAt s.heap a oe D od := by
        cases d with
        | none => exact ⟨none, hget, hz.1, by unfold PySem.W.notCls; rw [hv] <;> rfl, by rw [hz.2]; trivial⟩
        | some dd =>
          obtain ⟨fs, ea⟩ := hd dd rfl
          have hx : ObjOk X.prog X.w H s.heap dd (.xd fs) := I.hok dd _ ea
          obtain ⟨mA, hns, hr⟩ := hx
          obtain ⟨od, ho, hl⟩ := lookIn_ns hns
          exact ⟨some od, hget, hz.1, by unfold PySem.W.notCls; rw [hv] <;> rfl, by rw [hz.2]; exact ho⟩
      obtain ⟨od, J⟩ := J
      exact PySem.W.kia_one (PySem.W.kitx_exc hcl C.hg C.hk C.hs C.ha C.hn C.ht C.hm) I.kIn J e (fun z => nomatch z) fun tk => ⟨.bl b, H, I.kept (t' := tk) fun _ _ z => z, rfl, q⟩
section
variable {X : Cx} {a : Addr} {oe : Obj} {c : Nat} {d : Option Addr} {pn : List (Addr × Obj)} {e : Expr} {te : DTE} {pos p : Pos} {tab : List (Nat × Bool)}
end
end SM
namespace SM
open PySem PySem.Spec PyProof.Rows L2
variable {K : PySem.W.Frag} {G G' G2 H H' H2 : Hp} {S S' S2 : Sto}
section
variable {P : Program} {w : World} {mg : Str → Option Value} {base : Heap}
end
section
variable {X : Cx} {e : Expr} {es : List Expr} {pos p : Pos} {k j : Nat} {x : Str} {t : DTA} {ps : List Str} {R : DSp}
end
end SM
namespace SM
open PySem PySem.Spec PyProof.Rows L2
variable {K : PySem.W.Frag}
theorem fx_of {fl : Str} {tbl : List (Nat × Nat)} (h : fxB K fl tbl = true) : FxOk K fl tbl := fun c j hl => by
  have z := List.all_eq_true.mp h _ (lookup_memP hl)
  simp only [Bool.and_eq_true] at z
  exact ⟨xfB_ok z.1, He.eqO_ok z.2.1, of_decide_eq_true z.2.2⟩
theorem exc_of {D : Addr} (h : excB K D = true) : ExcC K D ∧ (PySem.W.clsIn K D).isSome = true := by
  unfold excB at h
  simp only [Bool.and_eq_true] at h
  obtain ⟨h1, h2, h3, h4, h5, h6, h7, h8, h9⟩ := h
  exact ⟨⟨He.eqO_ok h1, He.eqO_ok h2, of_decide_eq_true h3, h4, He.eqO_ok h5, He.eqO_ok h6, of_decide_eq_true h7, of_decide_eq_true h8⟩, h9⟩
theorem ix_of {cv : Value} {tab : List (Nat × Bool)} (h : ixB K cv tab = true) : IxOk K cv tab := fun c b hl => by
  have z := List.all_eq_true.mp h _ (lookup_memP hl)
  simp only [Bool.and_eq_true] at z
  exact ⟨(exc_of z.1).1, (exc_of z.1).2, of_decide_eq_true z.2⟩
section
variable {P : Program} {w : World} {mg : Str → Option Value} {base : Heap}
end
end SM
namespace SM
open PySem PySem.Spec PyProof.Rows L2
variable {K : PySem.W.Frag} {G H : Hp} {S : Sto}
end SM
namespace SM
open PySem PySem.Spec PyProof.Rows L2
variable {K : PySem.W.Frag} {G G' G2 H H' H2 : Hp} {S S' S2 : Sto}
section
variable {X : Cx} {body : List Stmt} {h0 : ExceptHandler} {hds : List ExceptHandler} {l : List Cl} {pos : Pos} {tb : WX → TS} {Wo : WX}
end
end SM
namespace SM
open PySem PySem.Spec PyProof.Rows L2
variable {K : PySem.W.Frag} {G G' G2 H H' H2 : Hp} {S S' S2 : Sto}
section
variable {X : Cx} {pos p pos' : Pos} {x : Str} {c : Nat}
end
end SM
namespace SM
open PySem PySem.Spec PyProof.Rows L2
variable {K : PySem.W.Frag} {G G' G2 H H' H2 : Hp} {S S' S2 : Sto}
section
variable {X : Cx} {k j : Nat} {c : Nat} {oth : List Nat} {ps : List Str} {R : DSp}
end
end SM
namespace SM
open PySem PySem.Spec PyProof.Rows L2
variable {K : PySem.W.Frag} {G G' G2 H H' H2 : Hp} {S S' S2 : Sto}
section
variable {X : Cx} {a b : Expr} {pos : Pos} {k j : Nat} {ta tb : DTE} {ps : List Str} {R : DSp} {c : Nat}
end
end SM
namespace SM
open PySem PySem.Spec PyProof.Rows L2
variable {K : PySem.W.Frag} {G G' G2 H H' H2 : Hp} {S S' S2 : Sto}
section
variable {X : Cx} {k : Nat}
end
end SM
namespace SM
open PySem PySem.Spec PyProof.Rows L2
variable {K : PySem.W.Frag} {G G' G2 H H' H2 : Hp} {S S' S2 : Sto}
theorem FunS.bindsN {x qual : Str} {params : Arguments} {body : List Stmt} {scope : Scope} {f : Addr} {fd : FuncData} {cc c : Addr} {ps : List Str} (F : FunS K x qual params body scope f fd cc c)
    (h : ∀ (kV doc pm : Value) (an : Option Addr) (cc : Addr) (cdv ct : Value) (us : List Value), us.length = ps.length → bindArgs (PySem.W.fnX x qual params body scope [("__class__", cc)] .none kV doc pm an cdv ct) ⟨us, []⟩ = pure (ps.zip us)) : Binds K fd ps [] := by
  obtain ⟨oc, od, dV, kV, doc, pm, an, ct, osl, rfl, lk, hcd, hD, hK⟩ := F.ex
  rcases hD with ⟨_, rfl⟩ | ⟨e, _⟩
  · exact .all (h kV doc pm an cc (.ref c) ct)
  · exact absurd rfl e
def dSup (cs : List Nat) (R2 : DSp) (t : DTA) : DTS := fun E δ S => match δ with
  | some d :: _ => vwk S d fun d' => (match d' with
    | .ins c' _ => cs.contains c' = true ∧ t δ S (fun ds S1 => R2 (d :: ds) S1 (fun _ S2 => E.nx δ S2) (fun x S2 => E.xc x δ S2)) (fun x S1 => E.xc x δ S1)
    | _ => False)
  | _ => False
theorem startF_none {N : List Str} {vs : List V} (h : vs.length + 1 ≤ N.length) : NdefX.startF N vs [none] = L2.start N vs := by
  unfold NdefX.startF L2.start
  congr 1
  have e : N.length - vs.length = (N.length - vs.length - 1) + 1 := by omega
  rw [e, List.replicate_succ]
  simp
section
variable {X : Cx} {cc c D f2 f : Addr} {cs : List Nat} {ps2 : List Str} {k2 : Nat} {R2 : DSp} {ta : DTA} {e : Expr} {es : List Expr} {p0 p1 p2 p3 p4 : Pos} {ar : Arg} {fd fd2 : FuncData} {body : List Stmt} {σ : L2.St} {δ : DS} {s : Shared} {E : DEnds} {W : WX} {oc : Value} {od : Option Addr} {osl : Array (Option Value)}
theorem sup_step (hks : X.env.kindOf "super" = some .globalImplicit) (hkc : X.env.kindOf "__class__" = some .free) (hcl : X.env.cells.lookup ("__class__" : Str) = some cc) (hfu : X.env.func = some f) (hco : X.env.code = .ref c) (hka : X.env.kindOf ar.arg = some .local) (hN0 : X.N[0]? = some ar.arg)
    (lk : X.K.lookup f = some ⟨oc, od, .func fd, osl⟩) (har : (fd.params.posonlyargs ++ fd.params.args).head? = some ar) (U : SupF X.prog X.K X.mg cc c D f2 cs) (F2 : FnOk X.prog X.w X.K X.mg X.base (L2N.CX X.prog X.w) k2 f2 fd2 ps2 (toSp X.K R2)) (hb2 : Binds X.K fd2 ps2 []) (hr : Room k2 X.A)
    (hA : PDA X (e :: es) ta) (tk : L2N.Takes X W) (I : Inv X [] σ H s) (re : RpE X.K G σ δ) (rl : Rel X.K G H S) (h : dSup cs R2 ta E δ S) (kx : ∀ G' H' S' cls d x, Stp X.K G H S G' H' S' → Rx X.K G' cls d x → E.xc x δ S' → W cls d σ H')
    (he : starEach (e :: es) X.env = (false, eval e X.env) :: starEach es X.env) (hpl : (backTo p3 (starEach es X.env)).any (·.1) = false) {pl : Sem Bool}
    (ht : eval (.Call (.Attribute (.Call (.Name "super" p0) [] [] p1) "__init__" p2) (e :: es) [] p3) X.env = (do
      let ov ← attributeBase (.Call (.Name "super" p0) [] [] p1) "__init__" X.env (eval (.Call (.Name "super" p0) [] [] p1) X.env)
      standAt p2.atName
      let (f, first) ← holding [ov] (getMethod ov "__init__" pl)
      callWith p3 f first (backTo p3 (starEach (e :: es) X.env)) [])) (hin : interactive X.env = false) (hsw : swapsWith (.Call (.Attribute (.Call (.Name "super" p0) [] [] p1) "__init__" p2) (e :: es) [] p3) none p4.line X.env = pure false) :
    PySem.wpAt (model X.prog X.w) X.A (.func body X.env) (exec (.Expr (.Call (.Attribute (.Call (.Name "super" p0) [] [] p1) "__init__" p2) (e :: es) [] p3) p4) X.env)
      (fun fl s' => fl = .next ∧ ∃ G' H' S', Inv X [] σ H' s' ∧ Stp X.K G H S G' H' S' ∧ E.nx δ S') X.xe s := by
  obtain ⟨cl, cld, csl, hcc⟩ := U.cell
  obtain ⟨ccl, cdd, vs0, ccs, tf, hcode, hvs⟩ := U.code
  obtain ⟨cdD, hD⟩ := U.cls
  have KX := I.kIn
  unfold dSup at h
  split at h
  · rename_i d0 δ'
    rw [vwk_is] at h
    split at h
    · rename_i c' fs ex
      obtain ⟨hcs, h⟩ := h
      obtain ⟨hsub, hsup⟩ := U.sub c' hcs
      obtain ⟨v0, hv0, r0⟩ := re.at_ 0 d0 rfl
      obtain ⟨m, hns, hloc⟩ := I.loc
      obtain ⟨u0, ru, hlook⟩ := hloc 0 ar.arg v0 hN0 hv0 (.inl hka)
      obtain ⟨a, ox, odx, rfl, rfl, J⟩ := own_at I rl r0 ru ex
      have hm : m ar.arg = some (.ref a) := by
        rcases hlook with ⟨_, z⟩ | ⟨z, _⟩
        · exact z
        · rcases z with z | z <;> (rw [hka] at z; cases z)
      obtain ⟨oD, hD1, hD2⟩ : ∃ oD, s.heap.get? D = some oD ∧ oD.data = .cls cdD := by
        unfold PySem.W.clsIn at hD
        split at hD
        · rename_i c1 d1 cd1 sl1 ho
          cases hD
          exact ⟨_, KX _ _ ho, rfl⟩
        · cases hD
      obtain ⟨mb, b1, b2⟩ := I.mod.blt
      refine PySem.ks_wpAt_Expr_any (PySem.ks_wpAt_MethodCall (pl := pl) (PySem.ks_wpAt_super_base hks hkc (by decide) hfu (KX _ _ lk) rfl har hco (KX _ _ hcode) rfl hvs (by simp) U.top ?_) ht) hin hsw
      refine PySem.W.ks_loadName_global I.ok.kind hks (Calls.loadGlobal_builtin (by rw [I.ok.glob]; exact I.mod.glob.keeps I.bk) U.ng (by rw [I.ok.blt]; exact b1.keeps I.bk) ((b2 _ (by decide)).trans (show bootBuiltins "super" = some (.type "super") by decide +kernel)) ⟨rfl, ?_⟩)
      refine wpAny_loadName_free I.ok.kind hkc hcl ⟨_, KX _ _ hcc, rfl⟩ ?_
      refine wpAny_loadName_local I.ok.kind hka hns hm ?_
      obtain ⟨hh, g, d, t, os⟩ := s
      refine PySem.ks_wpAny_isType_cls hD1 hD2 ⟨rfl, ?_⟩
      refine PySem.ks_wpAny_call_super hD1 hD2 J.at_ J.cls (fun c1 e1 => ?_) (PySem.W.looks_mroIn KX hsub) (fun h' e1 k1 => ?_)
      · have := J.no
        unfold PySem.W.notCls at this
        rw [e1] at this
        exact Bool.noConfusion this
      have I1 : Inv X [] σ H ⟨h', g, d, t, os⟩ := I.kept (t' := t) k1
      have KX1 := I1.kIn
      cases hc : PySem.W.clsIn X.K (cad X.K c') with
      | none => unfold PySem.W.ks_superIn at hsup; rw [hc] at hsup; cases hsup
      | some cd1 =>
        unfold PySem.W.ks_superIn at hsup
        rw [hc] at hsup
        obtain ⟨of, hof, hofc⟩ : ∃ of, h'.get? f2 = some of ∧ of.cls = .type "function" := by
          have ht' : (X.K.lookup f2).map (·.cls) = some (.type "function") := U.ty2
          cases z : X.K.lookup f2 with
          | none => rw [z] at ht'; cases ht'
          | some of => rw [z] at ht'; exact ⟨of, KX1 _ _ z, Option.some.inj ht'⟩
        refine PySem.ks_wpAny_getMethod_super e1 (PySem.W.looks_opaque KX1 U.st) (l₀ := cd1.mro) ?_ rfl KX1 hsup hof hofc (PySem.W.ks_ne KX J hc) (by decide) ?_
        · exact fun A Q E s k q => wpAny_bind ((PySem.W.looks_clsIn KX1 hc) A _ E s k (wpAny_pure q))
        have I2 := ClX.met_new (g := f2) (C := a) I1
        refine ClX.callwith_cm (X := X) (g := f2) (C := a) I2 (ClX.base_none I1 (Nat.le_refl _)) U.fi2 ?_ he hpl
        refine thn ((hA.run W tk).run p3 _ _ σ H (fun vs H1 => ∃ G1 S1 ds, Stp X.K G H S G1 H1 S1 ∧ Rps X.K G1 vs ds ∧ R2 (d0 :: ds) S1 (fun _ S2 => E.nx (some d0 :: δ') S2) (fun x S2 => E.xc x (some d0 :: δ') S2)) I2 ⟨G, _, S, _, _, re, rl, h, fun G1 H1 S1 vs ds s1 rs q => ⟨G1, S1, ds, s1, rs, q⟩, fun G1 H1 S1 cls d1 x st rx q => kx _ _ _ _ _ _ st rx q⟩) fun us s3 ⟨vs, H3, I3, r3, G3, S3, ds, st3, rs3, q3⟩ => ⟨⟨ClX.pin_at I3, I3.kIn⟩, ?_⟩
        have hsp : toSp X.K R2 (.ref a :: vs) H3 (fun _ H4 => ∃ G4 S4, Stp X.K G H S G4 H4 S4 ∧ E.nx (some d0 :: δ') S4) (WE W σ) := ⟨G3, S3, d0 :: ds, _, _, st3.rel, .cons (r0.mono st3.sg) rs3, q3, fun G4 H4 S4 v d4 st4 rv q => ⟨G4, S4, st3.trans st4, q⟩, fun G4 H4 S4 cls d4 x st4 rx q => kx _ _ _ _ _ _ (st3.trans st4) rx q⟩
        have rv : Vals (V.ref a :: vs) (Value.ref a :: us) := .cons rfl r3
        have hl := F2.len _ _ _ _ hsp
        have bd := hb2 s3 (Value.ref a :: us) I3.kIn (by rw [List.append_nil, ← rv.length]; exact hl)
        rw [List.append_nil] at bd
        refine wpAny_call (PySem.W.method_call (ClX.pin_at I3) (codeAny_mono (F2.run X.A X.stack s3 H3 ⟨.ref a :: us, []⟩ _ _ _ _ hr I3.env0 bd rv hsp) fun r s' hq => ?_))
        match r, hq with
        | .error e9, hq => exact L2N.passAt tk σ _ H3 s3 e9 s' I3 hq
        | .ok (.ret z), hq =>
          obtain ⟨v, H4, I4, rz, G4, S4, st4, q4⟩ := ClX.unpinE (I3.after hq)
          exact ⟨rfl, G4, H4, S4, I4, st4, q4⟩
    · exact h.elim
  · exact h.elim
end
section
variable {P : Program} {w : World} {mg : Str → Option Value} {base : Heap}
abbrev nfS (x qual : Str) (params : Arguments) (body : List Stmt) (scope : Scope) (cc c : Addr) : NdefX.NF := ⟨x, qual, params, body, scope, [("__class__", cc)], c⟩
theorem fnS {x qual : Str} {params : Arguments} {rest : List Stmt} {scope : Scope} {f : Addr} {fd : FuncData} {cc c D f2 : Addr} {cs : List Nat} {N ps ps2 : List Str} {k k2 : Nat} {R R2 : DSp} {ta : DTA} {tr : DTS} {e : Expr} {es : List Expr} {p0 p1 p2 p3 p4 : Pos} {ar : Arg} {fd2 : FuncData}
    (F : FunS K x qual params (.Expr (.Call (.Attribute (.Call (.Name "super" p0) [] [] p1) "__init__" p2) (e :: es) [] p3) p4 :: rest) scope f fd cc c) (Sc : NdefX.NScope N ps ["__class__"] scope) (hks : scope.names.lookup ("super" : Str) = some .globalImplicit)
    (har : (params.posonlyargs ++ params.args).head? = some ar) (hp0 : ps[0]? = some ar.arg) (U : SupF P K mg cc c D f2 cs) (F2 : FnOk P w K mg base (L2N.CX P w) k2 f2 fd2 ps2 (toSp K R2)) (hb2 : Binds K fd2 ps2 [])
    (len : Ln ps.length R) (rd : Rd (dSeq (dSup cs R2 ta) tr) N R)
    (ha : ∀ (A : Around) (outer : List Env) (s : Shared) (H : Hp) (E : XK), Room k (A.deeper (NdefX.envF (nfS x qual params (.Expr (.Call (.Attribute (.Call (.Name "super" p0) [] [] p1) "__init__" p2) (e :: es) [] p3) p4 :: rest) scope cc c) f s.heap.objs.size)) →
      PDA (NdefX.ncx (L2N.CX P w) P w K mg base N (nfS x qual params (.Expr (.Call (.Attribute (.Call (.Name "super" p0) [] [] p1) "__init__" p2) (e :: es) [] p3) p4 :: rest) scope cc c) f A outer s H E) (e :: es) ta ∧
      PDSs (NdefX.ncx (L2N.CX P w) P w K mg base N (nfS x qual params (.Expr (.Call (.Attribute (.Call (.Name "super" p0) [] [] p1) "__init__" p2) (e :: es) [] p3) p4 :: rest) scope cc c) f A outer s H E) rest tr)
    (hk2 : k2 ≤ k := by decide) (he : ∀ L : Addr, starEach (e :: es) (NdefX.envF (nfS x qual params (.Expr (.Call (.Attribute (.Call (.Name "super" p0) [] [] p1) "__init__" p2) (e :: es) [] p3) p4 :: rest) scope cc c) f L) = (false, eval e (NdefX.envF (nfS x qual params (.Expr (.Call (.Attribute (.Call (.Name "super" p0) [] [] p1) "__init__" p2) (e :: es) [] p3) p4 :: rest) scope cc c) f L)) :: starEach es (NdefX.envF (nfS x qual params (.Expr (.Call (.Attribute (.Call (.Name "super" p0) [] [] p1) "__init__" p2) (e :: es) [] p3) p4 :: rest) scope cc c) f L) := by intro _; rfl)
    (hpl : ∀ L : Addr, (backTo p3 (starEach es (NdefX.envF (nfS x qual params (.Expr (.Call (.Attribute (.Call (.Name "super" p0) [] [] p1) "__init__" p2) (e :: es) [] p3) p4 :: rest) scope cc c) f L))).any (·.1) = false := by intro _; rfl) (hin : ∀ L : Addr, interactive (NdefX.envF (nfS x qual params (.Expr (.Call (.Attribute (.Call (.Name "super" p0) [] [] p1) "__init__" p2) (e :: es) [] p3) p4 :: rest) scope cc c) f L) = false := by intro _; rfl)
    (ht : ∀ L : Addr, ∃ pl, eval (.Call (.Attribute (.Call (.Name "super" p0) [] [] p1) "__init__" p2) (e :: es) [] p3) (NdefX.envF (nfS x qual params (.Expr (.Call (.Attribute (.Call (.Name "super" p0) [] [] p1) "__init__" p2) (e :: es) [] p3) p4 :: rest) scope cc c) f L) = (do
      let ov ← attributeBase (.Call (.Name "super" p0) [] [] p1) "__init__" (NdefX.envF (nfS x qual params (.Expr (.Call (.Attribute (.Call (.Name "super" p0) [] [] p1) "__init__" p2) (e :: es) [] p3) p4 :: rest) scope cc c) f L) (eval (.Call (.Name "super" p0) [] [] p1) (NdefX.envF (nfS x qual params (.Expr (.Call (.Attribute (.Call (.Name "super" p0) [] [] p1) "__init__" p2) (e :: es) [] p3) p4 :: rest) scope cc c) f L))
      standAt p2.atName
      let (g, first) ← holding [ov] (getMethod ov "__init__" pl)
      callWith p3 g first (backTo p3 (starEach (e :: es) (NdefX.envF (nfS x qual params (.Expr (.Call (.Attribute (.Call (.Name "super" p0) [] [] p1) "__init__" p2) (e :: es) [] p3) p4 :: rest) scope cc c) f L))) []) := by intro _; exact ⟨_, rfl⟩)
    (hsw : ∀ L : Addr, swapsWith (.Call (.Attribute (.Call (.Name "super" p0) [] [] p1) "__init__" p2) (e :: es) [] p3) none p4.line (NdefX.envF (nfS x qual params (.Expr (.Call (.Attribute (.Call (.Name "super" p0) [] [] p1) "__init__" p2) (e :: es) [] p3) p4 :: rest) scope cc c) f L) = pure false := by intro _; rfl) :
    FnOk P w K mg base (L2N.CX P w) (k + 1) f fd ps (toSp K R) := by
  obtain ⟨oc, od, dV, kV, doc, pm, an, ct, osl, rfl, lk, hcd, _, _⟩ := F.ex
  have hpl1 : ps.length + 1 ≤ N.length := by
    have q := congrArg List.length Sc.pre
    rw [List.length_take, List.length_append] at q
    simp only [List.length_cons, List.length_nil] at q
    omega
  refine ⟨fun vs H Q E h => ?_, fun A outer s H args us vs Q E hr e0 hb r hsp => ?_⟩
  · obtain ⟨G, S, ds, QD, XD, _, rs, h, _⟩ := h
    rw [rs.length]; exact len _ _ _ _ h
  obtain ⟨G, S, ds, QD, XD, rl, rs, h, kq, kx⟩ := hsp
  have hds := len _ _ _ _ h
  have hl : vs.length = ps.length := by rw [rs.length]; exact hds
  have h0 := rd ds S QD XD h
  have KX : K.In s.heap := e0.mod.kin.keeps fun b o e => (e0.bs b o e).1
  have lim : s.heap.NoLimit := e0.mod.nolimit.keeps fun b o e => (e0.bs b o e).1
  obtain ⟨cl, cld, csl, hcc⟩ := U.cell
  obtain ⟨ccl, cdd, vs0, ccs, tf, hco, hvs⟩ := U.code
  obtain ⟨cdD, hD⟩ := U.cls
  have hb3 := e0.bs _ _ (e0.mod.kin _ _ hcc)
  have C : NdefX.CellsAt [(("__class__" : Str), cc)] ["__class__"] [none] s.heap H := by
    have lk1 : ∀ {y : Str} {c1 : Addr}, ([(("__class__" : Str), cc)] : List (Str × Addr)).lookup y = some c1 → y = "__class__" ∧ c1 = cc := fun {y c1} e => by
      have m := PySem.mem_of_lookup e
      simpa using m
    refine ⟨rfl, fun y c1 e => ?_, fun y z c1 e1 e2 => (lk1 e1).1.trans (lk1 e2).1.symm, fun i y e => ?_⟩
    · obtain ⟨_, rfl⟩ := lk1 e
      exact ⟨hb3.2, _, _, hb3.1, rfl⟩
    · match i, e with
      | 0, e =>
        have ey : ("__class__" : Str) = y := by simpa using e
        subst ey
        exact ⟨cc, by simp [List.lookup], fun v z => by simp at z⟩
      | i + 1, e => simp at e
  refine PySem.ks_codeAny_call_defAt (binds := ps.zip us) hr.depth (KX _ _ lk) rfl lim (PySem.W.codeRec_of KX hcd) rfl hb Sc.nocell (fun ⟨n, _⟩ hy => Sc.par n (List.of_mem_zip hy).1) (fun h₁ hns kp => ?_) Sc.co Sc.gen Sc.kind
  have I : Inv (NdefX.ncx (L2N.CX P w) P w K mg base N (nfS x qual params (.Expr (.Call (.Attribute (.Call (.Name "super" p0) [] [] p1) "__init__" p2) (e :: es) [] p3) p4 :: rest) scope cc c) f A outer s H E) [] (NdefX.startF N vs [none]) H { s with heap := h₁, toks := s.toks + (ps.zip us).length } :=
    NdefX.inv_startN Sc hr.hd e0 hl r C hns kp
  rw [startF_none (by omega)] at I
  have re0 : RpE K G (L2.start N vs) (startD N ds) := startD_rpe rs (by omega)
  obtain ⟨hA, hR⟩ := ha A outer s H E (hr.deeper _)
  have tk : L2N.Takes (NdefX.ncx (L2N.CX P w) P w K mg base N (nfS x qual params (.Expr (.Call (.Attribute (.Call (.Name "super" p0) [] [] p1) "__init__" p2) (e :: es) [] p3) p4 :: rest) scope cc c) f A outer s H E) (fun cls d _ H => E cls d H) := L2N.takes_of rfl rfl rfl rfl
  have hN0 : N[0]? = some ar.arg := by
    have h1 : 0 < ps.length := (List.getElem?_eq_some_iff.mp hp0).1
    have q : (N.take (ps.length + 1))[0]? = (ps ++ [("__class__" : Str)])[0]? := congrArg (fun l => l[0]?) Sc.pre
    rw [List.getElem?_take_of_lt (by omega), List.getElem?_append_left h1, hp0] at q
    exact q
  obtain ⟨pl, ht⟩ := ht s.heap.objs.size
  refine PySem.ks_wpAt_execs_cons (PySem.ks_wpAt_mono (sup_step (W := fun cls d _ H => E cls d H) (X := NdefX.ncx (L2N.CX P w) P w K mg base N (nfS x qual params (.Expr (.Call (.Attribute (.Call (.Name "super" p0) [] [] p1) "__init__" p2) (e :: es) [] p3) p4 :: rest) scope cc c) f A outer s H E) hks (Sc.frk _ (by simp)) (by simp [NdefX.ncx, List.lookup]) rfl rfl (Sc.par _ (List.mem_of_getElem? hp0)) hN0 lk har U F2 hb2 ((hr.deeper _).mono hk2) hA tk I re0 rl h0 (fun G' H' S' cls d x st rx q => kx _ _ _ _ _ _ st rx q) (he _) (hpl _) (pl := pl) ht (hin _) (hsw _)) (fun fl s' hs => ?_) fun e9 s' hs => hs)
  obtain ⟨rfl, G1, H1, S1, I1, st1, q1⟩ := hs
  refine PySem.wpAt_of_wpAny ?_
  have er : ER K (fun cls d _ H => E cls d H) G1 H1 S1 (ends QD XD) { nx := fun _ H' => Q .non H', rt := Q } :=
    ⟨fun G2 H2 S2 σ2 δ2 s2 _ q => kq _ _ _ _ _ (st1.trans s2) .non q, fun G2 H2 S2 v d2 s2 r2 q => kq _ _ _ _ _ (st1.trans s2) r2 q, fun _ _ _ _ _ _ _ q => q.elim, fun _ _ _ _ _ _ _ q => q.elim, fun G2 H2 S2 σ2 δ2 cls d x s2 _ rx q => kx _ _ _ _ _ _ (st1.trans s2) rx q⟩
  refine wpAny_mono (((hR).run _ tk (passes_of rfl)).run [] s' (L2.start N vs) H1 { nx := fun _ H' => Q .non H', rt := Q } I1 ⟨G1, _, S1, _, re0.mono st1.sg, st1.rel, q1, er⟩) (fun fl s2 hs => ?_) fun e9 s2 hs => hs
  have fin : ∀ {σ' : L2.St} {H' : Hp} {v : V} {u : Value}, Inv (NdefX.ncx (L2N.CX P w) P w K mg base N (nfS x qual params (.Expr (.Call (.Attribute (.Call (.Name "super" p0) [] [] p1) "__init__" p2) (e :: es) [] p3) p4 :: rest) scope cc c) f A outer s H E) [] σ' H' s2 →
      L2.RelV v u → Q v H' → CE outer P w H s Q u s2 := fun {σ' H' v u} J rv q => ⟨v, H', J.os, J.bare, J.base, J.hok, rv, q⟩
  cases fl with
  | ret u =>
    obtain ⟨v, σ', H', J, rv, q⟩ := hs
    exact fin J rv q
  | next =>
    obtain ⟨σ', H', J, q⟩ := hs
    exact fin (v := V.non) (u := Value.none) J rfl q
  | brk =>
    obtain ⟨_, _, _, q⟩ := hs
    exact False.elim q
  | cont =>
    obtain ⟨_, _, _, q⟩ := hs
    exact False.elim q
end
end SM
namespace SM
open PySem PySem.Spec PyProof.Rows L2
open PySem.W (EachIs AllAlike Sortable dataLe)
variable {K : PySem.W.Frag} {G G' G2 H H' H2 : Hp} {S S' S2 : Sto}
section
variable {X : Cx} {pos pos' : Pos} {e o i : Expr} {te : DTE} {k : Nat}
def dDictO : DTE := fun _ S Q _ => ∀ p, S p = none → Q (.adr p) (su S p (.dT []))
theorem de_dictO : PD X (.Dict [] [] pos) dDictO := ⟨fun W tk => PE.weak pe_dnewT (by
  rintro σ H Q ⟨G, δ, S, QD, XD, re, rl, h, kq, kx⟩
  intro p hp
  exact kq _ _ _ _ _ (Stp.newO rl hp (o := .dT []) ⟨[], rfl, .nil⟩) (.adr p) (h p (rl.free hp).2))⟩
def dSetK (to ti te : DTE) : DTS := fun E δ S => te δ S (fun d S1 => to δ S1 (fun y S2 => ti δ S2 (fun z S3 => match y, z with
  | .adr q, .tup ds => ownk S3 q fun oo => (match oo with
    | some (.dT kvs) => (match dKeys ds with
      | some ks => kvs.length < sizeLine ∧ E.nx δ (su S3 q (.dT (putD kvs ks d)))
      | none => False)
    | _ => False)
  | _, _ => False) (fun x S1 => E.xc x δ S1)) (fun x S1 => E.xc x δ S1)) (fun x S1 => E.xc x δ S1)
theorem ds_setK {to ti : DTE} (hr : Room k X.A) (he : PD X e te) (ho : PD X o to) (hi : PD X i ti) (hs : swapsWithSole [.Subscript o i pos'] e pos.line X.env = pure false := by rfl) (hw : swappedStores [.Subscript o i pos'] e X.env = pure none := by rfl)
    (h1 : (assignEach [.Subscript o i pos'] X.env).map (·.2) = [assign (.Subscript o i pos') X.env] := by rfl)
    (ha : ∀ v, assign (.Subscript o i pos') X.env v = (do
      let ov ← holding [v] (eval o X.env)
      let iv ← holding [v, ov] (eval i X.env)
      standAt pos'
      holding [v, ov, iv] (setItem ov iv v)
      release [v, ov, iv] []) := by intro _; rfl) : PDS X (.Assign [.Subscript o i pos'] e pos) (dSetK to ti te) := ⟨fun W tk po => PS.weak (ps_asg (he.run W tk) (pg_sub (ho.run W tk) (hi.run W tk) (set_dict (by have := hr.un; omega)) ha) hs hw h1) (by
  rintro D σ H ⟨G, δ, S, E, re, rl, h, er⟩
  refine ⟨G, δ, S, _, _, re, rl, h, fun G1 H1 S1 v d s1 rv q => ⟨G1, δ, S1, _, _, re.mono s1.sg, s1.rel, q, fun G2 H2 S2 y dy s2 ry q2 => ⟨G2, δ, S2, _, _, re.mono (s1.trans s2).sg, s2.rel, q2, fun G3 H3 S3 z dz s3 rz q3 => ?_, (er.kx re).step (s1.trans s2)⟩, (er.kx re).step s1⟩, er.kx re⟩
  split at q3
  · rename_i q ds
    cases ry
    simp only [ownk_is] at q3
    split at q3
    · rename_i kvs eS
      split at q3
      · rename_i ks ek
        obtain ⟨hl, q3⟩ := q3
        obtain ⟨_, ws, e1, r1⟩ := s3.rel.own q _ eS
        obtain ⟨b, us, rfl, _, hb, rb, _⟩ := vw_tup s3.rel rz rfl
        have eu := dKeys_rps rb ek
        subst eu
        refine ⟨q, _, rfl, DPut.t e1 hb (by rw [rkv_len r1]; exact hl), ?_⟩
        have s4 : Stp X.K G3 H3 S3 G3 (upd H3 q (.dT (putK ws ks v))) (su S3 q (.dT (putD kvs ks d))) := Stp.mut s3.rel eS ⟨_, rfl, rkv_put ks r1 (rv.mono (s2.trans s3).sg)⟩
        have s14 := ((s1.trans s2).trans s3).trans s4
        exact er.nx _ _ _ _ _ s14 (re.mono s14.sg) q3
      · exact q3.elim
    · exact q3.elim
  · exact q3.elim)⟩
end
theorem each_signs (x : Str) : ∀ (l : List Nat) (n : Nat) (vs : List Value), (∀ (j : Nat) (c : Nat), l[j]? = some c → x.cps[n + j]? = some c) → vs.length = l.length → (∀ (j : Nat) (v : Value), vs[j]? = some v → SignAt x (n + j) v) →
    EachIs (fun v c => ∃ u, v = Value.str (one c) u) vs l
  | [], n, vs, _, hl, _ => by rw [List.length_eq_zero_iff.mp hl]; exact .nil
  | c :: l, n, vs, h1, hl, h2 => by
    match vs, hl with
    | v :: r, hl =>
      obtain ⟨c', u, e1, e2⟩ := h2 0 v rfl
      have e3 := h1 0 c rfl
      rw [e1] at e3
      cases e3
      refine .cons ⟨u, e2⟩ (each_signs x l (n + 1) r (fun j d e => ?_) (by simpa using hl) (fun j v e => ?_))
      · have := h1 (j + 1) d e
        rw [show n + 1 + j = n + (j + 1) by omega]; exact this
      · have := h2 (j + 1) v e
        rw [show n + 1 + j = n + (j + 1) by omega]; exact this
theorem sorted_str {prog : Program} {w : World} {A : Around} {E : Value → Shared → Prop} {s : Shared} {x : Str} {t : Tok} {Q : Value → Shared → Prop} (hh : A.handled = none) (hn : x.cps.size ≤ sizeLine) (hu : A.units + 64 < cLine)
    (h : ∀ h' out tk, (∀ b o, s.heap.get? b = some o → h'.get? b = some o) → ∀ p n, s.heap.get? p = none → h'.get? p = some (seqObj "list" out n) → EachIs (fun v c => ∃ u, v = Value.str (one c) u) out.toList (x.cps.toList.mergeSort (dataLe false fun c => PyData.str (one c))) → Q (.ref p) { s with heap := h', toks := tk }) :
    wpAny (model prog w) A (call (.builtin "sorted") [.str x t]) Q E s := by
  refine call_function_entry_kw kind_sorted plain_sorted entry_sorted (args_sorted1 _) ?_
  unfold Builtin.«sorted»
  refine wpAny_bind (m := checkCount "sorted" 1 1 _) (wpAny_pure ?_)
  refine wpAny_bind (wpAny_collect_str (by exact hh) x t (fun s' acc kp hg hd ho hi => ?_) hn)
  have hl : acc.toList.length = x.cps.toList.length := by rw [Array.length_toList, Array.length_toList]; exact hi.1
  have hz : x.cps.toList.length ≤ sizeLine := by rw [Array.length_toList]; exact hn
  have ev : EachIs (fun v c => ∃ u, v = Value.str (one c) u) acc.toList x.cps.toList := each_signs x _ 0 _ (fun j c e => by rw [Nat.zero_add, ← Array.getElem?_toList]; exact e) hl (fun j v e => by rw [Nat.zero_add]; exact hi.2 j v (by rw [← Array.getElem?_toList]; exact e))
  refine wpAny_bind (wpAny_newList ?_ (by rw [hl]; exact hz))
  have hnew : (s'.heap.push (seqObj "list" acc.toList.toArray 0)).get? s'.heap.objs.size = some (seqObj "list" acc.toList.toArray 0) := Heap.get?_push_size _ rfl
  refine wpAny_bind (wpAny_holding (PySem.W.list_sort_data (R := fun v c => ∃ u, v = Value.str (one c) u) (enc := fun c => PyData.str (one c)) (bs := x.cps.toList) (vs := acc.toList) hnew ev (ev.mono fun v c ⟨u, e⟩ => ⟨[], by subst e; exact .str _ _, by simp⟩) (PySem.W.AllAlike.of fun _ _ => rfl) (PySem.W.Sortable.others fun _ => ⟨(fun z => nomatch z), fun _ z => nomatch z⟩) hz ?_ (fun out hlen eo => ?_)))
  · intro b _
    show A.in1.units + 1 + (PyData.str (one b)).depth < cLine
    simp only [PyData.depth]
    have e1 : A.in1.units = A.units + 1 := rfl
    omega
  · refine wpAny_pure ⟨_, rfl, ?_⟩
    obtain ⟨hp, g, d, tk, os⟩ := s'
    subst hg hd ho
    have ne : ∀ b o, s.heap.get? b = some o → b ≠ hp.objs.size := fun b o e => Nat.ne_of_lt (Heap.lt_size (kp b o e))
    have hno : s.heap.get? hp.objs.size = none := by
      cases q : s.heap.get? hp.objs.size with
      | none => rfl
      | some o => exact absurd rfl (ne _ _ q)
    obtain ⟨n, hat⟩ := sortedHeap_at (out := out.toArray) hnew
    refine h _ out.toArray tk (fun b o e => ?_) hp.objs.size n hno hat (by simpa using eo)
    have e2 : (hp.push (seqObj "list" acc.toList.toArray 0)).get? b = some o := Heap.get?_push_of_some _ (kp b o e)
    exact (sortedHeap_old (ne b o e) (Heap.lt_size e2)).trans e2
def codesD (s : Str) : List D := s.cps.toList.map fun c => .str (one c)
def sortS (d : D) (S : Sto) (Q : DQ) : Prop := vwk S d fun d' => match d' with
  | .str s => Q (.lst (sorted (codesD s))) S
  | _ => False
theorem sorted_codes (s : Str) : sorted (codesD s) = (s.cps.toList.mergeSort (dataLe false fun c => PyData.str (one c))).map fun c => .str (one c) := by
  unfold sorted codesD
  exact (PySem.W.sort_maps (r := dataLe false fun c : Nat => PyData.str (one c)) (s := dataLe false toP) (fun c : Nat => D.str (one c)) (l := s.cps.toList) (fun _ _ _ _ => rfl)).symm
theorem rps_signs : ∀ {l : List Nat} {out : List Value}, (∀ c ∈ l, okS (one c)) → EachIs (fun v c => ∃ u, v = Value.str (one c) u) out l → Rps K G (l.map fun c => V.str (one c)) (l.map fun c => D.str (one c)) ∧ Vals (l.map fun c => V.str (one c)) out
  | [], _, _, .nil => ⟨.nil, .nil⟩
  | c :: l, _, h, .cons a b => by
    obtain ⟨r1, r2⟩ := rps_signs (fun d hd => h d (List.mem_cons_of_mem _ hd)) b
    exact ⟨.cons (.str (h c (List.mem_cons_self ..))) r1, .cons a r2⟩
theorem c_sortedS {X : Cx} {k : Nat} (hr : Room k X.A) : CallR X (.builtin "sorted") (liftC X.K (on1 sortS)) := by
  intro pins s σ H vs us Q I r h
  obtain ⟨G, S, ds, QD, rl, rs, h, kq⟩ := h
  obtain ⟨d, v, rfl, rfl, rx, h⟩ := on1_of h rs
  simp only [sortS, vwk_is] at h
  split at h
  · rename_i x ex
    obtain ⟨e, hz⟩ := (vw_scal rx).2.2.1 _ ex
    subst e
    obtain ⟨u, rfl, ru⟩ := vals1 r
    obtain ⟨t, rfl⟩ := (show RelV (.str x) u from by cases rx; exact ru)
    have hz2 := okS_iff.mp hz
    refine sorted_str hr.hd hz2.1 hr.units fun h' out tk kp p n hno hat eo => ?_
    have lo : (x.cps.toList.mergeSort (dataLe false fun c => PyData.str (one c))).length = x.cps.toList.length := (List.mergeSort_perm ..).length_eq
    have okc : ∀ c ∈ x.cps.toList.mergeSort (dataLe false fun c => PyData.str (one c)), okS (one c) := fun c hc => by
      refine okS_iff.mpr ⟨by show 1 ≤ sizeLine; rw [sizeLine_eq]; omega, fun c' hc' => ?_⟩
      have e : c' = c := by simpa [one] using hc'
      rw [e]
      exact hz2.2 c ((List.mergeSort_perm ..).mem_iff.mp hc)
    obtain ⟨r1, r2⟩ := rps_signs (K := X.K) (G := G) okc eo
    rw [← sorted_codes] at r1
    have hl : (sorted (codesD x)).length ≤ sizeLine := by rw [sorted_codes, List.length_map, lo, Array.length_toList]; exact hz2.1
    have hn : H p = none := I.hok.gone hno
    obtain ⟨s1, r3⟩ := fz_lst rl hn r1 hl
    refine ⟨.ref p, _, I.laidN (t' := tk) kp hno hn ?_, rfl, kq _ _ _ _ _ s1 r3 h⟩
    exact ⟨by rw [r1.length]; exact hl, out.toList, n, r2, by simpa using hat⟩
  · exact h.elim
end SM
namespace SM
open PySem PySem.Spec PyProof.Rows L2
variable {K : PySem.W.Frag} {G G' G2 H H' H2 : Hp} {S S' S2 : Sto}
section
variable {X : Cx} {e o : Expr} {es : List Expr} {pos apos : Pos} {k j : Nat} {m : Str} {t : DTA} {to : DTE} {T : List (Nat × DSp)}
theorem tab_r {T : List (Nat × DSp)} {c : Nat} {fs : List D} {R : DSp} {F : DSp → Prop} (h : T.lookup c = some R) (q : F R) : tabK T (.ins c fs) F := ⟨c, fs, R, R, rfl, h, fun _ _ _ _ z => z, q⟩
theorem tabv_r {T : List (Nat × Str)} {c : Nat} {fs : List D} {z : Str} {F : Str → Prop} (h : T.lookup c = some z) (q : F z) : tabV T (.ins c fs) F := ⟨c, fs, z, rfl, h, q⟩
end
end SM
namespace SM
open PySem PySem.Spec PyProof.Rows L2
open PySem.W (Frag)
abbrev Df.IsS (K : Frag) (d : Df) : Prop := ∃ fd, FunS K d.name d.qual (defArgs d.st) (defBody d.st) (defScope d.st) (d.ad K) fd (ccOf K (d.ad K)) (coOf K (d.ad K))
theorem Df.isS {K : Frag} {d : Df} (e : d.obS K = d.val) (c : d.okS K = true) : d.IsS K := by
  unfold Df.okS at c
  rw [Bool.and_eq_true] at c
  obtain ⟨kp, c2⟩ := c
  unfold Df.obS at e
  split at c2
  · rename_i oc od g osl lk
    rw [lk] at e
    simp only [Bool.and_eq_true] at c2
    obtain ⟨c3, c4, c5, c6, c7⟩ := c2
    obtain ⟨n1, n2, n3, n4, n5, n6, n7, n8, n9, n10, n11, n12, n13, n14, n15⟩ := g
    simp only [Df.val, Option.some.injEq, Prod.mk.injEq] at e
    obtain ⟨rfl, rfl, rfl, rfl, rfl, rfl, _, rfl⟩ := e
    dsimp only at c3 c4 c5 c6 c7
    split at c6
    · rename_i cd
      split at c7
      · rename_i n cc
        have hn := of_decide_eq_true c7
        subst hn
        have e1 : ccOf K (d.ad K) = cc := by unfold ccOf; rw [lk]
        have e2 : coOf K (d.ad K) = cd := by unfold coOf; rw [lk]
        refine ⟨_, ⟨oc, od, n8, n9, n10, n11, n12, n14, osl, rfl, ?_, ?_, He.dflB_ok c4, He.kwdB_ok c5⟩, kp⟩
        · rw [e1, e2]; exact lk
        · rw [e2]; exact c3
      · cases c7
    · cases c6
  · cases c2
theorem Says2.fact {ch : ChK} {fn fs : List Df} {K : Frag} (c : Says2 ch fn fs K) (i : Nat) {p : Frag → Bool} (h : ch[i]? = some p := by rfl) : p K = true :=
  List.all_eq_true.mp c.bool.1 p (List.mem_of_getElem? h)
theorem Says2.lists {ch : ChK} {fn fs : List Df} {K : Frag} (c : Says2 ch fn fs K) : (fn.map fun d => d.ob K) = fn.map Df.val ∧ (fs.map fun d => d.obS K) = fs.map Df.val :=
  List.append_inj (congrArg Prod.snd c) (by rw [List.length_map, List.length_map])
theorem Says2.df {ch : ChK} {fn fs : List Df} {K : Frag} (c : Says2 ch fn fs K) (i : Nat) {d : Df} (h : fn[i]? = some d := by rfl) : d.Is K := by
  have e2 : (fn.map fun d => d.ob K)[i]? = (fn.map Df.val)[i]? := by rw [c.lists.1]
  rw [List.getElem?_map, List.getElem?_map, h] at e2
  exact Df.is (Option.some.inj e2) (List.all_eq_true.mp c.bool.2.1 d (List.mem_of_getElem? h))
theorem Says2.dfS {ch : ChK} {fn fs : List Df} {K : Frag} (c : Says2 ch fn fs K) (i : Nat) {d : Df} (h : fs[i]? = some d := by rfl) : d.IsS K := by
  have e2 : (fs.map fun d => d.obS K)[i]? = (fs.map Df.val)[i]? := by rw [c.lists.2]
  rw [List.getElem?_map, List.getElem?_map, h] at e2
  exact Df.isS (Option.some.inj e2) (List.all_eq_true.mp c.bool.2.2 d (List.mem_of_getElem? h))
theorem sup_of {P : Program} {K : Frag} {mg : Str → Option Value} {f f2 : Addr} {dc : Nat} {cs : List Nat} {file : Str} (h : supB K f dc f2 cs file = true) (hn : mg "super" = none) (hf : P.main.file = file) (ht : (P.main.scope.names.lookup ("super" : Str)).isSome = false) :
    SupF P K mg (ccOf K f) (coOf K f) (cad K dc) f2 cs := by
  unfold supB at h
  simp only [Bool.and_eq_true] at h
  obtain ⟨h1, h2, h3, h4, h5, h6, h7⟩ := h
  refine ⟨?_, ?_, Option.isSome_iff_exists.mp h3, ht, hn, He.eqO_ok h4, of_decide_eq_true h5, h6, fun c' hc => ?_⟩
  · split at h1
    · rename_i cl cld D csl e
      rw [← of_decide_eq_true h1]
      exact ⟨_, _, _, e⟩
    · cases h1
  · split at h2
    · rename_i ccl cdd vs ccs e
      split at h2
      · rename_i fl tf ev
        have hfl := of_decide_eq_true h2
        subst hfl
        rw [← hf] at ev
        exact ⟨_, _, _, _, _, e, ev⟩
      · cases h2
    · cases h2
  · have hm : c' ∈ cs := by simpa using hc
    have := List.all_eq_true.mp h7 c' hm
    rw [Bool.and_eq_true] at this
    exact ⟨of_decide_eq_true this.1, He.eqO_ok this.2⟩
end SM
namespace SM
open PySem PySem.Spec PyProof.Rows L2
variable {K : PySem.W.Frag} {G G' G2 H H' H2 : Hp} {S S' S2 : Sto}
section
variable {X : Cx} {e o ke : Expr} {es : List Expr} {pos apos kpos : Pos} {k j n : Nat} {m kx : Str} {t : DTA} {to tke : DTE} {T : List (Nat × DSp)} {dds : List D}
end
end SM
namespace SM
open PySem PySem.Spec PyProof.Rows L2
end SM
namespace SM
open PySem PySem.Spec PyProof.Rows L2
end SM
namespace SM
open PySem PySem.Spec PyProof.Rows L2
section
variable {X : Cx} {e o : Expr} {es : List Expr} {pos apos : Pos} {k j n : Nat} {m : Str} {t : DTA} {R : DSp}
end
end SM
namespace SM
open PySem PySem.Spec PyProof.Rows L2
section
variable {X : Cx} {o e : Expr} {m : Str} {pos pos' : Pos} {k j c : Nat} {ps : List Str} {R : DSp} {to te : DTE}
end
end SM
namespace SM
open PySem PySem.Spec PyProof.Rows L2
variable {K : PySem.W.Frag} {G G' G2 H H' H2 : Hp} {S S' S2 : Sto}
section
variable {X : Cx}
theorem ld_names {a : Addr} {oe : Obj} {pn : List (Addr × Obj)} {σ : L2.St} {H : Hp} {s : Shared} {x : Str} {c : Value} {np : Pos} {Q : Value → Shared → Prop} {E : Value → Shared → Prop} (I : Inv (X.suite a ((a, oe) :: pn)) [] σ H s) (hc : Names X x c) (q : Q c s) :
    wpAny (model X.prog X.w) (X.A.mark (some (.ref a))) (eval (.Name x np) X.env) Q E s := by
  obtain ⟨hg, hdbg, hm | ⟨hm, hv, hnn⟩⟩ := hc
  · exact ld_glob (X := X.suite a ((a, oe) :: pn)) I hg hm q hdbg
  · exact ld_blt (X := X.suite a ((a, oe) :: pn)) I hg hm hv q hnn hdbg
end
section
variable {X : Cx} {body : List Stmt} {h0 : ExceptHandler} {hds : List ExceptHandler} {l : List ClG} {pos : Pos} {tb : WX → TS} {Wo : WX}
end
end SM
namespace SM
open PySem PySem.Spec PyProof.Rows L2 HotX
section
variable {prog : Program} {w : World} {A : Around} {E : Value → Shared → Prop} {s : Shared}
theorem rec_noType {b : Addr} {ob : Obj} {fl : Array Value} {Q : Bool → Shared → Prop} (g : s.heap.get? b = some ob) (r : ob.data = .fields fl) (q : Q false s) :
    wpAny (model prog w) A (isType (.ref b)) Q E s := by
  simp only [isType, loadHead]
  exact wpAny_bind (wpAny_loadPart g (by rw [r]; exact wpAny_pure q))
theorem exc_self {b : Addr} {ob : Obj} {fl : Array Value} {k : Value} {msg : String} {Q : Value → Shared → Prop} (g : s.heap.get? b = some ob) (r : ob.data = .fields fl) (hk : ob.cls = k)
    (L : PySem.W.Looks (model prog w) s.heap (isSubtype k (.type "BaseException")) true) (q : Q (.ref b) s) : wpAny (model prog w) A (excFromValue (.ref b) msg) Q E s := by
  have ty : PySem.W.Looks (model prog w) s.heap (typeOf (.ref b)) k := fun _ _ _ _ kp z => wpAny_typeOf_ref (kp _ _ g) (by rw [hk]; exact z)
  unfold excFromValue isExcClass
  refine wpAny_bind <| wpAny_bind <| rec_noType g r ?_
  rw [if_neg Bool.false_ne_true]
  refine wpAny_pure ?_
  rw [if_neg Bool.false_ne_true]
  exact wpAny_bind ((ty.andThen L).here (by rw [if_pos rfl]; exact wpAny_pure q))
theorem goes_hot {a x1 : Addr} {ob : Obj} {fl : Array Value} {k : Value} {Q : Flow → Shared → Prop} (hot : HotAt A x1 s.heap) (ne : x1 ≠ a) (g : s.heap.get? a = some ob) (r : ob.data = .fields fl) (hk : ob.cls = k) (f1 : fl[1]? = some .none) (f2 : 2 < fl.size)
    (L : PySem.W.Looks (model prog w) s.heap (typeOf k) (.type "type")) (q : E (.ref a) { s with heap := s.heap.update a (Obj.mapFields (·.setIfInBounds 2 (.ref x1))) }) :
    wpAny (model prog w) A (do
      let t ← isType (.ref a)
      if t = true then (holding [.ref a] (raisedFor (.ref a) (.ref a)) >>= fun v => setFlight v none >>= fun _ => raiseNew v)
      else (raisedInstance (.ref a) >>= fun v => setFlight v none >>= fun _ => raiseNew v) : Sem Flow) Q E s := by
  have ty : PySem.W.Looks (model prog w) s.heap (typeOf (.ref a)) k := fun _ _ _ _ kp z => wpAny_typeOf_ref (kp _ _ g) (by rw [hk]; exact z)
  refine wpAny_bind <| rec_noType g r ?_
  rw [if_neg Bool.false_ne_true]
  unfold raisedInstance setFlight
  refine wpAny_bind <| wpAny_bind <| ty.here <| wpAny_bind <| L.here ?_
  rw [if_pos (show (Value.type "type" == Value.type "type") = true from rfl)]
  refine wpAny_pure <| wpAny_bind <| wpAny_bind <| wpAny_field g r f1 ?_
  rw [if_neg (show ¬ ((Value.none != Value.none) = true) from by decide)]
  exact wpAny_pure (raiseNew_hot hot ne g r f2 q)
end
def fromH (h : Heap) (a x1 : Addr) : Heap := (h.update a (Obj.mapFields (·.setIfInBounds 3 (.ref x1)))).update a (Obj.mapFields (·.setIfInBounds 4 (.bool true)))
def fromO (ob : Obj) (x1 : Addr) : Obj := (ob.mapFields (·.setIfInBounds 3 (.ref x1))).mapFields (·.setIfInBounds 4 (.bool true))
def fromF (fl : Array Value) (x1 : Addr) : Array Value := (fl.setIfInBounds 3 (.ref x1)).setIfInBounds 4 (.bool true)
theorem fromO_data {ob : Obj} {fl : Array Value} {x1 : Addr} (r : ob.data = .fields fl) : (fromO ob x1).data = .fields (fromF fl x1) := Obj.data_mapFields (Obj.data_mapFields r _) _
theorem fromO_cls {ob : Obj} {x1 : Addr} : (fromO ob x1).cls = ob.cls := by unfold fromO; simp only [Obj.cls_mapFields]
theorem fromO_dict {ob : Obj} {x1 : Addr} : (fromO ob x1).dict = ob.dict := by unfold fromO; simp only [PySem.HandSPX.dict_mapFields]
theorem fromF_1 {fl : Array Value} {x1 : Addr} {z : Value} (e : fl[1]? = some z) : (fromF fl x1)[1]? = some z := set_other (i := 4) (by decide) <| set_other (i := 3) (by decide) e
theorem fromF_size {fl : Array Value} {x1 : Addr} : (fromF fl x1).size = fl.size := by unfold fromF; simp only [set_size]
theorem fromH_self {h : Heap} {a x1 : Addr} {ob : Obj} {fl : Array Value} (g : h.get? a = some ob) (r : ob.data = .fields fl) : (fromH h a x1).get? a = some (fromO ob x1) :=
  Heap.get?_update_self _ (Heap.get?_update_self _ g (Obj.isFreed_of_fields (Obj.data_mapFields r _))) (Obj.isFreed_of_fields (fromO_data r))
theorem fromH_ne {h : Heap} {a b x1 : Addr} (ne : a ≠ b) : (fromH h a x1).get? b = h.get? b := (Heap.get?_update_other _ _ ne).trans (Heap.get?_update_other _ _ ne)
theorem raise_from {prog : Program} {w : World} {A : Around} {E : Value → Shared → Prop} {env : Env} {s : Shared} {x c : Sem Value} {Q : Flow → Shared → Prop} {x1 : Addr} {k1 : Value}
    (h : wpAny (model prog w) A x (fun v s1 => ∃ a ob fl k, v = .ref a ∧ (s1.heap.get? a = some ob ∧ ob.data = .fields fl ∧ ob.cls = k) ∧ fl[1]? = some .none ∧ 4 < fl.size ∧ x1 ≠ a ∧ HotAt A x1 s1.heap ∧
      (∃ o1, s1.heap.get? x1 = some o1 ∧ o1.cls = k1) ∧ PySem.W.Looks (model prog w) s1.heap (isSubtype k1 (.type "BaseException")) true ∧
      (∀ R : Value → Shared → Prop, R (.ref x1) s1 → wpAny (model prog w) A c R E s1) ∧ PySem.W.Looks (model prog w) s1.heap (isSubtype k (.type "BaseException")) true ∧
      PySem.W.Looks (model prog w) (fromH s1.heap a x1) (typeOf k) (.type "type") ∧ E (.ref a) { s1 with heap := (fromH s1.heap a x1).update a (Obj.mapFields (·.setIfInBounds 2 (.ref x1))) }) E s) :
    wpAny (model prog w) A (raiseStmt env (some x) (some c)) Q E s := by
  unfold raiseStmt
  refine wpAny_bind (thn h fun v s1 z => ?_)
  obtain ⟨a, ob, fl, k, ev, ⟨g, r, hk⟩, f1, f4, ne, hot, ⟨o1, g1, hk1⟩, LX, hc, L, LT, q⟩ := z
  subst ev
  obtain ⟨fl1, r1⟩ : ∃ fl1, o1.data = .fields fl1 := by
    obtain ⟨_, o, vs, e1, e2, _⟩ := hot
    cases g1.symm.trans e1
    exact ⟨vs, e2⟩
  have hot4 : HotAt A x1 (fromH s1.heap a x1) := by
    obtain ⟨e0, o, vs, e1, e2⟩ := hot
    exact ⟨e0, o, vs, (fromH_ne (Ne.symm ne)).trans e1, e2⟩
  refine wpAny_bind <| wpAny_holding <| hc _ <| wpAny_bind <| wpAny_pure ?_
  refine wpAny_bind <| wpAny_holding <| exc_self g r hk L ?_
  refine wpAny_bind <| wpAny_holding <| exc_self g1 r1 hk1 LX ?_
  refine wpAny_bind <| wpAny_setField g r (by omega) <| wpAny_bind <| wpAny_setField (Heap.get?_update_self _ g (Obj.isFreed_of_fields (Obj.data_mapFields r _))) (Obj.data_mapFields r _) (by rw [set_size]; exact f4) ?_
  have z := goes_hot (s := { s1 with heap := fromH s1.heap a x1 }) (Q := Q) (E := E) hot4 ne (fromH_self g r) (fromO_data r) (fromO_cls.trans hk) (fromF_1 f1) (by rw [fromF_size]; omega) LT q
  exact z
section
variable {X : Cx} {W : WX}
theorem var_at {pins : List (Addr × Obj)} {σ : L2.St} {H : Hp} {s : Shared} {i : Nat} {n : Str} {b : Addr} {pos : Pos} {E R : Value → Shared → Prop} (I : Inv X pins σ H s) (hN : X.N[i]? = some n) (hv : Vis X.env.scope n)
    (e : σ[i]? = some (some (.ref b))) (q : R (.ref b) s) (hd : (n == ("__debug__" : Str)) = false) (hcd : (n == ("__classdict__" : Str)) = false) :
    wpAny (model X.prog X.w) X.A (eval (.Name n pos) X.env) R E s := by
  obtain ⟨names, ns, look⟩ := I.loc
  obtain ⟨_, rfl, at_⟩ := look i n (.ref b) hN e hv
  have kd := I.ok.kind
  match at_ with
  | .inl ⟨k, f⟩ => exact wpAny_Name (wpAny_loadName_local kd k ns f q) hd
  | .inr ⟨.inl k, _, f, cl⟩ => exact wpAny_Name (wpAny_loadName_cell kd k f cl q) hd
  | .inr ⟨.inr k, _, f, cl⟩ => exact wpAny_Name (wpAny_loadName_free kd k f cl q hcd) hd
theorem ps_raiseHF {i : Nat} {n : Str} {e : Expr} {t : L2.St → Hp → XK → Prop} {np pos : Pos} {p : Addr × Obj} {cx : Value} (hot : L2H.Hot1 X.A p) (hp : p ∈ X.pn) (hcx : p.2.cls = cx)
    (rx : ∀ (M : Model) (h : Heap), X.K.In h → PySem.W.Looks M h (isSubtype cx (.type "BaseException")) true) (tk : L2.Takes X W) (he : L2H.PMk5 X e t) (hN : X.N[i]? = some n) (hv : Vis X.env.scope n)
    (hd0 : (n == ("__debug__" : Str)) = false := by decide) (hcd : (n == ("__classdict__" : Str)) = false := by decide) :
    PS X (.Raise (some e) (some (.Name n np)) pos) (fun _ σ H => σ[i]? = some (some (.ref p.1)) ∧ t σ H fun cls d H' => W cls d σ H') := ⟨fun pins s σ H D I ⟨hσ, h⟩ => by
  obtain ⟨hh, vp, ep, cp⟩ := hot
  show wpAny _ _ (standAt pos >>= fun _ => raiseStmt X.env (some (eval e X.env >>= fun v => standAt pos >>= fun _ => pure v)) (some (eval (.Name n np) X.env >>= fun v => standAt pos >>= fun _ => pure v))) _ _ _
  refine wpAny_bind <| wpAny_standAt <| raise_from (x1 := p.1) (k1 := cx) <| wpAny_bind <| thn (he pins s σ H _ I h) fun u s1 made => wpAny_bind <| wpAny_standAt <| wpAny_pure ?_
  obtain ⟨⟨a, ob, fl, sI, H1, k, d, eu, J, keep, fresh, ga, zn, dat, f1, na, os, bare, rs, q⟩, six⟩ := made
  subst eu
  have apart : ∀ {b : Addr} {o : Obj}, sI.heap.get? b = some o → a ≠ b := fun {b o} g z => by rw [z, g] at fresh; cases fresh
  have keep4 : ∀ b o, sI.heap.get? b = some o → (fromH s1.heap a p.1).get? b = some o := fun b o g => (fromH_ne (apart g)).trans (keep b o g)
  have at1 : Inv X pins σ H1 s1 := J.call' (ch := []) os (Un.kept keep) (J.hok.kept keep) bare fun _ z => nomatch z
  have gp := (J.pin p (List.mem_append.mpr (.inl hp))).1
  have g4 := fromH_self (x1 := p.1) ga dat
  have d4 := Obj.data_mapFields (fromO_data (x1 := p.1) dat) (·.setIfInBounds 2 (Value.ref p.1))
  refine ⟨a, ob, fl, k, rfl, ⟨ga, dat, zn.1⟩, f1, six a ob fl rfl ga dat, Ne.symm (apart gp), ⟨hh, p.2, vp, keep _ _ gp, ep, cp⟩, ⟨p.2, keep _ _ gp, hcx⟩, rx _ _ (J.kIn.keeps keep),
    fun R z => wpAny_bind (var_at at1 hN hv hσ (wpAny_bind (wpAny_standAt (wpAny_pure z))) hd0 hcd), (rs _ _ (J.kIn.keeps keep)).1, (rs _ _ (J.kIn.keeps keep4)).2, tk _ _ ?_⟩
  exact XE.new J (fun b o g => (Heap.get?_update_other _ _ (apart g)).trans (keep4 b o g)) fresh (Heap.get?_update_self _ g4 (Obj.isFreed_of_fields d4))
    ⟨(Obj.cls_mapFields ..).trans (fromO_cls.trans zn.1), (PySem.HandSPX.dict_mapFields ..).trans (fromO_dict.trans zn.2.1)⟩ d4 (set_other (i := 2) (by decide) (fromF_1 f1)) na os bare q⟩
end
end SM
namespace SM
open PySem PySem.Spec PyProof.Rows L2 HotX
theorem nameless {X : Cx} {pins : List (Addr × Obj)} {σ : L2.St} {H : Hp} {s : Shared} {i : Nat} {n : Str} {h4 : Heap} {tk : Nat} {v : Option Value} {names : Str → Option Value} {gs : Array GenState} {dr : Drawn} (I : Inv X pins σ H s) (hN : X.N.Nodup) (hi : X.N[i]? = some n)
    (look : ∀ (j : Nat) (y : Str) (u : V), X.N[j]? = some y → σ[j]? = some (some u) → Vis X.env.scope y → ∃ z, RelV u z ∧ Look X.env s.heap names y z)
    (ns : h4.Ns X.env.locals (fun y => if y = n then v else names y)) (same : Heap.SameBut X.env.locals s.heap h4) (ag : AllBare gs) : Inv X pins (σ.set i none) H { s with heap := h4, toks := tk, gens := gs, drawn := dr } := by
  have old : ∀ {b o}, X.s_0.heap.get? b = some o → h4.get? b = s.heap.get? b := fun g => same.2 _ (Nat.ne_of_lt <| Nat.lt_of_lt_of_le (Heap.lt_size g) I.ok.above)
  have locFree : ∀ {b : Addr} {u}, H b = some u → b ≠ X.env.locals := fun e z => by rw [z, I.free] at e; cases e
  exact {
    ok := I.ok, os := I.os, bare := ag, free := I.free, freeC := I.freeC
    base := {
      keep := fun b o g m f x => by rw [old g]; exact I.base.keep b o g m f x
      slot := fun b o g m f x => by rw [old g]; exact I.base.slot b o g m f x
      there := fun b o g x => by rw [old g]; exact I.base.there b o g x
      free := I.base.free, tups := I.base.tups, frzs := I.base.frzs, tbls := I.base.tbls }
    loc := ⟨_, ns, fun j y u e1 e2 e3 => by
      have ji : j ≠ i := fun z => by
        subst z
        rw [List.getElem?_set] at e2
        split at e2
        · split at e2 <;> cases e2
        · exact absurd rfl ‹_›
      rw [List.getElem?_set_ne (fun z => ji z.symm)] at e2
      obtain ⟨z, rz, at_⟩ := look j y u e1 e2 e3
      refine ⟨z, rz, at_.imp (fun ⟨k, f⟩ => ⟨k, ?_⟩) fun ⟨k, c, f, cl⟩ => ⟨k, c, f, cl.sameBut same (I.cne y c f)⟩⟩
      show (if y = n then v else names y) = some z
      rw [if_neg fun z : y = n => ji (nodup_ix hN e1 (by rw [z]; exact hi))]
      exact f⟩
    cell := fun y c f => (I.cell y c f).imp fun _ cl => cl.sameBut same (I.cne y c f)
    pin := fun p m => by
      have P := I.pin p m
      exact ⟨by rw [same.2 _ P.2.2.1]; exact P.1, P.2⟩
    hok := fun b u e => (I.hok b u e).stay (fun c z hc g => (same.2 c (hc.elim (fun q => by rw [q]; exact locFree e) fun q => locFree q)).trans g) (fun _ g => g) fun _ _ g => g
    len := by rw [List.length_set]; exact I.len }
theorem sky_held {M : Model} {A : Around} {E : Value → Shared → Prop} {env : Env} {outer : List Env} {L a : Addr} {B : Heap} {s : Shared} {Z : Obj → Prop} {Q : Unit → Shared → Prop} (st : HandSPX.Steady Z) (fr : A.frames = some (env :: outer)) (fl : env.frame = some L)
    (sky : Sky B (env :: outer) a Z L s.heap) (q : ∀ h, HandSPX.HeldZ B (env :: outer) a Z L h → s.heap.UpToSlots h → Q () { s with heap := h }) : wpAny M A (noteFrame (.ref a) env) Q E s :=
  match sky with
  | .inl ⟨b, n, l, _, _, g, z, d, f1⟩ => HandSPX.look_newZ st fr l fl g b n d f1 z q
  | .inr (.inl f) => HandSPX.looks_onZ st fr fl f q
  | .inr (.inr h) => HandSPX.againZ fl h.2.2.2 (q _ h (Heap.UpToSlots.refl _))
theorem held_sameBut {B h h' : Heap} {l : List Env} {a L C : Addr} {Z : Obj → Prop} {m m' : Str → Option Value} (x : HandSPX.HeldZ B l a Z L h) (bC : B.get? C = none) (n : h.Ns C m) (n' : h'.Ns C m') (same : Heap.SameBut C h h') : HandSPX.HeldZ B l a Z L h' := by
  obtain ⟨stay, new, frames, oe, vs, T, oT, ts, ge, z, de, f1, nT, Te, gT, dT, f3⟩ := x
  have rec_ : ∀ {b o vs}, h.get? b = some o → o.data = .fields vs → h'.get? b = some o := fun {b o vs} g d => by
    rw [same.2 b fun q => ?_]
    · exact g
    · obtain ⟨oC, _, _, gC, dC, _⟩ := n
      rw [q, gC] at g
      cases g
      cases dC.symm.trans d
  exact ⟨fun b o g => (same.2 b fun q => by rw [q, bC] at g; cases g).trans (stay b o g), new, Heap.FunFrames.sameBut same n' frames, oe, vs, T, oT, ts, rec_ ge de, z, de, f1, nT, Te, rec_ gT dT, dT, f3⟩
section
variable {X : Cx} {pins : List (Addr × Obj)} {σ : L2.St} {H : Hp} {a : Addr} {cls : Value} {d : Option Addr} {s' : Shared} {h : Heap}
theorem Ready.again {M : Model} {A : Around} {E : Value → Shared → Prop} {Q : Unit → Shared → Prop} (r : Ready X pins σ H a cls d s' h) (q : ∀ h', Ready X pins σ H a cls d s' h' → Q () { s' with heap := h' }) : wpAny M A (setFlight (.ref a) none) Q E { s' with heap := h } := by
  obtain ⟨B, sI, I, nb, up, fly, os⟩ := r.ex
  exact HandSPX.lands_againZ (s := { s' with heap := h }) fly fun h' f u => q h' ⟨⟨B, sI, I, nb, up.trans u, f, os⟩, r.na, r.bare⟩
theorem ready_of {W : WX} {E : Value → Shared → Prop} {Q : Unit → Shared → Prop} {u : Value} {xe : Value → Shared → Prop} (ok : X.Ok) (hs : X.stack = X.env :: X.outer) (hf : X.env.frame = some X.env.locals) (x : L2N.XE (X.tr (X.pn ++ pins) xe) W u s')
    (q : ∀ a σ H cls d h, u = .ref a → W cls d σ H → Ready X pins σ H a cls d s' h → Q () { s' with heap := h }) :
    wpAny (model X.prog X.w) X.A (noteFrame u X.env) (fun _ s2 => wpAny (model X.prog X.w) X.A (setFlight u none) Q E s2) E s' := by
  obtain ⟨a, B, sI, pins', σ, H, cls, d, eu, I, nb, up, sky, na, os, bare, w⟩ := x
  subst eu
  refine L2N.Sky.land L2N.Zn.steady (by rw [ok.frames, hs]) hf (B := B) (outer := X.outer) (by have z := sky; rw [show (X.tr (X.pn ++ pins) xe).stack = X.env :: X.outer from hs] at z; exact z) fun h f u => q a σ H cls d h rfl w ⟨⟨B, sI, I.ofTry ok, nb, up.trans u, f, os⟩, na, bare⟩
end
abbrev suiteXE (X : Cx) (a : Addr) (pn : List (Addr × Obj)) (xe : Value → Shared → Prop) : Cx := { X.suite a pn with xe := xe }
section
variable {X : Cx} {pins pn pn' : List (Addr × Obj)} {σ : L2.St} {H : Hp} {s : Shared} {a : Addr} {q : Addr × Obj} {xe : Value → Shared → Prop}
theorem suiteXE_of (I : Inv (X.suite a pn) pn' σ H s) : Inv (suiteXE X a pn xe) pn' σ H s := Inv.unwish (X := suiteXE X a pn xe) (E := fun _ _ => False) I
theorem unsuiteXE (I : Inv (suiteXE X a (q :: (X.pn ++ pins)) xe) pn' σ H s) (ok : X.Ok) : Inv X pins σ H s := Inv.unsuite (X := X) (a := a) (q := q) (pn' := pn') (show Inv (X.suite a (q :: (X.pn ++ pins))) pn' σ H s from I.wish fun _ _ => False) ok
end
def tryXE (X : Cx) (Q : Flow → Shared → Prop) (hds : List ExceptHandler) : Value → Shared → Prop := fun u s1 => wpAny (model X.prog X.w) X.A (noteFrame u X.env) (fun _ s2 =>
  wpAny (model X.prog X.w) X.A (setFlight u none) (fun _ s3 => wpAny (model X.prog X.w) X.A (handleBy u X.env hds) Q X.xe s3) X.xe s2) X.xe s1
def wAsX (K : PySem.W.Frag) (c : Value) (i : Nat) (ts : Addr → Value → Option Addr → TS) (D : Ends) : WX := fun cls d σ H =>
  PySem.W.exmOne K cls c = some true ∧ ∀ a, H a = none → ts a cls d (ofEnds D (some i)) (atSt σ a (some i)) H
section
variable {X : Cx} {x n : Str} {c : Value} {i : Nat} {b₀ : Stmt} {body suite : List Stmt} {np pos pos' : Pos} {tb : WX → TS} {ts : Addr → Value → Option Addr → TS} {Wo : WX}
theorem suite_raises {pins : List (Addr × Obj)} {a : Addr} {oe : Obj} {xe' : Value → Shared → Prop} {u : Value} {s : Shared} (ok : X.Ok) (hs : X.stack = X.env :: X.outer) (hf : X.env.frame = some X.env.locals) (hN : X.N.Nodup) (hi : X.N[i]? = some n) (hln : X.env.kindOf n = some .local)
    (hpa : ∀ hd : Option Value, PassesOwnAt (model X.prog X.w) (X.A.mark hd) X.A X.env X.xe) (tk : L2.Takes X Wo) (z : L2.XE (suiteXE X a ((a, oe) :: (X.pn ++ pins)) xe') (fun cls d σ H => Wo cls d (σ.set i none) H) u s) :
    wpAny (model X.prog X.w) (X.A.mark (some (.ref a))) (noteFrame u X.env) (fun _ s₂ => wpAny (model X.prog X.w) (X.A.mark (some (.ref a))) (do bindName X.env n .none; unbindBehindTheSuite X.env n pos')
      (fun _ s₃ => wpAny (model X.prog X.w) (X.A.mark (some (.ref a))) (PySem.passOn "try.except-as" u X.env : Sem Flow) (fun _ _ => False) (notedBy (model X.prog X.w) (X.A.mark (some (.ref a))) X.env (cameBackBy (model X.prog X.w) X.A X.env X.xe)) s₃)
      (fun y s₃ => wpAny (model X.prog X.w) (X.A.mark (some (.ref a))) (setFlight u none) (fun _ s₄ => (notedBy (model X.prog X.w) (X.A.mark (some (.ref a))) X.env (cameBackBy (model X.prog X.w) X.A X.env X.xe)) y s₄) (notedBy (model X.prog X.w) (X.A.mark (some (.ref a))) X.env (cameBackBy (model X.prog X.w) X.A X.env X.xe)) s₃) s₂)
      (notedBy (model X.prog X.w) (X.A.mark (some (.ref a))) X.env (cameBackBy (model X.prog X.w) X.A X.env X.xe)) s := by
  obtain ⟨e, B, sI, pn2, σ, H, cls, d, eu, I, nb, up, sky, na, os, bare, w⟩ := z
  subst eu
  have J : Inv X pins σ H sI := unsuiteXE I ok
  refine sky_held Zc.steady (show (X.A.mark (some (.ref a))).frames = _ by rw [show (X.A.mark (some (.ref a))).frames = X.A.frames from rfl, ok.frames, hs]) hf (B := B) (outer := X.outer) (by have z := sky; rw [show (suiteXE X a ((a, oe) :: (X.pn ++ pins)) xe').stack = X.env :: X.outer from hs] at z; exact z) fun h held u1 => ?_
  obtain ⟨names, ns, look⟩ := J.loc
  have up1 := up.trans u1
  obtain ⟨_, ⟨L', _, eL, bL, _⟩, _⟩ := held.2.2.1
  cases eL.symm.trans hf
  refine wpAny_nameGoes_keeps hln (ns.upToSlots up1) (by rw [ok.kind]; rfl) fun h2 v ns2 same => ?_
  have held2 := held_sameBut held bL (ns.upToSlots up1) ns2 same
  obtain ⟨oe2, vs, T, _, _, ge, _, de, f1, _⟩ := held2.2.2.2
  refine wpAny_bind (wpAny_field ge de f1 ?_)
  rw [if_neg (by simp)]
  have last : wpAny (model X.prog X.w) (X.A.mark (some (.ref a))) (setFlight (.ref e) X.env.frame) (fun _ s4 => wpAny (model X.prog X.w) (X.A.mark (some (.ref a))) (throw (.ref e) : Sem Flow) (fun _ _ => False)
      (notedBy (model X.prog X.w) (X.A.mark (some (.ref a))) X.env (cameBackBy (model X.prog X.w) X.A X.env X.xe)) s4) (notedBy (model X.prog X.w) (X.A.mark (some (.ref a))) X.env (cameBackBy (model X.prog X.w) X.A X.env X.xe)) { s with heap := h2, toks := s.toks + 1 } := by
    rw [hf]
    refine HandSPX.setFlight_onZ (s := { s with heap := h2, toks := s.toks + 1 }) held2 fun h3 held3 u3 => wpAny_throw <| hpa _ _ _ <| tk _ _ ?_
    obtain ⟨oL, es, ep, gL, dL, fL⟩ := ns2
    obtain ⟨_, _, _, g0, _⟩ := ns
    have gN : (sI.heap.update X.env.locals fun _ => oL).get? X.env.locals = some oL := Heap.get?_update_self (fun _ => oL) g0 (Obj.isFreed_of_dict dL)
    have sameN := Heap.SameBut.update sI.heap X.env.locals fun _ => oL
    refine ⟨e, B, _, pins, _, H, cls, d, rfl, nameless (tk := s.toks + 1) (gs := s.gens) (dr := s.drawn) J hN hi look (v := v) ⟨oL, es, ep, gN, dL, fL⟩ sameN bare, fun b o g m => nb b o ?_ m, ?_, .inr (.inr (by rw [hs]; exact held3)), na, os, bare, w⟩
    · refine (sameN.2 b fun z => m ?_).symm.trans g
      rw [hs, z]
      exact List.mem_filterMap.mpr ⟨_, List.mem_cons_self, hf⟩
    · refine Heap.UpToSlots.trans (h₂ := h2) (fun b o g nf => ?_) u3
      by_cases bl : b = X.env.locals
      · rw [bl, gN] at g
        cases g
        exact ⟨_, bl ▸ gL⟩
      · obtain ⟨sl, g1⟩ := up1 b o ((sameN.2 b bl).symm.trans g) nf
        exact ⟨sl, (same.2 b bl).trans g1⟩
  first
    | exact wpAny_bind last
    | exact wpAny_bind (wpAny_pure (wpAny_bind last))
theorem ps_try_asX (hs : X.stack = X.env :: X.outer) (hf : X.env.frame = some X.env.locals) (hN : X.N.Nodup) (hi : X.N[i]? = some n) (hln : X.env.kindOf n = some .local) (hc : Names X x c) (hpa : ∀ hd : Option Value, PassesOwnAt (model X.prog X.w) (X.A.mark hd) X.A X.env X.xe) (tk : L2.Takes X Wo)
    (hb : ∀ (W : WX) (pn : List (Addr × Obj)) (xe : Value → Shared → Prop), L2N.Takes (X.tr pn xe) W → PassesOwn (model X.prog X.w) X.A X.env xe → PSs (X.tr pn xe) body (tb W))
    (hsu : ∀ (a : Addr) (oe : Obj) (cls : Value) (d : Option Addr) (pn : List (Addr × Obj)) (xe : Value → Shared → Prop), L2N.Zn cls d oe → (∃ vs, oe.data = .fields vs) → L2.Takes (suiteXE X a ((a, oe) :: pn) xe) (fun cls d σ H => Wo cls d (σ.set i none) H) →
      PassesOwn (model X.prog X.w) (X.A.mark (some (.ref a))) X.env xe → PSs (suiteXE X a ((a, oe) :: pn) xe) (b₀ :: suite) (ts a cls d)) :
    PS X (.Try body [.ExceptHandler (some (.Name x np)) (some n) (b₀ :: suite) pos'] [] [] pos) (fun D σ H => tb (wAsX X.K c i ts D) D σ H) := ⟨fun pins s σ H D I h => by
  have ok := I.ok
  refine wpAny_Try_except <| wpAny_mono ((hb (wAsX X.K c i ts D) (X.pn ++ pins) (tryXE X (SP X pins D) [.ExceptHandler (some (.Name x np)) (some n) (b₀ :: suite) pos']) (fun u s' z => ready_of ok hs hf z fun a σ1 H1 cls d h1 eu w r => ?_) PassesOwn.looking).run [] s σ H D (I.toTry _) h) (fun f s1 z => ?_) fun _ _ z => z
  · subst eu
    obtain ⟨yes, w⟩ := w
    obtain ⟨oe1, S1, g1, z1, v1, d1⟩ := r.suite hf
    have ty : PySem.W.Looks (model X.prog X.w) h1 (typeOf (.ref a)) cls := fun _ _ _ _ kp z => wpAny_typeOf_ref (kp _ _ g1) (by rw [z1.1]; exact z)
    refine wpAny_handleBy_cons (codeAny_handlers_test <| ld_names S1 hc <| (PySem.W.exm_one (M := model X.prog X.w) S1.kIn ty yes).here ?_) (by simp [byPass])
    refine codeAny_handlers_suite_as <| r.again fun h2 r2 => ?_
    obtain ⟨oe2, S2, g2, z2, fl2⟩ := r2.suite hf
    refine store_ok (X := X.suite a ((a, oe2) :: (X.pn ++ pins))) (v := .ref a) S2 hN hi (.inl hln) rfl (fun s3 S3 => ?_) (.inr hln)
    refine wpAny_mono ((hsu a oe2 cls d (X.pn ++ pins) _ z2 fl2 (fun _ _ z => suite_raises ok hs hf hN hi hln hpa tk z) PassesOwn.looking).run [] s3 _ H1 _ (suiteXE_of S3) (w a r2.na)) (fun f s4 z => ?_) fun _ _ z => z
    cases f <;> first
      | (obtain ⟨v4, σ4, H4, S4, r4, q4⟩ := z; exact gone_ok (unsuiteXE S4 ok) hN hi hln fun _ J => ⟨v4, _, H4, J, r4, q4⟩)
      | (obtain ⟨σ4, H4, S4, q4⟩ := z; exact gone_ok (unsuiteXE S4 ok) hN hi hln fun _ J => ⟨_, H4, J, q4⟩)
  · cases f <;> first
      | (obtain ⟨v4, σ4, H4, S4, r4, q4⟩ := z; exact ⟨v4, σ4, H4, S4.ofTry ok, r4, q4⟩)
      | (obtain ⟨σ4, H4, S4, q4⟩ := z; exact wpAny_execs_nil ⟨σ4, H4, S4.ofTry ok, q4⟩)
      | (obtain ⟨σ4, H4, S4, q4⟩ := z; exact ⟨σ4, H4, S4.ofTry ok, q4⟩)⟩
end
end SM
namespace SM
open PySem PySem.Spec PyProof.Rows L2
section
variable {X : Cx}
end
end SM
namespace SM
open PySem PySem.Spec PyProof.Rows L2
section
variable {X : Cx}
end
end SM
namespace SM
open PySem PySem.Spec PyProof.Rows L2 HotX
variable {K : PySem.W.Frag} {G G' G2 H H' H2 : Hp} {S S' S2 : Sto}
theorem sky_zc {B : Heap} {l : List Env} {a L : Addr} {cls : Value} {d : Option Addr} {h : Heap} (x : Sky B l a (L2N.Zn cls d) L h) : Sky B l a (Zc cls d) L h := by
  rcases x with ⟨h1, h2, h3, oe, vs, he, hz, r⟩ | fl | ⟨h1, h2, h3, h4⟩
  · exact .inl ⟨h1, h2, h3, oe, vs, he, hz.zc, r⟩
  · exact .inr (.inl (L2H.flyingZ_imp (fun o z => z.zc) fl))
  · exact .inr (.inr ⟨h1, h2, h3, L2H.tracedZ_imp (fun o z => z.zc) h4⟩)
theorem tkN {X : Cx} {W : WX} (tk : L2.Takes X W) : L2N.Takes X W := fun u s' ⟨a, B, sI, pins, σ, H, cls, d, e, I, nb, up, sky, na, os, ag, w⟩ => tk u s' ⟨a, B, sI, pins, σ, H, cls, d, e, I, nb, up, sky_zc sky, na, os, ag, w⟩
abbrev methForm (X : Cx) (o : Expr) (m : Str) (apos : Pos) (pl : Sem Bool) (pos : Pos) (es : List Expr) : Prop := eval (.Call (.Attribute o m apos) es [] pos) X.env =
  (eval o X.env >>= fun ov => standAt apos.atName >>= fun _ => holding [ov] (getMethod ov m pl) >>= fun r => match r with | (f, first) => callWith pos f first (backTo pos (starEach es X.env)) (backToKw pos (keywordEach [] X.env)))
abbrev stE (X : Cx) (e : Expr) (es : List Expr) : Prop := starEach (e :: es) X.env = (false, eval e X.env) :: starEach es X.env
abbrev plE (X : Cx) (pos : Pos) (es : List Expr) : Prop := (backTo pos (starEach es X.env)).any (·.1) = false
theorem xe_lf {X : Cx} {e : Expr} {td : DTE} (h : PD X e td) : PDX X e td := ⟨fun W tk => h.run W (tkN tk)⟩
theorem xa_lf {X : Cx} {es : List Expr} {td : DTA} (h : PDA X es td) : PDAX X es td := ⟨fun W tk => h.run W (tkN tk)⟩
theorem xs_lf {X : Cx} {st : Stmt} {ts : DTS} (h : PDS X st ts) : PDSX X st ts := ⟨fun W tk po => h.run W (tkN tk) po⟩
theorem takes0X {X : Cx} : L2.Takes X (fun _ _ _ _ => False) := fun u s' ⟨_, _, _, _, _, _, _, _, _, _, _, _, _, _, _, _, w⟩ => w.elim
section
variable {X : Cx} {e a b o i iter : Expr} {c : Nat} {es : List Expr} {st : Stmt} {sts rest : List Stmt} {pos p apos cpos pos' : Pos} {W : WX} {k j : Nat} {x m : Str} {t : DTA} {te : DTE} {f C g : Addr} {fd : FuncData} {ps : List Str} {R : DSp} {dvs : List V} {dds : List D} {ds : List Value} {pins : List (Addr × Obj)} {σ : L2.St} {s : Shared}
theorem xe_op {op : Operator} {r : R2D} {ta tb : DTE} (ho : OpR X (binaryOp op) (lift2 X.K r)) (ha : PDX X a ta) (hb : PDX X b tb) : PDX X (.BinOp a op b pos) (dOp r ta tb) := ⟨fun W tk => PE.weak (pe_op ho (ha.run W tk) (hb.run W tk)) sim_op⟩
theorem xa_nil : PDAX X [] dNil := ⟨fun W tk => PA.weak pa_nil (by
  rintro σ H Q ⟨G, δ, S, QD, XD, re, rl, h, kq, kx⟩
  exact kq _ _ _ _ _ (Stp.refl rl) .nil h)⟩
theorem xa_cons {ta : DTE} {tr : DTA} (ha : PDX X e ta) (hr : PDAX X es tr) (hs : starEach (e :: es) X.env = (false, eval e X.env) :: starEach es X.env := by rfl) : PDAX X (e :: es) (dCons ta tr) := ⟨fun W tk => PA.weak (pa_cons (ha.run W tk) (hr.run W tk) hs) (by
  rintro σ H Q ⟨G, δ, S, QD, XD, re, rl, h, kq, kx⟩
  exact ⟨G, δ, S, _, XD, re, rl, h, fun G1 H1 S1 x dx s1 rx q => ⟨G1, δ, S1, _, XD, re.mono s1.sg, s1.rel, q, fun G2 H2 S2 xs ds s2 rs q2 =>
    kq _ _ _ _ _ (s1.trans s2) (.cons (rx.mono s2.sg) rs) q2, kx.step s1⟩, kx⟩)⟩
theorem xe_callB {id : String} {r : RCD} {t : DTA} (hc : CallR X (.builtin id) (liftC X.K r)) (hg : Gl X x) (hm : X.mg x = none) (hv : bootBuiltins x = some (.builtin id)) (ha : PDAX X (e :: es) t) (hn : x ≠ "__name__" := by decide) (hdb : (x == ("__debug__" : Str)) = false := by decide)
    (he : stE X e es := by rfl) (hpl : plE X pos es := by rfl) : PDX X (.Call (.Name x p) (e :: es) [] pos) (dCB r t) := ⟨fun W tk => PE.weak (pe_callB hc hg hm hv (ha.run W tk) hn hdb he hpl) sim_cb⟩
theorem run_cmX {q : Addr} {sp : Sp} {Q : VK} {us : List Value} {vs : List V} (F : FnR X.prog X.w X.K X.mg X.base (L2.CX X.prog X.w) k g sp) (hr : Room k X.A) (tk : L2.Takes X W) (I : Inv X ((q, PySem.W.methodObj (.ref g) (.ref C)) :: pins) σ H s) (r : Vals vs us) (h : sp (.ref C :: vs) H Q (WE W σ)) :
    wpAny (model X.prog X.w) X.A (call (.ref q) us) (EP X pins σ Q) X.xe s := by
  have z : wpAny (model X.prog X.w) X.A (call (.ref q) us) (EP X ((q, PySem.W.methodObj (.ref g) (.ref C)) :: pins) σ Q) X.xe s := by
    refine wpAny_call (PySem.W.method_call (ClX.pin_at I) (codeAny_mono (F X.A X.stack s H (.ref C :: us) (.ref C :: vs) Q _ hr I.env0 (.cons rfl r) h) fun z s' hq => ?_))
    match z, hq with
    | .error e, hq => exact L2.passAt tk σ _ H s e s' I hq
    | .ok (.ret u), hq => exact I.after hq
  exact thn z fun u s' y => ClX.unpinE y
theorem xe_gc {pl : Sem Bool} (F : GcX X.prog X.w X.K X.mg X.base k c x m ps R) (hr : Room j X.A) (hg : Gl X x) (ha : PDAX X (e :: es) t) (hkj : k ≤ j := by decide) (hdb : (x == ("__debug__" : Str)) = false := by decide)
    (hst : stE X e es := by rfl) (hpl : plE X pos es := by rfl)
    (ht : methForm X (.Name x p) m apos pl pos (e :: es) := by rfl) :
    PDX X (.Call (.Attribute (.Name x p) m apos) (e :: es) [] pos) (dCall (fun ds => R (.cls c :: ds)) [] t) := ⟨fun W tk => ⟨fun pins s σ H Q I h => by
  obtain ⟨pp, g, fd, cr, cm, F1, hb, hm⟩ := F.ex
  have F2 := F1.raw hb .nil
  have h := sim_call (dvs := []) (fun G => .nil) h
  refine PySem.W.methodCall_KW (pl := pl) (thn ((pe_glob (v := .ref (cad X.K c)) hg hm rfl hdb).run pins s σ H (fun v H1 => v = .ref (cad X.K c) ∧ H1 = H) I ⟨rfl, rfl⟩) fun u s1 hu => ?_) ht
  obtain ⟨y, H1, I1, rx, ey, eH⟩ := hu
  subst ey eH
  obtain rfl : u = Value.ref (cad X.K c) := rx
  refine ClX.getmethcm_ok I1 cr cm fun s2 I2 => ?_
  refine ClX.callwith_cm I2 (ClX.base_none I1 (Nat.le_refl _)) cm.fi (thn ((ha.run W tk).run pos _ s2 σ H1 _ I2 h) fun us s3 hq => ?_) hst hpl
  obtain ⟨vs, H2, I3, rv, q2⟩ := hq
  refine ⟨⟨ClX.pin_at I3, I3.kIn⟩, run_cmX F2 (hr.mono hkj) tk I3 rv ?_⟩
  rw [List.append_nil] at q2
  obtain ⟨G, S, ds, QD, XD, rl, rs, h, kq, kx⟩ := q2
  exact ⟨G, S, .cls c :: ds, QD, XD, rl, by rw [List.append_nil]; exact .cons (.cls c rfl) rs, h, kq, kx⟩⟩⟩
variable {ts tu u : DTS}
theorem xs_ret (he : PDX X e te) : PDSX X (.Return (some e) pos) (dRet te) := ⟨fun W tk po => PS.weak (ps_ret (he.run W tk)) (by
  rintro D σ H ⟨G, δ, S, E, re, rl, h, er⟩
  exact ⟨G, δ, S, _, _, re, rl, h, fun G1 H1 S1 v d s1 rv q => er.rt _ _ _ _ _ s1 rv q, er.kx re⟩)⟩
theorem xss_cons (h1 : PDSX X st ts) (h2 : PDSsX X rest u) : PDSsX X (st :: rest) (dSeq ts u) := ⟨fun W tk po => PSs.weak (pss_cons (h1.run W tk po) (h2.run W tk po)) (by
  rintro D σ H ⟨G, δ, S, E, re, rl, h, er⟩
  exact ⟨G, δ, S, _, re, rl, h, ⟨fun G1 H1 S1 σ1 δ1 s1 re1 q => ⟨G1, δ1, S1, E, re1, s1.rel, q, er.step s1⟩, er.rt, er.bk, er.ct, er.xc⟩⟩)⟩
theorem xss_one (h1 : PDSX X st ts) : PDSsX X [st] ts := ⟨fun W tk po => pss_one (h1.run W tk po)⟩
theorem xs_for {tg iter : Expr} {body : List Stmt} {ti : DTI} {q : Pat} {tb : DTS} (hc : X.calm = true) (hi : PDI X tg iter ti) (hg : PDP X tg q) (hb : PDSsX X body tb) (hs : ∀ x, foldedSetIterable iter X.env x = pure x := by intro _; rfl) :
    PDSX X (.For tg iter body [] pos) (dFor ti q tb) := ⟨fun W tk po => PS.weak (ps_for po hc (hi.run W (tkN tk)) hg.run (hb.run W tk po) hs) (by
  rintro D σ H ⟨G, δ, S, E, re, rl, h, er⟩
  unfold dFor at h
  simp only [loopK_is] at h
  refine ⟨G, δ, S, _, _, re, rl, h, fun G1 H1 S1 J gd xs s1 hJ hl hq => ?_, er.kx re⟩
  -- the invariant
  refine ⟨fun i m σ' H' => m = xs.length - i ∧ ∃ G' δ' S', Stp X.K G H S G' H' S' ∧ Same G1 G' ∧ RpE X.K G' σ' δ' ∧ dLoop gd q tb E (xs.drop i) δ' S', ⟨xs.length, by simp, G1, δ, S1, s1, Same.refl _, re.mono s1.sg, by simpa using hq⟩, ?_⟩
  rintro i m σ' H' ⟨rfl, G', δ', S', s2, sg, re', hd⟩
  have hgd : gok gd S' := by
    cases q : xs.drop i with
    | nil => rw [q, dLoop] at hd; exact hd.1
    | cons y z => rw [q, dLoop] at hd; exact hd.1
  obtain ⟨h1, h2⟩ := hJ G' H' S' sg s2.rel hgd i
  by_cases hlt : i < xs.length
  · obtain ⟨hgo, hy⟩ := h1 hlt
    refine .inr ⟨hgo, fun σ3 H3 => ∃ G3 δ3 S3, Stp X.K G H S G3 H3 S3 ∧ Same G1 G3 ∧ RpE X.K G3 σ3 δ3 ∧ dLoop gd q tb E (xs.drop (i + 1)) δ3 S3, fun σ3 H3 ⟨G3, δ3, S3, a1, a2, a3, a4⟩ => ⟨xs.length - (i + 1), by omega, rfl, G3, δ3, S3, a1, a2, a3, a4⟩, fun x H3 yl => ?_⟩
    obtain ⟨G3, s3, rx⟩ := hy x H3 yl
    have ed : xs[i]? = some (xs[i]) := by simp [hlt]
    have rx := rx _ ed
    rw [List.drop_eq_getElem_cons hlt, dLoop] at hd
    replace hd := hd.2
    split at hd
    · rename_i δ4 e4
      obtain ⟨σ4, a1, a2, a3⟩ := pG_run s3.rel _ _ x σ' δ' δ4 (re'.mono s3.sg) rx e4
      refine a1 _ ?_
      have s23 := s2.trans s3
      refine ⟨G3, δ4, S', _, a2, s3.rel, hd, ?_⟩
      exact ⟨fun G5 H5 S5 σ5 δ5 s5 r5 q5 => ⟨G5, δ5, S5, s23.trans s5, (sg.trans s3.sg).trans s5.sg, r5, q5⟩, fun G5 H5 S5 v d s5 r5 q5 => er.rt _ _ _ _ _ (s23.trans s5) r5 q5, fun G5 H5 S5 σ5 δ5 s5 r5 q5 => er.nx _ _ _ _ _ (s23.trans s5) r5 q5,
        fun G5 H5 S5 σ5 δ5 s5 r5 q5 => ⟨G5, δ5, S5, s23.trans s5, (sg.trans s3.sg).trans s5.sg, r5, q5⟩, fun G5 H5 S5 σ5 δ5 cls d x s5 r5 rx5 q5 => er.xc _ _ _ _ _ _ _ _ (s23.trans s5) r5 rx5 q5⟩
    · exact hd.elim
  · have hle : xs.length ≤ i := by omega
    refine .inl ⟨h2 hle, ?_⟩
    rw [List.drop_of_length_le hle, dLoop] at hd
    exact er.nx _ _ _ _ _ s2 re' hd.2)⟩
end
section
variable {P : Program} {w : World} {mg : Str → Option Value} {base : Heap}
theorem fnDX {x qual : Str} {params : Arguments} {body : List Stmt} {scope : Scope} {dvs : List V} {kws : List (Str × V)} {f : Addr} {fd : FuncData} {N ps : List Str} {k : Nat} (F : FunD K x qual params body scope dvs kws f fd) (Sc : FnScope N ps scope) (R : DSp)
    (len : ∀ ds S Q E, R ds S Q E → ds.length = ps.length) (hps : ps.length ≤ N.length)
    (hb : ∀ (cdv : Value) (A : Around) (outer : List Env) (s : Shared) (H : Hp) (E : XK), Room k (A.deeper (envOfC qual scope s.heap.objs.size f cdv)) → ∃ ts, PDSsX (cxOf (L2.CX P w) P w K mg base N qual scope f cdv A outer s H E) body ts ∧
      ∀ ds S QD XD, R ds S QD XD → ts ⟨fun _ S' => QD .non S', QD, fun _ _ => False, fun _ _ => False, fun x _ S' => XD x S'⟩ (startD N ds) S) : FnOk P w K mg base (L2.CX P w) (k + 1) f fd ps (toSp K R) := by
  refine F.ok Sc (fun vs H Q E h => ?_) (fun cdv A outer s H vs Q E hr h => ?_)
  · obtain ⟨G, S, ds, QD, XD, _, rs, h, _⟩ := h
    rw [rs.length]; exact len _ _ _ _ h
  · obtain ⟨G, S, ds, QD, XD, rl, rs, h, kq, kx⟩ := h
    obtain ⟨ts, p, q⟩ := hb cdv A outer s H E hr
    refine ⟨liftS K (fun cls d _ H => E cls d H) ts, p.run _ (L2.takes_of rfl rfl rfl rfl) (passes_of rfl), ⟨G, startD N ds, S, _, startD_rpe rs (by rw [len _ _ _ _ h]; exact hps), rl, q ds S QD XD h, ?_⟩⟩
    exact ⟨fun G1 H1 S1 σ δ s1 _ q => kq _ _ _ _ _ s1 .non q, fun G1 H1 S1 v d s1 r q => kq _ _ _ _ _ s1 r q, fun _ _ _ _ _ _ _ q => q.elim, fun _ _ _ _ _ _ _ q => q.elim, fun G1 H1 S1 σ δ cls d x s1 _ r q => kx _ _ _ _ _ _ s1 r q⟩
theorem fnTX {x qual : Str} {params : Arguments} {body : List Stmt} {scope : Scope} {dvs : List V} {kws : List (Str × V)} {f : Addr} {fd : FuncData} {N ps : List Str} {k : Nat} {R : DSp} {t : DTS} (F : FunD K x qual params body scope dvs kws f fd) (Sc : FnScope N ps scope)
    (len : Ln ps.length R) (rd : Rd t N R) (hd : ∀ (cdv : Value) (A : Around) (outer : List Env) (s : Shared) (H : Hp) (E : XK), Room k (A.deeper (envOfC qual scope s.heap.objs.size f cdv)) → PDSsX (cxOf (L2.CX P w) P w K mg base N qual scope f cdv A outer s H E) body t) (hps : ps.length ≤ N.length := by decide) : FnOk P w K mg base (L2.CX P w) (k + 1) f fd ps (toSp K R) :=
  fnDX F Sc R len hps fun cdv A outer s H E hr => ⟨t, hd cdv A outer s H E hr, rd⟩
end
end SM
namespace SM
open PySem PySem.Spec PyProof.Rows L2 HotX
variable {K : PySem.W.Frag} {G G' G2 H H' H2 : Hp} {S S' S2 : Sto}
section
variable {P : Program} {w : World} {mg : Str → Option Value} {base : Heap} {qual : Str} {params : Arguments} {scope : Scope} {f : Addr} {fd : FuncData} {c : Nat} {x z : Str} {p1 p2 p3 p4 : Pos}
theorem fnE1H (F : FunD K "__init__" qual params [.Assign [.Attribute (.Name "self" p1) x p2] (.Name x p3) p4] scope [] [] f fd) (Sc : FnScope ["self", x] ["self", x] scope) (T : OexC K (cad K c)) (n1 : PySem.W.findIn K (.ref (cad K c)) x = some none)
    (d1 : (x == ("__debug__" : Str)) = false := by decide) (d2 : (x == ("__classdict__" : Str)) = false := by decide) : L2H.FnH P w K mg base (L2N.CX P w) 1 f fd ["self", x] (spE (cad K c) [x]) := by
  obtain ⟨_, _, _, _, _, _, _, _, _, _, rfl, lk, hcd, _⟩ := F.ex
  refine L2H.fn_ofH lk hcd Sc (fun vs H Q E h => ?_) (fun A outer s H vs Q E pp hot hr h => ?_)
  · obtain ⟨a, ws, rfl, hl, _⟩ := h
    simp only [List.length_cons, hl, List.length_nil]
  · have v0 := Sc.par "self" (by simp)
    have v1 := Sc.par x (by simp)
    refine ⟨_, pss_one (ps_ost (pe_var (i := 0) rfl (by rcases v0 with h | h; exact .inl h; exact .inr (.inl h)) (by decide) (by decide)) (pe_var (i := 1) rfl (by rcases v1 with h | h; exact .inl h; exact .inr (.inl h)) d1 d2)), ?_⟩
    obtain ⟨a, ws, rfl, hl, ha, q⟩ := h
    match ws, hl with
    | [v], _ =>
      refine ⟨v, rfl, .ref a, rfl, a, _, rfl, T, n1, .inl ⟨ha, fun dx hn hne => ?_⟩⟩
      refine q _ dx [(x, v)] upd_same (by rw [upd_ne hne, upd_same]) hn hne (fun b h1 h2 => by rw [upd_ne h1, upd_ne h2]) fun j fl u hj hv => ?_
      match j, hj, hv with
      | 0, hj, hv =>
        simp at hj hv
        subst hj hv
        simp
theorem gxh1 (F : FunD K "__init__" qual params [.Assign [.Attribute (.Name "self" p1) x p2] (.Name x p3) p4] scope [] [] (He.ma K (cad K c) "__init__") fd) (Sc : FnScope ["self", x] ["self", x] scope) (ec : cfs c = [x]) (hb : Binds K fd ["self", x] []) (ho : oexB K c = true) (hi : oinB K c = true) (hm : mg z = some (.ref (cad K c)))
    (d1 : (x == ("__debug__" : Str)) = false := by decide) (d2 : (x == ("__classdict__" : Str)) = false := by decide) : GxH P w K mg base c z := by
  obtain ⟨i1, i2, i3⟩ := oin_of hi
  exact ⟨_, fd, _, by rw [ec]; exact fnE1H F Sc (oex_of ho) (i3 x (by rw [ec]; simp)) d1 d2, oex_of ho, i1, i2, hb, hm⟩
end
def RxOk (K : PySem.W.Frag) (tab : List (Nat × Bool)) : Prop := ∀ c b, tab.lookup c = some b → PySem.W.subIn K (.ref (cad K c)) (.type "BaseException") = some true
theorem rx_of {tab : List (Nat × Bool)} (h : rxB K tab = true) : RxOk K tab := fun c b hl => of_decide_eq_true (List.all_eq_true.mp h _ (lookup_memP hl))
def dRaiseF (c i : Nat) (a : Addr) (t : DTA) : DTS := fun E δ S => match nth δ i with
  | some (.exn a' _ _ _) => a' = a ∧ dRaise c t E δ S
  | _ => False
section
variable {X : Cx} {e : Expr} {es : List Expr} {pos p np pos' : Pos} {j i : Nat} {x n : Str} {t : DTA} {c c' : Nat} {a : Addr} {oe : Obj} {d : Option Addr} {pn : List (Addr × Obj)} {xe : Value → Shared → Prop}
theorem xs_raiseF (F : GxH X.prog X.w X.K X.mg X.base c x) (hr : L2H.RoomH j (X.A.mark (some (.ref a)))) (hz : Cgt X.K oe c' d) (hs : PySem.W.subIn X.K (.ref (cad X.K c')) (.type "BaseException") = some true) (hg : Gl X x) (ha : PDA (suiteXE X a ((a, oe) :: pn) xe) (e :: es) t)
    (hN : X.N[i]? = some n := by rfl) (hv : Vis X.env.scope n := by first | exact Or.inl rfl | exact Or.inr (Or.inl rfl) | exact Or.inr (Or.inr rfl)) (hkj : 2 ≤ j := by decide) (hl9 : (cfs c).length ≤ 900 := by decide) (hdb : (x == ("__debug__" : Str)) = false := by decide)
    (hd0 : (n == ("__debug__" : Str)) = false := by decide) (hcd : (n == ("__classdict__" : Str)) = false := by decide)
    (he : stE X e es := by rfl) (hpl : plE X pos es := by rfl) :
    PDSX (suiteXE X a ((a, oe) :: pn) xe) (.Raise (some (.Call (.Name x p) (e :: es) [] pos)) (some (.Name n np)) pos') (dRaiseF c i a t) := ⟨fun W tk po => by
  obtain ⟨f, fd, ps, F1, T, iC, tI, hb, hm⟩ := F.ex
  obtain ⟨vz, ez⟩ := hz.fl
  have h1 : L2H.Hot1 (suiteXE X a ((a, oe) :: pn) xe).A (a, oe) := ⟨rfl, vz, ez, hz.zn.2.2 vz ez⟩
  refine PS.weak (ps_raiseHF (X := suiteXE X a ((a, oe) :: pn) xe) (cx := .ref (cad X.K c')) h1 List.mem_cons_self hz.zn.1 (fun M h k => PySem.W.looks_subIn k hs) tk
    (L2H.pmk5_oexH T iC tI F1 (hr.mono hkj) ⟨_, h1, List.mem_cons_self⟩ hb (fun pins σ H s e s' I z => (cx_no z).elim) hg hm (ha.run W (tkN tk)) hdb he hpl) hN hv hd0 hcd) ?_
  rintro D σ H ⟨G, δ, S, E, re, rl, h, er⟩
  unfold dRaiseF at h
  split at h
  · rename_i a' d' c1 ds1 en
    obtain ⟨rfl, h⟩ := h
    obtain ⟨v, hσ, rv⟩ := re.at_ i _ en
    have ev : v = .ref a' := by cases rv <;> rfl
    subst ev
    refine ⟨hσ, G, δ, S, _, _, re, rl, h, fun G1 H1 S1 vs ds s1 rs q => ?_, er.kx re⟩
    obtain ⟨hl, q⟩ := q
    refine ⟨by rw [rs.length, hl]; omega, fun a na => ?_⟩
    rw [List.append_nil]
    refine ⟨a, vs, rfl, by rw [rs.length, hl], upd_same, fun H' d fs h1 h2 hn hne hk hlk => ⟨rfl, d, fs, h1, h2, by rw [upd_ne hne] at hn; exact hn, ?_⟩⟩
    have hn1 : H1 d = none := by rw [upd_ne hne] at hn; exact hn
    have eH : upd (del H' a) d (.xd fs) = upd H1 d (.xd fs) := by
      funext b
      by_cases hb1 : b = d
      · subst hb1; rw [upd_same, upd_same]
      · rw [upd_ne hb1, upd_ne hb1]
        by_cases hb2 : b = a
        · subst hb2; rw [del_same, na]
        · rw [del_ne hb2, hk b hb2 hb1, upd_ne hb2]
    rw [eH]
    have s2 : Stp X.K G1 H1 S1 (upd G1 d (.xd fs)) (upd H1 d (.xd fs)) S1 := Stp.newF s1.rel hn1
    exact er.xc _ _ _ σ δ _ _ ⟨c, ds⟩ (s1.trans s2) ((re.mono s1.sg).mono s2.sg) ⟨rfl, .inr ⟨d, fs, vs, rfl, upd_same, rs.mono s2.sg, hl, hlk⟩⟩ q
  · exact h.elim⟩
end
def trR (tab : List (Nat × Bool)) (i : Nat) (ts : Addr → Option Addr → Nat → DTS) (E : DEnds) (x : Exn) (δ' : DS) (S' : Sto) : Prop := match tab.lookup x.c with
  | some true => ∀ a d, ts a d x.c { nx := fun δ S => E.nx (unset δ i) S, rt := E.rt, bk := fun δ S => E.bk (unset δ i) S, ct := fun δ S => E.ct (unset δ i) S, xc := fun x δ S => E.xc x (unset δ i) S } (put δ' i (.exn a d x.c x.ds)) S'
  | _ => False
def dTryR (tab : List (Nat × Bool)) (i : Nat) (tb : DTS) (ts : Addr → Option Addr → Nat → DTS) : DTS := fun E δ S => tb { nx := E.nx, rt := E.rt, bk := E.bk, ct := E.ct, xc := trR tab i ts E } δ S
section
variable {X : Cx} {x n : Str} {cv : Value} {i : Nat} {body suite : List Stmt} {b₀ : Stmt} {np pos pos' : Pos} {tb : DTS} {ts : Addr → Option Addr → Nat → DTS} {tab : List (Nat × Bool)}
theorem xs_tryR (hs : X.stack = X.env :: X.outer) (hf : X.env.frame = some X.env.locals) (hN : X.N.Nodup) (hi : X.N[i]? = some n) (hln : X.env.kindOf n = some .local) (hc : Names X x cv) (em : EmOk X.K cv tab) (hrx : RxOk X.K tab) (hpa : ∀ hd : Option Value, PassesOwnAt (model X.prog X.w) (X.A.mark hd) X.A X.env X.xe)
    (hb : ∀ (pn : List (Addr × Obj)) (xe : Value → Shared → Prop), PDSs (X.tr pn xe) body tb)
    (hsu : ∀ (a : Addr) (oe : Obj) (c : Nat) (d : Option Addr) (pn : List (Addr × Obj)) (xe : Value → Shared → Prop), Cgt X.K oe c d → PySem.W.subIn X.K (.ref (cad X.K c)) (.type "BaseException") = some true → PDSsX (suiteXE X a ((a, oe) :: pn) xe) (b₀ :: suite) (ts a d c)) :
    PDSX X (.Try body [.ExceptHandler (some (.Name x np)) (some n) (b₀ :: suite) pos'] [] [] pos) (dTryR tab i tb ts) := ⟨fun W tk po => by
  refine PS.weak (ps_try_asX (tb := fun W => liftS X.K W tb) (ts := fun a cls d => fun D σ H => ∃ c, cls = .ref (cad X.K c) ∧ PySem.W.subIn X.K (.ref (cad X.K c)) (.type "BaseException") = some true ∧ liftS X.K (fun cls d σ H => W cls d (σ.set i none) H) (ts a d c) D σ H) (Wo := W) hs hf hN hi hln hc hpa tk (fun W' pn xe tk' po' => (hb pn xe).run W' tk' po') (fun a oe cls d pn xe hz hff tk' po' => ⟨fun pins s σ H D I h => ?_⟩)) ?_
  · obtain ⟨c, rfl, hs, h⟩ := h
    exact ((hsu a oe c d pn xe ⟨hz, hff⟩ hs).run _ tk' po').run pins s σ H D I h
  · rintro D σ H ⟨G, δ, S, E, re, rl, h, er⟩
    refine ⟨G, δ, S, _, re, rl, h, ⟨er.nx, er.rt, er.bk, er.ct, fun G' H' S' σ' δ' cls d x st re' rx q => ?_⟩⟩
    have ec := rx.1
    subst ec
    revert q
    unfold trR
    show (match tab.lookup x.c with | some true => _ | _ => False) → _
    cases hl : tab.lookup x.c with
    | none => exact fun z => z.elim
    | some b =>
      cases b with
      | false => exact fun z => z.elim
      | true =>
        intro q
        refine ⟨em _ _ hl, fun a ha => ⟨x.c, rfl, hrx _ _ hl, G', _, S', _, re'.put i rx.rp, st.rel, q a d, ?_⟩⟩
        exact ⟨fun G2 H2 S2 σ2 δ2 s2 r2 z => er.nx _ _ _ _ _ (st.trans s2) (r2.unset i) z, fun G2 H2 S2 v d2 s2 r2 z => er.rt _ _ _ _ _ (st.trans s2) r2 z, fun G2 H2 S2 σ2 δ2 s2 r2 z => er.bk _ _ _ _ _ (st.trans s2) (r2.unset i) z, fun G2 H2 S2 σ2 δ2 s2 r2 z => er.ct _ _ _ _ _ (st.trans s2) (r2.unset i) z,
          fun G2 H2 S2 σ2 δ2 cls2 d2 x2 s2 r2 rx2 z => er.xc _ _ _ _ _ _ _ _ (st.trans s2) (r2.unset i) rx2 z⟩⟩
end
end SM
namespace SM
open PySem PySem.Spec PyProof.Rows L2
open PySem.W (Frag)
end SM
namespace SM
open PySem PySem.Spec PyProof.Rows L2
abbrev roLe (p q : Cell) : Bool := decide (p.2 < q.2 ∨ (p.2 = q.2 ∧ p.1 ≤ q.1))
theorem roSort_pw (cs : List Cell) : (roSort cs).Pairwise fun a b => roLe a b = true := by
  refine List.pairwise_mergeSort (fun a b c h1 h2 => ?_) (fun a b => ?_) cs
  · simp only [roLe, decide_eq_true_eq] at *; omega
  · simp only [roLe, Bool.or_eq_true, decide_eq_true_eq]; omega
theorem roLe_anti {a b : Cell} (h1 : roLe a b = true) (h2 : roLe b a = true) : a = b := by
  simp only [roLe, decide_eq_true_eq] at h1 h2
  exact Prod.ext (by omega) (by omega)
theorem ro_perm {a b : List Cell} (h : a.Perm b) : roSort a = roSort b :=
  List.Perm.eq_of_pairwise (fun x y _ _ => roLe_anti) (roSort_pw a) (roSort_pw b) ((roSort_perm a).trans (h.trans (roSort_perm b).symm))
theorem mem_ro {cs : List Cell} {c : Cell} : c ∈ roSort cs ↔ c ∈ cs := (roSort_perm cs).mem_iff
end SM
namespace SM
open PySem PySem.Spec PyProof.Rows L2
def gets (δ : DS) : List Nat → DS
  | [] => []
  | i :: r => nth δ i :: gets δ r
def setO : DS → Nat → Option D → DS
  | [], _, _ => []
  | _ :: r, 0, d => d :: r
  | x :: r, n + 1, d => x :: setO r n d
def setsA : List Nat → DS → DS → DS
  | [] => fun δ _ => δ
  | i :: r => fun δ ws => match ws with
    | [] => δ
    | w :: ws => setsA r (setO δ i w) ws
def sets (δ : DS) (ix : List Nat) (ws : DS) : DS := setsA ix δ ws
theorem setO_nth : ∀ (δ : DS) (i : Nat), setO δ i (nth δ i) = δ
  | [], _ => rfl
  | _ :: _, 0 => rfl
  | x :: r, i + 1 => by rw [setO, nth, setO_nth r i]
theorem sets_gets (δ : DS) : ∀ ix : List Nat, sets δ ix (gets δ ix) = δ
  | [] => rfl
  | i :: r => by
    show setsA r (setO δ i (nth δ i)) (gets δ r) = δ
    rw [setO_nth]
    exact sets_gets δ r
theorem put_0 {x : Option D} {r : DS} {d : D} : put (x :: r) 0 d = some d :: r := rfl
theorem put_s {x : Option D} {r : DS} {n : Nat} {d : D} : put (x :: r) (n + 1) d = x :: put r n d := rfl
theorem setO_0 {x d : Option D} {r : DS} : setO (x :: r) 0 d = d :: r := rfl
theorem setO_s {x d : Option D} {r : DS} {n : Nat} : setO (x :: r) (n + 1) d = x :: setO r n d := rfl
theorem sets_n {δ ws : DS} : sets δ [] ws = δ := rfl
theorem sets_c {δ ws : DS} {w : Option D} {i : Nat} {r : List Nat} : sets δ (i :: r) (w :: ws) = sets (setO δ i w) r ws := rfl
theorem gets_n {δ : DS} : gets δ [] = [] := rfl
theorem gets_c {δ : DS} {i : Nat} {r : List Nat} : gets δ (i :: r) = nth δ i :: gets δ r := rfl
theorem nth_0 {x : Option D} {r : DS} : nth (x :: r) 0 = x := rfl
theorem nth_s {x : Option D} {r : DS} {n : Nat} : nth (x :: r) (n + 1) = nth r n := rfl
theorem loop_eG {gd : Gd} {q : Pat} {tb : DTS} {E : DEnds} {α : Type} {g : α → D} (ix : List Nat) (J : List α → DS → Sto → Prop) {δ0 δl : DS} {S0 : Sto} {xs : List α} (hδ : δ0 = δl) (hI : ∀ xs ws S, J xs ws S → gok gd S)
    (hs : ∀ x r ws S, J (x :: r) ws S → ∃ δ1, bindP q (g x) (sets δl ix ws) = some δ1 ∧ ∀ N : DS → Sto → Prop, (∀ δ2 S2, δ2 = sets δl ix (gets δ2 ix) → J r (gets δ2 ix) S2 → N δ2 S2) → tb { E with nx := N, ct := N, bk := E.nx } δ1 S)
    (hd : ∀ ws S, J [] ws S → E.nx (sets δl ix ws) S) (h : J xs (gets δ0 ix) S0) : loopK gd q tb E (xs.map g) δ0 S0 := by
  subst hδ
  refine loop_ofG (g := g) (fun r δ S => δ = sets δ0 ix (gets δ ix) ∧ J r (gets δ ix) S) (fun xs δ S h => hI _ _ _ h.2) ?_ ?_ ⟨(sets_gets δ0 ix).symm, h⟩
  · rintro x r δ S ⟨e, hJ⟩
    obtain ⟨δ1, e1, t⟩ := hs x r _ S hJ
    exact ⟨δ1, by rw [e]; exact e1, fun N hN => t N fun δ2 S2 a b => hN δ2 S2 ⟨a, b⟩⟩
  · rintro δ S ⟨e, hJ⟩
    rw [e]
    exact hd _ _ hJ
theorem loop_e {q : Pat} {tb : DTS} {E : DEnds} {α : Type} {g : α → D} (ix : List Nat) (J : List α → DS → Sto → Prop) {δ0 δl : DS} {S0 : Sto} {xs : List α} (hδ : δ0 = δl)
    (hs : ∀ x r ws S, J (x :: r) ws S → ∃ δ1, bindP q (g x) (sets δl ix ws) = some δ1 ∧ ∀ N : DS → Sto → Prop, (∀ δ2 S2, δ2 = sets δl ix (gets δ2 ix) → J r (gets δ2 ix) S2 → N δ2 S2) → tb { E with nx := N, ct := N, bk := E.nx } δ1 S)
    (hd : ∀ ws S, J [] ws S → E.nx (sets δl ix ws) S) (h : J xs (gets δ0 ix) S0) : loopK none q tb E (xs.map g) δ0 S0 :=
  loop_eG (gd := none) ix J hδ (fun _ _ _ _ => True.intro) hs hd h
theorem loop_i {q : Pat} {tb : DTS} {E : DEnds} (n : Nat) (ix : List Nat) (J : Nat → DS → Sto → Prop) {δ0 δl : DS} {S0 : Sto} (hδ : δ0 = δl)
    (hs : ∀ i ws S, i < n → J i ws S → ∃ δ1, bindP q (D.int (0 + (i : Nat))) (sets δl ix ws) = some δ1 ∧ ∀ N : DS → Sto → Prop, (∀ δ2 S2, δ2 = sets δl ix (gets δ2 ix) → J (i + 1) (gets δ2 ix) S2 → N δ2 S2) → tb { E with nx := N, ct := N, bk := E.nx } δ1 S)
    (hd : ∀ ws S, J n ws S → E.nx (sets δl ix ws) S) (h : J 0 (gets δ0 ix) S0) : loopK none q tb E ((List.range n).map fun i : Nat => D.int (0 + (i : Nat))) δ0 S0 := by
  refine loop_e (g := fun i : Nat => D.int (0 + (i : Nat))) ix (fun r ws S => ∃ i, i ≤ n ∧ r = List.range' i (n - i) ∧ J i ws S) hδ ?_ ?_ ⟨0, Nat.zero_le _, by rw [List.range_eq_range', Nat.sub_zero], h⟩
  · rintro x r ws S ⟨i, hi, e, hI⟩
    have hlt : i < n := by
      rcases Nat.lt_or_ge i n with h | h
      · exact h
      · rw [show n - i = 0 by omega] at e; cases e
    obtain ⟨m, hm⟩ : ∃ m, n - i = m + 1 := ⟨n - i - 1, by omega⟩
    rw [hm, List.range'_succ] at e
    simp only [List.cons.injEq] at e
    obtain ⟨rfl, rfl⟩ := e
    obtain ⟨δ1, e1, hN⟩ := hs x ws S hlt hI
    exact ⟨δ1, e1, fun N h => hN N fun δ2 S2 a h2 => h δ2 S2 a ⟨x + 1, hlt, by congr 1; omega, h2⟩⟩
  · rintro ws S ⟨i, hi, e, hI⟩
    have ei : i = n := by
      rcases Nat.lt_or_ge i n with h | h
      · obtain ⟨m, hm⟩ : ∃ m, n - i = m + 1 := ⟨n - i - 1, by omega⟩
        rw [hm, List.range'_succ] at e; cases e
      · omega
    subst ei
    exact hd ws S hI
theorem cut_e {t u : DTS} {E : DEnds} {δ0 δl : DS} {S : Sto} (ix : List Nat) (J : DS → Sto → Prop) (hδ : δ0 = δl) (h1 : t { E with nx := fun δ S => δ = sets δl ix (gets δ ix) ∧ J (gets δ ix) S } δl S) (h2 : ∀ ws S', J ws S' → u E (sets δl ix ws) S') : cutK t u E δ0 S := by
  subst hδ
  exact ⟨_, h1, fun δ' S' h => by rw [h.1]; exact h2 _ _ h.2⟩
end SM
namespace SM
open PySem PySem.Spec PyProof.Rows L2
section
variable {X : Cx}
def startsD : RCD := fun ds S Q => match ds with
  | [.str a, .str b] => Q (.bl (Txt.startswith a b)) S
  | _ => False
theorem m_startswith : MtR X "str.startswith" (liftM X.K startsD) := MtR.weak mt_startswith (by
  rintro x xs H Q ⟨G, S, ds, QD, rl, rs, h, kq⟩
  unfold startsD at h
  split at h
  · rename_i a b
    cases rs with
    | cons r1 r2 =>
    cases r2 with
    | cons r2 r3 =>
    cases r3
    cases r1 with
    | str ha =>
    cases r2 with
    | str hb =>
    exact ⟨a, b, rfl, rfl, kq _ _ _ _ _ (Stp.refl rl) (.bl _) h⟩
  · exact h.elim)
def partD : RCD := fun ds S Q => match ds with
  | [.str a, .str b] => (b.length == 0) = false ∧ (okS (Txt.partition a b).1 ∧ okS (Txt.partition a b).2.1 ∧ okS (Txt.partition a b).2.2) ∧ Q (.tup [.str (Txt.partition a b).1, .str (Txt.partition a b).2.1, .str (Txt.partition a b).2.2]) S
  | _ => False
theorem m_partition : MtR X "str.partition" (liftM X.K partD) := MtR.weak mt_partition (by
  rintro x xs H Q ⟨G, S, ds, QD, rl, rs, h, kq⟩
  unfold partD at h
  split at h
  · rename_i a b
    cases rs with
    | cons r1 r2 =>
    cases r2 with
    | cons r2 r3 =>
    cases r3
    cases r1 with
    | str ha =>
    cases r2 with
    | str hb =>
    obtain ⟨h1, ⟨o1, o2, o3⟩, q⟩ := h
    refine ⟨a, b, rfl, rfl, h1, ha.1, fun p hp => ?_⟩
    obtain ⟨s2, r2⟩ := fz_tup rl hp (vs := [.str (Txt.partition a b).1, .str (Txt.partition a b).2.1, .str (Txt.partition a b).2.2]) (.cons (.str o1) (.cons (.str o2) (.cons (.str o3) .nil))) (by rw [sizeLine_eq]; exact Nat.le_of_ble_eq_true rfl)
    exact kq _ _ _ _ _ s2 r2 q
  · exact h.elim)
end
end SM
namespace SM
open PySem PySem.Spec PyProof.Rows L2 TL
theorem starts_one (w : Str) (c : Nat) : Txt.startswith w (one c) = decide (w.cps.toList.head? = some c) := by
  unfold Txt.startswith
  rw [PySem.StrLaws.subAt_eq]
  have e : (one c).length = 1 := rfl
  have e2 : (one c).cps.toList = [c] := rfl
  rw [e, e2, List.drop_zero]
  have e3 : w.length = w.cps.toList.length := Array.length_toList.symm
  rw [e3]
  cases w.cps.toList with
  | nil => simp
  | cons x r => simp; exact Bool.eq_iff_iff.mpr (by simp)
def rdNum (w : Str) : Option Int := match w.cps.toList with
  | [c] => if 48 ≤ c ∧ c ≤ 57 then some ((c : Int) - 48) else none
  | [m, c] => if m = 45 ∧ 49 ≤ c ∧ c ≤ 57 then some (48 - (c : Int)) else none
  | _ => none
def oID : Option Int → D
  | some n => .int n
  | none => .non
theorem str_of (w : Str) (l : List Nat) (h : w.cps.toList = l) : w = ⟨l.toArray⟩ := by
  subst h
  cases w with | mk a => simp
theorem int_dig {c : Nat} (h : 48 ≤ c ∧ c ≤ 57) : PySem.intText? (one c) = some ((c : Int) - 48) := by
  obtain ⟨h1, h2⟩ := h
  have : c = 48 ∨ c = 49 ∨ c = 50 ∨ c = 51 ∨ c = 52 ∨ c = 53 ∨ c = 54 ∨ c = 55 ∨ c = 56 ∨ c = 57 := by omega
  rcases this with rfl | rfl | rfl | rfl | rfl | rfl | rfl | rfl | rfl | rfl <;> decide +kernel
theorem int_neg {c : Nat} (h : 49 ≤ c ∧ c ≤ 57) : PySem.intText? ⟨#[45, c]⟩ = some (48 - (c : Int)) := by
  obtain ⟨h1, h2⟩ := h
  have : c = 49 ∨ c = 50 ∨ c = 51 ∨ c = 52 ∨ c = 53 ∨ c = 54 ∨ c = 55 ∨ c = 56 ∨ c = 57 := by omega
  rcases this with rfl | rfl | rfl | rfl | rfl | rfl | rfl | rfl | rfl <;> decide +kernel
theorem digits_mem (c : Nat) : decide (c ∈ (Str.ofString "0123456789").cps.toList) = decide (48 ≤ c ∧ c ≤ 57) := by
  have e : (Str.ofString "0123456789").cps.toList = [48, 49, 50, 51, 52, 53, 54, 55, 56, 57] := by decide +kernel
  rw [e]
  refine decide_eq_decide.mpr ⟨fun h => ?_, fun h => ?_⟩
  · simp at h; omega
  · simp; omega
end SM
namespace SM
open PySem PySem.Spec PyProof.Rows L2
def Sub (S S' : Sto) : Prop := ∀ a o, S a = some o → S' a = some o
variable {K : PySem.W.Frag} {G G' G2 H H' H2 : Hp} {S S' S0 : Sto}
theorem Sub.refl : Sub S S := fun _ _ h => h
theorem Sub.trans {S2 : Sto} (h : Sub S S') (h2 : Sub S' S2) : Sub S S2 := fun a o e => h2 a o (h a o e)
theorem Sub.non {p : Addr} (h : Sub S S') (e : S' p = none) : S p = none := by
  cases q : S p with
  | none => rfl
  | some o => rw [h p o q] at e; cases e
theorem Sub.set {p : Addr} {o : OO} (h : Sub S S') (hp : S p = none) : Sub S (su S' p o) := fun a u e => by
  rw [su_ne]
  · exact h a u e
  · intro z; subst z; rw [hp] at e; cases e
theorem Sub.new {p : Addr} {o : OO} (hp : S p = none) : Sub S (SM.su S p o) := Sub.refl.set hp
theorem Stp.shr (s : Stp K G H S G' H' S') (h : Sub S0 S') : Stp K G H S G' H' S0 where
  sg := s.sg
  rel := ⟨s.rel.le, fun a o e => s.rel.own a o (h a o e)⟩
  fr := fun b o e g n => by
    obtain ⟨h1, h2, h3⟩ := s.fr b o e g n
    refine ⟨h1, ?_, h3⟩
    cases q : S0 b with
    | none => rfl
    | some u => rw [h b u q] at h2; cases h2
structure shrK (Q : DQ) (d : D) (S : Sto) : Prop where
  it : ∃ S0, Sub S0 S ∧ Q d S0
structure shrX (X : XQ) (x : Exn) (S : Sto) : Prop where
  it : ∃ S0, Sub S0 S ∧ X x S0
theorem shr_of {Q : DQ} {d : D} (h : Sub S0 S) (q : Q d S0) : shrK Q d S := ⟨_, h, q⟩
theorem shr_x {X : XQ} {x : Exn} (h : Sub S0 S) (q : X x S0) : shrX X x S := ⟨_, h, q⟩
abbrev RdW (t : DTS) (N : List Str) (R : DSp) : Prop := ∀ ds S QD XD, R ds S QD XD → t (ends (shrK QD) (shrX XD)) (startD N ds) S
def widS (R : DSp) : DSp := fun ds S Q X => ∃ Q0 X0, R ds S Q0 X0 ∧ Q = shrK Q0 ∧ X = shrX X0
theorem toSp_wid {R : DSp} {vs : List V} {Q : VK} {E : XK} (h : toSp K R vs H Q E) : toSp K (widS R) vs H Q E := by
  obtain ⟨G, S, ds, QD, XD, rl, rs, h, kq, kx⟩ := h
  refine ⟨G, S, ds, shrK QD, shrX XD, rl, rs, ⟨QD, XD, h, rfl, rfl⟩, fun G' H' S' v d st r q => ?_, fun G' H' S' cls d x st r q => ?_⟩
  · obtain ⟨S0, hs, q⟩ := q
    exact kq _ _ _ _ _ (st.shr hs) r q
  · obtain ⟨S0, hs, q⟩ := q
    exact kx _ _ _ _ _ _ (st.shr hs) r q
theorem RdW.rd {t : DTS} {N : List Str} {R : DSp} (h : RdW t N R) : Rd t N (widS R) := by
  rintro ds S _ _ ⟨Q0, X0, hr, rfl, rfl⟩
  exact h ds S Q0 X0 hr
theorem wid_len {n : Nat} {R : DSp} (h : Ln n R) : Ln n (widS R) := by
  rintro ds S _ _ ⟨Q0, X0, hr, rfl, rfl⟩
  exact h ds S Q0 X0 hr
variable {P : Program} {w : World} {mg : Str → Option Value} {base : Heap}
theorem fnTW {x qual : Str} {params : Arguments} {body : List Stmt} {scope : Scope} {dvs : List V} {kws : List (Str × V)} {f : Addr} {fd : FuncData} {N ps : List Str} {k : Nat} {R : DSp} {t : DTS} (F : FunD K x qual params body scope dvs kws f fd) (Sc : FnScope N ps scope)
    (len : Ln ps.length R) (rd : RdW t N R) (hd : ∀ (cdv : Value) (A : Around) (outer : List Env) (s : Shared) (H : Hp) (E : XK), Room k (A.deeper (envOfC qual scope s.heap.objs.size f cdv)) → PDSs (cxOf (L2N.CX P w) P w K mg base N qual scope f cdv A outer s H E) body t) (hps : ps.length ≤ N.length := by decide) : FnOk P w K mg base (L2N.CX P w) (k + 1) f fd ps (toSp K R) :=
  FnOk.imp (fnT F Sc (wid_len len) rd.rd hd hps) fun _ _ _ _ => toSp_wid
theorem FnH.imp {k : Nat} {f : Addr} {fd : FuncData} {ps : List Str} {sp sp' : Sp} (F : L2H.FnH P w K mg base (L2N.CX P w) k f fd ps sp) (h : ∀ vs H Q E, sp' vs H Q E → sp vs H Q E) : L2H.FnH P w K mg base (L2N.CX P w) k f fd ps sp' :=
  ⟨fun vs H Q E q => F.len vs H Q E (h _ _ _ _ q), fun A outer s H args us vs Q E p hr hot hp he hb hv hs => F.run A outer s H args us vs Q E p hr hot hp he hb hv (h _ _ _ _ hs)⟩
end SM
namespace SM
open PySem PySem.Spec PyProof.Rows L2
section
variable {X : Cx} {e : Expr} {pos p1 p2 p3 : Pos}
end
end SM
namespace SM
open PySem PySem.Spec PyProof.Rows L2
variable {K : PySem.W.Frag} {G G' G2 H H' H2 : Hp} {S S' S2 : Sto} {X : Cx}
def splitMD : RCD := fun ds S Q => match ds with
  | [.str a, .str b, .int k] => ((b.length == 0) = false ∧ (-(2 ^ 63) ≤ k ∧ k < 2 ^ 63) ∧ a.length + 2 ≤ sizeLine) ∧ ((∀ s ∈ Txt.splitMax a b k, okS s) ∧ (Txt.splitMax a b k).length ≤ sizeLine) ∧ Q (.lst ((Txt.splitMax a b k).map D.str)) S
  | _ => False
theorem m_splitM : MtR X "str.split" (liftM X.K splitMD) := MtR.weak mt_splitMax (by
  rintro x xs H Q ⟨G, S, ds, QD, rl, rs, h, kq⟩
  unfold splitMD at h
  split at h
  · rename_i a b k
    cases rs with
    | cons r1 r2 =>
    cases r2 with
    | cons r2 r3 =>
    cases r3 with
    | cons r3 r4 =>
    cases r4
    cases r1 with
    | str ha =>
    cases r2 with
    | str hb =>
    cases r3 with
    | int hi =>
    obtain ⟨⟨h1, ⟨h2, h3⟩, h4⟩, ⟨h5, h6⟩, q⟩ := h
    refine ⟨a, b, k, rfl, rfl, h1, h2, h3, h4, fun p hp => ?_⟩
    obtain ⟨s2, r2⟩ := fz_lst rl hp (rps_strs (K := X.K) (G := G) h5) (by rw [List.length_map]; exact h6)
    exact kq _ _ _ _ _ s2 r2 q
  · exact h.elim)
end SM
namespace SM
open PySem PySem.Spec PyProof.Rows L2 HotX
variable {K : PySem.W.Frag} {G G' G2 H H' H2 : Hp} {S S' S2 : Sto}
structure CgtZ (K : PySem.W.Frag) (oe : Obj) (c : Nat) (d : Option Addr) : Prop where
  zc : Zc (.ref (cad K c)) d oe
  fl : ∃ vs, oe.data = .fields vs
def trZ (tab : List (Nat × Bool)) (oi : Option Nat) (ts : Addr → Option Addr → Nat → DTS) (E : DEnds) (x : Exn) (δ' : DS) (S' : Sto) : Prop := match tab.lookup x.c with
  | some true => ∀ a d, ts a d x.c (dEnds E oi) (dAt δ' a d x oi) S'
  | _ => False
def dTryZ (tab : List (Nat × Bool)) (oi : Option Nat) (tb : DTS) (ts : Addr → Option Addr → Nat → DTS) : DTS := fun E δ S => tb { nx := E.nx, rt := E.rt, bk := E.bk, ct := E.ct, xc := trZ tab oi ts E } δ S
section
variable {X : Cx} {x n : Str} {cv : Value} {i : Nat} {body suite : List Stmt} {b₀ : Stmt} {np pos pos' : Pos} {tb : DTS} {ts : Addr → Option Addr → Nat → DTS} {tab : List (Nat × Bool)}
theorem ds_tryZ (hs : X.stack = X.env :: X.outer) (hf : X.env.frame = some X.env.locals) (hN : X.N.Nodup) (hi : X.N[i]? = some n) (hln : X.env.kindOf n = some .local) (hc : Names X x cv) (em : EmOk X.K cv tab)
    (hb : ∀ (pn : List (Addr × Obj)) (xe : Value → Shared → Prop), PDSsX (X.tr pn xe) body tb)
    (hsu : ∀ (a : Addr) (oe : Obj) (c : Nat) (d : Option Addr) (pn : List (Addr × Obj)), CgtZ X.K oe c d → PDSs (X.suite a ((a, oe) :: pn)) (b₀ :: suite) (ts a d c)) :
    PDS X (.Try body [.ExceptHandler (some (.Name x np)) (some n) (b₀ :: suite) pos'] [] [] pos) (dTryZ tab (some i) tb ts) := ⟨fun W tk po => by
  refine PS.weak (L2.ps_try_as (tb := fun W => liftS X.K W tb) (ts := fun a cls d => fun D σ H => ∃ c, cls = .ref (cad X.K c) ∧ liftS X.K (fun _ _ _ _ => False) (ts a d c) D σ H) (Wout := fun _ _ _ _ => False) hs hf hN hi hln hc takes0X (fun W' pn xe tk' po' => (hb pn xe).run W' tk' po') (fun a oe cls d pn hz hff => ⟨fun pins s σ H D I h => ?_⟩)) ?_
  · obtain ⟨c, rfl, h⟩ := h
    exact ((hsu a oe c d pn ⟨hz, hff⟩).run _ takes0N PassesOwn.never).run pins s σ H D I h
  · rintro D σ H ⟨G, δ, S, E, re, rl, h, er⟩
    refine ⟨G, δ, S, _, re, rl, h, ⟨er.nx, er.rt, er.bk, er.ct, fun G' H' S' σ' δ' cls d x st re' rx q => ?_⟩⟩
    have ec := rx.1
    subst ec
    revert q
    unfold trZ
    show (match tab.lookup x.c with | some true => _ | _ => False) → _
    cases hl : tab.lookup x.c with
    | none => exact fun z => z.elim
    | some b =>
      cases b with
      | false => exact fun z => z.elim
      | true =>
        intro q
        refine ⟨true, em _ _ hl, fun _ a ha => ⟨x.c, rfl, G', _, S', _, re'.put i rx.rp, st.rel, q a d, ?_⟩, fun z => Bool.noConfusion z⟩
        exact ⟨fun G2 H2 S2 σ2 δ2 s2 r2 z => er.nx _ _ _ _ _ (st.trans s2) (r2.unset i) z, fun G2 H2 S2 v d2 s2 r2 z => er.rt _ _ _ _ _ (st.trans s2) r2 z, fun G2 H2 S2 σ2 δ2 s2 r2 z => er.bk _ _ _ _ _ (st.trans s2) (r2.unset i) z, fun G2 H2 S2 σ2 δ2 s2 r2 z => er.ct _ _ _ _ _ (st.trans s2) (r2.unset i) z, fun _ _ _ _ _ _ _ _ _ _ _ z => z⟩⟩
end
section
variable {X : Cx} {a : Addr} {oe : Obj} {c : Nat} {d : Option Addr} {pn : List (Addr × Obj)} {e : Expr} {te : DTE} {fl : Str} {pos p : Pos} {tbl : List (Nat × Nat)} {tab : List (Nat × Bool)}
theorem de_xfZ (F : FxOk X.K fl tbl) (hz : CgtZ X.K oe c d) (he : PD (X.suite a ((a, oe) :: pn)) e te) (hb : attributeBase e fl X.env (eval e X.env) = eval e X.env := by rfl) :
    PD (X.suite a ((a, oe) :: pn)) (.Attribute e fl pos) (dXf tbl a d c te) := ⟨fun W tk => by
  cases hl : tbl.lookup c with
  | none =>
    refine PE.mk fun pins s σ H Q I h => ?_
    refine attr_of hb (thn ((he.run W tk).run pins s σ H (fun _ _ => False) I ?_) fun u s1 hh => ?_)
    · obtain ⟨G, δ, S, QD, XD, re, rl, h, q, kx⟩ := h
      refine ⟨G, δ, S, _, XD, re, rl, h, fun G1 H1 S1 v x s1 r z => ?_, kx⟩
      cases x <;> first | exact z.elim | (rw [hl] at z; exact z.2.2.2.elim)
    · obtain ⟨_, _, _, _, z⟩ := hh
      exact z.elim
  | some j =>
    obtain ⟨T, hno, hj⟩ := F c j hl
    refine PE.weak (pe_xf (d := d) T hno hz.zc hz.fl (he.run W tk) hb) ?_
    rintro σ H Q ⟨G, δ, S, QD, XD, re, rl, h, q, kx⟩
    refine ⟨G, δ, S, _, XD, re, rl, h, fun G1 H1 S1 v x s1 r z => ?_, kx⟩
    cases r with
    | exn0 c' =>
      obtain ⟨rfl, hd, _, z⟩ := z
      rw [hl] at z
      exact False.elim z
    | @exn a' dd fs vs c' ds h1 h2 h3 h4 =>
      obtain ⟨rfl, hd, rfl, z⟩ := z
      rw [hl] at z
      have z' : (match ds[j]? with | some v => QD v S1 | none => False) := z
      cases hv : ds[j]? with
      | none => rw [hv] at z'; exact False.elim z'
      | some v =>
        rw [hv] at z'
        obtain ⟨u, hu, ru⟩ := h2.get hv
        exact ⟨rfl, rfl, dd, fs, u, hd.symm, s1.rel.at h1 rfl, h4 j fl u hj hu, q _ _ _ _ _ s1 ru z'⟩
    | _ => exact z.elim⟩
theorem de_isEZ {u : Value} {cv : V} {ce : Expr} (hg : Gl X "isinstance") (hm : X.mg "isinstance" = none) (hcv : ∀ v, RelV cv v → v = u) (hce : PE (X.suite a ((a, oe) :: pn)) ce (tC cv)) (T : IxOk X.K u tab) (hz : CgtZ X.K oe c d) (ha : PD (X.suite a ((a, oe) :: pn)) e te)
    (h1 : starEach (e :: [ce]) X.env = (false, eval e X.env) :: starEach [ce] X.env := by rfl) (h2 : starEach (ce :: []) X.env = (false, eval ce X.env) :: starEach [] X.env := by rfl) (h3 : (backTo pos (starEach [ce] X.env)).any (·.1) = false := by rfl) :
    PD (X.suite a ((a, oe) :: pn)) (.Call (.Name "isinstance" p) [e, ce] [] pos) (dIsE tab a d c te) := ⟨fun W tk => by
  cases hl : tab.lookup c with
  | none =>
    have k : CallR (X.suite a ((a, oe) :: pn)) (.builtin "isinstance") (fun _ _ _ => False) := fun pins s σ H xs us Q I r h => False.elim h
    refine PE.weak (pe_callB k hg hm (by decide +kernel) (pa_cons (ha.run W tk) (pa_cons hce pa_nil h2) h1) (he := h1) (hpl := h3)) ?_
    rintro σ H Q ⟨G, δ, S, QD, XD, re, rl, h, kq, kx⟩
    refine ⟨G, δ, S, _, XD, re, rl, h, fun G1 H1 S1 v x s1 r z => ?_, kx⟩
    cases r with
    | exn0 c' =>
      obtain ⟨rfl, hd, _, z⟩ := z
      rw [hl] at z
      exact False.elim z
    | exn _ _ _ _ =>
      obtain ⟨rfl, hd, _, z⟩ := z
      rw [hl] at z
      exact False.elim z
    | _ => exact z.elim
  | some b =>
    obtain ⟨C, hcl, hk⟩ := T c b hl
    refine PE.weak (pe_callB (call_isX C hcl hz.zc hz.fl) hg hm (by decide +kernel) (pa_cons (ha.run W tk) (pa_cons hce pa_nil h2) h1) (he := h1) (hpl := h3)) ?_
    rintro σ H Q ⟨G, δ, S, QD, XD, re, rl, h, kq, kx⟩
    refine ⟨G, δ, S, _, XD, re, rl, h, fun G1 H1 S1 v x s1 r z => ?_, kx⟩
    cases r with
    | exn0 c' =>
      obtain ⟨rfl, hd, rfl, z⟩ := z
      rw [hl] at z
      exact ⟨cv, u, b, rfl, hcv, hk, (fun dd e => by rw [← hd] at e; cases e), kq _ _ _ _ _ s1 (.bl b) z⟩
    | @exn a' dd fs vs c' ds g1 g2 g3 g4 =>
      obtain ⟨rfl, hd, rfl, z⟩ := z
      rw [hl] at z
      exact ⟨cv, u, b, rfl, hcv, hk, (fun dd' e => by rw [← hd] at e; cases e; exact ⟨fs, s1.rel.at g1 rfl⟩), kq _ _ _ _ _ s1 (.bl b) z⟩
    | _ => exact z.elim⟩
end
structure FnZ (P : Program) (w : World) (K : PySem.W.Frag) (mg : Str → Option Value) (base : Heap) (k : Nat) (f : Addr) (fd : FuncData) (ps : List Str) (sp : Sp) : Prop where
  arity : ∀ {vs H Q E}, sp vs H Q E → vs.length = ps.length
  runs : ∀ {A : Around} {outer : List Env} {s : Shared} {H : Hp} {args : Args} {us : List Value} {vs : List V} {Q : VK} {E : XK} (p : Addr × Obj), Env0 P w K mg base A outer s H → L2H.PinOk outer H s p → L2H.RoomH k A → Vals vs us → BindsTo s fd args (ps.zip us) → sp vs H Q E →
    codeAny (model P w) A (.call (.ref f) args) (CR (L2N.CX P w) outer P w H s Q E) s
section
variable {P : Program} {w : World} {mg : Str → Option Value} {base : Heap}
theorem fnTZ {x qual : Str} {params : Arguments} {body : List Stmt} {scope : Scope} {dvs : List V} {kws : List (Str × V)} {f : Addr} {fd : FuncData} {N ps : List Str} {k : Nat} {R : DSp} {t : DTS} (F : FunD K x qual params body scope dvs kws f fd) (Sc : FnScope N ps scope) (len : Ln ps.length R) (rd : Rd t N R)
    (hd : ∀ (cdv : Value) (A : Around) (outer : List Env) (s : Shared) (H : Hp) (E : XK) (p : Addr × Obj), L2H.RoomH k (A.deeper (envOfC qual scope s.heap.objs.size f cdv)) → PDSs (L2H.cxH (L2N.CX P w) P w K mg base N qual scope f cdv A outer s H E p) body t)
    (hps : ps.length ≤ N.length := by decide) : FnZ P w K mg base (k + 1) f fd ps (toSp K R) := by
  obtain ⟨_, _, _, _, _, _, _, cdv, _, _, rfl, lk, code, _⟩ := F.ex
  have ar : ∀ {vs H Q E}, toSp K R vs H Q E → vs.length = ps.length := fun ⟨_, _, _, _, _, _, rs, h, _⟩ => by rw [rs.length]; exact len _ _ _ _ h
  refine ⟨ar, fun {A outer s H args us vs Q E} p e0 pin rm vals bind h => ?_⟩
  have keepB : ∀ b o, base.get? b = some o → s.heap.get? b = some o := fun b o g => (e0.bs b o g).1
  have inK := e0.mod.kin.keeps keepB
  refine codeAny_call_function rm.depth (inK _ _ lk) rfl Sc.co Sc.gen rfl (PySem.W.codeRec_of inK code) <| bind _ _ _ _ <| wpAny_newFunctionEnv_cells Sc.kind (fun y hy => ?_) fun env he s1 inside => ?_
  · refine (Sc.par y.1 (List.of_mem_zip hy).1).imp id fun q => ⟨q, PySem.W.cellsFrom_some _ _ _ (.inl q)⟩
  · subst he
    refine ⟨(e0.mod.nolimit.keeps keepB).keeps inside.toInCall.keep, codeAny_func ?_⟩
    have I : Inv (L2H.cxH (L2N.CX P w) P w K mg base N qual scope f cdv A outer s H E p) [] (L2.start N vs) H s1 := L2H.inv_startH Sc pin e0 (ar h) vals inside
    obtain ⟨G, S, ds, QD, XD, rl, rs, hR, kq, kx⟩ := h
    have go := ((hd cdv A outer s H E p (rm.deeper _)).run (fun cls d _ H => E cls d H) (L2N.takes_of rfl rfl rfl rfl) (passes_of rfl)).run [] s1 _ _ ⟨fun _ H' => Q .non H', Q, fun _ _ => False, fun _ _ => False⟩ I
      ⟨G, startD N ds, S, _, startD_rpe rs (by rw [len _ _ _ _ hR]; exact hps), rl, rd ds S QD XD hR, fun _ _ _ _ _ st _ q => kq _ _ _ _ _ st .non q, fun _ _ _ _ _ st r q => kq _ _ _ _ _ st r q, fun _ _ _ _ _ _ _ q => q.elim, fun _ _ _ _ _ _ _ q => q.elim, fun _ _ _ _ _ _ _ _ st _ r q => kx _ _ _ _ _ _ st r q⟩
    refine wpAny_mono go (fun fl s' z => ?_) fun _ _ z => z
    cases fl with
    | next => obtain ⟨_, H', J, q⟩ := z; exact ⟨.non, H', J.os, J.bare, J.base, J.hok, rfl, q⟩
    | ret u => obtain ⟨v, _, H', J, r, q⟩ := z; exact ⟨v, H', J.os, J.bare, J.base, J.hok, r, q⟩
    | _ => exact z.elim fun _ z => z.elim fun _ z => z.2.elim
end
structure GfZ (P : Program) (w : World) (K : PySem.W.Frag) (mg : Str → Option Value) (base : Heap) (k : Nat) (x : Str) (ps : List Str) (R : DSp) : Prop where
  ex : ∃ f fd, FnZ P w K mg base k f fd ps (toSp K R) ∧ mg x = some (.ref f) ∧ PySem.W.keepIn K (.ref f) = true ∧ Binds K fd ps []
theorem de_callZ {X : Cx} {e : Expr} {es : List Expr} {pos p : Pos} {k j : Nat} {x : Str} {t : DTA} {ps : List Str} {R : DSp} {q : Addr × Obj} (F : GfZ X.prog X.w X.K X.mg X.base k x ps R) (hr : L2H.RoomH j X.A) (hq : q ∈ X.pn) (hg : Gl X x) (ha : PDA X (e :: es) t) (hkj : k ≤ j := by decide) (hdb : (x == ("__debug__" : Str)) = false := by decide)
    (he : stE X e es := by rfl) (hpl : plE X pos es := by rfl) : PD X (.Call (.Name x p) (e :: es) [] pos) (dCall R [] t) := ⟨fun W tk => ⟨fun pins s σ H Q I h => by
  obtain ⟨f, fd, F1, hm, hk, hb⟩ := F.ex
  have z := sim_call (W := W) (dvs := []) (fun _ => .nil) h
  simp only [List.append_nil] at z
  refine wpAny_Call_Name_kw (ld_glob I hg hm (PySem.W.callWith_K (h₀ := X.base) I.ok.mod.kin hk (thn ((ha.run W tk).run pos pins s σ H _ I z) fun us s1 ⟨vs, H1, J, r, h1⟩ => ⟨J.kIn, ?_⟩) he hpl) hdb)
  have n : us.length = ps.length := by rw [← r.length]; exact F1.arity h1
  have b := hb s1 us J.kIn (by simpa using n)
  rw [List.append_nil] at b
  obtain ⟨g0, fr0, nl, nf, nc⟩ := J.pin q (List.mem_append_left _ hq)
  refine wpAny_call (codeAny_mono (F1.runs (args := ⟨us, []⟩) q J.env0 ⟨g0, fr0, fun m => (List.mem_cons.mp (J.stkSub q.1 m)).elim nl nf, nc⟩ (hr.mono hkj) r b h1) fun rs s2 y => ?_)
  match rs, y with
  | .ok (.ret _), y => exact J.after y
  | .error er, y => exact L2N.passAt tk σ pins H1 s1 er s2 J y⟩⟩
end SM
namespace SM
open PySem PySem.Spec PyProof.Rows L2 HotX
variable {P : Program} {w : World} {K : PySem.W.Frag} {mg : Str → Option Value} {base : Heap}
theorem fnTWX {x qual : Str} {params : Arguments} {body : List Stmt} {scope : Scope} {dvs : List V} {kws : List (Str × V)} {f : Addr} {fd : FuncData} {N ps : List Str} {k : Nat} {R : DSp} {t : DTS} (F : FunD K x qual params body scope dvs kws f fd) (Sc : FnScope N ps scope)
    (len : Ln ps.length R) (rd : RdW t N R) (hd : ∀ (cdv : Value) (A : Around) (outer : List Env) (s : Shared) (H : Hp) (E : XK), Room k (A.deeper (envOfC qual scope s.heap.objs.size f cdv)) → PDSsX (cxOf (L2.CX P w) P w K mg base N qual scope f cdv A outer s H E) body t) (hps : ps.length ≤ N.length := by decide) : FnOk P w K mg base (L2.CX P w) (k + 1) f fd ps (toSp K R) :=
  FnOk.imp (fnTX F Sc (wid_len len) rd.rd hd hps) fun _ _ _ _ => toSp_wid
end SM
namespace SM
open PySem PySem.Spec PyProof.Rows L2
section
variable {P : Program} {w : World} {A : Around} {R : Result → Shared → Prop} {s : Shared} {kx vx ta ia tb ib : Expr} {fa fb : List Expr} {scope : Scope} {pos : Pos} {it acc : Value} {D : Addr} {env : Env}
end
section
variable {X : Cx}
end
end SM
namespace SM
open PySem PySem.Spec PyProof.Rows L2
variable {K : PySem.W.Frag} {G G' G2 H H' H2 G0 H0 : Hp} {S S' S2 S0 : Sto}
def dDc2L (gd : Gd) (q : Pat) (tt : DTT) (ti1 : DTI) (q1 : Pat) (tt1 : DTT) (tk tv : DTE) (vs1 : List Nat) (δ : DS) : List D → List (List Key × D) → Sto → (List (List Key × D) → Sto → Prop) → Prop
  | [], a, S, Q => gok gd S ∧ Q a S
  | x :: r, a, S, Q => gok gd S ∧ match bindP q x δ with
    | some δ2 => tt δ2 S (fun b S3 => brn b (ti1 δ2 S3 (fun gd1 ys S4 => ys.length ≤ 1000 ∧ dDcL gd1 q1 tt1 tk tv (uns δ2 vs1) ys a S4 (fun a' S5 => dDc2L gd q tt ti1 q1 tt1 tk tv vs1 δ r a' S5 Q)) noX) (dDc2L gd q tt ti1 q1 tt1 tk tv vs1 δ r a S3 Q)) noX
    | none => False
structure dc2K (gd : Gd) (q : Pat) (tt : DTT) (ti1 : DTI) (q1 : Pat) (tt1 : DTT) (tk tv : DTE) (vs1 : List Nat) (δ : DS) (xs : List D) (S : Sto) (Q : List (List Key × D) → Sto → Prop) : Prop where
  it : xs.length ≤ 1000 ∧ dDc2L gd q tt ti1 q1 tt1 tk tv vs1 δ xs [] S Q
section
variable {W : WX}
end
section
variable {X : Cx} {k : Nat} {kx vx tg iter tg1 iter1 : Expr} {ifs ifs1 : List Expr} {scope : Scope} {own : List (Str × Nat)} {vs1 : List Nat} {ti ti1 : DTI} {q q1 : Pat} {tt tt1 : DTT} {tk tv : DTE} {pos : Pos}
end
end SM
namespace SM
open PySem PySem.Spec PyProof.Rows L2
variable {K : PySem.W.Frag} {G G' G2 H H' H2 G0 H0 : Hp} {S S' S2 S0 : Sto}
section
variable {X : Cx} {W : WX}
end
end SM
namespace SM
open PySem PySem.Spec PyProof.Rows L2
variable {K : PySem.W.Frag} {G G' G2 H H' H2 : Hp} {S S' S2 : Sto}
structure Gid (P : Program) (w : World) (K : PySem.W.Frag) (mg : Str → Option Value) (base : Heap) (k : Nat) (c : Nat) (x : Str) (ps : List Str) (dds : List D) (R : DSp) : Prop where
  ex : ∃ f fd dvs ds, FnOk P w K mg base (L2N.CX P w) k f fd ps (toSp K R) ∧ mg x = some (.ref (cad K c)) ∧ Mk K (cad K c) f ∧ Binds K fd ps ds ∧ Vals dvs ds ∧ ∀ G, Rps K G dvs dds
section
variable {X : Cx} {e : Expr} {es : List Expr} {pos p : Pos} {k j c : Nat} {x : Str} {t : DTA} {ps : List Str} {R : DSp} {dds : List D}
end
section
variable {x qual : Str} {params : Arguments} {body : List Stmt} {scope : Scope} {dvs : List V} {kws : List (Str × V)} {f : Addr} {fd : FuncData} {ps : List Str}
end
end SM
namespace SM
open PySem PySem.Spec PyProof.Rows L2
section
variable {X : Cx} {k : Nat} {y : Str} {py : Pos} {kx vx tg iter tg1 iter1 elt : Expr} {ifs ifs1 : List Expr} {scope : Scope} {own : List (Str × Nat)} {vj vs1 : List Nat} {pos spos : Pos}
variable {ti ti1 : DTI} {q q1 : Pat} {tt tt1 : DTT} {tk tv te : DTE}
end
end SM
namespace SM
open PySem PySem.Spec PyProof.Rows L2
section
variable {X : Cx} {k : Nat} {y : Str} {py : Pos} {kx vx tg iter : Expr} {ifs : List Expr} {scope : Scope} {own : List (Str × Nat)} {pos spos : Pos}
variable {ti : DTI} {q : Pat} {tt : DTT} {tk tv : DTE}
end
end SM
namespace SM
open PySem PySem.Spec PyProof.Rows L2
section
variable {prog : Program} {w : World} {A : Around} {E : Value → Shared → Prop} {s : Shared}
end
structure TurnH (X : Cx) (tg : Expr) (J : It) (fp : List Addr) (it : Addr) (tn : Nat → Heap → Prop) : Prop where
  obj : ∀ i h, tn i h → ∀ b ∈ fp, ∃ o, h.get? b = some o ∧ ∀ v, o.data ≠ .cell v
  keep : ∀ i h h', tn i h → (∀ b ∈ fp, ∀ o, h.get? b = some o → h'.get? b = some o) → tn i h'
  item : ∀ (i : Nat) (pins : List (Addr × Obj)) (s : Shared) (σ : L2.St) (H : Hp) (E : Value → Shared → Prop), Inv X pins σ H s → (∀ b ∈ fp, FpOk X pins H b) → tn i s.heap → J.go i H →
    wpAny (model X.prog X.w) X.A (pyNext (.ref it)) (fun r s1 => ∃ u, r = some u ∧
      wpAny (model X.prog X.w) X.A (letOwnedTupleGo tg (.ref it) u) (fun _ s2 => ∃ x H', Inv X pins σ H' s2 ∧ RelV x u ∧ J.yld i H x H' ∧ tn (i + 1) s2.heap ∧ ∀ b ∈ fp, H' b = none) E s1) E s
  done : ∀ (i : Nat) (pins : List (Addr × Obj)) (s : Shared) (σ : L2.St) (H : Hp) (E : Value → Shared → Prop), Inv X pins σ H s → (∀ b ∈ fp, FpOk X pins H b) → tn i s.heap → J.stop i H →
    wpAny (model X.prog X.w) X.A (pyNext (.ref it)) (fun r s1 => r = none ∧ Inv X pins σ H s1) E s
section
variable {X : Cx} {tg : Expr}
def PIEH (X : Cx) (pins : List (Addr × Obj)) (σ : L2.St) (tg : Expr) (R : It → Hp → Prop) (itv : Value) (s2 : Shared) : Prop :=
  ∃ (it : Addr) (fp : List Addr) (tn : Nat → Heap → Prop) (J : It) (H' : Hp), itv = .ref it ∧ Inv X pins σ H' s2 ∧ TurnH X tg J fp it tn ∧ tn 0 s2.heap ∧ (∀ b ∈ fp, FpOk X pins H' b) ∧ R J H'
structure PIH (X : Cx) (tg iter : Expr) (wi : TI) : Prop where
  run : ∀ (pins : List (Addr × Obj)) (s : Shared) (σ : L2.St) (H : Hp) (R : It → Hp → Prop), Inv X pins σ H s → wi σ H R →
    wpAny (model X.prog X.w) X.A (eval iter X.env) (fun v s1 => wpAny (model X.prog X.w) X.A (pyIter v) (PIEH X pins σ tg R) X.xe s1) X.xe s
theorem PIH.weak {iter : Expr} {t t' : TI} (h : PIH X tg iter t) (w : ∀ σ H R, t' σ H R → t σ H R) : PIH X tg iter t' := ⟨fun pins s σ H R I q => h.run pins s σ H R I (w σ H R q)⟩
structure PDIH (X : Cx) (tg iter : Expr) (ti : DTI) : Prop where
  run : ∀ W, L2N.Takes X W → PIH X tg iter (liftI X.K W ti)
end
end SM
namespace SM
open PySem PySem.Spec PyProof.Rows L2
end SM
namespace SM
open PySem PySem.Spec PyProof.Rows L2
end SM
namespace SM
open PySem PySem.Spec PyProof.Rows L2
noncomputable section
namespace SD
end SD
end
end SM
namespace SM
open PySem PySem.Spec PyProof.Rows L2
section
variable {X : Cx} {o ke : Expr} {pos apos kpos : Pos} {k j n : Nat} {m kx : Str} {to tke : DTE} {T : List (Nat × DSp)} {dds : List D}
end
end SM
namespace SM
open PySem PySem.Spec PyProof.Rows L2
noncomputable section
namespace SD
end SD
end
end SM
open PySem PySem.Spec PyProof.Rows L2 SM
local macro_rules | `(tactic| row_hasAll w_d1) => `(tactic| (try (conv => whnf)); first
  | refine vk_int ?_ | refine vk_lst ?_ | refine vk_str ?_ | refine vk_tup ?_ | refine vk_ins ?_ | refine vk_bl ?_ | refine vk_non ?_ | refine vk_dT ?_
  | refine vk_o (by row_hasAll w_sto) ?_
  | refine tab_r rfl ?_ | refine tabv_r rfl ?_ | refine itk_of rfl ?_ | refine ik_0 ?_ | refine brT ?_ | refine brF ?_
  | refine ok_o (by row_hasAll w_sto) ?_
  | refine And.intro (by first | rfl | decide | omega | assumption | exact Nat.le_of_ble_eq_true rfl) ?_)
local macro_rules | `(tactic| row_hasAll w_d) => `(tactic| (repeat row_hasAll w_d1); (try (conv => whnf)); try simp only [su_su, ofO, List.append_nil, List.nil_append, List.cons_append, Int.reduceToNat, List.set_cons_succ, List.set_cons_zero])
local macro_rules | `(tactic| row_hasAll w_sto) => `(tactic| first | exact su_same | assumption | (rw [su_ne (by first | assumption | exact Ne.symm (by assumption))]; row_hasAll w_sto))
local macro_rules | `(tactic| row_hasAll w_steq) => `(tactic| (funext zz; simp only [su, sd, List.map_nil, List.map_append, List.map_cons]; grind))
local macro_rules | `(tactic| row_hasAll w_side) => `(tactic| first
  | omega
  | (fail_if_success (with_reducible refine Nat.le_trans ?_ (Nat.le_refl sizeLine))); first | rfl | assumption | decide | exact Nat.le_of_ble_eq_true rfl
  | (simp only [List.length_cons, List.length_nil, List.length_map, List.length_append, slen_app, sizeLine_eq]; omega))
local macro_rules | `(tactic| row_hasAll w_e1) => `(tactic| (try (conv => whnf)); first
  | refine vk_int ?_ | refine vk_lst ?_ | refine vk_str ?_ | refine vk_tup ?_ | refine vk_ins ?_ | refine vk_bl ?_ | refine vk_non ?_ | refine vk_dT ?_
  | refine vk_o (by row_hasAll w_sto) ?_
  | refine tab_r rfl ?_ | refine tabv_r rfl ?_ | refine itk_of rfl ?_ | refine ik_0 ?_ | refine brT ?_ | refine brF ?_
  | refine ok_o (by row_hasAll w_sto) ?_
  | refine And.intro (by row_hasAll w_side) ?_)
local macro_rules | `(tactic| row_hasAll w_e) => `(tactic| (repeat row_hasAll w_e1); (try (conv => whnf)); try simp only [decide_true, decide_false, Bool.not_true, Bool.not_false, su_su, ofO, List.append_nil, List.nil_append, List.cons_append, Int.reduceToNat, List.set_cons_succ, List.set_cons_zero])
local macro_rules | `(tactic| row_hasAll w_env) => `(tactic| ((try simp only [startD, put_0, put_s, setO_0, setO_s, sets_n, sets_c, gets_n, gets_c, nth_0, nth_s]); (try rfl)))
local macro_rules | `(tactic| row_hasAll w_w) => `(tactic| row_hasAll w_e; repeat (first | (row_hasAll w_c; row_hasAll w_e) | (row_hasAll w_e1; row_hasAll w_e)))
namespace SM
open PySem PySem.Spec PyProof.Rows L2
theorem fresh {S : Sto} {p l : Addr} {o : OO} (h : su S p o l = none) : l ≠ p ∧ S l = none := by
  unfold su at h
  split at h
  · cases h
  · rename_i e; exact ⟨e, h⟩
def t_l_bag (a : Addr) (ns : List Int) : DTS := (dRet (dLstO (dCons (dLc (dItems (dSl (oScr a ns) (dVar 0) dNoPart (dPart (dC (.int 63))))) (.nm 1) dYes (dCB (on1 intD) (dCons (dVar 1) dNil)) [1]) (dCons (dC (.int 0)) (dCons (dC (.int 0)) (dCons (dC (.int 7)) dNil))))))
abbrev N_l_bag : List Str := ["_law_script", "_law_cell"]
@[irreducible] def r_l_bag (a : Addr) (ns : List Int) : DSp := fun ds S Q _ => ds = [.adr a] ∧ ∀ p b, S p = none → Q (.adr p) (su S p (bagO b))
theorem len_l_bag (a : Addr) (ns : List Int) : Ln 1 (r_l_bag a ns) := fun ds S Q E h => by unfold r_l_bag at h; rw [h.1]; rfl
theorem cut63 (ns : List Int) (h : ns.length ≤ 63) : cutD (ns.map D.int) none (some 63) = ns.map D.int := by
  unfold SM.cutD
  have e : HT.sIx (ns.map D.int).length (ns.map D.int).length (some 63) = min 63 (ns.map D.int).length := HT.sIx_nat _ _ 63
  rw [HT.sIx_none, e, List.length_map, List.drop_zero, Nat.sub_zero, Nat.min_eq_right h]
  exact List.take_of_length_le (by rw [List.length_map]; exact Nat.le_refl _)
theorem rd_l_bag (a : Addr) (ns : List Int) (hn : ns.length ≤ 63) : Rd (t_l_bag a ns) N_l_bag (r_l_bag a ns) := by
  intro ds S QD XD h
  unfold r_l_bag at h
  obtain ⟨rfl, q⟩ := h
  row_hasAll w_d
  rw [cut63 ns hn]
  refine lk_map (f := D.int) (fun n _ => ⟨_, rfl, fun Q' h => ?_⟩) ?_
  · row_hasAll w_d
    exact h
  · row_hasAll w_d
    intro p hp
    exact q p ⟨ns, 0, 0, 7⟩ hp
theorem i_bag {a : Addr} {ns : List Int} {S : Sto} {Q : DQ} {X : XQ} (h : ∀ p b, S p = none → Q (.adr p) (su S p (bagO b))) : r_l_bag a ns [.adr a] S Q X := by unfold r_l_bag; exact ⟨rfl, h⟩
def t_l_take : DTS := (dCut (dIf (dAnd (dTestB (dOp oEq (dOp oIx (dVar 0) (dC (.int 2))) (dC (.int 0)))) (dTestB (dOp oLt (dOp oIx (dVar 0) (dC (.int 1))) (dCB (on1 lenD) (dCons (dOp oIx (dVar 0) (dC (.int 0))) dNil))))) (dSeq (dSet 2 (dOp oIx (dOp oIx (dVar 0) (dC (.int 0))) (dOp oIx (dVar 0) (dC (.int 1))))) (dSeq (dSetL (dVar 0) (dC (.int 1)) (dOp oAdd (dOp oIx (dVar 0) (dC (.int 1))) (dC (.int 1)))) (dIf (dTestB (dOp oGe (dVar 2) (dOp oPow (dC (.int 10)) (dC (.int 18))))) (dSetL (dVar 0) (dC (.int 2)) (dVar 2)) (dSetL (dVar 0) (dC (.int 3)) (dOp oMod (dCB (on1 intD) (dCons (dOp oAdd (dOp oAdd (dOp oMul (dOp oIx (dVar 0) (dC (.int 3))) (dC (.int 48271))) (dOp oMul (dVar 2) (dC (.int 69621)))) (dC (.int 12345))) dNil)) (dC (.int 2147483647))))))) dNext) (dSeq (dIf (dTestB (dOp oGt (dOp oIx (dVar 0) (dC (.int 2))) (dC (.int 0)))) (dSeq (dSet 3 (dOp oMod (dCB (on1 intD) (dCons (dOp oIx (dVar 0) (dC (.int 2))) dNil)) (dVar 1))) (dSeq (dSetL (dVar 0) (dC (.int 2)) (dOp oFdiv (dOp oIx (dVar 0) (dC (.int 2))) (dVar 1))) (dRet (dVar 3)))) dNext) (dSeq (dSetL (dVar 0) (dC (.int 3)) (dOp oMod (dCB (on1 intD) (dCons (dOp oAdd (dOp oMul (dOp oIx (dVar 0) (dC (.int 3))) (dC (.int 48271))) (dC (.int 11))) dNil)) (dC (.int 2147483647)))) (dRet (dOp oMod (dCB (on1 intD) (dCons (dOp oFdiv (dOp oIx (dVar 0) (dC (.int 3))) (dC (.int 16))) dNil)) (dVar 1))))))
abbrev N_l_take : List Str := ["_law_bag_here", "_law_size", "_law_cell", "_law_digit"]
@[irreducible] def r_l_take : DSp := fun ds S Q _ => ∃ a b n, ds = [.adr a, .int n] ∧ S a = some (bagO b) ∧ 0 < n ∧ n < 1073741824 ∧ ∀ v b', 0 ≤ v → v < n → Q (.int v) (su S a (bagO b'))
theorem len_l_take : Ln 2 r_l_take := fun ds S Q E h => by unfold r_l_take at h; obtain ⟨a, b, n, rfl, _⟩ := h; rfl
theorem rd_l_take : Rd t_l_take N_l_take r_l_take := by
  intro ds S QD XD h
  unfold r_l_take at h
  obtain ⟨a, b, n, rfl, hS, h0, h1, q⟩ := h
  refine ⟨fun δ' S' => ∃ b' x y, δ' = [some (.adr a), some (.int n), x, y] ∧ S' = su S a (bagO b'), ?_, ?_⟩
  · unfold bagO at hS
    have fin : ∀ x y, ∃ b' x' y', [some (D.adr a), some (.int n), x, y] = [some (.adr a), some (.int n), x', y'] ∧ S = su S a (bagO b') := fun x y => ⟨b, x, y, rfl, (su_self hS).symm⟩
    row_hasAll w_d
    refine brn_of (fun hb => ?_) (fun _ => brF (fin _ _))
    row_hasAll w_d
    refine brP (fun hc => ?_) (fun _ => fin _ _)
    have hc' : b.at_ < b.cells.length := by simpa using hc
    row_hasAll w_d
    refine ik_map hc' ?_
    row_hasAll w_d
    refine brP (fun hd => ?_) (fun hd => ?_)
    · row_hasAll w_d
      exact ⟨⟨b.cells, b.at_ + 1, _, b.seed⟩, _, _, rfl, rfl⟩
    · row_hasAll w_d
      exact ⟨⟨b.cells, b.at_ + 1, b.big, _⟩, _, _, rfl, rfl⟩
  · rintro δ' S' ⟨b', x, y, rfl, rfl⟩
    have hS' : su S a (bagO b') a = some (bagO b') := su_same
    unfold bagO at hS' ⊢
    row_hasAll w_d
    refine brP (fun hb => ?_) (fun _ => ?_)
    · row_hasAll w_d
      exact q (b'.big % n) ⟨b'.cells, b'.at_, b'.big / n, b'.seed⟩ (Int.emod_nonneg _ (by omega)) (Int.emod_lt_of_pos _ h0)
    · row_hasAll w_d
      exact q _ ⟨b'.cells, b'.at_, b'.big, (b'.seed * 48271 + 11) % 2147483647⟩ (Int.emod_nonneg _ (by omega)) (Int.emod_lt_of_pos _ h0)
theorem i_take {a : Addr} {b : Bag} {n : Int} {S : Sto} {Q : DQ} {X : XQ} (hS : S a = some (bagO b)) (h0 : 0 < n) (h1 : n < 1073741824) (q : ∀ v b', 0 ≤ v → v < n → Q (.int v) (su S a (bagO b'))) : r_l_take [.adr a, .int n] S Q X := by
  unfold r_l_take; exact ⟨a, b, n, rfl, hS, h0, h1, q⟩
theorem i_takeB {a : Addr} {b : Bag} {n : Int} {S : Sto} {Q : DQ} {X : XQ} (h0 : 0 < n) (h1 : n < 1073741824) (q : ∀ v b', 0 ≤ v → v < n → Q (.int v) (su S a (bagO b'))) : r_l_take [.adr a, .int n] (su S a (bagO b)) Q X :=
  i_take su_same h0 h1 fun v b' x y => by rw [su_su]; exact q v b' x y
def t_l_is_int : DTS := (dRet (dAndV (dUn (isiD ti_int) (dVar 0)) (dNotV (dUn (isiD ti_bool) (dVar 0)))))
abbrev N_l_is_int : List Str := ["_law_value"]
@[irreducible] def r_l_is_int : DSp := fun ds S Q _ => ∃ n, ds = [.int n] ∧ Q (.bl true) S
theorem len_l_is_int : Ln 1 r_l_is_int := fun ds S Q E h => by unfold r_l_is_int at h; obtain ⟨n, rfl, _⟩ := h; rfl
theorem rd_l_is_int : Rd t_l_is_int N_l_is_int r_l_is_int := by
  intro ds S QD XD h
  unfold r_l_is_int at h
  obtain ⟨n, rfl, q⟩ := h
  row_hasAll w_d
  exact q
theorem i_is_int {n : Int} {S : Sto} {Q : DQ} {X : XQ} (h : Q (.bl true) S) : r_l_is_int [.int n] S Q X := by unfold r_l_is_int; exact ⟨n, rfl, h⟩
def isL (S : Sto) (d : D) (l : List D) : Prop := d = .lst l ∨ ∃ a, d = .adr a ∧ S a = some (.lst l)
theorem isL.vw {S : Sto} {d : D} {l : List D} (h : isL S d l) : vw S d = .lst l := by
  rcases h with rfl | ⟨a, rfl, h⟩
  · rfl
  · rw [vw_own h]
theorem inB_prs (c : Cell) (a : List Cell) : inB (pr c) (.lst (a.map pr)) = some (decide (c ∈ a)) := by
  have e : (pln 8 (pr c) && plns 8 (a.map pr)) = true := by rw [plns_prs 6 a]; rfl
  unfold inB
  simp only [e, any_pr]
end SM
--#ONETAC
local macro_rules | `(tactic| row_hasAll w_c) => `(tactic| first
  | refine i_is_int ?_
  | refine i_is_cell ?_
  | refine i_is_cells ?_
  | refine i_reading ?_
  | refine i_once (by row_hasAll w_side) ?_)
namespace SM
open PySem PySem.Spec PyProof.Rows L2
def cellT (c : Cell) : Str := (toString c.1 : Str) ++ "," ++ (toString c.2 : Str)
end SM
--#ONETAC
local macro_rules | `(tactic| row_hasAll w_c) => `(tactic| first
  | refine mk_region (by row_hasAll w_side) ?_
  | refine i_cells ?_
  | refine i_inR ?_
  | refine i_lenR (by row_hasAll w_side) ?_
  | refine i_eqR ?_
  | refine i_boolR ?_)
namespace SM
open PySem PySem.Spec PyProof.Rows L2
end SM
--#ONETAC
local macro_rules | `(tactic| row_hasAll w_c) => `(tactic| first
  | refine i_region_is ?_)
namespace SM
open PySem PySem.Spec PyProof.Rows L2
abbrev row (cs : List Cell) : List Cell := roSort (once cs)
end SM
--#ONETAC
local macro_rules | `(tactic| row_hasAll w_c) => `(tactic| first
  | refine i_Ror (by row_hasAll w_side) (by row_hasAll w_side) ?_
  | refine i_Rand (by row_hasAll w_side) (by row_hasAll w_side) ?_
  | refine i_Rsub (by row_hasAll w_side) (by row_hasAll w_side) ?_
  | refine i_within ?_)
namespace SM
open PySem PySem.Spec PyProof.Rows L2
def letB (c : Nat) : Bool := decide (97 ≤ c ∧ c ≤ 122)
def stoneB (s : Str) : Bool := match s.cps.toList with
  | [c] => letB c
  | _ => false
def signB (s : Str) : Bool := match s.cps.toList with
  | [c] => decide (c = 46) || letB c
  | _ => false
def t_p_is_stone : DTS := (dRet (dAndV (dOp oEq (dCB (on1 lenD) (dCons (dVar 0) dNil)) (dC (.int 1))) (dOp oIn (dVar 0) (dC (.str "abcdefghijklmnopqrstuvwxyz")))))
abbrev N_p_is_stone : List Str := ["sign"]
@[irreducible] def r_p_is_stone : DSp := fun ds S Q _ => ∃ s, ds = [.str s] ∧ Q (.bl (stoneB s)) S
theorem len_p_is_stone : Ln 1 r_p_is_stone := fun ds S Q E h => by unfold r_p_is_stone at h; obtain ⟨a, rfl, _⟩ := h; rfl
theorem rd_p_is_stone : Rd t_p_is_stone N_p_is_stone r_p_is_stone := by
  intro ds S QD XD h
  unfold r_p_is_stone at h
  obtain ⟨s, rfl, q⟩ := h
  row_hasAll w_d
  refine brP (c := ((s.length : Nat) : Int) = 1) (fun h1 => ?_) (fun h1 => ?_)
  · row_hasAll w_d
    have hl : s.cps.toList.length = 1 := by
      have : s.cps.size = 1 := by exact_mod_cast h1
      simpa using this
    obtain ⟨c, hc⟩ := List.length_eq_one_iff.mp hl
    have e : inS s (Str.ofString "abcdefghijklmnopqrstuvwxyz") = stoneB s := by
      unfold inS stoneB
      rw [hc]
      show decide (c ∈ [97, 98, 99, 100, 101, 102, 103, 104, 105, 106, 107, 108, 109, 110, 111, 112, 113, 114, 115, 116, 117, 118, 119, 120, 121, 122]) = decide (97 ≤ c ∧ c ≤ 122)
      refine decide_eq_decide.mpr ⟨fun h => ?_, fun h => ?_⟩
      · simp at h; omega
      · simp; omega
    rw [e]
    exact q
  · have e : stoneB s = false := by
      unfold stoneB
      split
      · rename_i c hc
        exfalso
        apply h1
        have : s.cps.size = 1 := by rw [← Array.length_toList, hc]; rfl
        exact_mod_cast this
      · rfl
    rw [e] at q
    exact q
theorem i_stone {s : Str} {S : Sto} {Q : DQ} {X : XQ} (h : Q (.bl (stoneB s)) S) : r_p_is_stone [.str s] S Q X := by unfold r_p_is_stone; exact ⟨s, rfl, h⟩
theorem str_ext {s t : Str} (h : s.cps.toList = t.cps.toList) : s = t := by
  obtain ⟨a⟩ := s
  obtain ⟨b⟩ := t
  exact congrArg Str.mk (Array.toList_inj.mp h)
def rowB (r : Str) (w : Int) : Bool := decide ((r.length : Int) = w ∧ 1 ≤ w ∧ w ≤ 8) && r.cps.toList.all fun c => signB (one c)
theorem enumD_map {α : Type} (f : α → D) : ∀ (n : Nat) (l : List α), enumD n (l.map f) = (l.zipIdx n).map fun p => .tup [.int (p.2 : Nat), f p.1]
  | _, [] => rfl
  | n, x :: r => by rw [List.map_cons, enumD, enumD_map f (n + 1) r, List.zipIdx_cons, List.map_cons]
def wid (rows : List Str) : Int := match rows with
  | r :: _ => (r.length : Nat)
  | [] => 0
def badFrom (w : Int) : Nat → List Str → Option Nat
  | _, [] => none
  | i, r :: l => if 8 ≤ i ∨ rowB r w = false then some (i + 1) else badFrom w (i + 1) l
def bad (rows : List Str) : Option Nat := if rows = [] then some 1 else badFrom (wid rows) 0 rows
end SM
--#ONETAC
local macro_rules | `(tactic| row_hasAll w_c) => `(tactic| first
  | refine i_stone ?_
  | refine i_sign ?_
  | refine i_row ?_)
namespace SM
open PySem PySem.Spec PyProof.Rows L2
structure Grid (rows : List Str) : Prop where
  ne : rows ≠ []
  le : rows.length ≤ 8
  w1 : 1 ≤ wid rows
  w8 : wid rows ≤ 8
  row : ∀ r ∈ rows, (r.length : Int) = wid rows ∧ ∀ c ∈ r.cps.toList, signB (one c) = true
theorem rowB_ok {r : Str} {w : Int} (h1 : 1 ≤ w) (h8 : w ≤ 8) (h : (r.length : Int) = w ∧ ∀ c ∈ r.cps.toList, signB (one c) = true) : rowB r w = true := by
  unfold rowB
  rw [decide_eq_true ⟨h.1, h1, h8⟩, Bool.true_and, List.all_eq_true]
  exact h.2
theorem badFrom_none {w : Int} : ∀ {l : List Str} {i : Nat}, i + l.length ≤ 8 → (∀ r ∈ l, rowB r w = true) → badFrom w i l = none
  | [], _, _, _ => rfl
  | r :: l, i, hl, h => by
    simp only [List.length_cons] at hl
    rw [badFrom, if_neg (by rw [h r (List.mem_cons_self ..)]; simp; omega)]
    exact badFrom_none (by omega) fun z hz => h z (List.mem_cons_of_mem _ hz)
theorem Grid.bad {rows : List Str} (g : Grid rows) : bad rows = none := by
  unfold SM.bad
  rw [if_neg g.ne]
  exact badFrom_none (by have := g.le; omega) fun r hr => rowB_ok g.w1 g.w8 (g.row r hr)
def inP (rows : List Str) (x y : Int) : Bool := decide ((0 ≤ x ∧ x < wid rows) ∧ (0 ≤ y ∧ y < (rows.length : Nat)))
def sgnAt (rows : List Str) (x y : Int) : Str := if inP rows x y = true then (match rows[y.toNat]? with
  | some r => (match r.cps.toList[x.toNat]? with
    | some c => one c
    | none => "#")
  | none => "#") else "#"
theorem Grid.get {rows : List Str} (g : Grid rows) {x y : Int} (h : inP rows x y = true) : ∃ r c, rows[y.toNat]? = some r ∧ r.cps.toList[x.toNat]? = some c ∧ r ∈ rows ∧ c ∈ r.cps.toList ∧ sgnAt rows x y = one c := by
  have h' := of_decide_eq_true (show decide ((0 ≤ x ∧ x < wid rows) ∧ (0 ≤ y ∧ y < (rows.length : Nat))) = true from h)
  have hy : y.toNat < rows.length := by omega
  have hm : rows[y.toNat] ∈ rows := List.getElem_mem hy
  have hl := (g.row _ hm).1
  have hx : x.toNat < (rows[y.toNat]).cps.toList.length := by
    rw [Array.length_toList]
    have : ((rows[y.toNat]).cps.size : Int) = wid rows := hl
    omega
  refine ⟨rows[y.toNat], (rows[y.toNat]).cps.toList[x.toNat], by simp [hy], by rw [List.getElem?_eq_getElem hx], hm, List.getElem_mem hx, ?_⟩
  unfold sgnAt
  rw [if_pos h, List.getElem?_eq_getElem hy]
  simp only
  rw [List.getElem?_eq_getElem hx]
theorem ik_at {α : Type} {xs : List α} {i : Int} {v : α} {kk : α → Prop} (h0 : 0 ≤ i) (h : xs[i.toNat]? = some v) (q : kk v) : itk xs i kk := by
  obtain ⟨n, rfl⟩ : ∃ n : Nat, i = n := ⟨i.toNat, by omega⟩
  exact itk_of (atI_nat h) q
end SM
--#ONETAC
local macro_rules | `(tactic| row_hasAll w_c) => `(tactic| first
  | refine mk_picG (.inl rfl) (by assumption) ?_
  | refine i_contains ?_
  | refine ik_at (by decide) rfl ?_
  | refine i_getP (by assumption) ?_
  | refine i_linesO fun p hp => fz_new hp ?_)
namespace SM
open PySem PySem.Spec PyProof.Rows L2
def cellsOf (p : Nat → Bool) (rows : List Str) : List Cell := rows.zipIdx.flatMap fun ry => (ry.1.cps.toList.zipIdx.filter fun cx => p cx.1).map fun cx => ((cx.2 : Int), (ry.2 : Int))
theorem mem_zi {α : Type} {l : List α} {x : α × Nat} (h : x ∈ l.zipIdx) : x.1 ∈ l := by
  obtain ⟨a, i⟩ := x
  rw [List.mem_zipIdx_iff_getElem?] at h
  exact List.mem_of_getElem? h
theorem cells_len {p : Nat → Bool} : ∀ {rows : List Str} {n : Nat}, (∀ r ∈ rows, r.length ≤ n) → (cellsOf p rows).length ≤ rows.length * n := by
  intro rows n h
  unfold cellsOf
  rw [List.length_flatMap]
  have e : rows.length = rows.zipIdx.length := by rw [List.length_zipIdx]
  rw [e]
  refine sum_le _ n rows.zipIdx fun ry hr => ?_
  rw [List.length_map]
  refine Nat.le_trans (List.length_filter_le ..) ?_
  rw [List.length_zipIdx, Array.length_toList]
  exact h _ (mem_zi hr)
theorem enumS_map (z : Str) : enumS z = z.cps.toList.zipIdx.map fun cx => .tup [.int (cx.2 : Nat), .str (one cx.1)] := by
  unfold enumS
  rw [enumD_map]
theorem Grid.cl {rows : List Str} (g : Grid rows) (p : Nat → Bool) : (cellsOf p rows).length ≤ 64 := by
  have h1 := cells_len (p := p) (rows := rows) (n := 8) (fun r hr => by have := (g.row r hr).1; have := g.w8; omega)
  have := g.le
  omega
theorem Grid.rl {rows : List Str} (g : Grid rows) {r : Str} (hr : r ∈ rows) : r.cps.toList.length ≤ 8 := by
  have h1 := (g.row r hr).1
  have h2 := g.w8
  rw [Array.length_toList]
  have : (r.cps.size : Int) = wid rows := h1
  omega
end SM
--#ONETAC
local macro_rules | `(tactic| row_hasAll w_c) => `(tactic| first
  | refine i_stones (by assumption) ?_
  | refine i_holes (by assumption) ?_
  | refine i_lenP (by assumption) ?_
  | refine i_strP (by assumption) ?_)
namespace SM
open PySem PySem.Spec PyProof.Rows L2
theorem spl_mem {S0 : List Nat} : ∀ {l : List Nat} {k : Nat} {acc : List Nat} {p : List Nat}, p ∈ TL.spl S0 k acc l → p.length ≤ acc.length + l.length ∧ ∀ c ∈ p, c ∈ acc ∨ c ∈ l
  | [], k, acc, p, h => by
    rw [TL.spl_nil] at h
    simp at h
    subst h
    exact ⟨by simp, fun c hc => .inl hc⟩
  | c :: r, 0, acc, p, h => by
    cases e : TL.pre S0 (c :: r) with
    | true =>
      rw [TL.spl_hit e] at h
      rcases List.mem_cons.mp h with rfl | h
      · exact ⟨by omega, fun c hc => .inl hc⟩
      · obtain ⟨h1, h2⟩ := spl_mem h
        exact ⟨by simp at h1 ⊢; omega, fun d hd => by rcases h2 d hd with z | z; simp at z; exact .inr (List.mem_cons_of_mem _ z)⟩
    | false =>
      rw [TL.spl_miss e] at h
      obtain ⟨h1, h2⟩ := spl_mem h
      refine ⟨by simp at h1 ⊢; omega, fun d hd => ?_⟩
      rcases h2 d hd with z | z
      · rcases List.mem_append.mp z with z | z
        · exact .inl z
        · simp at z; subst z; exact .inr (List.mem_cons_self ..)
      · exact .inr (List.mem_cons_of_mem _ z)
  | c :: r, k + 1, acc, p, h => by
    obtain ⟨h1, h2⟩ := spl_mem (l := r) (k := k) (acc := acc) h
    exact ⟨by simp; omega, fun d hd => (h2 d hd).imp id (List.mem_cons_of_mem _)⟩
theorem spl_len {S0 : List Nat} : ∀ {l : List Nat} {k : Nat} {acc : List Nat}, (TL.spl S0 k acc l).length ≤ l.length + 1
  | [], k, acc => by rw [TL.spl_nil]; simp
  | c :: r, 0, acc => by
    cases e : TL.pre S0 (c :: r) with
    | true => rw [TL.spl_hit e]; have := spl_len (S0 := S0) (l := r) (k := S0.length - 1) (acc := []); simp; omega
    | false => rw [TL.spl_miss e]; have := spl_len (S0 := S0) (l := r) (k := 0) (acc := acc ++ [c]); simp; omega
  | c :: r, k + 1, acc => by
    have := spl_len (S0 := S0) (l := r) (k := k) (acc := acc)
    show (TL.spl S0 k acc r).length ≤ _
    simp; omega
theorem split_ok {a b : Str} (ha : okS a) (hb : TL.tl b ≠ []) (hk : b.cps.all (· < 256) = true) : (∀ s ∈ Txt.split a b, okS s) ∧ (Txt.split a b).length ≤ a.length + 1 := by
  have e := TL.split_spl a b hb (TL.kind_ok hk)
  constructor
  · intro s hs
    have hm : TL.tl s ∈ TL.spl (TL.tl b) 0 [] (TL.tl a) := by rw [← e]; exact List.mem_map_of_mem hs
    obtain ⟨h1, h2⟩ := spl_mem hm
    refine okS_sub (s := a) ha (fun c hc => ?_) ?_
    · rcases h2 c hc with z | z
      · simp at z
      · exact z
    · rw [len_tl s, len_tl a]
      simpa only [List.length_nil, Nat.zero_add] using h1
  · have : (Txt.split a b).length = ((Txt.split a b).map TL.tl).length := by rw [List.length_map]
    rw [this, e]
    have := spl_len (S0 := TL.tl b) (l := TL.tl a) (k := 0) (acc := [])
    have l2 := len_tl a
    omega
theorem sign_lt {c : Nat} (h : signB (one c) = true) : c < 123 ∧ c ≠ 10 ∧ (c = 46 ∨ 97 ≤ c) := by
  have h' : (decide (c = 46) || letB c) = true := h
  unfold letB at h'
  simp only [Bool.or_eq_true, decide_eq_true_eq] at h'
  omega
theorem Grid.split {rows : List Str} (g : Grid rows) : Txt.split (Txt.join "\n" rows) "\n" = rows :=
  TL.split_join (s := 10) (S := []) rfl (by decide +kernel) g.ne fun p hp hc => (sign_lt ((g.row p hp).2 10 hc)).2.1 rfl
theorem eqv_str (a b : Str) : PyData.eqv (toP (.str a)) (toP (.str b)) = decide (a = b) := by
  rw [← eqB_eq _ _ rfl rfl]; rfl
theorem eqB_strs : ∀ a b : List Str, eqB (.lst (a.map D.str)) (.lst (b.map D.str)) = decide (a = b)
  | [], [] => rfl
  | [], _ :: _ => rfl
  | _ :: _, [] => rfl
  | c :: a, d :: b => by
    have e : PyData.eqvAll (toPs (a.map D.str)) (toPs (b.map D.str)) = decide (a = b) := eqB_strs a b
    show (PyData.eqv (toP (.str c)) (toP (.str d)) && PyData.eqvAll (toPs (a.map D.str)) (toPs (b.map D.str))) = _
    rw [e, eqv_str]
    by_cases h1 : c = d <;> by_cases h2 : a = b <;> simp [h1, h2]
theorem pln_strs (n : Nat) (a : List Str) : pln (n + 2) (.lst (a.map D.str)) = true := by
  show plns (n + 1) (a.map D.str) = true
  rw [plns_all, List.all_eq_true]
  intro d hd
  obtain ⟨s, _, rfl⟩ := List.mem_map.mp hd
  rfl
end SM
--#ONETAC
local macro_rules | `(tactic| row_hasAll w_c) => `(tactic| first
  | refine i_readG (by assumption) ?_
  | refine i_eqPP ?_)
namespace SM
open PySem PySem.Spec PyProof.Rows L2
theorem lk_st {gd : Gd} {q : Pat} {te : DTE} {δ : DS} {α : Type} {g : α → D} (I : List α → List D → Sto → Prop) (hs : ∀ x r acc S, I (x :: r) acc S → gok gd S ∧ ∃ δ2, bindP q (g x) δ = some δ2 ∧ ∀ Q' : DQ, (∀ d S', I r (acc ++ [d]) S' → Q' d S') → te δ2 S Q' noX) {xs : List α} {S : Sto} {Q : List D → Sto → Prop}
    (h : I xs [] S) (hd : ∀ acc S, I [] acc S → gok gd S ∧ Q acc S) : lcK gd q dYes te δ (xs.map g) S Q := by
  rw [lcK_is]
  have key : ∀ (xs : List α) (acc : List D) (S : Sto), I xs acc S → dLcL gd q dYes te δ (xs.map g) S (fun ds S' => Q (acc ++ ds) S') := by
    intro xs
    induction xs with
    | nil => intro acc S h; exact ⟨(hd acc S h).1, by show Q (acc ++ []) S; rw [List.append_nil]; exact (hd acc S h).2⟩
    | cons x r ih =>
      intro acc S h
      obtain ⟨h1, δ2, e, t⟩ := hs x r acc S h
      rw [List.map_cons, dLcL, e]
      refine ⟨h1, ?_⟩
      show brn true _ _
      rw [brn_t]
      refine t _ fun d S' h' => ?_
      have := ih (acc ++ [d]) S' h'
      simpa using this
  simpa using key xs [] S h
def palOk (p : Str) : Prop := p.length = 3 ∧ ∀ c ∈ p.cps.toList, letB c = true
theorem abc_at {v : Int} (h0 : 0 ≤ v) (h1 : v < 26) : ∃ c, (Str.ofString "abcdefghijklmnopqrstuvwxyz").cps.toList[v.toNat]? = some c ∧ letB c = true := by
  have e : (Str.ofString "abcdefghijklmnopqrstuvwxyz").cps.toList = (List.range 26).map (· + 97) := by decide +kernel
  refine ⟨v.toNat + 97, ?_, ?_⟩
  · rw [e, List.getElem?_map, List.getElem?_range (by omega)]; rfl
  · unfold letB; exact decide_eq_true (by omega)
theorem app_codes (x y : Str) : (x ++ y).cps.toList = x.cps.toList ++ y.cps.toList := by
  show (x.cps ++ y.cps).toList = _
  exact Array.toList_append
def t_l_palette : DTS := (dSeq (dSet 1 (dC (.str "abcdefghijklmnopqrstuvwxyz"))) (dSeq (dSet 2 (dCall r_l_take [] (dCons (dVar 0) (dCons (dC (.int 26)) dNil)))) (dSeq (dSet 3 (dOp oMod (dCB (on1 intD) (dCons (dOp oAdd (dOp oAdd (dVar 2) (dC (.int 1))) (dCall r_l_take [] (dCons (dVar 0) (dCons (dC (.int 25)) dNil)))) dNil)) (dC (.int 26)))) (dSeq (dSet 4 (dOp oMod (dCB (on1 intD) (dCons (dOp oAdd (dOp oAdd (dVar 3) (dC (.int 1))) (dCall r_l_take [] (dCons (dVar 0) (dCons (dC (.int 25)) dNil)))) dNil)) (dC (.int 26)))) (dRet (dOp oAdd (dOp oAdd (dOp oIx (dVar 1) (dVar 2)) (dOp oIx (dVar 1) (dVar 3))) (dOp oIx (dVar 1) (dVar 4))))))))
abbrev N_l_palette : List Str := ["_law_bag_here", "_law_letters", "_law_first", "_law_second", "_law_third"]
@[irreducible] def r_l_palette : DSp := fun ds S Q _ => ∃ a b, ds = [.adr a] ∧ S a = some (bagO b) ∧ ∀ p b', palOk p → Q (.str p) (su S a (bagO b'))
theorem len_l_palette : Ln 1 r_l_palette := fun ds S Q E h => by unfold r_l_palette at h; obtain ⟨a, b, rfl, _⟩ := h; rfl
theorem rd_l_palette : Rd t_l_palette N_l_palette r_l_palette := by
  intro ds S QD XD h
  unfold r_l_palette at h
  obtain ⟨a, b, rfl, hS, q⟩ := h
  have hz := sizeLine_eq
  row_hasAll w_d
  refine i_take hS (by decide) (by decide) fun v1 b1 h1 h2 => ?_
  row_hasAll w_d
  refine i_takeB (by decide) (by decide) fun v2 b2 h3 h4 => ?_
  row_hasAll w_d
  refine i_takeB (by decide) (by decide) fun v3 b3 h5 h6 => ?_
  row_hasAll w_d
  obtain ⟨c1, e1, l1⟩ := abc_at h1 h2
  refine ik_at h1 e1 ?_
  row_hasAll w_d
  have g1 : 0 ≤ (v1 + 1 + v2) % 26 := by omega
  obtain ⟨c2, e2, l2⟩ := abc_at g1 (by omega)
  refine ik_at g1 e2 ?_
  row_hasAll w_d
  have g2 : 0 ≤ ((v1 + 1 + v2) % 26 + 1 + v3) % 26 := by omega
  obtain ⟨c3, e3, l3⟩ := abc_at g2 (by omega)
  refine ik_at g2 e3 ?_
  have a1 : (one c1 ++ one c2).length = 2 := by rw [slen_app]; rfl
  have a2 : (one c3).length = 1 := rfl
  row_hasAll w_d
  refine q _ b3 ⟨by rw [slen_app, slen_app]; rfl, fun c hc => ?_⟩
  rw [app_codes, app_codes] at hc
  simp [one] at hc
  rcases hc with rfl | rfl | rfl <;> assumption
theorem i_palette {a : Addr} {b : Bag} {S : Sto} {Q : DQ} {X : XQ} (hS : S a = some (bagO b)) (q : ∀ p b', palOk p → Q (.str p) (su S a (bagO b'))) : r_l_palette [.adr a] S Q X := by unfold r_l_palette; exact ⟨a, b, rfl, hS, q⟩
theorem Grid.head {rows : List Str} (g : Grid rows) : ∃ r, rows[0]? = some r ∧ (r.length : Int) = wid rows := by
  cases rows with
  | nil => exact absurd rfl g.ne
  | cons r rest => exact ⟨r, rfl, rfl⟩
def allC (w h : Nat) : List Cell := (List.range h).flatMap fun (y : Nat) => (List.range w).map fun (x : Nat) => (((x : Nat) : Int), ((y : Nat) : Int))
theorem allC_succ (w h : Nat) : allC w (h + 1) = allC w h ++ (List.range w).map (fun (x : Nat) => (((x : Nat) : Int), ((h : Nat) : Int))) := by
  unfold allC
  rw [List.range_succ, List.flatMap_append]
  simp
end SM
--#ONETAC
local macro_rules | `(tactic| row_hasAll w_c) => `(tactic| first
  | refine i_lsign (by assumption) ?_
  | refine i_lcells (by assumption) ?_)
local macro_rules | `(tactic| row_hasAll w_d0) => `(tactic| (repeat ((try (conv => whnf)); first | refine vk_int ?_ | refine vk_str ?_ | refine vk_lst ?_ | refine vk_tup ?_ | refine vk_ins ?_| refine vk_bl ?_ | refine brT ?_ | refine brF ?_)); (try (conv => whnf)))
namespace SM
open PySem PySem.Spec PyProof.Rows L2
def codeAt (rows : List Str) (c : Cell) : Nat := match rows[c.2.toNat]? with
  | some r => (r.cps.toList[c.1.toNat]?).getD 0
  | none => 0
theorem zi_range (l : List Nat) : l.zipIdx = (List.range l.length).map fun x => ((l[x]?).getD 0, x) := by
  apply List.ext_getElem?
  intro i
  rw [List.getElem?_zipIdx, List.getElem?_map]
  rcases Nat.lt_or_ge i l.length with h | h
  · rw [List.getElem?_range h, List.getElem?_eq_getElem h]; simp [List.getElem?_eq_getElem h]
  · rw [List.getElem?_eq_none h, List.getElem?_eq_none (by simpa using h)]; rfl
theorem mem_allC {w h : Nat} {c : Cell} : c ∈ allC w h ↔ ∃ x y : Nat, x < w ∧ y < h ∧ c = ((x : Int), (y : Int)) := by
  unfold allC
  simp only [List.mem_flatMap, List.mem_map, List.mem_range]
  constructor
  · rintro ⟨y, hy, x, hx, rfl⟩; exact ⟨x, y, hx, hy, rfl⟩
  · rintro ⟨x, y, hx, hy, rfl⟩; exact ⟨y, hy, x, hx, rfl⟩
theorem cells_all {p : Nat → Bool} {w : Nat} : ∀ (n : Nat) (rows : List Str), rows.length = n → (∀ r ∈ rows, r.cps.toList.length = w) → cellsOf p rows = (allC w n).filter fun c => p (codeAt rows c)
  | 0, rows, hn, _ => by rw [List.length_eq_zero_iff.mp hn]; rfl
  | n + 1, rows, hn, hw => by
    obtain ⟨i, r, rfl⟩ : ∃ i r, rows = i ++ [r] := by
      rcases List.eq_nil_or_concat rows with h | ⟨i, r, h⟩
      · rw [h] at hn; cases hn
      · exact ⟨i, r, by simpa using h⟩
    have hi : i.length = n := by simpa using hn
    rw [allC_succ, List.filter_append]
    have a := cells_all (p := p) n i hi fun s hs => hw s (List.mem_append_left _ hs)
    have e1 : (allC w n).filter (fun c => p (codeAt (i ++ [r]) c)) = (allC w n).filter (fun c => p (codeAt i c)) := by
      refine List.filter_congr fun c hc => ?_
      obtain ⟨x, y, _, hy, rfl⟩ := mem_allC.mp hc
      unfold codeAt
      rw [show (i ++ [r])[((y : Nat) : Int).toNat]? = i[((y : Nat) : Int).toNat]? from List.getElem?_append_left (by simpa [hi] using hy)]
    rw [e1, ← a]
    unfold cellsOf
    rw [List.zipIdx_append, List.flatMap_append]
    congr 1
    have hr := hw r (List.mem_append_right _ (List.mem_singleton.mpr rfl))
    simp only [List.zipIdx_cons, List.zipIdx_nil, List.flatMap_cons, List.flatMap_nil, List.append_nil]
    rw [zi_range, hr, List.filter_map, List.filter_map, List.map_map]
    have e2 : (fun c => p c.1) ∘ (fun x => ((r.cps.toList[x]?).getD 0, x)) = (fun c => p (codeAt (i ++ [r]) c)) ∘ fun (x : Nat) => (((x : Nat) : Int), ((n : Nat) : Int)) := by
      funext x
      simp only [Function.comp]
      unfold codeAt
      rw [show (i ++ [r])[((n : Nat) : Int).toNat]? = some r by simp [hi]]
      rfl
    rw [e2]
    refine List.map_congr_left fun x _ => ?_
    simp [hi]
theorem Grid.all {rows : List Str} (g : Grid rows) (p : Nat → Bool) : cellsOf p rows = (allC (wid rows).toNat rows.length).filter fun c => p (codeAt rows c) :=
  cells_all _ _ rfl fun r hr => by
    have := (g.row r hr).1
    rw [Array.length_toList]
    have e : r.cps.size = r.length := rfl
    omega
theorem eqB_int (a b : Int) : eqB (.int a) (.int b) = decide (a = b) := by
  show PyData.eqv (toP (.int a)) (toP (.int b)) = _
  have : (a == b) = decide (a = b) := by by_cases h : a = b <;> simp [h]
  simp [toP, PyData.eqv, this]
theorem eqB_str (a b : Str) : eqB (.str a) (.str b) = decide (a = b) := eqv_str a b
end SM
--#ONETAC
local macro_rules | `(tactic| row_hasAll w_c) => `(tactic| first
  | refine i_lstones (by assumption) ?_
  | refine And.intro (by rw [pln_prs 6]; rfl) ?_
  | refine And.intro (by rw [pln_strs 7]; rfl) ?_
  | rw [eqB_prs]
  | rw [eqB_strs]
  | rw [eqB_str]
  | rw [eqB_int])
namespace SM
open PySem PySem.Spec PyProof.Rows L2
end SM
--#ONETAC
namespace SM
open PySem PySem.Spec PyProof.Rows L2
end SM
--#ONETAC
namespace SM
open PySem PySem.Spec PyProof.Rows L2
structure Bent (n : Nat) (rows : List Str) : Prop where
  ne : rows ≠ []
  le : rows.length ≤ 8
  row : ∀ r ∈ rows, r.length ≤ n ∧ ∀ c ∈ r.cps.toList, c < 128 ∧ c ≠ 10
end SM
--#ONETAC
namespace SM
open PySem PySem.Spec PyProof.Rows L2
theorem sIx_hi {n d : Nat} {i : Int} (h0 : 0 ≤ i) (h1 : i ≤ (n : Nat)) : HT.sIx n d (some i) = i.toNat := by
  show (if i < 0 then (i + (n : Int)).toNat else min i.toNat n) = _
  rw [if_neg (by omega)]; omega
theorem cutS_codes (z : Str) (lo hi : Option Int) : (cutS z lo hi).cps.toList = (z.cps.toList.drop (HT.sIx z.length 0 lo)).take (HT.sIx z.length z.length hi - HT.sIx z.length 0 lo) := by simp [cutS]
theorem slen_codes (z : Str) : z.cps.toList.length = z.length := Array.length_toList
def putS (r : Str) (x : Int) (s : Str) : Str := cutS r none (some x) ++ s ++ cutS r (some (x + 1)) none
theorem putS_codes {r : Str} {x : Int} {c : Nat} (h0 : 0 ≤ x) (h1 : x < (r.length : Nat)) : (putS r x (one c)).cps.toList = r.cps.toList.set x.toNat c := by
  unfold putS
  rw [app_codes, app_codes, cutS_codes, cutS_codes]
  have s1 : HT.sIx r.length 0 none = 0 := rfl
  have s2 : HT.sIx r.length r.length none = r.length := rfl
  rw [s1, s2, sIx_hi h0 (by omega), sIx_hi (by omega) (by omega), List.drop_zero, Nat.sub_zero]
  have hl := slen_codes r
  have e1 : (r.cps.toList.drop (x + 1).toNat).take (r.length - (x + 1).toNat) = r.cps.toList.drop (x + 1).toNat := List.take_of_length_le (by rw [List.length_drop]; omega)
  rw [e1, List.set_eq_take_append_cons_drop, if_pos (by omega)]
  have e2 : (x + 1).toNat = x.toNat + 1 := by omega
  have e3 : (one c).cps.toList = [c] := rfl
  rw [e2, e3, List.append_assoc]
  rfl
theorem putS_len {r : Str} {x : Int} {c : Nat} (h0 : 0 ≤ x) (h1 : x < (r.length : Nat)) : (putS r x (one c)).length = r.length := by
  rw [← slen_codes, putS_codes h0 h1, List.length_set, slen_codes]
def putR (rows : List Str) (x y : Int) (s : Str) : List Str := match rows[y.toNat]? with
  | some r => rows.set y.toNat (putS r x s)
  | none => rows
theorem putR_len (rows : List Str) (x y : Int) (s : Str) : (putR rows x y s).length = rows.length := by
  unfold putR
  split
  · rw [List.length_set]
  · rfl
theorem wid_head {rows : List Str} {r : Str} (h : rows[0]? = some r) : wid rows = (r.length : Nat) := by
  cases rows with
  | nil => cases h
  | cons a l => cases h; rfl
theorem Grid.wput {rows : List Str} (g : Grid rows) {x y : Int} (h : inP rows x y = true) (c : Nat) : wid (putR rows x y (one c)) = wid rows := by
  obtain ⟨r, k, e1, e2, hr, hc, e3⟩ := g.get h
  have h' := of_decide_eq_true (show decide ((0 ≤ x ∧ x < wid rows) ∧ (0 ≤ y ∧ y < (rows.length : Nat))) = true from h)
  have hl := (g.row r hr).1
  unfold putR
  rw [e1]
  obtain ⟨r0, e0, hw⟩ := g.head
  show wid (rows.set y.toNat (putS r x (one c))) = _
  by_cases hy : y.toNat = 0
  · have : (rows.set y.toNat (putS r x (one c)))[0]? = some (putS r x (one c)) := by
      rw [hy, List.getElem?_set_self (by have := (List.getElem?_eq_some_iff.mp e0).1; omega)]
    rw [wid_head this, putS_len h'.1.1 (by omega)]
    omega
  · have : (rows.set y.toNat (putS r x (one c)))[0]? = some r0 := by rw [List.getElem?_set_ne hy]; exact e0
    rw [wid_head this]; omega
theorem Grid.put {rows : List Str} (g : Grid rows) {x y : Int} (h : inP rows x y = true) {c : Nat} (hs : signB (one c) = true) : Grid (putR rows x y (one c)) := by
  have hw := g.wput h c
  obtain ⟨r, k, e1, e2, hr, hc, e3⟩ := g.get h
  have h' := of_decide_eq_true (show decide ((0 ≤ x ∧ x < wid rows) ∧ (0 ≤ y ∧ y < (rows.length : Nat))) = true from h)
  have hl := (g.row r hr).1
  refine ⟨fun e => ?_, by rw [putR_len]; exact g.le, by rw [hw]; exact g.w1, by rw [hw]; exact g.w8, fun s hs2 => ?_⟩
  · have := putR_len rows x y (one c)
    rw [e] at this
    exact g.ne (List.length_eq_zero_iff.mp this.symm)
  · rw [hw]
    unfold putR at hs2
    rw [e1] at hs2
    rcases List.mem_or_eq_of_mem_set hs2 with h9 | rfl
    · exact g.row s h9
    · refine ⟨by rw [putS_len h'.1.1 (by omega)]; exact hl, fun d hd => ?_⟩
      rw [putS_codes h'.1.1 (by omega)] at hd
      rcases List.mem_or_eq_of_mem_set hd with h9 | rfl
      · exact (g.row r hr).2 d h9
      · exact hs
theorem Grid.at {rows : List Str} (g : Grid rows) {x y : Nat} (hx : x < (wid rows).toNat) (hy : y < rows.length) : ∃ r, rows[y]? = some r ∧ r.cps.toList[x]? = some (codeAt rows (((x : Nat) : Int), ((y : Nat) : Int))) := by
  obtain ⟨r, k, e1, e2, _, _, e3⟩ := g.get (x := (x : Nat)) (y := (y : Nat)) (decide_eq_true ⟨⟨by omega, by omega⟩, by omega, by omega⟩)
  refine ⟨r, e1, ?_⟩
  have e : codeAt rows (((x : Nat) : Int), ((y : Nat) : Int)) = k := by unfold codeAt; rw [e1]; show (r.cps.toList[((x : Nat) : Int).toNat]?).getD 0 = k; rw [e2]; rfl
  rw [e]; exact e2
end SM
--#ONETAC
namespace SM
open PySem PySem.Spec PyProof.Rows L2
def cdF : List Nat → List Nat → Bool
  | _, [] => true
  | pre, c :: r => !decide (c ∈ pre) && ((decide (c = 35) || letB c) && cdF (pre ++ [c]) r)
def condB (s : Str) : Bool := cdF [] s.cps.toList && decide (0 < s.length)
theorem one_hash (c : Nat) : decide (one c = "#") = decide (c = 35) := by
  refine decide_eq_decide.mpr ⟨fun h => ?_, fun h => by rw [h]; rfl⟩
  have : (one c).cps.toList = [35] := by rw [h]; rfl
  simpa [one] using this
theorem stone_one (c : Nat) : stoneB (one c) = letB c := rfl
theorem cut_take {s : Str} {i : Nat} (h : i ≤ s.length) : (cutS s none (some (i : Nat))).cps.toList = s.cps.toList.take i := by
  rw [cutS_codes]
  have s1 : HT.sIx s.length 0 none = 0 := rfl
  rw [s1, sIx_hi (by omega) (by omega), List.drop_zero, Nat.sub_zero, Int.toNat_natCast]
def t_p_are_condition_signs : DTS := (dSeq (dFor (dEnumS (dCons (dVar 0) dNil)) (.tp [(.nm 1), (.nm 2)]) (dIf (dOr (dTestB (dOp oIn (dVar 2) (dSl oSl (dVar 0) dNoPart (dPart (dVar 1))))) (dAnd (dTestB (dOp oNe (dVar 2) (dC (.str "#")))) (dNot (dTru (dCall r_p_is_stone [] (dCons (dVar 2) dNil)))))) (dRet (dC (.bl false))) dNext)) (dRet (dOp oGt (dCB (on1 lenD) (dCons (dVar 0) dNil)) (dC (.int 0)))))
abbrev N_p_are_condition_signs : List Str := ["signs", "at", "sign"]
@[irreducible] def r_p_are_condition_signs : DSp := fun ds S Q _ => ∃ s, ds = [.str s] ∧ Q (.bl (condB s)) S
theorem len_p_are_condition_signs : Ln 1 r_p_are_condition_signs := fun ds S Q E h => by unfold r_p_are_condition_signs at h; obtain ⟨a, rfl, _⟩ := h; rfl
theorem rd_p_are_condition_signs : Rd t_p_are_condition_signs N_p_are_condition_signs r_p_are_condition_signs := by
  intro ds S QD XD h
  unfold r_p_are_condition_signs at h
  obtain ⟨s, rfl, q⟩ := h
  row_hasAll w_d
  rw [enumS_map]
  refine loop_of (g := fun cx : Nat × Nat => .tup [.int (cx.2 : Nat), .str (one cx.1)]) (fun l δ S' => S' = S ∧ (∃ x y, δ = [some (.str s), x, y]) ∧ ∃ i, l = (s.cps.toList.drop i).zipIdx i ∧ i ≤ s.cps.toList.length ∧ cdF (s.cps.toList.take i) (s.cps.toList.drop i) = cdF [] s.cps.toList) ?_ ?_ ⟨rfl, ⟨_, _, rfl⟩, 0, rfl, Nat.zero_le _, rfl⟩
  · rintro ⟨c, j⟩ l δ S' ⟨rfl, ⟨x, y, rfl⟩, i, el, hi, ec⟩
    have hlt : i < s.cps.toList.length := by
      rcases Nat.lt_or_ge i s.cps.toList.length with h | h
      · exact h
      · rw [List.drop_eq_nil_of_le h] at el; cases el
    rw [List.drop_eq_getElem_cons hlt, List.zipIdx_cons] at el
    simp only [List.cons.injEq, Prod.mk.injEq] at el
    obtain ⟨⟨rfl, rfl⟩, rfl⟩ := el
    rw [List.drop_eq_getElem_cons hlt, cdF, List.take_append_getElem hlt] at ec
    refine ⟨_, rfl, fun N hN => ?_⟩
    row_hasAll w_d
    have hs := slen_codes s
    have ei : inS (one s.cps.toList[j]) (cutS s none (some (j : Nat))) = decide (s.cps.toList[j] ∈ s.cps.toList.take j) := by
      unfold inS
      have e1 : (one s.cps.toList[j]).cps.toList = [s.cps.toList[j]] := rfl
      rw [e1, cut_take (by omega)]
    rw [ei]
    have no : cdF [] s.cps.toList = false → QD (.bl false) S' := fun e => by unfold condB at q; rw [e, Bool.false_and] at q; exact q
    cases h1 : decide (s.cps.toList[j] ∈ s.cps.toList.take j) with
    | true =>
      rw [h1] at ec
      row_hasAll w_d
      exact no ec.symm
    | false =>
      rw [h1] at ec
      have e35 : eqB (D.str (one s.cps.toList[j])) (D.str (Str.ofString "#")) = decide (s.cps.toList[j] = 35) := (eqv_str _ _).trans (one_hash _)
      row_hasAll w_d
      rw [e35]
      cases h2 : decide (s.cps.toList[j] = 35) with
      | true =>
        rw [h2] at ec
        row_hasAll w_d
        exact hN _ _ ⟨rfl, ⟨_, _, rfl⟩, j + 1, rfl, hlt, ec⟩
      | false =>
        rw [h2] at ec
        row_hasAll w_d
        refine i_stone ?_
        rw [stone_one]
        cases h3 : letB s.cps.toList[j] with
        | true =>
          rw [h3] at ec
          row_hasAll w_d
          exact hN _ _ ⟨rfl, ⟨_, _, rfl⟩, j + 1, rfl, hlt, ec⟩
        | false =>
          rw [h3] at ec
          row_hasAll w_d
          exact no ec.symm
  · rintro δ S' ⟨rfl, ⟨x, y, rfl⟩, i, el, hi, ec⟩
    have hi2 : i = s.cps.toList.length := by
      rcases Nat.lt_or_ge i s.cps.toList.length with h | h
      · rw [List.drop_eq_getElem_cons h, List.zipIdx_cons] at el; cases el
      · omega
    rw [hi2, List.drop_eq_nil_of_le (Nat.le_refl _), cdF] at ec
    unfold condB at q
    rw [← ec, Bool.true_and] at q
    row_hasAll w_d
    have ez : decide ((0 : Int) < ((s.length : Nat) : Int)) = decide (0 < s.length) := decide_eq_decide.mpr ⟨fun h => by omega, fun h => by omega⟩
    rw [ez]
    exact q
theorem i_cond {s : Str} {S : Sto} {Q : DQ} {X : XQ} (q : Q (.bl (condB s)) S) : r_p_are_condition_signs [.str s] S Q X := by unfold r_p_are_condition_signs; exact ⟨s, rfl, q⟩
def offB (x y : Int) : Bool := decide (¬ (x = 0 ∧ y = 0) ∧ -3 ≤ x ∧ x ≤ 3 ∧ -3 ≤ y ∧ y ≤ 3)
def t_p_is_offset : DTS := (dSeq (dIf (dAnd (dTestB (dOp oEq (dVar 0) (dC (.int 0)))) (dTestB (dOp oEq (dVar 1) (dC (.int 0))))) (dRet (dC (.bl false))) dNext) (dRet (dAndV (dChain oLe oLe (dNeg (dC (.int 3))) (dVar 0) (dC (.int 3))) (dChain oLe oLe (dNeg (dC (.int 3))) (dVar 1) (dC (.int 3))))))
abbrev N_p_is_offset : List Str := ["dx", "dy"]
@[irreducible] def r_p_is_offset : DSp := fun ds S Q _ => ∃ x y, ds = [.int x, .int y] ∧ Q (.bl (offB x y)) S
theorem len_p_is_offset : Ln 2 r_p_is_offset := fun ds S Q E h => by unfold r_p_is_offset at h; obtain ⟨a, b, rfl, _⟩ := h; rfl
theorem off_tail {x y : Int} {S : Sto} {QD : DQ} {XD : XQ} (hz : ¬ (x = 0 ∧ y = 0)) (q : QD (.bl (offB x y)) S) : dAndV (dChain oLe oLe (dNeg (dC (.int 3))) (dVar 0) (dC (.int 3))) (dChain oLe oLe (dNeg (dC (.int 3))) (dVar 1) (dC (.int 3))) [some (.int x), some (.int y)] S QD (fun x S1 => XD x S1) := by
  have no : ¬ (¬ (x = 0 ∧ y = 0) ∧ -3 ≤ x ∧ x ≤ 3 ∧ -3 ≤ y ∧ y ≤ 3) → QD (.bl false) S := fun hn => by unfold offB at q; rw [decide_eq_false hn] at q; exact q
  row_hasAll w_d
  refine brP (fun h1 => ?_) (fun h1 => ?_)
  · row_hasAll w_d
    refine brP (fun h2 => ?_) (fun h2 => ?_)
    · row_hasAll w_d
      refine brP (fun h3 => ?_) (fun h3 => ?_)
      · row_hasAll w_d
        unfold offB at q
        have e : decide (¬ (x = 0 ∧ y = 0) ∧ -3 ≤ x ∧ x ≤ 3 ∧ -3 ≤ y ∧ y ≤ 3) = decide (y ≤ 3) := decide_eq_decide.mpr ⟨fun h => h.2.2.2.2, fun h => ⟨hz, h1, h2, h3, h⟩⟩
        rw [e] at q
        exact q
      · row_hasAll w_d
        exact no fun z => h3 z.2.2.2.1
    · row_hasAll w_d
      exact no fun z => h2 z.2.2.1
  · row_hasAll w_d
    exact no fun z => h1 z.2.1
theorem rd_p_is_offset : Rd t_p_is_offset N_p_is_offset r_p_is_offset := by
  intro ds S QD XD h
  unfold r_p_is_offset at h
  obtain ⟨x, y, rfl, q⟩ := h
  have no : ¬ (¬ (x = 0 ∧ y = 0) ∧ -3 ≤ x ∧ x ≤ 3 ∧ -3 ≤ y ∧ y ≤ 3) → QD (.bl false) S := fun hn => by unfold offB at q; rw [decide_eq_false hn] at q; exact q
  row_hasAll w_d
  rw [eqB_int]
  refine brP (fun h1 => ?_) (fun h1 => ?_)
  · row_hasAll w_d
    rw [eqB_int]
    refine brP (fun h2 => ?_) (fun h2 => ?_)
    · row_hasAll w_d
      exact no fun z => z.1 ⟨h1, h2⟩
    · exact off_tail (fun z => h2 z.2) q
  · refine brF ?_
    exact off_tail (fun z => h1 z.1) q
theorem i_offset {x y : Int} {S : Sto} {Q : DQ} {X : XQ} (q : Q (.bl (offB x y)) S) : r_p_is_offset [.int x, .int y] S Q X := by unfold r_p_is_offset; exact ⟨x, y, rfl, q⟩
abbrev Part := Int × Int × Str
def prt (p : Part) : D := .tup [.int p.1, .int p.2.1, .str p.2.2]
def pk (p : Part) : Cell := (p.1, p.2.1)
def srtS (s : Str) : Str := Txt.join "" ((s.cps.toList.mergeSort (PySem.W.dataLe false fun c => PyData.str (one c))).map one)
def badPF : Nat → List Cell → List Part → Option Nat
  | _, _, [] => none
  | i, ks, p :: r => if 8 ≤ i ∨ offB p.1 p.2.1 = false ∨ pk p ∈ ks ∨ condB p.2.2 = false then some (i + 1) else badPF (i + 1) (ks ++ [pk p]) r
def badP (ps : List Part) : Option Nat := badPF 0 [] ps
def tabP (ps : List Part) : List (List Key × D) := ps.map fun p => (cKey (pk p), .str (srtS p.2.2))
def signsAt (ps : List Part) (c : Cell) : Str := ((ps.find? fun p => decide (pk p = c)).map (·.2.2)).getD ""
def sortP (ps : List Part) : List Part := (roSort (ps.map pk)).map fun c => (c.1, c.2, srtS (signsAt ps c))
theorem valD_tab : ∀ (ps : List Part) (c : Cell), valD (tabP ps) (cKey c) = (ps.find? fun p => decide (pk p = c)).map fun p => .str (srtS p.2.2)
  | [], c => rfl
  | p :: r, c => by
    have ih := valD_tab r c
    unfold valD tabP at ih ⊢
    rw [List.map_cons, List.find?_cons, List.find?_cons]
    by_cases h : pk p = c
    · have e1 : decide (cKey (pk p) = cKey c) = true := decide_eq_true (by rw [h])
      rw [e1, decide_eq_true h]
      rfl
    · have e1 : decide (cKey (pk p) = cKey c) = false := decide_eq_false fun z => h (cKey_inj z)
      rw [e1, decide_eq_false h]
      exact ih
theorem inB_tab (ps : List Part) (c : Cell) : (valD (tabP ps) (cKey c)).isSome = decide (c ∈ ps.map pk) := by
  rw [valD_tab, Option.isSome_map, Bool.eq_iff_iff, List.find?_isSome]
  simp only [decide_eq_true_eq, List.mem_map]
theorem putD_tab {ps : List Part} {p : Part} (h : pk p ∉ ps.map pk) : putD (tabP ps) (cKey (pk p)) (.str (srtS p.2.2)) = tabP (ps ++ [p]) := by
  have e : ¬ ((tabP ps).any fun q => decide (q.1 = cKey (pk p))) = true := by
    intro z
    rw [List.any_eq_true] at z
    obtain ⟨q, hq, e⟩ := z
    unfold tabP at hq
    obtain ⟨x, hx, rfl⟩ := List.mem_map.mp hq
    exact h (List.mem_map.mpr ⟨x, hx, cKey_inj (of_decide_eq_true e)⟩)
  unfold putD
  rw [if_neg e]
  simp [tabP]
theorem keysD_tab (ps : List Part) : keysD (tabP ps) = (ps.map pk).map pr := by
  unfold keysD tabP
  rw [List.map_map, List.map_map]
  rfl
theorem badPF_nd : ∀ {ps : List Part} {i : Nat} {ks : List Cell}, badPF i ks ps = none → ks.Nodup → (ks ++ ps.map pk).Nodup
  | [], i, ks, _, h => by simpa using h
  | p :: r, i, ks, h, hk => by
    rw [badPF] at h
    split at h
    · cases h
    · rename_i hn
      have hp : pk p ∉ ks := fun z => hn (.inr (.inr (.inl z)))
      have := badPF_nd h (by rw [List.nodup_append]; exact ⟨hk, by simp, fun a ha b hb => by rw [List.mem_singleton.mp hb]; exact fun z => hp (z ▸ ha)⟩)
      simpa using this
theorem strsD_codes (l : List Nat) : strsD (l.map fun c => D.str (one c)) = some (l.map one) := strsD_map one l
def t_p_checked_parts : DTS := (dSeq (dSet 1 dDictO) (dSeq (dFor (dEnum (dCons (dVar 0) dNil)) (.tp [(.nm 2), (.tp [(.nm 3), (.nm 4), (.nm 5)])]) (dSeq (dIf (dOr (dTestB (dOp oGe (dVar 2) (dC (.int 8)))) (dOr (dNot (dTru (dCall r_p_is_offset [] (dCons (dVar 3) (dCons (dVar 4) dNil))))) (dOr (dTestB (dOp oIn (dTup (dCons (dVar 3) (dCons (dVar 4) dNil))) (dVar 1))) (dNot (dTru (dCall r_p_are_condition_signs [] (dCons (dVar 5) dNil))))))) (dRaise 22 (dCons (dOp oAdd (dVar 2) (dC (.int 1))) dNil)) dNext) (dSetK (dVar 1) (dTup (dCons (dVar 3) (dCons (dVar 4) dNil))) (dBM .str joinD (dC (.str "")) (dCons (dCB (on1 sortS) (dCons (dVar 5) dNil)) dNil))))) (dRet (dLc (dItems (dSortRo (dCB (on1 listKD) (dCons (dVar 1) dNil)))) (.tp [(.nm 3), (.nm 4)]) dYes (dTup (dCons (dVar 3) (dCons (dVar 4) (dCons (dOp oIx (dVar 1) (dTup (dCons (dVar 3) (dCons (dVar 4) dNil)))) dNil)))) [3, 4]))))
abbrev N_p_checked_parts : List Str := ["parts", "table", "at", "dx", "dy", "signs"]
@[irreducible] def r_p_checked_parts : DSp := fun ds S Q X => ∃ d ps, ds = [d] ∧ isL S d (ps.map prt) ∧ ps.length ≤ 1000 ∧ (∀ p ∈ ps, p.2.2.length ≤ 1000) ∧ ∀ z o, S z = none → match badP ps with
  | none => Q (.lst ((sortP ps).map prt)) (su S z o)
  | some n => X ⟨22, [.int (n : Nat)]⟩ (su S z o)
theorem len_p_checked_parts : Ln 1 r_p_checked_parts := fun ds S Q E h => by unfold r_p_checked_parts at h; obtain ⟨a, b, rfl, _⟩ := h; rfl
theorem rd_p_checked_parts : Rd t_p_checked_parts N_p_checked_parts r_p_checked_parts := by
  intro ds S QD XD h
  unfold r_p_checked_parts at h
  obtain ⟨d, ps, rfl, hL, hl, hs, q⟩ := h
  row_hasAll w_d
  intro z hz
  have hza : ∀ {a : Addr} {o : OO}, S a = some o → a ≠ z := fun ha e => by rw [e, hz] at ha; cases ha
  have q := fun o => q z o hz
  have gk : ∀ {gd : Gd}, (gd = none ∨ ∃ a, gd = some (a, .lst (ps.map prt)) ∧ S a = some (.lst (ps.map prt))) → ∀ o, gok gd (su S z o) := fun {gd} h o => by
    rcases h with rfl | ⟨a, rfl, ha⟩
    · exact True.intro
    · show su S z o a = _
      rw [su_ne (hza ha)]; exact ha
  rcases hL with rfl | ⟨a, rfl, ha⟩
  · row_hasAll w_d
    have gg := gk (gd := none) (.inl rfl)
    rw [enumD_map]
    refine loop_ofG (gd := none) (g := fun x : Part × Nat => .tup [.int (x.2 : Nat), prt x.1]) (xs := ps.zipIdx) (fun l δ S' => ∃ dn r w x1 x2 x3 x4, ps = dn ++ r ∧ l = r.zipIdx dn.length ∧ δ = [w, some (.adr z), x1, x2, x3, x4] ∧ S' = su S z (.dT (tabP dn)) ∧ badPF dn.length (dn.map pk) r = badP ps ∧ dn.length ≤ 8) ?_ ?_ ?_ ?_
    · rintro l δ S' ⟨dn, r, w, x1, x2, x3, x4, _, _, _, rfl, _⟩
      exact gg _
    · rintro ⟨pt, k⟩ l δ S' ⟨dn, r, w, x1, x2, x3, x4, ep, el, rfl, rfl, hb, h8⟩
      cases r with
      | nil => cases el
      | cons p' r' =>
      rw [List.zipIdx_cons] at el
      simp only [List.cons.injEq, Prod.mk.injEq] at el
      obtain ⟨⟨rfl, rfl⟩, rfl⟩ := el
      refine ⟨_, rfl, fun N hN => ?_⟩
      rw [badPF] at hb
      have hps : pt ∈ ps := by rw [ep]; simp
      have no : (8 ≤ dn.length ∨ offB pt.1 pt.2.1 = false ∨ pk pt ∈ dn.map pk ∨ condB pt.2.2 = false) → XD ⟨22, [.int ((dn.length : Nat) + 1)]⟩ (su S z (.dT (tabP dn))) := fun hc => by
        rw [if_pos hc] at hb
        have := q (.dT (tabP dn))
        rw [← hb] at this
        exact this
      have hz3 := sizeLine_eq
      have hsg := hs pt hps
      row_hasAll w_d
      refine brP (fun c1 => ?_) (fun c1 => ?_)
      · row_hasAll w_d
        exact no (.inl (by omega))
      row_hasAll w_d
      refine i_offset ?_
      cases c2 : offB pt.1 pt.2.1 with
      | false =>
        row_hasAll w_d
        exact no (.inr (.inl c2))
      | true =>
      row_hasAll w_d
      rw [show (valD (tabP dn) [Sum.inl pt.fst, Sum.inl pt.snd.fst]).isSome = decide (pk pt ∈ dn.map pk) from inB_tab dn (pk pt)]
      refine brP (fun c3 => ?_) (fun c3 => ?_)
      · row_hasAll w_d
        exact no (.inr (.inr (.inl c3)))
      row_hasAll w_d
      refine i_cond ?_
      cases c4 : condB pt.2.2 with
      | false =>
        row_hasAll w_d
        exact no (.inr (.inr (.inr c4)))
      | true =>
      rw [if_neg (fun hc => by rcases hc with h | h | h | h; omega; rw [c2] at h; cases h; exact c3 h; rw [c4] at h; cases h)] at hb
      row_hasAll w_d
      rw [sorted_codes, strsD_codes]
      refine ⟨?_, ?_⟩
      · have e0 : (Str.ofString "").length = 0 := rfl
        rw [e0, List.map_map]
        have := sum_le (fun c : Nat => (one c).length) 1 (pt.2.2.cps.toList.mergeSort (PySem.W.dataLe false fun c => PyData.str (one c))) (fun _ _ => Nat.le_refl _)
        have hm : (pt.2.2.cps.toList.mergeSort (PySem.W.dataLe false fun c => PyData.str (one c))).length = pt.2.2.length := by rw [(List.mergeSort_perm ..).length_eq, slen_codes]
        rw [hm] at this
        simp only [Function.comp_def]
        omega
      row_hasAll w_d
      refine ⟨by show (tabP dn).length < _; unfold tabP; rw [List.length_map]; omega, ?_⟩
      rw [show putD (tabP dn) [Sum.inl pt.fst, Sum.inl pt.snd.fst] (D.str (Txt.join (Str.ofString "") (List.map one (pt.snd.snd.cps.toList.mergeSort (PySem.W.dataLe false fun c => PyData.str (one c)))))) = tabP (dn ++ [pt]) from putD_tab c3]
      exact hN _ _ ⟨dn ++ [pt], r', _, _, _, _, _, by rw [ep, List.append_assoc]; rfl, by rw [List.length_append]; rfl, rfl, rfl, by rw [List.length_append, List.map_append]; exact hb, by rw [List.length_append]; show dn.length + 1 ≤ 8; omega⟩
    · rintro δ S' ⟨dn, r, w, x1, x2, x3, x4, ep, el, rfl, rfl, hb, h8⟩
      have hr : r = [] := by cases r with | nil => rfl | cons a b => cases el
      subst hr
      rw [List.append_nil] at ep
      subst ep
      rw [badPF] at hb
      rw [← hb] at q
      have hnd : (ps.map pk).Nodup := by
        have := badPF_nd (show badPF 0 [] ps = none from hb.symm) List.nodup_nil
        simpa using this
      have hz3 := sizeLine_eq
      row_hasAll w_d
      refine ⟨fun e he => ?_, by unfold tabP; rw [List.length_map]; omega, ?_⟩
      · unfold tabP at he
        obtain ⟨y, _, rfl⟩ := List.mem_map.mp he
        exact ⟨fun t ht => by simp [cKey] at ht, by show 2 ≤ sizeLine; omega⟩
      rw [keysD_tab]
      row_hasAll w_d
      refine ⟨ps.map pk, rfl, ?_⟩
      refine lk_map (f := fun c => prt (c.1, c.2, srtS (signsAt ps c))) (fun c hc => ⟨_, rfl, fun Q' h => ?_⟩) ?_
      · have hm : c ∈ ps.map pk := mem_ro.mp hc
        obtain ⟨y, hy, rfl⟩ := List.mem_map.mp hm
        have hf : (ps.find? fun p => decide (pk p = pk y)).isSome = true := by rw [List.find?_isSome]; exact ⟨y, hy, decide_eq_true rfl⟩
        obtain ⟨y', hy'⟩ := Option.isSome_iff_exists.mp hf
        row_hasAll w_d
        rw [show valD (tabP ps) [Sum.inl (pk y).fst, Sum.inl (pk y).snd] = some (.str (srtS (signsAt ps (pk y)))) from (by
          have := valD_tab ps (pk y)
          unfold signsAt
          rw [hy'] at this ⊢
          exact this)]
        exact h
      · have e : (roSort (ps.map pk)).map (fun c => prt (c.1, c.2, srtS (signsAt ps c))) = (sortP ps).map prt := by
          unfold sortP
          rw [List.map_map]
          rfl
        row_hasAll w_d
        rw [e]
        exact q _
    · exact ⟨[], ps, _, _, _, _, _, rfl, rfl, rfl, rfl, rfl, by simp⟩
  · have haz := hza ha
    row_hasAll w_d
    have gg := gk (gd := some (a, .lst (ps.map prt))) (.inr ⟨a, rfl, ha⟩)
    rw [enumD_map]
    refine loop_ofG (gd := some (a, .lst (ps.map prt))) (g := fun x : Part × Nat => .tup [.int (x.2 : Nat), prt x.1]) (xs := ps.zipIdx) (fun l δ S' => ∃ dn r w x1 x2 x3 x4, ps = dn ++ r ∧ l = r.zipIdx dn.length ∧ δ = [w, some (.adr z), x1, x2, x3, x4] ∧ S' = su S z (.dT (tabP dn)) ∧ badPF dn.length (dn.map pk) r = badP ps ∧ dn.length ≤ 8) ?_ ?_ ?_ ?_
    · rintro l δ S' ⟨dn, r, w, x1, x2, x3, x4, _, _, _, rfl, _⟩
      exact gg _
    · rintro ⟨pt, k⟩ l δ S' ⟨dn, r, w, x1, x2, x3, x4, ep, el, rfl, rfl, hb, h8⟩
      cases r with
      | nil => cases el
      | cons p' r' =>
      rw [List.zipIdx_cons] at el
      simp only [List.cons.injEq, Prod.mk.injEq] at el
      obtain ⟨⟨rfl, rfl⟩, rfl⟩ := el
      refine ⟨_, rfl, fun N hN => ?_⟩
      rw [badPF] at hb
      have hps : pt ∈ ps := by rw [ep]; simp
      have no : (8 ≤ dn.length ∨ offB pt.1 pt.2.1 = false ∨ pk pt ∈ dn.map pk ∨ condB pt.2.2 = false) → XD ⟨22, [.int ((dn.length : Nat) + 1)]⟩ (su S z (.dT (tabP dn))) := fun hc => by
        rw [if_pos hc] at hb
        have := q (.dT (tabP dn))
        rw [← hb] at this
        exact this
      have hz3 := sizeLine_eq
      have hsg := hs pt hps
      row_hasAll w_d
      refine brP (fun c1 => ?_) (fun c1 => ?_)
      · row_hasAll w_d
        exact no (.inl (by omega))
      row_hasAll w_d
      refine i_offset ?_
      cases c2 : offB pt.1 pt.2.1 with
      | false =>
        row_hasAll w_d
        exact no (.inr (.inl c2))
      | true =>
      row_hasAll w_d
      rw [show (valD (tabP dn) [Sum.inl pt.fst, Sum.inl pt.snd.fst]).isSome = decide (pk pt ∈ dn.map pk) from inB_tab dn (pk pt)]
      refine brP (fun c3 => ?_) (fun c3 => ?_)
      · row_hasAll w_d
        exact no (.inr (.inr (.inl c3)))
      row_hasAll w_d
      refine i_cond ?_
      cases c4 : condB pt.2.2 with
      | false =>
        row_hasAll w_d
        exact no (.inr (.inr (.inr c4)))
      | true =>
      rw [if_neg (fun hc => by rcases hc with h | h | h | h; omega; rw [c2] at h; cases h; exact c3 h; rw [c4] at h; cases h)] at hb
      row_hasAll w_d
      rw [sorted_codes, strsD_codes]
      refine ⟨?_, ?_⟩
      · have e0 : (Str.ofString "").length = 0 := rfl
        rw [e0, List.map_map]
        have := sum_le (fun c : Nat => (one c).length) 1 (pt.2.2.cps.toList.mergeSort (PySem.W.dataLe false fun c => PyData.str (one c))) (fun _ _ => Nat.le_refl _)
        have hm : (pt.2.2.cps.toList.mergeSort (PySem.W.dataLe false fun c => PyData.str (one c))).length = pt.2.2.length := by rw [(List.mergeSort_perm ..).length_eq, slen_codes]
        rw [hm] at this
        simp only [Function.comp_def]
        omega
      row_hasAll w_d
      refine ⟨by show (tabP dn).length < _; unfold tabP; rw [List.length_map]; omega, ?_⟩
      rw [show putD (tabP dn) [Sum.inl pt.fst, Sum.inl pt.snd.fst] (D.str (Txt.join (Str.ofString "") (List.map one (pt.snd.snd.cps.toList.mergeSort (PySem.W.dataLe false fun c => PyData.str (one c)))))) = tabP (dn ++ [pt]) from putD_tab c3]
      exact hN _ _ ⟨dn ++ [pt], r', _, _, _, _, _, by rw [ep, List.append_assoc]; rfl, by rw [List.length_append]; rfl, rfl, rfl, by rw [List.length_append, List.map_append]; exact hb, by rw [List.length_append]; show dn.length + 1 ≤ 8; omega⟩
    · rintro δ S' ⟨dn, r, w, x1, x2, x3, x4, ep, el, rfl, rfl, hb, h8⟩
      have hr : r = [] := by cases r with | nil => rfl | cons a b => cases el
      subst hr
      rw [List.append_nil] at ep
      subst ep
      rw [badPF] at hb
      rw [← hb] at q
      have hnd : (ps.map pk).Nodup := by
        have := badPF_nd (show badPF 0 [] ps = none from hb.symm) List.nodup_nil
        simpa using this
      have hz3 := sizeLine_eq
      row_hasAll w_d
      refine ⟨fun e he => ?_, by unfold tabP; rw [List.length_map]; omega, ?_⟩
      · unfold tabP at he
        obtain ⟨y, _, rfl⟩ := List.mem_map.mp he
        exact ⟨fun t ht => by simp [cKey] at ht, by show 2 ≤ sizeLine; omega⟩
      rw [keysD_tab]
      row_hasAll w_d
      refine ⟨ps.map pk, rfl, ?_⟩
      refine lk_map (f := fun c => prt (c.1, c.2, srtS (signsAt ps c))) (fun c hc => ⟨_, rfl, fun Q' h => ?_⟩) ?_
      · have hm : c ∈ ps.map pk := mem_ro.mp hc
        obtain ⟨y, hy, rfl⟩ := List.mem_map.mp hm
        have hf : (ps.find? fun p => decide (pk p = pk y)).isSome = true := by rw [List.find?_isSome]; exact ⟨y, hy, decide_eq_true rfl⟩
        obtain ⟨y', hy'⟩ := Option.isSome_iff_exists.mp hf
        row_hasAll w_d
        rw [show valD (tabP ps) [Sum.inl (pk y).fst, Sum.inl (pk y).snd] = some (.str (srtS (signsAt ps (pk y)))) from (by
          have := valD_tab ps (pk y)
          unfold signsAt
          rw [hy'] at this ⊢
          exact this)]
        exact h
      · have e : (roSort (ps.map pk)).map (fun c => prt (c.1, c.2, srtS (signsAt ps c))) = (sortP ps).map prt := by
          unfold sortP
          rw [List.map_map]
          rfl
        row_hasAll w_d
        rw [e]
        exact q _
    · exact ⟨[], ps, _, _, _, _, _, rfl, rfl, rfl, rfl, rfl, by simp⟩
--#CALL refine i_cond ?_
--#CALL refine i_offset ?_
end SM
namespace SM
open PySem PySem.Spec PyProof.Rows L2
def Grow (S S' : Sto) : Prop := ∀ a o, S a = some o → S' a = some o
theorem Grow.refl (S : Sto) : Grow S S := fun _ _ h => h
theorem Grow.trans {S S' S2 : Sto} (h : Grow S S') (h2 : Grow S' S2) : Grow S S2 := fun a o e => h2 a o (h a o e)
theorem Grow.new {S : Sto} {p : Addr} {o : OO} (h : S p = none) : Grow S (su S p o) := fun a o' e => by
  rw [su_ne]
  · exact e
  · intro z; subst z; rw [h] at e; cases e
end SM
--#ONETAC
local macro_rules | `(tactic| row_hasAll w_c) => `(tactic| first
  | refine i_cond ?_
  | refine i_offset ?_)
namespace SM
open PySem PySem.Spec PyProof.Rows L2
def GrowX (z : Addr) (S S' : Sto) : Prop := ∀ a o, a ≠ z → S a = some o → S' a = some o
def ruleOut (st : Str) (ps : List Part) : Option Nat := if stoneB st = false then some 0 else badP ps
theorem sortP_len (ps : List Part) : (sortP ps).length = ps.length := by unfold sortP; rw [List.length_map, roSort_len, List.length_map]
def t_Rule_init : DTS := (dSeq (dIf (dNot (dTru (dCall r_p_is_stone [] (dCons (dVar 1) dNil)))) (dRaise 22 (dCons (dC (.int 0)) dNil)) dNext) (dSeq (dSetF [(2, 0), (3, 0), (4, 0)] (dVar 0) (dVar 1)) (dSetF [(2, 1), (3, 1), (4, 1)] (dVar 0) (dCall r_p_checked_parts [] (dCons (dVar 2) dNil)))))
abbrev N_Rule_init : List Str := ["self", "stone", "conditions"]
@[irreducible] def r_Rule_init : DSp := fun ds S Q X => ∃ z c st d ps, ds = [.adr z, .str st, d] ∧ isL S d (ps.map prt) ∧ S z = some (.ins c []) ∧ (c = 2 ∨ c = 3 ∨ c = 4) ∧ ps.length ≤ 1000 ∧ (∀ p ∈ ps, p.2.2.length ≤ 1000) ∧ ∀ S', GrowX z S S' → match ruleOut st ps with
  | none => S' z = some (.ins c [.str st, .lst ((sortP ps).map prt)]) → Q .non S'
  | some n => X ⟨22, [.int (n : Nat)]⟩ S'
theorem len_Rule_init : Ln 3 r_Rule_init := fun ds S Q E h => by unfold r_Rule_init at h; obtain ⟨z, c, st, d, ps, rfl, _⟩ := h; rfl
theorem i_checked {d : D} {ps : List Part} {S : Sto} {Q : DQ} {X : XQ} (hL : isL S d (ps.map prt)) (hl : ps.length ≤ 1000) (hs : ∀ p ∈ ps, p.2.2.length ≤ 1000) (q : ∀ z o, S z = none → match badP ps with
  | none => Q (.lst ((sortP ps).map prt)) (su S z o)
  | some n => X ⟨22, [.int (n : Nat)]⟩ (su S z o)) : r_p_checked_parts [d] S Q X := by unfold r_p_checked_parts; exact ⟨d, ps, rfl, hL, hl, hs, q⟩
theorem rd_Rule_init : Rd t_Rule_init N_Rule_init r_Rule_init := by
  intro ds S QD XD h
  unfold r_Rule_init at h
  obtain ⟨z, c, st, d, ps, rfl, hL, hS, hc, hl, hs, q⟩ := h
  unfold ruleOut at q
  row_hasAll w_d
  refine i_stone ?_
  cases h1 : stoneB st with
  | false =>
    rw [h1, if_pos rfl] at q
    row_hasAll w_d
    exact q S fun a o _ e => e
  | true =>
    rw [h1, if_neg (by simp)] at q
    have hL2 : isL (su S z (.ins c [.str st])) d (ps.map prt) := by
      rcases hL with rfl | ⟨a, rfl, ha⟩
      · exact .inl rfl
      · refine .inr ⟨a, rfl, ?_⟩
        rw [su_ne (fun e => by rw [e, hS] at ha; cases ha)]
        exact ha
    have fin : ∀ y o, (su S z (.ins c [.str st])) y = none → match badP ps with
        | none => QD .non (su (su (su S z (.ins c [.str st])) y o) z (.ins c [.str st, .lst ((sortP ps).map prt)]))
        | some n => XD ⟨22, [.int (n : Nat)]⟩ (su (su S z (.ins c [.str st])) y o) := fun y o hy => by
      have hyz : y ≠ z := fun e => by rw [e, su_same] at hy; cases hy
      have g1 : GrowX z S (su (su S z (.ins c [.str st])) y o) := fun a u haz e => by
        rw [su_ne, su_ne haz]
        · exact e
        · intro e2; subst e2; rw [su_ne haz, e] at hy; cases hy
      cases hb : badP ps with
      | none =>
        have := q (su (su (su S z (.ins c [.str st])) y o) z (.ins c [.str st, .lst ((sortP ps).map prt)])) fun a u haz e => by rw [su_ne haz]; exact g1 a u haz e
        rw [hb] at this
        exact this su_same
      | some n =>
        have := q _ g1
        rw [hb] at this
        exact this
    rcases hc with rfl | rfl | rfl
    all_goals
      row_hasAll w_d
      refine i_checked hL2 hl hs fun y o hy => ?_
      have := fin y o hy
      have hyz : z ≠ y := fun e => by rw [← e, su_same] at hy; cases hy
      cases hb : badP ps with
      | none =>
        rw [hb] at this
        row_hasAll w_d
        exact this
      | some n =>
        rw [hb] at this
        exact this
theorem GrowX.refl {z : Addr} {S : Sto} : GrowX z S S := fun _ _ _ e => e
theorem GrowX.su {z : Addr} {S S' : Sto} {o : OO} (h : GrowX z S S') : GrowX z S (su S' z o) := fun a u haz e => by rw [su_ne haz]; exact h a u haz e
theorem i_ruleInit {z : Addr} {c : Nat} {st : Str} {d : D} {ps : List Part} {S : Sto} {Q : DQ} {X : XQ} (hL : isL S d (ps.map prt)) (hS : S z = some (.ins c [])) (hc : c = 2 ∨ c = 3 ∨ c = 4) (hl : ps.length ≤ 1000) (hs : ∀ p ∈ ps, p.2.2.length ≤ 1000) (q : ∀ S', GrowX z S S' → match ruleOut st ps with
  | none => S' z = some (.ins c [.str st, .lst ((sortP ps).map prt)]) → Q .non S'
  | some n => X ⟨22, [.int (n : Nat)]⟩ S') : r_Rule_init [.adr z, .str st, d] S Q X := by unfold r_Rule_init; exact ⟨z, c, st, d, ps, rfl, hL, hS, hc, hl, hs, q⟩
def countOut (st : Str) (ps : List Part) (nd : Int) : Option Nat := match ruleOut st ps with
  | some n => some n
  | none => if 0 ≤ nd ∧ nd ≤ (ps.length : Nat) then none else some 0
def t_CountRule_init : DTS := (dSeq (dSup [3, 4] r_Rule_init (dCons (dVar 1) (dCons (dVar 2) dNil))) (dSeq (dIf (dNot (dTestB (dChain oLe oLe (dC (.int 0)) (dVar 3) (dCB (on1 lenD) (dCons (dFld [(3, 1), (4, 1)] (dVar 0)) dNil))))) (dRaise 22 (dCons (dC (.int 0)) dNil)) dNext) (dSetF [(3, 2), (4, 2)] (dVar 0) (dVar 3))))
abbrev N_CountRule_init : List Str := ["self", "stone", "conditions", "need", "__class__"]
@[irreducible] def r_CountRule_init : DSp := fun ds S Q X => ∃ z c st d ps nd, ds = [.adr z, .str st, d, .int nd] ∧ isL S d (ps.map prt) ∧ S z = some (.ins c []) ∧ (c = 3 ∨ c = 4) ∧ ps.length ≤ 1000 ∧ (∀ p ∈ ps, p.2.2.length ≤ 1000) ∧ ∀ S', GrowX z S S' → match countOut st ps nd with
  | none => S' z = some (.ins c [.str st, .lst ((sortP ps).map prt), .int nd]) → Q .non S'
  | some n => X ⟨22, [.int (n : Nat)]⟩ S'
theorem len_CountRule_init : Ln 4 r_CountRule_init := fun ds S Q E h => by unfold r_CountRule_init at h; obtain ⟨z, c, st, d, ps, nd, rfl, _⟩ := h; rfl
theorem rd_CountRule_init : Rd t_CountRule_init N_CountRule_init r_CountRule_init := by
  intro ds S QD XD h
  unfold r_CountRule_init at h
  obtain ⟨z, c, st, d, ps, nd, rfl, hL, hS, hc, hl, hs, q⟩ := h
  unfold countOut at q
  rcases hc with rfl | rfl
  all_goals
    row_hasAll w_d
    refine i_ruleInit hL hS (by simp) hl hs fun S' hg => ?_
    cases hb : ruleOut st ps with
    | some n =>
      have := q S' hg
      rw [hb] at this
      exact this
    | none =>
      intro hz
      have q2 := fun S2 h2 => q S2 h2
      rw [hb] at q2
      have hlen : ((sortP ps).map prt).length = ps.length := by rw [List.length_map, sortP_len]
      row_hasAll w_d
      refine brP (fun c1 => ?_) (fun c1 => ?_)
      · row_hasAll w_d
        rw [hlen]
        refine brN (c := nd ≤ ((ps.length : Nat) : Int)) (fun c2 => ?_) (fun c2 => ?_)
        · row_hasAll w_d
          have := q2 S' hg
          dsimp only at this
          rw [if_neg (fun z => c2 z.2)] at this
          exact this
        · row_hasAll w_d
          have hq := fun S2 h2 => q2 S2 h2
          dsimp only at hq
          rw [if_pos ⟨c1, c2⟩] at hq
          exact hq _ hg.su su_same
      · row_hasAll w_d
        have := q2 S' hg
        dsimp only at this
        rw [if_neg (fun z => c1 z.1)] at this
        exact this
theorem i_countInit {z : Addr} {c : Nat} {st : Str} {d : D} {ps : List Part} {nd : Int} {S : Sto} {Q : DQ} {X : XQ} (hL : isL S d (ps.map prt)) (hS : S z = some (.ins c [])) (hc : c = 3 ∨ c = 4) (hl : ps.length ≤ 1000) (hs : ∀ p ∈ ps, p.2.2.length ≤ 1000) (q : ∀ S', GrowX z S S' → match countOut st ps nd with
  | none => S' z = some (.ins c [.str st, .lst ((sortP ps).map prt), .int nd]) → Q .non S'
  | some n => X ⟨22, [.int (n : Nat)]⟩ S') : r_CountRule_init [.adr z, .str st, d, .int nd] S Q X := by unfold r_CountRule_init; exact ⟨z, c, st, d, ps, nd, rfl, hL, hS, hc, hl, hs, q⟩
def placeP (cs : List Cell) : List Part := cs.map fun c => (c.1, c.2, "a")
def t_SameRule_init : DTS := (dSeq (dSup [4] r_CountRule_init (dCons (dC (.str "a")) (dCons (dLc (dItems (dVar 1)) (.tp [(.nm 4), (.nm 5)]) dYes (dTup (dCons (dVar 4) (dCons (dVar 5) (dCons (dC (.str "a")) dNil)))) [4, 5]) (dCons (dVar 2) dNil)))) (dSetF [(4, 0)] (dVar 0) (dC (.str ""))))
abbrev N_SameRule_init : List Str := ["self", "places", "need", "__class__", "dx", "dy"]
@[irreducible] def r_SameRule_init : DSp := fun ds S Q X => ∃ z d cs nd, ds = [.adr z, d, .int nd] ∧ isL S d (cs.map pr) ∧ S z = some (.ins 4 []) ∧ cs.length ≤ 1000 ∧ ∀ S', GrowX z S S' → match countOut "a" (placeP cs) nd with
  | none => S' z = some (.ins 4 [.str "", .lst ((sortP (placeP cs)).map prt), .int nd]) → Q .non S'
  | some n => X ⟨22, [.int (n : Nat)]⟩ S'
theorem len_SameRule_init : Ln 3 r_SameRule_init := fun ds S Q E h => by unfold r_SameRule_init at h; obtain ⟨z, d, cs, nd, rfl, _⟩ := h; rfl
theorem rd_SameRule_init : Rd t_SameRule_init N_SameRule_init r_SameRule_init := by
  intro ds S QD XD h
  unfold r_SameRule_init at h
  obtain ⟨z, d, cs, nd, rfl, hL, hS, hl, q⟩ := h
  have ep : cs.map (fun c : Cell => D.tup [.int c.1, .int c.2, .str "a"]) = (placeP cs).map prt := by unfold placeP; rw [List.map_map]; rfl
  have fin : r_CountRule_init [.adr z, .str "a", .lst ((placeP cs).map prt), .int nd] S (fun _ S2 => dSetF [(4, 0)] (dVar 0) (dC (.str "")) (ends QD XD) [some (.adr z), some d, some (.int nd), none, none, none] S2) (fun x S2 => XD x S2) := by
    refine i_countInit (c := 4) (.inl rfl) hS (by simp) (by unfold placeP; rw [List.length_map]; exact hl) (fun p hp => ?_) fun S' hg => ?_
    · unfold placeP at hp
      obtain ⟨c, _, rfl⟩ := List.mem_map.mp hp
      show (Str.ofString "a").length ≤ 1000
      decide
    · cases hb : countOut "a" (placeP cs) nd with
      | some n =>
        have := q S' hg
        rw [hb] at this
        exact this
      | none =>
        intro hz
        have := q (su S' z (.ins 4 [.str "", .lst ((sortP (placeP cs)).map prt), .int nd])) hg.su
        rw [hb] at this
        row_hasAll w_d
        exact this su_same
  rcases hL with rfl | ⟨a, rfl, ha⟩
  · row_hasAll w_d
    refine lk_map (f := fun c : Cell => D.tup [.int c.1, .int c.2, .str "a"]) (fun c hc => ⟨_, rfl, fun Q' h => ?_⟩) ?_
    · row_hasAll w_d
      exact h
    · row_hasAll w_d
      rw [ep]
      exact fin
  · row_hasAll w_d
    refine lk_map (f := fun c : Cell => D.tup [.int c.1, .int c.2, .str "a"]) (fun c hc => ⟨_, rfl, fun Q' h => ?_⟩) ?_
    · row_hasAll w_d
      exact h
    · row_hasAll w_d
      rw [ep]
      exact fin
def rul (k : Nat) (st : Str) (ps : List Part) (nd : Int) : D := match k with
  | 2 => .ins 2 [.str st, .lst (ps.map prt)]
  | 3 => .ins 3 [.str st, .lst (ps.map prt), .int nd]
  | _ => .ins 4 [.str st, .lst (ps.map prt), .int nd]
abbrev knd (k : Nat) : Prop := k = 2 ∨ k = 3 ∨ k = 4
theorem grow_sd {z : Addr} {S S' : Sto} {o : OO} (hz : S z = none) (h : GrowX z (su S z o) S') : Grow S (sd S' z) := fun a u e => by
  have haz : a ≠ z := fun e2 => by rw [e2, hz] at e; cases e
  rw [sd_ne haz]
  exact h a u haz (by rw [su_ne haz]; exact e)
theorem isL_su {z : Addr} {S : Sto} {o : OO} {d : D} {l : List D} (hz : S z = none) (h : isL S d l) : isL (su S z o) d l := by
  rcases h with rfl | ⟨a, rfl, ha⟩
  · exact .inl rfl
  · exact .inr ⟨a, rfl, by rw [su_ne (fun e => by rw [e, hz] at ha; cases ha)]; exact ha⟩
theorem mk_rule {st : Str} {d : D} {ps : List Part} {S : Sto} {Q : DQ} {X : XQ} (hL : isL S d (ps.map prt)) (hl : ps.length ≤ 1000) (hs : ∀ p ∈ ps, p.2.2.length ≤ 1000) (q : ∀ S', Grow S S' → match ruleOut st ps with
  | none => Q (.ins 2 [.str st, .lst ((sortP ps).map prt)]) S'
  | some n => X ⟨22, [.int (n : Nat)]⟩ S') : ∀ z, S z = none → r_Rule_init [.adr z, .str st, d] (su S z (.ins 2 [])) (fun d S2 => d = .non ∧ mkF Q z S2) (fun e S2 => X e (sd S2 z)) := by
  intro z hz
  refine i_ruleInit (isL_su hz hL) su_same (.inl rfl) hl hs fun S' hg => ?_
  have := q _ (grow_sd hz hg)
  cases hb : ruleOut st ps with
  | none =>
    rw [hb] at this
    intro h
    exact ⟨rfl, ok_o h this⟩
  | some n => rw [hb] at this; exact this
theorem mk_count {st : Str} {d : D} {ps : List Part} {nd : Int} {S : Sto} {Q : DQ} {X : XQ} (hL : isL S d (ps.map prt)) (hl : ps.length ≤ 1000) (hs : ∀ p ∈ ps, p.2.2.length ≤ 1000) (q : ∀ S', Grow S S' → match countOut st ps nd with
  | none => Q (.ins 3 [.str st, .lst ((sortP ps).map prt), .int nd]) S'
  | some n => X ⟨22, [.int (n : Nat)]⟩ S') : ∀ z, S z = none → r_CountRule_init [.adr z, .str st, d, .int nd] (su S z (.ins 3 [])) (fun d S2 => d = .non ∧ mkF Q z S2) (fun e S2 => X e (sd S2 z)) := by
  intro z hz
  refine i_countInit (isL_su hz hL) su_same (.inl rfl) hl hs fun S' hg => ?_
  have := q _ (grow_sd hz hg)
  cases hb : countOut st ps nd with
  | none =>
    rw [hb] at this
    intro h
    exact ⟨rfl, ok_o h this⟩
  | some n => rw [hb] at this; exact this
theorem mk_same {d : D} {cs : List Cell} {nd : Int} {S : Sto} {Q : DQ} {X : XQ} (hL : isL S d (cs.map pr)) (hl : cs.length ≤ 1000) (q : ∀ S', Grow S S' → match countOut "a" (placeP cs) nd with
  | none => Q (.ins 4 [.str "", .lst ((sortP (placeP cs)).map prt), .int nd]) S'
  | some n => X ⟨22, [.int (n : Nat)]⟩ S') : ∀ z, S z = none → r_SameRule_init [.adr z, d, .int nd] (su S z (.ins 4 [])) (fun d S2 => d = .non ∧ mkF Q z S2) (fun e S2 => X e (sd S2 z)) := by
  intro z hz
  unfold r_SameRule_init
  refine ⟨z, d, cs, nd, rfl, isL_su hz hL, su_same, hl, fun S' hg => ?_⟩
  have := q _ (grow_sd hz hg)
  cases hb : countOut "a" (placeP cs) nd with
  | none =>
    rw [hb] at this
    intro h
    exact ⟨rfl, ok_o h this⟩
  | some n => rw [hb] at this; exact this
end SM
--#ONETAC
namespace SM
open PySem PySem.Spec PyProof.Rows L2
def t_l_offset : DTS := (dSeq (dSet 1 (dCall r_l_take [] (dCons (dVar 0) (dCons (dC (.int 48)) dNil)))) (dCut (dIf (dTestB (dOp oGt (dCall r_l_take [] (dCons (dVar 0) (dCons (dC (.int 3)) dNil))) (dC (.int 0)))) (dSet 1 (dOp oIx (dLst (dCons (dC (.int 16)) (dCons (dC (.int 17)) (dCons (dC (.int 18)) (dCons (dC (.int 23)) (dCons (dC (.int 24)) (dCons (dC (.int 29)) (dCons (dC (.int 30)) (dCons (dC (.int 31)) dNil))))))))) (dOp oMod (dCB (on1 intD) (dCons (dVar 1) dNil)) (dC (.int 8))))) dNext) (dSeq (dSet 1 (dOp oAdd (dVar 1) (dCB (on1 intD) (dCons (dOp oGt (dVar 1) (dC (.int 23))) dNil)))) (dRet (dTup (dCons (dOp oSub (dOp oMod (dCB (on1 intD) (dCons (dVar 1) dNil)) (dC (.int 7))) (dC (.int 3))) (dCons (dOp oSub (dOp oFdiv (dVar 1) (dC (.int 7))) (dC (.int 3))) dNil)))))))
abbrev N_l_offset : List Str := ["_law_bag_here", "_law_spot"]
@[irreducible] def r_l_offset : DSp := fun ds S Q _ => ∃ a b, ds = [.adr a] ∧ S a = some (bagO b) ∧ ∀ (c : Cell) b', offB c.1 c.2 = true → Q (pr c) (su S a (bagO b'))
theorem len_l_offset : Ln 1 r_l_offset := fun ds S Q E h => by unfold r_l_offset at h; obtain ⟨a, b, rfl, _⟩ := h; rfl
theorem spot_at {t : Int} (h0 : 0 ≤ t) (h1 : t < 8) : ∃ z : Int, ([D.int 16, D.int 17, D.int 18, D.int 23, D.int 24, D.int 29, D.int 30, D.int 31] : List D)[t.toNat]? = some (.int z) ∧ 0 ≤ z ∧ z < 48 := by
  have : t = 0 ∨ t = 1 ∨ t = 2 ∨ t = 3 ∨ t = 4 ∨ t = 5 ∨ t = 6 ∨ t = 7 := by omega
  rcases this with rfl | rfl | rfl | rfl | rfl | rfl | rfl | rfl <;> exact ⟨_, rfl, by decide, by decide⟩
theorem rd_l_offset : Rd t_l_offset N_l_offset r_l_offset := by
  intro ds S QD XD h
  unfold r_l_offset at h
  obtain ⟨a, b, rfl, hS, q⟩ := h
  row_hasAll w_d
  refine i_take hS (by decide) (by decide) fun v b1 h1 h2 => ?_
  row_hasAll w_d
  refine ⟨fun δ S' => ∃ v b', δ = [some (.adr a), some (.int v)] ∧ S' = su S a (bagO b') ∧ 0 ≤ v ∧ v < 48, ?_, ?_⟩
  · row_hasAll w_d
    refine i_takeB (by decide) (by decide) fun v2 b2 h3 h4 => ?_
    row_hasAll w_d
    refine brP (fun w => ?_) (fun w => ?_)
    · row_hasAll w_d
      obtain ⟨z, ez, z0, z1⟩ := spot_at (t := v % 8) (by omega) (by omega)
      refine ik_at (by omega) ez ?_
      conv => whnf
      exact ⟨z, b2, rfl, rfl, z0, z1⟩
    · conv => whnf
      exact ⟨v, b2, rfl, rfl, h1, h2⟩
  rintro δ S' ⟨v, b2, rfl, rfl, h3, h4⟩
  row_hasAll w_d
  obtain ⟨u, hu, u0, u1, u2⟩ : ∃ u : Int, (v + if decide (23 < v) = true then 1 else 0) = u ∧ 0 ≤ u ∧ u ≤ 48 ∧ u ≠ 24 := by
    by_cases h : 23 < v
    · rw [decide_eq_true h, if_pos rfl]; exact ⟨v + 1, rfl, by omega, by omega, by omega⟩
    · rw [decide_eq_false h, if_neg (by simp)]; exact ⟨v + 0, rfl, by omega, by omega, by omega⟩
  rw [hu]
  refine q (u % 7 - 3, u / 7 - 3) b2 ?_
  exact decide_eq_true (by show ¬ (u % 7 - 3 = 0 ∧ u / 7 - 3 = 0) ∧ -3 ≤ u % 7 - 3 ∧ u % 7 - 3 ≤ 3 ∧ -3 ≤ u / 7 - 3 ∧ u / 7 - 3 ≤ 3; omega)
theorem i_offs {a : Addr} {b : Bag} {S : Sto} {Q : DQ} {X : XQ} (hS : S a = some (bagO b)) (q : ∀ (c : Cell) b', offB c.1 c.2 = true → Q (pr c) (su S a (bagO b'))) : r_l_offset [.adr a] S Q X := by unfold r_l_offset; exact ⟨a, b, rfl, hS, q⟩
theorem pal3 {p : Str} (hp : palOk p) {v : Int} (h0 : 0 ≤ v) (h1 : v < 3) : ∃ c, p.cps.toList[v.toNat]? = some c ∧ letB c = true := by
  have hl := slen_codes p
  have hv : v.toNat < p.cps.toList.length := by have := hp.1; omega
  exact ⟨_, List.getElem?_eq_getElem hv, hp.2 _ (List.getElem_mem hv)⟩
theorem let_ne35 {c : Nat} (h : letB c = true) : c ≠ 35 := by
  have := of_decide_eq_true (show decide (97 ≤ c ∧ c ≤ 122) = true from h)
  omega
theorem condB_of {s : Str} {l : List Nat} (e : s.cps.toList = l) (h : cdF [] l = true) (hn : l ≠ []) : condB s = true := by
  unfold condB
  rw [e, h, Bool.true_and]
  have := slen_codes s
  rw [e] at this
  have : 0 < l.length := List.length_pos_iff.mpr hn
  exact decide_eq_true (by omega)
theorem cd1 {a : Nat} (h : letB a = true) : cdF [] [a] = true := by simp [cdF, h]
theorem cd1h {a : Nat} (h : letB a = true) : cdF [] [a, 35] = true := by simp [cdF, h, (let_ne35 h).symm]
theorem cd2 {a b : Nat} (h : letB a = true) (h2 : letB b = true) (hn : a ≠ b) : cdF [] [b, a] = true := by simp [cdF, h, h2, hn]
theorem cd2h {a b : Nat} (h : letB a = true) (h2 : letB b = true) (hn : a ≠ b) : cdF [] [b, a, 35] = true := by simp [cdF, h, h2, hn, (let_ne35 h).symm, (let_ne35 h2).symm]
def t_l_signs : DTS := (dSeq (dSet 2 (dOp oIx (dVar 1) (dCall r_l_take [] (dCons (dVar 0) (dCons (dC (.int 3)) dNil))))) (dSeq (dSet 3 (dOp oIx (dVar 1) (dCall r_l_take [] (dCons (dVar 0) (dCons (dC (.int 3)) dNil))))) (dCut (dIf (dAnd (dTestB (dOp oEq (dCall r_l_take [] (dCons (dVar 0) (dCons (dC (.int 3)) dNil))) (dC (.int 0)))) (dTestB (dOp oNotIn (dVar 3) (dVar 2)))) (dSet 2 (dOp oAdd (dVar 3) (dVar 2))) dNext) (dSeq (dIf (dTestB (dOp oEq (dCall r_l_take [] (dCons (dVar 0) (dCons (dC (.int 4)) dNil))) (dC (.int 0)))) (dSet 2 (dOp oAdd (dVar 2) (dC (.str "#")))) dNext) (dRet (dVar 2))))))
abbrev N_l_signs : List Str := ["_law_bag_here", "_law_palette_here", "_law_signs_here", "_law_other"]
@[irreducible] def r_l_signs : DSp := fun ds S Q _ => ∃ a b p, ds = [.adr a, .str p] ∧ S a = some (bagO b) ∧ palOk p ∧ ∀ s b', condB s = true → s.length ≤ 3 → Q (.str s) (su S a (bagO b'))
theorem len_l_signs : Ln 2 r_l_signs := fun ds S Q E h => by unfold r_l_signs at h; obtain ⟨a, b, c, rfl, _⟩ := h; rfl
theorem rd_l_signs : Rd t_l_signs N_l_signs r_l_signs := by
  intro ds S QD XD h
  unfold r_l_signs at h
  obtain ⟨a, b, p, rfl, hS, hp, q⟩ := h
  have hz := sizeLine_eq
  have lo : ∀ c, (one c).length = 1 := fun _ => rfl
  row_hasAll w_d
  refine i_take hS (by decide) (by decide) fun v1 b1 h1 h2 => ?_
  row_hasAll w_d
  obtain ⟨x, ex, lx⟩ := pal3 hp h1 h2
  refine ik_at h1 ex ?_
  row_hasAll w_d
  refine i_takeB (by decide) (by decide) fun v2 b2 h3 h4 => ?_
  row_hasAll w_d
  obtain ⟨y, ey, ly⟩ := pal3 hp h3 h4
  refine ik_at h3 ey ?_
  row_hasAll w_d
  refine ⟨fun δ S' => ∃ s b', δ = [some (.adr a), some (.str p), some (.str s), some (.str (one y))] ∧ S' = su S a (bagO b') ∧ (s = one x ∨ (s = one y ++ one x ∧ x ≠ y)), ?_, ?_⟩
  · row_hasAll w_d
    refine i_takeB (by decide) (by decide) fun v3 b3 h5 h6 => ?_
    row_hasAll w_d
    rw [eqB_int]
    refine brP (fun w => ?_) (fun w => ?_)
    · row_hasAll w_d
      have ei : inS (one y) (one x) = decide (y = x) := by
        unfold inS
        have e1 : (one y).cps.toList = [y] := rfl
        have e2 : (one x).cps.toList = [x] := rfl
        rw [e1, e2]
        simp
      rw [ei]
      by_cases hxy : y = x
      · rw [decide_eq_true hxy]
        row_hasAll w_d
        exact ⟨one x, b3, rfl, rfl, .inl rfl⟩
      · rw [decide_eq_false hxy]
        row_hasAll w_d
        exact ⟨one y ++ one x, b3, rfl, rfl, .inr ⟨rfl, fun e => hxy e.symm⟩⟩
    · refine brF ?_
      conv => whnf
      exact ⟨one x, b3, rfl, rfl, .inl rfl⟩
  rintro δ S' ⟨s, b3, rfl, rfl, hs⟩
  row_hasAll w_d
  refine i_takeB (by decide) (by decide) fun v4 b4 h7 h8 => ?_
  row_hasAll w_d
  have l1 : (one x).length = 1 := rfl
  have l2 : (one y).length = 1 := rfl
  have l3 : (Str.ofString "#").length = 1 := rfl
  have e1 : (one x).cps.toList = [x] := rfl
  have e2 : (one y).cps.toList = [y] := rfl
  have e3 : (Str.ofString "#").cps.toList = [35] := rfl
  have hls : s.length ≤ 2 := by
    rcases hs with rfl | ⟨rfl, _⟩
    · omega
    · rw [slen_app]; omega
  rw [eqB_int]
  refine brP (fun w => ?_) (fun w => ?_)
  · row_hasAll w_d
    refine q _ b4 ?_ (by rw [slen_app]; omega)
    rcases hs with rfl | ⟨rfl, hn⟩
    · exact condB_of (by rw [app_codes, e1, e3]; rfl) (cd1h lx) (by simp)
    · exact condB_of (by rw [app_codes, app_codes, e1, e2, e3]; rfl) (cd2h lx ly hn) (by simp)
  · row_hasAll w_d
    refine q _ b4 ?_ (by omega)
    rcases hs with rfl | ⟨rfl, hn⟩
    · exact condB_of e1 (cd1 lx) (by simp)
    · exact condB_of (by rw [app_codes, e1, e2]; rfl) (cd2 lx ly hn) (by simp)
theorem i_signs {a : Addr} {b : Bag} {p : Str} {S : Sto} {Q : DQ} {X : XQ} (hS : S a = some (bagO b)) (hp : palOk p) (q : ∀ s b', condB s = true → s.length ≤ 3 → Q (.str s) (su S a (bagO b'))) : r_l_signs [.adr a, .str p] S Q X := by unfold r_l_signs; exact ⟨a, b, p, rfl, hS, hp, q⟩
structure PartsOk (ps : List Part) : Prop where
  le : ps.length ≤ 8
  nd : (ps.map pk).Nodup
  ok : ∀ p ∈ ps, offB p.1 p.2.1 = true ∧ condB p.2.2 = true ∧ p.2.2.length ≤ 30
theorem badPF_none : ∀ {ps : List Part} {i : Nat} {ks : List Cell}, i + ps.length ≤ 8 → (ks ++ ps.map pk).Nodup → (∀ p ∈ ps, offB p.1 p.2.1 = true ∧ condB p.2.2 = true) → badPF i ks ps = none
  | [], _, _, _, _, _ => rfl
  | p :: r, i, ks, hl, hn, h => by
    simp only [List.length_cons] at hl
    have hp := h p (List.mem_cons_self ..)
    rw [badPF, if_neg]
    · exact badPF_none (by omega) (by simpa using hn) fun q hq => h q (List.mem_cons_of_mem _ hq)
    · rintro (z | z | z | z)
      · omega
      · rw [hp.1] at z; cases z
      · rw [List.map_cons, List.nodup_append] at hn
        exact hn.2.2 _ z _ (List.mem_cons_self ..) rfl
      · rw [hp.2] at z; cases z
theorem PartsOk.bad {ps : List Part} (h : PartsOk ps) : badP ps = none := badPF_none (by have := h.le; omega) (by simpa using h.nd) fun p hp => ⟨(h.ok p hp).1, (h.ok p hp).2.1⟩
def t_l_parts : DTS := (dSeq (dSet 2 (dCall r_l_take [] (dCons (dVar 0) (dCons (dC (.int 4)) dNil)))) (dCut (dIf (dTestB (dOp oEq (dCall r_l_take [] (dCons (dVar 0) (dCons (dC (.int 9)) dNil))) (dC (.int 0)))) (dSet 2 (dC (.int 8))) dNext) (dSeq (dSet 3 (dLstO dNil)) (dSeq (dFor (dRng1 (dCons (dVar 2) dNil)) (.nm 4) (dSeq (dSet 5 (dCall r_l_offset [] (dCons (dVar 0) dNil))) (dSeq (dSet 6 (dCall r_l_signs [] (dCons (dVar 0) (dCons (dVar 1) dNil)))) (dIf (dTestB (dOp oNotIn (dVar 5) (dLc (dItems (dVar 3)) (.nm 7) dYes (dTup (dCons (dOp oIx (dVar 7) (dC (.int 0))) (dCons (dOp oIx (dVar 7) (dC (.int 1))) dNil))) [7]))) (dDrop (dBM .lst appD (dVar 3) (dCons (dTup (dCons (dOp oIx (dVar 5) (dC (.int 0))) (dCons (dOp oIx (dVar 5) (dC (.int 1))) (dCons (dVar 6) dNil)))) dNil))) dNext)))) (dRet (dVarM 3))))))
abbrev N_l_parts : List Str := ["_law_bag_here", "_law_palette_here", "_law_many", "_law_parts_here", "_law_k", "_law_offset_here", "_law_signs_here", "_law_part"]
@[irreducible] def r_l_parts : DSp := fun ds S Q _ => ∃ a b p, ds = [.adr a, .str p] ∧ S a = some (bagO b) ∧ palOk p ∧ ∀ ps b', PartsOk ps → Q (.lst (ps.map prt)) (su S a (bagO b'))
theorem len_l_parts : Ln 2 r_l_parts := fun ds S Q E h => by unfold r_l_parts at h; obtain ⟨a, b, c, rfl, _⟩ := h; rfl
theorem rd_l_parts : Rd t_l_parts N_l_parts r_l_parts := by
  intro ds S QD XD h
  unfold r_l_parts at h
  obtain ⟨a, b, pal, rfl, hS, hp, q⟩ := h
  have hz := sizeLine_eq
  row_hasAll w_d
  refine i_take hS (by decide) (by decide) fun v b1 h1 h2 => ?_
  row_hasAll w_d
  refine ⟨fun δ S' => ∃ v b', δ = [some (.adr a), some (.str pal), some (.int v), none, none, none, none, none] ∧ S' = su S a (bagO b') ∧ 0 ≤ v ∧ v ≤ 8, ?_, ?_⟩
  · row_hasAll w_d
    refine i_takeB (by decide) (by decide) fun v2 b2 h3 h4 => ?_
    row_hasAll w_d
    rw [eqB_int]
    refine brP (fun w => ?_) (fun w => ?_)
    · row_hasAll w_d
      exact ⟨8, b2, rfl, rfl, by decide, by decide⟩
    · conv => whnf
      exact ⟨v, b2, rfl, rfl, h1, by omega⟩
  rintro δ S' ⟨v, b2, rfl, rfl, h3, h4⟩
  row_hasAll w_d
  intro z hz0
  have hza : z ≠ a := fun e => by rw [e, su_same] at hz0; cases hz0
  have hSz : S z = none := by rw [su_ne hza] at hz0; exact hz0
  row_hasAll w_d
  have fin : ∀ (b' b3 : Bag) (l : List D), su (su (su S a (bagO b')) z (.lst l)) a (bagO b3) = su (su S a (bagO b3)) z (.lst l) := fun b' b3 l => by row_hasAll w_steq
  refine loop_of (xs := List.range (v - 0).toNat) (g := fun i : Nat => D.int (0 + (i : Nat))) (fun r δ S' => ∃ x y w b', ∃ ps : List Part, δ = [some (.adr a), some (.str pal), some (.int v), some (.adr z), x, y, w, none] ∧ S' = su (su S a (bagO b')) z (.lst (ps.map prt)) ∧ ps.length + r.length ≤ 8 ∧ PartsOk ps) ?_ ?_ ?_
  rotate_left 2
  · exact ⟨_, _, _, b2, [], rfl, rfl, by rw [List.length_range]; show 0 + _ ≤ 8; omega, ⟨by simp, by simp, by simp⟩⟩
  · rintro i r δ S' ⟨x, y, w, b', ps, rfl, rfl, hl, hk⟩
    refine ⟨_, rfl, fun N hN => ?_⟩
    row_hasAll w_d
    refine i_offs (b := b') (by row_hasAll w_sto) fun c b3 hc => ?_
    rw [fin]
    row_hasAll w_d
    refine i_signs (b := b3) (by row_hasAll w_sto) hp fun s b4 hs hsl => ?_
    rw [fin]
    row_hasAll w_d
    simp only [List.length_cons] at hl
    refine lk_map (f := fun p : Part => pr (pk p)) (fun p hp => ⟨_, rfl, fun Q' h => ?_⟩) ?_
    · row_hasAll w_d
      exact h
    · have em : ps.map (fun p : Part => pr (pk p)) = (ps.map pk).map pr := by rw [List.map_map]; rfl
      rw [em]
      row_hasAll w_d
      rw [inB_prs]
      by_cases hm : c ∈ ps.map pk
      · rw [decide_eq_true hm]
        row_hasAll w_d
        exact hN _ _ ⟨_, _, _, b4, ps, rfl, rfl, by omega, hk⟩
      · rw [decide_eq_false hm]
        row_hasAll w_d
        refine ⟨by rw [List.length_map]; omega, ?_⟩
        refine hN _ _ ⟨_, _, _, b4, ps ++ [(c.1, c.2, s)], rfl, by rw [List.map_append]; rfl, by rw [List.length_append]; show ps.length + 1 + r.length ≤ 8; omega, ?_⟩
        refine ⟨by rw [List.length_append]; show ps.length + 1 ≤ 8; omega, ?_, fun p hp => ?_⟩
        · rw [List.map_append, List.nodup_append]
          refine ⟨hk.nd, by simp, fun x hx y hy => ?_⟩
          have : y = c := by simpa [pk] using hy
          rw [this]
          exact fun e => hm (e ▸ hx)
        · rcases List.mem_append.mp hp with h | h
          · exact hk.ok p h
          · rw [List.mem_singleton.mp h]
            exact ⟨hc, hs, Nat.le_trans hsl (by decide)⟩
  · rintro δ S' ⟨x, y, w, b', ps, rfl, rfl, hl, hk⟩
    row_hasAll w_d
    have e : sd (su (su S a (bagO b')) z (.lst (ps.map prt))) z = su S a (bagO b') := by rw [sd_su, sd_none]; rw [su_ne hza]; exact hSz
    rw [e]
    exact q ps b' hk
theorem i_parts {a : Addr} {b : Bag} {p : Str} {S : Sto} {Q : DQ} {X : XQ} (hS : S a = some (bagO b)) (hp : palOk p) (q : ∀ ps b', PartsOk ps → Q (.lst (ps.map prt)) (su S a (bagO b'))) : r_l_parts [.adr a, .str p] S Q X := by unfold r_l_parts; exact ⟨a, b, p, rfl, hS, hp, q⟩
def kindS : Nat → Str
  | 2 => "all"
  | 3 => "count"
  | _ => "same"
def rulT (k : Nat) (hue : Str) (ps : List Part) (nd : Int) : D := .tup [.str (kindS k), .str hue, .lst (ps.map prt), .int nd]
structure LR (k : Nat) (hue : Str) (ps : List Part) (nd : Int) : Prop where
  kd : knd k
  hu : ∃ c, hue = one c ∧ letB c = true
  ok : PartsOk ps
  n0 : 0 ≤ nd
  n1 : nd ≤ (ps.length : Nat)
def t_l_rule : DTS := (dSeq (dSet 2 (dOp oIx (dLst (dCons (dC (.str "all")) (dCons (dC (.str "count")) (dCons (dC (.str "same")) dNil)))) (dCall r_l_take [] (dCons (dVar 0) (dCons (dC (.int 3)) dNil))))) (dSeq (dSet 3 (dOp oIx (dVar 1) (dCall r_l_take [] (dCons (dVar 0) (dCons (dC (.int 3)) dNil))))) (dSeq (dSet 4 (dCall r_l_parts [] (dCons (dVar 0) (dCons (dVar 1) dNil)))) (dSeq (dSet 5 (dCall r_l_take [] (dCons (dVar 0) (dCons (dOp oAdd (dCB (on1 lenD) (dCons (dVar 4) dNil)) (dC (.int 1))) dNil)))) (dCut (dIf (dTestB (dOp oEq (dVar 2) (dC (.str "all")))) (dSet 5 (dCB (on1 lenD) (dCons (dVar 4) dNil))) dNext) (dRet (dTup (dCons (dVar 2) (dCons (dVar 3) (dCons (dVar 4) (dCons (dVar 5) dNil)))))))))))
abbrev N_l_rule : List Str := ["_law_bag_here", "_law_palette_here", "_law_kind", "_law_hue", "_law_parts_here", "_law_need"]
@[irreducible] def r_l_rule : DSp := fun ds S Q _ => ∃ a b p, ds = [.adr a, .str p] ∧ S a = some (bagO b) ∧ palOk p ∧ ∀ k hue ps nd b', LR k hue ps nd → Q (rulT k hue ps nd) (su S a (bagO b'))
theorem len_l_rule : Ln 2 r_l_rule := fun ds S Q E h => by unfold r_l_rule at h; obtain ⟨a, b, c, rfl, _⟩ := h; rfl
theorem kind_at {t : Int} (h0 : 0 ≤ t) (h1 : t < 3) : ∃ k, knd k ∧ ([D.str (Str.ofString "all"), D.str (Str.ofString "count"), D.str (Str.ofString "same")] : List D)[t.toNat]? = some (.str (kindS k)) := by
  have : t = 0 ∨ t = 1 ∨ t = 2 := by omega
  rcases this with rfl | rfl | rfl
  · exact ⟨2, .inl rfl, rfl⟩
  · exact ⟨3, .inr (.inl rfl), rfl⟩
  · exact ⟨4, .inr (.inr rfl), rfl⟩
theorem rd_l_rule : Rd t_l_rule N_l_rule r_l_rule := by
  intro ds S QD XD h
  unfold r_l_rule at h
  obtain ⟨a, b, pal, rfl, hS, hp, q⟩ := h
  row_hasAll w_d
  refine i_take hS (by decide) (by decide) fun v b1 h1 h2 => ?_
  row_hasAll w_d
  obtain ⟨k, hk, ek⟩ := kind_at h1 h2
  refine ik_at h1 ek ?_
  row_hasAll w_d
  refine i_takeB (by decide) (by decide) fun v2 b2 h3 h4 => ?_
  row_hasAll w_d
  obtain ⟨c, ec, lc⟩ := pal3 hp h3 h4
  refine ik_at h3 ec ?_
  row_hasAll w_d
  refine i_parts (b := b2) su_same hp fun ps b3 hps => ?_
  have h8 := hps.le
  row_hasAll w_d
  refine i_takeB (by rw [List.length_map]; omega) (by rw [List.length_map]; omega) fun nd b4 h5 h6 => ?_
  rw [List.length_map] at h6
  row_hasAll w_d
  refine ⟨fun δ S' => ∃ nd b', δ = [some (.adr a), some (.str pal), some (.str (kindS k)), some (.str (one c)), some (.lst (ps.map prt)), some (.int nd)] ∧ S' = su S a (bagO b') ∧ LR k (one c) ps nd, ?_, ?_⟩
  · row_hasAll w_d
    rw [eqB_str]
    refine brP (fun w => ?_) (fun w => ?_)
    · row_hasAll w_d
      exact ⟨_, b4, rfl, rfl, hk, ⟨c, rfl, lc⟩, hps, by omega, by rw [List.length_map]; omega⟩
    · conv => whnf
      exact ⟨nd, b4, rfl, rfl, hk, ⟨c, rfl, lc⟩, hps, h5, by omega⟩
  rintro δ S' ⟨nd, b5, rfl, rfl, hlr⟩
  row_hasAll w_d
  exact q k (one c) ps nd b5 hlr
theorem i_rule {a : Addr} {b : Bag} {p : Str} {S : Sto} {Q : DQ} {X : XQ} (hS : S a = some (bagO b)) (hp : palOk p) (q : ∀ k hue ps nd b', LR k hue ps nd → Q (rulT k hue ps nd) (su S a (bagO b'))) : r_l_rule [.adr a, .str p] S Q X := by unfold r_l_rule; exact ⟨a, b, p, rfl, hS, hp, q⟩
end SM
--#ONETAC
namespace SM
open PySem PySem.Spec PyProof.Rows L2
def tsw (p : Part) : D := .tup [.int p.2.1, .int p.1, .str p.2.2]
theorem le_tsw {p q : Part} (h : pk p = pk q → p = q) : PySem.W.dataLe false toP (tsw p) (tsw q) = roLe (pk p) (pk q) := by
  obtain ⟨x, y, s⟩ := p
  obtain ⟨x', y', s'⟩ := q
  have e : PySem.W.dataLe false toP (tsw (x, y, s)) (tsw (x', y', s')) = !PyProof.Rows.lexLt itemOrd [.inl 1, .inl y', .inl 1, .inl x', .inl 1, .inr s'.cps.toList, .inl 0] [.inl 1, .inl y, .inl 1, .inl x, .inl 1, .inr s.cps.toList, .inl 0] := rfl
  rw [e]
  by_cases hk : pk (x, y, s) = pk (x', y', s')
  · have := h hk
    cases this
    have e2 : PyProof.Rows.lexLt itemOrd [.inl 1, .inl y, .inl 1, .inl x, .inl 1, .inr s.cps.toList, .inl 0] [.inl 1, .inl y, .inl 1, .inl x, .inl 1, .inr s.cps.toList, .inl 0] = false := lex_irrefl _
    rw [e2]
    simp [roLe, pk]
  · have hne : ¬ (x = x' ∧ y = y') := fun z => hk (by simp [pk, z.1, z.2])
    have L : ∀ (a b : Int) (r t : List (Int ⊕ List Nat)), PyProof.Rows.lexLt itemOrd (.inl a :: r) (.inl b :: t) = (decide (a < b) || (!decide (b < a) && PyProof.Rows.lexLt itemOrd r t)) := fun _ _ _ _ => rfl
    rw [L, L, L, L]
    simp only [roLe, pk]
    by_cases h1 : y' < y
    · have h2 : ¬ y < y' := by omega
      simp [h1, h2]
      omega
    · by_cases h2 : y < y'
      · simp [h1, h2]
      · have h3 : y = y' := by omega
        have h4 : ¬ x = x' := fun z => hne ⟨z, h3⟩
        by_cases h5 : x' < x
        · have h6 : ¬ x < x' := by omega
          simp [h1, h2, h5, h6]
          try omega
        · have h6 : x < x' := by omega
          simp [h1, h2, h5, h6]
          try omega
def rawP (ps : List Part) : List Part := (roSort (ps.map pk)).map fun c => (c.1, c.2, signsAt ps c)
theorem pk_inj {ps : List Part} (hn : (ps.map pk).Nodup) : ∀ p ∈ ps, ∀ q ∈ ps, pk p = pk q → p = q := by
  induction ps with
  | nil => intro p hp; cases hp
  | cons a r ih =>
    rw [List.map_cons, List.nodup_cons] at hn
    intro p hp q hq e
    rcases List.mem_cons.mp hp with h1 | h1
    · rcases List.mem_cons.mp hq with h2 | h2
      · rw [h1, h2]
      · exact absurd (show pk a ∈ r.map pk from List.mem_map.mpr ⟨q, h2, by rw [← e, h1]⟩) hn.1
    · rcases List.mem_cons.mp hq with h2 | h2
      · exact absurd (show pk a ∈ r.map pk from List.mem_map.mpr ⟨p, h1, by rw [e, h2]⟩) hn.1
      · exact ih hn.2 p h1 q h2 e
theorem signsAt_of {ps : List Part} (hn : (ps.map pk).Nodup) {p : Part} (hp : p ∈ ps) : ((pk p).1, (pk p).2, signsAt ps (pk p)) = p := by
  have hf : (ps.find? fun q => decide (pk q = pk p)).isSome = true := by rw [List.find?_isSome]; exact ⟨p, hp, decide_eq_true rfl⟩
  obtain ⟨q, hq⟩ := Option.isSome_iff_exists.mp hf
  have h1 := List.mem_of_find?_eq_some hq
  have h2 : pk q = pk p := of_decide_eq_true (show decide (pk q = pk p) = true from List.find?_some (p := fun q => decide (pk q = pk p)) hq)
  have := pk_inj hn q h1 p hp h2
  unfold signsAt
  rw [hq, this]
  rfl
theorem sorted_tsw {ps : List Part} (hn : (ps.map pk).Nodup) : sorted (ps.map tsw) = (rawP ps).map tsw := by
  have e1 : (ps.mergeSort fun p q => roLe (pk p) (pk q)).map tsw = sorted (ps.map tsw) := by
    unfold sorted
    exact PySem.W.sort_maps (s := PySem.W.dataLe false toP) tsw fun a ha b hb => (le_tsw (pk_inj hn a ha b hb)).symm
  have e2 : (ps.mergeSort fun p q => roLe (pk p) (pk q)).map pk = roSort (ps.map pk) := by
    unfold roSort
    exact PySem.W.sort_maps (s := roLe) pk fun a _ b _ => rfl
  rw [← e1]
  unfold rawP
  rw [← e2, List.map_map, List.map_map]
  refine List.map_congr_left fun p hp => ?_
  have hm : p ∈ ps := (List.mergeSort_perm ..).mem_iff.mp hp
  show tsw p = tsw ((pk p).1, (pk p).2, signsAt ps (pk p))
  rw [signsAt_of hn hm]
theorem srtOk_tsw (ps : List Part) : srtOk (ps.map tsw) := by
  refine ⟨?_, ?_, ?_⟩
  · rw [plns_all, List.all_eq_true]
    intro d hd
    obtain ⟨c, _, rfl⟩ := List.mem_map.mp hd
    rfl
  · rw [List.map_map]
    exact PySem.W.AllAlike.of fun _ _ => by simp [PySem.W.alike, PySem.W.alikeAll, tsw, toP, toPs]
  · rw [List.map_map]
    exact PySem.W.Sortable.tuples fun _ => ⟨_, _, rfl⟩
theorem rawP_len (ps : List Part) : (rawP ps).length = ps.length := by unfold rawP; rw [List.length_map, roSort_len, List.length_map]
theorem sortP_raw (ps : List Part) : sortP ps = (rawP ps).map fun p => (p.1, p.2.1, srtS p.2.2) := by unfold sortP rawP; rw [List.map_map]; rfl
def t_l_sorted_parts : DTS := (dRet (dLc (dItems (dCB (on1 sortD) (dCons (dLc (dItems (dOp oIx (dVar 0) (dC (.int 2)))) (.nm 2) dYes (dTup (dCons (dOp oIx (dVar 2) (dC (.int 1))) (dCons (dOp oIx (dVar 2) (dC (.int 0))) (dCons (dOp oIx (dVar 2) (dC (.int 2))) dNil)))) [2]) dNil))) (.nm 1) dYes (dTup (dCons (dOp oIx (dVar 1) (dC (.int 1))) (dCons (dOp oIx (dVar 1) (dC (.int 0))) (dCons (dOp oIx (dVar 1) (dC (.int 2))) dNil)))) [1]))
abbrev N_l_sorted_parts : List Str := ["_law_rule_here", "_law_part", "_law_one"]
@[irreducible] def r_l_sorted_parts : DSp := fun ds S Q _ => ∃ k hue ps nd, ds = [rulT k hue ps nd] ∧ PartsOk ps ∧ Q (.lst ((rawP ps).map prt)) S
theorem len_l_sorted_parts : Ln 1 r_l_sorted_parts := fun ds S Q E h => by unfold r_l_sorted_parts at h; obtain ⟨k, hue, ps, nd, rfl, _⟩ := h; rfl
theorem rd_l_sorted_parts : Rd t_l_sorted_parts N_l_sorted_parts r_l_sorted_parts := by
  intro ds S QD XD h
  unfold r_l_sorted_parts at h
  obtain ⟨k, hue, ps, nd, rfl, hk, q⟩ := h
  row_hasAll w_d
  refine lk_map (f := tsw) (fun p hp => ⟨_, rfl, fun Q' h => ?_⟩) ?_
  · row_hasAll w_d
    exact h
  row_hasAll w_d
  refine ⟨srtOk_tsw ps, ?_⟩
  rw [sorted_tsw hk.nd]
  row_hasAll w_d
  refine lk_map (f := prt) (fun p hp => ⟨_, rfl, fun Q' h => ?_⟩) ?_
  · row_hasAll w_d
    exact h
  · exact q
theorem i_sorted {k : Nat} {hue : Str} {ps : List Part} {nd : Int} {S : Sto} {Q : DQ} {X : XQ} (hk : PartsOk ps) (q : Q (.lst ((rawP ps).map prt)) S) : r_l_sorted_parts [rulT k hue ps nd] S Q X := by unfold r_l_sorted_parts; exact ⟨k, hue, ps, nd, rfl, hk, q⟩
theorem kind_same {k : Nat} (hk : knd k) : decide (kindS k = Str.ofString "same") = decide (k = 4) := by rcases hk with rfl | rfl | rfl <;> decide
theorem kind_all {k : Nat} (hk : knd k) : decide (kindS k = Str.ofString "all") = decide (k = 2) := by rcases hk with rfl | rfl | rfl <;> decide
theorem kind_count {k : Nat} (hk : knd k) : decide (kindS k = Str.ofString "count") = decide (k = 3) := by rcases hk with rfl | rfl | rfl <;> decide
def t_l_is_letter : DTS := (dRet (dAndV (dOp oEq (dCB (on1 lenD) (dCons (dVar 0) dNil)) (dC (.int 1))) (dOp oIn (dVar 0) (dC (.str "abcdefghijklmnopqrstuvwxyz")))))
abbrev N_l_is_letter : List Str := ["_law_text"]
@[irreducible] def r_l_is_letter : DSp := fun ds S Q _ => ∃ s, ds = [.str s] ∧ Q (.bl (stoneB s)) S
theorem len_l_is_letter : Ln 1 r_l_is_letter := fun ds S Q E h => by unfold r_l_is_letter at h; obtain ⟨s, rfl, _⟩ := h; rfl
theorem rd_l_is_letter : Rd t_l_is_letter N_l_is_letter r_l_is_letter := by
  intro ds S QD XD h
  unfold r_l_is_letter at h
  obtain ⟨s, rfl, q⟩ := h
  exact rd_p_is_stone [.str s] S QD XD (by unfold r_p_is_stone; exact ⟨s, rfl, q⟩)
theorem i_letter {s : Str} {S : Sto} {Q : DQ} {X : XQ} (q : Q (.bl (stoneB s)) S) : r_l_is_letter [.str s] S Q X := by unfold r_l_is_letter; exact ⟨s, rfl, q⟩
def mrul (k : Nat) (hue : Str) (ps : List Part) (nd : Int) : D := if k = 4 then rul 4 "" (sortP (placeP (ps.map pk))) nd else rul k hue (sortP ps) nd
theorem place_ok {ps : List Part} (h : PartsOk ps) : badP (placeP (ps.map pk)) = none := by
  refine badPF_none ?_ ?_ fun p hp => ?_
  · unfold placeP; rw [List.length_map, List.length_map]; have := h.le; omega
  · unfold placeP
    rw [List.map_map, List.nil_append]
    have : (pk ∘ fun c : Cell => (c.1, c.2, ("a" : Str))) = id := rfl
    rw [this, List.map_id]
    exact h.nd
  · unfold placeP at hp
    obtain ⟨c, hc, rfl⟩ := List.mem_map.mp hp
    obtain ⟨q, hq, rfl⟩ := List.mem_map.mp hc
    exact ⟨(h.ok q hq).1, by show condB (Str.ofString "a") = true; decide +kernel⟩
theorem LR.out {k : Nat} {hue : Str} {ps : List Part} {nd : Int} (h : LR k hue ps nd) : ruleOut hue ps = none := by
  obtain ⟨c, rfl, hc⟩ := h.hu
  unfold ruleOut
  rw [if_neg (by rw [stone_one, hc]; simp), h.ok.bad]
theorem LR.cout {k : Nat} {hue : Str} {ps : List Part} {nd : Int} (h : LR k hue ps nd) : countOut hue ps nd = none := by
  unfold countOut
  rw [h.out]
  exact if_pos ⟨h.n0, h.n1⟩
theorem LR.sout {k : Nat} {hue : Str} {ps : List Part} {nd : Int} (h : LR k hue ps nd) : countOut "a" (placeP (ps.map pk)) nd = none := by
  have e : ruleOut "a" (placeP (ps.map pk)) = none := by
    unfold ruleOut
    rw [if_neg (by decide +kernel), place_ok h.ok]
  unfold countOut
  rw [e]
  refine if_pos ⟨h.n0, ?_⟩
  unfold placeP
  rw [List.length_map, List.length_map]
  exact h.n1
theorem LR.len {k : Nat} {hue : Str} {ps : List Part} {nd : Int} (h : LR k hue ps nd) : ∀ p ∈ ps, p.2.2.length ≤ 1000 := fun p hp => by have := (h.ok.ok p hp).2.2; omega
def t_l_made : DTS := (dSeq (dIf (dTestB (dOp oEq (dOp oIx (dVar 0) (dC (.int 0))) (dC (.str "all")))) (dRet (dMake mkF 2 r_Rule_init [] (dCons (dOp oIx (dVar 0) (dC (.int 1))) (dCons (dCB (on1 listD) (dCons (dOp oIx (dVar 0) (dC (.int 2))) dNil)) dNil)))) dNext) (dSeq (dIf (dTestB (dOp oEq (dOp oIx (dVar 0) (dC (.int 0))) (dC (.str "count")))) (dRet (dMake mkF 3 r_CountRule_init [] (dCons (dOp oIx (dVar 0) (dC (.int 1))) (dCons (dCB (on1 listD) (dCons (dOp oIx (dVar 0) (dC (.int 2))) dNil)) (dCons (dOp oIx (dVar 0) (dC (.int 3))) dNil))))) dNext) (dRet (dMake mkF 4 r_SameRule_init [] (dCons (dLc (dItems (dOp oIx (dVar 0) (dC (.int 2)))) (.nm 1) dYes (dTup (dCons (dOp oIx (dVar 1) (dC (.int 0))) (dCons (dOp oIx (dVar 1) (dC (.int 1))) dNil))) [1]) (dCons (dOp oIx (dVar 0) (dC (.int 3))) dNil))))))
abbrev N_l_made : List Str := ["_law_rule_here", "_law_part"]
@[irreducible] def r_l_made : DSp := fun ds S Q _ => ∃ k hue ps nd, ds = [rulT k hue ps nd] ∧ LR k hue ps nd ∧ ∀ S', Grow S S' → Q (mrul k hue ps nd) S'
theorem len_l_made : Ln 1 r_l_made := fun ds S Q E h => by unfold r_l_made at h; obtain ⟨k, hue, ps, nd, rfl, _⟩ := h; rfl
theorem rd_l_made : Rd t_l_made N_l_made r_l_made := by
  intro ds S QD XD h
  unfold r_l_made at h
  obtain ⟨k, hue, ps, nd, rfl, hr, q⟩ := h
  have h8 := hr.ok.le
  have ho := hr.out
  have hco := hr.cout
  have hso := hr.sout
  unfold mrul at q
  row_hasAll w_d
  rw [eqB_str, kind_all hr.kd]
  refine brP (fun h1 => ?_) (fun h1 => ?_)
  · subst h1
    row_hasAll w_d
    refine mk_rule (.inl rfl) (by omega) hr.len fun S' hg => ?_
    rw [ho]
    exact q S' hg
  · row_hasAll w_d
    rw [eqB_str, kind_count hr.kd]
    refine brP (fun h2 => ?_) (fun h2 => ?_)
    · subst h2
      row_hasAll w_d
      refine mk_count (.inl rfl) (by omega) hr.len fun S' hg => ?_
      rw [hco]
      exact q S' hg
    · have h4 : k = 4 := by rcases hr.kd with h | h | h <;> omega
      subst h4
      row_hasAll w_d
      refine lk_map (f := fun p : Part => pr (pk p)) (fun p hp => ⟨_, rfl, fun Q' h => ?_⟩) ?_
      · row_hasAll w_d
        exact h
      · have em : ps.map (fun p : Part => pr (pk p)) = (ps.map pk).map pr := by rw [List.map_map]; rfl
        row_hasAll w_d
        rw [em]
        refine mk_same (.inl rfl) (by rw [List.length_map]; omega) fun S' hg => ?_
        rw [hso]
        exact q S' hg
theorem i_made {k : Nat} {hue : Str} {ps : List Part} {nd : Int} {S : Sto} {Q : DQ} {X : XQ} (hr : LR k hue ps nd) (q : ∀ S', Grow S S' → Q (mrul k hue ps nd) S') : r_l_made [rulT k hue ps nd] S Q X := by unfold r_l_made; exact ⟨k, hue, ps, nd, rfl, hr, q⟩
theorem signs_len {ps : List Part} (h : PartsOk ps) : ∀ p ∈ rawP ps, p.2.2.length ≤ 30 := fun p hp => by
  unfold rawP at hp
  obtain ⟨c, hc, rfl⟩ := List.mem_map.mp hp
  obtain ⟨q, hq, rfl⟩ := List.mem_map.mp (mem_ro.mp hc)
  rw [signsAt_of h.nd hq]
  exact (h.ok q hq).2.2
end SM
--#ONETAC
local macro_rules | `(tactic| row_hasAll w_c) => `(tactic| first
  | refine i_llays (by row_hasAll w_side) ?_
  | refine i_lslack (by row_hasAll w_side) ?_
  | refine i_letter ?_)
namespace SM
open PySem PySem.Spec PyProof.Rows L2
def badB (p : Part) (es : List Part) : Bool := decide (8 ≤ es.length ∨ offB p.1 p.2.1 = false ∨ pk p ∈ es.map pk ∨ condB p.2.2 = false)
theorem in_abch (c : Nat) : inS (one c) (Str.ofString "#abcdefghijklmnopqrstuvwxyz") = (decide (c = 35) || letB c) := by
  unfold inS letB
  have e1 : (one c).cps.toList = [c] := rfl
  rw [e1]
  show decide (c ∈ [35, 97, 98, 99, 100, 101, 102, 103, 104, 105, 106, 107, 108, 109, 110, 111, 112, 113, 114, 115, 116, 117, 118, 119, 120, 121, 122]) = (decide (c = 35) || decide (97 ≤ c ∧ c ≤ 122))
  rw [Bool.eq_iff_iff]
  simp
  omega
def t_l_bad_part : DTS := (dCut (dIf (dAnd (dTestB (dOp oEq (dOp oIx (dVar 0) (dC (.int 0))) (dC (.int 0)))) (dTestB (dOp oEq (dOp oIx (dVar 0) (dC (.int 1))) (dC (.int 0))))) (dRet (dC (.bl true))) dNext) (dCut (dIf (dOr (dTestB (dOp oLt (dOp oIx (dVar 0) (dC (.int 0))) (dNeg (dC (.int 3))))) (dOr (dTestB (dOp oGt (dOp oIx (dVar 0) (dC (.int 0))) (dC (.int 3)))) (dOr (dTestB (dOp oLt (dOp oIx (dVar 0) (dC (.int 1))) (dNeg (dC (.int 3))))) (dTestB (dOp oGt (dOp oIx (dVar 0) (dC (.int 1))) (dC (.int 3))))))) (dRet (dC (.bl true))) dNext) (dCut (dIf (dOr (dTestB (dOp oIn (dTup (dCons (dOp oIx (dVar 0) (dC (.int 0))) (dCons (dOp oIx (dVar 0) (dC (.int 1))) dNil))) (dLc (dItems (dVar 1)) (.nm 2) dYes (dTup (dCons (dOp oIx (dVar 2) (dC (.int 0))) (dCons (dOp oIx (dVar 2) (dC (.int 1))) dNil))) [2]))) (dTestB (dOp oEq (dOp oIx (dVar 0) (dC (.int 2))) (dC (.str ""))))) (dRet (dC (.bl true))) dNext) (dSeq (dFor (dRng1 (dCons (dCB (on1 lenD) (dCons (dOp oIx (dVar 0) (dC (.int 2))) dNil)) dNil)) (.nm 3) (dIf (dOr (dTestB (dOp oIn (dOp oIx (dOp oIx (dVar 0) (dC (.int 2))) (dVar 3)) (dSl oSl (dOp oIx (dVar 0) (dC (.int 2))) dNoPart (dPart (dVar 3))))) (dTestB (dOp oNotIn (dOp oIx (dOp oIx (dVar 0) (dC (.int 2))) (dVar 3)) (dC (.str "#abcdefghijklmnopqrstuvwxyz"))))) (dRet (dC (.bl true))) dNext)) (dRet (dOp oGt (dCB (on1 lenD) (dCons (dVar 1) dNil)) (dC (.int 7))))))))
abbrev N_l_bad_part : List Str := ["_law_part", "_law_earlier", "_law_one", "_law_k"]
@[irreducible] def r_l_bad_part : DSp := fun ds S Q _ => ∃ p es, ds = [prt p, .lst (es.map prt)] ∧ es.length ≤ 1000 ∧ p.2.2.length ≤ 1000 ∧ Q (.bl (badB p es)) S
theorem len_l_bad_part : Ln 2 r_l_bad_part := fun ds S Q E h => by unfold r_l_bad_part at h; obtain ⟨p, es, rfl, _⟩ := h; rfl
theorem rd_l_bad_part : Rd t_l_bad_part N_l_bad_part r_l_bad_part := by
  intro ds S QD XD h
  unfold r_l_bad_part at h
  obtain ⟨p, es, rfl, hl, hs, q⟩ := h
  have yes : (8 ≤ es.length ∨ offB p.1 p.2.1 = false ∨ pk p ∈ es.map pk ∨ condB p.2.2 = false) → QD (.bl true) S := fun hc => by unfold badB at q; rw [decide_eq_true hc] at q; exact q
  have offN : ∀ {x y : Int}, ¬ (¬ (x = 0 ∧ y = 0) ∧ -3 ≤ x ∧ x ≤ 3 ∧ -3 ≤ y ∧ y ≤ 3) → offB x y = false := fun h => decide_eq_false h
  have em : es.map (fun p : Part => pr (pk p)) = (es.map pk).map pr := by rw [List.map_map]; rfl
  have hz := sizeLine_eq
  conv => whnf
  refine ⟨fun δ S' => S' = S ∧ δ = [some (prt p), some (.lst (es.map prt)), none, none] ∧ ¬ (p.1 = 0 ∧ p.2.1 = 0), ?_, ?_⟩
  · row_hasAll w_d
    rw [eqB_int]
    refine brP (fun h1 => ?_) (fun h1 => ?_)
    · row_hasAll w_d
      rw [eqB_int]
      refine brP (fun h2 => ?_) (fun h2 => ?_)
      · row_hasAll w_d
        exact yes (.inr (.inl (offN fun z => z.1 ⟨h1, h2⟩)))
      · conv => whnf
        exact ⟨rfl, rfl, fun z => h2 z.2⟩
    · refine brF ?_
      conv => whnf
      exact ⟨rfl, rfl, fun z => h1 z.1⟩
  rintro δ S' ⟨rfl, rfl, hn0⟩
  conv => whnf
  refine ⟨fun δ S2 => S2 = S' ∧ δ = [some (prt p), some (.lst (es.map prt)), none, none] ∧ offB p.1 p.2.1 = true, ?_, ?_⟩
  · row_hasAll w_d
    refine brP (fun h1 => ?_) (fun h1 => ?_)
    · row_hasAll w_d
      exact yes (.inr (.inl (offN fun z => by omega)))
    row_hasAll w_d
    refine brP (fun h2 => ?_) (fun h2 => ?_)
    · row_hasAll w_d
      exact yes (.inr (.inl (offN fun z => by omega)))
    row_hasAll w_d
    refine brP (fun h3 => ?_) (fun h3 => ?_)
    · row_hasAll w_d
      exact yes (.inr (.inl (offN fun z => by omega)))
    row_hasAll w_d
    refine brP (fun h4 => ?_) (fun h4 => ?_)
    · row_hasAll w_d
      exact yes (.inr (.inl (offN fun z => by omega)))
    · conv => whnf
      exact ⟨rfl, rfl, decide_eq_true ⟨hn0, by omega, by omega, by omega, by omega⟩⟩
  rintro δ S2 ⟨rfl, rfl, hoff⟩
  conv => whnf
  refine ⟨fun δ S3 => S3 = S2 ∧ δ = [some (prt p), some (.lst (es.map prt)), none, none] ∧ pk p ∉ es.map pk ∧ 0 < p.2.2.length, ?_, ?_⟩
  · row_hasAll w_d
    refine lk_map (f := fun p : Part => pr (pk p)) (fun p hp => ⟨_, rfl, fun Q' h => ?_⟩) ?_
    · row_hasAll w_d
      exact h
    rw [em]
    conv => whnf
    refine vk_lst ?_
    conv => whnf
    rw [show D.tup [D.int p.1, D.int p.2.1] = pr (pk p) from rfl, inB_prs]
    refine brP (fun h1 => ?_) (fun h1 => ?_)
    · row_hasAll w_d
      exact yes (.inr (.inr (.inl h1)))
    row_hasAll w_d
    rw [eqB_str]
    refine brP (fun h2 => ?_) (fun h2 => ?_)
    · row_hasAll w_d
      refine yes (.inr (.inr (.inr ?_)))
      rw [h2]
      decide +kernel
    · conv => whnf
      refine ⟨rfl, rfl, h1, ?_⟩
      rcases Nat.eq_zero_or_pos p.2.2.length with h | h
      · exfalso
        apply h2
        refine str_ext ?_
        have := slen_codes p.2.2
        rw [h] at this
        rw [List.length_eq_zero_iff.mp this]
        rfl
      · exact h
  rintro δ S3 ⟨rfl, rfl, hk, hpos⟩
  have hsl := slen_codes p.2.2
  row_hasAll w_d
  refine loop_of (xs := List.range ((p.2.2.length : Int) - 0).toNat) (g := fun i : Nat => D.int (0 + (i : Nat))) (fun l δ S' => S' = S3 ∧ (∃ x, δ = [some (prt p), some (.lst (es.map prt)), none, x]) ∧ ∃ i, l = List.range' i (p.2.2.length - i) ∧ i ≤ p.2.2.length ∧ cdF (p.2.2.cps.toList.take i) (p.2.2.cps.toList.drop i) = cdF [] p.2.2.cps.toList) ?_ ?_ ?_
  rotate_left 2
  · exact ⟨rfl, ⟨_, rfl⟩, 0, by rw [List.range_eq_range', Int.sub_zero, Int.toNat_natCast, Nat.sub_zero], Nat.zero_le _, rfl⟩
  · rintro k l δ S' ⟨rfl, ⟨x, rfl⟩, i, el, hi, ec⟩
    have hlt : i < p.2.2.length := by
      rcases Nat.lt_or_ge i p.2.2.length with h | h
      · exact h
      · rw [show p.2.2.length - i = 0 by omega] at el; cases el
    obtain ⟨m, hm⟩ : ∃ m, p.2.2.length - i = m + 1 := ⟨p.2.2.length - i - 1, by omega⟩
    rw [hm, List.range'_succ] at el
    simp only [List.cons.injEq] at el
    obtain ⟨rfl, rfl⟩ := el
    have hlt2 : k < p.2.2.cps.toList.length := by omega
    rw [List.drop_eq_getElem_cons hlt2, cdF, List.take_append_getElem hlt2] at ec
    refine ⟨_, rfl, fun N hN => ?_⟩
    have nope : cdF [] p.2.2.cps.toList = false → QD (.bl true) S' := fun e => yes (.inr (.inr (.inr (by unfold condB; rw [e]; rfl))))
    have ei : inS (one p.2.2.cps.toList[k]) (cutS p.2.2 none (some (0 + (k : Nat)))) = decide (p.2.2.cps.toList[k] ∈ p.2.2.cps.toList.take k) := by
      unfold inS
      have e1 : (one p.2.2.cps.toList[k]).cps.toList = [p.2.2.cps.toList[k]] := rfl
      rw [e1, Int.zero_add, cut_take (by omega)]
    have hix : p.2.2.cps.toList[(0 + ((k : Nat) : Int)).toNat]? = some p.2.2.cps.toList[k] := by
      rw [Int.zero_add, Int.toNat_natCast]; exact List.getElem?_eq_getElem hlt2
    row_hasAll w_d
    refine ik_at (i := 0 + ((k : Nat) : Int)) (by omega) hix ?_
    row_hasAll w_d
    rw [ei]
    cases h1 : decide (p.2.2.cps.toList[k] ∈ p.2.2.cps.toList.take k) with
    | true =>
      rw [h1] at ec
      row_hasAll w_d
      exact nope ec.symm
    | false =>
      rw [h1] at ec
      row_hasAll w_d
      refine ik_at (i := 0 + ((k : Nat) : Int)) (by omega) hix ?_
      row_hasAll w_d
      rw [in_abch]
      cases h2 : (decide (p.2.2.cps.toList[k] = 35) || letB p.2.2.cps.toList[k]) with
      | true =>
        rw [h2] at ec
        row_hasAll w_d
        exact hN _ _ ⟨rfl, ⟨_, rfl⟩, k + 1, by congr 1; omega, hlt, ec⟩
      | false =>
        rw [h2] at ec
        row_hasAll w_d
        exact nope ec.symm
  · rintro δ S' ⟨rfl, ⟨x, rfl⟩, i, el, hi, ec⟩
    have ei : i = p.2.2.length := by
      rcases Nat.lt_or_ge i p.2.2.length with h | h
      · obtain ⟨m, hm⟩ : ∃ m, p.2.2.length - i = m + 1 := ⟨p.2.2.length - i - 1, by omega⟩
        rw [hm, List.range'_succ] at el; cases el
      · omega
    rw [ei, List.drop_eq_nil_of_le (by omega), cdF] at ec
    have hcd : condB p.2.2 = true := by unfold condB; rw [← ec, Bool.true_and]; exact decide_eq_true hpos
    row_hasAll w_d
    unfold badB at q
    rw [List.length_map]
    have ee : decide (8 ≤ es.length ∨ offB p.1 p.2.1 = false ∨ pk p ∈ es.map pk ∨ condB p.2.2 = false) = decide ((7 : Int) < ((es.length : Nat) : Int)) := by
      refine decide_eq_decide.mpr ⟨fun h => ?_, fun h => .inl (by omega)⟩
      rcases h with h | h | h | h
      · omega
      · rw [hoff] at h; cases h
      · exact absurd h hk
      · rw [hcd] at h; cases h
    rw [ee] at q
    exact q
theorem i_badpart {p : Part} {es : List Part} {S : Sto} {Q : DQ} {X : XQ} (hl : es.length ≤ 1000) (hs : p.2.2.length ≤ 1000) (q : Q (.bl (badB p es)) S) : r_l_bad_part [prt p, .lst (es.map prt)] S Q X := by unfold r_l_bad_part; exact ⟨p, es, rfl, hl, hs, q⟩
def faultF (k : Nat) (st : Str) (ps : List Part) (nd : Int) : Int := if k ≠ 4 ∧ stoneB st = false then 0 else match badP ps with
  | some n => (n : Nat)
  | none => if nd < 0 ∨ nd > (ps.length : Nat) then 0 else -1
theorem cutD_take {α : Type} (f : α → D) {l : List α} {i : Nat} (h : i ≤ l.length) : cutD (l.map f) none (some (i : Nat)) = (l.take i).map f := by
  unfold cutD
  have s1 : HT.sIx (l.map f).length 0 none = 0 := rfl
  rw [s1, sIx_hi (by omega) (by rw [List.length_map]; omega), List.drop_zero, Nat.sub_zero, Int.toNat_natCast, List.map_take]
def t_l_fault : DTS := (dCut (dIf (dAnd (dTestB (dOp oNe (dOp oIx (dVar 0) (dC (.int 0))) (dC (.str "same")))) (dNot (dTru (dCall r_l_is_letter [] (dCons (dOp oIx (dVar 0) (dC (.int 1))) dNil))))) (dRet (dC (.int 0))) dNext) (dSeq (dFor (dRng1 (dCons (dCB (on1 lenD) (dCons (dOp oIx (dVar 0) (dC (.int 2))) dNil)) dNil)) (.nm 1) (dIf (dTru (dCall r_l_bad_part [] (dCons (dOp oIx (dOp oIx (dVar 0) (dC (.int 2))) (dVar 1)) (dCons (dSl oSl (dOp oIx (dVar 0) (dC (.int 2))) dNoPart (dPart (dVar 1))) dNil)))) (dRet (dOp oAdd (dVar 1) (dC (.int 1)))) dNext)) (dSeq (dIf (dOr (dTestB (dOp oLt (dOp oIx (dVar 0) (dC (.int 3))) (dC (.int 0)))) (dTestB (dOp oGt (dOp oIx (dVar 0) (dC (.int 3))) (dCB (on1 lenD) (dCons (dOp oIx (dVar 0) (dC (.int 2))) dNil))))) (dRet (dC (.int 0))) dNext) (dRet (dNeg (dC (.int 1)))))))
abbrev N_l_fault : List Str := ["_law_rule_here", "_law_k"]
@[irreducible] def r_l_fault : DSp := fun ds S Q _ => ∃ k st ps nd, ds = [rulT k st ps nd] ∧ knd k ∧ ps.length ≤ 1000 ∧ (∀ p ∈ ps, p.2.2.length ≤ 1000) ∧ Q (.int (faultF k st ps nd)) S
theorem len_l_fault : Ln 1 r_l_fault := fun ds S Q E h => by unfold r_l_fault at h; obtain ⟨k, st, ps, nd, rfl, _⟩ := h; rfl
theorem rd_l_fault : Rd t_l_fault N_l_fault r_l_fault := by
  intro ds S QD XD h
  unfold r_l_fault at h
  obtain ⟨k, st, ps, nd, rfl, hk, hl, hs, q⟩ := h
  unfold faultF at q
  have hz := sizeLine_eq
  conv => whnf
  refine ⟨fun δ S' => S' = S ∧ δ = [some (rulT k st ps nd), none] ∧ ¬ (k ≠ 4 ∧ stoneB st = false), ?_, ?_⟩
  · row_hasAll w_d
    rw [eqB_str, kind_same hk]
    by_cases h4 : k = 4
    · rw [decide_eq_true h4]
      row_hasAll w_d
      exact fun z => z.1 h4
    · rw [decide_eq_false h4]
      row_hasAll w_d
      refine i_letter ?_
      cases hst : stoneB st with
      | true =>
        row_hasAll w_d
        exact fun z => by simp at z
      | false =>
        rw [if_pos ⟨h4, hst⟩] at q
        row_hasAll w_d
        exact q
  rintro δ S' ⟨rfl, rfl, hc⟩
  rw [if_neg hc] at q
  row_hasAll w_d
  rw [List.length_map]
  refine ⟨by omega, ?_⟩
  refine loop_of (xs := List.range ((ps.length : Int) - 0).toNat) (g := fun i : Nat => D.int (0 + (i : Nat))) (fun l δ S2 => S2 = S' ∧ (∃ x, δ = [some (rulT k st ps nd), x]) ∧ ∃ i, l = List.range' i (ps.length - i) ∧ i ≤ ps.length ∧ badPF i ((ps.take i).map pk) (ps.drop i) = badP ps) ?_ ?_ ?_
  rotate_left 2
  · exact ⟨rfl, ⟨_, rfl⟩, 0, by rw [List.range_eq_range', Int.sub_zero, Int.toNat_natCast, Nat.sub_zero], Nat.zero_le _, rfl⟩
  · rintro j l δ S2 ⟨rfl, ⟨x, rfl⟩, i, el, hi, ec⟩
    have hlt : i < ps.length := by
      rcases Nat.lt_or_ge i ps.length with h | h
      · exact h
      · rw [show ps.length - i = 0 by omega] at el; cases el
    obtain ⟨m, hm⟩ : ∃ m, ps.length - i = m + 1 := ⟨ps.length - i - 1, by omega⟩
    rw [hm, List.range'_succ] at el
    simp only [List.cons.injEq] at el
    obtain ⟨rfl, rfl⟩ := el
    rw [List.drop_eq_getElem_cons hlt, badPF] at ec
    refine ⟨_, rfl, fun N hN => ?_⟩
    have hix : (ps.map prt)[(0 + ((j : Nat) : Int)).toNat]? = some (prt ps[j]) := by
      rw [Int.zero_add, Int.toNat_natCast, List.getElem?_map, List.getElem?_eq_getElem hlt]; rfl
    have ecut : cutD (ps.map prt) none (some (0 + (j : Nat))) = (ps.take j).map prt := by rw [Int.zero_add]; exact cutD_take prt (by omega)
    row_hasAll w_d
    refine ik_at (i := 0 + ((j : Nat) : Int)) (by omega) hix ?_
    row_hasAll w_d
    rw [ecut]
    refine i_badpart (by rw [List.length_take]; omega) (hs _ (List.getElem_mem hlt)) ?_
    unfold badB
    have hlt2 : (ps.take j).length = j := by rw [List.length_take]; omega
    rw [hlt2]
    by_cases hcc : 8 ≤ j ∨ offB ps[j].1 ps[j].2.1 = false ∨ pk ps[j] ∈ (ps.take j).map pk ∨ condB ps[j].2.2 = false
    · rw [if_pos hcc] at ec
      rw [decide_eq_true hcc]
      rw [← ec] at q
      row_hasAll w_d
      rw [Int.zero_add]
      exact q
    · rw [if_neg hcc] at ec
      rw [decide_eq_false hcc]
      row_hasAll w_d
      refine hN _ _ ⟨rfl, ⟨_, rfl⟩, j + 1, by congr 1; omega, hlt, ?_⟩
      rw [← ec, ← List.take_append_getElem hlt, List.map_append]
      rfl
  · rintro δ S2 ⟨rfl, ⟨x, rfl⟩, i, el, hi, ec⟩
    have ei : i = ps.length := by
      rcases Nat.lt_or_ge i ps.length with h | h
      · obtain ⟨m, hm⟩ : ∃ m, ps.length - i = m + 1 := ⟨ps.length - i - 1, by omega⟩
        rw [hm, List.range'_succ] at el; cases el
      · omega
    rw [ei, List.drop_eq_nil_of_le (Nat.le_refl _), badPF] at ec
    rw [← ec] at q
    row_hasAll w_d
    refine brP (fun h1 => ?_) (fun h1 => ?_)
    · row_hasAll w_d
      dsimp only at q
      rw [if_pos (.inl h1)] at q
      exact q
    row_hasAll w_d
    rw [List.length_map]
    refine brP (fun h2 => ?_) (fun h2 => ?_)
    · row_hasAll w_d
      dsimp only at q
      rw [if_pos (.inr h2)] at q
      exact q
    · row_hasAll w_d
      dsimp only at q
      rw [if_neg (fun z => z.elim h1 h2)] at q
      exact q
theorem i_fault {k : Nat} {st : Str} {ps : List Part} {nd : Int} {S : Sto} {Q : DQ} {X : XQ} (hk : knd k) (hl : ps.length ≤ 1000) (hs : ∀ p ∈ ps, p.2.2.length ≤ 1000) (q : Q (.int (faultF k st ps nd)) S) : r_l_fault [rulT k st ps nd] S Q X := by unfold r_l_fault; exact ⟨k, st, ps, nd, rfl, hk, hl, hs, q⟩
def outK (k : Nat) (st : Str) (ps : List Part) (nd : Int) : Option Nat := if k = 2 then ruleOut st ps else if k = 3 then countOut st ps nd else countOut "a" (placeP (ps.map pk)) nd
def partOf (k : Nat) (st : Str) (ps : List Part) (nd : Int) : Int := match outK k st ps nd with
  | some n => (n : Nat)
  | none => -1
end SM
--#ONETAC
namespace SM
open PySem PySem.Spec PyProof.Rows L2
end SM
--#ONETAC
namespace SM
open PySem PySem.Spec PyProof.Rows L2
set_option hygiene false in
local macro_rules | `(tactic| row_hasAll w_tail19) => `(tactic| (
  rw [eqB_str]
  refine brN (c := sgnAt rows (x + t.1) (y + t.2.1) = Str.ofString ".") (fun h3 => ?_) (fun h3 => ?_)
  · row_hasAll w_d
    cases h4 : inS (sgnAt rows (x + t.1) (y + t.2.1)) t.2.2 with
    | true =>
      row_hasAll w_d
      exact no (by simp [h4])
    | false =>
      row_hasAll w_d
      refine ⟨by rw [List.length_map, sizeLine_eq]; omega, ?_⟩
      exact yes (by simp [h3, h4, hf])
  · row_hasAll w_d
    exact no (by simp [h3])))
end SM
--#ONETAC
namespace SM
open PySem PySem.Spec PyProof.Rows L2
end SM
--#ONETAC
namespace SM
open PySem PySem.Spec PyProof.Rows L2
theorem inS_one (c : Nat) (s : Str) : inS (one c) s = decide (c ∈ s.cps.toList) := by
  unfold inS
  have e1 : (one c).cps.toList = [c] := rfl
  rw [e1]
theorem joinL_ones : ∀ l : List Nat, TL.joinL [] (l.map fun c => [c]) = l
  | [] => rfl
  | [c] => rfl
  | c :: d :: r => by
    show [c] ++ [] ++ TL.joinL [] ((d :: r).map fun c => [c]) = _
    rw [joinL_ones (d :: r)]
    rfl
theorem join_codes (l : List Nat) : (Txt.join "" (l.map one)).cps.toList = l := by
  have h := TL.tl_join (Str.ofString "") (l.map one)
  rw [← TL.join_eq] at h
  have e : TL.tl (Str.ofString "") = [] := rfl
  rw [e, List.map_map] at h
  exact h.trans (joinL_ones l)
theorem srtS_codes (s : Str) : (srtS s).cps.toList.Perm s.cps.toList := by
  unfold srtS
  rw [join_codes]
  exact List.mergeSort_perm ..
theorem pk_sortP (ps : List Part) : (sortP ps).map pk = roSort (ps.map pk) := by unfold sortP; rw [List.map_map]; exact List.map_id _
end SM
namespace SM
open PySem PySem.Spec PyProof.Rows L2
end SM
--#ONETAC
namespace SM
open PySem PySem.Spec PyProof.Rows L2
theorem vk_T3 {k : Nat} {st : Str} {ps : List Part} {nd : Int} {S : Sto} {r : DSp} {F : DSp → Prop} (hk : knd k) (h : F r) : vwk S (rul k st ps nd) (fun x' => tabK [(2, r), (3, r), (4, r)] x' F) := by
  rcases hk with rfl | rfl | rfl
  · exact vk_ins (tab_r rfl h)
  · exact vk_ins (tab_r rfl h)
  · exact vk_ins (tab_r rfl h)
end SM
namespace SM
open PySem PySem.Spec PyProof.Rows L2
theorem loop_en {q : Pat} {tb : DTS} {E : DEnds} {α : Type} {f : α → D} (ix : List Nat) (J : Nat → List α → DS → Sto → Prop) {δ0 δl : DS} {S0 : Sto} {xs : List α} {n : Nat} (hδ : δ0 = δl)
    (hs : ∀ i x r ws S, J i (x :: r) ws S → ∃ δ1, bindP q (.tup [.int (i : Nat), f x]) (sets δl ix ws) = some δ1 ∧ ∀ N : DS → Sto → Prop, (∀ δ2 S2, δ2 = sets δl ix (gets δ2 ix) → J (i + 1) r (gets δ2 ix) S2 → N δ2 S2) → tb { E with nx := N, ct := N, bk := E.nx } δ1 S)
    (hd : ∀ i ws S, J i [] ws S → E.nx (sets δl ix ws) S) (h : J n xs (gets δ0 ix) S0) : loopK none q tb E (enumD n (xs.map f)) δ0 S0 := by
  rw [enumD_map]
  refine loop_e (xs := xs.zipIdx n) (g := fun p : α × Nat => D.tup [.int (p.2 : Nat), f p.1]) ix (fun r ws S => ∃ i l, r = List.zipIdx l i ∧ J i l ws S) hδ ?_ ?_ ⟨n, xs, rfl, h⟩
  · rintro x r ws S ⟨i, l, e, hJ⟩
    cases l with
    | nil => cases e
    | cons y l =>
      rw [List.zipIdx_cons, List.cons.injEq] at e
      obtain ⟨rfl, rfl⟩ := e
      obtain ⟨δ1, e1, hN⟩ := hs i y l ws S hJ
      exact ⟨δ1, e1, fun N h => hN N fun δ2 S2 a h2 => h δ2 S2 a ⟨i + 1, l, rfl, h2⟩⟩
  · rintro ws S ⟨i, l, e, hJ⟩
    cases l with
    | nil => exact hd i ws S hJ
    | cons y l => rw [List.zipIdx_cons] at e; cases e
end SM
--#ONETAC
local macro_rules | `(tactic| row_hasAll w_c) => `(tactic| first
  | refine i_laysK ?_
  | refine i_slackK ?_
  | refine vk_lays (by row_hasAll w_side) ?_
  | refine vk_slack (by row_hasAll w_side) ?_
  | refine vk_T3 (by row_hasAll w_side) ?_)
namespace SM
open PySem PySem.Spec PyProof.Rows L2
def t_p_read_number : DTS := (dSeq (dSet 1 (dIfE (dTru (dBM .str startsD (dVar 0) (dCons (dC (.str "-")) dNil))) (dSl oSl (dVar 0) (dPart (dC (.int 1))) dNoPart) (dVar 0))) (dSeq (dIf (dOr (dTestB (dOp oNe (dCB (on1 lenD) (dCons (dVar 1) dNil)) (dC (.int 1)))) (dOr (dTestB (dOp oNotIn (dVar 1) (dC (.str "0123456789")))) (dTestB (dOp oEq (dVar 0) (dC (.str "-0")))))) (dRet (dC .non)) dNext) (dRet (dCB (on1 intD) (dCons (dVar 0) dNil)))))
abbrev N_p_read_number : List Str := ["word", "digits"]
@[irreducible] def r_p_read_number : DSp := fun ds S Q _ => ∃ w, ds = [.str w] ∧ w.length ≤ 640 ∧ Q (oID (rdNum w)) S
theorem len_p_read_number : Ln 1 r_p_read_number := fun ds S Q E h => by unfold r_p_read_number at h; obtain ⟨w, rfl, _⟩ := h; rfl
theorem rd_p_read_number : Rd t_p_read_number N_p_read_number r_p_read_number := by
  intro ds S QD XD h
  unfold r_p_read_number at h
  obtain ⟨w, rfl, hlen, q⟩ := h
  have em : Str.ofString "-" = one 45 := rfl
  have ez : Str.ofString "-0" = ⟨#[45, 48]⟩ := rfl
  unfold rdNum at q
  have cut : ∀ m : Nat, ∀ r : List Nat, w.cps.toList = m :: r → (cutS w (some 1) none).cps.toList = r := fun m r h => by
    rw [cutS_codes, h]
    have : w.length = r.length + 1 := by rw [← slen_codes, h]; rfl
    rw [this]
    show ((m :: r).drop (HT.sIx (r.length + 1) 0 (some 1))).take _ = r
    rw [sIx_hi (by decide) (by omega), HT.sIx_none]
    simp
  row_hasAll w_e
  rw [em, starts_one]
  cases hl : w.cps.toList with
  | nil =>
    rw [hl] at q
    have h0 : w.length = 0 := by rw [← slen_codes, hl]; rfl
    row_hasAll w_w
    rw [h0]
    row_hasAll w_w
    exact q
  | cons m r =>
    rw [hl] at q
    have hc := cut m r hl
    have hlen2 : w.length = r.length + 1 := by rw [← slen_codes, hl]; rfl
    have hcl : (cutS w (some 1) none).length = r.length := by rw [← slen_codes, hc]
    have eh : decide ((m :: r).head? = some 45) = decide (m = 45) := by simp
    rw [eh]
    by_cases hm : m = 45
    · rw [decide_eq_true hm]
      subst hm
      row_hasAll w_w
      rw [hcl]
      match r, hl, hc, hlen2, hcl with
      | [], _, _, _, _ =>
        row_hasAll w_w
        exact q
      | [c], hl, hc, _, _ =>
        have hw2 := str_of _ _ hl
        dsimp only at q
        row_hasAll w_w
        rw [str_of _ _ hc]
        show brn (!inS (one c) (Str.ofString "0123456789")) _ _
        rw [inS_one, digits_mem]
        refine brN (fun h => ?_) (fun h => ?_)
        · row_hasAll w_w
          rw [if_neg (by omega)] at q
          exact q
        · row_hasAll w_w
          rw [ez, hw2]
          refine brP (fun h2 => ?_) (fun h2 => ?_)
          · row_hasAll w_w
            have hc48 : c = 48 := by
              have := congrArg (fun z : Str => z.cps.toList) h2
              simpa using this
            rw [if_neg (by omega)] at q
            exact q
          · have hne : c ≠ 48 := fun e => h2 (by rw [e])
            rw [if_pos ⟨rfl, by omega⟩] at q
            row_hasAll w_w
            have e : PySem.intText? { cps := [45, c].toArray } = some (48 - (c : Int)) := int_neg (by omega)
            rw [e]
            row_hasAll w_w
            exact q
      | c :: d :: r2, _, _, _, _ =>
        rw [decide_eq_false (by simp only [List.length_cons]; omega)]
        row_hasAll w_w
        exact q
    · rw [decide_eq_false hm]
      row_hasAll w_w
      rw [hlen2]
      match r, hl, hc, hlen2, hcl with
      | [], hl, _, _, _ =>
        have hw2 := str_of _ _ hl
        dsimp only at q
        row_hasAll w_w
        rw [hw2]
        show brn (!inS (one m) (Str.ofString "0123456789")) _ _
        rw [inS_one, digits_mem]
        refine brN (fun h => ?_) (fun h => ?_)
        · row_hasAll w_w
          rw [if_neg h] at q
          exact q
        · row_hasAll w_w
          rw [if_pos h] at q
          have e : PySem.intText? { cps := [m].toArray } = some ((m : Int) - 48) := int_dig h
          rw [e]
          row_hasAll w_w
          exact q
      | c :: r2, _, _, _, _ =>
        rw [decide_eq_false (by simp only [List.length_cons]; omega)]
        row_hasAll w_w
        cases r2 with
        | nil =>
          dsimp only at q
          rw [if_neg (fun z => hm z.1)] at q
          exact q
        | cons => exact q
theorem i_number {w : Str} {S : Sto} {Q : DQ} {X : XQ} (hl : w.length ≤ 640) (q : Q (oID (rdNum w)) S) : r_p_read_number [.str w] S Q X := by unfold r_p_read_number; exact ⟨w, rfl, hl, q⟩
--#CALL refine i_number (by row_hasAll w_side) ?_
local macro_rules | `(tactic| row_hasAll w_c) => `(tactic| first
  | refine i_number (by row_hasAll w_side) ?_)
theorem par_mem {S0 : List Nat} (hS : S0 ≠ []) : ∀ {l acc p r : List Nat}, TL.par S0 acc l = some (p, r) → (p.length ≤ acc.length + l.length ∧ ∀ c ∈ p, c ∈ acc ∨ c ∈ l) ∧ (r.length ≤ l.length ∧ ∀ c ∈ r, c ∈ l)
  | [], acc, p, r, h => by cases h
  | c :: t, acc, p, r, h => by
    cases e : TL.pre S0 (c :: t) with
    | true =>
      rw [TL.par_hit e] at h
      cases h
      refine ⟨⟨by omega, fun x hx => .inl hx⟩, ?_, fun x hx => List.mem_of_mem_drop hx⟩
      rw [List.length_drop]
      omega
    | false =>
      rw [TL.par_miss e] at h
      obtain ⟨⟨h1, h2⟩, h3, h4⟩ := par_mem hS h
      refine ⟨⟨by simp at h1 ⊢; omega, fun x hx => ?_⟩, by simp; omega, fun x hx => List.mem_cons_of_mem _ (h4 x hx)⟩
      rcases h2 x hx with z | z
      · rcases List.mem_append.mp z with z | z
        · exact .inl z
        · rw [List.mem_singleton.mp z]; exact .inr (List.mem_cons_self ..)
      · exact .inr (List.mem_cons_of_mem _ z)
theorem part_ok {a b : Str} (hb : TL.tl b ≠ []) (hbo : okS b) (ha : okS a) : (okS (Txt.partition a b).1 ∧ okS (Txt.partition a b).2.1 ∧ okS (Txt.partition a b).2.2) ∧ (Txt.partition a b).1.length ≤ a.length ∧ (Txt.partition a b).2.2.length ≤ a.length := by
  rw [TL.partition_par a b hb]
  cases e : TL.par (TL.tl b) [] (TL.tl a) with
  | none => exact ⟨⟨ha, okS_empty, okS_empty⟩, Nat.le_refl _, Nat.zero_le _⟩
  | some pr =>
    obtain ⟨p, r⟩ := pr
    obtain ⟨⟨h1, h2⟩, h3, h4⟩ := par_mem hb e
    have l1 : (⟨p.toArray⟩ : Str).length ≤ a.length := by rw [len_tl a]; simpa [Str.length] using h1
    have l2 : (⟨r.toArray⟩ : Str).length ≤ a.length := by rw [len_tl a]; simpa [Str.length] using h3
    exact ⟨⟨okS_sub ha (fun c hc => (h2 c (by simpa using hc)).elim (fun z => nomatch z) id) l1, hbo, okS_sub ha (fun c hc => h4 c (by simpa using hc)) l2⟩, l1, l2⟩
theorem split_len {a b : Str} (hb : TL.tl b ≠ []) (hk : b.cps.all (· < 256) = true) : ∀ s ∈ Txt.split a b, s.length ≤ a.length := fun s hs => by
  have e := TL.split_spl a b hb (TL.kind_ok hk)
  have hm : TL.tl s ∈ TL.spl (TL.tl b) 0 [] (TL.tl a) := by rw [← e]; exact List.mem_map_of_mem hs
  have := (spl_mem hm).1
  rw [len_tl s, len_tl a]
  simpa using this
def rdPart (w : Str) (same : Bool) : Option Part := match Txt.split (Txt.partition w ":").1 "," with
  | [a, b] => (match rdNum a, rdNum b with
    | some x, some y => if same = true then (if (Txt.partition w ":").2.1 = "" then some (x, y, "a") else none) else (if (Txt.partition w ":").2.2 = "" then none else some (x, y, (Txt.partition w ":").2.2))
    | _, _ => none)
  | _ => none
def oPD (same : Bool) : Option Part → D
  | none => .non
  | some p => if same = true then pr (pk p) else prt p
def t_p_read_part : DTS := (dSeq (dUnp (.tp [(.nm 2), (.nm 3), (.nm 4)]) (dBM .str partD (dVar 0) (dCons (dC (.str ":")) dNil))) (dSeq (dSet 5 (dLc (dItems (dBM .str splitD (dVar 2) (dCons (dC (.str ",")) dNil))) (.nm 6) dYes (dCall r_p_read_number [] (dCons (dVar 6) dNil)) [6])) (dSeq (dIf (dOr (dTestB (dOp oNe (dCB (on1 lenD) (dCons (dVar 5) dNil)) (dC (.int 2)))) (dOr (dTestB (dOp oIs (dOp oIx (dVar 5) (dC (.int 0))) (dC .non))) (dTestB (dOp oIs (dOp oIx (dVar 5) (dC (.int 1))) (dC .non))))) (dRet (dC .non)) dNext) (dSeq (dIf (dTru (dVar 1)) (dRet (dIfE (dTestB (dOp oEq (dVar 3) (dC (.str "")))) (dTup (dCons (dOp oIx (dVar 5) (dC (.int 0))) (dCons (dOp oIx (dVar 5) (dC (.int 1))) dNil))) (dC .non))) dNext) (dRet (dIfE (dTestB (dOp oNe (dVar 4) (dC (.str "")))) (dTup (dCons (dOp oIx (dVar 5) (dC (.int 0))) (dCons (dOp oIx (dVar 5) (dC (.int 1))) (dCons (dVar 4) dNil)))) (dC .non)))))))
abbrev N_p_read_part : List Str := ["word", "is_same", "head", "colon", "signs", "numbers", "piece"]
@[irreducible] def r_p_read_part : DSp := fun ds S Q _ => ∃ w same, ds = [.str w, .bl same] ∧ w.length ≤ 600 ∧ okS w ∧ Q (oPD same (rdPart w same)) S
theorem len_p_read_part : Ln 2 r_p_read_part := fun ds S Q E h => by unfold r_p_read_part at h; obtain ⟨w, s, rfl, _⟩ := h; rfl
theorem rd_p_read_part : Rd t_p_read_part N_p_read_part r_p_read_part := by
  intro ds S QD XD h
  unfold r_p_read_part at h
  obtain ⟨w, same, rfl, hl, ok, q⟩ := h
  have hz := sizeLine_eq
  obtain ⟨po, pl1, pl2⟩ := part_ok (a := w) (b := ":") (by decide +kernel) ⟨by rw [sizeLine_eq]; exact Nat.le_of_ble_eq_true rfl, by decide +kernel⟩ ok
  unfold rdPart at q
  row_hasAll w_e
  generalize Txt.partition w ":" = pt at *
  obtain ⟨hd, co, sg⟩ := pt
  dsimp only at *
  obtain ⟨s1, s2⟩ := split_ok (a := hd) (b := ",") po.1 (by decide +kernel) (by decide +kernel)
  have s3 := split_len (a := hd) (b := ",") (by decide +kernel) (by decide +kernel)
  refine ⟨⟨by decide +kernel, by omega⟩, ⟨s1, by omega⟩, ?_⟩
  row_hasAll w_e
  generalize Txt.split hd "," = ws at *
  refine lk_map (xs := ws) (g := D.str) (f := fun s => oID (rdNum s)) (fun s hs => ⟨_, rfl, fun Q' h => ?_⟩) ?_
  · have := s3 s hs
    row_hasAll w_w
    exact h
  match ws with
  | [] =>
    row_hasAll w_w
    exact q
  | [a] =>
    row_hasAll w_w
    exact q
  | a :: b :: c :: r =>
    row_hasAll w_w
    exact q
  | [a, b] =>
    have em : List.map (fun s => oID (rdNum s)) [a, b] = [oID (rdNum a), oID (rdNum b)] := rfl
    rw [em]
    dsimp only at q
    cases ea : rdNum a with
    | none =>
      rw [ea] at q
      row_hasAll w_w
      exact q
    | some x =>
      cases eb : rdNum b with
      | none =>
        rw [ea, eb] at q
        row_hasAll w_w
        exact q
      | some y =>
        rw [ea, eb] at q
        dsimp only at q
        row_hasAll w_w
        cases same with
        | true =>
          rw [if_pos rfl] at q
          row_hasAll w_w
          refine brP (fun h => ?_) (fun h => ?_)
          · rw [if_pos h] at q
            row_hasAll w_w
            exact q
          · rw [if_neg h] at q
            row_hasAll w_w
            exact q
        | false =>
          rw [if_neg (by decide)] at q
          row_hasAll w_w
          refine brN (fun h => ?_) (fun h => ?_)
          · rw [if_neg h] at q
            row_hasAll w_w
            exact q
          · rw [if_pos h] at q
            row_hasAll w_w
            exact q
theorem i_part {w : Str} {same : Bool} {S : Sto} {Q : DQ} {X : XQ} (hl : w.length ≤ 600) (ok : okS w) (q : Q (oPD same (rdPart w same)) S) : r_p_read_part [.str w, .bl same] S Q X := by unfold r_p_read_part; exact ⟨w, same, rfl, hl, ok, q⟩
--#CALL refine i_part (by row_hasAll w_side) (by assumption) ?_
end SM
--#ONETAC
local macro_rules | `(tactic| row_hasAll w_c) => `(tactic| first
  | refine i_number (by row_hasAll w_side) ?_
  | refine i_part (by row_hasAll w_side) (by assumption) ?_)
namespace SM
open PySem PySem.Spec PyProof.Rows L2
def dig1 (w : Str) : Option Int := match w.cps.toList with
  | [c] => if 48 ≤ c ∧ c ≤ 57 then some ((c : Int) - 48) else none
  | _ => none
def rdPF (same : Bool) : Nat → List Str → Nat ⊕ List Part
  | _, [] => .inr []
  | i, w :: r => match rdPart w same with
    | none => .inl (i + 1)
    | some p => (match rdPF same (i + 1) r with
      | .inl n => .inl n
      | .inr ps => .inr (p :: ps))
def rdLine (line : Str) : Nat ⊕ (Nat × Str × List Part × Int) := match Txt.split line " " with
  | w0 :: w1 :: ws => if ¬ (w0 = "same" ∨ stoneB w0 = true) then .inl 0 else
    if (w1 ≠ "all" ∨ w0 = "same") ∧ dig1 w1 = none then .inl 0 else
    (match rdPF (decide (w0 = "same")) 0 ws with
      | .inl n => .inl n
      | .inr ps => .inr (if w0 = "same" then 4 else if w1 = "all" then 2 else 3, w0, ps, (dig1 w1).getD 0))
  | _ => .inl 0
theorem rdPart_len {w : Str} {same : Bool} {p : Part} (h : rdPart w same = some p) (hk : okS w) : p.2.2.length ≤ w.length + 1 := by
  have pl := (part_ok (a := w) (b := ":") (by decide +kernel) ⟨by rw [sizeLine_eq]; exact Nat.le_of_ble_eq_true rfl, by decide +kernel⟩ hk).2.2
  unfold rdPart at h
  split at h
  · split at h
    · split at h
      · split at h
        · cases h; show 1 ≤ w.length + 1; omega
        · cases h
      · split at h
        · cases h
        · cases h; show (Txt.partition w ":").2.2.length ≤ _; omega
    · cases h
  · cases h
theorem split_ne (a b : Str) (hb : TL.tl b ≠ []) (hk : b.cps.all (· < 256) = true) : Txt.split a b ≠ [] := fun h => by
  have e := TL.split_spl a b hb (TL.kind_ok hk)
  rw [h] at e
  have : ∀ (l acc : List Nat) (k : Nat), TL.spl (TL.tl b) k acc l ≠ [] := by
    intro l
    induction l with
    | nil => intro acc k; rw [TL.spl_nil]; simp
    | cons c r ih =>
      intro acc k
      cases k with
      | zero =>
        cases e : TL.pre (TL.tl b) (c :: r) with
        | true => rw [TL.spl_hit e]; simp
        | false => rw [TL.spl_miss e]; exact ih _ _
      | succ k => exact ih _ _
  exact this _ _ _ e.symm
theorem dig1_of {w : Str} {v : Int} (h : dig1 w = some v) : ∃ c, w = one c ∧ (48 ≤ c ∧ c ≤ 57) ∧ v = (c : Int) - 48 := by
  unfold dig1 at h
  split at h
  · rename_i c hc
    split at h
    · rename_i h2
      cases h
      exact ⟨c, str_of _ _ hc, h2, rfl⟩
    · cases h
  · cases h
def partD2 (same : Bool) (p : Part) : D := if same = true then pr (pk p) else prt p
set_option hygiene false in
local macro_rules | `(tactic| row_hasAll w_need26) => `(tactic| (
  by_cases hl1 : w1.cps.toList.length = 1
  · have hl2 : decide ((w1.length : Int) = 1) = true := decide_eq_true (by rw [slen_codes] at hl1; omega)
    rw [hl2]
    row_hasAll w_w
    cases hin : inS w1 (Str.ofString "0123456789") with
    | false =>
      have hn : dig1 w1 = none := by
        cases hd1 : dig1 w1 with
        | none => rfl
        | some v => have := ((hd w1).mpr ⟨v, hd1⟩).2; rw [hin] at this; cases this
      row_hasAll w_w
      exact hr hn hcond
    | true =>
      obtain ⟨v, hv⟩ := (hd w1).mp ⟨hl1, hin⟩
      row_hasAll w_w
      exact fun z => by rw [hv] at z; cases z.2
  · have hl2 : decide ((w1.length : Int) = 1) = false := decide_eq_false (by rw [slen_codes] at hl1; omega)
    have hn : dig1 w1 = none := by
      cases hd1 : dig1 w1 with
      | none => rfl
      | some v => exact absurd ((hd w1).mpr ⟨v, hd1⟩).1 hl1
    rw [hl2]
    row_hasAll w_w
    exact hr hn hcond))
def t_p_read_rule : DTS := (dSeq (dSet 1 (dBM .str splitD (dVar 0) (dCons (dC (.str " ")) dNil))) (dSeq (dSet 2 (dOp oEq (dOp oIx (dVar 1) (dC (.int 0))) (dC (.str "same")))) (dCut (dIf (dOr (dTestB (dOp oLt (dCB (on1 lenD) (dCons (dVar 1) dNil)) (dC (.int 2)))) (dNot (dOr (dTru (dVar 2)) (dTru (dCall r_p_is_stone [] (dCons (dOp oIx (dVar 1) (dC (.int 0))) dNil)))))) (dRaise 22 (dCons (dC (.int 0)) dNil)) dNext) (dSeq (dSet 3 (dOp oIx (dVar 1) (dC (.int 1)))) (dCut (dIf (dAnd (dOr (dTestB (dOp oNe (dVar 3) (dC (.str "all")))) (dTru (dVar 2))) (dOr (dTestB (dOp oNe (dCB (on1 lenD) (dCons (dVar 3) dNil)) (dC (.int 1)))) (dTestB (dOp oNotIn (dVar 3) (dC (.str "0123456789")))))) (dRaise 22 (dCons (dC (.int 0)) dNil)) dNext) (dSeq (dSet 4 (dLstO dNil)) (dSeq (dFor (dEnum (dCons (dSl oSl (dVar 1) (dPart (dC (.int 2))) dNoPart) dNil)) (.tp [(.nm 5), (.nm 6)]) (dSeq (dSet 7 (dCall r_p_read_part [] (dCons (dVar 6) (dCons (dVar 2) dNil)))) (dSeq (dIf (dTestB (dOp oIs (dVar 7) (dC .non))) (dRaise 22 (dCons (dOp oAdd (dVar 5) (dC (.int 1))) dNil)) dNext) (dDrop (dBM .lst appD (dVar 4) (dCons (dVar 7) dNil)))))) (dSeq (dIf (dTru (dVar 2)) (dRet (dMake mkF 4 r_SameRule_init [] (dCons (dVar 4) (dCons (dCB (on1 intD) (dCons (dVar 3) dNil)) dNil)))) dNext) (dSeq (dIf (dTestB (dOp oEq (dVar 3) (dC (.str "all")))) (dRet (dMake mkF 2 r_Rule_init [] (dCons (dOp oIx (dVar 1) (dC (.int 0))) (dCons (dVar 4) dNil)))) dNext) (dRet (dMake mkF 3 r_CountRule_init [] (dCons (dOp oIx (dVar 1) (dC (.int 0))) (dCons (dVar 4) (dCons (dCB (on1 intD) (dCons (dVar 3) dNil)) dNil))))))))))))))
abbrev N_p_read_rule : List Str := ["line", "words", "is_same", "need", "parts", "at", "word", "part"]
@[irreducible] def r_p_read_rule : DSp := fun ds S Q X => ∃ line, ds = [.str line] ∧ line.length ≤ 500 ∧ okS line ∧ ∀ S', Grow S S' → match rdLine line with
  | .inl n => X ⟨22, [.int (n : Nat)]⟩ S'
  | .inr (k, st, ps, nd) => (match outK k st ps nd with
    | none => Q (mrul k st ps nd) S'
    | some n => X ⟨22, [.int (n : Nat)]⟩ S')
theorem len_p_read_rule : Ln 1 r_p_read_rule := fun ds S Q E h => by unfold r_p_read_rule at h; obtain ⟨w, rfl, _⟩ := h; rfl
theorem rd_p_read_rule : Rd t_p_read_rule N_p_read_rule r_p_read_rule := by
  intro ds S QD XD h
  unfold r_p_read_rule at h
  obtain ⟨line, rfl, hl, ok, q⟩ := h
  have hz := sizeLine_eq
  obtain ⟨s1, s2⟩ := split_ok (a := line) (b := " ") ok (by decide +kernel) (by decide +kernel)
  have s3 := split_len (a := line) (b := " ") (by decide +kernel) (by decide +kernel)
  have s4 := split_ne line " " (by decide +kernel) (by decide +kernel)
  unfold rdLine at q
  row_hasAll w_e
  refine ⟨⟨by decide +kernel, by omega⟩, ⟨s1, by omega⟩, ?_⟩
  generalize Txt.split line " " = ws at *
  cases ws with
  | nil => exact absurd rfl s4
  | cons w0 ws =>
  row_hasAll w_w
  refine cut_e [] (fun _ S' => S = S' ∧ ∃ w1 r, ws = w1 :: r ∧ (w0 = "same" ∨ stoneB w0 = true)) (by row_hasAll w_env) ?_ ?_
  · cases ws with
    | nil =>
      row_hasAll w_w
      exact q _ (Grow.refl _)
    | cons w1 ws =>
      row_hasAll w_w
      refine brP (fun h => ?_) (fun h => ?_)
      · row_hasAll w_w
        exact ⟨_, _, rfl, .inl h⟩
      · row_hasAll w_w
        cases hs : stoneB w0 with
        | true =>
          row_hasAll w_w
          exact ⟨_, _, rfl, .inr (by first | trivial | rfl)⟩
        | false =>
          dsimp only at q
          rw [if_pos (by simp [hs]; exact h)] at q
          row_hasAll w_w
          exact q _ (Grow.refl _)
  rintro _ _ ⟨rfl, w1, r, rfl, h0⟩
  dsimp only at q
  rw [if_neg (fun z => z h0)] at q
  row_hasAll w_w
  have hd : ∀ s : Str, (s.cps.toList.length = 1 ∧ inS s (Str.ofString "0123456789") = true) ↔ ∃ v, dig1 s = some v := fun s => by
    constructor
    · rintro ⟨h1, h2⟩
      obtain ⟨c, hc⟩ := List.length_eq_one_iff.mp h1
      have hw := str_of _ _ hc
      subst hw
      have : inS (one c) (Str.ofString "0123456789") = true := h2
      rw [inS_one, digits_mem] at this
      have h3 := of_decide_eq_true this
      exact ⟨(c : Int) - 48, by unfold dig1; exact if_pos h3⟩
    · rintro ⟨v, hv⟩
      obtain ⟨c, rfl, hc, _⟩ := dig1_of hv
      exact ⟨rfl, by rw [inS_one, digits_mem]; exact decide_eq_true hc⟩
  refine cut_e [] (fun _ S' => S = S' ∧ ¬ ((w1 ≠ "all" ∨ w0 = "same") ∧ dig1 w1 = none)) (by row_hasAll w_env) ?_ ?_
  · have hr : dig1 w1 = none → (w1 ≠ "all" ∨ w0 = "same") → XD ⟨22, [.int (0 : Nat)]⟩ S := fun h1 h2 => by
      rw [if_pos ⟨h2, h1⟩] at q
      exact q _ (Grow.refl _)
    row_hasAll w_w
    refine brN (fun ha => ?_) (fun ha => ?_)
    · have hcond : w1 ≠ "all" ∨ w0 = "same" := .inl ha
      row_hasAll w_w
      row_hasAll w_need26
    · row_hasAll w_w
      refine brP (fun hb => ?_) (fun hb => ?_)
      · have hcond : w1 ≠ "all" ∨ w0 = "same" := .inr hb
        row_hasAll w_w
        row_hasAll w_need26
      · row_hasAll w_w
        exact fun z => z.1.elim (fun y => y ha) hb
  rintro _ _ ⟨rfl, h1⟩
  rw [if_neg h1] at q
  row_hasAll w_w
  intro p hp
  row_hasAll w_w
  have ec : cutD (List.map D.str (w0 :: w1 :: r)) (some 2) none = r.map D.str := by
    unfold cutD
    rw [HT.sIx_none, sIx_hi (by decide) (by simp only [List.length_map, List.length_cons]; omega)]
    simp
    exact List.take_of_length_le (by simp)
  rw [ec]
  have hsp : ∀ w ∈ r, w.length ≤ 500 ∧ okS w := fun w hw => ⟨Nat.le_trans (s3 w (List.mem_cons_of_mem _ (List.mem_cons_of_mem _ hw))) hl, s1 w (List.mem_cons_of_mem _ (List.mem_cons_of_mem _ hw))⟩
  have hrl : r.length ≤ 500 := by simp only [List.length_cons] at s2; omega
  generalize hsm : decide (w0 = "same") = sm at q
  refine loop_en [5, 6, 7] (fun i rest ws S' => ∃ w5 w6 w7 ps, ws = [w5, w6, w7] ∧ S' = su S p (.lst (List.map (partD2 sm) ps)) ∧ (rdPF sm 0 r = match rdPF sm i rest with | .inl n => .inl n | .inr ps' => .inr (ps ++ ps')) ∧ ps.length + rest.length = r.length ∧ (∀ w ∈ rest, w ∈ r) ∧ ∀ x ∈ ps, x.2.2.length ≤ 501) (by row_hasAll w_env) ?_ ?_ ⟨_, _, _, [], rfl, rfl, by cases rdPF sm 0 r <;> rfl, by simp, fun w h => h, by simp⟩
  · rintro i w rest _ _ ⟨w5, w6, w7, ps, rfl, rfl, he, hle, hm, hps⟩
    refine ⟨_, rfl, fun N hN => ?_⟩
    obtain ⟨hwl, hwo⟩ := hsp w (hm w (List.mem_cons_self ..))
    rw [rdPF] at he
    simp only [List.length_cons] at hle
    row_hasAll w_w
    cases hp2 : rdPart w sm with
    | none =>
      rw [hp2] at he
      dsimp only at he
      rw [he] at q
      row_hasAll w_w
      have hi : ((i + 1 : Nat) : Int) = (i : Int) + 1 := by omega
      have := q _ (Grow.new (o := .lst (List.map (partD2 sm) ps)) hp)
      dsimp only at this
      rw [hi] at this
      exact this
    | some x =>
      rw [hp2] at he
      dsimp only at he
      have hx := rdPart_len hp2 hwo
      have fin : ∀ δ2, δ2 = sets [some (D.str line), some (D.lst (List.map D.str (w0 :: w1 :: r))), some (D.bl sm), some (D.str w1), some (D.adr p), none, none, none] [5, 6, 7] (gets δ2 [5, 6, 7]) → N δ2 (su S p (.lst (List.map (partD2 sm) ps ++ [partD2 sm x]))) := fun δ2 hδ => by
        refine hN δ2 _ hδ ⟨_, _, _, ps ++ [x], rfl, by rw [List.map_append]; rfl, ?_, by rw [List.length_append]; show ps.length + 1 + _ = _; omega, fun w h => hm w (List.mem_cons_of_mem _ h), fun y hy => ?_⟩
        · rw [he]
          cases rdPF sm (i + 1) rest with
          | inl n => rfl
          | inr l => dsimp only; rw [List.append_assoc]; rfl
        · rcases List.mem_append.mp hy with h | h
          · exact hps y h
          · rw [List.mem_singleton.mp h]; omega
      cases sm with
      | true =>
        row_hasAll w_w
        exact fin _ (by row_hasAll w_env)
      | false =>
        row_hasAll w_w
        exact fin _ (by row_hasAll w_env)
  rintro i _ _ ⟨w5, w6, w7, ps, rfl, rfl, he, hle, hm, hps⟩
  rw [rdPF] at he
  dsimp only at he
  rw [List.append_nil] at he
  rw [he] at q
  dsimp only at q
  have hpl : ps.length ≤ 500 := by simp only [List.length_nil] at hle; omega
  have hg : ∀ S', Grow (su S p (.lst (List.map (partD2 sm) ps))) S' → Grow S S' := fun S' h => (Grow.new hp).trans h
  cases sm with
  | true =>
    have hw0 := of_decide_eq_true hsm
    have hdg : ∃ v, dig1 w1 = some v := by
      cases hd1 : dig1 w1 with
      | none => exact absurd ⟨.inr hw0, hd1⟩ h1
      | some v => exact ⟨v, rfl⟩
    obtain ⟨v, hv⟩ := hdg
    obtain ⟨c, rfl, hc, rfl⟩ := dig1_of hv
    rw [hv, if_pos hw0] at q
    row_hasAll w_w
    rw [int_dig hc]
    row_hasAll w_w
    refine mk_same (cs := ps.map pk) (.inr ⟨p, rfl, by rw [su_same, List.map_map]; rfl⟩) (by rw [List.length_map]; omega) fun S' hS' => ?_
    have := q S' (hg S' hS')
    unfold outK mrul at this
    exact this
  | false =>
    have hw0 := of_decide_eq_false hsm
    rw [if_neg hw0] at q
    row_hasAll w_w
    refine brP (fun ha => ?_) (fun ha => ?_)
    · rw [if_pos ha] at q
      row_hasAll w_w
      refine mk_rule (ps := ps) (.inr ⟨p, rfl, su_same⟩) (by omega) (fun x hx => by have := hps x hx; omega) fun S' hS' => ?_
      have := q S' (hg S' hS')
      unfold outK mrul at this
      exact this
    · have hdg : ∃ v, dig1 w1 = some v := by
        cases hd1 : dig1 w1 with
        | none => exact absurd ⟨.inl ha, hd1⟩ h1
        | some v => exact ⟨v, rfl⟩
      obtain ⟨v, hv⟩ := hdg
      obtain ⟨c, rfl, hc, rfl⟩ := dig1_of hv
      rw [hv, if_neg ha] at q
      row_hasAll w_w
      rw [int_dig hc]
      row_hasAll w_w
      refine mk_count (ps := ps) (.inr ⟨p, rfl, su_same⟩) (by omega) (fun x hx => by have := hps x hx; omega) fun S' hS' => ?_
      have := q S' (hg S' hS')
      unfold outK mrul at this
      exact this
theorem i_read_rule {line : Str} {S : Sto} {Q : DQ} {X : XQ} (hl : line.length ≤ 500) (ok : okS line) (q : ∀ S', Grow S S' → match rdLine line with
  | .inl n => X ⟨22, [.int (n : Nat)]⟩ S'
  | .inr (k, st, ps, nd) => (match outK k st ps nd with
    | none => Q (mrul k st ps nd) S'
    | some n => X ⟨22, [.int (n : Nat)]⟩ S')) : r_p_read_rule [.str line] S Q X := by unfold r_p_read_rule; exact ⟨line, rfl, hl, ok, q⟩
end SM
--#ONETAC
namespace SM
open PySem PySem.Spec PyProof.Rows L2
def wordT (same : Bool) (p : Part) : Str := if same = true then cellT (pk p) else cellT (pk p) ++ ":" ++ p.2.2
def headT (k : Nat) (st : Str) (nd : Int) : List Str := if k = 4 then ["same", (toString nd : Str)] else if k = 2 then [st, "all"] else [st, (toString nd : Str)]
def lineT (k : Nat) (st : Str) (ps : List Part) (nd : Int) : Str := Txt.join " " (headT k st nd ++ ps.map (wordT (decide (k = 4))))
structure SmP (st : Str) (ps : List Part) (nd : Int) : Prop where
  st : st.length ≤ 10
  le : ps.length ≤ 8
  ok : ∀ p ∈ ps, offB p.1 p.2.1 = true ∧ p.2.2.length ≤ 30
  n0 : 0 ≤ nd
  n8 : nd ≤ 8
theorem num_len {i : Int} (h : -8 ≤ i ∧ i ≤ 8) : (Str.ofString (toString i)).length ≤ 2 := by
  have : i = -8 ∨ i = -7 ∨ i = -6 ∨ i = -5 ∨ i = -4 ∨ i = -3 ∨ i = -2 ∨ i = -1 ∨ i = 0 ∨ i = 1 ∨ i = 2 ∨ i = 3 ∨ i = 4 ∨ i = 5 ∨ i = 6 ∨ i = 7 ∨ i = 8 := by omega
  rcases this with rfl | rfl | rfl | rfl | rfl | rfl | rfl | rfl | rfl | rfl | rfl | rfl | rfl | rfl | rfl | rfl | rfl <;> decide +kernel
theorem num_log {i : Int} (h : -8 ≤ i ∧ i ≤ 8) : i.natAbs.log2 < 1920 := by
  have : i = -8 ∨ i = -7 ∨ i = -6 ∨ i = -5 ∨ i = -4 ∨ i = -3 ∨ i = -2 ∨ i = -1 ∨ i = 0 ∨ i = 1 ∨ i = 2 ∨ i = 3 ∨ i = 4 ∨ i = 5 ∨ i = 6 ∨ i = 7 ∨ i = 8 := by omega
  rcases this with rfl | rfl | rfl | rfl | rfl | rfl | rfl | rfl | rfl | rfl | rfl | rfl | rfl | rfl | rfl | rfl | rfl <;> decide +kernel
theorem off_num {x y : Int} (h : offB x y = true) : (-8 ≤ x ∧ x ≤ 8) ∧ (-8 ≤ y ∧ y ≤ 8) := by
  have h2 := of_decide_eq_true h
  omega
theorem cellT_len {c : Cell} (h : offB c.1 c.2 = true) : (cellT c).length ≤ 5 := by
  have l1 := num_len (off_num h).1
  have l2 := num_len (off_num h).2
  have e1 : (Str.ofString ",").length = 1 := rfl
  unfold cellT
  rw [slen_app, slen_app, e1]
  omega
theorem wordT_len {same : Bool} {p : Part} (h : offB p.1 p.2.1 = true) (hl : p.2.2.length ≤ 30) : (wordT same p).length ≤ 36 := by
  have h1 := cellT_len (c := pk p) h
  have e1 : (Str.ofString ":").length = 1 := rfl
  unfold wordT
  split
  · omega
  · rw [slen_app, slen_app, e1]
    omega
theorem headT_len {k : Nat} {st : Str} {nd : Int} (hs : st.length ≤ 10) (h0 : 0 ≤ nd) (h8 : nd ≤ 8) : ∀ w ∈ headT k st nd, w.length ≤ 10 := fun w hw => by
  have l := num_len (i := nd) (by omega)
  have e1 : (Str.ofString "same").length = 4 := rfl
  have e2 : (Str.ofString "all").length = 3 := rfl
  unfold headT at hw
  split at hw
  · simp only [List.mem_cons, List.not_mem_nil, or_false] at hw
    rcases hw with rfl | rfl <;> omega
  · split at hw
    · simp only [List.mem_cons, List.not_mem_nil, or_false] at hw
      rcases hw with rfl | rfl <;> omega
    · simp only [List.mem_cons, List.not_mem_nil, or_false] at hw
      rcases hw with rfl | rfl <;> omega
theorem words_sum {k : Nat} {st : Str} {ps : List Part} {nd : Int} (h : SmP st ps nd) (b : Bool) : ((headT k st nd ++ ps.map (wordT b)).map (·.length)).sum + (headT k st nd ++ ps.map (wordT b)).length * 1 ≤ 370 := by
  have hh : (headT k st nd).length = 2 := by unfold headT; split; rfl; split <;> rfl
  have s1 := sum_le (fun s : Str => s.length) 10 (headT k st nd) (headT_len h.st h.n0 h.n8)
  have s2 := sum_le (fun s : Str => s.length) 36 (ps.map (wordT b)) (fun x hx => by
    obtain ⟨p, hp, rfl⟩ := List.mem_map.mp hx
    exact wordT_len (h.ok p hp).1 (h.ok p hp).2)
  have hl := h.le
  rw [List.map_append, List.sum_append, List.length_append, hh]
  rw [List.length_map] at s2 ⊢
  rw [hh] at s1
  omega
theorem lineT_len {k : Nat} {st : Str} {ps : List Part} {nd : Int} (h : SmP st ps nd) : (lineT k st ps nd).length ≤ 370 := by
  have := words_sum (k := k) h (decide (k = 4))
  unfold lineT
  rw [TL.join_eq]
  refine Nat.le_trans (PySem.StrLaws.join_length_le _ _) ?_
  have e1 : (Str.ofString " ").length = 1 := rfl
  rw [e1]
  exact this
set_option hygiene false in
local macro_rules | `(tactic| row_hasAll w_word27) => `(tactic| (
  obtain ⟨ho, hsl⟩ := h.ok x hx
  have hz := sizeLine_eq
  obtain ⟨n1, n2⟩ := off_num ho
  have l1 := num_len n1
  have l2 := num_len n2
  have e0 : Str.empty.length = 0 := rfl
  have e1 : (Str.ofString ",").length = 1 := rfl
  have e2 : (Str.ofString ":").length = 1 := rfl
  have g1 := num_log n1
  have g2 := num_log n2
  have a1 := slen_app Str.empty (Str.ofString (toString x.1))
  have a2 := slen_app (Str.empty ++ Str.ofString (toString x.1)) (Str.ofString ",")
  have a3 := slen_app (Str.empty ++ Str.ofString (toString x.1) ++ Str.ofString ",") (Str.ofString (toString x.2.1))
  have a4 := slen_app (Str.empty ++ Str.ofString (toString x.1) ++ Str.ofString "," ++ Str.ofString (toString x.2.1)) (Str.ofString ":")
  row_hasAll w_w
  rw [sempty_app]
  exact hh))
end SM
--#ONETAC
local macro_rules | `(tactic| row_hasAll w_c) => `(tactic| first
  | refine i_writtenK (by assumption) ?_
  | refine vk_written (by row_hasAll w_side) ?_)
namespace SM
open PySem PySem.Spec PyProof.Rows L2
theorem num_codes {i : Int} (h : -8 ≤ i ∧ i ≤ 8) : ∀ c ∈ (Str.ofString (toString i)).cps.toList, c = 45 ∨ (48 ≤ c ∧ c ≤ 57) := by
  have : i = -8 ∨ i = -7 ∨ i = -6 ∨ i = -5 ∨ i = -4 ∨ i = -3 ∨ i = -2 ∨ i = -1 ∨ i = 0 ∨ i = 1 ∨ i = 2 ∨ i = 3 ∨ i = 4 ∨ i = 5 ∨ i = 6 ∨ i = 7 ∨ i = 8 := by omega
  rcases this with rfl | rfl | rfl | rfl | rfl | rfl | rfl | rfl | rfl | rfl | rfl | rfl | rfl | rfl | rfl | rfl | rfl <;> decide +kernel
theorem num_back {i : Int} (h : -8 ≤ i ∧ i ≤ 8) : rdNum (Str.ofString (toString i)) = some i := by
  have : i = -8 ∨ i = -7 ∨ i = -6 ∨ i = -5 ∨ i = -4 ∨ i = -3 ∨ i = -2 ∨ i = -1 ∨ i = 0 ∨ i = 1 ∨ i = 2 ∨ i = 3 ∨ i = 4 ∨ i = 5 ∨ i = 6 ∨ i = 7 ∨ i = 8 := by omega
  rcases this with rfl | rfl | rfl | rfl | rfl | rfl | rfl | rfl | rfl | rfl | rfl | rfl | rfl | rfl | rfl | rfl | rfl <;> decide +kernel
theorem dig_back {i : Int} (h : 0 ≤ i ∧ i ≤ 8) : dig1 (Str.ofString (toString i)) = some i := by
  have : i = 0 ∨ i = 1 ∨ i = 2 ∨ i = 3 ∨ i = 4 ∨ i = 5 ∨ i = 6 ∨ i = 7 ∨ i = 8 := by omega
  rcases this with rfl | rfl | rfl | rfl | rfl | rfl | rfl | rfl | rfl <;> decide +kernel
theorem cellT_codes {c : Cell} (h : offB c.1 c.2 = true) : ∀ x ∈ (cellT c).cps.toList, x = 44 ∨ x = 45 ∨ (48 ≤ x ∧ x ≤ 57) := fun x hx => by
  unfold cellT at hx
  rw [app_codes, app_codes] at hx
  obtain ⟨n1, n2⟩ := off_num h
  rcases List.mem_append.mp hx with hx | hx
  · rcases List.mem_append.mp hx with hx | hx
    · exact .inr (num_codes n1 x hx)
    · have : x = 44 := by simpa using (show x ∈ [44] from hx)
      exact .inl this
  · exact .inr (num_codes n2 x hx)
theorem cellT_split {c : Cell} (h : offB c.1 c.2 = true) : Txt.split (cellT c) "," = [Str.ofString (toString c.1), Str.ofString (toString c.2)] := by
  obtain ⟨n1, n2⟩ := off_num h
  have e : cellT c = Txt.join "," [Str.ofString (toString c.1), Str.ofString (toString c.2)] := by rw [TL.join_eq]; rfl
  rw [e]
  refine TL.split_join (s := 44) (S := []) rfl (by decide +kernel) (by simp) fun p hp hc => ?_
  simp only [List.mem_cons, List.not_mem_nil, or_false] at hp
  rcases hp with rfl | rfl
  · have := num_codes n1 44 hc; omega
  · have := num_codes n2 44 hc; omega
theorem word_back {p : Part} (h : offB p.1 p.2.1 = true) (hs : p.2.2 ≠ "") : rdPart (wordT false p) false = some p := by
  have hc := cellT_codes (c := pk p) h
  have e : Txt.partition (wordT false p) ":" = (cellT (pk p), Str.ofString ":", p.2.2) := TL.partition_app (s := 58) (S := []) rfl fun z => by have := hc 58 z; omega
  unfold rdPart
  rw [e]
  dsimp only
  rw [cellT_split (c := pk p) h]
  dsimp only [pk]
  rw [num_back (off_num h).1, num_back (off_num h).2]
  dsimp only
  rw [if_neg (by decide), if_neg hs]
theorem word_backS {p : Part} (h : offB p.1 p.2.1 = true) : rdPart (wordT true p) true = some (p.1, p.2.1, Str.ofString "a") := by
  have hc := cellT_codes (c := pk p) h
  have e : Txt.partition (wordT true p) ":" = (cellT (pk p), Str.empty, Str.empty) := TL.partition_none (s := 58) (S := []) rfl fun z => by have := hc 58 z; omega
  unfold rdPart
  rw [e]
  dsimp only
  rw [cellT_split (c := pk p) h]
  dsimp only [pk]
  rw [num_back (off_num h).1, num_back (off_num h).2]
  dsimp only
  rw [if_pos rfl, if_pos (by decide +kernel : Str.empty = Str.ofString "")]
theorem rdPF_map (same : Bool) (f : Part → Part) : ∀ (ps : List Part) (i : Nat), (∀ p ∈ ps, rdPart (wordT same p) same = some (f p)) → rdPF same i (ps.map (wordT same)) = .inr (ps.map f)
  | [], _, _ => rfl
  | p :: r, i, h => by
    rw [List.map_cons, rdPF, h p (List.mem_cons_self ..), rdPF_map same f r (i + 1) fun q hq => h q (List.mem_cons_of_mem _ hq)]
    rfl
def lsB (s : Str) : Prop := s ≠ "" ∧ ∀ c ∈ s.cps.toList, c = 35 ∨ letB c = true
theorem let_rng {c : Nat} (h : letB c = true) : 97 ≤ c ∧ c ≤ 122 := by
  unfold letB at h
  simpa using h
structure LnP (k : Nat) (st : Str) (ps : List Part) (nd : Int) : Prop where
  kd : knd k
  st : k ≠ 4 → ∃ c, st = one c ∧ letB c = true
  ok : ∀ p ∈ ps, offB p.1 p.2.1 = true ∧ lsB p.2.2
  n0 : 0 ≤ nd
  n8 : nd ≤ 8
theorem line_back {k : Nat} {st : Str} {ps : List Part} {nd : Int} (h : LnP k st ps nd) : rdLine (lineT k st ps nd) = .inr (k, if k = 4 then "same" else st, if k = 4 then ps.map (fun p => (p.1, p.2.1, Str.ofString "a")) else ps, if k = 2 then 0 else nd) := by
  have hn : -8 ≤ nd ∧ nd ≤ 8 := ⟨by have := h.n0; omega, h.n8⟩
  have hsp : Txt.split (lineT k st ps nd) " " = headT k st nd ++ ps.map (wordT (decide (k = 4))) := by
    unfold lineT
    refine TL.split_join (s := 32) (S := []) rfl (by decide +kernel) (by unfold headT; split; simp; split <;> simp) fun w hw hc => ?_
    rcases List.mem_append.mp hw with hw | hw
    · unfold headT at hw
      split at hw
      · simp only [List.mem_cons, List.not_mem_nil, or_false] at hw
        rcases hw with rfl | rfl
        · revert hc; decide +kernel
        · have := num_codes hn 32 hc; omega
      · rename_i h4
        obtain ⟨c, rfl, hl⟩ := h.st h4
        have hr := let_rng hl
        split at hw
        · simp only [List.mem_cons, List.not_mem_nil, or_false] at hw
          rcases hw with rfl | rfl
          · have : (32 : Nat) = c := by simpa using (show (32 : Nat) ∈ [c] from hc)
            omega
          · revert hc; decide +kernel
        · simp only [List.mem_cons, List.not_mem_nil, or_false] at hw
          rcases hw with rfl | rfl
          · have : (32 : Nat) = c := by simpa using (show (32 : Nat) ∈ [c] from hc)
            omega
          · have := num_codes hn 32 hc; omega
    · obtain ⟨p, hp, rfl⟩ := List.mem_map.mp hw
      obtain ⟨ho, hs⟩ := h.ok p hp
      have hcell := cellT_codes (c := pk p) ho
      unfold wordT at hc
      split at hc
      · have := hcell 32 hc; omega
      · have hc : (32 : Nat) ∈ (cellT (pk p) ++ ":" ++ p.2.2).cps.toList := hc
        rw [app_codes, app_codes] at hc
        rcases List.mem_append.mp hc with hc | hc
        · rcases List.mem_append.mp hc with hc | hc
          · have := hcell 32 hc; omega
          · have : (32 : Nat) = 58 := by simpa using (show (32 : Nat) ∈ [58] from hc)
            omega
        · rcases hs.2 32 hc with z | z
          · omega
          · have := let_rng z; omega
  unfold rdLine
  rw [hsp]
  have e1 : (Str.ofString "all") ≠ Str.ofString (toString nd) := fun z => by
    have := num_codes hn 97 (by rw [← z]; decide +kernel)
    omega
  have ed : dig1 (Str.ofString (toString nd)) = some nd := dig_back ⟨h.n0, h.n8⟩
  rcases h.kd with rfl | rfl | rfl
  · obtain ⟨c, rfl, hl⟩ := h.st (by decide)
    have hne : one c ≠ Str.ofString "same" := fun z => by have : (1 : Nat) = 4 := congrArg (fun s : Str => s.cps.toList.length) z; omega
    show (if ¬ (one c = Str.ofString "same" ∨ stoneB (one c) = true) then _ else _) = _
    rw [if_neg (by rw [stone_one, hl]; simp), if_neg (by rintro ⟨z | z, _⟩; exact z rfl; exact hne z), decide_eq_false hne, decide_eq_false (by decide)]
    rw [show ([] : List Str).append (List.map (wordT false) ps) = List.map (wordT false) ps from rfl, rdPF_map false id ps 0 fun p hp => word_back (h.ok p hp).1 (h.ok p hp).2.1]
    dsimp only
    rw [if_neg hne, if_pos rfl, if_neg (by decide), if_neg (by decide), if_pos rfl, List.map_id]
    rfl
  · obtain ⟨c, rfl, hl⟩ := h.st (by decide)
    have hne : one c ≠ Str.ofString "same" := fun z => by have : (1 : Nat) = 4 := congrArg (fun s : Str => s.cps.toList.length) z; omega
    show (if ¬ (one c = Str.ofString "same" ∨ stoneB (one c) = true) then _ else _) = _
    rw [if_neg (by rw [stone_one, hl]; simp), if_neg (by rintro ⟨_, z⟩; rw [ed] at z; cases z), decide_eq_false hne, decide_eq_false (by decide)]
    rw [show ([] : List Str).append (List.map (wordT false) ps) = List.map (wordT false) ps from rfl, rdPF_map false id ps 0 fun p hp => word_back (h.ok p hp).1 (h.ok p hp).2.1]
    dsimp only
    rw [if_neg hne, if_neg (Ne.symm e1), if_neg (by decide), if_neg (by decide), if_neg (by decide), List.map_id, ed]
    rfl
  · show (if ¬ (Str.ofString "same" = Str.ofString "same" ∨ stoneB (Str.ofString "same") = true) then _ else _) = _
    rw [if_neg (by simp), if_neg (by rintro ⟨_, z⟩; rw [ed] at z; cases z), decide_eq_true rfl, decide_eq_true rfl]
    rw [show ([] : List Str).append (List.map (wordT true) ps) = List.map (wordT true) ps from rfl, rdPF_map true (fun p => (p.1, p.2.1, Str.ofString "a")) ps 0 fun p hp => word_backS (h.ok p hp).1]
    dsimp only
    rw [if_pos rfl, if_pos rfl, if_pos rfl, if_neg (by decide), ed]
    rfl
theorem LR.smP {k : Nat} {hue : Str} {ps : List Part} {nd : Int} (h : LR k hue ps nd) : SmP hue (sortP ps) nd := by
  obtain ⟨c, rfl, hc⟩ := h.hu
  refine ⟨by show 1 ≤ 10; decide, by rw [sortP_len]; exact h.ok.le, fun p hp => ?_, h.n0, by have := h.n1; have := h.ok.le; omega⟩
  rw [sortP_raw] at hp
  obtain ⟨q, hq, rfl⟩ := List.mem_map.mp hp
  have hl := signs_len h.ok q hq
  unfold rawP at hq
  obtain ⟨c2, hc2, rfl⟩ := List.mem_map.mp hq
  obtain ⟨r, hr, rfl⟩ := List.mem_map.mp (mem_ro.mp hc2)
  refine ⟨(h.ok.ok r hr).1, ?_⟩
  rw [← slen_codes, (srtS_codes _).length_eq, slen_codes]
  exact hl
def t_l_written : DTS := (dSeq (dSet 1 (dLstO (dCons (dOp oIx (dVar 0) (dC (.int 1))) (dCons (dCB (on1 strD) (dCons (dOp oIx (dVar 0) (dC (.int 3))) dNil)) dNil)))) (dCut (dIf (dTestB (dOp oEq (dOp oIx (dVar 0) (dC (.int 0))) (dC (.str "all")))) (dSet 1 (dLstO (dCons (dOp oIx (dVar 0) (dC (.int 1))) (dCons (dC (.str "all")) dNil)))) dNext) (dCut (dIf (dTestB (dOp oEq (dOp oIx (dVar 0) (dC (.int 0))) (dC (.str "same")))) (dSet 1 (dLstO (dCons (dC (.str "same")) (dCons (dCB (on1 strD) (dCons (dOp oIx (dVar 0) (dC (.int 3))) dNil)) dNil)))) dNext) (dSeq (dFor (dItems (dCall r_l_sorted_parts [] (dCons (dVar 0) dNil))) (.nm 2) (dSeq (dSet 3 (dOp oAdd (dC (.str ":")) (dBM .str joinD (dC (.str "")) (dCons (dCB (on1 sortS) (dCons (dOp oIx (dVar 2) (dC (.int 2))) dNil)) dNil)))) (dCut (dIf (dTestB (dOp oEq (dOp oIx (dVar 0) (dC (.int 0))) (dC (.str "same")))) (dSet 3 (dC (.str ""))) dNext) (dDrop (dBM .lst appD (dVar 1) (dCons (dOp oAdd (dOp oAdd (dOp oAdd (dCB (on1 strD) (dCons (dOp oIx (dVar 2) (dC (.int 0))) dNil)) (dC (.str ","))) (dCB (on1 strD) (dCons (dOp oIx (dVar 2) (dC (.int 1))) dNil))) (dVar 3)) dNil)))))) (dRet (dBM .str joinD (dC (.str " ")) (dCons (dVar 1) dNil)))))))
abbrev N_l_written : List Str := ["_law_rule_here", "_law_words", "_law_part", "_law_signs_here"]
@[irreducible] def r_l_written : DSp := fun ds S Q _ => ∃ k hue ps nd, ds = [rulT k hue ps nd] ∧ LR k hue ps nd ∧ Q (.str (lineT k hue (sortP ps) nd)) S
theorem len_l_written : Ln 1 r_l_written := fun ds S Q E h => by unfold r_l_written at h; obtain ⟨k, hue, ps, nd, rfl, _⟩ := h; rfl
theorem rd_l_written : RdW t_l_written N_l_written r_l_written := by
  intro ds S QD XD h
  unfold r_l_written at h
  obtain ⟨k, hue, ps, nd, rfl, h, q⟩ := h
  have hz := sizeLine_eq
  have hsm := h.smP
  have gn := num_log (i := nd) ⟨by have := hsm.n0; omega, hsm.n8⟩
  row_hasAll w_w
  intro p hp
  row_hasAll w_w
  refine cut_e [1] (fun ws S' => ∃ p, ws = [some (.adr p)] ∧ S p = none ∧ Sub S S' ∧ S' p = some (.lst [.str hue, .str (if k = 2 then "all" else Str.ofString (toString nd))])) (by row_hasAll w_env) ?_ ?_
  · rcases h.kd with rfl | rfl | rfl
    · row_hasAll w_w
      intro p' hp'
      have hf := fresh hp'
      exact ⟨by row_hasAll w_env, p', rfl, hf.2, (Sub.new hp).set hf.2, su_same⟩
    · row_hasAll w_w
      exact ⟨p, rfl, hp, Sub.new hp, su_same⟩
    · row_hasAll w_w
      exact ⟨p, rfl, hp, Sub.new hp, su_same⟩
  rintro _ S1 ⟨p1, rfl, hp1, hs1, e1⟩
  row_hasAll w_w
  refine cut_e [1] (fun ws S' => ∃ p, ws = [some (.adr p)] ∧ S p = none ∧ Sub S S' ∧ S' p = some (.lst ((headT k hue nd).map D.str))) (by row_hasAll w_env) ?_ ?_
  · rcases h.kd with rfl | rfl | rfl
    · row_hasAll w_w
      exact ⟨p1, rfl, hp1, hs1, e1⟩
    · row_hasAll w_w
      exact ⟨p1, rfl, hp1, hs1, e1⟩
    · row_hasAll w_w
      intro p' hp'
      have hf := hs1.non hp'
      exact ⟨by row_hasAll w_env, p', rfl, hf, hs1.set hf, su_same⟩
  rintro _ S2 ⟨p2, rfl, hp2, hs2, e2⟩
  have hok := h.ok
  row_hasAll w_w
  refine i_sorted hok ?_
  have hraw : ∀ x ∈ rawP ps, offB x.1 x.2.1 = true ∧ x.2.2.length ≤ 30 := fun x hx => by
    refine ⟨?_, signs_len hok x hx⟩
    unfold rawP at hx
    obtain ⟨c2, hc2, rfl⟩ := List.mem_map.mp hx
    obtain ⟨r, hr, rfl⟩ := List.mem_map.mp (mem_ro.mp hc2)
    exact (hok.ok r hr).1
  have hrl := rawP_len ps
  have hl8 := hok.le
  row_hasAll w_w
  refine loop_e (xs := rawP ps) (g := prt) [2, 3] (fun r ws S' => ∃ w2 w3 dn, ws = [w2, w3] ∧ dn ++ r = rawP ps ∧ Sub S S' ∧ S' p2 = some (.lst ((headT k hue nd ++ (dn.map fun x => (x.1, x.2.1, srtS x.2.2)).map (wordT (decide (k = 4)))).map D.str))) (by row_hasAll w_env) ?_ ?_ ⟨_, _, [], rfl, rfl, hs2, by simpa using e2⟩
  · rintro x r _ S3 ⟨w2, w3, dn, rfl, hd, hs3, e3⟩
    refine ⟨_, rfl, fun N hN => ?_⟩
    obtain ⟨ho, hsl⟩ := hraw x (by rw [← hd]; exact List.mem_append_right _ (List.mem_cons_self ..))
    obtain ⟨n1, n2⟩ := off_num ho
    have l1 := num_len n1
    have l2 := num_len n2
    have g1 := num_log n1
    have g2 := num_log n2
    have e0 : (Str.ofString "").length = 0 := rfl
    have c1 : (Str.ofString ",").length = 1 := rfl
    have c2 : (Str.ofString ":").length = 1 := rfl
    have hs30 : (srtS x.2.2).length ≤ 30 := by rw [← slen_codes, (srtS_codes _).length_eq, slen_codes]; exact hsl
    row_hasAll w_w
    rw [sorted_codes, strsD_codes]
    refine ⟨?_, ?_⟩
    · rw [e0, List.map_map]
      have := sum_le (fun c : Nat => (one c).length) 1 (x.2.2.cps.toList.mergeSort (PySem.W.dataLe false fun c => PyData.str (one c))) (fun _ _ => Nat.le_refl _)
      have hm : (x.2.2.cps.toList.mergeSort (PySem.W.dataLe false fun c => PyData.str (one c))).length = x.2.2.length := by rw [(List.mergeSort_perm ..).length_eq, slen_codes]
      rw [hm] at this
      simp only [Function.comp_def]
      omega
    show oAdd (D.str (Str.ofString ":")) (D.str (srtS x.2.2)) S3 _
    row_hasAll w_w
    refine cut_e [3] (fun ws S' => S3 = S' ∧ ws = [some (.str (if k = 4 then "" else Str.ofString ":" ++ srtS x.2.2))]) (by row_hasAll w_env) ?_ ?_
    · rcases h.kd with rfl | rfl | rfl
      · row_hasAll w_w
        rfl
      · row_hasAll w_w
        rfl
      · row_hasAll w_w
        rfl
    rintro _ _ ⟨rfl, rfl⟩
    have hsg : (if k = 4 then Str.ofString "" else Str.ofString ":" ++ srtS x.2.2).length ≤ 31 := by
      split
      · omega
      · rw [slen_app]; omega
    row_hasAll w_w
    have hdl : dn.length ≤ 8 := by
      have := congrArg List.length hd
      rw [List.length_append, List.length_cons, hrl] at this
      omega
    have hh : (headT k hue nd).length = 2 := by unfold headT; split; rfl; split <;> rfl
    refine ⟨by simp only [List.length_map, List.length_append]; omega, ?_⟩
    refine hN _ _ (by row_hasAll w_env) ⟨_, _, dn ++ [x], rfl, by simpa using hd, hs3.set hp2, ?_⟩
    rw [su_same]
    simp only [List.map_append, List.map_cons, List.map_nil, List.append_assoc]
    congr 6
    unfold wordT cellT pk
    by_cases h4 : k = 4
    · rw [if_pos h4, decide_eq_true h4, if_pos rfl]
      exact TL.ext_tl (by rw [TL.tl_append]; exact List.append_nil _)
    · rw [if_neg h4, decide_eq_false h4, if_neg (by decide)]
      exact TL.ext_tl (by simp only [TL.tl_append, List.append_assoc])
  rintro _ S3 ⟨w2, w3, dn, rfl, hd, hs3, e3⟩
  rw [List.append_nil] at hd
  subst hd
  rw [← sortP_raw] at e3
  row_hasAll w_w
  have e : strsD (List.map D.str (headT k hue nd ++ List.map (wordT (decide (k = 4))) (sortP ps))) = some (headT k hue nd ++ List.map (wordT (decide (k = 4))) (sortP ps)) := by
    have := strsD_map id (headT k hue nd ++ List.map (wordT (decide (k = 4))) (sortP ps))
    rw [List.map_id] at this
    exact this
  rw [e]
  exact ⟨Nat.le_trans (words_sum hsm _) (by decide), shr_of hs3 q⟩
theorem i_lwritten {k : Nat} {hue : Str} {ps : List Part} {nd : Int} {S : Sto} {Q : DQ} {X : XQ} (hr : LR k hue ps nd) (q : Q (.str (lineT k hue (sortP ps) nd)) S) : r_l_written [rulT k hue ps nd] S Q X := by unfold r_l_written; exact ⟨k, hue, ps, nd, rfl, hr, q⟩
end SM
--#ONETAC
namespace SM
open PySem PySem.Spec PyProof.Rows L2
theorem okS_ascii {s : Str} (hl : s.length ≤ sizeLine) (h : ∀ c ∈ s.cps.toList, c < 128) : okS s := by
  refine ⟨hl, ?_⟩
  unfold PyData.strOk
  rw [← Array.all_toList, List.all_eq_true]
  intro c hc
  have := h c hc
  simp
  omega
theorem cond_ls {s : Str} (h : condB s = true) : lsB s := by
  unfold condB at h
  rw [Bool.and_eq_true] at h
  obtain ⟨h1, h2⟩ := h
  refine ⟨fun e => ?_, ?_⟩
  · rw [e] at h2; revert h2; decide +kernel
  · have : ∀ (l a : List Nat), cdF a l = true → ∀ c ∈ l, c = 35 ∨ letB c = true := by
      intro l
      induction l with
      | nil => intro a _ c hc; cases hc
      | cons x r ih =>
        intro a h c hc
        rw [cdF] at h
        simp only [Bool.and_eq_true, Bool.or_eq_true] at h
        rcases List.mem_cons.mp hc with rfl | hc
        · exact h.2.1.imp of_decide_eq_true id
        · exact ih _ h.2.2 c hc
    exact this _ _ h1
theorem line_ok {k : Nat} {st : Str} {ps : List Part} {nd : Int} (h : SmP st ps nd) (hs : ∀ c ∈ st.cps.toList, c < 128) (hp : ∀ p ∈ ps, ∀ c ∈ p.2.2.cps.toList, c < 128) : okS (lineT k st ps nd) := by
  have hz := sizeLine_eq
  have hn : -8 ≤ nd ∧ nd ≤ 8 := ⟨by have := h.n0; omega, h.n8⟩
  unfold lineT
  refine okS_join (okS_ascii (by rw [hz]; exact Nat.le_of_ble_eq_true rfl) (by decide +kernel)) (fun w hw => ?_) (Nat.le_trans (words_sum h _) (by decide))
  rcases List.mem_append.mp hw with hw | hw
  · refine okS_ascii (by have := headT_len h.st h.n0 h.n8 w hw; omega) ?_
    unfold headT at hw
    split at hw
    · simp only [List.mem_cons, List.not_mem_nil, or_false] at hw
      rcases hw with rfl | rfl
      · decide +kernel
      · intro c hc; have := num_codes hn c hc; omega
    · split at hw
      · simp only [List.mem_cons, List.not_mem_nil, or_false] at hw
        rcases hw with rfl | rfl
        · exact hs
        · decide +kernel
      · simp only [List.mem_cons, List.not_mem_nil, or_false] at hw
        rcases hw with rfl | rfl
        · exact hs
        · intro c hc; have := num_codes hn c hc; omega
  · obtain ⟨p, hpp, rfl⟩ := List.mem_map.mp hw
    obtain ⟨ho, hl⟩ := h.ok p hpp
    have hcell := cellT_codes (c := pk p) ho
    refine okS_ascii (by have := wordT_len (same := decide (k = 4)) ho hl; omega) fun c hc => ?_
    unfold wordT at hc
    split at hc
    · have := hcell c hc; omega
    · have hc : c ∈ (cellT (pk p) ++ ":" ++ p.2.2).cps.toList := hc
      rw [app_codes, app_codes] at hc
      rcases List.mem_append.mp hc with hc | hc
      · rcases List.mem_append.mp hc with hc | hc
        · have := hcell c hc; omega
        · have : c = 58 := by simpa using (show c ∈ [58] from hc)
          omega
      · exact hp p hpp c hc
theorem ls_ascii {s : Str} (h : lsB s) : ∀ c ∈ s.cps.toList, c < 128 := fun c hc => by
  rcases h.2 c hc with z | z
  · omega
  · have := let_rng z; omega
def Like (ps qs : List Part) : Prop := (qs.map pk).Perm (ps.map pk) ∧ ∀ p ∈ qs, ∃ r ∈ ps, pk r = pk p ∧ srtS r.2.2 = srtS p.2.2
theorem Like.sort {ps qs : List Part} (h : Like ps qs) (hn : (ps.map pk).Nodup) : sortP qs = sortP ps := by
  have hnq : (qs.map pk).Nodup := (List.Perm.nodup_iff h.1).mpr hn
  unfold sortP
  rw [ro_perm h.1]
  refine List.map_congr_left fun c hc => ?_
  have hc2 : c ∈ qs.map pk := h.1.mem_iff.mpr (mem_ro.mp hc)
  obtain ⟨q, hq, rfl⟩ := List.mem_map.mp hc2
  obtain ⟨r, hr, e1, e2⟩ := h.2 q hq
  have a1 : signsAt qs (pk q) = q.2.2 := congrArg (fun z : Part => z.2.2) (signsAt_of hnq hq)
  have a2 : signsAt ps (pk r) = r.2.2 := congrArg (fun z : Part => z.2.2) (signsAt_of hn hr)
  rw [e1] at a2
  rw [a1, a2, e2]
theorem Like.mrul {k : Nat} {hue : Str} {ps qs : List Part} {nd : Int} (h : Like ps qs) (hn : (ps.map pk).Nodup) : SM.mrul k hue qs nd = SM.mrul k hue ps nd := by
  unfold SM.mrul
  split
  · have e : sortP (placeP (qs.map pk)) = sortP (placeP (ps.map pk)) := by
      have hpl : ∀ l : List Cell, (placeP l).map pk = l := fun l => by unfold placeP; rw [List.map_map]; exact List.map_id _
      refine Like.sort ⟨by rw [hpl, hpl]; exact h.1, fun p hp => ?_⟩ (by rw [hpl]; exact hn)
      unfold placeP at hp ⊢
      obtain ⟨c, hc, rfl⟩ := List.mem_map.mp hp
      exact ⟨_, List.mem_map.mpr ⟨c, h.1.mem_iff.mp hc, rfl⟩, rfl, rfl⟩
    rw [e]
  · rw [h.sort hn]
end SM
--#ONETAC
namespace SM
open PySem PySem.Spec PyProof.Rows L2
theorem le_code (a b : Nat) : PySem.W.dataLe false (fun c => PyData.str (one c)) a b = decide (a ≤ b) := by
  have e : PySem.W.dataLe false (fun c => PyData.str (one c)) a b = !PyProof.Rows.lexLt itemOrd [.inr [b]] [.inr [a]] := rfl
  rw [e]
  have e2 : PyProof.Rows.lexLt itemOrd [.inr [b]] [.inr [a]] = (decide ([b] < [a]) || (!decide ([a] < [b]) && false)) := rfl
  rw [e2]
  have h1 : ∀ x y : Nat, ([x] < [y]) ↔ x < y := fun x y => by rw [List.cons_lt_cons_iff]; simp
  simp only [h1]
  by_cases h : b < a
  · simp [h] <;> omega
  · simp [h] <;> omega
theorem srt_perm {l m : List Nat} (h : l.Perm m) : l.mergeSort (PySem.W.dataLe false fun c => PyData.str (one c)) = m.mergeSort (PySem.W.dataLe false fun c => PyData.str (one c)) := by
  have hf : (PySem.W.dataLe false fun c => PyData.str (one c)) = fun a b : Nat => decide (a ≤ b) := by funext a b; exact le_code a b
  rw [hf]
  have tr : ∀ a b c : Nat, decide (a ≤ b) = true → decide (b ≤ c) = true → decide (a ≤ c) = true := fun a b c x y => by simp at *; omega
  have to : ∀ a b : Nat, (decide (a ≤ b) || decide (b ≤ a)) = true := fun a b => by simp; omega
  exact List.Perm.eq_of_pairwise (fun x y _ _ a b => by simp at a b; omega) (List.pairwise_mergeSort tr to l) (List.pairwise_mergeSort tr to m) ((List.mergeSort_perm ..).trans (h.trans (List.mergeSort_perm ..).symm))
theorem srtS_perm {s t : Str} (h : s.cps.toList.Perm t.cps.toList) : srtS s = srtS t := by unfold srtS; rw [srt_perm h]
theorem cdF_iff : ∀ (l a : List Nat), cdF a l = true ↔ (∀ c ∈ l, c ∉ a) ∧ l.Nodup ∧ ∀ c ∈ l, c = 35 ∨ letB c = true
  | [], a => by simp [cdF]
  | x :: r, a => by
    rw [cdF]
    simp only [Bool.and_eq_true, Bool.or_eq_true, Bool.not_eq_true', decide_eq_false_iff_not, decide_eq_true_eq]
    rw [cdF_iff r (a ++ [x])]
    simp only [List.mem_append, List.mem_singleton, List.mem_cons, List.nodup_cons, List.not_mem_nil, or_false]
    constructor
    · rintro ⟨h1, h2, h3, h4, h5⟩
      refine ⟨?_, ⟨?_, h4⟩, ?_⟩
      · rintro c (rfl | hc)
        · exact h1
        · exact fun z => h3 c hc (.inl z)
      · exact fun z => h3 x z (.inr rfl)
      · rintro c (rfl | hc)
        · exact h2
        · exact h5 c hc
    · rintro ⟨h1, ⟨h2, h3⟩, h4⟩
      refine ⟨h1 x (.inl rfl), h4 x (.inl rfl), ?_, h3, fun c hc => h4 c (.inr hc)⟩
      intro c hc z
      rcases z with z | rfl
      · exact h1 c (.inr hc) z
      · exact h2 hc
theorem cond_perm {s t : Str} (h : s.cps.toList.Perm t.cps.toList) (hc : condB s = true) : condB t = true := by
  unfold condB at hc ⊢
  rw [Bool.and_eq_true] at hc ⊢
  obtain ⟨h1, h2⟩ := hc
  rw [cdF_iff] at h1
  refine ⟨(cdF_iff _ _).mpr ⟨fun _ _ => by simp, h.nodup_iff.mp h1.2.1, fun c hc => h1.2.2 c (h.mem_iff.mpr hc)⟩, ?_⟩
  rw [← slen_codes] at h2 ⊢
  rw [← h.length_eq]
  exact h2
theorem vk_kind {k : Nat} {st : Str} {ps : List Part} {nd : Int} {S : Sto} {F : Str → Prop} (hk : knd k) (h : F (kindS k)) : vwk S (rul k st ps nd) (fun x' => tabV [(2, "all"), (3, "count"), (4, "same")] x' F) := by
  rcases hk with rfl | rfl | rfl <;> exact vk_ins (tabv_r rfl h)
--#CALL refine vk_conds (by row_hasAll w_side) ?_
theorem sort_like {ps : List Part} (h : PartsOk ps) : Like ps (sortP ps) := ⟨by rw [pk_sortP]; exact roSort_perm _, fun p hp => by
  unfold sortP at hp
  obtain ⟨c, hc, rfl⟩ := List.mem_map.mp hp
  obtain ⟨r, hr, rfl⟩ := List.mem_map.mp (mem_ro.mp hc)
  refine ⟨r, hr, rfl, srtS_perm ?_⟩
  have e2 : signsAt ps (pk r) = r.2.2 := congrArg (fun z : Part => z.2.2) (signsAt_of h.nd hr)
  show r.2.2.cps.toList.Perm (srtS (signsAt ps (pk r))).cps.toList
  rw [e2]
  exact (srtS_codes _).symm⟩
theorem sort_ok {ps : List Part} (h : PartsOk ps) : PartsOk (sortP ps) := by
  refine ⟨by rw [sortP_len]; exact h.le, (List.Perm.nodup_iff (sort_like h).1).mpr h.nd, fun p hp => ?_⟩
  unfold sortP at hp
  obtain ⟨c, hc, rfl⟩ := List.mem_map.mp hp
  obtain ⟨r, hr, rfl⟩ := List.mem_map.mp (mem_ro.mp hc)
  have e2 : signsAt ps (pk r) = r.2.2 := congrArg (fun z : Part => z.2.2) (signsAt_of h.nd hr)
  obtain ⟨h1, h2, h3⟩ := h.ok r hr
  refine ⟨h1, ?_, ?_⟩
  · show condB (srtS (signsAt ps (pk r))) = true
    rw [e2]
    exact cond_perm (srtS_codes _).symm h2
  · show (srtS (signsAt ps (pk r))).length ≤ 30
    rw [e2, ← slen_codes, (srtS_codes _).length_eq, slen_codes]
    exact h3
end SM
--#ONETAC
local macro_rules | `(tactic| row_hasAll w_c) => `(tactic| first
  | refine vk_conds (by row_hasAll w_side) ?_
  | refine mlenM (by row_hasAll w_side) (by row_hasAll w_side) ?_
  | refine vk_kind (by row_hasAll w_side) ?_)
namespace SM
open PySem PySem.Spec PyProof.Rows L2
abbrev GR := Nat × Str × List Part × Int
def gD (g : GR) : D := rul g.1 g.2.1 g.2.2.1 g.2.2.2
structure GOk (g : GR) : Prop where
  kd : knd g.1
  le : g.2.2.1.length ≤ 8
  sm : SmP g.2.1 g.2.2.1 g.2.2.2
def bkD (gs : List GR) : D := .ins 5 [.lst (gs.map gD)]
def tD (t : GR) : D := rulT t.1 t.2.1 t.2.2.1 t.2.2.2
abbrev LRt (t : GR) : Prop := LR t.1 t.2.1 t.2.2.1 t.2.2.2
def lnT (t : GR) : Str := lineT t.1 t.2.1 (sortP t.2.2.1) t.2.2.2
def bookT (ts : List GR) : Str := Txt.join "\n" (ts.map lnT)
def t_Book_init : DTS := (dSeq (dIf (dTestB (dOp oGt (dCB (on1 lenD) (dCons (dVar 1) dNil)) (dC (.int 20)))) (dRaise 23 (dCons (dOp oAdd (dC (.int 20)) (dC (.int 1))) dNil)) dNext) (dSetF [(5, 0)] (dVar 0) (dCB (on1 listD) (dCons (dVar 1) dNil))))
abbrev N_Book_init : List Str := ["self", "rules"]
@[irreducible] def r_Book_init : DSp := fun ds S Q X => ∃ z d l, ds = [.adr z, d] ∧ isL S d l ∧ S z = some (.ins 5 []) ∧ l.length ≤ 1000 ∧ (if l.length ≤ 20 then Q .non (su S z (.ins 5 [.lst l])) else X ⟨23, [.int 21]⟩ S)
theorem len_Book_init : Ln 2 r_Book_init := fun ds S Q E h => by unfold r_Book_init at h; obtain ⟨z, d, l, rfl, _⟩ := h; rfl
theorem rd_Book_init : Rd t_Book_init N_Book_init r_Book_init := by
  intro ds S QD XD h
  unfold r_Book_init at h
  obtain ⟨z, d, l, rfl, hL, hS, hl, q⟩ := h
  have hz := sizeLine_eq
  rcases hL with rfl | ⟨a, rfl, ha⟩
  all_goals
    row_hasAll w_w
    refine brP (fun h => ?_) (fun h => ?_)
    · rw [if_neg (by omega)] at q
      row_hasAll w_w
      exact q
    · rw [if_pos (by omega)] at q
      row_hasAll w_w
      exact q
theorem mk_bookL {d : D} {l : List D} {S : Sto} {Q : DQ} {X : Addr → XQ} (hL : isL S d l) (hl : l.length ≤ 20) (h : Q (.ins 5 [.lst l]) S) : ∀ z, S z = none → r_Book_init [.adr z, d] (su S z (.ins 5 [])) (fun d S2 => d = .non ∧ mkF Q z S2) (X z) := by
  intro z hz
  unfold r_Book_init
  have hL2 : isL (su S z (.ins 5 [])) d l := by
    rcases hL with rfl | ⟨a, rfl, ha⟩
    · exact .inl rfl
    · exact .inr ⟨a, rfl, by rw [su_ne (st_ne ha hz)]; exact ha⟩
  refine ⟨z, d, l, rfl, hL2, su_same, by omega, ?_⟩
  rw [if_pos hl, su_su]
  refine ⟨rfl, ok_o su_same ?_⟩
  show Q _ _
  rw [sd_su_new hz]
  exact h
theorem mk_bookX {d : D} {l : List D} {S : Sto} {Q : DQ} {X : XQ} (hL : isL S d l) (hl : l.length ≤ 1000) (h20 : 20 < l.length) (h : X ⟨23, [.int 21]⟩ S) : ∀ z, S z = none → r_Book_init [.adr z, d] (su S z (.ins 5 [])) (fun d S2 => d = .non ∧ mkF Q z S2) (fun e S2 => X e (sd S2 z)) := by
  intro z hz
  unfold r_Book_init
  have hL2 : isL (su S z (.ins 5 [])) d l := by
    rcases hL with rfl | ⟨a, rfl, ha⟩
    · exact .inl rfl
    · exact .inr ⟨a, rfl, by rw [su_ne (st_ne ha hz)]; exact ha⟩
  refine ⟨z, d, l, rfl, hL2, su_same, hl, ?_⟩
  rw [if_neg (by omega)]
  show X _ _
  rw [sd_su_new hz]
  exact h
def t_Book_len : DTS := (dRet (dCB (on1 lenD) (dCons (dFld [(5, 0)] (dVar 0)) dNil)))
abbrev N_Book_len : List Str := ["self"]
@[irreducible] def r_Book_len : DSp := fun ds S Q _ => ∃ l, ds = [.ins 5 [.lst l]] ∧ Q (.int (l.length : Nat)) S
theorem len_Book_len : Ln 1 r_Book_len := fun ds S Q E h => by unfold r_Book_len at h; obtain ⟨l, rfl, _⟩ := h; rfl
theorem rd_Book_len : Rd t_Book_len N_Book_len r_Book_len := by
  intro ds S QD XD h
  unfold r_Book_len at h
  obtain ⟨l, rfl, q⟩ := h
  row_hasAll w_w
  exact q
theorem i_lenB {gs : List GR} {S : Sto} {Q : DQ} (hl : gs.length ≤ 1000) (h : Q (.int (gs.length : Nat)) S) : lenI 5 r_Book_len (bkD gs) S Q := by
  unfold lenI ownI bkD
  refine vk_ins ⟨rfl, ?_⟩
  unfold r_Book_len
  exact ⟨_, rfl, ⟨by omega, by rw [List.length_map]; omega⟩, by rw [List.length_map]; exact h⟩
theorem joinT_codes {y : Str} {l : List Str} {c : Nat} (h : c ∈ (Txt.join y l).cps.toList) : c ∈ y.cps.toList ∨ ∃ s ∈ l, c ∈ s.cps.toList := by
  have e : TL.tl (Txt.join y l) = TL.joinL (TL.tl y) (l.map TL.tl) := by rw [TL.join_eq]; exact TL.tl_join y l
  have h : c ∈ TL.tl (Txt.join y l) := h
  rw [e] at h
  rcases joinL_mem h with h | ⟨p, hp, h⟩
  · exact .inl h
  · obtain ⟨s, hs, rfl⟩ := List.mem_map.mp hp
    exact .inr ⟨s, hs, h⟩
theorem line_codes {k : Nat} {st : Str} {ps : List Part} {nd : Int} (h : SmP st ps nd) (hs : ∀ c ∈ st.cps.toList, 32 < c) (hp : ∀ p ∈ ps, ∀ c ∈ p.2.2.cps.toList, 32 < c) : ∀ c ∈ (lineT k st ps nd).cps.toList, 32 ≤ c := fun c hc => by
  have hn : -8 ≤ nd ∧ nd ≤ 8 := ⟨by have := h.n0; omega, h.n8⟩
  unfold lineT at hc
  rcases joinT_codes hc with hc | ⟨w, hw, hc2⟩
  · have : c = 32 := by simpa using (show c ∈ [32] from hc)
    omega
  clear hc
  have hc := hc2
  clear hc2
  rcases List.mem_append.mp hw with hw | hw
  · have hsame : ∀ c ∈ (Str.ofString "same").cps.toList, 32 < c := by decide +kernel
    have hall : ∀ c ∈ (Str.ofString "all").cps.toList, 32 < c := by decide +kernel
    unfold headT at hw
    split at hw
    · simp only [List.mem_cons, List.not_mem_nil, or_false] at hw
      rcases hw with rfl | rfl
      · exact Nat.le_of_lt (hsame c hc)
      · have := num_codes hn c hc; omega
    · split at hw
      · simp only [List.mem_cons, List.not_mem_nil, or_false] at hw
        rcases hw with rfl | rfl
        · exact Nat.le_of_lt (hs c hc)
        · exact Nat.le_of_lt (hall c hc)
      · simp only [List.mem_cons, List.not_mem_nil, or_false] at hw
        rcases hw with rfl | rfl
        · exact Nat.le_of_lt (hs c hc)
        · have := num_codes hn c hc; omega
  · obtain ⟨p, hpp, rfl⟩ := List.mem_map.mp hw
    obtain ⟨ho, hl⟩ := h.ok p hpp
    have hcell := cellT_codes (c := pk p) ho
    unfold wordT at hc
    split at hc
    · have := hcell c hc; omega
    · have hc : c ∈ (cellT (pk p) ++ ":" ++ p.2.2).cps.toList := hc
      rw [app_codes, app_codes] at hc
      rcases List.mem_append.mp hc with hc | hc
      · rcases List.mem_append.mp hc with hc | hc
        · have := hcell c hc; omega
        · have : c = 58 := by simpa using (show c ∈ [58] from hc)
          omega
      · exact Nat.le_of_lt (hp p hpp c hc)
structure LnOk (s : Str) : Prop where
  len : s.length ≤ 370
  ok : okS s
  nl : 10 ∉ s.cps.toList
  ne : s ≠ ""
theorem lnT_ok {t : GR} (h : LRt t) : LnOk (lnT t) := by
  have hs := h.smP
  obtain ⟨c0, ec, hc0⟩ := h.hu
  have hlr := let_rng hc0
  have hq := sort_ok h.ok
  have h2 : ∀ p ∈ sortP t.2.2.1, ∀ c ∈ p.2.2.cps.toList, c = 35 ∨ letB c = true := fun p hp => (cond_ls (hq.ok p hp).2.1).2
  have hst : ∀ x ∈ t.2.1.cps.toList, x = c0 := fun x hx => by
    rw [ec] at hx
    simpa using (show x ∈ [c0] from hx)
  refine ⟨lineT_len hs, line_ok hs (fun x hx => by have := hst x hx; omega) (fun p hp => ls_ascii (cond_ls (hq.ok p hp).2.1)), fun hm => ?_, fun e => ?_⟩
  · have := line_codes (k := t.1) hs (fun x hx => by have := hst x hx; omega) (fun p hp c hc => by
      rcases h2 p hp c hc with z | z
      · omega
      · have := let_rng z; omega) 10 hm
    omega
  · have hb := line_back (k := t.1) ⟨h.kd, fun _ => h.hu, fun p hp => ⟨(hq.ok p hp).1, cond_ls (hq.ok p hp).2.1⟩, hs.n0, hs.n8⟩
    rw [show lineT t.1 t.2.1 (sortP t.2.2.1) t.2.2.2 = "" from e] at hb
    have e0 : (match rdLine "" with | .inl n => n == 0 | .inr _ => false) = true := by decide +kernel
    rw [hb] at e0
    cases e0
theorem bookT_split {ts : List GR} (h : ∀ t ∈ ts, LRt t) (hn : ts ≠ []) : Txt.split (bookT ts) "\n" = ts.map lnT :=
  TL.split_join (s := 10) (S := []) rfl (by decide +kernel) (by simpa using hn) fun p hp => by
    obtain ⟨t, ht, rfl⟩ := List.mem_map.mp hp
    exact (lnT_ok (h t ht)).nl
theorem join_len (y : Str) (l : List Str) : (Txt.join y l).length ≤ (l.map (·.length)).sum + l.length * y.length := by
  have e : TL.tl (Txt.join y l) = TL.joinL (TL.tl y) (l.map TL.tl) := by rw [TL.join_eq]; exact TL.tl_join y l
  rw [len_tl, e]
  refine Nat.le_trans joinL_len ?_
  rw [List.map_map, List.length_map]
  exact Nat.le_refl _
theorem bookT_ne {ts : List GR} (h : ∀ t ∈ ts, LRt t) (hn : ts ≠ []) : bookT ts ≠ "" := fun e => by
  have h2 := bookT_split h hn
  rw [e] at h2
  have e0 : Txt.split "" "\n" = [Str.ofString ""] := by decide +kernel
  rw [e0] at h2
  cases ts with
  | nil => exact hn rfl
  | cons t r =>
    rw [List.map_cons, List.cons.injEq] at h2
    exact (lnT_ok (h t (List.mem_cons_self ..))).ne h2.1.symm
end SM
--#ONETAC
namespace SM
open PySem PySem.Spec PyProof.Rows L2
theorem Sub.upd {S S' : Sto} {a : Addr} {o u : OO} (h : Sub (su S a o) S') : Sub (su S a u) (su S' a u) := fun b w e => by
  by_cases hb : b = a
  · subst hb; rw [su_same] at e ⊢; exact e
  · rw [su_ne hb] at e ⊢; exact h b w (by rw [su_ne hb]; exact e)
theorem Sub.own {S S' : Sto} {a : Addr} {o : OO} (h : Sub (su S a o) S') : S' a = some o := h _ _ su_same
theorem Sub.ne {S S' : Sto} {a p : Addr} {o : OO} (h : Sub (su S a o) S') (hp : S' p = none) : p ≠ a := fun e => by subst e; rw [h.own] at hp; cases hp
theorem Sub.drop {S S' : Sto} {p : Addr} (h : Sub S S') (hp : S p = none) : Sub S (sd S' p) := fun b o e => by
  have hbp : b ≠ p := fun z => by subst z; rw [hp] at e; cases e
  rw [sd_ne hbp]
  exact h b o e
def t_l_rules : DTS := (dSeq (dSet 2 (dLstO dNil)) (dSeq (dFor (dRng1 (dCons (dCall r_l_take [] (dCons (dVar 0) (dCons (dC (.int 5)) dNil))) dNil)) (.nm 3) (dDrop (dBM .lst appD (dVar 2) (dCons (dCall r_l_rule [] (dCons (dVar 0) (dCons (dVar 1) dNil))) dNil)))) (dRet (dVarM 2))))
abbrev N_l_rules : List Str := ["_law_bag_here", "_law_palette_here", "_law_rules_here", "_law_k"]
@[irreducible] def r_l_rules : DSp := fun ds S Q _ => ∃ a b p, ds = [.adr a, .str p] ∧ S a = some (bagO b) ∧ palOk p ∧ ∀ (ts : List GR) b', ts.length ≤ 4 → (∀ t ∈ ts, LRt t) → Q (.lst (ts.map tD)) (su S a (bagO b'))
theorem len_l_rules : Ln 2 r_l_rules := fun ds S Q E h => by unfold r_l_rules at h; obtain ⟨a, b, c, rfl, _⟩ := h; rfl
theorem rd_l_rules : RdW t_l_rules N_l_rules r_l_rules := by
  intro ds S QD XD h
  unfold r_l_rules at h
  obtain ⟨a, b, pal, rfl, hS, hp, q⟩ := h
  have hz := sizeLine_eq
  row_hasAll w_w
  intro p hpn
  row_hasAll w_w
  have hpa : p ≠ a := fun e => by rw [e, hS] at hpn; cases hpn
  refine i_take (b := b) (by row_hasAll w_sto) (by decide) (by decide) fun v b1 v0 v1 => ?_
  row_hasAll w_w
  have hs0 : Sub (su S a (bagO b1)) (su (su S p (.lst [])) a (bagO b1)) := ((Sub.new hpn).trans Sub.refl) |> fun h => by
    intro c w e
    by_cases hc : c = a
    · subst hc; rw [su_same] at e ⊢; exact e
    · rw [su_ne hc] at e ⊢; exact h c w e
  refine loop_i (v - 0).toNat [3] (fun i ws S' => ∃ w b', ∃ ts : List GR, ws = [w] ∧ ts.length = i ∧ (∀ t ∈ ts, LRt t) ∧ Sub (su S a (bagO b')) S' ∧ S' p = some (.lst (ts.map tD))) (by row_hasAll w_env) ?_ ?_ ⟨_, b1, [], rfl, rfl, by simp, hs0, by row_hasAll w_sto⟩
  · rintro i _ S1 hi ⟨w, b2, ts, rfl, hl, hok, hs, e1⟩
    refine ⟨_, rfl, fun N hN => ?_⟩
    row_hasAll w_w
    refine i_rule (b := b2) hs.own hp fun k hue ps nd b3 hr => ?_
    have hs2 := hs.upd (u := bagO b3)
    have e2 : su S1 a (bagO b3) p = some (.lst (ts.map tD)) := by rw [su_ne hpa]; exact e1
    row_hasAll w_w
    have hs3 := hs2.set (p := p) (o := .lst (ts.map tD ++ [rulT k hue ps nd])) (by rw [su_ne hpa]; exact hpn)
    refine hN _ _ (by row_hasAll w_env) ⟨_, b3, ts ++ [(k, hue, ps, nd)], rfl, by simp [hl], fun t ht => ?_, hs3, ?_⟩
    · rcases List.mem_append.mp ht with h | h
      · exact hok t h
      · rw [List.mem_singleton.mp h]; exact hr
    · rw [su_same, List.map_append]; rfl
  rintro _ S1 ⟨w, b2, ts, rfl, hl, hok, hs, e1⟩
  row_hasAll w_w
  refine shr_of ?_ (q ts b2 (by omega) hok)
  intro c o e
  have hcp : c ≠ p := fun z => by subst z; rw [su_ne hpa, hpn] at e; cases e
  rw [sd_ne hcp]
  exact hs c o e
theorem i_rules {a : Addr} {b : Bag} {p : Str} {S : Sto} {Q : DQ} {X : XQ} (hS : S a = some (bagO b)) (hp : palOk p) (q : ∀ (ts : List GR) b', ts.length ≤ 4 → (∀ t ∈ ts, LRt t) → Q (.lst (ts.map tD)) (su S a (bagO b'))) : r_l_rules [.adr a, .str p] S Q X := by unfold r_l_rules; exact ⟨a, b, p, rfl, hS, hp, q⟩
theorem pln_tD (n : Nat) (t : GR) : pln (n + 3) (tD t) = true := by
  show (plns (n + 2) [.str (kindS t.1), .str t.2.1, .lst (t.2.2.1.map prt), .int t.2.2.2]) = true
  have h : plns (n + 1) (t.2.2.1.map prt) = true := by
    rw [plns_all, List.all_eq_true]
    intro d hd
    obtain ⟨c, _, rfl⟩ := List.mem_map.mp hd
    rfl
  simp [plns, pln, h]
theorem pln_tDs (n : Nat) (ts : List GR) : pln (n + 4) (.lst (ts.map tD)) = true := by
  show plns (n + 3) (ts.map tD) = true
  rw [plns_all, List.all_eq_true]
  intro d hd
  obtain ⟨c, _, rfl⟩ := List.mem_map.mp hd
  exact pln_tD n c
theorem eqB_tDs0 (ts : List GR) : eqB (.lst (ts.map tD)) (.lst []) = decide (ts = []) := by
  cases ts with
  | nil => rfl
  | cons t r => rfl
theorem cutD_to (l : List D) (n : Nat) : cutD l none (some (n : Int)) = l.take n := by
  unfold cutD
  rw [HT.sIx_none, HT.sIx_nat, List.drop_zero, Nat.sub_zero]
  by_cases h : n ≤ l.length
  · rw [Nat.min_eq_left h]
  · rw [Nat.min_eq_right (by omega), List.take_of_length_le (Nat.le_refl _), List.take_of_length_le (by omega)]
theorem rep_map {α β : Type} (f : α → β) (l : List α) (n : Nat) : (List.replicate n (l.map f)).flatten = ((List.replicate n l).flatten).map f := by
  induction n with
  | zero => rfl
  | succ n ih => rw [List.replicate_succ, List.flatten_cons, ih, List.replicate_succ, List.flatten_cons, List.map_append]
theorem mem_rep {α : Type} {l : List α} {n : Nat} {x : α} (h : x ∈ (List.replicate n l).flatten) : x ∈ l := by
  obtain ⟨m, h1, h2⟩ := List.mem_flatten.mp h
  rwa [List.eq_of_mem_replicate h1] at h2
end SM
--#ONETAC
namespace SM
open PySem PySem.Spec PyProof.Rows L2
open PySem.Builtin.Str in
theorem splitMax_one (w : Str) : Txt.splitMax w ":" 1 = if (Txt.partition w ":").2.1 = "" then [(Txt.partition w ":").1] else [(Txt.partition w ":").1, (Txt.partition w ":").2.2] := by
  have el : limitOf w 1 = 1 := rfl
  have h1 := StrLaws.occ_length_le w ":" 0 w.length 1
  have h2 := StrLaws.found_iff w ":"
  unfold Txt.splitMax Txt.partition
  rw [el]
  cases h : occurrences w ":" 0 w.length 1 with
  | nil =>
    show (if _ then [w] else if true = true then [w] else _) = if Str.empty = "" then [w] else _
    rw [if_pos (show (true : Bool) = true from rfl), if_pos (show Str.empty = "" from rfl)]
    split <;> rfl
  | cons i r =>
    rw [h] at h1 h2
    obtain ⟨j, hj, _⟩ := h2.mp rfl
    have hr : r = [] := List.length_eq_zero_iff.mp (by rw [List.length_cons] at h1; omega)
    subst hr
    have hk : Builtin.Str.strKind ":" = 1 := by decide +kernel
    have hk2 : 1 ≤ Builtin.Str.strKind w := by
      unfold Builtin.Str.strKind
      by_cases h1 : (w.cps.all fun x => decide (x < 256)) = true
      · rw [if_pos h1]; exact Nat.le_refl _
      · rw [if_neg h1]
        by_cases h2 : (w.cps.all fun x => decide (x < 65536)) = true
        · rw [if_pos h2]; decide
        · rw [if_neg h2]; decide
    have hl : (Str.ofString ":").length = 1 := rfl
    have e1 : decide (w.length < (Str.ofString ":").length) = false := decide_eq_false (by omega)
    have e2 : decide (Builtin.Str.strKind w < Builtin.Str.strKind (Str.ofString ":")) = false := decide_eq_false (by omega)
    rw [e1, e2, if_neg (by decide)]
    show (if false = true then [w] else partsBetween w [i] (Str.ofString ":").length) = if Str.ofString ":" = "" then _ else _
    rw [if_neg (by decide), if_neg (by decide +kernel)]
    rfl
theorem cut1_dash (w : Str) : eqB (.str (cutS w none (some 1))) (.str (Str.ofString "-")) = decide (w.cps.toList.head? = some 45) := by
  rw [eqB_eq _ _ rfl rfl, eqv_str]
  refine decide_eq_decide.mpr ?_
  cases hl : w.cps.toList with
  | nil =>
    have hw := str_of w [] hl
    subst hw
    exact ⟨fun h => absurd h (by decide +kernel), fun h => nomatch h⟩
  | cons c r =>
    have h1 : 1 ≤ w.cps.toList.length := by rw [hl]; simp
    have hc : (cutS w none (some ((1 : Nat) : Int))).cps.toList = [c] := by rw [cut_take h1, hl]; rfl
    constructor
    · intro h
      have h2 : (cutS w none (some ((1 : Nat) : Int))).cps.toList = [45] := by
        show (cutS w none (some 1)).cps.toList = [45]
        rw [h]; rfl
      rw [hc] at h2
      cases h2
      rfl
    · intro h
      cases h
      exact str_ext (by show (cutS w none (some ((1 : Nat) : Int))).cps.toList = _; rw [hc]; rfl)
def t_l_number : DTS := (dSeq (dSet 1 (dVar 0)) (dSeq (dIf (dTestB (dOp oEq (dSl oSl (dVar 0) dNoPart (dPart (dC (.int 1)))) (dC (.str "-")))) (dSet 1 (dSl oSl (dVar 0) (dPart (dC (.int 1))) dNoPart)) dNext) (dSeq (dIf (dOr (dTestB (dOp oNe (dCB (on1 lenD) (dCons (dVar 1) dNil)) (dC (.int 1)))) (dOr (dTestB (dOp oNotIn (dVar 1) (dC (.str "0123456789")))) (dTestB (dOp oEq (dVar 0) (dC (.str "-0")))))) (dRet (dC .non)) dNext) (dRet (dCB (on1 intD) (dCons (dVar 0) dNil))))))
abbrev N_l_number : List Str := ["_law_word", "_law_digits"]
@[irreducible] def r_l_number : DSp := fun ds S Q _ => ∃ w, ds = [.str w] ∧ w.length ≤ 640 ∧ Q (oID (rdNum w)) S
theorem len_l_number : Ln 1 r_l_number := fun ds S Q E h => by unfold r_l_number at h; obtain ⟨w, rfl, _⟩ := h; rfl
theorem i_lnumber {w : Str} {S : Sto} {Q : DQ} {X : XQ} (hl : w.length ≤ 640) (q : Q (oID (rdNum w)) S) : r_l_number [.str w] S Q X := by unfold r_l_number; exact ⟨w, rfl, hl, q⟩
theorem rd_l_number : Rd t_l_number N_l_number r_l_number := by
  intro ds S QD XD h
  unfold r_l_number at h
  obtain ⟨w, rfl, hlen, q⟩ := h
  have em : Str.ofString "-" = one 45 := rfl
  have ez : Str.ofString "-0" = ⟨#[45, 48]⟩ := rfl
  unfold rdNum at q
  have cut : ∀ m : Nat, ∀ r : List Nat, w.cps.toList = m :: r → (cutS w (some 1) none).cps.toList = r := fun m r h => by
    rw [cutS_codes, h]
    have : w.length = r.length + 1 := by rw [← slen_codes, h]; rfl
    rw [this]
    show ((m :: r).drop (HT.sIx (r.length + 1) 0 (some 1))).take _ = r
    rw [sIx_hi (by decide) (by omega), HT.sIx_none]
    simp
  row_hasAll w_e
  rw [cut1_dash]
  cases hl : w.cps.toList with
  | nil =>
    rw [hl] at q
    have h0 : w.length = 0 := by rw [← slen_codes, hl]; rfl
    row_hasAll w_w
    rw [h0]
    row_hasAll w_w
    exact q
  | cons m r =>
    rw [hl] at q
    have hc := cut m r hl
    have hlen2 : w.length = r.length + 1 := by rw [← slen_codes, hl]; rfl
    have hcl : (cutS w (some 1) none).length = r.length := by rw [← slen_codes, hc]
    have eh : decide ((m :: r).head? = some 45) = decide (m = 45) := by simp
    rw [eh]
    by_cases hm : m = 45
    · rw [decide_eq_true hm]
      subst hm
      row_hasAll w_w
      rw [hcl]
      match r, hl, hc, hlen2, hcl with
      | [], _, _, _, _ =>
        row_hasAll w_w
        exact q
      | [c], hl, hc, _, _ =>
        have hw2 := str_of _ _ hl
        dsimp only at q
        row_hasAll w_w
        rw [str_of _ _ hc]
        show brn (!inS (one c) (Str.ofString "0123456789")) _ _
        rw [inS_one, digits_mem]
        refine brN (fun h => ?_) (fun h => ?_)
        · row_hasAll w_w
          rw [if_neg (by omega)] at q
          exact q
        · row_hasAll w_w
          rw [ez, hw2]
          refine brP (fun h2 => ?_) (fun h2 => ?_)
          · row_hasAll w_w
            have hc48 : c = 48 := by
              have := congrArg (fun z : Str => z.cps.toList) h2
              simpa using this
            rw [if_neg (by omega)] at q
            exact q
          · have hne : c ≠ 48 := fun e => h2 (by rw [e])
            rw [if_pos ⟨rfl, by omega⟩] at q
            row_hasAll w_w
            have e : PySem.intText? { cps := [45, c].toArray } = some (48 - (c : Int)) := int_neg (by omega)
            rw [e]
            row_hasAll w_w
            exact q
      | c :: d :: r2, _, _, _, _ =>
        rw [decide_eq_false (by simp only [List.length_cons]; omega)]
        row_hasAll w_w
        exact q
    · rw [decide_eq_false hm]
      row_hasAll w_w
      rw [hlen2]
      match r, hl, hc, hlen2, hcl with
      | [], hl, _, _, _ =>
        have hw2 := str_of _ _ hl
        dsimp only at q
        row_hasAll w_w
        rw [hw2]
        show brn (!inS (one m) (Str.ofString "0123456789")) _ _
        rw [inS_one, digits_mem]
        refine brN (fun h => ?_) (fun h => ?_)
        · row_hasAll w_w
          rw [if_neg h] at q
          exact q
        · row_hasAll w_w
          rw [if_pos h] at q
          have e : PySem.intText? { cps := [m].toArray } = some ((m : Int) - 48) := int_dig h
          rw [e]
          row_hasAll w_w
          exact q
      | c :: r2, _, _, _, _ =>
        rw [decide_eq_false (by simp only [List.length_cons]; omega)]
        row_hasAll w_w
        cases r2 with
        | nil =>
          dsimp only at q
          rw [if_neg (fun z => hm z.1)] at q
          exact q
        | cons => exact q
theorem part_empty (w : Str) : (Txt.partition w ":").2.1 = "" → (Txt.partition w ":").2.2 = "" := by
  unfold Txt.partition
  split
  · intro h
    exact absurd (show Str.ofString ":" = "" from h) (by decide +kernel)
  · intro _
    rfl
def t_l_word_part_1 : DTS := (dRet (dTup (dCons (dCall r_l_number [] (dCons (dOp oIx (dVar 3) (dC (.int 0))) dNil)) (dCons (dCall r_l_number [] (dCons (dOp oIx (dVar 3) (dC (.int 1))) dNil)) (dCons (dC (.str "a")) dNil)))))
def t_l_word_part_2 : DTS := (dRet (dTup (dCons (dCall r_l_number [] (dCons (dOp oIx (dVar 3) (dC (.int 0))) dNil)) (dCons (dCall r_l_number [] (dCons (dOp oIx (dVar 3) (dC (.int 1))) dNil)) (dCons (dOp oIx (dVar 2) (dC (.int 1))) dNil)))))
def t_l_word_part_3 : DTS := (dSeq (dIf (dOr (dTru (dVar 1)) (dOr (dTestB (dOp oEq (dCB (on1 lenD) (dCons (dVar 2) dNil)) (dC (.int 1)))) (dTestB (dOp oEq (dOp oIx (dVar 2) (dC (.int 1))) (dC (.str "")))))) (dRet (dC .non)) dNext) t_l_word_part_2)
def t_l_word_part_4 : DTS := (dSeq (dIf (dOr (dTestB (dOp oNe (dCB (on1 lenD) (dCons (dVar 3) dNil)) (dC (.int 2)))) (dOr (dTestB (dOp oIs (dCall r_l_number [] (dCons (dOp oIx (dVar 3) (dC (.int 0))) dNil)) (dC .non))) (dTestB (dOp oIs (dCall r_l_number [] (dCons (dOp oIx (dVar 3) (dC (.int 1))) dNil)) (dC .non))))) (dRet (dC .non)) dNext) (dSeq (dIf (dAnd (dTru (dVar 1)) (dTestB (dOp oEq (dCB (on1 lenD) (dCons (dVar 2) dNil)) (dC (.int 1))))) t_l_word_part_1 dNext) t_l_word_part_3))
def t_l_word_part : DTS := (dSeq (dSet 2 (dBM .str splitMD (dVar 0) (dCons (dC (.str ":")) (dCons (dC (.int 1)) dNil)))) (dSeq (dSet 3 (dBM .str splitD (dOp oIx (dVar 2) (dC (.int 0))) (dCons (dC (.str ",")) dNil))) t_l_word_part_4))
abbrev N_l_word_part : List Str := ["_law_word", "_law_same", "_law_pieces", "_law_numbers"]
def oPT : Option Part → D
  | none => .non
  | some p => prt p
@[irreducible] def r_l_word_part : DSp := fun ds S Q _ => ∃ w same, ds = [.str w, .bl same] ∧ w.length ≤ 600 ∧ okS w ∧ Q (oPT (rdPart w same)) S
theorem len_l_word_part : Ln 2 r_l_word_part := fun ds S Q E h => by unfold r_l_word_part at h; obtain ⟨w, s, rfl, _⟩ := h; rfl
theorem i_lpart {w : Str} {same : Bool} {S : Sto} {Q : DQ} {X : XQ} (hl : w.length ≤ 600) (ok : okS w) (q : Q (oPT (rdPart w same)) S) : r_l_word_part [.str w, .bl same] S Q X := by unfold r_l_word_part; exact ⟨w, same, rfl, hl, ok, q⟩
theorem rd_l_word_part : Rd t_l_word_part N_l_word_part r_l_word_part := by
  intro ds S QD XD h
  unfold r_l_word_part at h
  obtain ⟨w, same, rfl, hl, ok, q⟩ := h
  have hz := sizeLine_eq
  obtain ⟨po, pl1, pl2⟩ := part_ok (a := w) (b := ":") (by decide +kernel) ⟨by rw [sizeLine_eq]; exact Nat.le_of_ble_eq_true rfl, by decide +kernel⟩ ok
  unfold rdPart at q
  row_hasAll w_w
  have es := splitMax_one w
  have hcs := part_empty w
  generalize Txt.partition w ":" = pt at *
  obtain ⟨hd, co, sg⟩ := pt
  dsimp only at *
  generalize Txt.splitMax w ":" 1 = sm at *
  subst es
  obtain ⟨s1, s2⟩ := split_ok (a := hd) (b := ",") po.1 (by decide +kernel) (by decide +kernel)
  have s3 := split_len (a := hd) (b := ",") (by decide +kernel) (by decide +kernel)
  have fin : ∀ pcs : List Str, (∃ t, pcs = hd :: t) → (pcs = if co = "" then [hd] else [hd, sg]) → (dSeq (dSet 3 (dBM Bt.str splitD (dOp oIx (dVar 2) (dC (D.int 0))) (dCons (dC (D.str (Str.ofString ","))) dNil))) t_l_word_part_4 (ends QD XD) (put (startD N_l_word_part [D.str w, D.bl same]) 2 (D.lst (pcs.map D.str))) S) := by
    rintro pcs ⟨t, rfl⟩ ep
    row_hasAll w_w
    refine ⟨⟨by decide +kernel, by omega⟩, ⟨s1, by omega⟩, ?_⟩
    generalize Txt.split hd "," = ws at *
    match ws with
    | [] =>
      row_hasAll w_w
      exact q
    | [a] =>
      row_hasAll w_w
      exact q
    | a :: b :: c :: r =>
      row_hasAll w_w
      exact q
    | [a, b] =>
      have ha := s3 a (List.mem_cons_self ..)
      have hb := s3 b (List.mem_cons_of_mem _ (List.mem_cons_self ..))
      have ha2 : a.length ≤ 640 := by omega
      have hb2 : b.length ≤ 640 := by omega
      dsimp only at q
      row_hasAll w_w
      refine i_lnumber ha2 ?_
      cases ea : rdNum a with
      | none =>
        rw [ea] at q
        row_hasAll w_w
        exact q
      | some x =>
        row_hasAll w_w
        refine i_lnumber hb2 ?_
        cases eb : rdNum b with
        | none =>
          rw [ea, eb] at q
          row_hasAll w_w
          exact q
        | some y =>
          rw [ea, eb] at q
          dsimp only at q
          by_cases hco : co = ""
          · rw [if_pos hco] at ep
            cases ep
            cases same with
            | true =>
              rw [if_pos rfl, if_pos hco] at q
              row_hasAll w_w
              refine i_lnumber ha2 ?_
              rw [ea]
              row_hasAll w_w
              refine i_lnumber hb2 ?_
              rw [eb]
              row_hasAll w_w
              exact q
            | false =>
              rw [if_neg (by decide), if_pos (hcs hco)] at q
              row_hasAll w_w
              exact q
          · rw [if_neg hco] at ep
            cases ep
            cases same with
            | true =>
              rw [if_pos rfl, if_neg hco] at q
              row_hasAll w_w
              exact q
            | false =>
              rw [if_neg (by decide)] at q
              row_hasAll w_w
              refine brP (fun hs => ?_) (fun hs => ?_)
              · rw [if_pos hs] at q
                row_hasAll w_w
                exact q
              · rw [if_neg hs] at q
                row_hasAll w_w
                refine i_lnumber ha2 ?_
                rw [ea]
                row_hasAll w_w
                refine i_lnumber hb2 ?_
                rw [eb]
                row_hasAll w_w
                exact q
  have hok : (∀ s, s ∈ (if co = Str.ofString "" then [hd] else [hd, sg]) → okS s) ∧ (if co = Str.ofString "" then [hd] else [hd, sg]).length ≤ sizeLine := by
    split
    · exact ⟨fun s hs => by rw [List.mem_singleton.mp hs]; exact po.1, by show 1 ≤ sizeLine; omega⟩
    · exact ⟨fun s hs => by
        rcases List.mem_cons.mp hs with rfl | hs
        · exact po.1
        · rw [List.mem_singleton.mp hs]; exact po.2.2, by show 2 ≤ sizeLine; omega⟩
  refine ⟨⟨by decide +kernel, ⟨by decide, by decide⟩, by omega⟩, hok, fin _ ?_ rfl⟩
  split <;> exact ⟨_, rfl⟩
end SM
--#ONETAC
namespace SM
open PySem PySem.Spec PyProof.Rows L2
theorem need_key13 (nd : Int) (L : Nat) : (match (if 0 ≤ nd ∧ nd ≤ ((L : Nat) : Int) then none else some 0 : Option Nat) with
    | some n => ((n : Nat) : Int)
    | none => -1) = if nd < 0 ∨ nd > ((L : Nat) : Int) then 0 else -1 := by
  by_cases hn : 0 ≤ nd ∧ nd ≤ ((L : Nat) : Int)
  · rw [if_pos hn, if_neg (by omega)]
  · rw [if_neg hn, if_pos (by omega)]
    rfl
theorem all13 {st : Str} {ps : List Part} {nd : Int} : partOf 2 st ps nd = faultF 2 st ps 0 := by
  have e : outK 2 st ps nd = ruleOut st ps := rfl
  unfold partOf faultF
  rw [e]
  unfold ruleOut
  cases h : stoneB st with
  | false =>
    rw [if_pos rfl, if_pos ⟨by decide, rfl⟩]
    rfl
  | true =>
    rw [if_neg (by simp), if_neg (by simp)]
    cases badP ps with
    | some n => rfl
    | none =>
      show (-1 : Int) = if (0 : Int) < 0 ∨ (0 : Int) > ((ps.length : Nat) : Int) then 0 else -1
      rw [if_neg (by omega)]
theorem count13 {st : Str} {ps : List Part} {nd : Int} : partOf 3 st ps nd = faultF 3 st ps nd := by
  have e : outK 3 st ps nd = countOut st ps nd := rfl
  have nk := need_key13 nd ps.length
  unfold partOf
  rw [e]
  cases h : stoneB st with
  | false =>
    have e2 : countOut st ps nd = some 0 := by unfold countOut ruleOut; rw [if_pos h]
    have e3 : faultF 3 st ps nd = 0 := by unfold faultF; exact if_pos ⟨by decide, h⟩
    rw [e2, e3]
    rfl
  | true =>
    have hn : ¬ ((3 : Nat) ≠ 4 ∧ stoneB st = false) := fun z => by rw [h] at z; exact Bool.noConfusion z.2
    have er : ruleOut st ps = badP ps := by unfold ruleOut; rw [if_neg (by rw [h]; simp)]
    cases hb : badP ps with
    | some n =>
      have e2 : countOut st ps nd = some n := by unfold countOut; rw [er, hb]
      have e3 : faultF 3 st ps nd = (n : Nat) := by unfold faultF; rw [if_neg hn, hb]
      rw [e2, e3]
    | none =>
      have e2 : countOut st ps nd = if 0 ≤ nd ∧ nd ≤ ((ps.length : Nat) : Int) then none else some 0 := by unfold countOut; rw [er, hb]
      have e3 : faultF 3 st ps nd = if nd < 0 ∨ nd > ((ps.length : Nat) : Int) then 0 else -1 := by unfold faultF; rw [if_neg hn, hb]
      rw [e2, e3]
      exact nk
theorem same13 {st sx : Str} {ps : List Part} {nd : Int} (ha : ∀ p ∈ ps, p.2.2 = "a") : partOf 4 st ps nd = faultF 4 sx ps nd := by
  have hp : placeP (ps.map pk) = ps := by
    unfold placeP
    rw [List.map_map]
    refine (List.map_congr_left fun p hp => ?_).trans (List.map_id _)
    obtain ⟨x, y, s⟩ := p
    have : s = "a" := ha _ hp
    subst this
    rfl
  have e : outK 4 st ps nd = countOut "a" ps nd := by show countOut "a" (placeP (ps.map pk)) nd = _; rw [hp]
  have hs : stoneB "a" = true := by decide +kernel
  have e2 : ruleOut "a" ps = badP ps := by unfold ruleOut; rw [if_neg (by rw [hs]; simp)]
  unfold partOf faultF
  rw [e, if_neg (fun z => z.1 rfl)]
  unfold countOut
  rw [e2]
  cases badP ps with
  | some n => rfl
  | none => exact need_key13 nd ps.length
theorem rdPart_same {w : Str} {p : Part} (h : rdPart w true = some p) : p.2.2 = "a" := by
  unfold rdPart at h
  split at h
  · split at h
    · rw [if_pos rfl] at h
      split at h
      · cases h; rfl
      · cases h
    · cases h
  · cases h
theorem rdPF_same : ∀ {ws : List Str} {i : Nat} {ps : List Part}, rdPF true i ws = .inr ps → ∀ p ∈ ps, p.2.2 = "a"
  | [], _, _, h, p, hp => by cases h; cases hp
  | w :: r, i, ps, h, p, hp => by
    rw [rdPF] at h
    cases hr : rdPart w true with
    | none => rw [hr] at h; cases h
    | some x =>
      rw [hr] at h
      dsimp only at h
      cases hq : rdPF true (i + 1) r with
      | inl n => rw [hq] at h; cases h
      | inr qs =>
        rw [hq] at h
        cases h
        rcases List.mem_cons.mp hp with rfl | hp
        · exact rdPart_same hr
        · exact rdPF_same hq p hp
theorem loop_j {q : Pat} {tb : DTS} {E : DEnds} (m0 : Int) (n : Nat) (ix : List Nat) (J : Nat → DS → Sto → Prop) {δ0 δl : DS} {S0 : Sto} (hδ : δ0 = δl)
    (hs : ∀ i ws S, i < n → J i ws S → ∃ δ1, bindP q (D.int (m0 + (i : Nat))) (sets δl ix ws) = some δ1 ∧ ∀ N : DS → Sto → Prop, (∀ δ2 S2, δ2 = sets δl ix (gets δ2 ix) → J (i + 1) (gets δ2 ix) S2 → N δ2 S2) → tb { E with nx := N, ct := N, bk := E.nx } δ1 S)
    (hd : ∀ ws S, J n ws S → E.nx (sets δl ix ws) S) (h : J 0 (gets δ0 ix) S0) : loopK none q tb E ((List.range n).map fun i : Nat => D.int (m0 + (i : Nat))) δ0 S0 := by
  refine loop_e (g := fun i : Nat => D.int (m0 + (i : Nat))) ix (fun r ws S => ∃ i, i ≤ n ∧ r = List.range' i (n - i) ∧ J i ws S) hδ ?_ ?_ ⟨0, Nat.zero_le _, by rw [List.range_eq_range', Nat.sub_zero], h⟩
  · rintro x r ws S ⟨i, hi, e, hI⟩
    have hlt : i < n := by
      rcases Nat.lt_or_ge i n with h | h
      · exact h
      · rw [show n - i = 0 by omega] at e; cases e
    obtain ⟨m, hm⟩ : ∃ m, n - i = m + 1 := ⟨n - i - 1, by omega⟩
    rw [hm, List.range'_succ] at e
    simp only [List.cons.injEq] at e
    obtain ⟨rfl, rfl⟩ := e
    obtain ⟨δ1, e1, hN⟩ := hs x ws S hlt hI
    exact ⟨δ1, e1, fun N h => hN N fun δ2 S2 a h2 => h δ2 S2 a ⟨x + 1, hlt, by congr 1; omega, h2⟩⟩
  · rintro ws S ⟨i, hi, e, hI⟩
    have ei : i = n := by
      rcases Nat.lt_or_ge i n with h | h
      · obtain ⟨m, hm⟩ : ∃ m, n - i = m + 1 := ⟨n - i - 1, by omega⟩
        rw [hm, List.range'_succ] at e; cases e
      · omega
    subst ei
    exact hd ws S hI
def cmb (dn : List Part) : Nat ⊕ List Part → Nat ⊕ List Part
  | .inl n => .inl n
  | .inr ps => .inr (dn ++ ps)
def lineF (line : Str) : Int := match rdLine line with
  | .inl n => (n : Nat)
  | .inr (k, st, ps, nd) => partOf k st ps nd
theorem dig1_in {w : Str} : (((w.length : Nat) : Int) = 1 ∧ inS w (Str.ofString "0123456789") = true) ↔ ∃ v, dig1 w = some v := by
  have hs := slen_codes w
  constructor
  · rintro ⟨h1, h2⟩
    obtain ⟨c, hc⟩ := List.length_eq_one_iff.mp (show w.cps.toList.length = 1 by omega)
    rw [str_of w [c] hc] at h2
    rw [show (⟨[c].toArray⟩ : Str) = one c from rfl, inS_one, digits_mem, decide_eq_true_eq] at h2
    exact ⟨_, by unfold dig1; rw [hc]; exact if_pos h2⟩
  · rintro ⟨v, hv⟩
    obtain ⟨c, rfl, h2, _⟩ := dig1_of hv
    exact ⟨rfl, by rw [inS_one, digits_mem]; exact decide_eq_true h2⟩
set_option hygiene false in
local macro_rules | `(tactic| row_hasAll w_go96) => `(tactic| (
  cases sm with
  | true =>
    have hs : w0 = Str.ofString "same" := of_decide_eq_true hsm.symm
    rw [if_pos ⟨.inr hs, hd1⟩] at q
    row_hasAll w_w
    exact shr_of Sub.refl q
  | false =>
    row_hasAll w_w
    refine brN (fun ha => ?_) (fun ha => ?_)
    · rw [if_pos ⟨.inl ha, hd1⟩] at q
      row_hasAll w_w
      exact shr_of Sub.refl q
    · have hs : ¬ w0 = Str.ofString "same" := of_decide_eq_false hsm.symm
      rw [if_neg (fun h => h.1.elim (fun z => z ha) hs), ← hsm] at q
      row_hasAll w_w
      intro p hp
      refine key false false 0 p hp (fun z => nomatch z) (fun z => nomatch z) ?_
      cases hr : rdPF false 0 ws with
      | inl n => rw [hr] at q; exact q
      | inr ps =>
        rw [hr] at q
        dsimp only at q ⊢
        rw [if_neg hs, if_pos ha, all13] at q
        rw [if_neg (by decide), if_neg (by decide)]
        exact q))
def t_l_line_fault_1 : DTS := (dSeq (dSet 6 (dCall r_l_word_part [] (dCons (dOp oIx (dVar 1) (dVar 5)) (dCons (dVar 2) dNil)))) (dSeq (dIf (dTestB (dOp oIs (dVar 6) (dC .non))) (dRet (dOp oSub (dVar 5) (dC (.int 1)))) dNext) (dDrop (dBM .lst appD (dVar 4) (dCons (dVar 6) dNil)))))
def t_l_line_fault_2 : DTS := (dRet (dCall r_l_fault [] (dCons (dTup (dCons (dC (.str "same")) (dCons (dC (.str "a")) (dCons (dVarM 4) (dCons (dCB (on1 intD) (dCons (dOp oIx (dVar 1) (dC (.int 1))) dNil)) dNil))))) dNil)))
def t_l_line_fault_3 : DTS := (dRet (dCall r_l_fault [] (dCons (dTup (dCons (dC (.str "count")) (dCons (dOp oIx (dVar 1) (dC (.int 0))) (dCons (dVarM 4) (dCons (dCB (on1 intD) (dCons (dOp oIx (dVar 1) (dC (.int 1))) dNil)) dNil))))) dNil)))
def t_l_line_fault_4 : DTS := (dSeq (dIf (dTru (dVar 3)) t_l_line_fault_3 dNext) (dRet (dCall r_l_fault [] (dCons (dTup (dCons (dC (.str "all")) (dCons (dOp oIx (dVar 1) (dC (.int 0))) (dCons (dVarM 4) (dCons (dC (.int 0)) dNil))))) dNil))))
def t_l_line_fault_5 : DTS := (dSeq (dFor (dRng2 (dCons (dC (.int 2)) (dCons (dCB (on1 lenD) (dCons (dVar 1) dNil)) dNil))) (.nm 5) t_l_line_fault_1) (dSeq (dIf (dTru (dVar 2)) t_l_line_fault_2 dNext) t_l_line_fault_4))
def t_l_line_fault_6 : DTS := (dSeq (dIf (dAnd (dNot (dTru (dVar 3))) (dOr (dTru (dVar 2)) (dTestB (dOp oNe (dOp oIx (dVar 1) (dC (.int 1))) (dC (.str "all")))))) (dRet (dC (.int 0))) dNext) (dSeq (dSet 4 (dLstO dNil)) t_l_line_fault_5))
def t_l_line_fault_7 : DTS := (dSeq (dSet 3 (dAndV (dOp oEq (dCB (on1 lenD) (dCons (dOp oIx (dVar 1) (dC (.int 1))) dNil)) (dC (.int 1))) (dOp oIn (dOp oIx (dVar 1) (dC (.int 1))) (dC (.str "0123456789"))))) t_l_line_fault_6)
def t_l_line_fault_8 : DTS := (dSeq (dIf (dOr (dTestB (dOp oLt (dCB (on1 lenD) (dCons (dVar 1) dNil)) (dC (.int 2)))) (dAnd (dNot (dTru (dVar 2))) (dNot (dTru (dCall r_l_is_letter [] (dCons (dOp oIx (dVar 1) (dC (.int 0))) dNil)))))) (dRet (dC (.int 0))) dNext) t_l_line_fault_7)
def t_l_line_fault : DTS := (dSeq (dSet 1 (dBM .str splitD (dVar 0) (dCons (dC (.str " ")) dNil))) (dSeq (dSet 2 (dOp oEq (dOp oIx (dVar 1) (dC (.int 0))) (dC (.str "same")))) t_l_line_fault_8))
abbrev N_l_line_fault : List Str := ["_law_line", "_law_words", "_law_same", "_law_digit", "_law_parts_here", "_law_k", "_law_part"]
@[irreducible] def r_l_line_fault : DSp := fun ds S Q _ => ∃ line, ds = [.str line] ∧ line.length ≤ 500 ∧ okS line ∧ Q (.int (lineF line)) S
theorem len_l_line_fault : Ln 1 r_l_line_fault := fun ds S Q E h => by unfold r_l_line_fault at h; obtain ⟨w, rfl, _⟩ := h; rfl
theorem i_lfault {line : Str} {S : Sto} {Q : DQ} {X : XQ} (hl : line.length ≤ 500) (ok : okS line) (q : Q (.int (lineF line)) S) : r_l_line_fault [.str line] S Q X := by unfold r_l_line_fault; exact ⟨line, rfl, hl, ok, q⟩
theorem rd_l_line_fault : RdW t_l_line_fault N_l_line_fault r_l_line_fault := by
  intro ds S QD XD h
  unfold r_l_line_fault at h
  obtain ⟨line, rfl, hl, ok, q⟩ := h
  have hz := sizeLine_eq
  obtain ⟨s1, s2⟩ := split_ok (a := line) (b := " ") ok (by decide +kernel) (by decide +kernel)
  have s3 := split_len (a := line) (b := " ") (by decide +kernel) (by decide +kernel)
  have s4 := split_ne line " " (by decide +kernel) (by decide +kernel)
  unfold lineF rdLine at q
  row_hasAll w_w
  refine ⟨⟨by decide +kernel, by omega⟩, ⟨s1, by omega⟩, ?_⟩
  generalize Txt.split line " " = ws at *
  match ws, s1, s2, s3, s4, q with
  | [], _, _, _, s4, _ => exact absurd rfl s4
  | [w0], _, _, _, _, q =>
    row_hasAll w_w
    exact shr_of Sub.refl q
  | w0 :: w1 :: ws, s1, s2, s3, _, q =>
    dsimp only at q
    have hlw : (w0 :: w1 :: ws).length = ws.length + 2 := rfl
    have key : ∀ (sm dg : Bool) (nd : Int) (p : Addr), S p = none → (dg = true → dig1 w1 = some nd) → (sm = true → dg = true) → (match rdPF sm 0 ws with
        | .inl n => QD (.int (n : Nat)) S
        | .inr ps => QD (.int (if sm = true then faultF 4 "a" ps nd else if dg = true then faultF 3 w0 ps nd else faultF 2 w0 ps 0)) S) →
        t_l_line_fault_5 (ends (shrK QD) (shrX XD)) (put (put (put (put (startD N_l_line_fault [D.str line]) 1 (D.lst (List.map D.str (w0 :: w1 :: ws)))) 2 (D.bl sm)) 3 (D.bl dg)) 4 (D.adr p)) (su S p (.lst [])) := by
      clear q
      intro sm dg nd p hp hdg hsd q
      row_hasAll w_w
      have en : (((((w0 :: w1 :: ws).map D.str).length : Nat) : Int) - 2).toNat = ws.length := by rw [List.length_map]; omega
      refine loop_j 2 _ [5, 6] (fun i vs S' => ∃ w5 w6 dn, vs = [w5, w6] ∧ dn.length = i ∧ S' = su S p (.lst (dn.map prt)) ∧ (∀ x ∈ dn, x.2.2.length ≤ 600 ∧ (sm = true → x.2.2 = Str.ofString "a")) ∧ rdPF sm 0 ws = cmb dn (rdPF sm i (ws.drop i))) (by row_hasAll w_env) ?_ ?_ ⟨_, _, [], rfl, rfl, rfl, by simp, by rw [List.drop_zero]; cases rdPF sm 0 ws <;> rfl⟩
      · rintro i _ S1 hi ⟨w5, w6, dn, rfl, hdn, rfl, hsg, hpf⟩
        refine ⟨_, rfl, fun N hN => ?_⟩
        generalize hE : DEnds.mk N _ _ _ _ = E
        have hnx : ∀ δ S, N δ S → E.nx δ S := fun δ S h => by rw [← hE]; exact h
        have hrt : E.rt = shrK QD := by rw [← hE]
        clear hE
        have hlt : i < ws.length := by omega
        have hw : ws[i] ∈ w0 :: w1 :: ws := List.mem_cons_of_mem _ (List.mem_cons_of_mem _ (List.getElem_mem hlt))
        have ok := s1 _ hw
        have hl6 : (ws[i]).length ≤ 600 := by have := s3 _ hw; omega
        have hd := List.drop_eq_getElem_cons hlt
        rw [hd, rdPF] at hpf
        row_hasAll w_w
        rw [show ((2 : Int) + (i : Nat)) = ((2 + i : Nat) : Int) from by omega]
        have hix : ((w0 :: w1 :: ws).map D.str)[2 + i]? = some (.str ws[i]) := by
          rw [List.getElem?_map, Nat.add_comm 2 i]
          show Option.map D.str ws[i]? = _
          rw [List.getElem?_eq_getElem hlt]
          rfl
        refine ik_at (v := .str ws[i]) (by omega) (by rw [Int.toNat_natCast]; exact hix) ?_
        row_hasAll w_w
        refine i_lpart hl6 ok ?_
        cases hr : rdPart ws[i] sm with
        | none =>
          rw [hr] at hpf
          have e0 : rdPF sm 0 ws = .inl (i + 1) := hpf
          rw [e0] at q
          row_hasAll w_w
          show E.rt _ _
          rw [hrt, show ((2 + i : Nat) : Int) - 1 = ((i + 1 : Nat) : Int) from by omega]
          exact shr_of (Sub.new hp) q
        | some x =>
          rw [hr] at hpf
          have hpx := rdPart_len hr ok
          show (_ : Prop)
          rw [show oPT (some x) = prt x from rfl]
          unfold prt
          row_hasAll w_w
          refine hnx _ _ <| hN _ _ (by row_hasAll w_env) ⟨_, _, dn ++ [x], rfl, by rw [List.length_append, hdn]; rfl, by rw [List.map_append]; rfl, fun y hy => ?_, ?_⟩
          · rcases List.mem_append.mp hy with h | h
            · exact hsg y h
            · rw [List.mem_singleton.mp h]
              exact ⟨by have := s3 _ hw; omega, fun hs => by subst hs; exact rdPart_same hr⟩
          · rw [hpf]
            dsimp only
            cases rdPF sm (i + 1) (ws.drop (i + 1)) with
            | inl n => rfl
            | inr ps => show Sum.inr (dn ++ x :: ps) = Sum.inr (dn ++ [x] ++ ps); rw [List.append_assoc]; rfl
      · rintro _ S1 ⟨w5, w6, dn, rfl, hdn, rfl, hsg, hpf⟩
        have e0 : rdPF sm 0 ws = .inr dn := by rw [hpf, en, List.drop_eq_nil_of_le (Nat.le_refl _), rdPF]; show Sum.inr (dn ++ []) = _; rw [List.append_nil]
        rw [e0] at q
        dsimp only at q
        have hdl : dn.length ≤ 1000 := by rw [hdn, en]; omega
        have hd2 : ∀ x ∈ dn, x.2.2.length ≤ 1000 := fun x hx => Nat.le_trans (hsg x hx).1 (by decide)
        cases sm with
        | true =>
          obtain rfl := hsd rfl
          rw [if_pos rfl] at q
          obtain ⟨c, rfl, hc, rfl⟩ := dig1_of (hdg rfl)
          row_hasAll w_w
          rw [show PySem.intText? (one c) = some ((c : Int) - 48) from int_dig hc]
          row_hasAll w_w
          refine i_fault (k := 4) (.inr (.inr rfl)) hdl hd2 ?_
          rw [sd_su_new hp]
          exact shr_of Sub.refl q
        | false =>
          rw [if_neg (by decide)] at q
          row_hasAll w_w
          cases dg with
          | true =>
            rw [if_pos rfl] at q
            obtain ⟨c, rfl, hc, rfl⟩ := dig1_of (hdg rfl)
            row_hasAll w_w
            rw [show PySem.intText? (one c) = some ((c : Int) - 48) from int_dig hc]
            row_hasAll w_w
            refine i_fault (k := 3) (.inr (.inl rfl)) hdl hd2 ?_
            rw [sd_su_new hp]
            exact shr_of Sub.refl q
          | false =>
            rw [if_neg (by decide)] at q
            row_hasAll w_w
            refine i_fault (k := 2) (.inl rfl) hdl hd2 ?_
            rw [sd_su_new hp]
            exact shr_of Sub.refl q
    have fin : ∀ (sm : Bool) (hsm : sm = decide (w0 = Str.ofString "same")), (w0 = Str.ofString "same" ∨ stoneB w0 = true) → t_l_line_fault_7 (ends (shrK QD) (shrX XD)) (put (put (startD N_l_line_fault [D.str line]) 1 (D.lst (List.map D.str (w0 :: w1 :: ws)))) 2 (D.bl sm)) S := by
      intro sm hsm hws
      rw [if_neg (fun h => h hws)] at q
      have hdig := dig1_in (w := w1)
      row_hasAll w_w
      cases hd1 : dig1 w1 with
      | some v =>
        obtain ⟨h1, h2⟩ := hdig.mpr ⟨v, hd1⟩
        rw [decide_eq_true h1]
        row_hasAll w_w
        rw [h2]
        row_hasAll w_w
        intro p hp
        refine key sm true v p hp (fun _ => hd1) (fun _ => rfl) ?_
        rw [if_neg (fun h => by rw [hd1] at h; cases h.2), hd1, ← hsm] at q
        have hw1 : w1 ≠ Str.ofString "all" := fun e => by
          rw [e, show dig1 (Str.ofString "all") = none from by decide +kernel] at hd1
          cases hd1
        cases hr : rdPF sm 0 ws with
        | inl n => rw [hr] at q; exact q
        | inr ps =>
          rw [hr] at q
          dsimp only at q ⊢
          cases sm with
          | true =>
            have hs : w0 = Str.ofString "same" := of_decide_eq_true hsm.symm
            rw [if_pos hs, same13 (sx := Str.ofString "a") (rdPF_same hr)] at q
            rw [if_pos rfl]
            exact q
          | false =>
            have hs : ¬ w0 = Str.ofString "same" := of_decide_eq_false hsm.symm
            rw [if_neg hs, if_neg hw1, count13] at q
            rw [if_neg (by decide), if_pos rfl]
            exact q
      | none =>
        have hno : ¬ (((w1.length : Nat) : Int) = 1 ∧ inS w1 (Str.ofString "0123456789") = true) := fun h => by
          obtain ⟨v, hv⟩ := hdig.mp h
          rw [hd1] at hv
          cases hv
        refine brP (fun h1 => ?_) (fun h1 => ?_)
        · have hi : inS w1 (Str.ofString "0123456789") = false := by
            cases h : inS w1 (Str.ofString "0123456789") with
            | false => rfl
            | true => exact absurd ⟨h1, h⟩ hno
          row_hasAll w_w
          rw [hi]
          row_hasAll w_w
          row_hasAll w_go96
        · row_hasAll w_w
          row_hasAll w_go96
    row_hasAll w_w
    refine brN (fun hsm => ?_) (fun hsm => ?_)
    · row_hasAll w_w
      have ed : decide (w0 = Str.ofString "same") = false := decide_eq_false hsm
      rw [ed]
      row_hasAll w_w
      cases hst : stoneB w0 with
      | false =>
        rw [if_pos (fun h => h.elim hsm (fun h => by rw [hst] at h; cases h))] at q
        row_hasAll w_w
        exact shr_of Sub.refl q
      | true =>
        exact brF (fin false (decide_eq_false hsm).symm (.inr hst))
    · rw [decide_eq_true hsm]
      exact brF (fin true (decide_eq_true hsm).symm (.inl hsm))
end SM
--#ONETAC
namespace SM
open PySem PySem.Spec PyProof.Rows L2
end SM
--#ONETAC
namespace SM
open PySem PySem.Spec PyProof.Rows L2
def asc (s : Str) : Prop := ∀ c ∈ s.cps.toList, c < 128
theorem asc_ok {s : Str} (h : asc s) (hl : s.length ≤ 1000) : okS s := okS_ascii (by rw [sizeLine_eq]; omega) h
theorem cut2_le (s : Str) (n m : Nat) (h : n ≤ m) : (cutS s none (some (n : Int))).length + (cutS s (some (m : Int)) none).length ≤ s.length := by
  rw [← slen_codes, ← slen_codes, cutS_codes, cutS_codes, HT.sIx_none, HT.sIx_none, HT.sIx_nat, HT.sIx_nat, List.length_take, List.length_take, List.length_drop, List.length_drop, slen_codes]
  omega
end SM
--#ONETAC
namespace SM
open PySem PySem.Spec PyProof.Rows L2
def bkBad : Nat → List Str → Option Nat
  | _, [] => none
  | i, l :: r => if 20 ≤ i ∨ lineF l ≠ -1 then some (i + 1) else bkBad (i + 1) r
def bkLns (t : Str) : List Str := if t = Str.ofString "" then [] else Txt.split t "\n"
structure BkT (t : Str) : Prop where
  ok : okS t
  le : t.length ≤ 100000
  ln : ∀ l ∈ bkLns t, l.length ≤ 500
def t_Book_read_sx : DTS := (dSeq (dIf (dTestB (dOp oEq (dVar 1) (dC (.str "")))) (dRet (dMakeL 0 mkF 5 r_Book_init (dCons (dLst dNil) dNil))) dNext) (dSeq (dSet 2 (dLstO dNil)) (dSeq (dFor (dEnum (dCons (dBM .str splitD (dVar 1) (dCons (dC (.str "\n")) dNil)) dNil)) (.tp [(.nm 3), (.nm 4)]) (dSeq (dIf (dTestB (dOp oGe (dVar 3) (dC (.int 20)))) (dRaise 23 (dCons (dOp oAdd (dVar 3) (dC (.int 1))) dNil)) dNext) (dTryR [(22, true)] 5 (dDrop (dBM .lst appD (dVar 2) (dCons (dCall r_p_read_rule [] (dCons (dVar 4) dNil)) dNil))) (fun a_ d_ c_ => (dRaiseF 23 5 a_ (dCons (dOp oAdd (dVar 3) (dC (.int 1))) dNil)))))) (dRet (dMakeL 0 mkF 5 r_Book_init (dCons (dVar 2) dNil))))))
abbrev N_Book_read_sx : List Str := ["cls", "text", "rules", "at", "line", "e"]
@[irreducible] def r_Book_read_sx : DSp := fun ds S Q X => ∃ t, ds = [.cls 5, .str t] ∧ BkT t ∧ (match bkBad 0 (bkLns t) with
  | some n => X ⟨23, [.int (n : Nat)]⟩ S
  | none => ∀ l : List D, l.length = (bkLns t).length → Q (.ins 5 [.lst l]) S)
theorem len_Book_read_sx : Ln 2 r_Book_read_sx := fun ds S Q E h => by unfold r_Book_read_sx at h; obtain ⟨ts, rfl, _⟩ := h; rfl
theorem i_bookReadX {t : Str} {S : Sto} {Q : DQ} {X : XQ} (ht : BkT t) (q : match bkBad 0 (bkLns t) with
  | some n => X ⟨23, [.int (n : Nat)]⟩ S
  | none => ∀ l : List D, l.length = (bkLns t).length → Q (.ins 5 [.lst l]) S) : r_Book_read_sx [.cls 5, .str t] S Q X := by unfold r_Book_read_sx; exact ⟨t, rfl, ht, q⟩
theorem rd_Book_read_sx : RdW t_Book_read_sx N_Book_read_sx r_Book_read_sx := by
  intro ds S QD XD h
  unfold r_Book_read_sx at h
  obtain ⟨t, rfl, ht, q⟩ := h
  have hz := sizeLine_eq
  have h1 := ht.ok
  have h2 := ht.le
  have h3 := ht.ln
  row_hasAll w_w
  by_cases he : t = Str.ofString ""
  · rw [decide_eq_true he]
    have e0 : bkLns t = [] := if_pos he
    rw [e0] at q
    row_hasAll w_w
    exact mk_bookL (.inl rfl) (by decide) (shr_of Sub.refl (q [] rfl))
  · rw [decide_eq_false he]
    have e0 : bkLns t = Txt.split t "\n" := if_neg he
    rw [e0] at q h3
    row_hasAll w_w
    intro p hp
    row_hasAll w_w
    obtain ⟨s1, s2⟩ := split_ok (a := t) (b := "\n") h1 (by decide +kernel) (by decide +kernel)
    refine ⟨⟨by decide +kernel, by omega⟩, ⟨s1, by omega⟩, ?_⟩
    generalize Txt.split t "\n" = ls at *
    refine loop_en (xs := ls) (f := D.str) [3, 4, 5] (fun i r ws S' => ∃ w3 w4 w5, ∃ dn : List Str, ∃ l : List D, ws = [w3, w4, w5] ∧ dn ++ r = ls ∧ i = dn.length ∧ l.length = dn.length ∧ i ≤ 20 ∧ bkBad 0 ls = bkBad i r ∧ Sub S S' ∧ S' p = some (.lst l)) (by row_hasAll w_env) ?_ ?_ ⟨_, _, _, [], [], rfl, rfl, rfl, rfl, by decide, rfl, Sub.new hp, su_same⟩
    · rintro i x r _ S1 ⟨w3, w4, w5, dn, l, rfl, hd, hi, hl, hi20, hb, hs1, e1⟩
      refine ⟨_, rfl, fun N hN => ?_⟩
      have hx : x ∈ ls := by rw [← hd]; simp
      rw [bkBad] at hb
      row_hasAll w_w
      refine brP (fun h20 => ?_) (fun h20 => ?_)
      · rw [if_pos (.inl (by omega))] at hb
        rw [hb] at q
        row_hasAll w_w
        exact shr_x hs1 q
      · row_hasAll w_w
        refine i_read_rule (h3 _ hx) (s1 _ hx) fun S2 hg => ?_
        have e2 := hg _ _ e1
        have bad : ∀ n : Nat, lineF x = (n : Int) → trR [(22, true)] 5 (fun a_ d_ c_ => dRaiseF 23 5 a_ (dCons (dOp oAdd (dVar 3) (dC (D.int 1))) dNil))
            { nx := N, rt := shrK QD, bk := dRet (dMakeL 0 mkF 5 r_Book_init (dCons (dVar 2) dNil)) (ends (shrK QD) (shrX XD)), ct := N, xc := fun x x_1 S' => shrX XD x S' }
            { c := 22, ds := [D.int ↑n] } (put (put (sets [some (D.cls 5), some (D.str t), some (D.adr p), none, none, none] [3, 4, 5] [w3, w4, w5]) 3 (D.int ↑i)) 4 (D.str x)) S2 := fun n hn => by
          rw [if_pos (.inr (by rw [hn]; omega))] at hb
          rw [hb] at q
          row_hasAll w_w
          intro a d
          row_hasAll w_w
          exact shr_x (hs1.trans hg) q
        cases hr : rdLine x with
        | inl n => exact bad n (by unfold lineF; rw [hr])
        | inr v =>
          obtain ⟨k, st, ps, nd⟩ := v
          dsimp only
          cases ho : outK k st ps nd with
          | some n => exact bad n (by unfold lineF; rw [hr]; show partOf k st ps nd = _; unfold partOf; rw [ho])
          | none =>
            have hF : lineF x = -1 := by unfold lineF; rw [hr]; show partOf k st ps nd = _; unfold partOf; rw [ho]
            rw [if_neg (fun z => z.elim (fun z => h20 (by omega)) fun z => z hF)] at hb
            dsimp only
            row_hasAll w_w
            exact hN _ _ (by row_hasAll w_env) ⟨_, _, _, dn ++ [x], l ++ [mrul k st ps nd], rfl, by simpa using hd, by rw [List.length_append, hi]; rfl, by rw [List.length_append, List.length_append, hl]; rfl, by omega, hb, (hs1.trans hg).set hp, su_same⟩
    · rintro i _ S1 ⟨w3, w4, w5, dn, l, rfl, hd, hi, hl, hi20, hb, hs1, e1⟩
      rw [List.append_nil] at hd
      subst hd
      rw [bkBad] at hb
      rw [hb] at q
      row_hasAll w_w
      exact mk_bookL (.inr ⟨p, rfl, e1⟩) (by omega) (shr_of hs1 (q l hl))
end SM
--#ONETAC
namespace SM
open PySem PySem.Spec PyProof.Rows L2
end SM
--#ONETAC
local macro_rules | `(tactic| row_hasAll w_c) => `(tactic| first
  | refine i_bookText (by row_hasAll w_side) (by assumption) ?_
  | refine i_lbookText (by row_hasAll w_side) (by assumption) ?_
  | refine i_lenB (by row_hasAll w_side) ?_
  | refine i_bookRead (by row_hasAll w_side) (by assumption) ?_
  | refine i_lbookIs (by row_hasAll w_side) (by assumption) ?_)
namespace SM
open PySem PySem.Spec PyProof.Rows L2
local macro_rules | `(tactic| row_hasAll w_n) => `(tactic| (try simp only [startD, put_0, put_s, setO_0, setO_s, sets_n, sets_c]))
local macro_rules | `(tactic| row_hasAll w_m) => `(tactic| (row_hasAll w_n; row_hasAll w_w; row_hasAll w_n))
structure LnA (n : Nat) (s : Str) : Prop where
  as : ∀ c ∈ s.cps.toList, c < 128 ∧ c ≠ 10
  le : s.length ≤ n
theorem LnA.mono {n m : Nat} {s : Str} (h : LnA n s) (l : n ≤ m) : LnA m s := ⟨h.as, Nat.le_trans h.le l⟩
theorem LnA.asc {n : Nat} {s : Str} (h : LnA n s) : asc s := fun c hc => (h.as c hc).1
theorem LnA.ok {n : Nat} {s : Str} (h : LnA n s) (l : n ≤ 1000) : okS s := asc_ok h.asc (Nat.le_trans h.le l)
theorem lna_nil {n : Nat} : LnA n (Str.ofString "") := ⟨fun c hc => (List.not_mem_nil (show c ∈ [] from hc)).elim, Nat.zero_le _⟩
theorem join_snoc : ∀ {ls : List Str}, ls ≠ [] → Txt.join "\n" (ls ++ [Str.ofString ""]) = Txt.join "\n" ls ++ "\n" := by
  have e0 : ∀ s : Str, s ++ Str.ofString "" = s := fun s => str_ext (by rw [app_codes]; exact List.append_nil _)
  intro ls h
  rw [TL.join_eq, TL.join_eq]
  induction ls with
  | nil => exact absurd rfl h
  | cons a r ih =>
    cases r with
    | nil => show a ++ "\n" ++ Str.ofString "" = a ++ "\n"; rw [e0]
    | cons b r =>
      show a ++ "\n" ++ Str.join "\n" (b :: r ++ [Str.ofString ""]) = (a ++ "\n" ++ Str.join "\n" (b :: r)) ++ "\n"
      rw [ih (List.cons_ne_nil _ _)]
      exact str_ext (by simp only [app_codes, List.append_assoc])
theorem lna_split {ls : List Str} {n : Nat} (hn : ls ≠ []) (h : ∀ l ∈ ls, LnA n l) : Txt.split (Txt.join "\n" ls) "\n" = ls :=
  TL.split_join (s := 10) (S := []) rfl (by decide +kernel) hn fun p hp hc => (h p hp).as 10 hc |>.2 rfl
theorem lna_len {ls : List Str} (h : ∀ l ∈ ls, LnA 400 l) (hl : ls.length ≤ 30) : (ls.map (·.length)).sum + ls.length * (Str.ofString "\n").length ≤ 13000 := by
  have h1 := sum_le (fun s : Str => s.length) 400 ls fun r hr => (h r hr).le
  rw [show (Str.ofString "\n").length = 1 from rfl]
  have := Nat.mul_le_mul_right 400 hl
  omega
theorem lna_bk {ls : List Str} (h : ∀ l ∈ ls, LnA 400 l) (hl : ls.length ≤ 30) : BkT (Txt.join "\n" ls) := by
  have hj : (Txt.join "\n" ls).length ≤ 13000 := Nat.le_trans (join_len _ _) (lna_len h hl)
  refine ⟨okS_join (by decide +kernel) (fun s hs => (h s hs).ok (by decide)) (Nat.le_trans (lna_len h hl) (by decide)), by omega, fun l hm => ?_⟩
  unfold bkLns at hm
  split at hm
  · exact nomatch hm
  · rename_i hne
    rw [lna_split (fun e => hne (by rw [e]; rfl)) h] at hm
    exact Nat.le_trans (h l hm).le (by decide)
def bkI (t : Str) : Int := match bkBad 0 (bkLns t) with
  | some n => (n : Nat)
  | none => -((bkLns t).length : Nat)
theorem i_lenBl {l : List D} {S : Sto} {Q : DQ} (hl : l.length ≤ 1000) (h : Q (.int (l.length : Nat)) S) : lenI 5 r_Book_len (.ins 5 [.lst l]) S Q := by
  unfold lenI ownI
  refine vk_ins ⟨rfl, ?_⟩
  unfold r_Book_len
  exact ⟨_, rfl, ⟨by omega, by omega⟩, h⟩
def t_l_line_of_k16 : DTS := (dTryZ [(23, true)] (some 1) (dRet (dOp oSub (dC (.int 0)) (dCB (on1 (lenI 5 r_Book_len)) (dCons (dCall (fun ds => r_Book_read_sx (.cls 5 :: ds)) [] (dCons (dVar 0) dNil)) dNil)))) (fun a_ d_ c_ => (dSeq (dIf (dOr (dNot (dTru (dIsE [(23, true)] a_ d_ c_ (dVar 1)))) (dOr (dTru (dIsE [(23, false)] a_ d_ c_ (dVar 1))) (dNot (dTru (dCall r_l_is_int [] (dCons (dXf [(23, 0)] a_ d_ c_ (dVar 1)) dNil)))))) (dRet (dC (.int 99))) dNext) (dRet (dXf [(23, 0)] a_ d_ c_ (dVar 1))))))
abbrev N_l_line_of_k16 : List Str := ["_law_text", "e"]
@[irreducible] def r_l_line_of_k16 : DSp := fun ds S Q _ => ∃ t, ds = [.str t] ∧ BkT t ∧ Q (.int (bkI t)) S
theorem len_l_line_of_k16 : Ln 1 r_l_line_of_k16 := fun ds S Q E h => by unfold r_l_line_of_k16 at h; obtain ⟨t, rfl, _⟩ := h; rfl
theorem i_lineOf16 {t : Str} {S : Sto} {Q : DQ} {X : XQ} (ht : BkT t) (q : Q (.int (bkI t)) S) : r_l_line_of_k16 [.str t] S Q X := by unfold r_l_line_of_k16; exact ⟨t, rfl, ht, q⟩
theorem bkBad_len : ∀ {ls : List Str} {i : Nat}, bkBad i ls = none → ls.length = 0 ∨ i + ls.length ≤ 20
  | [], _, _ => .inl rfl
  | l :: r, i, h => by
    rw [bkBad] at h
    split at h
    · cases h
    · rename_i hn
      have := bkBad_len h
      right
      rw [List.length_cons]
      have : ¬ 20 ≤ i := fun z => hn (.inl z)
      omega
theorem rd_l_line_of_k16 : Rd t_l_line_of_k16 N_l_line_of_k16 r_l_line_of_k16 := by
  intro ds S QD XD h
  unfold r_l_line_of_k16 at h
  obtain ⟨t, rfl, ht, q⟩ := h
  have hz := sizeLine_eq
  row_hasAll w_m
  refine i_bookReadX ht ?_
  unfold bkI at q
  cases hb : bkBad 0 (bkLns t) with
  | some n =>
    rw [hb] at q
    row_hasAll w_m
    intro a d
    row_hasAll w_m
    exact q
  | none =>
    rw [hb] at q
    dsimp only
    intro l hl
    have hlen := bkBad_len hb
    row_hasAll w_m
    refine i_lenBl (by omega) ?_
    row_hasAll w_m
    rw [hl, Int.zero_sub]
    exact q
def t_l_due_k16 : DTS := (dSeq (dIf (dTestB (dOp oEq (dVar 0) (dC (.str "")))) (dRet (dC (.int 0))) dNext) (dSeq (dSet 1 (dBM .str splitD (dVar 0) (dCons (dC (.str "\n")) dNil))) (dSeq (dFor (dRng1 (dCons (dCB (on1 lenD) (dCons (dVar 1) dNil)) dNil)) (.nm 2) (dIf (dOr (dTestB (dOp oGt (dVar 2) (dC (.int 19)))) (dTestB (dOp oNe (dCall r_l_line_fault [] (dCons (dOp oIx (dVar 1) (dVar 2)) dNil)) (dNeg (dC (.int 1)))))) (dRet (dOp oAdd (dVar 2) (dC (.int 1)))) dNext)) (dRet (dOp oSub (dC (.int 0)) (dCB (on1 lenD) (dCons (dVar 1) dNil)))))))
abbrev N_l_due_k16 : List Str := ["_law_text", "_law_lines", "_law_k"]
@[irreducible] def r_l_due_k16 : DSp := fun ds S Q _ => ∃ t, ds = [.str t] ∧ BkT t ∧ Q (.int (bkI t)) S
theorem len_l_due_k16 : Ln 1 r_l_due_k16 := fun ds S Q E h => by unfold r_l_due_k16 at h; obtain ⟨t, rfl, _⟩ := h; rfl
theorem i_due16 {t : Str} {S : Sto} {Q : DQ} {X : XQ} (ht : BkT t) (q : Q (.int (bkI t)) S) : r_l_due_k16 [.str t] S Q X := by unfold r_l_due_k16; exact ⟨t, rfl, ht, q⟩
theorem rd_l_due_k16 : Rd t_l_due_k16 N_l_due_k16 r_l_due_k16 := by
  intro ds S QD XD h
  unfold r_l_due_k16 at h
  obtain ⟨t, rfl, ht, q⟩ := h
  have hz := sizeLine_eq
  have h1 := ht.ok
  have h2 := ht.le
  have h3 := ht.ln
  unfold bkI at q
  row_hasAll w_m
  by_cases he : t = Str.ofString ""
  · rw [decide_eq_true he]
    have e0 : bkLns t = [] := if_pos he
    rw [e0] at q
    row_hasAll w_m
    exact q
  · rw [decide_eq_false he]
    have e0 : bkLns t = Txt.split t "\n" := if_neg he
    rw [e0] at q h3
    row_hasAll w_m
    obtain ⟨s1, s2⟩ := split_ok (a := t) (b := "\n") h1 (by decide +kernel) (by decide +kernel)
    refine ⟨⟨by decide +kernel, by omega⟩, ⟨s1, by omega⟩, ?_⟩
    generalize Txt.split t "\n" = ls at *
    row_hasAll w_m
    rw [List.length_map]
    refine loop_i ((ls.length : Int) - 0).toNat [2] (fun i ws S' => S = S' ∧ bkBad 0 ls = bkBad i (ls.drop i) ∧ ∃ w, ws = [w]) (by row_hasAll w_env) ?_ ?_ ⟨rfl, rfl, _, rfl⟩
    · rintro i _ _ hi ⟨rfl, hb, w, rfl⟩
      refine ⟨_, rfl, fun N hN => ?_⟩
      have hlt : i < ls.length := by omega
      rw [List.drop_eq_getElem_cons hlt, bkBad] at hb
      have hx : ls[i] ∈ ls := List.getElem_mem hlt
      rw [Int.zero_add]
      row_hasAll w_m
      refine brP (fun hk => ?_) (fun hk => ?_)
      · rw [if_pos (.inl (by omega))] at hb
        rw [hb] at q
        row_hasAll w_m
        exact q
      · row_hasAll w_m
        refine ik_at (v := .str ls[i]) (by omega) (by rw [Int.toNat_natCast, List.getElem?_map, List.getElem?_eq_getElem hlt]; rfl) ?_
        row_hasAll w_m
        refine i_lfault (h3 _ hx) (s1 _ hx) ?_
        row_hasAll w_m
        refine brN (fun hf => ?_) (fun hf => ?_)
        · rw [if_pos (.inr hf)] at hb
          rw [hb] at q
          row_hasAll w_m
          exact q
        · rw [if_neg (fun z => z.elim (fun z => hk (by omega)) fun z => z hf)] at hb
          row_hasAll w_m
          exact hN _ _ (by row_hasAll w_env) ⟨rfl, hb, _, rfl⟩
    · rintro _ _ ⟨rfl, hb, w, rfl⟩
      rw [show ((ls.length : Int) - 0).toNat = ls.length by omega, List.drop_length, bkBad] at hb
      rw [hb] at q
      row_hasAll w_m
      rw [List.length_map, Int.zero_sub]
      exact q
def t_l_made_of_k16 : DTS := (dTryAs [(23, true)] 2 (dRet (dOp oSub (dC (.int 0)) (dCB (on1 (lenI 5 r_Book_len)) (dCons (dMake mkF 5 r_Book_init [] (dCons (dLc (dItems (dVar 0)) (.nm 1) dYes (dCall r_l_made [] (dCons (dVar 1) dNil)) [1]) dNil)) dNil)))) (fun a_ d_ c_ => (dRet (dXf [(23, 0)] a_ d_ c_ (dVar 2)))))
abbrev N_l_made_of_k16 : List Str := ["_law_rules_here", "_law_rule_here", "e"]
@[irreducible] def r_l_made_of_k16 : DSp := fun ds S Q _ => ∃ ts : List GR, ds = [.lst (ts.map tD)] ∧ ts.length ≤ 100 ∧ (∀ t ∈ ts, LRt t) ∧ Q (.int (if ts.length ≤ 20 then -(ts.length : Nat) else 21)) S
theorem len_l_made_of_k16 : Ln 1 r_l_made_of_k16 := fun ds S Q E h => by unfold r_l_made_of_k16 at h; obtain ⟨t, rfl, _⟩ := h; rfl
theorem i_madeOf16 {ts : List GR} {S : Sto} {Q : DQ} {X : XQ} (hl : ts.length ≤ 100) (ho : ∀ t ∈ ts, LRt t) (q : Q (.int (if ts.length ≤ 20 then -(ts.length : Nat) else 21)) S) : r_l_made_of_k16 [.lst (ts.map tD)] S Q X := by unfold r_l_made_of_k16; exact ⟨ts, rfl, hl, ho, q⟩
theorem rd_l_made_of_k16 : RdW t_l_made_of_k16 N_l_made_of_k16 r_l_made_of_k16 := by
  intro ds S QD XD h
  unfold r_l_made_of_k16 at h
  obtain ⟨ts, rfl, hl, ho, q⟩ := h
  have hz := sizeLine_eq
  row_hasAll w_m
  refine lk_st (xs := ts) (g := tD) (fun r acc S' => Sub S S' ∧ (∀ t ∈ r, LRt t) ∧ acc.length + r.length = ts.length) ?_ ?_ ?_
  · rintro t r acc S1 ⟨hs1, hr, hn⟩
    refine ⟨True.intro, _, rfl, fun Q' hq => ?_⟩
    row_hasAll w_m
    refine i_made (hr t (List.mem_cons_self ..)) fun S2 hg => ?_
    exact hq _ _ ⟨hs1.trans hg, fun x hx => hr x (List.mem_cons_of_mem _ hx), by rw [List.length_append]; simp only [List.length_cons, List.length_nil] at hn ⊢; omega⟩
  · exact ⟨Sub.refl, ho, by simp⟩
  · rintro acc S1 ⟨hs1, -, hn⟩
    refine ⟨True.intro, ?_⟩
    have hn : acc.length = ts.length := by simpa using hn
    row_hasAll w_m
    by_cases h20 : ts.length ≤ 20
    · rw [if_pos h20] at q
      refine mk_bookL (.inl rfl) (by omega) ?_
      row_hasAll w_m
      refine i_lenBl (by omega) ?_
      row_hasAll w_m
      rw [hn, Int.zero_sub]
      exact shr_of hs1 q
    · rw [if_neg h20] at q
      refine mk_bookX (.inl rfl) (by omega) (by omega) ?_
      row_hasAll w_m
      intro a d
      row_hasAll w_m
      exact shr_of hs1 q
theorem line_asc16 {k : Nat} {st : Str} {ps : List Part} {nd : Int} (h : SmP st ps nd) (hs : ∀ c ∈ st.cps.toList, c < 128) (hp : ∀ p ∈ ps, ∀ c ∈ p.2.2.cps.toList, c < 128) : asc (lineT k st ps nd) := by
  have hn : -8 ≤ nd ∧ nd ≤ 8 := ⟨by have := h.n0; omega, h.n8⟩
  unfold lineT
  intro c hc
  rcases joinT_codes hc with hc | ⟨w, hw, hc⟩
  · have : c = 32 := by simpa using (show c ∈ [32] from hc)
    omega
  revert c
  rcases List.mem_append.mp hw with hw | hw
  · unfold headT at hw
    split at hw
    · simp only [List.mem_cons, List.not_mem_nil, or_false] at hw
      rcases hw with rfl | rfl
      · have e : ∀ c ∈ (Str.ofString "same").cps.toList, c < 128 := by decide +kernel
        exact fun c _ hc => e c hc
      · intro c _ hc; have := num_codes hn c hc; omega
    · split at hw
      · simp only [List.mem_cons, List.not_mem_nil, or_false] at hw
        rcases hw with rfl | rfl
        · exact fun c _ hc => hs c hc
        · have e : ∀ c ∈ (Str.ofString "all").cps.toList, c < 128 := by decide +kernel
          exact fun c _ hc => e c hc
      · simp only [List.mem_cons, List.not_mem_nil, or_false] at hw
        rcases hw with rfl | rfl
        · exact fun c _ hc => hs c hc
        · intro c _ hc; have := num_codes hn c hc; omega
  · obtain ⟨p, hpp, rfl⟩ := List.mem_map.mp hw
    obtain ⟨ho, hl⟩ := h.ok p hpp
    have hcell := cellT_codes (c := pk p) ho
    intro c _ hc
    unfold wordT at hc
    split at hc
    · have := hcell c hc; omega
    · have hc : c ∈ (cellT (pk p) ++ ":" ++ p.2.2).cps.toList := hc
      rw [app_codes, app_codes] at hc
      rcases List.mem_append.mp hc with hc | hc
      · rcases List.mem_append.mp hc with hc | hc
        · have := hcell c hc; omega
        · have : c = 58 := by simpa using (show c ∈ [58] from hc)
          omega
      · exact hp p hpp c hc
theorem drawn16 {k : Nat} {hue : Str} {ps : List Part} {nd : Int} (hr : LR k hue ps nd) : lineF (lineT k hue (sortP ps) nd) = -1 ∧ asc (lineT k hue (sortP ps) nd) := by
  have hq := sort_ok hr.ok
  have hlen : (sortP ps).length = ps.length := sortP_len ps
  have hrq : LR k hue (sortP ps) nd := ⟨hr.kd, hr.hu, hq, hr.n0, by rw [hlen]; exact hr.n1⟩
  have n8 : nd ≤ 8 := by have := hr.n1; have := hr.ok.le; omega
  obtain ⟨c, ec, hc⟩ := hr.hu
  have hlr := let_rng hc
  refine ⟨?_, ?_⟩
  · unfold lineF
    rw [line_back ⟨hr.kd, fun _ => hr.hu, fun p hp => ⟨(hq.ok p hp).1, cond_ls (hq.ok p hp).2.1⟩, hr.n0, n8⟩]
    dsimp only
    unfold partOf
    rcases hr.kd with rfl | rfl | rfl
    · rw [if_neg (by decide), if_neg (by decide), if_pos rfl]
      have e : outK 2 hue (sortP ps) 0 = none := hrq.out
      rw [e]
    · rw [if_neg (by decide), if_neg (by decide), if_neg (by decide)]
      have e : outK 3 hue (sortP ps) nd = none := hrq.cout
      rw [e]
    · rw [if_pos rfl, if_pos rfl, if_neg (by decide)]
      have ep : ((sortP ps).map fun p : Part => (p.1, p.2.1, Str.ofString "a")).map pk = (sortP ps).map pk := by rw [List.map_map]; rfl
      have e : outK 4 "same" ((sortP ps).map fun p : Part => (p.1, p.2.1, Str.ofString "a")) nd = none := by
        unfold outK
        rw [if_neg (by decide), if_neg (by decide), ep]
        exact hrq.sout
      rw [e]
  · have hn : -8 ≤ nd ∧ nd ≤ 8 := ⟨by have := hr.n0; omega, n8⟩
    have sm : SmP hue (sortP ps) nd := ⟨by rw [ec]; show 1 ≤ 10; decide, hq.le, fun p hp => ⟨(hq.ok p hp).1, (hq.ok p hp).2.2⟩, hr.n0, n8⟩
    refine line_asc16 sm (fun y hy => ?_) fun p hp => ls_ascii (cond_ls (hq.ok p hp).2.1)
    rw [ec] at hy
    have : y = c := by simpa using (show y ∈ [c] from hy)
    omega
theorem bkBad_good : ∀ {ls : List Str} {i : Nat}, (∀ l ∈ ls, lineF l = -1) → i ≤ 20 → bkBad i ls = if i + ls.length ≤ 20 then none else some 21
  | [], i, _, hi => by rw [bkBad, if_pos (by simpa using hi)]
  | l :: r, i, h, hi => by
    rw [bkBad]
    by_cases h20 : 20 ≤ i
    · rw [if_pos (.inl h20), if_neg (by rw [List.length_cons]; omega), show i = 20 by omega]
    · rw [if_neg (fun z => z.elim h20 fun z => z (h l (List.mem_cons_self ..))), bkBad_good (fun x hx => h x (List.mem_cons_of_mem _ hx)) (by omega), List.length_cons]
      have e : i + 1 + r.length = i + (r.length + 1) := by omega
      rw [e]
def dueI (n : Nat) : Int := if n ≤ 20 then -(n : Int) else 21
theorem bkLns_book {ts : List GR} (h : ∀ t ∈ ts, LRt t) : bkLns (bookT ts) = ts.map lnT := by
  cases ts with
  | nil => rfl
  | cons t r =>
    unfold bkLns
    rw [if_neg (bookT_ne h (List.cons_ne_nil _ _)), bookT_split h (List.cons_ne_nil _ _)]
theorem bkI_book {ts : List GR} (h : ∀ t ∈ ts, LRt t) : bkI (bookT ts) = dueI ts.length := by
  unfold bkI dueI
  rw [bkLns_book h, bkBad_good (fun l hl => by obtain ⟨t, ht, rfl⟩ := List.mem_map.mp hl; exact (drawn16 (h t ht)).1) (by decide), List.length_map, Nat.zero_add]
  by_cases h20 : ts.length ≤ 20
  · rw [if_pos h20, if_pos h20]
  · rw [if_neg h20, if_neg h20]
    rfl
theorem lna_lnT {t : GR} (h : LRt t) : LnA 370 (lnT t) := ⟨fun c hc => ⟨(drawn16 h).2 c hc, fun e => (lnT_ok h).nl (e ▸ hc)⟩, (lnT_ok h).len⟩
theorem lna_put {n : Nat} {l : Str} {k c : Nat} (h : LnA n l) (hc : c < 128 ∧ c ≠ 10) : LnA (n + 1) (cutS l none (some (k : Int)) ++ one c ++ cutS l (some ((k + 1 : Nat) : Int)) none) := by
  have cu : ∀ lo hi, ∀ x ∈ (cutS l lo hi).cps.toList, x < 128 ∧ x ≠ 10 := fun lo hi x hx => by
    rw [cutS_codes] at hx
    exact h.as x (List.mem_of_mem_drop (List.mem_of_mem_take hx))
  have c1 := cut2_le l k (k + 1) (by omega)
  have ho1 : (one c).length = 1 := rfl
  refine ⟨fun x hx => ?_, by rw [slen_app, slen_app, ho1]; have := h.le; omega⟩
  rw [app_codes, app_codes] at hx
  rcases List.mem_append.mp hx with hx | hx
  · rcases List.mem_append.mp hx with hx | hx
    · exact cu _ _ x hx
    · have : x = c := by simpa [one] using hx
      rw [this]; exact hc
  · exact cu _ _ x hx
theorem ixN_nat16 {n k : Nat} (h : k < n) : ixN n (k : Int) = some k := by
  unfold ixN
  split <;> first | (simp; done) | (exfalso; omega) | (split <;> first | (simp; done) | (exfalso; omega))
theorem alpha16 : ∀ n : Nat, n < 9 → ∃ c, (Str.ofString "-04,:ab# ").cps.toList[n]? = some c ∧ c < 128 ∧ c ≠ 10 := by
  decide +kernel
def t_law_k16_1 (a : Addr) (ns : List Int) : DTS := (dSeq (dSetL (dVar 5) (dVar 8) (dOp oAdd (dOp oAdd (dSl oSl (dVar 9) dNoPart (dPart (dVar 10))) (dOp oIx (dC (.str "-04,:ab# ")) (dCall r_l_take [] (dCons (dVar 1) (dCons (dC (.int 9)) dNil))))) (dSl oSl (dVar 9) (dPart (dOp oAdd (dVar 10) (dC (.int 1)))) dNoPart))) (dIf (dTestB (dOp oEq (dCall r_l_take [] (dCons (dVar 1) (dCons (dC (.int 4)) dNil))) (dC (.int 0)))) (dSetL (dVar 5) (dVar 8) (dC (.str ""))) dNext))
def t_law_k16_2 (a : Addr) (ns : List Int) : DTS := (dSeq (dSet 9 (dOp oIx (dVar 5) (dVar 8))) (dSeq (dSet 10 (dCall r_l_take [] (dCons (dVar 1) (dCons (dOp oAdd (dCB (on1 lenD) (dCons (dVar 9) dNil)) (dC (.int 1))) dNil)))) (t_law_k16_1 a ns)))
def t_law_k16_3 (a : Addr) (ns : List Int) : DTS := (dIf (dTestB (dOp oNe (dVar 5) (dLst dNil))) (dSeq (dSet 8 (dCall r_l_take [] (dCons (dVar 1) (dCons (dCB (on1 lenD) (dCons (dVar 5) dNil)) dNil)))) (t_law_k16_2 a ns)) dNext)
def t_law_k16_4 (a : Addr) (ns : List Int) : DTS := (dRet (dAndV (dOp oEq (dCall r_l_line_of_k16 [] (dCons (dVar 11) dNil)) (dCall r_l_due_k16 [] (dCons (dVar 11) dNil))) (dOp oEq (dCall r_l_line_of_k16 [] (dCons (dOp oAdd (dVar 11) (dC (.str "\n"))) dNil)) (dCall r_l_due_k16 [] (dCons (dOp oAdd (dVar 11) (dC (.str "\n"))) dNil)))))
def t_law_k16_5 (a : Addr) (ns : List Int) : DTS := (dSeq (dFor (dRng1 (dCons (dCall r_l_take [] (dCons (dVar 1) (dCons (dC (.int 4)) dNil))) dNil)) (.nm 7) (t_law_k16_3 a ns)) (dSeq (dSet 11 (dBM .str joinD (dC (.str "\n")) (dCons (dVar 5) dNil))) (t_law_k16_4 a ns)))
def t_law_k16_6 (a : Addr) (ns : List Int) : DTS := (dSeq (dIf (dTestB (dOp oNe (dCall r_l_line_of_k16 [] (dCons (dBM .str joinD (dC (.str "\n")) (dCons (dVar 5) dNil)) dNil)) (dVar 4))) (dRet (dC (.bl false))) dNext) (t_law_k16_5 a ns))
def t_law_k16_7 (a : Addr) (ns : List Int) : DTS := (dSeq (dIf (dTestB (dOp oNe (dCall r_l_made_of_k16 [] (dCons (dVar 3) dNil)) (dVar 4))) (dRet (dC (.bl false))) dNext) (dSeq (dSet 5 (dLcO (dItems (dVar 3)) (.nm 6) dYes (dCall r_l_written [] (dCons (dVar 6) dNil)) [6])) (t_law_k16_6 a ns)))
def t_law_k16_8 (a : Addr) (ns : List Int) : DTS := (dSeq (dSet 4 (dOp oSub (dC (.int 0)) (dCB (on1 lenD) (dCons (dVar 3) dNil)))) (dCut (dIf (dTestB (dOp oGt (dCB (on1 lenD) (dCons (dVar 3) dNil)) (dC (.int 20)))) (dSet 4 (dC (.int 21))) dNext) (t_law_k16_7 a ns)))
def t_law_k16_9 (a : Addr) (ns : List Int) : DTS := (dCut (dIf (dAnd (dTestB (dOp oEq (dCall r_l_take [] (dCons (dVar 1) (dCons (dC (.int 3)) dNil))) (dC (.int 0)))) (dTestB (dOp oNe (dVar 3) (dLst dNil)))) (dSet 3 (dSl oSl (dOp oMul (dVar 3) (dC (.int 24))) dNoPart (dPart (dOp oAdd (dC (.int 17)) (dCall r_l_take [] (dCons (dVar 1) (dCons (dC (.int 8)) dNil))))))) dNext) (t_law_k16_8 a ns))
def t_law_k16 (a : Addr) (ns : List Int) : DTS := (dSeq (dSet 1 (dCall (rScr a ns r_l_bag) [] (dCons (dVar 0) dNil))) (dSeq (dSet 2 (dCall r_l_palette [] (dCons (dVar 1) dNil))) (dSeq (dSet 3 (dCall r_l_rules [] (dCons (dVar 1) (dCons (dVar 2) dNil)))) (t_law_k16_9 a ns))))
abbrev N_law_k16 : List Str := ["_law_script", "_law_bag_here", "_law_palette_here", "_law_rules_here", "_law_due_here", "_law_lines", "_law_rule_here", "_law_k", "_law_at", "_law_line", "_law_spot", "_law_text"]
theorem rd_law_k16 (a : Addr) (ns : List Int) (hn : ns.length ≤ 63) : Rd (t_law_k16 a ns) N_law_k16 (rLaw a ns) := by
  intro ds S QD XD h
  unfold rLaw at h
  obtain ⟨rfl, q⟩ := h
  have hz := sizeLine_eq
  row_hasAll w_m
  refine i_bag fun p b hp => ?_
  row_hasAll w_m
  refine i_palette su_same fun pal b1 hpal => ?_
  row_hasAll w_m
  refine i_rules (b := b1) su_same hpal fun ts0 b2 hl0 hok0 => ?_
  row_hasAll w_m
  refine cut_e [3] (fun ws S' => ∃ (ts : List GR) (b' : Bag), ws = [some (.lst (ts.map tD))] ∧ ts.length ≤ 24 ∧ (∀ t ∈ ts, LRt t) ∧ S' = su S p (bagO b')) (by row_hasAll w_env) ?_ ?_
  · row_hasAll w_m
    refine i_take (b := b2) su_same (by decide) (by decide) fun v b3 v0 v1 => ?_
    row_hasAll w_m
    refine brP (fun hv => ?_) (fun hv => ?_)
    · row_hasAll w_m
      refine ⟨by rw [pln_tDs]; rfl, ?_⟩
      rw [eqB_tDs0]
      refine brN (fun hn => ?_) (fun hn => ?_)
      · row_hasAll w_m
        refine i_takeB (by decide) (by decide) fun v2 b4 v3 v4 => ?_
        obtain ⟨m, rfl⟩ : ∃ m : Nat, v2 = (m : Int) := ⟨v2.toNat, by omega⟩
        row_hasAll w_m
        rw [show ((17 : Int) + (m : Int)) = ((17 + m : Nat) : Int) by omega, cutD_to, rep_map, ← List.map_take]
        exact ⟨_, b4, rfl, by rw [List.length_take]; omega, fun t ht => hok0 t (mem_rep (List.mem_of_mem_take ht)), rfl⟩
      · row_hasAll w_m
        exact ⟨ts0, b3, rfl, by omega, hok0, rfl⟩
    · row_hasAll w_m
      exact ⟨ts0, b3, rfl, by omega, hok0, rfl⟩
  rintro _ _ ⟨ts, b3, rfl, hl, hok, rfl⟩
  clear hl0 hok0
  row_hasAll w_m
  rw [List.length_map]
  refine cut_e [4] (fun ws S' => ws = [some (.int (dueI ts.length))] ∧ S' = su S p (bagO b3)) (by row_hasAll w_env) ?_ ?_
  · row_hasAll w_m
    rw [List.length_map]
    unfold dueI
    refine brP (fun h20 => ?_) (fun h20 => ?_)
    · row_hasAll w_m
      rw [if_neg (by omega)]
      exact ⟨rfl, True.intro⟩
    · row_hasAll w_m
      rw [if_pos (by omega), Int.zero_sub]
      exact ⟨rfl, True.intro⟩
  rintro _ _ ⟨rfl, rfl⟩
  row_hasAll w_m
  refine i_madeOf16 (by omega) hok ?_
  row_hasAll w_m
  rw [show (if ts.length ≤ 20 then -((ts.length : Nat) : Int) else 21) = dueI ts.length from rfl, decide_eq_true rfl]
  row_hasAll w_m
  refine lk_map (xs := ts) (g := tD) (f := fun t => .str (lnT t)) (fun t ht => ⟨_, rfl, fun Q' hh => ?_⟩) ?_
  · row_hasAll w_m
    exact i_lwritten (hok t ht) hh
  row_hasAll w_m
  intro z hzn
  row_hasAll w_m
  have hzp : z ≠ p := fun e => by rw [e, su_same] at hzn; cases hzn
  have hlines : ∀ l ∈ ts.map lnT, LnA 370 l := fun l hl => by obtain ⟨t, ht, rfl⟩ := List.mem_map.mp hl; exact lna_lnT (hok t ht)
  have hln : (ts.map lnT).length ≤ 24 := by rw [List.length_map]; exact hl
  have hI := bkI_book hok
  rw [strsD_map]
  refine ⟨Nat.le_trans (lna_len (fun l h => (hlines l h).mono (by decide)) (by omega)) (by decide), ?_⟩
  row_hasAll w_m
  refine i_lineOf16 (lna_bk (fun l h => (hlines l h).mono (by decide)) (by omega)) ?_
  rw [show Txt.join (Str.ofString "\n") (ts.map lnT) = bookT ts from rfl, hI]
  row_hasAll w_m
  have hb3 : su (su S p (bagO b3)) z (.lst (ts.map fun t => D.str (lnT t))) p = some (bagO b3) := by rw [su_ne (Ne.symm hzp)]; exact su_same
  refine i_take hb3 (by decide) (by decide) fun v b4 v0 v1 => ?_
  have hb4 : su (su (su S p (bagO b3)) z (.lst (ts.map fun t => D.str (lnT t)))) p (bagO b4) p = some (bagO b4) := su_same
  have hz4 : su (su (su S p (bagO b3)) z (.lst (ts.map fun t => D.str (lnT t)))) p (bagO b4) z = some (.lst ((ts.map lnT).map D.str)) := by rw [su_ne hzp, su_same, List.map_map]; rfl
  generalize su (su (su S p (bagO b3)) z (.lst (ts.map fun t => D.str (lnT t)))) p (bagO b4) = S2 at *
  generalize ts.map lnT = ls0 at *
  clear hI hb3
  row_hasAll w_m
  have fin : ∀ (ls : List Str) (w7 w8 w9 w10 : Option D) (S3 : Sto), (∀ l ∈ ls, LnA 399 l) → ls.length ≤ 29 → S3 z = some (.lst (ls.map D.str)) →
      (dSeq (dSet 11 (dBM .str joinD (dC (.str "\n")) (dCons (dVar 5) dNil))) (t_law_k16_4 a ns)) (ends QD XD) [some (D.adr a), some (D.adr p), some (D.str pal), some (D.lst (List.map tD ts)), some (D.int (dueI ts.length)), some (D.adr z), none, w7, w8, w9, w10, none] S3 := by
    intro ls w7 w8 w9 w10 S3 hls hn3 hS3
    have h400 : ∀ l ∈ ls, LnA 400 l := fun l h => (hls l h).mono (by decide)
    have bt : BkT (Txt.join "\n" ls ++ "\n") := by
      by_cases e : ls = []
      · subst e
        exact lna_bk (ls := [Str.ofString "", Str.ofString ""]) (fun l h => by
          rcases List.mem_cons.mp h with rfl | h
          · exact lna_nil
          · rw [List.mem_singleton.mp h]; exact lna_nil) (by decide)
      · rw [← join_snoc e]
        exact lna_bk (fun l h => (List.mem_append.mp h).elim (h400 l) fun h => by rw [List.mem_singleton.mp h]; exact lna_nil) (by rw [List.length_append]; show _ + 1 ≤ 30; omega)
    have bt0 := lna_bk h400 (by omega)
    have hjl : (Txt.join "\n" ls).length ≤ 13000 := Nat.le_trans (join_len _ _) (lna_len h400 (by omega))
    row_hasAll w_m
    rw [show ls.map D.str = ls.map (fun l => D.str l) from rfl, strsD_map, List.map_id']
    refine ⟨Nat.le_trans (lna_len h400 (by omega)) (by decide), ?_⟩
    row_hasAll w_m
    refine i_lineOf16 bt0 ?_
    row_hasAll w_m
    refine i_due16 bt0 ?_
    row_hasAll w_m
    have el : (Txt.join (Str.ofString "\n") ls ++ Str.ofString "\n").length ≤ 100000 := bt.le
    rw [slen_app] at el
    refine ⟨by omega, ?_⟩
    row_hasAll w_m
    refine i_lineOf16 bt ?_
    row_hasAll w_m
    refine i_due16 bt ?_
    row_hasAll w_m
    exact q _
  refine loop_i (v - 0).toNat [7, 8, 9, 10] (fun i ws S' => ∃ w7 w8 w9 w10, ∃ (ls : List Str) (b' : Bag), ws = [w7, w8, w9, w10] ∧ (∀ l ∈ ls, LnA (370 + i) l) ∧ ls.length ≤ 29 ∧ S' p = some (bagO b') ∧ S' z = some (.lst (ls.map D.str))) (by row_hasAll w_env) ?_ ?_ ⟨_, _, _, _, ls0, b4, rfl, hlines, by omega, hb4, hz4⟩
  · rintro i _ S3 hi ⟨w7, w8, w9, w10, ls, b5, rfl, hls, hn3, hb5, hz5⟩
    refine ⟨_, rfl, fun N hN => ?_⟩
    row_hasAll w_m
    rw [show eqB (D.lst (ls.map D.str)) (D.lst []) = decide (ls = []) by cases ls <;> rfl]
    refine brN (fun hne => ?_) (fun hne => ?_)
    · have hpos : 0 < ls.length := List.length_pos_iff.mpr hne
      row_hasAll w_m
      refine i_take hb5 (by rw [List.length_map]; omega) (by rw [List.length_map]; omega) fun at_ b6 a0 a1 => ?_
      have hb6 : su S3 p (bagO b6) p = some (bagO b6) := su_same
      have hz6 : su S3 p (bagO b6) z = some (.lst (ls.map D.str)) := by rw [su_ne hzp]; exact hz5
      generalize su S3 p (bagO b6) = S4 at *
      rw [List.length_map] at a1
      obtain ⟨k, rfl⟩ : ∃ k : Nat, at_ = (k : Int) := ⟨at_.toNat, by omega⟩
      have hk : k < ls.length := by omega
      have hlk := hls _ (List.getElem_mem hk)
      have hget : (ls.map D.str)[k]? = some (.str ls[k]) := by rw [List.getElem?_map, List.getElem?_eq_getElem hk]; rfl
      row_hasAll w_m
      refine ik_at (v := .str ls[k]) (by omega) (by rw [Int.toNat_natCast]; exact hget) ?_
      have hl0 := hlk.le
      row_hasAll w_m
      refine i_take hb6 (by omega) (by omega) fun sp b7 p0 p1 => ?_
      have hb7 : su S4 p (bagO b7) p = some (bagO b7) := su_same
      have hz7 : su S4 p (bagO b7) z = some (.lst (ls.map D.str)) := by rw [su_ne hzp]; exact hz6
      generalize su S4 p (bagO b7) = S5 at *
      obtain ⟨sp, rfl⟩ : ∃ k : Nat, sp = (k : Int) := ⟨sp.toNat, by omega⟩
      row_hasAll w_m
      refine i_take hb7 (by decide) (by decide) fun sg b8 g0 g1 => ?_
      have hb8 : su S5 p (bagO b8) p = some (bagO b8) := su_same
      have hz8 : su S5 p (bagO b8) z = some (.lst (ls.map D.str)) := by rw [su_ne hzp]; exact hz7
      generalize su S5 p (bagO b8) = S6 at *
      obtain ⟨sg, rfl⟩ : ∃ m : Nat, sg = (m : Int) := ⟨sg.toNat, by omega⟩
      obtain ⟨c, hc, hc8⟩ := alpha16 sg (by omega)
      have hput := lna_put (k := sp) hlk hc8
      have hpl := hput.le
      have c1 := cut2_le ls[k] sp (sp + 1) (by omega)
      have ho1 : (one c).length = 1 := rfl
      row_hasAll w_m
      refine ik_at (by omega) (by rw [Int.toNat_natCast]; exact hc) ?_
      row_hasAll w_m
      rw [show ((sp : Nat) : Int) + 1 = ((sp + 1 : Nat) : Int) from rfl]
      refine ⟨by rw [slen_app, ho1]; omega, ?_⟩
      row_hasAll w_m
      rw [ixN_nat16 (by rw [List.length_map]; exact hk)]
      dsimp only
      rw [← List.map_set]
      generalize cutS ls[k] none (some (sp : Int)) ++ one c ++ cutS ls[k] (some ((sp + 1 : Nat) : Int)) none = nl at *
      have hset : ∀ s : Str, LnA (370 + i + 1) s → ∀ ms : List Str, (∀ l ∈ ms, LnA (370 + i + 1) l) → ∀ l ∈ ms.set k s, LnA (370 + i + 1) l := fun s hs ms hms l hl => (List.mem_or_eq_of_mem_set hl).elim (hms l) fun e => e ▸ hs
      have hls1 : ∀ l ∈ ls.set k nl, LnA (370 + i + 1) l := hset nl hput ls fun l h => (hls l h).mono (by omega)
      have hn4 : (ls.set k nl).length = ls.length := List.length_set
      have hb9 : su S6 z (.lst ((ls.set k nl).map D.str)) p = some (bagO b8) := by rw [su_ne (Ne.symm hzp)]; exact hb8
      have hz9 : su S6 z (.lst ((ls.set k nl).map D.str)) z = some (.lst ((ls.set k nl).map D.str)) := su_same
      generalize su S6 z (.lst ((ls.set k nl).map D.str)) = S7 at *
      row_hasAll w_m
      refine i_take hb9 (by decide) (by decide) fun em b9 e0 e1 => ?_
      have hb10 : su S7 p (bagO b9) p = some (bagO b9) := su_same
      have hz10 : su S7 p (bagO b9) z = some (.lst ((ls.set k nl).map D.str)) := by rw [su_ne hzp]; exact hz9
      generalize su S7 p (bagO b9) = S8 at *
      row_hasAll w_m
      refine brP (fun he => ?_) (fun he => ?_)
      · row_hasAll w_m
        rw [ixN_nat16 (by rw [List.length_map, hn4]; exact hk)]
        dsimp only
        rw [← List.map_set]
        row_hasAll w_m
        exact hN _ _ (by row_hasAll w_env) ⟨_, _, _, _, (ls.set k nl).set k (Str.ofString ""), b9, rfl, hset _ lna_nil _ hls1, by rw [List.length_set, hn4]; exact hn3, by rw [su_ne (Ne.symm hzp)]; exact hb10, su_same⟩
      · row_hasAll w_m
        exact hN _ _ (by row_hasAll w_env) ⟨_, _, _, _, ls.set k nl, b9, rfl, hls1, by rw [hn4]; exact hn3, hb10, hz10⟩
    · row_hasAll w_m
      exact hN _ _ (by row_hasAll w_env) ⟨_, _, _, _, ls, b5, rfl, fun l h => (hls l h).mono (by omega), hn3, hb5, hz5⟩
  · rintro _ S3 ⟨w7, w8, w9, w10, ls, b5, rfl, hls, hn3, hb5, hz5⟩
    exact fin ls _ _ _ _ S3 (fun l h => (hls l h).mono (by omega)) hn3 hz5
end SM
namespace LAW
open PySem PySem.Spec PyProof.Rows L2 SM
variable {P : Program} {w : World} {K : PySem.W.Frag} {mg : Str → Option Value} {base : Heap} {f : Addr} {fd : FuncData}
theorem sc_l_bag : FnScope N_l_bag ["_law_script"] (defScope s_l_bag) := ⟨rfl, rfl, rfl, by decide +kernel, rfl, by decide +kernel, by decide +kernel⟩
theorem ok_l_bag (F : FunD K "_law_bag" "_law_bag" (defArgs s_l_bag) (defBody s_l_bag) (defScope s_l_bag) [] [] f fd) (n_int : mg "int" = none) : FnOk P w K mg base (L2N.CX P w) 1 f fd ["_law_script"] (spScr K 63 r_l_bag) :=
  fnScr F sc_l_bag r_l_bag (fun a ns ds S Q E h => len_l_bag a ns ds S Q E h) (by decide) fun cdv A outer s H E a ns hr hz hn => ⟨t_l_bag a ns, (dss_one (ds_ret (de_lstO (da_cons (de_lc (own := [("_law_cell", 1)]) rfl sc_l_bag.nd (di_items (de_sliceScr (a := a) (ns := ns) hz (Nat.le_trans hn (by decide)) (dv 0) do_none (do_some de_int))) (blk_of (by kernel_rfl)) (fun s H C cl fp => (dp_nm (i := 1) sc_l_bag.nd)) (fun s H C cl fp => dts_nil) (fun s H C cl fp => (de_callTy c_int (by rfl) n_int (by decide +kernel) (da_cons (dv 1) da_nil)))) (da_cons de_int (da_cons de_int (da_cons de_int da_nil))))))), rd_l_bag a ns hn⟩
theorem sc_l_take : FnScope N_l_take ["_law_bag_here", "_law_size"] (defScope s_l_take) := ⟨rfl, rfl, rfl, by decide +kernel, rfl, by decide +kernel, by decide +kernel⟩
theorem ok_l_take (F : FunD K "_law_take" "_law_take" (defArgs s_l_take) (defBody s_l_take) (defScope s_l_take) [] [] f fd) (n_len : mg "len" = none) (n_int : mg "int" = none) : FnOk P w K mg base (L2N.CX P w) 1 f fd ["_law_bag_here", "_law_size"] (toSp K r_l_take) :=
  fnT F sc_l_take len_l_take rd_l_take fun cdv A outer s H E hr => (dss_cut (ds_if (PDW.pt (dw_and (dt_cmp (o_eq (k := 0) hr) (de_ix (k := 0) hr (dv 0) de_int) de_int) (dw_and1 (dt_cmp o_lt (de_ix (k := 0) hr (dv 0) de_int) (de_callB c_len (by rfl) n_len PySem.boot_len (da_cons (de_ix (k := 0) hr (dv 0) de_int) da_nil)))))) (dss_cons (ds_set (i := 2) sc_l_take.nd (de_ix (k := 0) hr (de_ix (k := 0) hr (dv 0) de_int) (de_ix (k := 0) hr (dv 0) de_int))) (dss_cons (ds_setL (de_op o_add (de_ix (k := 0) hr (dv 0) de_int) de_int) (dv 0) de_int) (dss_one (ds_if (dt_cmp o_ge (dv 2) (de_op o_pow de_int de_int)) (dss_one (ds_setL (dv 2) (dv 0) de_int)) (dss_one (ds_setL (de_op o_mod (de_callTy c_int (by rfl) n_int (by decide +kernel) (da_cons (de_op o_add (de_op o_add (de_op o_mul (de_ix (k := 0) hr (dv 0) de_int) de_int) (de_op o_mul (dv 2) de_int)) de_int) da_nil)) de_int) (dv 0) de_int)))))) dss_nil) (dss_cons (ds_if (dt_cmp o_gt (de_ix (k := 0) hr (dv 0) de_int) de_int) (dss_cons (ds_set (i := 3) sc_l_take.nd (de_op o_mod (de_callTy c_int (by rfl) n_int (by decide +kernel) (da_cons (de_ix (k := 0) hr (dv 0) de_int) da_nil)) (dv 1))) (dss_cons (ds_setL (de_op o_fdiv (de_ix (k := 0) hr (dv 0) de_int) (dv 1)) (dv 0) de_int) (dss_one (ds_ret (dv 3))))) dss_nil) (dss_cons (ds_setL (de_op o_mod (de_callTy c_int (by rfl) n_int (by decide +kernel) (da_cons (de_op o_add (de_op o_mul (de_ix (k := 0) hr (dv 0) de_int) de_int) de_int) da_nil)) de_int) (dv 0) de_int) (dss_one (ds_ret (de_op o_mod (de_callTy c_int (by rfl) n_int (by decide +kernel) (da_cons (de_op o_fdiv (de_ix (k := 0) hr (dv 0) de_int) de_int) da_nil)) (dv 1)))))))
theorem sc_l_palette : FnScope N_l_palette ["_law_bag_here"] (defScope s_l_palette) := ⟨rfl, rfl, rfl, by decide +kernel, rfl, by decide +kernel, by decide +kernel⟩
theorem ok_l_palette (F : FunD K "_law_palette" "_law_palette" (defArgs s_l_palette) (defBody s_l_palette) (defScope s_l_palette) [] [] f fd) (n_int : mg "int" = none) (g__law_take : Gf P w K mg base 1 "_law_take" ["_law_bag_here", "_law_size"] r_l_take) : FnOk P w K mg base (L2N.CX P w) 2 f fd ["_law_bag_here"] (toSp K r_l_palette) :=
  fnT F sc_l_palette len_l_palette rd_l_palette fun cdv A outer s H E hr => (dss_cons (ds_set (i := 1) sc_l_palette.nd de_str) (dss_cons (ds_set (i := 2) sc_l_palette.nd (de_g g__law_take hr (by rfl) (da_cons (dv 0) (da_cons de_int da_nil)))) (dss_cons (ds_set (i := 3) sc_l_palette.nd (de_op o_mod (de_callTy c_int (by rfl) n_int (by decide +kernel) (da_cons (de_op o_add (de_op o_add (dv 2) de_int) (de_g g__law_take hr (by rfl) (da_cons (dv 0) (da_cons de_int da_nil)))) da_nil)) de_int)) (dss_cons (ds_set (i := 4) sc_l_palette.nd (de_op o_mod (de_callTy c_int (by rfl) n_int (by decide +kernel) (da_cons (de_op o_add (de_op o_add (dv 3) de_int) (de_g g__law_take hr (by rfl) (da_cons (dv 0) (da_cons de_int da_nil)))) da_nil)) de_int)) (dss_one (ds_ret (de_op o_add (de_op o_add (de_ix (k := 1) hr (dv 1) (dv 2)) (de_ix (k := 1) hr (dv 1) (dv 3))) (de_ix (k := 1) hr (dv 1) (dv 4)))))))))
theorem sc_l_offset : FnScope N_l_offset ["_law_bag_here"] (defScope s_l_offset) := ⟨rfl, rfl, rfl, by decide +kernel, rfl, by decide +kernel, by decide +kernel⟩
theorem ok_l_offset (F : FunD K "_law_offset" "_law_offset" (defArgs s_l_offset) (defBody s_l_offset) (defScope s_l_offset) [] [] f fd) (n_int : mg "int" = none) (g__law_take : Gf P w K mg base 1 "_law_take" ["_law_bag_here", "_law_size"] r_l_take) : FnOk P w K mg base (L2N.CX P w) 2 f fd ["_law_bag_here"] (toSp K r_l_offset) :=
  fnT F sc_l_offset len_l_offset rd_l_offset fun cdv A outer s H E hr => (dss_cons (ds_set (i := 1) sc_l_offset.nd (de_g g__law_take hr (by rfl) (da_cons (dv 0) (da_cons de_int da_nil)))) (dss_cut (ds_if (dt_cmp o_gt (de_g g__law_take hr (by rfl) (da_cons (dv 0) (da_cons de_int da_nil))) de_int) (dss_one (ds_set (i := 1) sc_l_offset.nd (de_ix (k := 1) hr (de_lst (da_cons de_int (da_cons de_int (da_cons de_int (da_cons de_int (da_cons de_int (da_cons de_int (da_cons de_int (da_cons de_int da_nil))))))))) (de_op o_mod (de_callTy c_int (by rfl) n_int (by decide +kernel) (da_cons (dv 1) da_nil)) de_int)))) dss_nil) (dss_cons (ds_set (i := 1) sc_l_offset.nd (de_op o_add (dv 1) (de_callTy c_int (by rfl) n_int (by decide +kernel) (da_cons (de_cmp o_gt (dv 1) de_int) da_nil)))) (dss_one (ds_ret (de_tup (da_cons (de_op o_sub (de_op o_mod (de_callTy c_int (by rfl) n_int (by decide +kernel) (da_cons (dv 1) da_nil)) de_int) de_int) (da_cons (de_op o_sub (de_op o_fdiv (dv 1) de_int) de_int) da_nil))))))))
theorem sc_l_signs : FnScope N_l_signs ["_law_bag_here", "_law_palette_here"] (defScope s_l_signs) := ⟨rfl, rfl, rfl, by decide +kernel, rfl, by decide +kernel, by decide +kernel⟩
theorem ok_l_signs (F : FunD K "_law_signs" "_law_signs" (defArgs s_l_signs) (defBody s_l_signs) (defScope s_l_signs) [] [] f fd) (g__law_take : Gf P w K mg base 1 "_law_take" ["_law_bag_here", "_law_size"] r_l_take) : FnOk P w K mg base (L2N.CX P w) 2 f fd ["_law_bag_here", "_law_palette_here"] (toSp K r_l_signs) :=
  fnT F sc_l_signs len_l_signs rd_l_signs fun cdv A outer s H E hr => (dss_cons (ds_set (i := 2) sc_l_signs.nd (de_ix (k := 1) hr (dv 1) (de_g g__law_take hr (by rfl) (da_cons (dv 0) (da_cons de_int da_nil))))) (dss_cons (ds_set (i := 3) sc_l_signs.nd (de_ix (k := 1) hr (dv 1) (de_g g__law_take hr (by rfl) (da_cons (dv 0) (da_cons de_int da_nil))))) (dss_cut (ds_if (PDW.pt (dw_and (dt_cmp (o_eq (k := 1) hr) (de_g g__law_take hr (by rfl) (da_cons (dv 0) (da_cons de_int da_nil))) de_int) (dw_and1 (dt_cmp (o_notin (k := 1) hr) (dv 3) (dv 2))))) (dss_one (ds_set (i := 2) sc_l_signs.nd (de_op o_add (dv 3) (dv 2)))) dss_nil) (dss_cons (ds_if (dt_cmp (o_eq (k := 1) hr) (de_g g__law_take hr (by rfl) (da_cons (dv 0) (da_cons de_int da_nil))) de_int) (dss_one (ds_set (i := 2) sc_l_signs.nd (de_op o_add (dv 2) de_str))) dss_nil) (dss_one (ds_ret (dv 2)))))))
theorem sc_l_parts : FnScope N_l_parts ["_law_bag_here", "_law_palette_here"] (defScope s_l_parts) := ⟨rfl, rfl, rfl, by decide +kernel, rfl, by decide +kernel, by decide +kernel⟩
theorem ok_l_parts (F : FunD K "_law_parts" "_law_parts" (defArgs s_l_parts) (defBody s_l_parts) (defScope s_l_parts) [] [] f fd) (n_range : mg "range" = none) (g__law_take : Gf P w K mg base 1 "_law_take" ["_law_bag_here", "_law_size"] r_l_take) (g__law_offset : Gf P w K mg base 2 "_law_offset" ["_law_bag_here"] r_l_offset) (g__law_signs : Gf P w K mg base 2 "_law_signs" ["_law_bag_here", "_law_palette_here"] r_l_signs) : FnOk P w K mg base (L2N.CX P w) 3 f fd ["_law_bag_here", "_law_palette_here"] (toSp K r_l_parts) :=
  fnT F sc_l_parts len_l_parts rd_l_parts fun cdv A outer s H E hr => (dss_cons (ds_set (i := 2) sc_l_parts.nd (de_g g__law_take hr (by rfl) (da_cons (dv 0) (da_cons de_int da_nil)))) (dss_cut (ds_if (dt_cmp (o_eq (k := 2) hr) (de_g g__law_take hr (by rfl) (da_cons (dv 0) (da_cons de_int da_nil))) de_int) (dss_one (ds_set (i := 2) sc_l_parts.nd de_int)) dss_nil) (dss_cons (ds_set (i := 3) sc_l_parts.nd (de_lstO da_nil)) (dss_cons (ds_for rfl (di_rng1 (by rfl) n_range (da_cons (dv 2) da_nil)) (dp_nm (i := 4) sc_l_parts.nd) (dss_cons (ds_set (i := 5) sc_l_parts.nd (de_g g__law_offset hr (by rfl) (da_cons (dv 0) da_nil))) (dss_cons (ds_set (i := 6) sc_l_parts.nd (de_g g__law_signs hr (by rfl) (da_cons (dv 0) (da_cons (dv 1) da_nil)))) (dss_one (ds_if (dt_cmp (o_notin (k := 2) hr) (dv 5) (de_lc (own := [("_law_part", 7)]) rfl sc_l_parts.nd (di_items (dv 3)) (blk_of (by kernel_rfl)) (fun s H C cl fp => (dp_nm (i := 7) sc_l_parts.nd)) (fun s H C cl fp => dts_nil) (fun s H C cl fp => (de_tup (da_cons (de_ix (k := 2) hr (dv 7) de_int) (da_cons (de_ix (k := 2) hr (dv 7) de_int) da_nil)))))) (dss_one (ds_expr (de_bm (by simp) PySem.F.plainAttrs_list PySem.F.slot_list_append PySem.F.type_list_append m_append (dv 3) (da_cons (de_tup (da_cons (de_ix (k := 2) hr (dv 5) de_int) (da_cons (de_ix (k := 2) hr (dv 5) de_int) (da_cons (dv 6) da_nil)))) da_nil)))) dss_nil))))) (dss_one (ds_ret (dvM 3)))))))
theorem sc_l_rule : FnScope N_l_rule ["_law_bag_here", "_law_palette_here"] (defScope s_l_rule) := ⟨rfl, rfl, rfl, by decide +kernel, rfl, by decide +kernel, by decide +kernel⟩
theorem ok_l_rule (F : FunD K "_law_rule" "_law_rule" (defArgs s_l_rule) (defBody s_l_rule) (defScope s_l_rule) [] [] f fd) (n_len : mg "len" = none) (g__law_take : Gf P w K mg base 1 "_law_take" ["_law_bag_here", "_law_size"] r_l_take) (g__law_parts : Gf P w K mg base 3 "_law_parts" ["_law_bag_here", "_law_palette_here"] r_l_parts) : FnOk P w K mg base (L2N.CX P w) 4 f fd ["_law_bag_here", "_law_palette_here"] (toSp K r_l_rule) :=
  fnT F sc_l_rule len_l_rule rd_l_rule fun cdv A outer s H E hr => (dss_cons (ds_set (i := 2) sc_l_rule.nd (de_ix (k := 3) hr (de_lst (da_cons de_str (da_cons de_str (da_cons de_str da_nil)))) (de_g g__law_take hr (by rfl) (da_cons (dv 0) (da_cons de_int da_nil))))) (dss_cons (ds_set (i := 3) sc_l_rule.nd (de_ix (k := 3) hr (dv 1) (de_g g__law_take hr (by rfl) (da_cons (dv 0) (da_cons de_int da_nil))))) (dss_cons (ds_set (i := 4) sc_l_rule.nd (de_g g__law_parts hr (by rfl) (da_cons (dv 0) (da_cons (dv 1) da_nil)))) (dss_cons (ds_set (i := 5) sc_l_rule.nd (de_g g__law_take hr (by rfl) (da_cons (dv 0) (da_cons (de_op o_add (de_callB c_len (by rfl) n_len PySem.boot_len (da_cons (dv 4) da_nil)) de_int) da_nil)))) (dss_cut (ds_if (dt_cmp (o_eq (k := 3) hr) (dv 2) de_str) (dss_one (ds_set (i := 5) sc_l_rule.nd (de_callB c_len (by rfl) n_len PySem.boot_len (da_cons (dv 4) da_nil)))) dss_nil) (dss_one (ds_ret (de_tup (da_cons (dv 2) (da_cons (dv 3) (da_cons (dv 4) (da_cons (dv 5) da_nil))))))))))))
theorem sc_l_rules : FnScope N_l_rules ["_law_bag_here", "_law_palette_here"] (defScope s_l_rules) := ⟨rfl, rfl, rfl, by decide +kernel, rfl, by decide +kernel, by decide +kernel⟩
theorem ok_l_rules (F : FunD K "_law_rules" "_law_rules" (defArgs s_l_rules) (defBody s_l_rules) (defScope s_l_rules) [] [] f fd) (n_range : mg "range" = none) (g__law_take : Gf P w K mg base 1 "_law_take" ["_law_bag_here", "_law_size"] r_l_take) (g__law_rule : Gf P w K mg base 4 "_law_rule" ["_law_bag_here", "_law_palette_here"] r_l_rule) : FnOk P w K mg base (L2N.CX P w) 5 f fd ["_law_bag_here", "_law_palette_here"] (toSp K r_l_rules) :=
  fnTW F sc_l_rules len_l_rules rd_l_rules fun cdv A outer s H E hr => (dss_cons (ds_set (i := 2) sc_l_rules.nd (de_lstO da_nil)) (dss_cons (ds_for rfl (di_rng1 (by rfl) n_range (da_cons (de_g g__law_take hr (by rfl) (da_cons (dv 0) (da_cons de_int da_nil))) da_nil)) (dp_nm (i := 3) sc_l_rules.nd) (dss_one (ds_expr (de_bm (by simp) PySem.F.plainAttrs_list PySem.F.slot_list_append PySem.F.type_list_append m_append (dv 2) (da_cons (de_g g__law_rule hr (by rfl) (da_cons (dv 0) (da_cons (dv 1) da_nil))) da_nil))))) (dss_one (ds_ret (dvM 2)))))
theorem sc_Book_len : FnScope N_Book_len ["self"] (defScope s_Book_len) := ⟨rfl, rfl, rfl, by decide +kernel, rfl, by decide +kernel, by decide +kernel⟩
theorem ok_Book_len (F : FunD K "__len__" "Book.__len__" (defArgs s_Book_len) (defBody s_Book_len) (defScope s_Book_len) [] [] f fd) (f_rules_5 : FOk K "rules" [(5, 0)]) (n_len : mg "len" = none) : FnOk P w K mg base (L2N.CX P w) 1 f fd ["self"] (toSp K r_Book_len) :=
  fnT F sc_Book_len len_Book_len rd_Book_len fun cdv A outer s H E hr => (dss_one (ds_ret (de_callB c_len (by rfl) n_len PySem.boot_len (da_cons (de_fld (dv 0) f_rules_5) da_nil))))
theorem sc_Book_init : FnScope N_Book_init ["self", "rules"] (defScope s_Book_init) := ⟨rfl, rfl, rfl, by decide +kernel, rfl, by decide +kernel, by decide +kernel⟩
theorem ok_Book_init (F : FunD K "__init__" "Book.__init__" (defArgs s_Book_init) (defBody s_Book_init) (defScope s_Book_init) [] [] f fd) (n_len : mg "len" = none) (c_MOST_RULES : ∃ u, mg "MOST_RULES" = some u ∧ RelV (.int (20)) u) (x_InvalidBook : Gx P w K mg base 23 "InvalidBook") (n_list : mg "list" = none) (f_rules_5 : FOk K "rules" [(5, 0)]) : FnOk P w K mg base (L2N.CX P w) 3 f fd ["self", "rules"] (toSp K r_Book_init) :=
  fnT F sc_Book_init len_Book_init rd_Book_init fun cdv A outer s H E hr => (dss_cons (ds_if (dt_cmp o_gt (de_callB c_len (by rfl) n_len PySem.boot_len (da_cons (dv 1) da_nil)) (de_gl (by rfl) c_MOST_RULES (fun _ => .int _))) (dss_one (ds_raise x_InvalidBook hr rfl (by rfl) (da_cons (de_op o_add (de_gl (by rfl) c_MOST_RULES (fun _ => .int _)) de_int) da_nil))) dss_nil) (dss_one (ds_setF (dv 0) (de_callTy c_list (by rfl) n_list (by decide +kernel) (da_cons (dv 1) da_nil)) f_rules_5)))
theorem sc_p_is_stone : FnScope N_p_is_stone ["sign"] (defScope s_p_is_stone) := ⟨rfl, rfl, rfl, by decide +kernel, rfl, by decide +kernel, by decide +kernel⟩
theorem ok_p_is_stone (F : FunD K "is_stone" "is_stone" (defArgs s_p_is_stone) (defBody s_p_is_stone) (defScope s_p_is_stone) [] [] f fd) (n_len : mg "len" = none) (c_LETTERS : ∃ u, mg "LETTERS" = some u ∧ RelV (.str "abcdefghijklmnopqrstuvwxyz") u) : FnOk P w K mg base (L2N.CX P w) 1 f fd ["sign"] (toSp K r_p_is_stone) :=
  fnT F sc_p_is_stone len_p_is_stone rd_p_is_stone fun cdv A outer s H E hr => (dss_one (ds_ret (de_and (de_cmp (o_eq (k := 0) hr) (de_callB c_len (by rfl) n_len PySem.boot_len (da_cons (dv 0) da_nil)) de_int) (de_one (de_cmp (o_in (k := 0) hr) (dv 0) (de_gl (by rfl) c_LETTERS (fun _ => .str (by decide +kernel))))))))
theorem sc_p_is_offset : FnScope N_p_is_offset ["dx", "dy"] (defScope s_p_is_offset) := ⟨rfl, rfl, rfl, by decide +kernel, rfl, by decide +kernel, by decide +kernel⟩
theorem ok_p_is_offset (F : FunD K "is_offset" "is_offset" (defArgs s_p_is_offset) (defBody s_p_is_offset) (defScope s_p_is_offset) [] [] f fd) (c_REACH : ∃ u, mg "REACH" = some u ∧ RelV (.int (3)) u) : FnOk P w K mg base (L2N.CX P w) 1 f fd ["dx", "dy"] (toSp K r_p_is_offset) :=
  fnT F sc_p_is_offset len_p_is_offset rd_p_is_offset fun cdv A outer s H E hr => (dss_cons (ds_if (PDW.pt (dw_and (dt_cmp (o_eq (k := 0) hr) (dv 0) de_int) (dw_and1 (dt_cmp (o_eq (k := 0) hr) (dv 1) de_int)))) (dss_one (ds_ret de_bl)) dss_nil) (dss_one (ds_ret (de_and (de_chain o_le o_le (de_neg (de_gl (by rfl) c_REACH (fun _ => .int _))) (dv 0) (de_gl (by rfl) c_REACH (fun _ => .int _))) (de_one (de_chain o_le o_le (de_neg (de_gl (by rfl) c_REACH (fun _ => .int _))) (dv 1) (de_gl (by rfl) c_REACH (fun _ => .int _))))))))
theorem sc_p_are_condition_signs : FnScope N_p_are_condition_signs ["signs"] (defScope s_p_are_condition_signs) := ⟨rfl, rfl, rfl, by decide +kernel, rfl, by decide +kernel, by decide +kernel⟩
theorem ok_p_are_condition_signs (F : FunD K "are_condition_signs" "are_condition_signs" (defArgs s_p_are_condition_signs) (defBody s_p_are_condition_signs) (defScope s_p_are_condition_signs) [] [] f fd) (n_enumerate : mg "enumerate" = none) (n_len : mg "len" = none) (g_is_stone : Gf P w K mg base 1 "is_stone" ["sign"] r_p_is_stone) : FnOk P w K mg base (L2N.CX P w) 2 f fd ["signs"] (toSp K r_p_are_condition_signs) :=
  fnT F sc_p_are_condition_signs len_p_are_condition_signs rd_p_are_condition_signs fun cdv A outer s H E hr => (dss_cons (ds_for rfl (di_enumS (by rfl) n_enumerate (da_cons (dv 0) da_nil)) (dp_tp rfl (dps_cons (dp_nm (i := 1) sc_p_are_condition_signs.nd) (dps_cons (dp_nm (i := 2) sc_p_are_condition_signs.nd) dps_nil))) (dss_one (ds_if (PDW.pt (dw_or (dt_cmp (o_in (k := 1) hr) (dv 2) (de_slice (dv 0) do_none (do_some (dv 1)))) (dw_or1 (PDW.pt (dw_and (dt_cmp (o_ne (k := 1) hr) (dv 2) de_str) (dw_and1 (dt_not (dt_val (de_g g_is_stone hr (by rfl) (da_cons (dv 2) da_nil)))))))))) (dss_one (ds_ret de_bl)) dss_nil))) (dss_one (ds_ret (de_cmp o_gt (de_callB c_len (by rfl) n_len PySem.boot_len (da_cons (dv 0) da_nil)) de_int))))
theorem sc_p_checked_parts : FnScope N_p_checked_parts ["parts"] (defScope s_p_checked_parts) := ⟨rfl, rfl, rfl, by decide +kernel, rfl, by decide +kernel, by decide +kernel⟩
theorem ok_p_checked_parts (F : FunD K "checked_parts" "checked_parts" (defArgs s_p_checked_parts) (defBody s_p_checked_parts) (defScope s_p_checked_parts) [] [] f fd) (n_enumerate : mg "enumerate" = none) (c_MOST_PARTS : ∃ u, mg "MOST_PARTS" = some u ∧ RelV (.int (8)) u) (x_InvalidRule : Gx P w K mg base 22 "InvalidRule") (n_sorted : mg "sorted" = none) (n_list : mg "list" = none) (ro_f : ∃ f, RoF K f ∧ mg "reading_order" = some (.ref f)) (g_is_offset : Gf P w K mg base 1 "is_offset" ["dx", "dy"] r_p_is_offset) (g_are_condition_signs : Gf P w K mg base 2 "are_condition_signs" ["signs"] r_p_are_condition_signs) : FnOk P w K mg base (L2N.CX P w) 3 f fd ["parts"] (toSp K r_p_checked_parts) :=
  fnT F sc_p_checked_parts len_p_checked_parts rd_p_checked_parts fun cdv A outer s H E hr => (dss_cons (ds_set (i := 1) sc_p_checked_parts.nd de_dictO) (dss_cons (ds_for rfl (di_enum (by rfl) n_enumerate (da_cons (dv 0) da_nil)) (dp_tp rfl (dps_cons (dp_nm (i := 2) sc_p_checked_parts.nd) (dps_cons (dp_tp rfl (dps_cons (dp_nm (i := 3) sc_p_checked_parts.nd) (dps_cons (dp_nm (i := 4) sc_p_checked_parts.nd) (dps_cons (dp_nm (i := 5) sc_p_checked_parts.nd) dps_nil)))) dps_nil))) (dss_cons (ds_if (PDW.pt (dw_or (dt_cmp o_ge (dv 2) (de_gl (by rfl) c_MOST_PARTS (fun _ => .int _))) (dw_or (dt_not (dt_val (de_g g_is_offset hr (by rfl) (da_cons (dv 3) (da_cons (dv 4) da_nil))))) (dw_or (dt_cmp (o_in (k := 2) hr) (de_tup (da_cons (dv 3) (da_cons (dv 4) da_nil))) (dv 1)) (dw_or1 (dt_not (dt_val (de_g g_are_condition_signs hr (by rfl) (da_cons (dv 5) da_nil))))))))) (dss_one (ds_raise x_InvalidRule hr rfl (by rfl) (da_cons (de_op o_add (dv 2) de_int) da_nil))) dss_nil) (dss_one (ds_setK (k := 2) hr (de_bm (by simp) PySem.F.plainAttrs_str PySem.F.slot_str_join PySem.F.type_str_join m_join de_str (da_cons (de_callB (c_sortedS (k := 2) hr) (by rfl) n_sorted (by decide +kernel) (da_cons (dv 5) da_nil)) da_nil)) (dv 1) (de_tup (da_cons (dv 3) (da_cons (dv 4) da_nil))))))) (dss_one (ds_ret (de_lc (own := [("dx", 3), ("dy", 4)]) rfl sc_p_checked_parts.nd (di_items (de_sortRoE (k := 2) hr ro_f (de_callTy (c_listK rfl) (by rfl) n_list (by decide +kernel) (da_cons (dv 1) da_nil)) (by rfl) (by rfl) n_sorted (by decide +kernel))) (blk_of (by kernel_rfl)) (fun s H C cl fp => (dp_tp rfl (dps_cons (dp_nm (i := 3) sc_p_checked_parts.nd) (dps_cons (dp_nm (i := 4) sc_p_checked_parts.nd) dps_nil)))) (fun s H C cl fp => dts_nil) (fun s H C cl fp => (de_tup (da_cons (dv 3) (da_cons (dv 4) (da_cons (de_ix (k := 2) hr (dv 1) (de_tup (da_cons (dv 3) (da_cons (dv 4) da_nil)))) da_nil))))))))))
theorem sc_Rule_init : FnScope N_Rule_init ["self", "stone", "conditions"] (defScope s_Rule_init) := ⟨rfl, rfl, rfl, by decide +kernel, rfl, by decide +kernel, by decide +kernel⟩
theorem ok_Rule_init (F : FunD K "__init__" "Rule.__init__" (defArgs s_Rule_init) (defBody s_Rule_init) (defScope s_Rule_init) [] [] f fd) (x_InvalidRule : Gx P w K mg base 22 "InvalidRule") (f_stone_2_3_4 : FOk K "stone" [(2, 0), (3, 0), (4, 0)]) (f_parts_2_3_4 : FOk K "parts" [(2, 1), (3, 1), (4, 1)]) (g_is_stone : Gf P w K mg base 1 "is_stone" ["sign"] r_p_is_stone) (g_checked_parts : Gf P w K mg base 3 "checked_parts" ["parts"] r_p_checked_parts) : FnOk P w K mg base (L2N.CX P w) 4 f fd ["self", "stone", "conditions"] (toSp K r_Rule_init) :=
  fnT F sc_Rule_init len_Rule_init rd_Rule_init fun cdv A outer s H E hr => (dss_cons (ds_if (dt_not (dt_val (de_g g_is_stone hr (by rfl) (da_cons (dv 1) da_nil)))) (dss_one (ds_raise x_InvalidRule hr rfl (by rfl) (da_cons de_int da_nil))) dss_nil) (dss_cons (ds_setF (dv 0) (dv 1) f_stone_2_3_4) (dss_one (ds_setF (dv 0) (de_g g_checked_parts hr (by rfl) (da_cons (dv 2) da_nil)) f_parts_2_3_4))))
theorem sc_CountRule_init : NdefX.NScope N_CountRule_init ["self", "stone", "conditions", "need"] ["__class__"] (defScope s_CountRule_init) := NdefX.nscope_by (by decide +kernel)
theorem ok_CountRule_init {cc c f2 : Addr} {fd2 : FuncData} (F : FunS K "__init__" "CountRule.__init__" (defArgs s_CountRule_init) (defBody s_CountRule_init) (defScope s_CountRule_init) f fd cc c) (U : SupF P K mg cc c (cad K 3) f2 [3, 4]) (F2 : FnOk P w K mg base (L2N.CX P w) 4 f2 fd2 ["self", "stone", "conditions"] (toSp K r_Rule_init)) (hb2 : Binds K fd2 ["self", "stone", "conditions"] []) (f_parts_3_4 : FOk K "parts" [(3, 1), (4, 1)]) (n_len : mg "len" = none) (x_InvalidRule : Gx P w K mg base 22 "InvalidRule") (f_need_3_4 : FOk K "need" [(3, 2), (4, 2)]) : FnOk P w K mg base (L2N.CX P w) 5 f fd ["self", "stone", "conditions", "need"] (toSp K r_CountRule_init) :=
  fnS F sc_CountRule_init rfl rfl rfl U F2 hb2 len_CountRule_init rd_CountRule_init fun A outer s H E hr => ⟨(da_cons (dv 1) (da_cons (dv 2) da_nil)), (dss_cons (ds_if (dt_not (dt_chain o_le o_le de_int (dv 3) (de_callB c_len (by rfl) n_len PySem.boot_len (da_cons (de_fld (dv 0) f_parts_3_4) da_nil)))) (dss_one (ds_raise x_InvalidRule hr rfl (by rfl) (da_cons de_int da_nil))) dss_nil) (dss_one (ds_setF (dv 0) (dv 3) f_need_3_4)))⟩
theorem sc_SameRule_init : NdefX.NScope N_SameRule_init ["self", "places", "need"] ["__class__"] (defScope s_SameRule_init) := NdefX.nscope_by (by decide +kernel)
theorem ok_SameRule_init {cc c f2 : Addr} {fd2 : FuncData} (F : FunS K "__init__" "SameRule.__init__" (defArgs s_SameRule_init) (defBody s_SameRule_init) (defScope s_SameRule_init) f fd cc c) (U : SupF P K mg cc c (cad K 4) f2 [4]) (F2 : FnOk P w K mg base (L2N.CX P w) 5 f2 fd2 ["self", "stone", "conditions", "need"] (toSp K r_CountRule_init)) (hb2 : Binds K fd2 ["self", "stone", "conditions", "need"] []) (f_stone_4 : FOk K "stone" [(4, 0)]) : FnOk P w K mg base (L2N.CX P w) 6 f fd ["self", "places", "need"] (toSp K r_SameRule_init) :=
  fnS F sc_SameRule_init rfl rfl rfl U F2 hb2 len_SameRule_init rd_SameRule_init fun A outer s H E hr => ⟨(da_cons de_str (da_cons (de_lc (own := [("dx", 4), ("dy", 5)]) rfl sc_SameRule_init.nd (di_items (dv 1)) (blk_of (by kernel_rfl)) (fun s H C cl fp => (dp_tp rfl (dps_cons (dp_nm (i := 4) sc_SameRule_init.nd) (dps_cons (dp_nm (i := 5) sc_SameRule_init.nd) dps_nil)))) (fun s H C cl fp => dts_nil) (fun s H C cl fp => (de_tup (da_cons (dv 4) (da_cons (dv 5) (da_cons de_str da_nil)))))) (da_cons (dv 2) da_nil))), (dss_one (ds_setF (dv 0) de_str f_stone_4))⟩
theorem sc_l_made : FnScope N_l_made ["_law_rule_here"] (defScope s_l_made) := ⟨rfl, rfl, rfl, by decide +kernel, rfl, by decide +kernel, by decide +kernel⟩
theorem ok_l_made (F : FunD K "_law_made" "_law_made" (defArgs s_l_made) (defBody s_l_made) (defScope s_l_made) [] [] f fd) (n_list : mg "list" = none) (i_Rule : Gi P w K mg base 4 2 "Rule" ["self", "stone", "conditions"] r_Rule_init) (i_CountRule : Gi P w K mg base 5 3 "CountRule" ["self", "stone", "conditions", "need"] r_CountRule_init) (i_SameRule : Gi P w K mg base 6 4 "SameRule" ["self", "places", "need"] r_SameRule_init) : FnOk P w K mg base (L2N.CX P w) 8 f fd ["_law_rule_here"] (toSp K r_l_made) :=
  fnT F sc_l_made len_l_made rd_l_made fun cdv A outer s H E hr => (dss_cons (ds_if (dt_cmp (o_eq (k := 7) hr) (de_ix (k := 7) hr (dv 0) de_int) de_str) (dss_one (ds_ret (de_mk mkF_ok i_Rule hr (by rfl) (da_cons (de_ix (k := 7) hr (dv 0) de_int) (da_cons (de_callTy c_list (by rfl) n_list (by decide +kernel) (da_cons (de_ix (k := 7) hr (dv 0) de_int) da_nil)) da_nil))))) dss_nil) (dss_cons (ds_if (dt_cmp (o_eq (k := 7) hr) (de_ix (k := 7) hr (dv 0) de_int) de_str) (dss_one (ds_ret (de_mk mkF_ok i_CountRule hr (by rfl) (da_cons (de_ix (k := 7) hr (dv 0) de_int) (da_cons (de_callTy c_list (by rfl) n_list (by decide +kernel) (da_cons (de_ix (k := 7) hr (dv 0) de_int) da_nil)) (da_cons (de_ix (k := 7) hr (dv 0) de_int) da_nil)))))) dss_nil) (dss_one (ds_ret (de_mk mkF_ok i_SameRule hr (by rfl) (da_cons (de_lc (own := [("_law_part", 1)]) rfl sc_l_made.nd (di_items (de_ix (k := 7) hr (dv 0) de_int)) (blk_of (by kernel_rfl)) (fun s H C cl fp => (dp_nm (i := 1) sc_l_made.nd)) (fun s H C cl fp => dts_nil) (fun s H C cl fp => (de_tup (da_cons (de_ix (k := 7) hr (dv 1) de_int) (da_cons (de_ix (k := 7) hr (dv 1) de_int) da_nil))))) (da_cons (de_ix (k := 7) hr (dv 0) de_int) da_nil)))))))
theorem sc_l_made_of_k16 : FnScope N_l_made_of_k16 ["_law_rules_here"] (defScope s_l_made_of_k16) := ⟨rfl, rfl, rfl, by decide +kernel, rfl, by decide +kernel, by decide +kernel⟩
theorem ok_l_made_of_k16 (F : FunD K "_law_made_of" "_law_made_of" (defArgs s_l_made_of_k16) (defBody s_l_made_of_k16) (defScope s_l_made_of_k16) [] [] f fd) (n_len : mg "len" = none) (fx_line_23 : FxOk K "line" [(23, 0)]) (g_InvalidBook : mg "InvalidBook" = some (.ref (cad K 23))) (em_InvalidBook_23 : EmOk K (.ref (cad K 23)) [(23, true)]) (d_len_5 : Go P w K mg base 1 5 "__len__" ["self"] r_Book_len) (i_Book : Gi P w K mg base 3 5 "Book" ["self", "rules"] r_Book_init) (g__law_made : Gf P w K mg base 8 "_law_made" ["_law_rule_here"] r_l_made) : FnOk P w K mg base (L2N.CX P w) 9 f fd ["_law_rules_here"] (toSp K r_l_made_of_k16) :=
  fnTW F sc_l_made_of_k16 len_l_made_of_k16 rd_l_made_of_k16 fun cdv A outer s H E hr => (dss_one (ds_tryAs (i := 2) rfl rfl sc_l_made_of_k16.nd rfl (by rfl) ⟨by rfl, by decide, .inl g_InvalidBook⟩ em_InvalidBook_23 (fun pn_ xe_ => (dss_one (ds_ret (de_op o_sub de_int (de_callB (c_lenI d_len_5 hr) (by rfl) n_len PySem.boot_len (da_cons (de_mk mkF_ok i_Book hr (by rfl) (da_cons (de_lc (own := [("_law_rule_here", 1)]) rfl sc_l_made_of_k16.nd (di_items (dv 0)) (blk_of (by kernel_rfl)) (fun s H C cl fp => (dp_nm (i := 1) sc_l_made_of_k16.nd)) (fun s H C cl fp => dts_nil) (fun s H C cl fp => (de_g g__law_made hr (by rfl) (da_cons (dv 1) da_nil)))) da_nil)) da_nil)))))) (fun a_ oe_ c_ d_ pn2_ hz_ => (dss_one (ds_ret (de_xf fx_line_23 hz_ (dv 2)))))))
theorem sc_l_sorted_parts : FnScope N_l_sorted_parts ["_law_rule_here"] (defScope s_l_sorted_parts) := ⟨rfl, rfl, rfl, by decide +kernel, rfl, by decide +kernel, by decide +kernel⟩
theorem ok_l_sorted_parts (F : FunD K "_law_sorted_parts" "_law_sorted_parts" (defArgs s_l_sorted_parts) (defBody s_l_sorted_parts) (defScope s_l_sorted_parts) [] [] f fd) (n_sorted : mg "sorted" = none) : FnOk P w K mg base (L2N.CX P w) 1 f fd ["_law_rule_here"] (toSp K r_l_sorted_parts) :=
  fnT F sc_l_sorted_parts len_l_sorted_parts rd_l_sorted_parts fun cdv A outer s H E hr => (dss_one (ds_ret (de_lc (own := [("_law_part", 1)]) rfl sc_l_sorted_parts.nd (di_items (de_callB (c_sorted (k := 0) hr) (by rfl) n_sorted (by decide +kernel) (da_cons (de_lc (own := [("_law_one", 2)]) rfl sc_l_sorted_parts.nd (di_items (de_ix (k := 0) hr (dv 0) de_int)) (blk_of (by kernel_rfl)) (fun s H C cl fp => (dp_nm (i := 2) sc_l_sorted_parts.nd)) (fun s H C cl fp => dts_nil) (fun s H C cl fp => (de_tup (da_cons (de_ix (k := 0) hr (dv 2) de_int) (da_cons (de_ix (k := 0) hr (dv 2) de_int) (da_cons (de_ix (k := 0) hr (dv 2) de_int) da_nil)))))) da_nil))) (blk_of (by kernel_rfl)) (fun s H C cl fp => (dp_nm (i := 1) sc_l_sorted_parts.nd)) (fun s H C cl fp => dts_nil) (fun s H C cl fp => (de_tup (da_cons (de_ix (k := 0) hr (dv 1) de_int) (da_cons (de_ix (k := 0) hr (dv 1) de_int) (da_cons (de_ix (k := 0) hr (dv 1) de_int) da_nil))))))))
theorem sc_l_written : FnScope N_l_written ["_law_rule_here"] (defScope s_l_written) := ⟨rfl, rfl, rfl, by decide +kernel, rfl, by decide +kernel, by decide +kernel⟩
theorem ok_l_written (F : FunD K "_law_written" "_law_written" (defArgs s_l_written) (defBody s_l_written) (defScope s_l_written) [] [] f fd) (n_str : mg "str" = none) (n_sorted : mg "sorted" = none) (g__law_sorted_parts : Gf P w K mg base 1 "_law_sorted_parts" ["_law_rule_here"] r_l_sorted_parts) : FnOk P w K mg base (L2N.CX P w) 2 f fd ["_law_rule_here"] (toSp K r_l_written) :=
  fnTW F sc_l_written len_l_written rd_l_written fun cdv A outer s H E hr => (dss_cons (ds_set (i := 1) sc_l_written.nd (de_lstO (da_cons (de_ix (k := 1) hr (dv 0) de_int) (da_cons (de_callTy c_str (by rfl) n_str (by decide +kernel) (da_cons (de_ix (k := 1) hr (dv 0) de_int) da_nil)) da_nil)))) (dss_cut (ds_if (dt_cmp (o_eq (k := 1) hr) (de_ix (k := 1) hr (dv 0) de_int) de_str) (dss_one (ds_set (i := 1) sc_l_written.nd (de_lstO (da_cons (de_ix (k := 1) hr (dv 0) de_int) (da_cons de_str da_nil))))) dss_nil) (dss_cut (ds_if (dt_cmp (o_eq (k := 1) hr) (de_ix (k := 1) hr (dv 0) de_int) de_str) (dss_one (ds_set (i := 1) sc_l_written.nd (de_lstO (da_cons de_str (da_cons (de_callTy c_str (by rfl) n_str (by decide +kernel) (da_cons (de_ix (k := 1) hr (dv 0) de_int) da_nil)) da_nil))))) dss_nil) (dss_cons (ds_for rfl (di_items (de_g g__law_sorted_parts hr (by rfl) (da_cons (dv 0) da_nil))) (dp_nm (i := 2) sc_l_written.nd) (dss_cons (ds_set (i := 3) sc_l_written.nd (de_op o_add de_str (de_bm (by simp) PySem.F.plainAttrs_str PySem.F.slot_str_join PySem.F.type_str_join m_join de_str (da_cons (de_callB (c_sortedS (k := 1) hr) (by rfl) n_sorted (by decide +kernel) (da_cons (de_ix (k := 1) hr (dv 2) de_int) da_nil)) da_nil)))) (dss_cut (ds_if (dt_cmp (o_eq (k := 1) hr) (de_ix (k := 1) hr (dv 0) de_int) de_str) (dss_one (ds_set (i := 3) sc_l_written.nd de_str)) dss_nil) (dss_one (ds_expr (de_bm (by simp) PySem.F.plainAttrs_list PySem.F.slot_list_append PySem.F.type_list_append m_append (dv 1) (da_cons (de_op o_add (de_op o_add (de_op o_add (de_callTy c_str (by rfl) n_str (by decide +kernel) (da_cons (de_ix (k := 1) hr (dv 2) de_int) da_nil)) de_str) (de_callTy c_str (by rfl) n_str (by decide +kernel) (da_cons (de_ix (k := 1) hr (dv 2) de_int) da_nil))) (dv 3)) da_nil))))))) (dss_one (ds_ret (de_bm (by simp) PySem.F.plainAttrs_str PySem.F.slot_str_join PySem.F.type_str_join m_join de_str (da_cons (dv 1) da_nil))))))))
theorem sc_p_read_number : FnScope N_p_read_number ["word"] (defScope s_p_read_number) := ⟨rfl, rfl, rfl, by decide +kernel, rfl, by decide +kernel, by decide +kernel⟩
theorem ok_p_read_number (F : FunD K "read_number" "read_number" (defArgs s_p_read_number) (defBody s_p_read_number) (defScope s_p_read_number) [] [] f fd) (n_len : mg "len" = none) (c_DIGITS : ∃ u, mg "DIGITS" = some u ∧ RelV (.str "0123456789") u) (n_int : mg "int" = none) : FnOk P w K mg base (L2N.CX P w) 1 f fd ["word"] (toSp K r_p_read_number) :=
  fnT F sc_p_read_number len_p_read_number rd_p_read_number fun cdv A outer s H E hr => (dss_cons (ds_set (i := 1) sc_p_read_number.nd (de_ifExp (dt_val (de_bm (by simp) PySem.F.plainAttrs_str PySem.F.slot_str_startswith PySem.F.type_str_startswith m_startswith (dv 0) (da_cons de_str da_nil))) (de_slice (dv 0) (do_some de_int) do_none) (dv 0))) (dss_cons (ds_if (PDW.pt (dw_or (dt_cmp (o_ne (k := 0) hr) (de_callB c_len (by rfl) n_len PySem.boot_len (da_cons (dv 1) da_nil)) de_int) (dw_or (dt_cmp (o_notin (k := 0) hr) (dv 1) (de_gl (by rfl) c_DIGITS (fun _ => .str (by decide +kernel)))) (dw_or1 (dt_cmp (o_eq (k := 0) hr) (dv 0) de_str))))) (dss_one (ds_ret de_non)) dss_nil) (dss_one (ds_ret (de_callTy c_int (by rfl) n_int (by decide +kernel) (da_cons (dv 0) da_nil))))))
theorem sc_p_read_part : FnScope N_p_read_part ["word", "is_same"] (defScope s_p_read_part) := ⟨rfl, rfl, rfl, by decide +kernel, rfl, by decide +kernel, by decide +kernel⟩
theorem ok_p_read_part (F : FunD K "read_part" "read_part" (defArgs s_p_read_part) (defBody s_p_read_part) (defScope s_p_read_part) [] [] f fd) (n_len : mg "len" = none) (g_read_number : Gf P w K mg base 1 "read_number" ["word"] r_p_read_number) : FnOk P w K mg base (L2N.CX P w) 2 f fd ["word", "is_same"] (toSp K r_p_read_part) :=
  fnT F sc_p_read_part len_p_read_part rd_p_read_part fun cdv A outer s H E hr => (dss_cons (ds_unp (de_bm (by simp) PySem.F.plainAttrs_str PySem.F.slot_str_partition PySem.F.type_str_partition m_partition (dv 0) (da_cons de_str da_nil)) (dp_tp rfl (dps_cons (dp_nm (i := 2) sc_p_read_part.nd) (dps_cons (dp_nm (i := 3) sc_p_read_part.nd) (dps_cons (dp_nm (i := 4) sc_p_read_part.nd) dps_nil))))) (dss_cons (ds_setLc (j := 5) (own := [("piece", 6)]) rfl sc_p_read_part.nd (by rfl) (di_items (de_bm (by simp) PySem.F.plainAttrs_str PySem.F.slot_str_split PySem.F.type_str_split m_split (dv 2) (da_cons de_str da_nil))) (blk_of (by kernel_rfl)) (fun s H C cl fp => (dp_nm (i := 6) sc_p_read_part.nd)) (fun s H C cl fp => dts_nil) (fun s H C cl fp => (de_g g_read_number hr (by rfl) (da_cons (dv 6) da_nil)))) (dss_cons (ds_if (PDW.pt (dw_or (dt_cmp (o_ne (k := 1) hr) (de_callB c_len (by rfl) n_len PySem.boot_len (da_cons (dv 5) da_nil)) de_int) (dw_or (dt_cmp o_is (de_ix (k := 1) hr (dv 5) de_int) de_non) (dw_or1 (dt_cmp o_is (de_ix (k := 1) hr (dv 5) de_int) de_non))))) (dss_one (ds_ret de_non)) dss_nil) (dss_cons (ds_if (dt_val (dv 1)) (dss_one (ds_ret (de_ifExp (dt_cmp (o_eq (k := 1) hr) (dv 3) de_str) (de_tup (da_cons (de_ix (k := 1) hr (dv 5) de_int) (da_cons (de_ix (k := 1) hr (dv 5) de_int) da_nil))) de_non))) dss_nil) (dss_one (ds_ret (de_ifExp (dt_cmp (o_ne (k := 1) hr) (dv 4) de_str) (de_tup (da_cons (de_ix (k := 1) hr (dv 5) de_int) (da_cons (de_ix (k := 1) hr (dv 5) de_int) (da_cons (dv 4) da_nil)))) de_non)))))))
theorem sc_p_read_rule : FnScope N_p_read_rule ["line"] (defScope s_p_read_rule) := ⟨rfl, rfl, rfl, by decide +kernel, rfl, by decide +kernel, by decide +kernel⟩
theorem ok_p_read_rule (F : FunD K "read_rule" "read_rule" (defArgs s_p_read_rule) (defBody s_p_read_rule) (defScope s_p_read_rule) [] [] f fd) (n_len : mg "len" = none) (x_InvalidRule : Gx P w K mg base 22 "InvalidRule") (c_DIGITS : ∃ u, mg "DIGITS" = some u ∧ RelV (.str "0123456789") u) (n_enumerate : mg "enumerate" = none) (n_int : mg "int" = none) (g_is_stone : Gf P w K mg base 1 "is_stone" ["sign"] r_p_is_stone) (g_read_part : Gf P w K mg base 2 "read_part" ["word", "is_same"] r_p_read_part) (i_SameRule : Gi P w K mg base 6 4 "SameRule" ["self", "places", "need"] r_SameRule_init) (i_Rule : Gi P w K mg base 4 2 "Rule" ["self", "stone", "conditions"] r_Rule_init) (i_CountRule : Gi P w K mg base 5 3 "CountRule" ["self", "stone", "conditions", "need"] r_CountRule_init) : FnOk P w K mg base (L2N.CX P w) 8 f fd ["line"] (toSp K r_p_read_rule) :=
  fnT F sc_p_read_rule len_p_read_rule rd_p_read_rule fun cdv A outer s H E hr => (dss_cons (ds_set (i := 1) sc_p_read_rule.nd (de_bm (by simp) PySem.F.plainAttrs_str PySem.F.slot_str_split PySem.F.type_str_split m_split (dv 0) (da_cons de_str da_nil))) (dss_cons (ds_set (i := 2) sc_p_read_rule.nd (de_cmp (o_eq (k := 7) hr) (de_ix (k := 7) hr (dv 1) de_int) de_str)) (dss_cut (ds_if (PDW.pt (dw_or (dt_cmp o_lt (de_callB c_len (by rfl) n_len PySem.boot_len (da_cons (dv 1) da_nil)) de_int) (dw_or1 (dt_not (PDW.pt (dw_or (dt_val (dv 2)) (dw_or1 (dt_val (de_g g_is_stone hr (by rfl) (da_cons (de_ix (k := 7) hr (dv 1) de_int) da_nil)))))))))) (dss_one (ds_raise x_InvalidRule hr rfl (by rfl) (da_cons de_int da_nil))) dss_nil) (dss_cons (ds_set (i := 3) sc_p_read_rule.nd (de_ix (k := 7) hr (dv 1) de_int)) (dss_cut (ds_if (PDW.pt (dw_and (PDW.pt (dw_or (dt_cmp (o_ne (k := 7) hr) (dv 3) de_str) (dw_or1 (dt_val (dv 2))))) (dw_and1 (PDW.pt (dw_or (dt_cmp (o_ne (k := 7) hr) (de_callB c_len (by rfl) n_len PySem.boot_len (da_cons (dv 3) da_nil)) de_int) (dw_or1 (dt_cmp (o_notin (k := 7) hr) (dv 3) (de_gl (by rfl) c_DIGITS (fun _ => .str (by decide +kernel)))))))))) (dss_one (ds_raise x_InvalidRule hr rfl (by rfl) (da_cons de_int da_nil))) dss_nil) (dss_cons (ds_set (i := 4) sc_p_read_rule.nd (de_lstO da_nil)) (dss_cons (ds_for rfl (di_enum (by rfl) n_enumerate (da_cons (de_slice (dv 1) (do_some de_int) do_none) da_nil)) (dp_tp rfl (dps_cons (dp_nm (i := 5) sc_p_read_rule.nd) (dps_cons (dp_nm (i := 6) sc_p_read_rule.nd) dps_nil))) (dss_cons (ds_set (i := 7) sc_p_read_rule.nd (de_g g_read_part hr (by rfl) (da_cons (dv 6) (da_cons (dv 2) da_nil)))) (dss_cons (ds_if (dt_cmp o_is (dv 7) de_non) (dss_one (ds_raise x_InvalidRule hr rfl (by rfl) (da_cons (de_op o_add (dv 5) de_int) da_nil))) dss_nil) (dss_one (ds_expr (de_bm (by simp) PySem.F.plainAttrs_list PySem.F.slot_list_append PySem.F.type_list_append m_append (dv 4) (da_cons (dv 7) da_nil))))))) (dss_cons (ds_if (dt_val (dv 2)) (dss_one (ds_ret (de_mk mkF_ok i_SameRule hr (by rfl) (da_cons (dv 4) (da_cons (de_callTy c_int (by rfl) n_int (by decide +kernel) (da_cons (dv 3) da_nil)) da_nil))))) dss_nil) (dss_cons (ds_if (dt_cmp (o_eq (k := 7) hr) (dv 3) de_str) (dss_one (ds_ret (de_mk mkF_ok i_Rule hr (by rfl) (da_cons (de_ix (k := 7) hr (dv 1) de_int) (da_cons (dv 4) da_nil))))) dss_nil) (dss_one (ds_ret (de_mk mkF_ok i_CountRule hr (by rfl) (da_cons (de_ix (k := 7) hr (dv 1) de_int) (da_cons (dv 4) (da_cons (de_callTy c_int (by rfl) n_int (by decide +kernel) (da_cons (dv 3) da_nil)) da_nil)))))))))))))))
theorem sc_Book_read_sx : FnScope N_Book_read_sx ["cls", "text"] (defScope s_Book_read_sx) := ⟨rfl, rfl, rfl, by decide +kernel, rfl, by decide +kernel, by decide +kernel⟩
theorem ok_Book_read_sx (F : FunD K "read" "Book.read" (defArgs s_Book_read_sx) (defBody s_Book_read_sx) (defScope s_Book_read_sx) [] [] f fd) (n_enumerate : mg "enumerate" = none) (c_MOST_RULES : ∃ u, mg "MOST_RULES" = some u ∧ RelV (.int (20)) u) (x_InvalidBook : Gx P w K mg base 23 "InvalidBook") (xh_InvalidBook : GxH P w K mg base 23 "InvalidBook") (g_InvalidRule : mg "InvalidRule" = some (.ref (cad K 22))) (em_InvalidRule_22 : EmOk K (.ref (cad K 22)) [(22, true)]) (rx_22 : RxOk K [(22, true)]) (i_Book : Gi P w K mg base 3 5 "Book" ["self", "rules"] r_Book_init) (g_read_rule : Gf P w K mg base 8 "read_rule" ["line"] r_p_read_rule) : FnOk P w K mg base (L2.CX P w) 9 f fd ["cls", "text"] (toSp K r_Book_read_sx) :=
  fnTWX F sc_Book_read_sx len_Book_read_sx rd_Book_read_sx fun cdv A outer s H E hr => (xss_cons (xs_lf (ds_if (dt_cmp (o_eq (k := 8) hr) (dv 1) de_str) (dss_one (ds_ret (de_mkL (i := 0) mkF_ok i_Book hr (da_cons (de_lst da_nil) da_nil)))) dss_nil)) (xss_cons (xs_lf (ds_set (i := 2) sc_Book_read_sx.nd (de_lstO da_nil))) (xss_cons (xs_for rfl (di_enum (by rfl) n_enumerate (da_cons (de_bm (by simp) PySem.F.plainAttrs_str PySem.F.slot_str_split PySem.F.type_str_split m_split (dv 1) (da_cons de_str da_nil)) da_nil)) (dp_tp rfl (dps_cons (dp_nm (i := 3) sc_Book_read_sx.nd) (dps_cons (dp_nm (i := 4) sc_Book_read_sx.nd) dps_nil))) (xss_cons (xs_lf (ds_if (dt_cmp o_ge (dv 3) (de_gl (by rfl) c_MOST_RULES (fun _ => .int _))) (dss_one (ds_raise x_InvalidBook hr rfl (by rfl) (da_cons (de_op o_add (dv 3) de_int) da_nil))) dss_nil)) (xss_one (xs_tryR (i := 5) rfl rfl sc_Book_read_sx.nd rfl (by rfl) ⟨by rfl, by decide, .inl g_InvalidRule⟩ em_InvalidRule_22 rx_22 (fun _ => PySem.PassesOwnAt.leaving) (fun pn_ xe_ => (dss_one (ds_expr (de_bm (by simp) PySem.F.plainAttrs_list PySem.F.slot_list_append PySem.F.type_list_append m_append (dv 2) (da_cons (de_g g_read_rule hr (by rfl) (da_cons (dv 4) da_nil)) da_nil))))) (fun a_ oe_ c_ d_ pn2_ xe2_ hz_ hs_ => (xss_one (xs_raiseF (i := 5) (j := 8) xh_InvalidBook ⟨hr.dp, hr.un⟩ hz_ hs_ (by rfl) (da_cons (de_op o_add (dv 3) de_int) da_nil)))))))) (xss_one (xs_lf (ds_ret (de_mkL (i := 0) mkF_ok i_Book hr (da_cons (dv 2) da_nil))))))))
theorem sc_l_is_int : FnScope N_l_is_int ["_law_value"] (defScope s_l_is_int) := ⟨rfl, rfl, rfl, by decide +kernel, rfl, by decide +kernel, by decide +kernel⟩
theorem ok_l_is_int (F : FunD K "_law_is_int" "_law_is_int" (defArgs s_l_is_int) (defBody s_l_is_int) (defScope s_l_is_int) [] [] f fd) (b_int : isiB K (.type "int") ti_int = true) (n_isinstance : mg "isinstance" = none) (n_int : mg "int" = none) (b_bool : isiB K (.type "bool") ti_bool = true) (n_bool : mg "bool" = none) : FnOk P w K mg base (L2N.CX P w) 1 f fd ["_law_value"] (toSp K r_l_is_int) :=
  fnT F sc_l_is_int len_l_is_int rd_l_is_int fun cdv A outer s H E hr => (dss_one (ds_ret (de_and (de_isi (by rfl) n_isinstance (.ty "int") (pe_bltn (by rfl) n_int (by decide +kernel) rfl) b_int rfl (dv 0)) (de_one (de_not (de_isi (by rfl) n_isinstance (.ty "bool") (pe_bltn (by rfl) n_bool (by decide +kernel) rfl) b_bool rfl (dv 0)))))))
theorem okZ_l_is_int (F : FunD K "_law_is_int" "_law_is_int" (defArgs s_l_is_int) (defBody s_l_is_int) (defScope s_l_is_int) [] [] f fd) (b_int : isiB K (.type "int") ti_int = true) (n_isinstance : mg "isinstance" = none) (n_int : mg "int" = none) (b_bool : isiB K (.type "bool") ti_bool = true) (n_bool : mg "bool" = none) : FnZ P w K mg base 1 f fd ["_law_value"] (toSp K r_l_is_int) :=
  fnTZ F sc_l_is_int len_l_is_int rd_l_is_int fun cdv A outer s H E p hr => (dss_one (ds_ret (de_and (de_isi (by rfl) n_isinstance (.ty "int") (pe_bltn (by rfl) n_int (by decide +kernel) rfl) b_int rfl (dv 0)) (de_one (de_not (de_isi (by rfl) n_isinstance (.ty "bool") (pe_bltn (by rfl) n_bool (by decide +kernel) rfl) b_bool rfl (dv 0)))))))
theorem sc_l_line_of_k16 : FnScope N_l_line_of_k16 ["_law_text"] (defScope s_l_line_of_k16) := ⟨rfl, rfl, rfl, by decide +kernel, rfl, by decide +kernel, by decide +kernel⟩
theorem ok_l_line_of_k16 (F : FunD K "_law_line_of" "_law_line_of" (defArgs s_l_line_of_k16) (defBody s_l_line_of_k16) (defScope s_l_line_of_k16) [] [] f fd) (n_len : mg "len" = none) (ix_SmaltiError_23 : IxOk K (.ref (cad K 20)) [(23, true)]) (g_SmaltiError : mg "SmaltiError" = some (.ref (cad K 20))) (n_isinstance : mg "isinstance" = none) (ix_InvalidRule_23 : IxOk K (.ref (cad K 22)) [(23, false)]) (g_InvalidRule : mg "InvalidRule" = some (.ref (cad K 22))) (fx_line_23 : FxOk K "line" [(23, 0)]) (g_InvalidBook : mg "InvalidBook" = some (.ref (cad K 23))) (em_InvalidBook_23 : EmOk K (.ref (cad K 23)) [(23, true)]) (d_len_5 : Go P w K mg base 1 5 "__len__" ["self"] r_Book_len) (c_Book_read : GcX P w K mg base 9 5 "Book" "read" ["cls", "text"] r_Book_read_sx) (gz__law_is_int : GfZ P w K mg base 1 "_law_is_int" ["_law_value"] r_l_is_int) : FnOk P w K mg base (L2N.CX P w) 10 f fd ["_law_text"] (toSp K r_l_line_of_k16) :=
  fnT F sc_l_line_of_k16 len_l_line_of_k16 rd_l_line_of_k16 fun cdv A outer s H E hr => (dss_one (ds_tryZ (i := 1) rfl rfl sc_l_line_of_k16.nd rfl (by rfl) ⟨by rfl, by decide, .inl g_InvalidBook⟩ em_InvalidBook_23 (fun pn_ xe_ => (xss_one (xs_ret (xe_op o_sub (xe_lf de_int) (xe_callB (c_lenI d_len_5 hr) (by rfl) n_len PySem.boot_len (xa_cons (xe_gc c_Book_read hr (by rfl) (xa_lf (da_cons (dv 0) da_nil))) xa_nil)))))) (fun a_ oe_ c_ d_ pn2_ hz_ => (dss_cons (ds_if (PDW.pt (dw_or (dt_not (dt_val (de_isEZ (u := .ref (cad K 20)) (cv := .ref (cad K 20)) (by rfl) n_isinstance (fun _ r => r) (pe_glob (by rfl) g_SmaltiError rfl) ix_SmaltiError_23 hz_ (dv 1)))) (dw_or (dt_val (de_isEZ (u := .ref (cad K 22)) (cv := .ref (cad K 22)) (by rfl) n_isinstance (fun _ r => r) (pe_glob (by rfl) g_InvalidRule rfl) ix_InvalidRule_23 hz_ (dv 1))) (dw_or1 (dt_not (dt_val (de_callZ (q := (a_, oe_)) (j := 9) gz__law_is_int ⟨hr.dp, hr.un⟩ List.mem_cons_self (by rfl) (da_cons (de_xfZ fx_line_23 hz_ (dv 1)) da_nil)))))))) (dss_one (ds_ret de_int)) dss_nil) (dss_one (ds_ret (de_xfZ fx_line_23 hz_ (dv 1))))))))
theorem sc_l_is_letter : FnScope N_l_is_letter ["_law_text"] (defScope s_l_is_letter) := ⟨rfl, rfl, rfl, by decide +kernel, rfl, by decide +kernel, by decide +kernel⟩
theorem ok_l_is_letter (F : FunD K "_law_is_letter" "_law_is_letter" (defArgs s_l_is_letter) (defBody s_l_is_letter) (defScope s_l_is_letter) [] [] f fd) (n_len : mg "len" = none) : FnOk P w K mg base (L2N.CX P w) 1 f fd ["_law_text"] (toSp K r_l_is_letter) :=
  fnT F sc_l_is_letter len_l_is_letter rd_l_is_letter fun cdv A outer s H E hr => (dss_one (ds_ret (de_and (de_cmp (o_eq (k := 0) hr) (de_callB c_len (by rfl) n_len PySem.boot_len (da_cons (dv 0) da_nil)) de_int) (de_one (de_cmp (o_in (k := 0) hr) (dv 0) de_str)))))
theorem sc_l_number : FnScope N_l_number ["_law_word"] (defScope s_l_number) := ⟨rfl, rfl, rfl, by decide +kernel, rfl, by decide +kernel, by decide +kernel⟩
theorem ok_l_number (F : FunD K "_law_number" "_law_number" (defArgs s_l_number) (defBody s_l_number) (defScope s_l_number) [] [] f fd) (n_len : mg "len" = none) (n_int : mg "int" = none) : FnOk P w K mg base (L2N.CX P w) 1 f fd ["_law_word"] (toSp K r_l_number) :=
  fnT F sc_l_number len_l_number rd_l_number fun cdv A outer s H E hr => (dss_cons (ds_set (i := 1) sc_l_number.nd (dv 0)) (dss_cons (ds_if (dt_cmp (o_eq (k := 0) hr) (de_slice (dv 0) do_none (do_some de_int)) de_str) (dss_one (ds_set (i := 1) sc_l_number.nd (de_slice (dv 0) (do_some de_int) do_none))) dss_nil) (dss_cons (ds_if (PDW.pt (dw_or (dt_cmp (o_ne (k := 0) hr) (de_callB c_len (by rfl) n_len PySem.boot_len (da_cons (dv 1) da_nil)) de_int) (dw_or (dt_cmp (o_notin (k := 0) hr) (dv 1) de_str) (dw_or1 (dt_cmp (o_eq (k := 0) hr) (dv 0) de_str))))) (dss_one (ds_ret de_non)) dss_nil) (dss_one (ds_ret (de_callTy c_int (by rfl) n_int (by decide +kernel) (da_cons (dv 0) da_nil)))))))
theorem sc_l_word_part : FnScope N_l_word_part ["_law_word", "_law_same"] (defScope s_l_word_part) := ⟨rfl, rfl, rfl, by decide +kernel, rfl, by decide +kernel, by decide +kernel⟩
theorem ok_l_word_part (F : FunD K "_law_word_part" "_law_word_part" (defArgs s_l_word_part) (defBody s_l_word_part) (defScope s_l_word_part) [] [] f fd) (n_len : mg "len" = none) (g__law_number : Gf P w K mg base 1 "_law_number" ["_law_word"] r_l_number) : FnOk P w K mg base (L2N.CX P w) 2 f fd ["_law_word", "_law_same"] (toSp K r_l_word_part) :=
  fnT F sc_l_word_part len_l_word_part rd_l_word_part fun cdv A outer s H E hr => (dss_cons (ds_set (i := 2) sc_l_word_part.nd (de_bm (by simp) PySem.F.plainAttrs_str PySem.F.slot_str_split PySem.F.type_str_split m_splitM (dv 0) (da_cons de_str (da_cons de_int da_nil)))) (dss_cons (ds_set (i := 3) sc_l_word_part.nd (de_bm (by simp) PySem.F.plainAttrs_str PySem.F.slot_str_split PySem.F.type_str_split m_split (de_ix (k := 1) hr (dv 2) de_int) (da_cons de_str da_nil))) (dss_cons (ds_if (PDW.pt (dw_or (dt_cmp (o_ne (k := 1) hr) (de_callB c_len (by rfl) n_len PySem.boot_len (da_cons (dv 3) da_nil)) de_int) (dw_or (dt_cmp o_is (de_g g__law_number hr (by rfl) (da_cons (de_ix (k := 1) hr (dv 3) de_int) da_nil)) de_non) (dw_or1 (dt_cmp o_is (de_g g__law_number hr (by rfl) (da_cons (de_ix (k := 1) hr (dv 3) de_int) da_nil)) de_non))))) (dss_one (ds_ret de_non)) dss_nil) (dss_cons (ds_if (PDW.pt (dw_and (dt_val (dv 1)) (dw_and1 (dt_cmp (o_eq (k := 1) hr) (de_callB c_len (by rfl) n_len PySem.boot_len (da_cons (dv 2) da_nil)) de_int)))) (dss_one (ds_ret (de_tup (da_cons (de_g g__law_number hr (by rfl) (da_cons (de_ix (k := 1) hr (dv 3) de_int) da_nil)) (da_cons (de_g g__law_number hr (by rfl) (da_cons (de_ix (k := 1) hr (dv 3) de_int) da_nil)) (da_cons de_str da_nil)))))) dss_nil) (dss_cons (ds_if (PDW.pt (dw_or (dt_val (dv 1)) (dw_or (dt_cmp (o_eq (k := 1) hr) (de_callB c_len (by rfl) n_len PySem.boot_len (da_cons (dv 2) da_nil)) de_int) (dw_or1 (dt_cmp (o_eq (k := 1) hr) (de_ix (k := 1) hr (dv 2) de_int) de_str))))) (dss_one (ds_ret de_non)) dss_nil) (dss_one (ds_ret (de_tup (da_cons (de_g g__law_number hr (by rfl) (da_cons (de_ix (k := 1) hr (dv 3) de_int) da_nil)) (da_cons (de_g g__law_number hr (by rfl) (da_cons (de_ix (k := 1) hr (dv 3) de_int) da_nil)) (da_cons (de_ix (k := 1) hr (dv 2) de_int) da_nil)))))))))))
theorem sc_l_bad_part : FnScope N_l_bad_part ["_law_part", "_law_earlier"] (defScope s_l_bad_part) := ⟨rfl, rfl, rfl, by decide +kernel, rfl, by decide +kernel, by decide +kernel⟩
theorem ok_l_bad_part (F : FunD K "_law_bad_part" "_law_bad_part" (defArgs s_l_bad_part) (defBody s_l_bad_part) (defScope s_l_bad_part) [] [] f fd) (n_len : mg "len" = none) (n_range : mg "range" = none) : FnOk P w K mg base (L2N.CX P w) 1 f fd ["_law_part", "_law_earlier"] (toSp K r_l_bad_part) :=
  fnT F sc_l_bad_part len_l_bad_part rd_l_bad_part fun cdv A outer s H E hr => (dss_cut (ds_if (PDW.pt (dw_and (dt_cmp (o_eq (k := 0) hr) (de_ix (k := 0) hr (dv 0) de_int) de_int) (dw_and1 (dt_cmp (o_eq (k := 0) hr) (de_ix (k := 0) hr (dv 0) de_int) de_int)))) (dss_one (ds_ret de_bl)) dss_nil) (dss_cut (ds_if (PDW.pt (dw_or (dt_cmp o_lt (de_ix (k := 0) hr (dv 0) de_int) (de_neg de_int)) (dw_or (dt_cmp o_gt (de_ix (k := 0) hr (dv 0) de_int) de_int) (dw_or (dt_cmp o_lt (de_ix (k := 0) hr (dv 0) de_int) (de_neg de_int)) (dw_or1 (dt_cmp o_gt (de_ix (k := 0) hr (dv 0) de_int) de_int)))))) (dss_one (ds_ret de_bl)) dss_nil) (dss_cut (ds_if (PDW.pt (dw_or (dt_cmp (o_in (k := 0) hr) (de_tup (da_cons (de_ix (k := 0) hr (dv 0) de_int) (da_cons (de_ix (k := 0) hr (dv 0) de_int) da_nil))) (de_lc (own := [("_law_one", 2)]) rfl sc_l_bad_part.nd (di_items (dv 1)) (blk_of (by kernel_rfl)) (fun s H C cl fp => (dp_nm (i := 2) sc_l_bad_part.nd)) (fun s H C cl fp => dts_nil) (fun s H C cl fp => (de_tup (da_cons (de_ix (k := 0) hr (dv 2) de_int) (da_cons (de_ix (k := 0) hr (dv 2) de_int) da_nil)))))) (dw_or1 (dt_cmp (o_eq (k := 0) hr) (de_ix (k := 0) hr (dv 0) de_int) de_str)))) (dss_one (ds_ret de_bl)) dss_nil) (dss_cons (ds_for rfl (di_rng1 (by rfl) n_range (da_cons (de_callB c_len (by rfl) n_len PySem.boot_len (da_cons (de_ix (k := 0) hr (dv 0) de_int) da_nil)) da_nil)) (dp_nm (i := 3) sc_l_bad_part.nd) (dss_one (ds_if (PDW.pt (dw_or (dt_cmp (o_in (k := 0) hr) (de_ix (k := 0) hr (de_ix (k := 0) hr (dv 0) de_int) (dv 3)) (de_slice (de_ix (k := 0) hr (dv 0) de_int) do_none (do_some (dv 3)))) (dw_or1 (dt_cmp (o_notin (k := 0) hr) (de_ix (k := 0) hr (de_ix (k := 0) hr (dv 0) de_int) (dv 3)) de_str)))) (dss_one (ds_ret de_bl)) dss_nil))) (dss_one (ds_ret (de_cmp o_gt (de_callB c_len (by rfl) n_len PySem.boot_len (da_cons (dv 1) da_nil)) de_int)))))))
theorem sc_l_fault : FnScope N_l_fault ["_law_rule_here"] (defScope s_l_fault) := ⟨rfl, rfl, rfl, by decide +kernel, rfl, by decide +kernel, by decide +kernel⟩
theorem ok_l_fault (F : FunD K "_law_fault" "_law_fault" (defArgs s_l_fault) (defBody s_l_fault) (defScope s_l_fault) [] [] f fd) (n_len : mg "len" = none) (n_range : mg "range" = none) (g__law_is_letter : Gf P w K mg base 1 "_law_is_letter" ["_law_text"] r_l_is_letter) (g__law_bad_part : Gf P w K mg base 1 "_law_bad_part" ["_law_part", "_law_earlier"] r_l_bad_part) : FnOk P w K mg base (L2N.CX P w) 2 f fd ["_law_rule_here"] (toSp K r_l_fault) :=
  fnT F sc_l_fault len_l_fault rd_l_fault fun cdv A outer s H E hr => (dss_cut (ds_if (PDW.pt (dw_and (dt_cmp (o_ne (k := 1) hr) (de_ix (k := 1) hr (dv 0) de_int) de_str) (dw_and1 (dt_not (dt_val (de_g g__law_is_letter hr (by rfl) (da_cons (de_ix (k := 1) hr (dv 0) de_int) da_nil))))))) (dss_one (ds_ret de_int)) dss_nil) (dss_cons (ds_for rfl (di_rng1 (by rfl) n_range (da_cons (de_callB c_len (by rfl) n_len PySem.boot_len (da_cons (de_ix (k := 1) hr (dv 0) de_int) da_nil)) da_nil)) (dp_nm (i := 1) sc_l_fault.nd) (dss_one (ds_if (dt_val (de_g g__law_bad_part hr (by rfl) (da_cons (de_ix (k := 1) hr (de_ix (k := 1) hr (dv 0) de_int) (dv 1)) (da_cons (de_slice (de_ix (k := 1) hr (dv 0) de_int) do_none (do_some (dv 1))) da_nil)))) (dss_one (ds_ret (de_op o_add (dv 1) de_int))) dss_nil))) (dss_cons (ds_if (PDW.pt (dw_or (dt_cmp o_lt (de_ix (k := 1) hr (dv 0) de_int) de_int) (dw_or1 (dt_cmp o_gt (de_ix (k := 1) hr (dv 0) de_int) (de_callB c_len (by rfl) n_len PySem.boot_len (da_cons (de_ix (k := 1) hr (dv 0) de_int) da_nil)))))) (dss_one (ds_ret de_int)) dss_nil) (dss_one (ds_ret (de_neg de_int))))))
theorem sc_l_line_fault : FnScope N_l_line_fault ["_law_line"] (defScope s_l_line_fault) := ⟨rfl, rfl, rfl, by decide +kernel, rfl, by decide +kernel, by decide +kernel⟩
theorem ok_l_line_fault (F : FunD K "_law_line_fault" "_law_line_fault" (defArgs s_l_line_fault) (defBody s_l_line_fault) (defScope s_l_line_fault) [] [] f fd) (n_len : mg "len" = none) (n_range : mg "range" = none) (n_int : mg "int" = none) (g__law_is_letter : Gf P w K mg base 1 "_law_is_letter" ["_law_text"] r_l_is_letter) (g__law_word_part : Gf P w K mg base 2 "_law_word_part" ["_law_word", "_law_same"] r_l_word_part) (g__law_fault : Gf P w K mg base 2 "_law_fault" ["_law_rule_here"] r_l_fault) : FnOk P w K mg base (L2N.CX P w) 3 f fd ["_law_line"] (toSp K r_l_line_fault) :=
  fnTW F sc_l_line_fault len_l_line_fault rd_l_line_fault fun cdv A outer s H E hr => (dss_cons (ds_set (i := 1) sc_l_line_fault.nd (de_bm (by simp) PySem.F.plainAttrs_str PySem.F.slot_str_split PySem.F.type_str_split m_split (dv 0) (da_cons de_str da_nil))) (dss_cons (ds_set (i := 2) sc_l_line_fault.nd (de_cmp (o_eq (k := 2) hr) (de_ix (k := 2) hr (dv 1) de_int) de_str)) (dss_cons (ds_if (PDW.pt (dw_or (dt_cmp o_lt (de_callB c_len (by rfl) n_len PySem.boot_len (da_cons (dv 1) da_nil)) de_int) (dw_or1 (PDW.pt (dw_and (dt_not (dt_val (dv 2))) (dw_and1 (dt_not (dt_val (de_g g__law_is_letter hr (by rfl) (da_cons (de_ix (k := 2) hr (dv 1) de_int) da_nil)))))))))) (dss_one (ds_ret de_int)) dss_nil) (dss_cons (ds_set (i := 3) sc_l_line_fault.nd (de_and (de_cmp (o_eq (k := 2) hr) (de_callB c_len (by rfl) n_len PySem.boot_len (da_cons (de_ix (k := 2) hr (dv 1) de_int) da_nil)) de_int) (de_one (de_cmp (o_in (k := 2) hr) (de_ix (k := 2) hr (dv 1) de_int) de_str)))) (dss_cons (ds_if (PDW.pt (dw_and (dt_not (dt_val (dv 3))) (dw_and1 (PDW.pt (dw_or (dt_val (dv 2)) (dw_or1 (dt_cmp (o_ne (k := 2) hr) (de_ix (k := 2) hr (dv 1) de_int) de_str))))))) (dss_one (ds_ret de_int)) dss_nil) (dss_cons (ds_set (i := 4) sc_l_line_fault.nd (de_lstO da_nil)) (dss_cons (ds_for rfl (di_rng2 (by rfl) n_range (da_cons de_int (da_cons (de_callB c_len (by rfl) n_len PySem.boot_len (da_cons (dv 1) da_nil)) da_nil))) (dp_nm (i := 5) sc_l_line_fault.nd) (dss_cons (ds_set (i := 6) sc_l_line_fault.nd (de_g g__law_word_part hr (by rfl) (da_cons (de_ix (k := 2) hr (dv 1) (dv 5)) (da_cons (dv 2) da_nil)))) (dss_cons (ds_if (dt_cmp o_is (dv 6) de_non) (dss_one (ds_ret (de_op o_sub (dv 5) de_int))) dss_nil) (dss_one (ds_expr (de_bm (by simp) PySem.F.plainAttrs_list PySem.F.slot_list_append PySem.F.type_list_append m_append (dv 4) (da_cons (dv 6) da_nil))))))) (dss_cons (ds_if (dt_val (dv 2)) (dss_one (ds_ret (de_g g__law_fault hr (by rfl) (da_cons (de_tup (da_cons de_str (da_cons de_str (da_cons (dvM 4) (da_cons (de_callTy c_int (by rfl) n_int (by decide +kernel) (da_cons (de_ix (k := 2) hr (dv 1) de_int) da_nil)) da_nil))))) da_nil)))) dss_nil) (dss_cons (ds_if (dt_val (dv 3)) (dss_one (ds_ret (de_g g__law_fault hr (by rfl) (da_cons (de_tup (da_cons de_str (da_cons (de_ix (k := 2) hr (dv 1) de_int) (da_cons (dvM 4) (da_cons (de_callTy c_int (by rfl) n_int (by decide +kernel) (da_cons (de_ix (k := 2) hr (dv 1) de_int) da_nil)) da_nil))))) da_nil)))) dss_nil) (dss_one (ds_ret (de_g g__law_fault hr (by rfl) (da_cons (de_tup (da_cons de_str (da_cons (de_ix (k := 2) hr (dv 1) de_int) (da_cons (dvM 4) (da_cons de_int da_nil))))) da_nil)))))))))))))
theorem sc_l_due_k16 : FnScope N_l_due_k16 ["_law_text"] (defScope s_l_due_k16) := ⟨rfl, rfl, rfl, by decide +kernel, rfl, by decide +kernel, by decide +kernel⟩
theorem ok_l_due_k16 (F : FunD K "_law_due" "_law_due" (defArgs s_l_due_k16) (defBody s_l_due_k16) (defScope s_l_due_k16) [] [] f fd) (n_len : mg "len" = none) (n_range : mg "range" = none) (g__law_line_fault : Gf P w K mg base 3 "_law_line_fault" ["_law_line"] r_l_line_fault) : FnOk P w K mg base (L2N.CX P w) 4 f fd ["_law_text"] (toSp K r_l_due_k16) :=
  fnT F sc_l_due_k16 len_l_due_k16 rd_l_due_k16 fun cdv A outer s H E hr => (dss_cons (ds_if (dt_cmp (o_eq (k := 3) hr) (dv 0) de_str) (dss_one (ds_ret de_int)) dss_nil) (dss_cons (ds_set (i := 1) sc_l_due_k16.nd (de_bm (by simp) PySem.F.plainAttrs_str PySem.F.slot_str_split PySem.F.type_str_split m_split (dv 0) (da_cons de_str da_nil))) (dss_cons (ds_for rfl (di_rng1 (by rfl) n_range (da_cons (de_callB c_len (by rfl) n_len PySem.boot_len (da_cons (dv 1) da_nil)) da_nil)) (dp_nm (i := 2) sc_l_due_k16.nd) (dss_one (ds_if (PDW.pt (dw_or (dt_cmp o_gt (dv 2) de_int) (dw_or1 (dt_cmp (o_ne (k := 3) hr) (de_g g__law_line_fault hr (by rfl) (da_cons (de_ix (k := 3) hr (dv 1) (dv 2)) da_nil)) (de_neg de_int))))) (dss_one (ds_ret (de_op o_add (dv 2) de_int))) dss_nil))) (dss_one (ds_ret (de_op o_sub de_int (de_callB c_len (by rfl) n_len PySem.boot_len (da_cons (dv 1) da_nil))))))))
theorem sc_law_k16 : FnScope N_law_k16 ["_law_script"] (defScope s_law_k16) := ⟨rfl, rfl, rfl, by decide +kernel, rfl, by decide +kernel, by decide +kernel⟩
theorem ok_law_k16 (F : FunD K "law" "law" (defArgs s_law_k16) (defBody s_law_k16) (defScope s_law_k16) [] [] f fd) (n_len : mg "len" = none) (n_range : mg "range" = none) (g__law_bag : Gz P w K mg base 1 "_law_bag" ["_law_script"] 63 r_l_bag) (g__law_palette : Gf P w K mg base 2 "_law_palette" ["_law_bag_here"] r_l_palette) (g__law_rules : Gf P w K mg base 5 "_law_rules" ["_law_bag_here", "_law_palette_here"] r_l_rules) (g__law_take : Gf P w K mg base 1 "_law_take" ["_law_bag_here", "_law_size"] r_l_take) (g__law_made_of : Gf P w K mg base 9 "_law_made_of" ["_law_rules_here"] r_l_made_of_k16) (g__law_written : Gf P w K mg base 2 "_law_written" ["_law_rule_here"] r_l_written) (g__law_line_of : Gf P w K mg base 10 "_law_line_of" ["_law_text"] r_l_line_of_k16) (g__law_due : Gf P w K mg base 4 "_law_due" ["_law_text"] r_l_due_k16) : FnOk P w K mg base (L2N.CX P w) 11 f fd ["_law_script"] (spScr K 63 rLaw) :=
  fnScr F sc_law_k16 rLaw (fun a ns ds S Q E h => len_law a ns ds S Q E h) (by decide) fun cdv A outer s H E a ns hr hz hn => ⟨t_law_k16 a ns, (dss_cons (ds_set (i := 1) sc_law_k16.nd (de_gScr g__law_bag hz (Nat.le_trans hn (by decide)) hr (by rfl) (da_cons (dv 0) da_nil))) (dss_cons (ds_set (i := 2) sc_law_k16.nd (de_g g__law_palette hr (by rfl) (da_cons (dv 1) da_nil))) (dss_cons (ds_set (i := 3) sc_law_k16.nd (de_g g__law_rules hr (by rfl) (da_cons (dv 1) (da_cons (dv 2) da_nil)))) (dss_cut (ds_if (PDW.pt (dw_and (dt_cmp (o_eq (k := 10) hr) (de_g g__law_take hr (by rfl) (da_cons (dv 1) (da_cons de_int da_nil))) de_int) (dw_and1 (dt_cmp (o_ne (k := 10) hr) (dv 3) (de_lst da_nil))))) (dss_one (ds_set (i := 3) sc_law_k16.nd (de_slice (de_op o_mul (dv 3) de_int) do_none (do_some (de_op o_add de_int (de_g g__law_take hr (by rfl) (da_cons (dv 1) (da_cons de_int da_nil)))))))) dss_nil) (dss_cons (ds_set (i := 4) sc_law_k16.nd (de_op o_sub de_int (de_callB c_len (by rfl) n_len PySem.boot_len (da_cons (dv 3) da_nil)))) (dss_cut (ds_if (dt_cmp o_gt (de_callB c_len (by rfl) n_len PySem.boot_len (da_cons (dv 3) da_nil)) de_int) (dss_one (ds_set (i := 4) sc_law_k16.nd de_int)) dss_nil) (dss_cons (ds_if (dt_cmp (o_ne (k := 10) hr) (de_g g__law_made_of hr (by rfl) (da_cons (dv 3) da_nil)) (dv 4)) (dss_one (ds_ret de_bl)) dss_nil) (dss_cons (ds_setLcO (j := 5) (own := [("_law_rule_here", 6)]) rfl sc_law_k16.nd (by rfl) (di_items (dv 3)) (blk_of (by kernel_rfl)) (fun s H C cl fp => (dp_nm (i := 6) sc_law_k16.nd)) (fun s H C cl fp => dts_nil) (fun s H C cl fp => (de_g g__law_written hr (by rfl) (da_cons (dv 6) da_nil)))) (dss_cons (ds_if (dt_cmp (o_ne (k := 10) hr) (de_g g__law_line_of hr (by rfl) (da_cons (de_bm (by simp) PySem.F.plainAttrs_str PySem.F.slot_str_join PySem.F.type_str_join m_join de_str (da_cons (dv 5) da_nil)) da_nil)) (dv 4)) (dss_one (ds_ret de_bl)) dss_nil) (dss_cons (ds_for rfl (di_rng1 (by rfl) n_range (da_cons (de_g g__law_take hr (by rfl) (da_cons (dv 1) (da_cons de_int da_nil))) da_nil)) (dp_nm (i := 7) sc_law_k16.nd) (dss_one (ds_if (dt_cmp (o_ne (k := 10) hr) (dv 5) (de_lst da_nil)) (dss_cons (ds_set (i := 8) sc_law_k16.nd (de_g g__law_take hr (by rfl) (da_cons (dv 1) (da_cons (de_callB c_len (by rfl) n_len PySem.boot_len (da_cons (dv 5) da_nil)) da_nil)))) (dss_cons (ds_set (i := 9) sc_law_k16.nd (de_ix (k := 10) hr (dv 5) (dv 8))) (dss_cons (ds_set (i := 10) sc_law_k16.nd (de_g g__law_take hr (by rfl) (da_cons (dv 1) (da_cons (de_op o_add (de_callB c_len (by rfl) n_len PySem.boot_len (da_cons (dv 9) da_nil)) de_int) da_nil)))) (dss_cons (ds_setL (de_op o_add (de_op o_add (de_slice (dv 9) do_none (do_some (dv 10))) (de_ix (k := 10) hr de_str (de_g g__law_take hr (by rfl) (da_cons (dv 1) (da_cons de_int da_nil))))) (de_slice (dv 9) (do_some (de_op o_add (dv 10) de_int)) do_none)) (dv 5) (dv 8)) (dss_one (ds_if (dt_cmp (o_eq (k := 10) hr) (de_g g__law_take hr (by rfl) (da_cons (dv 1) (da_cons de_int da_nil))) de_int) (dss_one (ds_setL de_str (dv 5) (dv 8))) dss_nil)))))) dss_nil))) (dss_cons (ds_set (i := 11) sc_law_k16.nd (de_bm (by simp) PySem.F.plainAttrs_str PySem.F.slot_str_join PySem.F.type_str_join m_join de_str (da_cons (dv 5) da_nil))) (dss_one (ds_ret (de_and (de_cmp (o_eq (k := 10) hr) (de_g g__law_line_of hr (by rfl) (da_cons (dv 11) da_nil)) (de_g g__law_due hr (by rfl) (da_cons (dv 11) da_nil))) (de_one (de_cmp (o_eq (k := 10) hr) (de_g g__law_line_of hr (by rfl) (da_cons (de_op o_add (dv 11) de_str) da_nil)) (de_g g__law_due hr (by rfl) (da_cons (de_op o_add (dv 11) de_str) da_nil)))))))))))))))))), rd_law_k16 a ns hn⟩
theorem facts {P : Program} {w : World} {K : PySem.W.Frag} {h : Heap} {mg : Str → Option Value} {f : Addr} (X : K.In h) (G : h.Ns mainGlobals mg) (hfa : mg ("law" : Str) = some (.ref f)) (c : Says2 ch fn fs K) (hP : P.main.file = FILE ∧ (P.main.scope.names.lookup ("super" : Str)).isSome = false) :
    ∃ fd : FuncData, (∀ (s : Shared) (v : Value), BindsTo s fd ⟨[v], []⟩ [("_law_script", v)]) ∧ ∀ base : Heap, K.In base → base.Ns mainGlobals mg → FnOk P w K mg base (L2N.CX P w) 11 f fd ["_law_script"] (spScr K 63 rLaw) := by
  obtain ⟨fd_l_bag, F_l_bag⟩ := c.df 0 (d := d_l_bag) rfl
  obtain ⟨fd_l_take, F_l_take⟩ := c.df 1 (d := d_l_take) rfl
  obtain ⟨fd_l_palette, F_l_palette⟩ := c.df 2 (d := d_l_palette) rfl
  obtain ⟨fd_l_offset, F_l_offset⟩ := c.df 3 (d := d_l_offset) rfl
  obtain ⟨fd_l_signs, F_l_signs⟩ := c.df 4 (d := d_l_signs) rfl
  obtain ⟨fd_l_parts, F_l_parts⟩ := c.df 5 (d := d_l_parts) rfl
  obtain ⟨fd_l_rule, F_l_rule⟩ := c.df 6 (d := d_l_rule) rfl
  obtain ⟨fd_l_rules, F_l_rules⟩ := c.df 7 (d := d_l_rules) rfl
  obtain ⟨fd_Book_len, F_Book_len⟩ := c.df 8 (d := d_Book_len) rfl
  obtain ⟨fd_Book_init, F_Book_init⟩ := c.df 9 (d := d_Book_init) rfl
  obtain ⟨fd_p_is_stone, F_p_is_stone⟩ := c.df 10 (d := d_p_is_stone) rfl
  obtain ⟨fd_p_is_offset, F_p_is_offset⟩ := c.df 11 (d := d_p_is_offset) rfl
  obtain ⟨fd_p_are_condition_signs, F_p_are_condition_signs⟩ := c.df 12 (d := d_p_are_condition_signs) rfl
  obtain ⟨fd_p_reading_order, F_p_reading_order⟩ := c.df 13 (d := d_p_reading_order) rfl
  obtain ⟨fd_p_checked_parts, F_p_checked_parts⟩ := c.df 14 (d := d_p_checked_parts) rfl
  obtain ⟨fd_Rule_init, F_Rule_init⟩ := c.df 15 (d := d_Rule_init) rfl
  obtain ⟨fd_CountRule_init, F_CountRule_init⟩ := c.dfS 0 (d := d_CountRule_init) rfl
  obtain ⟨fd_SameRule_init, F_SameRule_init⟩ := c.dfS 1 (d := d_SameRule_init) rfl
  obtain ⟨fd_l_made, F_l_made⟩ := c.df 16 (d := d_l_made) rfl
  obtain ⟨fd_l_made_of_k16, F_l_made_of_k16⟩ := c.df 17 (d := d_l_made_of_k16) rfl
  obtain ⟨fd_l_sorted_parts, F_l_sorted_parts⟩ := c.df 18 (d := d_l_sorted_parts) rfl
  obtain ⟨fd_l_written, F_l_written⟩ := c.df 19 (d := d_l_written) rfl
  obtain ⟨fd_p_read_number, F_p_read_number⟩ := c.df 20 (d := d_p_read_number) rfl
  obtain ⟨fd_p_read_part, F_p_read_part⟩ := c.df 21 (d := d_p_read_part) rfl
  obtain ⟨fd_p_read_rule, F_p_read_rule⟩ := c.df 22 (d := d_p_read_rule) rfl
  obtain ⟨fd_Book_read_sx, F_Book_read_sx⟩ := c.df 23 (d := d_Book_read_sx) rfl
  obtain ⟨fd_l_is_int, F_l_is_int⟩ := c.df 24 (d := d_l_is_int) rfl
  obtain ⟨fd_l_line_of_k16, F_l_line_of_k16⟩ := c.df 25 (d := d_l_line_of_k16) rfl
  obtain ⟨fd_l_is_letter, F_l_is_letter⟩ := c.df 26 (d := d_l_is_letter) rfl
  obtain ⟨fd_l_number, F_l_number⟩ := c.df 27 (d := d_l_number) rfl
  obtain ⟨fd_l_word_part, F_l_word_part⟩ := c.df 28 (d := d_l_word_part) rfl
  obtain ⟨fd_l_bad_part, F_l_bad_part⟩ := c.df 29 (d := d_l_bad_part) rfl
  obtain ⟨fd_l_fault, F_l_fault⟩ := c.df 30 (d := d_l_fault) rfl
  obtain ⟨fd_l_line_fault, F_l_line_fault⟩ := c.df 31 (d := d_l_line_fault) rfl
  obtain ⟨fd_l_due_k16, F_l_due_k16⟩ := c.df 32 (d := d_l_due_k16) rfl
  obtain ⟨fd_law_k16, F_law_k16⟩ := c.df 33 (d := d_law_k16) rfl
  obtain ⟨fd_xInvalidBook, F_xInvalidBook⟩ := c.df 34 (d := d_xInvalidBook) rfl
  obtain ⟨fd_xInvalidRule, F_xInvalidRule⟩ := c.df 35 (d := d_xInvalidRule) rfl
  have e := hfa.symm.trans (He.glo_ok X G (c.fact 77 (p := fun K => (He.Fa.glo "law").ok K) rfl))
  cases e
  have b := FunD.bindsA (ps := ["_law_script"]) F_law_k16 fun _ _ _ _ _ _ us hl => match us, hl with | [_], _ => rfl
  refine ⟨fd_law_k16, fun s v => b s [v] rfl, fun base _ _ => ?_⟩
  have x_InvalidBook : Gx P w K mg base 23 "InvalidBook" := gx1 F_xInvalidBook sc_xInvalidBook rfl (FunD.bindsN (ps := ["self", "line"]) F_xInvalidBook fun _ _ _ _ _ _ us hl => match us, hl with | [_, _], _ => rfl) (c.fact 0 (p := fun K => oexB K 23) rfl) (c.fact 1 (p := fun K => oinB K 23) rfl) (He.glo_ok X G (c.fact 2 (p := fun K => (He.Fa.glo "InvalidBook").ok K) rfl))
  have xh_InvalidBook : GxH P w K mg base 23 "InvalidBook" := gxh1 F_xInvalidBook sc_xInvalidBook rfl (FunD.bindsN (ps := ["self", "line"]) F_xInvalidBook fun _ _ _ _ _ _ us hl => match us, hl with | [_, _], _ => rfl) (c.fact 0 (p := fun K => oexB K 23) rfl) (c.fact 1 (p := fun K => oinB K 23) rfl) (He.glo_ok X G (c.fact 2 (p := fun K => (He.Fa.glo "InvalidBook").ok K) rfl))
  have x_InvalidRule : Gx P w K mg base 22 "InvalidRule" := gx1 F_xInvalidRule sc_xInvalidRule rfl (FunD.bindsN (ps := ["self", "part"]) F_xInvalidRule fun _ _ _ _ _ _ us hl => match us, hl with | [_, _], _ => rfl) (c.fact 3 (p := fun K => oexB K 22) rfl) (c.fact 4 (p := fun K => oinB K 22) rfl) (He.glo_ok X G (c.fact 5 (p := fun K => (He.Fa.glo "InvalidRule").ok K) rfl))
  have n_int : mg "int" = none := He.free_ok X G (c.fact 6 (p := fun K => (He.Fa.free "int").ok K) rfl)
  have o_l_bag := ok_l_bag (P := P) (w := w) (mg := mg) (base := base) F_l_bag n_int
  have n_len : mg "len" = none := He.free_ok X G (c.fact 7 (p := fun K => (He.Fa.free "len").ok K) rfl)
  have o_l_take := ok_l_take (P := P) (w := w) (mg := mg) (base := base) F_l_take n_len n_int
  have g__law_take : Gf P w K mg base 1 "_law_take" ["_law_bag_here", "_law_size"] r_l_take := ⟨_, _, o_l_take, He.glo_ok X G (c.fact 8 (p := fun K => (He.Fa.glo "_law_take").ok K) rfl), F_l_take.kp, (FunD.bindsN (ps := ["_law_bag_here", "_law_size"]) F_l_take fun _ _ _ _ _ _ us hl => match us, hl with | [_, _], _ => rfl)⟩
  have o_l_palette := ok_l_palette (P := P) (w := w) (mg := mg) (base := base) F_l_palette n_int g__law_take
  have o_l_offset := ok_l_offset (P := P) (w := w) (mg := mg) (base := base) F_l_offset n_int g__law_take
  have o_l_signs := ok_l_signs (P := P) (w := w) (mg := mg) (base := base) F_l_signs g__law_take
  have n_range : mg "range" = none := He.free_ok X G (c.fact 9 (p := fun K => (He.Fa.free "range").ok K) rfl)
  have g__law_offset : Gf P w K mg base 2 "_law_offset" ["_law_bag_here"] r_l_offset := ⟨_, _, o_l_offset, He.glo_ok X G (c.fact 10 (p := fun K => (He.Fa.glo "_law_offset").ok K) rfl), F_l_offset.kp, (FunD.bindsN (ps := ["_law_bag_here"]) F_l_offset fun _ _ _ _ _ _ us hl => match us, hl with | [_], _ => rfl)⟩
  have g__law_signs : Gf P w K mg base 2 "_law_signs" ["_law_bag_here", "_law_palette_here"] r_l_signs := ⟨_, _, o_l_signs, He.glo_ok X G (c.fact 11 (p := fun K => (He.Fa.glo "_law_signs").ok K) rfl), F_l_signs.kp, (FunD.bindsN (ps := ["_law_bag_here", "_law_palette_here"]) F_l_signs fun _ _ _ _ _ _ us hl => match us, hl with | [_, _], _ => rfl)⟩
  have o_l_parts := ok_l_parts (P := P) (w := w) (mg := mg) (base := base) F_l_parts n_range g__law_take g__law_offset g__law_signs
  have g__law_parts : Gf P w K mg base 3 "_law_parts" ["_law_bag_here", "_law_palette_here"] r_l_parts := ⟨_, _, o_l_parts, He.glo_ok X G (c.fact 12 (p := fun K => (He.Fa.glo "_law_parts").ok K) rfl), F_l_parts.kp, (FunD.bindsN (ps := ["_law_bag_here", "_law_palette_here"]) F_l_parts fun _ _ _ _ _ _ us hl => match us, hl with | [_, _], _ => rfl)⟩
  have o_l_rule := ok_l_rule (P := P) (w := w) (mg := mg) (base := base) F_l_rule n_len g__law_take g__law_parts
  have g__law_rule : Gf P w K mg base 4 "_law_rule" ["_law_bag_here", "_law_palette_here"] r_l_rule := ⟨_, _, o_l_rule, He.glo_ok X G (c.fact 13 (p := fun K => (He.Fa.glo "_law_rule").ok K) rfl), F_l_rule.kp, (FunD.bindsN (ps := ["_law_bag_here", "_law_palette_here"]) F_l_rule fun _ _ _ _ _ _ us hl => match us, hl with | [_, _], _ => rfl)⟩
  have o_l_rules := ok_l_rules (P := P) (w := w) (mg := mg) (base := base) F_l_rules n_range g__law_take g__law_rule
  have f_rules_5 : FOk K "rules" [(5, 0)] := fok_of (c.fact 14 (p := fun K => fokB K "rules" [(5, 0)]) rfl)
  have o_Book_len := ok_Book_len (P := P) (w := w) (mg := mg) (base := base) F_Book_len f_rules_5 n_len
  have c_MOST_RULES : ∃ u, mg "MOST_RULES" = some u ∧ RelV (.int (20)) u := gint_of (He.int_ok X G (c.fact 15 (p := fun K => (He.Fa.int "MOST_RULES" (20)).ok K) rfl))
  have n_list : mg "list" = none := He.free_ok X G (c.fact 16 (p := fun K => (He.Fa.free "list").ok K) rfl)
  have o_Book_init := ok_Book_init (P := P) (w := w) (mg := mg) (base := base) F_Book_init n_len c_MOST_RULES x_InvalidBook n_list f_rules_5
  have c_LETTERS : ∃ u, mg "LETTERS" = some u ∧ RelV (.str "abcdefghijklmnopqrstuvwxyz") u := gstr_of (He.str_ok X G (c.fact 17 (p := fun K => (He.Fa.str "LETTERS" "abcdefghijklmnopqrstuvwxyz").ok K) rfl))
  have o_p_is_stone := ok_p_is_stone (P := P) (w := w) (mg := mg) (base := base) F_p_is_stone n_len c_LETTERS
  have c_REACH : ∃ u, mg "REACH" = some u ∧ RelV (.int (3)) u := gint_of (He.int_ok X G (c.fact 18 (p := fun K => (He.Fa.int "REACH" (3)).ok K) rfl))
  have o_p_is_offset := ok_p_is_offset (P := P) (w := w) (mg := mg) (base := base) F_p_is_offset c_REACH
  have n_enumerate : mg "enumerate" = none := He.free_ok X G (c.fact 19 (p := fun K => (He.Fa.free "enumerate").ok K) rfl)
  have g_is_stone : Gf P w K mg base 1 "is_stone" ["sign"] r_p_is_stone := ⟨_, _, o_p_is_stone, He.glo_ok X G (c.fact 20 (p := fun K => (He.Fa.glo "is_stone").ok K) rfl), F_p_is_stone.kp, (FunD.bindsN (ps := ["sign"]) F_p_is_stone fun _ _ _ _ _ _ us hl => match us, hl with | [_], _ => rfl)⟩
  have o_p_are_condition_signs := ok_p_are_condition_signs (P := P) (w := w) (mg := mg) (base := base) F_p_are_condition_signs n_enumerate n_len g_is_stone
  have ro_f : ∃ f, RoF K f ∧ mg "reading_order" = some (.ref f) := ⟨_, ro_of F_p_reading_order (by decide), He.glo_ok X G (c.fact 21 (p := fun K => (He.Fa.glo "reading_order").ok K) rfl)⟩
  have c_MOST_PARTS : ∃ u, mg "MOST_PARTS" = some u ∧ RelV (.int (8)) u := gint_of (He.int_ok X G (c.fact 22 (p := fun K => (He.Fa.int "MOST_PARTS" (8)).ok K) rfl))
  have n_sorted : mg "sorted" = none := He.free_ok X G (c.fact 23 (p := fun K => (He.Fa.free "sorted").ok K) rfl)
  have g_is_offset : Gf P w K mg base 1 "is_offset" ["dx", "dy"] r_p_is_offset := ⟨_, _, o_p_is_offset, He.glo_ok X G (c.fact 24 (p := fun K => (He.Fa.glo "is_offset").ok K) rfl), F_p_is_offset.kp, (FunD.bindsN (ps := ["dx", "dy"]) F_p_is_offset fun _ _ _ _ _ _ us hl => match us, hl with | [_, _], _ => rfl)⟩
  have g_are_condition_signs : Gf P w K mg base 2 "are_condition_signs" ["signs"] r_p_are_condition_signs := ⟨_, _, o_p_are_condition_signs, He.glo_ok X G (c.fact 25 (p := fun K => (He.Fa.glo "are_condition_signs").ok K) rfl), F_p_are_condition_signs.kp, (FunD.bindsN (ps := ["signs"]) F_p_are_condition_signs fun _ _ _ _ _ _ us hl => match us, hl with | [_], _ => rfl)⟩
  have o_p_checked_parts := ok_p_checked_parts (P := P) (w := w) (mg := mg) (base := base) F_p_checked_parts n_enumerate c_MOST_PARTS x_InvalidRule n_sorted n_list ro_f g_is_offset g_are_condition_signs
  have f_stone_2_3_4 : FOk K "stone" [(2, 0), (3, 0), (4, 0)] := fok_of (c.fact 26 (p := fun K => fokB K "stone" [(2, 0), (3, 0), (4, 0)]) rfl)
  have f_parts_2_3_4 : FOk K "parts" [(2, 1), (3, 1), (4, 1)] := fok_of (c.fact 27 (p := fun K => fokB K "parts" [(2, 1), (3, 1), (4, 1)]) rfl)
  have g_checked_parts : Gf P w K mg base 3 "checked_parts" ["parts"] r_p_checked_parts := ⟨_, _, o_p_checked_parts, He.glo_ok X G (c.fact 28 (p := fun K => (He.Fa.glo "checked_parts").ok K) rfl), F_p_checked_parts.kp, (FunD.bindsN (ps := ["parts"]) F_p_checked_parts fun _ _ _ _ _ _ us hl => match us, hl with | [_], _ => rfl)⟩
  have o_Rule_init := ok_Rule_init (P := P) (w := w) (mg := mg) (base := base) F_Rule_init x_InvalidRule f_stone_2_3_4 f_parts_2_3_4 g_is_stone g_checked_parts
  have f_parts_3_4 : FOk K "parts" [(3, 1), (4, 1)] := fok_of (c.fact 29 (p := fun K => fokB K "parts" [(3, 1), (4, 1)]) rfl)
  have f_need_3_4 : FOk K "need" [(3, 2), (4, 2)] := fok_of (c.fact 30 (p := fun K => fokB K "need" [(3, 2), (4, 2)]) rfl)
  have o_CountRule_init := ok_CountRule_init (P := P) (w := w) (mg := mg) (base := base) F_CountRule_init (sup_of (c.fact 31 (p := fun K => supB K (He.ma K (He.ga K "CountRule") "__init__") 3 (He.ma K (He.ga K "Rule") "__init__") [3, 4] FILE) rfl) (He.free_ok X G (c.fact 32 (p := fun K => (He.Fa.free "super").ok K) rfl)) hP.1 hP.2) o_Rule_init (FunD.bindsN (ps := ["self", "stone", "conditions"]) F_Rule_init fun _ _ _ _ _ _ us hl => match us, hl with | [_, _, _], _ => rfl) f_parts_3_4 n_len x_InvalidRule f_need_3_4
  have f_stone_4 : FOk K "stone" [(4, 0)] := fok_of (c.fact 33 (p := fun K => fokB K "stone" [(4, 0)]) rfl)
  have o_SameRule_init := ok_SameRule_init (P := P) (w := w) (mg := mg) (base := base) F_SameRule_init (sup_of (c.fact 34 (p := fun K => supB K (He.ma K (He.ga K "SameRule") "__init__") 4 (He.ma K (He.ga K "CountRule") "__init__") [4] FILE) rfl) (He.free_ok X G (c.fact 32 (p := fun K => (He.Fa.free "super").ok K) rfl)) hP.1 hP.2) o_CountRule_init (FunS.bindsN (ps := ["self", "stone", "conditions", "need"]) F_CountRule_init fun _ _ _ _ _ _ _ us hl => match us, hl with | [_, _, _, _], _ => rfl) f_stone_4
  have i_Rule : Gi P w K mg base 4 2 "Rule" ["self", "stone", "conditions"] r_Rule_init := ⟨_, _, o_Rule_init, He.glo_ok X G (c.fact 35 (p := fun K => (He.Fa.glo "Rule").ok K) rfl), He.mkr_ok (c.fact 36 (p := fun K => (He.Fa.mkr "Rule").ok K) rfl), (FunD.bindsN (ps := ["self", "stone", "conditions"]) F_Rule_init fun _ _ _ _ _ _ us hl => match us, hl with | [_, _, _], _ => rfl)⟩
  have i_CountRule : Gi P w K mg base 5 3 "CountRule" ["self", "stone", "conditions", "need"] r_CountRule_init := ⟨_, _, o_CountRule_init, He.glo_ok X G (c.fact 37 (p := fun K => (He.Fa.glo "CountRule").ok K) rfl), He.mkr_ok (c.fact 38 (p := fun K => (He.Fa.mkr "CountRule").ok K) rfl), (FunS.bindsN (ps := ["self", "stone", "conditions", "need"]) F_CountRule_init fun _ _ _ _ _ _ _ us hl => match us, hl with | [_, _, _, _], _ => rfl)⟩
  have i_SameRule : Gi P w K mg base 6 4 "SameRule" ["self", "places", "need"] r_SameRule_init := ⟨_, _, o_SameRule_init, He.glo_ok X G (c.fact 39 (p := fun K => (He.Fa.glo "SameRule").ok K) rfl), He.mkr_ok (c.fact 40 (p := fun K => (He.Fa.mkr "SameRule").ok K) rfl), (FunS.bindsN (ps := ["self", "places", "need"]) F_SameRule_init fun _ _ _ _ _ _ _ us hl => match us, hl with | [_, _, _], _ => rfl)⟩
  have o_l_made := ok_l_made (P := P) (w := w) (mg := mg) (base := base) F_l_made n_list i_Rule i_CountRule i_SameRule
  have fx_line_23 : FxOk K "line" [(23, 0)] := fx_of (c.fact 41 (p := fun K => fxB K "line" [(23, 0)]) rfl)
  have g_InvalidBook : mg "InvalidBook" = some (.ref (cad K 23)) := He.glo_ok X G (c.fact 2 (p := fun K => (He.Fa.glo "InvalidBook").ok K) rfl)
  have em_InvalidBook_23 : EmOk K (.ref (cad K 23)) [(23, true)] := em_of (c.fact 42 (p := fun K => emB K (.ref (cad K 23)) [(23, true)]) rfl)
  have d_len_5 : Go P w K mg base 1 5 "__len__" ["self"] r_Book_len := ⟨_, _, o_Book_len, (FunD.bindsN (ps := ["self"]) F_Book_len fun _ _ _ _ _ _ us hl => match us, hl with | [_], _ => rfl), He.meth_ok (c.fact 43 (p := fun K => (He.Fa.meth "Book" "__len__").ok K) rfl)⟩
  have i_Book : Gi P w K mg base 3 5 "Book" ["self", "rules"] r_Book_init := ⟨_, _, o_Book_init, He.glo_ok X G (c.fact 44 (p := fun K => (He.Fa.glo "Book").ok K) rfl), He.mkr_ok (c.fact 45 (p := fun K => (He.Fa.mkr "Book").ok K) rfl), (FunD.bindsN (ps := ["self", "rules"]) F_Book_init fun _ _ _ _ _ _ us hl => match us, hl with | [_, _], _ => rfl)⟩
  have g__law_made : Gf P w K mg base 8 "_law_made" ["_law_rule_here"] r_l_made := ⟨_, _, o_l_made, He.glo_ok X G (c.fact 46 (p := fun K => (He.Fa.glo "_law_made").ok K) rfl), F_l_made.kp, (FunD.bindsN (ps := ["_law_rule_here"]) F_l_made fun _ _ _ _ _ _ us hl => match us, hl with | [_], _ => rfl)⟩
  have o_l_made_of_k16 := ok_l_made_of_k16 (P := P) (w := w) (mg := mg) (base := base) F_l_made_of_k16 n_len fx_line_23 g_InvalidBook em_InvalidBook_23 d_len_5 i_Book g__law_made
  have o_l_sorted_parts := ok_l_sorted_parts (P := P) (w := w) (mg := mg) (base := base) F_l_sorted_parts n_sorted
  have n_str : mg "str" = none := He.free_ok X G (c.fact 47 (p := fun K => (He.Fa.free "str").ok K) rfl)
  have g__law_sorted_parts : Gf P w K mg base 1 "_law_sorted_parts" ["_law_rule_here"] r_l_sorted_parts := ⟨_, _, o_l_sorted_parts, He.glo_ok X G (c.fact 48 (p := fun K => (He.Fa.glo "_law_sorted_parts").ok K) rfl), F_l_sorted_parts.kp, (FunD.bindsN (ps := ["_law_rule_here"]) F_l_sorted_parts fun _ _ _ _ _ _ us hl => match us, hl with | [_], _ => rfl)⟩
  have o_l_written := ok_l_written (P := P) (w := w) (mg := mg) (base := base) F_l_written n_str n_sorted g__law_sorted_parts
  have c_DIGITS : ∃ u, mg "DIGITS" = some u ∧ RelV (.str "0123456789") u := gstr_of (He.str_ok X G (c.fact 49 (p := fun K => (He.Fa.str "DIGITS" "0123456789").ok K) rfl))
  have o_p_read_number := ok_p_read_number (P := P) (w := w) (mg := mg) (base := base) F_p_read_number n_len c_DIGITS n_int
  have g_read_number : Gf P w K mg base 1 "read_number" ["word"] r_p_read_number := ⟨_, _, o_p_read_number, He.glo_ok X G (c.fact 50 (p := fun K => (He.Fa.glo "read_number").ok K) rfl), F_p_read_number.kp, (FunD.bindsN (ps := ["word"]) F_p_read_number fun _ _ _ _ _ _ us hl => match us, hl with | [_], _ => rfl)⟩
  have o_p_read_part := ok_p_read_part (P := P) (w := w) (mg := mg) (base := base) F_p_read_part n_len g_read_number
  have g_read_part : Gf P w K mg base 2 "read_part" ["word", "is_same"] r_p_read_part := ⟨_, _, o_p_read_part, He.glo_ok X G (c.fact 51 (p := fun K => (He.Fa.glo "read_part").ok K) rfl), F_p_read_part.kp, (FunD.bindsN (ps := ["word", "is_same"]) F_p_read_part fun _ _ _ _ _ _ us hl => match us, hl with | [_, _], _ => rfl)⟩
  have o_p_read_rule := ok_p_read_rule (P := P) (w := w) (mg := mg) (base := base) F_p_read_rule n_len x_InvalidRule c_DIGITS n_enumerate n_int g_is_stone g_read_part i_SameRule i_Rule i_CountRule
  have g_InvalidRule : mg "InvalidRule" = some (.ref (cad K 22)) := He.glo_ok X G (c.fact 5 (p := fun K => (He.Fa.glo "InvalidRule").ok K) rfl)
  have em_InvalidRule_22 : EmOk K (.ref (cad K 22)) [(22, true)] := em_of (c.fact 52 (p := fun K => emB K (.ref (cad K 22)) [(22, true)]) rfl)
  have rx_22 : RxOk K [(22, true)] := rx_of (c.fact 53 (p := fun K => rxB K [(22, true)]) rfl)
  have g_read_rule : Gf P w K mg base 8 "read_rule" ["line"] r_p_read_rule := ⟨_, _, o_p_read_rule, He.glo_ok X G (c.fact 54 (p := fun K => (He.Fa.glo "read_rule").ok K) rfl), F_p_read_rule.kp, (FunD.bindsN (ps := ["line"]) F_p_read_rule fun _ _ _ _ _ _ us hl => match us, hl with | [_], _ => rfl)⟩
  have o_Book_read_sx := ok_Book_read_sx (P := P) (w := w) (mg := mg) (base := base) F_Book_read_sx n_enumerate c_MOST_RULES x_InvalidBook xh_InvalidBook g_InvalidRule em_InvalidRule_22 rx_22 i_Book g_read_rule
  have b_int : isiB K (.type "int") ti_int = true := (c.fact 55 (p := fun K => isiB K (.type "int") ti_int) rfl)
  have n_isinstance : mg "isinstance" = none := He.free_ok X G (c.fact 56 (p := fun K => (He.Fa.free "isinstance").ok K) rfl)
  have b_bool : isiB K (.type "bool") ti_bool = true := (c.fact 57 (p := fun K => isiB K (.type "bool") ti_bool) rfl)
  have n_bool : mg "bool" = none := He.free_ok X G (c.fact 58 (p := fun K => (He.Fa.free "bool").ok K) rfl)
  have o_l_is_int := ok_l_is_int (P := P) (w := w) (mg := mg) (base := base) F_l_is_int b_int n_isinstance n_int b_bool n_bool
  have oz_l_is_int := okZ_l_is_int (P := P) (w := w) (mg := mg) (base := base) F_l_is_int b_int n_isinstance n_int b_bool n_bool
  have ix_SmaltiError_23 : IxOk K (.ref (cad K 20)) [(23, true)] := ix_of (c.fact 59 (p := fun K => ixB K (.ref (cad K 20)) [(23, true)]) rfl)
  have g_SmaltiError : mg "SmaltiError" = some (.ref (cad K 20)) := He.glo_ok X G (c.fact 60 (p := fun K => (He.Fa.glo "SmaltiError").ok K) rfl)
  have ix_InvalidRule_23 : IxOk K (.ref (cad K 22)) [(23, false)] := ix_of (c.fact 61 (p := fun K => ixB K (.ref (cad K 22)) [(23, false)]) rfl)
  have c_Book_read : GcX P w K mg base 9 5 "Book" "read" ["cls", "text"] r_Book_read_sx := ⟨_, _, _, (cm_of (c.fact 62 (p := fun K => cmB K 5 "read") rfl)).1, (cm_of (c.fact 62 (p := fun K => cmB K 5 "read") rfl)).2, o_Book_read_sx, (FunD.bindsN (ps := ["cls", "text"]) F_Book_read_sx fun _ _ _ _ _ _ us hl => match us, hl with | [_, _], _ => rfl), He.glo_ok X G (c.fact 44 (p := fun K => (He.Fa.glo "Book").ok K) rfl)⟩
  have gz__law_is_int : GfZ P w K mg base 1 "_law_is_int" ["_law_value"] r_l_is_int := ⟨_, _, oz_l_is_int, He.glo_ok X G (c.fact 63 (p := fun K => (He.Fa.glo "_law_is_int").ok K) rfl), F_l_is_int.kp, (FunD.bindsN (ps := ["_law_value"]) F_l_is_int fun _ _ _ _ _ _ us hl => match us, hl with | [_], _ => rfl)⟩
  have o_l_line_of_k16 := ok_l_line_of_k16 (P := P) (w := w) (mg := mg) (base := base) F_l_line_of_k16 n_len ix_SmaltiError_23 g_SmaltiError n_isinstance ix_InvalidRule_23 g_InvalidRule fx_line_23 g_InvalidBook em_InvalidBook_23 d_len_5 c_Book_read gz__law_is_int
  have o_l_is_letter := ok_l_is_letter (P := P) (w := w) (mg := mg) (base := base) F_l_is_letter n_len
  have o_l_number := ok_l_number (P := P) (w := w) (mg := mg) (base := base) F_l_number n_len n_int
  have g__law_number : Gf P w K mg base 1 "_law_number" ["_law_word"] r_l_number := ⟨_, _, o_l_number, He.glo_ok X G (c.fact 64 (p := fun K => (He.Fa.glo "_law_number").ok K) rfl), F_l_number.kp, (FunD.bindsN (ps := ["_law_word"]) F_l_number fun _ _ _ _ _ _ us hl => match us, hl with | [_], _ => rfl)⟩
  have o_l_word_part := ok_l_word_part (P := P) (w := w) (mg := mg) (base := base) F_l_word_part n_len g__law_number
  have o_l_bad_part := ok_l_bad_part (P := P) (w := w) (mg := mg) (base := base) F_l_bad_part n_len n_range
  have g__law_is_letter : Gf P w K mg base 1 "_law_is_letter" ["_law_text"] r_l_is_letter := ⟨_, _, o_l_is_letter, He.glo_ok X G (c.fact 65 (p := fun K => (He.Fa.glo "_law_is_letter").ok K) rfl), F_l_is_letter.kp, (FunD.bindsN (ps := ["_law_text"]) F_l_is_letter fun _ _ _ _ _ _ us hl => match us, hl with | [_], _ => rfl)⟩
  have g__law_bad_part : Gf P w K mg base 1 "_law_bad_part" ["_law_part", "_law_earlier"] r_l_bad_part := ⟨_, _, o_l_bad_part, He.glo_ok X G (c.fact 66 (p := fun K => (He.Fa.glo "_law_bad_part").ok K) rfl), F_l_bad_part.kp, (FunD.bindsN (ps := ["_law_part", "_law_earlier"]) F_l_bad_part fun _ _ _ _ _ _ us hl => match us, hl with | [_, _], _ => rfl)⟩
  have o_l_fault := ok_l_fault (P := P) (w := w) (mg := mg) (base := base) F_l_fault n_len n_range g__law_is_letter g__law_bad_part
  have g__law_word_part : Gf P w K mg base 2 "_law_word_part" ["_law_word", "_law_same"] r_l_word_part := ⟨_, _, o_l_word_part, He.glo_ok X G (c.fact 67 (p := fun K => (He.Fa.glo "_law_word_part").ok K) rfl), F_l_word_part.kp, (FunD.bindsN (ps := ["_law_word", "_law_same"]) F_l_word_part fun _ _ _ _ _ _ us hl => match us, hl with | [_, _], _ => rfl)⟩
  have g__law_fault : Gf P w K mg base 2 "_law_fault" ["_law_rule_here"] r_l_fault := ⟨_, _, o_l_fault, He.glo_ok X G (c.fact 68 (p := fun K => (He.Fa.glo "_law_fault").ok K) rfl), F_l_fault.kp, (FunD.bindsN (ps := ["_law_rule_here"]) F_l_fault fun _ _ _ _ _ _ us hl => match us, hl with | [_], _ => rfl)⟩
  have o_l_line_fault := ok_l_line_fault (P := P) (w := w) (mg := mg) (base := base) F_l_line_fault n_len n_range n_int g__law_is_letter g__law_word_part g__law_fault
  have g__law_line_fault : Gf P w K mg base 3 "_law_line_fault" ["_law_line"] r_l_line_fault := ⟨_, _, o_l_line_fault, He.glo_ok X G (c.fact 69 (p := fun K => (He.Fa.glo "_law_line_fault").ok K) rfl), F_l_line_fault.kp, (FunD.bindsN (ps := ["_law_line"]) F_l_line_fault fun _ _ _ _ _ _ us hl => match us, hl with | [_], _ => rfl)⟩
  have o_l_due_k16 := ok_l_due_k16 (P := P) (w := w) (mg := mg) (base := base) F_l_due_k16 n_len n_range g__law_line_fault
  have g__law_bag : Gz P w K mg base 1 "_law_bag" ["_law_script"] 63 r_l_bag := ⟨_, _, o_l_bag, He.glo_ok X G (c.fact 70 (p := fun K => (He.Fa.glo "_law_bag").ok K) rfl), F_l_bag.kp, (FunD.bindsN (ps := ["_law_script"]) F_l_bag fun _ _ _ _ _ _ us hl => match us, hl with | [_], _ => rfl)⟩
  have g__law_palette : Gf P w K mg base 2 "_law_palette" ["_law_bag_here"] r_l_palette := ⟨_, _, o_l_palette, He.glo_ok X G (c.fact 71 (p := fun K => (He.Fa.glo "_law_palette").ok K) rfl), F_l_palette.kp, (FunD.bindsN (ps := ["_law_bag_here"]) F_l_palette fun _ _ _ _ _ _ us hl => match us, hl with | [_], _ => rfl)⟩
  have g__law_rules : Gf P w K mg base 5 "_law_rules" ["_law_bag_here", "_law_palette_here"] r_l_rules := ⟨_, _, o_l_rules, He.glo_ok X G (c.fact 72 (p := fun K => (He.Fa.glo "_law_rules").ok K) rfl), F_l_rules.kp, (FunD.bindsN (ps := ["_law_bag_here", "_law_palette_here"]) F_l_rules fun _ _ _ _ _ _ us hl => match us, hl with | [_, _], _ => rfl)⟩
  have g__law_made_of : Gf P w K mg base 9 "_law_made_of" ["_law_rules_here"] r_l_made_of_k16 := ⟨_, _, o_l_made_of_k16, He.glo_ok X G (c.fact 73 (p := fun K => (He.Fa.glo "_law_made_of").ok K) rfl), F_l_made_of_k16.kp, (FunD.bindsN (ps := ["_law_rules_here"]) F_l_made_of_k16 fun _ _ _ _ _ _ us hl => match us, hl with | [_], _ => rfl)⟩
  have g__law_written : Gf P w K mg base 2 "_law_written" ["_law_rule_here"] r_l_written := ⟨_, _, o_l_written, He.glo_ok X G (c.fact 74 (p := fun K => (He.Fa.glo "_law_written").ok K) rfl), F_l_written.kp, (FunD.bindsN (ps := ["_law_rule_here"]) F_l_written fun _ _ _ _ _ _ us hl => match us, hl with | [_], _ => rfl)⟩
  have g__law_line_of : Gf P w K mg base 10 "_law_line_of" ["_law_text"] r_l_line_of_k16 := ⟨_, _, o_l_line_of_k16, He.glo_ok X G (c.fact 75 (p := fun K => (He.Fa.glo "_law_line_of").ok K) rfl), F_l_line_of_k16.kp, (FunD.bindsN (ps := ["_law_text"]) F_l_line_of_k16 fun _ _ _ _ _ _ us hl => match us, hl with | [_], _ => rfl)⟩
  have g__law_due : Gf P w K mg base 4 "_law_due" ["_law_text"] r_l_due_k16 := ⟨_, _, o_l_due_k16, He.glo_ok X G (c.fact 76 (p := fun K => (He.Fa.glo "_law_due").ok K) rfl), F_l_due_k16.kp, (FunD.bindsN (ps := ["_law_text"]) F_l_due_k16 fun _ _ _ _ _ _ us hl => match us, hl with | [_], _ => rfl)⟩
  have o_law_k16 := ok_law_k16 (P := P) (w := w) (mg := mg) (base := base) F_law_k16 n_len n_range g__law_bag g__law_palette g__law_rules g__law_take g__law_made_of g__law_written g__law_line_of g__law_due
  exact o_law_k16
end LAW
open PySem PySem.W PySem.Calls PyProof.Rows
theorem PySem.Challenge.cw_smalti_k16_book_refused_holds : PySem.Challenge.rw_smalti_k16_book_refused.Holds := by
  w_on; o_law
  refine HandSHeadRun.head_any (r := OpenLaw.row PySem.Challenge.rw_smalti_k16_book_refused) (q := view (OpenLaw.row PySem.Challenge.rw_smalti_k16_book_refused).prog [50]) (H := LAW.hk) (ob := LAW.ob) (M := 30000) (loose := LAW.nms) (d := HandSHeadRun.topDef (OpenLaw.row PySem.Challenge.rw_smalti_k16_book_refused).prog 50) (kwd := []) LAW.ob_eq
    (by kernel_rfl) (fun s => by kernel_rfl) LAW.run (by kernel_rfl) (by kernel_rfl) (by kernel_rfl) (by rfl) (by first | assumption | decide +kernel) (by decide +kernel) ⟨rfl, rfl, rfl, rfl, rfl, by decide +kernel⟩ ?hw ?hc
  case hw => w_witness2
  case hc =>
    refine SM.walk_law (l := PySem.Challenge.rw_smalti_k16_book_refused) (k := 11) (x := "_law_script") rfl (by kernel_rfl) ⟨rfl, by decide, by decide⟩ ?F
    intro w mg fa h Y G hmg0
    obtain ⟨K, KX, c⟩ := Y
    have hmg : mg ("law" : PySem.Str) = some (.ref fa) := by
      have e : (HandSHeadRun.topDef (OpenLaw.row PySem.Challenge.rw_smalti_k16_book_refused).prog 50).name = ("law" : PySem.Str) := by kernel_rfl
      rw [← e]
      exact hmg0
    obtain ⟨fd, hb, hF⟩ := LAW.facts (P := (PySem.Challenge.rw_smalti_k16_book_refused).prog) (w := w) KX G hmg c ⟨by kernel_rfl, by kernel_rfl⟩
    exact ⟨K, fd, KX, hb, hF⟩
