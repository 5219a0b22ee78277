import PyProof.Rows.All
import Wide.All
import OpenK.AllK
import Wide.FinOn
import HandS.ForMost
import HandS.ForExc
import HandS.Defaults
import HandS.DictComp
import HandS.Conv
import HandS.IsInst
import HandS.Star
import HandS.Property
import HandS.ClsMeth
import HandS.ExcInit
import HandS.ExcField
import HandS.ExcIs
import HandS.TryMany
import HandS.FStr
import HandS.Deep
import HandS.OwnEq
import HandS.SortRule
import HandS.SortKw
import HandS.Codes
import HandS.Head2
import HandS.HeadEnd
import HandS.HeadHook4
import KE.SortKeyHeap
import HandS.Style
import HandS.Flow
import HandS.Small
import HandS.RaiseMore
import HandS.ExcCtx
import HandS.HotCalls
import HandS.SuiteRaise
import HandS.RaiseFrom
import HandS.TryOnly
import HandS.Finally
import HandS.CallSlots
import KE.KCallOwn
import HandS.Text
import HandS.StrSplit
import KE.KOpsOwn
import PyProof.Draws
import PyProof.EnumMake
import HandS.Iter
import KE.KExcIs
import PyProof.StrOps2
import HandS.ExcValue
import HandS.Nested
import KE.KSuper
import PyProof.CollectStr
import HandS.MakeKwOnly
import HandS.Hot
import PySem.Challenge.RW_smalti_k24_error_classes
set_option Elab.async false
set_option linter.all false
set_option maxRecDepth 100000
set_option maxHeartbeats 0
namespace SM
open PySem PySem.Spec PyProof.Rows L2
abbrev okS (s : Str) : Prop := s.length ≤ sizeLine ∧ PyData.strOk s = true
inductive D where
  | non | bl (b : Bool) | int (i : Int) | str (s : Str) | ty (n : String) | adr (a : Addr)
  | tup (ds : List D) | lst (ds : List D) | dT (kvs : List (List Key × D)) | ins (c : Nat) (ds : List D) | cls (c : Nat) | exn (a : Addr) (d : Option Addr) (c : Nat) (ds : List D)
inductive OO where
  | lst (ds : List D) | dT (kvs : List (List Key × D)) | ins (c : Nat) (ds : List D)
  | dF (od : Obj) (ws : List (List Key × V)) (kvs : List (List Key × D))   -- a dict that is walked: it may not change
  | dK (kvs : List (Key × D)) | kF (od : Obj) (ws : List (Key × V)) (kvs : List (Key × D))   -- a dict of texts and numbers; one that is walked
  | exo (a : Addr) (c : Nat) (ds : List D)   -- an exception held as a value
abbrev Sto := Addr → Option OO
@[irreducible] def su (S : Sto) (a : Addr) (o : OO) : Sto := fun b => if b = a then some o else S b
@[irreducible] def sd (S : Sto) (a : Addr) : Sto := fun b => if b = a then none else S b
theorem sd_same {S : Sto} {a : Addr} : sd S a a = none := by unfold sd; exact if_pos rfl
theorem sd_ne {S : Sto} {a b : Addr} (h : b ≠ a) : sd S a b = S b := by unfold sd; exact if_neg h
def cnm : Nat → Str
  | 0 => "Region" | 1 => "Picture" | 2 => "Rule" | 3 => "CountRule" | 4 => "SameRule" | 5 => "Book" | 6 => "Sketch" | 7 => "Mender" | 8 => "Site" | 9 => "History" | 10 => "Clash" | 11 => "Case" | 12 => "State" | 13 => "Inquiry" | 14 => "Chronicle"
  | 20 => "SmaltiError" | 21 => "InvalidPicture" | 22 => "InvalidRule" | 23 => "InvalidBook" | 24 => "InvalidSketch" | 25 => "InvalidHistory" | 26 => "InvalidSign" | 27 => "InvalidSigns" | 28 => "InvalidLimit"
  | 30 => "OutOfPicture" | 31 => "NoStone" | 32 => "NoHole" | 33 => "EmptyCell" | 34 => "Opposed" | 35 => "NotOld" | 36 => "NotNew" | 37 => "SurelyOld" | 38 => "SurelyNew" | 39 => "SurelyAfter"
  | 40 => "NoRule" | 41 => "NoPhotograph" | 42 => "WrongStone" | 43 => "RuleClash" | 44 => "BadDeed" | 45 => "Impossible" | 46 => "TooManyCases" | 47 => "UnknownOption" | 48 => "UnequalSize" | 49 => "NothingToUndo" | 50 => "StillPossible"
  -- functions of the laws that are held as values (suppose's ask)
  | 60 => "_law_evidence" | 61 => "_law_snapshot" | 62 => "_law_spoil" | 63 => "_law_all_answers" | 64 => "_law_taken_back" | 65 => "_law_seen" | 66 => "_law_twice" | 67 => "_law_divide" | 68 => "_law_look" | 69 => "_law_again" | 70 => "_law_all_back" | 71 => "_law_meddle" | 72 => "_law_break"
  | _ => "?"
def cfs : Nat → List Str
  | 0 => ["found", "row"] | 1 => ["grid", "width", "height"] | 2 => ["stone", "parts"] | 3 => ["stone", "parts", "need"] | 4 => ["stone", "parts", "need"] | 5 => ["rules"] | 6 => ["width", "height", "table"] | 7 => ["known", "laid", "refused"] | 8 => ["book", "now", "past"]
  | 9 => ["first", "deeds"] | 10 => ["region", "refusals"] | 11 => ["book", "view", "solid", "held", "needed"] | 12 => ["view", "never", "certain", "needed", "loosened", "lacking"] | 13 => ["book", "sketch", "most", "past", "state"] | 14 => ["book", "sketch", "shots"]
  | 21 => ["line"] | 22 => ["part"] | 23 => ["line"] | 24 => ["line"] | 25 => ["line"] | 26 => ["sign"] | 27 => ["signs"] | 28 => ["value"]
  | 30 => ["x", "y"] | 31 => ["x", "y"] | 32 => ["x", "y"] | 33 => ["x", "y"] | 34 => ["x", "y"] | 35 => ["x", "y"] | 36 => ["x", "y"] | 37 => ["x", "y"] | 38 => ["x", "y"] | 39 => ["x", "y"]
  | 40 => ["number"] | 41 => ["number"] | 42 => ["stone"] | 43 => ["places"] | 44 => ["index"] | 45 => ["lacking"] | 46 => ["cases"] | 47 => ["name"]
  | _ => []
def cad (K : PySem.W.Frag) (c : Nat) : Addr := He.ga K (cnm c)
mutual
inductive Rp (K : PySem.W.Frag) (G : Hp) : V → D → Prop
  | non : Rp K G .non .non
  | bl (b : Bool) : Rp K G (.bl b) (.bl b)
  | int (i : Int) : Rp K G (.int i) (.int i)
  | str {s : Str} (h : okS s) : Rp K G (.str s) (.str s)
  | ty (n : String) : Rp K G (.ty n) (.ty n)
  | adr (a : Addr) : Rp K G (.ref a) (.adr a)
  | tup {a : Addr} {vs : List V} {ds : List D} : G a = some (.tup vs) → Rps K G vs ds → ds.length ≤ sizeLine → Rp K G (.ref a) (.tup ds)
  | lst {a : Addr} {vs : List V} {ds : List D} : G a = some (.lst vs) → Rps K G vs ds → ds.length ≤ sizeLine → Rp K G (.ref a) (.lst ds)
  | dT {a : Addr} {ws : List (List Key × V)} {kvs : List (List Key × D)} : G a = some (.dT ws) → Rkv K G ws kvs → Rp K G (.ref a) (.dT kvs)
  | ins {a dx : Addr} {c : Nat} {vs : List V} {ds : List D} : G a = some (.ins (cad K c) dx ((cfs c).zip vs)) → Rps K G vs ds → ds.length ≤ (cfs c).length → Rp K G (.ref a) (.ins c ds)
  | cls {a : Addr} (c : Nat) : a = cad K c → Rp K G (.ref a) (.cls c)
  | exn0 {a : Addr} (c : Nat) : Rp K G (.ref a) (.exn a none c [])
  | exn {a dd : Addr} {fs : List (Str × V)} {vs : List V} {c : Nat} {ds : List D} : G dd = some (.xd fs) → Rps K G vs ds → ds.length = (cfs c).length → (∀ (j : Nat) (fl : Str) (v : V), (cfs c)[j]? = some fl → vs[j]? = some v → fs.lookup fl = some v) → Rp K G (.ref a) (.exn a (some dd) c ds)
inductive Rps (K : PySem.W.Frag) (G : Hp) : List V → List D → Prop
  | nil : Rps K G [] []
  | cons {v : V} {d : D} {vs : List V} {ds : List D} : Rp K G v d → Rps K G vs ds → Rps K G (v :: vs) (d :: ds)
inductive Rkv (K : PySem.W.Frag) (G : Hp) : List (List Key × V) → List (List Key × D) → Prop
  | nil : Rkv K G [] []
  | cons {k : List Key} {v : V} {d : D} {ws : List (List Key × V)} {kvs : List (List Key × D)} : Rp K G v d → Rkv K G ws kvs → Rkv K G ((k, v) :: ws) ((k, d) :: kvs)
end
variable {K : PySem.W.Frag} {G G' G2 H H' H2 : Hp} {S S' S2 : Sto}
mutual
theorem Rp.mono (s : Same G G') : ∀ {v : V} {d : D}, Rp K G v d → Rp K G' v d
  | _, _, .non => .non
  | _, _, .bl b => .bl b
  | _, _, .int i => .int i
  | _, _, .str h => .str h
  | _, _, .ty n => .ty n
  | _, _, .adr a => .adr a
  | _, _, .tup h r l => .tup (s _ _ h) (Rps.mono s r) l
  | _, _, .lst h r l => .lst (s _ _ h) (Rps.mono s r) l
  | _, _, .dT h r => .dT (s _ _ h) (Rkv.mono s r)
  | _, _, .ins h r l => .ins (s _ _ h) (Rps.mono s r) l
  | _, _, .cls c h => .cls c h
  | _, _, .exn0 c => .exn0 c
  | _, _, .exn h r l q => .exn (s _ _ h) (Rps.mono s r) l q
theorem Rps.mono (s : Same G G') : ∀ {vs : List V} {ds : List D}, Rps K G vs ds → Rps K G' vs ds
  | _, _, .nil => .nil
  | _, _, .cons h r => .cons (Rp.mono s h) (Rps.mono s r)
theorem Rkv.mono (s : Same G G') : ∀ {vs : List (List Key × V)} {ds : List (List Key × D)}, Rkv K G vs ds → Rkv K G' vs ds
  | _, _, .nil => .nil
  | _, _, .cons h r => .cons (Rp.mono s h) (Rkv.mono s r)
end
theorem Rps.length : ∀ {vs : List V} {ds : List D}, Rps K G vs ds → vs.length = ds.length
  | _, _, .nil => rfl
  | _, _, .cons _ r => congrArg Nat.succ (Rps.length r)
theorem Rps.get : ∀ {vs : List V} {ds : List D} {i : Nat} {d : D}, Rps K G vs ds → ds[i]? = some d → ∃ v, vs[i]? = some v ∧ Rp K G v d
  | _, _, _, _, .nil, e => by simp at e
  | _, _, 0, _, .cons h _, e => by simp at e; subst e; exact ⟨_, rfl, h⟩
  | _, _, i + 1, d, .cons _ r, e => by
    obtain ⟨v, h1, h2⟩ := Rps.get (i := i) r (by simpa using e)
    exact ⟨v, by simpa using h1, h2⟩
theorem Rps.set {v : V} {d : D} (r : Rp K G v d) : ∀ {vs : List V} {ds : List D} (i : Nat), Rps K G vs ds → Rps K G (vs.set i v) (ds.set i d)
  | _, _, _, .nil => .nil
  | _, _, 0, .cons _ t => .cons r t
  | _, _, i + 1, .cons q t => .cons q (Rps.set r i t)
def isD : HO → Bool
  | .dT _ => true
  | .dK _ => true
  | _ => false
def Le (G H : Hp) : Prop := ∀ a u, G a = some u → H a = some u ∨ (isD u = true ∧ ∃ o, H a = some (.frz o u))
def RO (K : PySem.W.Frag) (G : Hp) (h : Option HO) : OO → Prop
  | .lst ds => ∃ vs, h = some (.lst vs) ∧ Rps K G vs ds ∧ ds.length ≤ sizeLine
  | .dT kvs => ∃ ws, h = some (.dT ws) ∧ Rkv K G ws kvs
  | .ins c ds => ∃ dx vs, h = some (.ins (cad K c) dx ((cfs c).zip vs)) ∧ Rps K G vs ds ∧ ds.length ≤ (cfs c).length
  | .dF od ws kvs => h = some (.frz od (.dT ws)) ∧ Rkv K G ws kvs
  | .dK kvs => ∃ ws, h = some (.dK ws) ∧ ws.map (·.1) = kvs.map (·.1) ∧ Rps K G (ws.map (·.2)) (kvs.map (·.2))
  | .kF od ws kvs => h = some (.frz od (.dK ws)) ∧ ws.map (·.1) = kvs.map (·.1) ∧ Rps K G (ws.map (·.2)) (kvs.map (·.2))
  | .exo a c ds => ∃ (dd : Option Addr), h = some (exo a (cad K c) dd) ∧ ds.length = (cfs c).length ∧ ((dd = none ∧ cfs c = []) ∨ ∃ (d : Addr) (fs : List (Str × V)) (vs : List V), dd = some d ∧ G d = some (exd d fs) ∧ Rps K G vs ds ∧ ∀ (j : Nat) (fl : Str) (v : V), (cfs c)[j]? = some fl → vs[j]? = some v → fs.lookup fl = some v)
theorem RO.mono (s : Same G G') {h : Option HO} : ∀ {o : OO}, RO K G h o → RO K G' h o
  | .lst _, ⟨vs, e, r, l⟩ => ⟨vs, e, r.mono s, l⟩
  | .dT _, ⟨vs, e, r⟩ => ⟨vs, e, r.mono s⟩
  | .ins _ _, ⟨dx, vs, e, r, l⟩ => ⟨dx, vs, e, r.mono s, l⟩
  | .dF _ _ _, ⟨e, r⟩ => ⟨e, r.mono s⟩
  | .dK _, ⟨ws, e, k, r⟩ => ⟨ws, e, k, r.mono s⟩
  | .kF _ _ _, ⟨e, k, r⟩ => ⟨e, k, r.mono s⟩
  | .exo _ _ _, ⟨dd, e, l, k⟩ => ⟨dd, e, l, k.imp id fun ⟨d, fs, vs, q, g, r, z⟩ => ⟨d, fs, vs, q, s _ _ g, r.mono s, z⟩⟩
theorem RO.some {h : Option HO} : ∀ {o : OO}, RO K G h o → ∃ u, h = Option.some u
  | .lst _, ⟨vs, e, r⟩ => ⟨_, e⟩
  | .dT _, ⟨vs, e, r⟩ => ⟨_, e⟩
  | .ins _ _, ⟨dx, vs, e, r, l⟩ => ⟨_, e⟩
  | .dF _ _ _, ⟨e, r⟩ => ⟨_, e⟩
  | .dK _, ⟨_, e, _⟩ => ⟨_, e⟩
  | .kF _ _ _, ⟨e, _⟩ => ⟨_, e⟩
  | .exo _ _ _, ⟨_, e, _⟩ => ⟨_, e⟩
structure Rel (K : PySem.W.Frag) (G H : Hp) (S : Sto) : Prop where
  le : Le G H
  own : ∀ a o, S a = some o → G a = none ∧ RO K G (H a) o
theorem Rel.at (r : Rel K G H S) {a : Addr} {u : HO} (h : G a = some u) (n : isD u = false) : H a = some u := by
  rcases r.le a u h with q | ⟨q, _⟩
  · exact q
  · rw [n] at q; cases q
theorem Rel.rd (r : Rel K G H S) {a : Addr} {u : HO} (h : G a = some u) : Rd H a u := by
  rcases r.le a u h with q | ⟨_, o, q⟩
  · exact .inl q
  · exact .inr ⟨o, q⟩
theorem Rel.free (r : Rel K G H S) {a : Addr} (h : H a = none) : G a = none ∧ S a = none := by
  constructor
  · cases q : G a with
    | none => rfl
    | some u => rcases r.le a u q with z | ⟨_, o, z⟩ <;> (rw [h] at z; cases z)
  · cases q : S a with
    | none => rfl
    | some u =>
      obtain ⟨w, e⟩ := (r.own a u q).2.some
      rw [h] at e; cases e
structure Stp (K : PySem.W.Frag) (G H : Hp) (S : Sto) (G' H' : Hp) (S' : Sto) : Prop where
  sg : Same G G'
  rel : Rel K G' H' S'
  fr : ∀ b o, H b = some o → G b = none → S b = none → H' b = some o ∧ S' b = none ∧ (G' b = none ∨ ∃ vs, o = .tup vs)
theorem Stp.trans (a : Stp K G H S G' H' S') (b : Stp K G' H' S' G2 H2 S2) : Stp K G H S G2 H2 S2 where
  sg := a.sg.trans b.sg
  rel := b.rel
  fr := fun c o h g s => by
    obtain ⟨h1, s1, g1⟩ := a.fr c o h g s
    cases q : G' c with
    | none => exact b.fr c o h1 q s1
    | some u =>
      rcases g1 with g1 | ⟨vs, rfl⟩
      · rw [q] at g1; cases g1
      · have q2 := b.sg c u q
        have eu : u = .tup vs := by
          rcases a.rel.le c u q with z | ⟨_, o, z⟩
          · rw [h1] at z; exact (Option.some.inj z).symm
          · rw [h1] at z; cases z
        subst eu
        refine ⟨b.rel.at q2 rfl, ?_, .inr ⟨vs, rfl⟩⟩
        cases z : S2 c with
        | none => rfl
        | some w => rw [(b.rel.own c w z).1] at q2; cases q2
theorem Stp.frz (r : Rel K G H S) {p : Addr} {u : HO} {o : OO} (h : S p = some o) (hu : H p = some u) : Stp K G H S (upd G p u) H (sd S p) where
  sg := fun b w e => by
    have hb : b ≠ p := fun z => by subst z; rw [(r.own _ _ h).1] at e; cases e
    rw [upd_ne hb]; exact e
  rel := {
    le := fun b w e => by
      by_cases hb : b = p
      · subst hb; rw [upd_same] at e; cases e; exact .inl hu
      · rw [upd_ne hb] at e; exact r.le b w e
    own := fun b w e => by
      by_cases hb : b = p
      · subst hb; rw [sd_same] at e; cases e
      · rw [sd_ne hb] at e; rw [upd_ne hb]
        refine ⟨(r.own b w e).1, (r.own b w e).2.mono fun c w q => ?_⟩
        have hc : c ≠ p := fun z => by subst z; rw [(r.own _ _ h).1] at q; cases q
        rw [upd_ne hc]; exact q }
  fr := fun b w e g s => by
    have hb : b ≠ p := fun z => by subst z; rw [h] at s; cases s
    rw [upd_ne hb, sd_ne hb]; exact ⟨e, s, .inl g⟩
def vw (S : Sto) : D → D
  | .adr a => match S a with
    | some (.lst ds) => .lst ds
    | some (.dT kvs) => .dT kvs
    | some (.ins c ds) => .ins c ds
    | some (.dF _ _ kvs) => .dT kvs
    | some (.dK _) | some (.kF _ _ _) | some (.exo _ _ _) => .adr 0
    | none => .adr a
  | d => d
structure vwk (S : Sto) (x : D) (k : D → Prop) : Prop where
  it : k (vw S x)
structure itk {α : Type} (xs : List α) (i : Int) (k : α → Prop) : Prop where
  it : ∃ d, atI xs i = some d ∧ k d
structure brn (b : Bool) (A B : Prop) : Prop where
  it : if b = true then A else B
end SM
namespace SM
open PySem PySem.Spec PyProof.Rows L2
abbrev DS := List (Option D)
def nth : DS → Nat → Option D
  | [], _ => none
  | x :: _, 0 => x
  | _ :: r, n + 1 => nth r n
def put : DS → Nat → D → DS
  | [], _, _ => []
  | _ :: r, 0, d => some d :: r
  | x :: r, n + 1, d => x :: put r n d
def unset : DS → Nat → DS
  | [], _ => []
  | _ :: r, 0 => none :: r
  | x :: r, n + 1 => x :: unset r n
structure Exn where
  c : Nat
  ds : List D
abbrev DQ := D → Sto → Prop
abbrev XQ := Exn → Sto → Prop
abbrev DTE := DS → Sto → DQ → XQ → Prop
abbrev DTT := DS → Sto → (Bool → Sto → Prop) → XQ → Prop
abbrev DTA := DS → Sto → (List D → Sto → Prop) → XQ → Prop
structure DEnds where
  nx : DS → Sto → Prop
  rt : DQ
  bk : DS → Sto → Prop
  ct : DS → Sto → Prop
  xc : Exn → DS → Sto → Prop
abbrev DTS := DEnds → DS → Sto → Prop
abbrev DSp := List D → Sto → DQ → XQ → Prop
abbrev DTG := D → DS → Sto → (DS → Sto → Prop) → Prop
abbrev DTGs := List D → DS → Sto → (DS → Sto → Prop) → Prop
abbrev Gd := Option (Addr × OO)
def gok : Gd → Sto → Prop
  | none, _ => True
  | some (a, o), S => S a = some o
abbrev DTI := DS → Sto → (Gd → List D → Sto → Prop) → XQ → Prop
variable {K : PySem.W.Frag} {G G' G2 H H' H2 : Hp} {S S' S2 : Sto}
structure RpE (K : PySem.W.Frag) (G : Hp) (σ : L2.St) (δ : DS) : Prop where
  len : σ.length = δ.length
  at_ : ∀ i d, nth δ i = some d → ∃ v, σ[i]? = some (some v) ∧ Rp K G v d
theorem RpE.mono {σ : L2.St} {δ : DS} (s : Same G G') (h : RpE K G σ δ) : RpE K G' σ δ := ⟨h.len, fun i d e => let ⟨v, a, b⟩ := h.at_ i d e; ⟨v, a, b.mono s⟩⟩
theorem nth_put : ∀ (δ : DS) (i j : Nat) (d e : D), nth (put δ i d) j = some e → (j = i ∧ i < δ.length ∧ e = d) ∨ (j ≠ i ∧ nth δ j = some e)
  | [], _, _, _, _, h => by simp [put, nth] at h
  | x :: r, 0, 0, d, e, h => by simp [put, nth] at h; exact .inl ⟨rfl, by simp, h.symm⟩
  | x :: r, 0, j + 1, d, e, h => by simp [put, nth] at h; exact .inr ⟨by simp, by simpa [nth] using h⟩
  | x :: r, i + 1, 0, d, e, h => by simp [put, nth] at h; exact .inr ⟨by simp, by simpa [nth] using h⟩
  | x :: r, i + 1, j + 1, d, e, h => by
    simp only [put, nth] at h
    rcases nth_put r i j d e h with ⟨a, b, c⟩ | ⟨a, b⟩
    · exact .inl ⟨by omega, by simp; omega, c⟩
    · exact .inr ⟨by omega, by simpa [nth] using b⟩
theorem put_len : ∀ (δ : DS) (i : Nat) (d : D), (put δ i d).length = δ.length
  | [], _, _ => rfl
  | _ :: _, 0, _ => rfl
  | _ :: r, i + 1, d => congrArg Nat.succ (put_len r i d)
theorem nth_unset : ∀ (δ : DS) (i j : Nat) (e : D), nth (unset δ i) j = some e → j ≠ i ∧ nth δ j = some e
  | [], _, _, _, h => by simp [unset, nth] at h
  | x :: r, 0, 0, e, h => by simp [unset, nth] at h
  | x :: r, 0, j + 1, e, h => by simp [unset, nth] at h; exact ⟨by simp, by simpa [nth] using h⟩
  | x :: r, i + 1, 0, e, h => by simp [unset, nth] at h; exact ⟨by simp, by simpa [nth] using h⟩
  | x :: r, i + 1, j + 1, e, h => by
    simp only [unset, nth] at h
    obtain ⟨a, b⟩ := nth_unset r i j e h
    exact ⟨by omega, by simpa [nth] using b⟩
theorem unset_len : ∀ (δ : DS) (i : Nat), (unset δ i).length = δ.length
  | [], _ => rfl
  | _ :: _, 0 => rfl
  | _ :: r, i + 1 => congrArg Nat.succ (unset_len r i)
theorem RpE.put {σ : L2.St} {δ : DS} {v : V} {d : D} (i : Nat) (h : RpE K G σ δ) (r : Rp K G v d) : RpE K G (σ.set i (some v)) (put δ i d) := by
  refine ⟨by rw [List.length_set, put_len, h.len], fun j e he => ?_⟩
  rcases nth_put δ i j d e he with ⟨rfl, hl, rfl⟩ | ⟨hne, q⟩
  · exact ⟨v, by rw [List.getElem?_set_self (by rw [h.len]; exact hl)], r⟩
  · obtain ⟨u, a, b⟩ := h.at_ j e q
    exact ⟨u, by rw [List.getElem?_set_ne (Ne.symm hne)]; exact a, b⟩
theorem RpE.unset {σ : L2.St} {δ : DS} (i : Nat) (h : RpE K G σ δ) : RpE K G (σ.set i none) (unset δ i) := by
  refine ⟨by rw [List.length_set, unset_len, h.len], fun j e he => ?_⟩
  obtain ⟨hne, q⟩ := nth_unset δ i j e he
  obtain ⟨u, a, b⟩ := h.at_ j e q
  exact ⟨u, by rw [List.getElem?_set_ne (Ne.symm hne)]; exact a, b⟩
def Rx (K : PySem.W.Frag) (G : Hp) (cls : Value) (d : Option Addr) (x : Exn) : Prop :=
  cls = .ref (cad K x.c) ∧ ((x.ds = [] ∧ d = none) ∨ ∃ dd fs vs, d = some dd ∧ G dd = some (.xd fs) ∧ Rps K G vs x.ds ∧ x.ds.length = (cfs x.c).length ∧ ∀ (j : Nat) (fl : Str) (v : V), (cfs x.c)[j]? = some fl → vs[j]? = some v → fs.lookup fl = some v)
theorem Rx.mono {cls : Value} {d : Option Addr} {x : Exn} (s : Same G G') (h : Rx K G cls d x) : Rx K G' cls d x := by
  obtain ⟨e, h⟩ := h
  refine ⟨e, ?_⟩
  rcases h with h | ⟨dd, fs, vs, a, b, c, l⟩
  · exact .inl h
  · exact .inr ⟨dd, fs, vs, a, s _ _ b, c.mono s, l⟩
theorem takes0N {X : Cx} : L2N.Takes X (fun _ _ _ _ => False) := fun u s' ⟨_, _, _, _, _, _, _, _, _, _, _, _, _, _, _, _, w⟩ => w.elim
def KX (K : PySem.W.Frag) (W : WX) (σ : L2.St) (G H : Hp) (S : Sto) (XD : XQ) : Prop := ∀ G' H' S' cls d x, Stp K G H S G' H' S' → Rx K G' cls d x → XD x S' → W cls d σ H'
def liftE (K : PySem.W.Frag) (W : WX) (td : DTE) : TE := fun σ H Q => ∃ G δ S QD XD, RpE K G σ δ ∧ Rel K G H S ∧ td δ S QD XD ∧ (∀ G' H' S' v d, Stp K G H S G' H' S' → Rp K G' v d → QD d S' → Q v H') ∧ KX K W σ G H S XD
def liftT (K : PySem.W.Frag) (W : WX) (td : DTT) : TT := fun σ H Q => ∃ G δ S QD XD, RpE K G σ δ ∧ Rel K G H S ∧ td δ S QD XD ∧ (∀ G' H' S' b, Stp K G H S G' H' S' → QD b S' → Q b H') ∧ KX K W σ G H S XD
def liftA (K : PySem.W.Frag) (W : WX) (td : DTA) : TA := fun σ H Q => ∃ G δ S QD XD, RpE K G σ δ ∧ Rel K G H S ∧ td δ S QD XD ∧ (∀ G' H' S' vs ds, Stp K G H S G' H' S' → Rps K G' vs ds → QD ds S' → Q vs H') ∧ KX K W σ G H S XD
structure ER (K : PySem.W.Frag) (W : WX) (G H : Hp) (S : Sto) (E : DEnds) (D : Ends) : Prop where
  nx : ∀ G' H' S' σ' δ', Stp K G H S G' H' S' → RpE K G' σ' δ' → E.nx δ' S' → D.nx σ' H'
  rt : ∀ G' H' S' v d, Stp K G H S G' H' S' → Rp K G' v d → E.rt d S' → D.rt v H'
  bk : ∀ G' H' S' σ' δ', Stp K G H S G' H' S' → RpE K G' σ' δ' → E.bk δ' S' → D.bk σ' H'
  ct : ∀ G' H' S' σ' δ', Stp K G H S G' H' S' → RpE K G' σ' δ' → E.ct δ' S' → D.ct σ' H'
  xc : ∀ G' H' S' σ' δ' cls d x, Stp K G H S G' H' S' → RpE K G' σ' δ' → Rx K G' cls d x → E.xc x δ' S' → W cls d σ' H'
def liftS (K : PySem.W.Frag) (W : WX) (ts : DTS) : TS := fun D σ H => ∃ G δ S E, RpE K G σ δ ∧ Rel K G H S ∧ ts E δ S ∧ ER K W G H S E D
def liftG (K : PySem.W.Frag) (g : DTG) : TG := fun v σ H Q => ∃ G δ S d QD, RpE K G σ δ ∧ Rel K G H S ∧ Rp K G v d ∧ g d δ S QD ∧ ∀ G' H' S' σ' δ', Stp K G H S G' H' S' → RpE K G' σ' δ' → QD δ' S' → Q σ' H'
def liftGs (K : PySem.W.Frag) (g : DTGs) : TGs := fun vs σ H Q => ∃ G δ S ds QD, RpE K G σ δ ∧ Rel K G H S ∧ Rps K G vs ds ∧ g ds δ S QD ∧ ∀ G' H' S' σ' δ', Stp K G H S G' H' S' → RpE K G' σ' δ' → QD δ' S' → Q σ' H'
def ItD (K : PySem.W.Frag) (G : Hp) (gd : Gd) (J : It) (xs : List D) : Prop := ∀ G1 H1 S1, Same G G1 → Rel K G1 H1 S1 → gok gd S1 → ∀ i, (i < xs.length → J.go i H1 ∧ ∀ x H2, J.yld i H1 x H2 → ∃ G2, Stp K G1 H1 S1 G2 H2 S1 ∧ ∀ d, xs[i]? = some d → Rp K G2 x d) ∧ (xs.length ≤ i → J.stop i H1)
def liftI (K : PySem.W.Frag) (W : WX) (ti : DTI) : TI := fun σ H R => ∃ G δ S QD XD, RpE K G σ δ ∧ Rel K G H S ∧ ti δ S QD XD ∧ (∀ G' H' S' J gd xs, Stp K G H S G' H' S' → ItD K G' gd J xs → xs.length ≤ sizeLine → QD gd xs S' → R J H') ∧ KX K W σ G H S XD
theorem ItD.mono {J : It} {gd : Gd} {xs : List D} (s : Same G G') (h : ItD K G gd J xs) : ItD K G' gd J xs := fun G1 H1 S1 a r => h G1 H1 S1 (s.trans a) r
structure PD (X : Cx) (e : Expr) (td : DTE) : Prop where
  run : ∀ W, L2N.Takes X W → PE X e (liftE X.K W td)
structure PDT (X : Cx) (e : Expr) (td : DTT) : Prop where
  run : ∀ W, L2N.Takes X W → PT X e (liftT X.K W td)
structure PDW (X : Cx) (e : Expr) (td : DTT) : Prop where
  run : ∀ W, L2N.Takes X W → PW X e (liftT X.K W td)
structure PDA (X : Cx) (es : List Expr) (td : DTA) : Prop where
  run : ∀ W, L2N.Takes X W → PA X es (liftA X.K W td)
structure PDS (X : Cx) (st : Stmt) (ts : DTS) : Prop where
  run : ∀ W, L2N.Takes X W → PassesOwn (model X.prog X.w) X.A X.env X.xe → PS X st (liftS X.K W ts)
structure PDSs (X : Cx) (st : List Stmt) (ts : DTS) : Prop where
  run : ∀ W, L2N.Takes X W → PassesOwn (model X.prog X.w) X.A X.env X.xe → PSs X st (liftS X.K W ts)
structure PDI (X : Cx) (tg iter : Expr) (ti : DTI) : Prop where
  run : ∀ W, L2N.Takes X W → PI X tg iter (liftI X.K W ti)
structure PDG (X : Cx) (tg : Expr) (g : DTG) : Prop where
  run : PG X tg (liftG X.K g)
structure PDGs (X : Cx) (tgs : List Expr) (g : DTGs) : Prop where
  run : PGs X tgs (liftGs X.K g)
section
variable {X : Cx} {e a b c : Expr} {es : List Expr} {st : Stmt} {sts : List Stmt} {pos : Pos} {W : WX}
theorem ER.kx {E : DEnds} {D : Ends} {σ : L2.St} {δ : DS} (k : ER K W G H S E D) (re : RpE K G σ δ) : KX K W σ G H S (fun x S' => E.xc x δ S') := fun G' H' S' cls d x st r q => k.xc G' H' S' σ δ cls d x st (re.mono st.sg) r q
end
end SM
namespace SM
open PySem PySem.Spec PyProof.Rows L2
variable {K : PySem.W.Frag} {G G' G2 H H' H2 : Hp} {S S' S2 : Sto}
mutual
def toP : D → PyData
  | .bl b => .bool b
  | .int i => .int i
  | .str s => .str s
  | .tup ds => .tuple (toPs ds)
  | .lst ds => .list (toPs ds)
  | _ => .none
def toPs : List D → List PyData
  | [] => []
  | d :: r => toP d :: toPs r
end
mutual
def pln : Nat → D → Bool
  | _, .non => true
  | _, .bl _ => true
  | _, .int _ => true
  | _, .str _ => true
  | n + 1, .tup ds => plns n ds
  | n + 1, .lst ds => plns n ds
  | _, _ => false
def plns : Nat → List D → Bool
  | _, [] => true
  | n, d :: r => pln n d && plns n r
end
mutual
theorem dp_of (r : Rel K G H S) : ∀ (n : Nat) (d : D) (v : V), Rp K G v d → pln n d = true → Dp K H v (toP d) ∧ PyData.canLay0 (toP d) = true ∧ (toP d).depth ≤ n
  | n, _, _, .non, _ => ⟨.non, rfl, by simp [toP, PyData.depth]⟩
  | n, _, _, .bl b, _ => ⟨.bl b, rfl, by simp [toP, PyData.depth]⟩
  | n, _, _, .int i, _ => ⟨.int i, rfl, by simp [toP, PyData.depth]⟩
  | n, _, _, .str h, _ => ⟨.str _, by simp [toP, PyData.canLay0, h.2], by simp [toP, PyData.depth]⟩
  | 0, _, _, .tup h q l, e => by simp [pln] at e
  | 0, _, _, .lst h q l, e => by simp [pln] at e
  | n + 1, _, _, .tup h q l, e => by
    obtain ⟨a, b, c⟩ := dps_of r n _ _ q (by simpa [pln] using e)
    exact ⟨.tup (SqT.of (r.at h rfl)) a, by simpa [toP, PyData.canLay0] using b, by simp only [toP, PyData.depth]; omega⟩
  | n + 1, _, _, .lst h q l, e => by
    obtain ⟨a, b, c⟩ := dps_of r n _ _ q (by simpa [pln] using e)
    exact ⟨.lst (SqL.of (r.at h rfl)) a, by simpa [toP, PyData.canLay0] using b, by simp only [toP, PyData.depth]; omega⟩
  | n, _, _, .ty _, e => by cases n <;> simp [pln] at e
  | n, _, _, .adr _, e => by cases n <;> simp [pln] at e
  | n, _, _, .dT _ _, e => by cases n <;> simp [pln] at e
  | n, _, _, .ins _ _ _, e => by cases n <;> simp [pln] at e
  | n, _, _, .cls _ _, e => by cases n <;> simp [pln] at e
  | n, _, _, .exn0 _, e => by cases n <;> simp [pln] at e
  | n, _, _, .exn _ _ _ _, e => by cases n <;> simp [pln] at e
theorem dps_of (r : Rel K G H S) : ∀ (n : Nat) (ds : List D) (vs : List V), Rps K G vs ds → plns n ds = true → DpAll K H vs (toPs ds) ∧ PyData.canLayAll0 (toPs ds) = true ∧ PyData.depthAll (toPs ds) ≤ n
  | n, _, _, .nil, _ => ⟨.nil, rfl, by simp [toPs, PyData.depthAll]⟩
  | n, _, _, .cons h q, e => by
    simp only [plns, Bool.and_eq_true] at e
    obtain ⟨a, b, c⟩ := dp_of r n _ _ h e.1
    obtain ⟨a', b', c'⟩ := dps_of r n _ _ q e.2
    exact ⟨.cons a a', by simp [toPs, PyData.canLayAll0, b, b'], by simp only [toPs, PyData.depthAll]; omega⟩
end
section
variable {X : Cx} {e a b c : Expr} {es : List Expr} {st : Stmt} {sts : List Stmt} {pos : Pos} {W : WX} {k : Nat}
end
end SM
namespace SM
open PySem PySem.Spec PyProof.Rows L2
variable {K : PySem.W.Frag} {G G' G2 H H' H2 : Hp} {S S' S2 : Sto}
section
variable {X : Cx} {e a b c : Expr} {es : List Expr} {st : Stmt} {sts : List Stmt} {pos : Pos} {W : WX} {k : Nat}
end
end SM
namespace SM
open PySem PySem.Spec PyProof.Rows L2
variable {K : PySem.W.Frag} {G G' G2 H H' H2 : Hp} {S S' S2 : Sto}
section
variable {X : Cx} {e a b c o i : Expr} {es : List Expr} {st : Stmt} {sts : List Stmt} {pos p apos cpos : Pos} {W : WX} {k : Nat} {x : Str}
def dKey : D → Option Key
  | .int i => some (.inl i)
  | .str s => some (.inr s)
  | _ => none
def dKeys : List D → Option (List Key)
  | [] => some []
  | d :: r => match dKey d, dKeys r with
    | some k, some ks => some (k :: ks)
    | _, _ => none
end
end SM
namespace SM
open PySem PySem.Spec PyProof.Rows L2
variable {K : PySem.W.Frag} {G G' G2 H H' H2 : Hp} {S S' S2 : Sto}
section
variable {X : Cx} {e a b c o i : Expr} {es : List Expr} {st : Stmt} {sts : List Stmt} {pos p apos cpos pos' : Pos} {W : WX} {k : Nat} {x : Str}
abbrev DTO := DS → Sto → (Option Int → Sto → Prop) → XQ → Prop
def liftO (K : PySem.W.Frag) (W : WX) (td : DTO) : TO := fun σ H Q => ∃ G δ S QD XD, RpE K G σ δ ∧ Rel K G H S ∧ td δ S QD XD ∧ (∀ G' H' S' o, Stp K G H S G' H' S' → QD o S' → Q o H') ∧ KX K W σ G H S XD
structure PDO (X : Cx) (e : Option Expr) (td : DTO) : Prop where
  run : ∀ W, L2N.Takes X W → PO X e (liftO X.K W td)
inductive Pat where
  | nm (i : Nat) | tp (ps : List Pat)
mutual
def pG (K : PySem.W.Frag) : Pat → TG
  | .nm i => gName i
  | .tp ps => gTup K ps.length (pGs K ps)
def pGs (K : PySem.W.Frag) : List Pat → TGs
  | [] => gNil
  | q :: r => gCons (pG K q) (pGs K r)
end
mutual
def bindP : Pat → D → DS → Option DS
  | .nm i, d, δ => some (put δ i d)
  | .tp ps, .tup ds, δ => bindPs ps ds δ
  | .tp _, _, _ => none
def bindPs : List Pat → List D → DS → Option DS
  | [], [], δ => some δ
  | q :: ps, d :: ds, δ => match bindP q d δ with
    | some δ1 => bindPs ps ds δ1
    | none => none
  | _, _, _ => none
end
mutual
def slots : Pat → List Nat
  | .nm i => [i]
  | .tp ps => slotss ps
def slotss : List Pat → List Nat
  | [] => []
  | q :: r => slots q ++ slotss r
end
def Agr (l : List Nat) (σ σ' : L2.St) : Prop := σ'.length = σ.length ∧ ∀ i, i ∉ l → σ'[i]? = σ[i]?
mutual
theorem pG_run (rl : Rel K G H S) : ∀ (q : Pat) (d : D) (v : V) (σ : L2.St) (δ δ' : DS), RpE K G σ δ → Rp K G v d → bindP q d δ = some δ' → ∃ σ', (∀ Q : L2.St → Hp → Prop, Q σ' H → pG K q v σ H Q) ∧ RpE K G σ' δ' ∧ Agr (slots q) σ σ'
  | .nm i, d, v, σ, δ, δ', re, rp, h => by
    cases h
    refine ⟨σ.set i (some v), fun Q q => by rw [pG]; exact q, re.put i rp, ?_, fun j hj => ?_⟩
    · rw [List.length_set]
    · rw [List.getElem?_set_ne]; intro z; apply hj; simp [slots, z]
  | .tp ps, .tup ds, v, σ, δ, δ', re, rp, h => by
    cases rp with
    | tup hg rs l =>
    rename_i a vs
    obtain ⟨σ', h1, h2, h3⟩ := pGs_run rl ps ds vs σ δ δ' re rs (by simpa [bindP] using h)
    refine ⟨σ', fun Q q => ?_, h2, by simpa [slots] using h3⟩
    rw [pG]
    refine ⟨a, vs, rfl, SqT.of (rl.at hg rfl), ?_, h1 Q q⟩
    rw [rs.length]
    exact bindPs_len ps ds δ δ' (by simpa [bindP] using h)
  | .tp _, .non, _, _, _, _, _, _, h => by simp [bindP] at h
  | .tp _, .bl _, _, _, _, _, _, _, h => by simp [bindP] at h
  | .tp _, .int _, _, _, _, _, _, _, h => by simp [bindP] at h
  | .tp _, .str _, _, _, _, _, _, _, h => by simp [bindP] at h
  | .tp _, .ty _, _, _, _, _, _, _, h => by simp [bindP] at h
  | .tp _, .adr _, _, _, _, _, _, _, h => by simp [bindP] at h
  | .tp _, .lst _, _, _, _, _, _, _, h => by simp [bindP] at h
  | .tp _, .dT _, _, _, _, _, _, _, h => by simp [bindP] at h
  | .tp _, .ins _ _, _, _, _, _, _, _, h => by simp [bindP] at h
theorem pGs_run (rl : Rel K G H S) : ∀ (ps : List Pat) (ds : List D) (vs : List V) (σ : L2.St) (δ δ' : DS), RpE K G σ δ → Rps K G vs ds → bindPs ps ds δ = some δ' → ∃ σ', (∀ Q : L2.St → Hp → Prop, Q σ' H → pGs K ps vs σ H Q) ∧ RpE K G σ' δ' ∧ Agr (slotss ps) σ σ'
  | [], [], vs, σ, δ, δ', re, rs, h => by
    cases rs
    cases h
    exact ⟨σ, fun Q q => ⟨rfl, q⟩, re, rfl, fun _ _ => rfl⟩
  | q :: ps, d :: ds, vs, σ, δ, δ', re, rs, h => by
    cases rs with
    | cons r1 r2 =>
    rw [bindPs] at h
    split at h
    · rename_i δ1 e1
      obtain ⟨σ1, a1, a2, a3⟩ := pG_run rl q d _ σ δ δ1 re r1 e1
      obtain ⟨σ2, b1, b2, b3⟩ := pGs_run rl ps ds _ σ1 δ1 δ' a2 r2 h
      refine ⟨σ2, fun Q z => ?_, b2, b3.1.trans a3.1, fun i hi => ?_⟩
      · rw [pGs]; exact ⟨_, _, rfl, a1 _ (b1 Q z)⟩
      · simp only [slotss, List.mem_append, not_or] at hi
        rw [b3.2 i hi.2, a3.2 i hi.1]
    · cases h
  | [], _ :: _, _, _, _, _, _, _, h => by simp [bindPs] at h
  | _ :: _, [], _, _, _, _, _, _, h => by simp [bindPs] at h
theorem bindPs_len : ∀ (ps : List Pat) (ds : List D) (δ δ' : DS), bindPs ps ds δ = some δ' → ds.length = ps.length
  | [], [], _, _, _ => rfl
  | q :: ps, d :: ds, δ, δ', h => by
    rw [bindPs] at h
    split at h
    · rename_i δ1 e1
      rw [List.length_cons, List.length_cons, bindPs_len ps ds δ1 δ' h]
    · cases h
  | [], _ :: _, _, _, h => by simp [bindPs] at h
  | _ :: _, [], _, _, h => by simp [bindPs] at h
end
structure PDP (X : Cx) (tg : Expr) (q : Pat) : Prop where
  run : PG X tg (pG X.K q)
structure PDPs (X : Cx) (tgs : List Expr) (q : List Pat) : Prop where
  run : PGs X tgs (pGs X.K q)
end
end SM
namespace SM
open PySem PySem.Spec PyProof.Rows L2
variable {K : PySem.W.Frag} {G G' G2 H H' H2 : Hp} {S S' S2 : Sto}
section
variable {X : Cx} {e a b c o i : Expr} {es : List Expr} {st : Stmt} {sts rest : List Stmt} {pos p apos cpos pos' : Pos} {W : WX} {k : Nat} {x : Str} {t u : DTS} {te : DTE}
structure ownk (S : Sto) (a : Addr) (k : Option OO → Prop) : Prop where
  it : k (S a)
def dLoop (gd : Gd) (q : Pat) (tb : DTS) (E : DEnds) : List D → DS → Sto → Prop
  | [], δ, S => gok gd S ∧ E.nx δ S
  | d :: r, δ, S => gok gd S ∧ match bindP q d δ with
    | some δ1 => tb { E with nx := fun δ2 S2 => dLoop gd q tb E r δ2 S2, ct := fun δ2 S2 => dLoop gd q tb E r δ2 S2, bk := E.nx } δ1 S
    | none => False
structure loopK (gd : Gd) (q : Pat) (tb : DTS) (E : DEnds) (xs : List D) (δ : DS) (S : Sto) : Prop where
  it : dLoop gd q tb E xs δ S
end
end SM
namespace SM
open PySem PySem.Spec PyProof.Rows L2
variable {K : PySem.W.Frag} {G G' G2 H H' H2 : Hp} {S S' S2 : Sto}
def toSp (K : PySem.W.Frag) (R : DSp) : Sp := fun vs H Q E => ∃ G S ds QD XD, Rel K G H S ∧ Rps K G vs ds ∧ R ds S QD XD ∧ (∀ G' H' S' v d, Stp K G H S G' H' S' → Rp K G' v d → QD d S' → Q v H') ∧
  ∀ G' H' S' cls d x, Stp K G H S G' H' S' → Rx K G' cls d x → XD x S' → E cls d H'
def startD : List Str → List D → DS
  | [], _ => []
  | _ :: n, [] => none :: startD n []
  | _ :: n, d :: ds => some d :: startD n ds
section
variable {P : Program} {w : World} {mg : Str → Option Value} {base : Heap}
end
section
variable {X : Cx} {e a b c o i : Expr} {es : List Expr} {st : Stmt} {sts rest : List Stmt} {pos p apos cpos pos' : Pos} {W : WX} {k : Nat} {x m : Str} {t : DTA} {te : DTE} {f C : Addr} {fd : FuncData} {ps : List Str} {R : DSp} {dvs : List V} {dds : List D} {ds : List Value}
structure MOk (K : PySem.W.Frag) (c : Nat) (m : Str) (f : Addr) : Prop where
  cl : Cls K (cad K c)
  me : Meth K (cad K c) m f
  nf : m ∉ cfs c
end
end SM
namespace SM
open PySem PySem.Spec PyProof.Rows L2
variable {K : PySem.W.Frag} {G G' G2 H H' H2 : Hp} {S S' S2 : Sto}
section
variable {X : Cx} {e a b c o i : Expr} {es : List Expr} {st : Stmt} {sts rest : List Stmt} {pos p apos cpos pos' : Pos} {W : WX} {k : Nat} {x m fl : Str} {t : DTA} {te to : DTE} {f C : Addr} {fd : FuncData} {ps : List Str} {R : DSp} {dvs : List V} {dds : List D} {ds : List Value}
inductive Bt where
  | lst | str | dct
def Bt.nm : Bt → String
  | .lst => "list" | .str => "str" | .dct => "dict"
end
end SM
namespace SM
open PySem PySem.Spec PyProof.Rows L2
variable {K : PySem.W.Frag} {G G' G2 H H' H2 : Hp} {S S' S2 : Sto}
section
variable {k : D → Prop} {ko : Option OO → Prop} {ds : List D} {kvs : List (List Key × D)} {c : Nat} {a b : Addr} {o u : OO}
end
section
variable {X : Cx} {st : Stmt} {rest : List Stmt} {t u : DTS}
structure cutK (t u : DTS) (E : DEnds) (δ : DS) (S : Sto) : Prop where
  it : ∃ M : DS → Sto → Prop, t { E with nx := M } δ S ∧ ∀ δ' S', M δ' S' → u E δ' S'
end
structure Bag where
  cells : List Int
  at_ : Nat
  big : Int
  seed : Int
end SM
namespace SM
open PySem PySem.Spec PyProof.Rows L2
variable {K : PySem.W.Frag} {G G' G2 H H' H2 G0 H0 : Hp} {S S' S2 S0 : Sto}
def uns (δ : DS) : List Nat → DS
  | [] => δ
  | v :: vs => unset (uns δ vs) v
def noX : XQ := fun _ _ => False
def dLcL (gd : Gd) (q : Pat) (tt : DTT) (te : DTE) (δ : DS) : List D → Sto → (List D → Sto → Prop) → Prop
  | [], S, Q => gok gd S ∧ Q [] S
  | x :: r, S, Q => gok gd S ∧ match bindP q x δ with
    | some δ2 => tt δ2 S (fun b S3 => brn b (te δ2 S3 (fun d S4 => dLcL gd q tt te δ r S4 (fun ds S5 => Q (d :: ds) S5)) noX) (dLcL gd q tt te δ r S3 Q)) noX
    | none => False
structure lcK (gd : Gd) (q : Pat) (tt : DTT) (te : DTE) (δ : DS) (xs : List D) (S : Sto) (Q : List D → Sto → Prop) : Prop where
  it : dLcL gd q tt te δ xs S Q
structure PDTs (X : Cx) (ifs : List Expr) (tt : DTT) : Prop where
  run : ∀ W, L2N.Takes X W → PTs X ifs (liftT X.K W tt)
section
variable {X : Cx} {e a b c o i : Expr} {pos p : Pos} {W : WX} {k : Nat}
structure LcI (K : PySem.W.Frag) (G0 H0 : Hp) (S0 : Sto) (A : Addr) (G H : Hp) (S : Sto) (acc : List D) : Prop where
  st : Stp K G0 H0 S0 G H S
  ex : ∃ vs, H A = some (.lst vs) ∧ Rps K G vs acc
  hg : G A = none
  hs : S A = none
section
variable {elt tg iter : Expr} {ifs : List Expr} {scope : Scope} {own : List (Str × Nat)} {ti : DTI} {q : Pat} {tt : DTT} {te : DTE}
abbrev Cx.bk (X : Cx) (scope : Scope) (s : Shared) (H : Hp) (C : Addr) (cl : List (Str × Addr)) (fp : List Addr) : Cx := X.blk s H scope (compEnvC scope cl C X.env) fp
end
end
end SM
namespace SM
open PySem PySem.Spec PyProof.Rows L2
variable {K : PySem.W.Frag} {G G' G2 H H' H2 G0 H0 : Hp} {S S' S2 S0 : Sto}
section
variable {X : Cx} {e a b c o i : Expr} {es : List Expr} {pos p py spos : Pos} {W : WX} {k : Nat} {x y : Str} {t : DTA} {te : DTE} {f C : Addr} {fd : FuncData} {ps : List Str} {R : DSp} {dvs : List V} {dds : List D} {ds : List Value}
section
variable {elt tg iter : Expr} {ifs : List Expr} {scope : Scope} {own : List (Str × Nat)} {ti : DTI} {q : Pat} {tt : DTT}
end
end
end SM
namespace SM
open PySem PySem.Spec PyProof.Rows L2
open PySem.W (EachIs AllAlike Sortable dataLe)
variable {K : PySem.W.Frag} {G G' G2 H H' H2 G0 H0 : Hp} {S S' S2 S0 : Sto}
section
variable {X : Cx} {k : Nat}
end
end SM
namespace SM
open PySem PySem.Spec PyProof.Rows L2
section
variable {X : Cx}
end
variable {K : PySem.W.Frag} {G G' G2 H H' H2 G0 H0 : Hp} {S S' S2 S0 : Sto}
def putD (kvs : List (List Key × D)) (k : List Key) (d : D) : List (List Key × D) :=
  if (kvs.any fun p => decide (p.1 = k)) = true then kvs.map (fun p => if p.1 = k then (p.1, d) else p) else kvs ++ [(k, d)]
def dDcL (gd : Gd) (q : Pat) (tt : DTT) (tk tv : DTE) (δ : DS) : List D → List (List Key × D) → Sto → (List (List Key × D) → Sto → Prop) → Prop
  | [], a, S, Q => gok gd S ∧ Q a S
  | x :: r, a, S, Q => gok gd S ∧ match bindP q x δ with
    | some δ2 => tt δ2 S (fun b S3 => brn b (tk δ2 S3 (fun y S4 => tv δ2 S4 (fun z S5 => (match y with
      | .tup ds => (match dKeys ds with
        | some ks => dDcL gd q tt tk tv δ r (putD a ks z) S5 Q
        | none => False)
      | _ => False)) noX) noX) (dDcL gd q tt tk tv δ r a S3 Q)) noX
    | none => False
structure dcK (gd : Gd) (q : Pat) (tt : DTT) (tk tv : DTE) (δ : DS) (xs : List D) (a : List (List Key × D)) (S : Sto) (Q : List (List Key × D) → Sto → Prop) : Prop where
  it : dDcL gd q tt tk tv δ xs a S Q
structure DcI (K : PySem.W.Frag) (G0 H0 : Hp) (S0 : Sto) (A : Addr) (G H : Hp) (S : Sto) (acc : List (List Key × D)) : Prop where
  st : Stp K G0 H0 S0 G H S
  ex : ∃ ws, H A = some (.dT ws) ∧ Rkv K G ws acc
  hg : G A = none
  hs : S A = none
section
variable {X : Cx} {W : WX} {k : Nat}
end
end SM
namespace SM
open PySem PySem.Spec PyProof.Rows L2
open PySem.W (EachIs AllAlike Sortable dataLe KeyPure)
def roB (c : Str) (q1 q2 q3 q4 q5 q6 q7 q8 : Pos) (k1 k2 k3 : Nat) : List Stmt :=
  [.Return (some (.Tuple [.Subscript (.Name c q1) (.Constant (.int 1) k1 q2) q3, .Subscript (.Name c q4) (.Constant (.int 0) k2 q5) q6] k3 q7)) q8]
section
variable {prog : Program} {w : World} {A : Around} {E : Value → Shared → Prop} {s : Shared} {env : Env} {c : Str}
end
variable {K : PySem.W.Frag} {G G' G2 H H' H2 G0 H0 : Hp} {S S' S2 S0 : Sto}
structure RoF (K : PySem.W.Frag) (f : Addr) : Prop where
  ex : ∃ (oc : Value) (od : Option Addr) (name qual : Str) (params : Arguments) (scope : Scope) (dV kV doc pm cdv ct : Value) (an : Option Addr) (osl : Array (Option Value)) (c : Str) (q1 q2 q3 q4 q5 q6 q7 q8 : Pos) (k1 k2 k3 : Nat),
    K.lookup f = some ⟨oc, od, .func (PySem.W.fnOf name qual params (roB c q1 q2 q3 q4 q5 q6 q7 q8 k1 k2 k3) scope dV kV doc pm an cdv ct), osl⟩ ∧ PySem.W.codeIn K cdv qual = true ∧ scope.kind = .function ∧ scope.isCoroutine = false ∧ scope.isGenerator = false ∧ scope.names.lookup c = some .local ∧
    (∀ b, bindArgs (PySem.W.fnOf name qual params (roB c q1 q2 q3 q4 q5 q6 q7 q8 k1 k2 k3) scope dV kV doc pm an cdv ct) ⟨[.ref b], []⟩ = pure [(c, .ref b)]) ∧ (c == ("__debug__" : Str)) = false
section
variable {X : Cx} {k : Nat}
end
end SM
namespace SM
open PySem PySem.Spec PyProof.Rows L2
variable {K : PySem.W.Frag} {G G' G2 H H' H2 : Hp} {S S' S2 : Sto}
section
variable {P : Program} {w : World} {mg : Str → Option Value} {base : Heap}
end
structure SMet (K : PySem.W.Frag) (C : Addr) (m : Str) (g : Addr) : Prop where
  rd : PySem.W.readsIn K C (.type "type") = true
  ga : PySem.W.specialIn K (.ref C) "__getattribute__" = some (some (.builtin "type.__getattribute__"))
  me : ∃ p rest, PySem.W.findCls K (.ref C) (.type "type") m = some (.get (.builtin "staticmethod.__get__") (.ref p) .none (.ref C)) ∧ PySem.W.recIn K p "staticmethod" = some (.ref g :: rest)
  kp : PySem.W.keepIn K (.ref g) = true
section
variable {X : Cx} {e o : Expr} {es : List Expr} {pos p apos : Pos} {W : WX} {k : Nat} {x m : Str} {t : DTA} {g C : Addr} {R : DSp} {pins : List (Addr × Obj)} {σ : L2.St} {s : Shared} {H : Hp} {A : Around} {E : Value → Shared → Prop}
end
end SM
namespace SM
open PySem PySem.Spec PyProof.Rows L2
open PySem.W (Looks)
variable {K : PySem.W.Frag} {G G' G2 H H' H2 : Hp} {S S' S2 : Sto}
structure EqF (K : PySem.W.Frag) (c : Nat) (oth : List Nat) (f : Addr) : Prop where
  ot : ∀ c2, oth.contains c2 = true → PySem.W.notFirst K (cad K c) (.ref (cad K c2)) = true
  eq : PySem.W.findIn K (.ref (cad K c)) "__eq__" = some (some (.ref f))
  fn : PySem.W.isFn K (.ref f) = true
  ne : PySem.W.findIn K (.ref (cad K c)) "__ne__" = some (some (.builtin "object.__ne__"))
  mro : PySem.W.mroIn K (cad K c) (.type "object") = some true
section
variable {X : Cx} {k : Nat} {c : Nat} {oth : List Nat} {f : Addr} {fd : FuncData} {ps : List Str} {R : DSp} {A : Around} {pins : List (Addr × Obj)} {σ : L2.St} {s : Shared}
end
end SM
namespace SM
open PySem PySem.Spec PyProof.Rows L2
open PySem.W (Frag)
structure Df where
  ad : Frag → Addr
  name : Str
  qual : Str
  st : Stmt
  dfl : List He.Dv := []
  kwd : List (Str × He.Dv) := []
def Df.val (d : Df) : He.FnW := some (d.name, d.qual, defArgs d.st, .stmts (defBody d.st), defScope d.st, mainGlobals, [], builtinsNs)
def Df.ob (K : Frag) (d : Df) : He.FnW := match K.lookup (d.ad K) with
  | some ⟨_, _, .func g, _⟩ => some (g.name, g.qualname, g.params, g.body, g.scope, g.globals, g.closure, g.builtins)
  | _ => none
def Df.dvs (K : Frag) (d : Df) : List V := d.dfl.map (He.Dv.v K)
def Df.kws (K : Frag) (d : Df) : List (Str × V) := d.kwd.map fun q => (q.1, q.2.v K)
def Df.ok (K : Frag) (d : Df) : Bool := PySem.W.keepIn K (.ref (d.ad K)) && (match K.lookup (d.ad K) with
  | some ⟨_, _, .func g, _⟩ => PySem.W.codeIn K g.code d.qual && (He.dflB K g.defaults (d.dvs K) && He.kwdB K g.kwdefaults (d.kws K))
  | _ => false)
abbrev ChK := List (Frag → Bool)
end SM
namespace SM
open PySem PySem.Spec PyProof.Rows L2
variable {K : PySem.W.Frag} {G G' G2 H H' H2 : Hp} {S S' S2 : Sto}
def Fz (K : PySem.W.Frag) (H : Hp) (a : Addr) (xs : List V) : Prop := (∃ o, H a = some (.frz o (.lst xs))) ∨
  ∃ (o : Obj) (its : Array Value) (n : Nat), K.lookup a = some o ∧ o.cls = .type "list" ∧ o.dict = none ∧ o.data = .seq its n ∧ its.size ≤ sizeLine ∧ Vals xs its.toList
theorem Fz.of {a : Addr} {xs : List V} (o : Only H) (h : SqL K H a xs) : Fz K H a xs := by
  rcases h with (h | h) | h
  · rcases o a with q | ⟨w, ys, q⟩
    · rw [q] at h; cases h
    · rw [q] at h; cases h
  · exact .inl h
  · exact .inr h
def spScr (K : PySem.W.Frag) (n : Nat) (R : Addr → List Int → DSp) : Sp := fun vs H Q E => ∃ a ns, vs = [.ref a] ∧ Fz K H a (ns.map V.int) ∧ ns.length ≤ n ∧ toSp K (R a ns) vs H Q E
section
variable {P : Program} {w : World} {mg : Str → Option Value} {base : Heap}
end
section
variable {X : Cx} {e : Expr} {es : List Expr} {pos p p2 : Pos} {k n : Nat} {x : Str} {t : DTA} {f a : Addr} {fd : FuncData} {ps : List Str} {R : Addr → List Int → DSp} {ns : List Int}
end
end SM
namespace SM
open PySem PySem.Spec PyProof.Rows L2
variable {S : Sto}
structure Gf (P : Program) (w : World) (K : PySem.W.Frag) (mg : Str → Option Value) (base : Heap) (k : Nat) (x : Str) (ps : List Str) (R : DSp) : Prop where
  ex : ∃ f fd, FnOk P w K mg base (L2N.CX P w) k f fd ps (toSp K R) ∧ mg x = some (.ref f) ∧ PySem.W.keepIn K (.ref f) = true ∧ Binds K fd ps []
structure Gm (P : Program) (w : World) (K : PySem.W.Frag) (mg : Str → Option Value) (base : Heap) (k : Nat) (c : Nat) (m : Str) (ps : List Str) (R : DSp) : Prop where
  ex : ∃ f fd, FnOk P w K mg base (L2N.CX P w) k f fd ps (toSp K R) ∧ MOk K c m f ∧ Binds K fd ps []
structure Gi (P : Program) (w : World) (K : PySem.W.Frag) (mg : Str → Option Value) (base : Heap) (k : Nat) (c : Nat) (x : Str) (ps : List Str) (R : DSp) : Prop where
  ex : ∃ f fd, FnOk P w K mg base (L2N.CX P w) k f fd ps (toSp K R) ∧ mg x = some (.ref (cad K c)) ∧ Mk K (cad K c) f ∧ Binds K fd ps []
section
variable {X : Cx} {e o : Expr} {es : List Expr} {pos p apos : Pos} {k j : Nat} {x m : Str} {t : DTA} {ps : List Str} {R : DSp}
end
end SM
namespace SM
open PySem PySem.Spec PyProof.Rows L2
variable {K : PySem.W.Frag} {G G' G2 H H' H2 : Hp} {S S' S2 : Sto}
abbrev ends (QD : DQ) (XD : XQ) : DEnds := ⟨fun _ S' => QD .non S', QD, fun _ _ => False, fun _ _ => False, fun x _ S' => XD x S'⟩
section
variable {P : Program} {w : World} {mg : Str → Option Value} {base : Heap}
structure Ge (P : Program) (w : World) (K : PySem.W.Frag) (mg : Str → Option Value) (base : Heap) (k : Nat) (c : Nat) (oth : List Nat) (ps : List Str) (R : DSp) : Prop where
  ex : ∃ f fd, FnOk P w K mg base (L2N.CX P w) k f fd ps (toSp K R) ∧ Binds K fd ps [] ∧ EqF K c oth f
structure Gs (P : Program) (w : World) (K : PySem.W.Frag) (mg : Str → Option Value) (base : Heap) (k : Nat) (c : Nat) (x m : Str) (R : DSp) : Prop where
  ex : ∃ g, SMet K (cad K c) m g ∧ FnR P w K mg base (L2N.CX P w) k g (toSp K R) ∧ mg x = some (.ref (cad K c))
end
section
variable {X : Cx} {e o a b : Expr} {es : List Expr} {pos p apos : Pos} {k j : Nat} {x m : Str} {t : DTA} {te : DTE} {ps : List Str} {R : DSp} {c : Nat} {oth : List Nat}
structure Gz (P : Program) (w : World) (K : PySem.W.Frag) (mg : Str → Option Value) (base : Heap) (k : Nat) (x : Str) (ps : List Str) (n : Nat) (R : Addr → List Int → DSp) : Prop where
  ex : ∃ f fd, FnOk P w K mg base (L2N.CX P w) k f fd ps (spScr K n R) ∧ mg x = some (.ref f) ∧ PySem.W.keepIn K (.ref f) = true ∧ Binds K fd ps []
end
end SM
namespace SM
open PySem PySem.Spec PyProof.Rows L2
variable {K : PySem.W.Frag} {G G' G2 H H' H2 : Hp} {S S' S2 : Sto}
section
variable {P : Program} {w : World} {mg : Str → Option Value} {base : Heap}
end
end SM
namespace SM
open PySem PySem.Spec PyProof.Rows L2
variable {K : PySem.W.Frag} {G G' G2 H H' H2 : Hp} {S S' S2 : Sto}
structure Go (P : Program) (w : World) (K : PySem.W.Frag) (mg : Str → Option Value) (base : Heap) (k : Nat) (c : Nat) (m : Str) (ps : List Str) (R : DSp) : Prop where
  ex : ∃ f fd, FnOk P w K mg base (L2N.CX P w) k f fd ps (toSp K R) ∧ Binds K fd ps [] ∧ Meth K (cad K c) m f
section
variable {X : Cx} {e o a b : Expr} {es : List Expr} {pos p apos : Pos} {k j : Nat} {x m : Str} {t : DTA} {te ta tb : DTE} {ps : List Str} {R : DSp} {c : Nat} {f : Addr} {fd : FuncData} {A : Around} {pins : List (Addr × Obj)} {σ : L2.St} {s : Shared} {W : WX}
end
end SM
namespace SM
open PySem PySem.Spec PyProof.Rows L2 TL
variable {K : PySem.W.Frag} {G G' G2 H H' H2 : Hp} {S S' S2 : Sto}
section
variable {X : Cx} {e o a b : Expr} {es : List Expr} {pos p apos : Pos} {k j : Nat} {x m : Str} {t : DTA} {te ta tb : DTE} {ps : List Str} {R : DSp} {c : Nat} {W : WX}
def dJs : List DTE → Str → DS → Sto → (Str → Sto → Prop) → XQ → Prop
  | [], acc, _, S, Q, _ => Q acc S
  | t :: ts, acc, δ, S, Q, X => t δ S (fun x S1 => match x with
    | .str y => (acc.length + y.length ≤ sizeLine) ∧ dJs ts (acc ++ y) δ S1 Q X
    | _ => False) X
structure PDJ (X : Cx) (es : List Expr) (ts : List DTE) : Prop where
  run : ∀ W, L2N.Takes X W → ∃ us, PJ X es us ∧ ∀ acc, okS acc → ∀ σ H Q, (∃ G δ S QD XD, RpE X.K G σ δ ∧ Rel X.K G H S ∧ dJs ts acc δ S QD XD ∧ (∀ G' H' S' o, Stp X.K G H S G' H' S' → okS o → QD o S' → Q o H') ∧ KX X.K W σ G H S XD) → tJs us acc σ H Q
end
end SM
namespace PySem.W
open PySem
section
variable {prog : Program} {w : World} {A : Around} {E : Value → Shared → Prop} {s : Shared} {K : Frag} {x C L f : Addr} {h₀ : Heap} {m : Str → Option Value} {ox : Obj} {od : Option Obj}
end
end PySem.W
namespace SM
open PySem PySem.Spec PyProof.Rows L2
variable {K : PySem.W.Frag} {G G' G2 H H' H2 : Hp} {S S' S2 : Sto}
section
variable {X : Cx} {e o a b : Expr} {es : List Expr} {pos p apos : Pos} {k j : Nat} {x m : Str} {t : DTA} {te ta tb : DTE} {ps : List Str} {R : DSp} {c : Nat} {W : WX}
end
end SM
namespace SM
open PySem PySem.Spec PyProof.Rows L2
variable {K : PySem.W.Frag} {G G' G2 H H' H2 : Hp} {S S' S2 : Sto}
section
variable {X : Cx} {e o a b : Expr} {es : List Expr} {pos p apos : Pos} {k j : Nat} {x m : Str} {t : DTA} {te ta tb : DTE} {ps : List Str} {R : DSp} {c : Nat} {W : WX}
end
end SM
namespace SM
open PySem PySem.Spec PyProof.Rows L2
variable {K : PySem.W.Frag} {G G' G2 H H' H2 : Hp} {S S' S2 : Sto}
def spE (C : Addr) (fls : List Str) : Sp := fun vs H Q _ => ∃ a ws, vs = .ref a :: ws ∧ ws.length = fls.length ∧ H a = some (exo a C none) ∧
  ∀ H' d fs, H' a = some (exo a C (some d)) → H' d = some (exd d fs) → H d = none → d ≠ a → (∀ b, b ≠ a → b ≠ d → H' b = H b) → (∀ (j : Nat) (fl : Str) (v : V), fls[j]? = some fl → ws[j]? = some v → fs.lookup fl = some v) → Q .non H'
section
variable {P : Program} {w : World} {mg : Str → Option Value} {base : Heap} {qual : Str} {params : Arguments} {scope : Scope} {f : Addr} {fd : FuncData} {c : Nat} {x y : Str} {p1 p2 p3 p4 q1 q2 q3 q4 : Pos}
end
structure Gx (P : Program) (w : World) (K : PySem.W.Frag) (mg : Str → Option Value) (base : Heap) (c : Nat) (x : Str) : Prop where
  ex : ∃ f fd ps, FnOk P w K mg base (L2N.CX P w) 1 f fd ps (spE (cad K c) (cfs c)) ∧ OexC K (cad K c) ∧ PySem.W.findIn K (.ref (cad K c)) "__init__" = some (some (.ref f)) ∧ PySem.W.typeIn K (.ref f) = some (.type "function") ∧ Binds K fd ps [] ∧ mg x = some (.ref (cad K c))
section
variable {X : Cx} {e : Expr} {es : List Expr} {pos p pos' : Pos} {k j : Nat} {x : Str} {t : DTA} {c : Nat} {W : WX}
end
end SM
namespace PySem.W
open PySem
section
variable {prog : Program} {w : World} {M : Model} {A : Around} {E : Value → Shared → Prop} {s : Shared} {K : Frag} {x C L f : Addr} {h₀ : Heap} {m : Str → Option Value} {ox : Obj} {od : Option Obj} {nm : String}
end
end PySem.W
namespace SM
open PySem PySem.Spec PyProof.Rows L2
variable {K : PySem.W.Frag} {G G' G2 H H' H2 : Hp} {S S' S2 : Sto}
section
variable {X : Cx} {e o a b : Expr} {es : List Expr} {pos p pos' p1 p2 p3 : Pos} {k j : Nat} {x m : Str} {t : DTA} {te ta tb : DTE} {ps : List Str} {R : DSp} {c : Nat} {W : WX}
structure NoI (K : PySem.W.Frag) (c : Nat) (op : Operator) : Prop where
  ex : ∃ cd, PySem.W.clsIn K (cad K c) = some cd ∧ cd.mro = [.ref (cad K c), .type "object"]
  h1 : PySem.W.findIn K (.ref (cad K c)) (PySem.dunderI op.info.2) = some none
  h2 : PySem.W.findIn K (.type "object") (PySem.dunderI op.info.2) = some none
end
end SM
namespace SM
open PySem PySem.Spec PyProof.Rows L2
variable {K : PySem.W.Frag} {G G' G2 H H' H2 : Hp} {S S' S2 : Sto}
section
variable {X : Cx} {e a b : Expr} {p pos tpos : Pos} {elts : List Expr} {kk : Nat} {t : DTA}
end
end SM
namespace SM
open PySem PySem.Spec PyProof.Rows L2
variable {K : PySem.W.Frag} {G G' G2 H H' H2 G0 H0 : Hp} {S S' S2 S0 : Sto}
def dLc2L (gd : Gd) (q : Pat) (tt : DTT) (ti1 : DTI) (q1 : Pat) (tt1 : DTT) (te : DTE) (vs1 : List Nat) (δ : DS) : List D → Sto → (List D → Sto → Prop) → Prop
  | [], S, Q => gok gd S ∧ Q [] S
  | x :: r, S, Q => gok gd S ∧ match bindP q x δ with
    | some δ2 => tt δ2 S (fun b S3 => brn b (ti1 δ2 S3 (fun gd1 ys S4 => ys.length ≤ 1000 ∧ dLcL gd1 q1 tt1 te (uns δ2 vs1) ys S4 (fun ds S5 => dLc2L gd q tt ti1 q1 tt1 te vs1 δ r S5 (fun ds' S6 => Q (ds ++ ds') S6))) noX) (dLc2L gd q tt ti1 q1 tt1 te vs1 δ r S3 Q)) noX
    | none => False
structure lc2K (gd : Gd) (q : Pat) (tt : DTT) (ti1 : DTI) (q1 : Pat) (tt1 : DTT) (te : DTE) (vs1 : List Nat) (δ : DS) (xs : List D) (S : Sto) (Q : List D → Sto → Prop) : Prop where
  it : xs.length ≤ 1000 ∧ dLc2L gd q tt ti1 q1 tt1 te vs1 δ xs S Q
section
variable {W : WX}
end
section
variable {X : Cx} {elt tg iter tg1 iter1 : Expr} {ifs ifs1 : List Expr} {scope : Scope} {own : List (Str × Nat)} {vs1 : List Nat} {ti ti1 : DTI} {q q1 : Pat} {tt tt1 : DTT} {te : DTE} {pos : Pos}
end
end SM
namespace SM
open PySem PySem.Spec PyProof.Rows L2
variable {K : PySem.W.Frag} {G G' G2 H H' H2 : Hp} {S S' S2 : Sto}
structure Gc (P : Program) (w : World) (K : PySem.W.Frag) (mg : Str → Option Value) (base : Heap) (k : Nat) (c : Nat) (x m : Str) (ps : List Str) (R : DSp) : Prop where
  ex : ∃ p g fd, ClX.CRead K (cad K c) (.type "type") ∧ ClX.CMet K (cad K c) (.type "type") m p g ∧ FnOk P w K mg base (L2N.CX P w) k g fd ps (toSp K R) ∧ Binds K fd ps [] ∧ mg x = some (.ref (cad K c))
section
variable {X : Cx} {e o : Expr} {es : List Expr} {pos p apos : Pos} {W : WX} {k j i : Nat} {x m : Str} {t : DTA} {te : DTE} {ps : List Str} {R : DSp} {c : Nat} {g C : Addr} {pins : List (Addr × Obj)} {σ : L2.St} {s : Shared}
structure CStr (K : PySem.W.Frag) (mg : Str → Option Value) (c : Nat) (x f z : Str) : Prop where
  ex : ∃ u, ClX.CRead K (cad K c) (.type "type") ∧ ClX.CVal K (cad K c) (.type "type") f (.str z) u ∧ mg x = some (.ref (cad K c))
end
section
variable {X : Cx}
end
end SM
namespace SM
open PySem PySem.Spec PyProof.Rows L2
variable {K : PySem.W.Frag} {G G' G2 H H' H2 : Hp} {S S' S2 : Sto}
def oexClsB (K : PySem.W.Frag) (C : Addr) : Bool := match K.lookup C with
  | some ⟨.type "type", _, .cls cd, ⟨[_, _, _, _, some (.builtin n), _]⟩⟩ => (match cd.mro with
    | .ref C' :: bm => decide (C' = C) && (decide (n = "ValueError.__new__") && (!cd.hasDel && (cd.hasDict && PySem.HandSPX.refsVE bm)))
    | _ => false)
  | _ => false
def oexB (K : PySem.W.Frag) (c : Nat) : Bool := oexClsB K (cad K c) && (He.eqO (PySem.W.findIn K (.ref (cad K c)) "__setattr__") (some (some (.builtin "object.__setattr__"))) && (decide (PySem.W.subIn K (.ref (cad K c)) (.type "BaseException") = some true) && (decide (PySem.W.typeIn K (.ref (cad K c)) = some (.type "type")) && PySem.W.keepIn K (.ref (cad K c)))))
def oinB (K : PySem.W.Frag) (c : Nat) : Bool := He.eqO (PySem.W.findIn K (.ref (cad K c)) "__init__") (some (some (.ref (He.ma K (cad K c) "__init__")))) && (decide (PySem.W.typeIn K (.ref (He.ma K (cad K c) "__init__")) = some (.type "function")) && (cfs c).all fun f => He.eqO (PySem.W.findIn K (.ref (cad K c)) f) (some none))
section
variable {P : Program} {w : World} {mg : Str → Option Value} {base : Heap} {c : Nat} {x y z qual : Str} {params : Arguments} {scope : Scope} {fd : FuncData} {p1 p2 p3 p4 q1 q2 q3 q4 : Pos}
end
end SM
namespace SM
open PySem PySem.Spec PyProof.Rows L2
variable {X : Cx}
end SM
namespace SM
open PySem PySem.Spec PyProof.Rows L2
variable {K : PySem.W.Frag} {G G' G2 H H' H2 : Hp} {S S' S2 : Sto}
def EmOk (K : PySem.W.Frag) (cv : Value) (tab : List (Nat × Bool)) : Prop := ∀ c b, tab.lookup c = some b → PySem.W.exmOne K (.ref (cad K c)) cv = some b
theorem Rx.rp {cls : Value} {d : Option Addr} {x : Exn} {a : Addr} (h : Rx K G cls d x) : Rp K G (.ref a) (.exn a d x.c x.ds) := by
  obtain ⟨_, h⟩ := h
  rcases h with ⟨h1, h2⟩ | ⟨dd, fs, vs, h1, h2, h3, h4, h5⟩
  · rw [h1, h2]; exact .exn0 _
  · rw [h1]; exact .exn h2 h3 h4 h5
structure Cgt (K : PySem.W.Frag) (oe : Obj) (c : Nat) (d : Option Addr) : Prop where
  zn : L2N.Zn (.ref (cad K c)) d oe
  fl : ∃ vs, oe.data = .fields vs
section
variable {X : Cx} {x n : Str} {cv : Value} {i : Nat} {body suite : List Stmt} {b₀ : Stmt} {np pos pos' : Pos} {tb : DTS} {ts : Addr → Option Addr → Nat → DTS} {tab : List (Nat × Bool)}
end
end SM
namespace SM
open PySem PySem.Spec PyProof.Rows L2
variable {K : PySem.W.Frag} {G G' G2 H H' H2 : Hp} {S S' S2 : Sto}
section
variable {X : Cx} {a : Addr} {oe : Obj} {c : Nat} {d : Option Addr} {pn : List (Addr × Obj)} {e : Expr} {te : DTE} {fl : Str} {pos : Pos} {tbl : List (Nat × Nat)}
end
section
variable {X : Cx} {a : Addr} {oe : Obj} {c : Nat} {d : Option Addr} {pn : List (Addr × Obj)} {e : Expr} {te : DTE} {pos p : Pos} {tab : List (Nat × Bool)}
end
end SM
namespace SM
open PySem PySem.Spec PyProof.Rows L2
variable {K : PySem.W.Frag} {G G' G2 H H' H2 : Hp} {S S' S2 : Sto}
section
variable {P : Program} {w : World} {mg : Str → Option Value} {base : Heap}
end
structure GfH (P : Program) (w : World) (K : PySem.W.Frag) (mg : Str → Option Value) (base : Heap) (k : Nat) (x : Str) (ps : List Str) (R : DSp) : Prop where
  ex : ∃ f fd, L2H.FnH P w K mg base (L2N.CX P w) k f fd ps (toSp K R) ∧ mg x = some (.ref f) ∧ PySem.W.keepIn K (.ref f) = true ∧ Binds K fd ps []
section
variable {X : Cx} {e : Expr} {es : List Expr} {pos p : Pos} {k j : Nat} {x : Str} {t : DTA} {ps : List Str} {R : DSp}
end
end SM
namespace SM
open PySem PySem.Spec PyProof.Rows L2
variable {K : PySem.W.Frag}
def excB (K : PySem.W.Frag) (D : Addr) : Bool := He.eqO (PySem.W.findIn K (.ref D) "__getattribute__") (some (some (.builtin "BaseException.__getattribute__"))) && (He.eqO (PySem.W.findIn K (.ref D) "__getattr__") (some none) && (decide (PySem.W.subIn K (.ref D) (.type "BaseException") = some true) && (PySem.W.hasDictIn K D &&
  (He.eqO (PySem.W.findIn K (.ref D) "__class__") (some (some (.builtin "object.__class__"))) && (He.eqO (PySem.W.specialIn K (.builtin "object.__class__") "__get__") (some (some (.builtin "getset_descriptor.__get__"))) && (decide (PySem.W.takesIn K (.builtin "object.__class__") = some true) && (decide (PySem.W.mroIn K D (.type "object") = some true) && (PySem.W.clsIn K D).isSome)))))))
def ixB (K : PySem.W.Frag) (cv : Value) (tab : List (Nat × Bool)) : Bool := tab.all fun p => excB K (cad K p.1) && decide (PySem.W.kitOne K (.ref (cad K p.1)) cv = some p.2)
section
variable {P : Program} {w : World} {mg : Str → Option Value} {base : Heap}
end
end SM
namespace SM
open PySem PySem.Spec PyProof.Rows L2
variable {K : PySem.W.Frag} {G H : Hp} {S : Sto}
end SM
namespace SM
open PySem PySem.Spec PyProof.Rows L2
variable {K : PySem.W.Frag} {G G' G2 H H' H2 : Hp} {S S' S2 : Sto}
def ofEnds (D : Ends) : Option Nat → Ends
  | none => D
  | some i => { nx := fun σ' H' => D.nx (σ'.set i none) H', rt := D.rt, bk := fun σ' H' => D.bk (σ'.set i none) H', ct := fun σ' H' => D.ct (σ'.set i none) H' }
def atSt (σ : L2.St) (a : Addr) : Option Nat → L2.St
  | none => σ
  | some i => σ.set i (some (.ref a))
abbrev Cl := Value × Option Nat × (Addr → Value → Option Addr → TS)
def wCl (K : PySem.W.Frag) (Wo : WX) (D : Ends) : List Cl → WX
  | [] => Wo
  | (c, oi, ts) :: r => fun cls d σ H =>
    ∃ b, PySem.W.exmOne K cls c = some b ∧ (b = true → ∀ a, H a = none → ts a cls d (ofEnds D oi) (atSt σ a oi) H) ∧ (b = false → wCl K Wo D r cls d σ H)
inductive ClsOk (X : Cx) : List ExceptHandler → List Cl → Prop
  | nil : ClsOk X [] []
  | plain {x : Str} {c : Value} {ts : Addr → Value → Option Addr → TS} {b0 : Stmt} {su : List Stmt} {np p2 : Pos} {hds : List ExceptHandler} {l : List Cl}
      (hc : Names X x c)
      (hsu : ∀ (a : Addr) (oe : Obj) (cls : Value) (d : Option Addr) (pn : List (Addr × Obj)),
        L2N.Zn cls d oe → (∃ vs, oe.data = .fields vs) → PSs (X.suite a ((a, oe) :: pn)) (b0 :: su) (ts a cls d))
      (r : ClsOk X hds l) : ClsOk X (.ExceptHandler (some (.Name x np)) none (b0 :: su) p2 :: hds) ((c, none, ts) :: l)
  | named {x n : Str} {c : Value} {i : Nat} {ts : Addr → Value → Option Addr → TS} {b0 : Stmt} {su : List Stmt} {np p2 : Pos} {hds : List ExceptHandler} {l : List Cl}
      (hN : X.N.Nodup) (hi : X.N[i]? = some n) (hln : X.env.kindOf n = some .local) (hc : Names X x c)
      (hsu : ∀ (a : Addr) (oe : Obj) (cls : Value) (d : Option Addr) (pn : List (Addr × Obj)),
        L2N.Zn cls d oe → (∃ vs, oe.data = .fields vs) → PSs (X.suite a ((a, oe) :: pn)) (b0 :: su) (ts a cls d))
      (r : ClsOk X hds l) : ClsOk X (.ExceptHandler (some (.Name x np)) (some n) (b0 :: su) p2 :: hds) ((c, some i, ts) :: l)
section
variable {X : Cx} {body : List Stmt} {h0 : ExceptHandler} {hds : List ExceptHandler} {l : List Cl} {pos : Pos} {tb : WX → TS} {Wo : WX}
end
abbrev DCl := List (Nat × Bool) × Option Nat × (Addr → Option Addr → Nat → DTS)
def dEnds (E : DEnds) : Option Nat → DEnds
  | none => { nx := E.nx, rt := E.rt, bk := E.bk, ct := E.ct, xc := fun _ _ _ => False }
  | some i => { nx := fun δ S => E.nx (unset δ i) S, rt := E.rt, bk := fun δ S => E.bk (unset δ i) S, ct := fun δ S => E.ct (unset δ i) S, xc := fun _ _ _ => False }
def dAt (δ : DS) (a : Addr) (d : Option Addr) (x : Exn) : Option Nat → DS
  | none => δ
  | some i => put δ i (.exn a d x.c x.ds)
def trXs (E : DEnds) : List DCl → Exn → DS → Sto → Prop
  | [], x, δ', S' => E.xc x δ' S'
  | (tab, oi, ts) :: r, x, δ', S' => match tab.lookup x.c with
    | some true => ∀ a d, ts a d x.c (dEnds E oi) (dAt δ' a d x oi) S'
    | some false => trXs E r x δ' S'
    | none => False
inductive DClOk (X : Cx) : List ExceptHandler → List DCl → Prop
  | nil : DClOk X [] []
  | plain {x : Str} {cv : Value} {tab : List (Nat × Bool)} {ts : Addr → Option Addr → Nat → DTS} {b0 : Stmt} {su : List Stmt} {np p2 : Pos} {hds : List ExceptHandler} {l : List DCl}
      (hc : Names X x cv) (em : EmOk X.K cv tab)
      (hsu : ∀ (a : Addr) (oe : Obj) (c : Nat) (d : Option Addr) (pn : List (Addr × Obj)), Cgt X.K oe c d → PDSs (X.suite a ((a, oe) :: pn)) (b0 :: su) (ts a d c))
      (r : DClOk X hds l) : DClOk X (.ExceptHandler (some (.Name x np)) none (b0 :: su) p2 :: hds) ((tab, none, ts) :: l)
  | named {x n : Str} {cv : Value} {i : Nat} {tab : List (Nat × Bool)} {ts : Addr → Option Addr → Nat → DTS} {b0 : Stmt} {su : List Stmt} {np p2 : Pos} {hds : List ExceptHandler} {l : List DCl}
      (hN : X.N.Nodup) (hi : X.N[i]? = some n) (hln : X.env.kindOf n = some .local) (hc : Names X x cv) (em : EmOk X.K cv tab)
      (hsu : ∀ (a : Addr) (oe : Obj) (c : Nat) (d : Option Addr) (pn : List (Addr × Obj)), Cgt X.K oe c d → PDSs (X.suite a ((a, oe) :: pn)) (b0 :: su) (ts a d c))
      (r : DClOk X hds l) : DClOk X (.ExceptHandler (some (.Name x np)) (some n) (b0 :: su) p2 :: hds) ((tab, some i, ts) :: l)
def liftCl (X : Cx) (ts : Addr → Option Addr → Nat → DTS) : Addr → Value → Option Addr → TS := fun a cls d D σ H => ∃ c, cls = .ref (cad X.K c) ∧ liftS X.K (fun _ _ _ _ => False) (ts a d c) D σ H
theorem DClOk.ok {X : Cx} {W : WX} : ∀ {hds : List ExceptHandler} {l : List DCl}, DClOk X hds l → ∃ l' : List Cl, ClsOk X hds l' ∧
    ∀ {D : Ends} {E : DEnds} {G0 H0 : Hp} {S0 : Sto}, ER X.K W G0 H0 S0 E D → ∀ {G H : Hp} {S : Sto} {σ : L2.St} {δ : DS} {cls : Value} {d : Option Addr} {x : Exn}, Stp X.K G0 H0 S0 G H S → RpE X.K G σ δ → Rx X.K G cls d x →
      trXs E l x δ S → wCl X.K W D l' cls d σ H := by
  intro hds l h
  induction h with
  | nil => exact ⟨[], .nil, fun er _ _ _ _ _ _ _ _ st re rx q => er.xc _ _ _ _ _ _ _ _ st re rx q⟩
  | @plain x0 cv tab ts b0 su np p2 hd2 l2 hc em hsu r ih =>
    obtain ⟨l', ok', go⟩ := ih
    refine ⟨(cv, none, liftCl X ts) :: l', .plain hc (fun a oe cls d pn hz hff => ⟨fun pins s σ H D I h => ?_⟩) ok', fun er G' H' S' σ' δ' cls d x st re' rx q => ?_⟩
    · obtain ⟨c, rfl, h⟩ := h
      exact ((hsu a oe c d pn ⟨hz, hff⟩).run _ takes0N PassesOwn.never).run pins s σ H D I h
    · have ec := rx.1
      subst ec
      revert q
      show (match tab.lookup x.c with | some true => _ | some false => _ | none => _) → _
      cases hl : tab.lookup x.c with
      | none => exact fun z => z.elim
      | some b =>
        cases b with
        | false => exact fun q => ⟨false, em _ _ hl, fun z => Bool.noConfusion z, fun _ => go er st re' rx q⟩
        | true =>
          intro q
          refine ⟨true, em _ _ hl, fun _ a ha => ⟨x.c, rfl, G', _, S', _, re', st.rel, q a d, ?_⟩, fun z => Bool.noConfusion z⟩
          exact ⟨fun G2 H2 S2 σ2 δ2 s2 r2 z => er.nx _ _ _ _ _ (st.trans s2) r2 z, fun G2 H2 S2 v d2 s2 r2 z => er.rt _ _ _ _ _ (st.trans s2) r2 z, fun G2 H2 S2 σ2 δ2 s2 r2 z => er.bk _ _ _ _ _ (st.trans s2) r2 z, fun G2 H2 S2 σ2 δ2 s2 r2 z => er.ct _ _ _ _ _ (st.trans s2) r2 z, fun _ _ _ _ _ _ _ _ _ _ _ z => z⟩
  | @named x0 n cv i tab ts b0 su np p2 hd2 l2 hN hi hln hc em hsu r ih =>
    obtain ⟨l', ok', go⟩ := ih
    refine ⟨(cv, some i, liftCl X ts) :: l', .named hN hi hln hc (fun a oe cls d pn hz hff => ⟨fun pins s σ H D I h => ?_⟩) ok', fun er G' H' S' σ' δ' cls d x st re' rx q => ?_⟩
    · obtain ⟨c, rfl, h⟩ := h
      exact ((hsu a oe c d pn ⟨hz, hff⟩).run _ takes0N PassesOwn.never).run pins s σ H D I h
    · have ec := rx.1
      subst ec
      revert q
      show (match tab.lookup x.c with | some true => _ | some false => _ | none => _) → _
      cases hl : tab.lookup x.c with
      | none => exact fun z => z.elim
      | some b =>
        cases b with
        | false => exact fun q => ⟨false, em _ _ hl, fun z => Bool.noConfusion z, fun _ => go er st re' rx q⟩
        | true =>
          intro q
          refine ⟨true, em _ _ hl, fun _ a ha => ⟨x.c, rfl, G', _, S', _, re'.put i rx.rp, st.rel, q a d, ?_⟩, fun z => Bool.noConfusion z⟩
          exact ⟨fun G2 H2 S2 σ2 δ2 s2 r2 z => er.nx _ _ _ _ _ (st.trans s2) (r2.unset i) z, fun G2 H2 S2 v d2 s2 r2 z => er.rt _ _ _ _ _ (st.trans s2) r2 z, fun G2 H2 S2 σ2 δ2 s2 r2 z => er.bk _ _ _ _ _ (st.trans s2) (r2.unset i) z, fun G2 H2 S2 σ2 δ2 s2 r2 z => er.ct _ _ _ _ _ (st.trans s2) (r2.unset i) z, fun _ _ _ _ _ _ _ _ _ _ _ z => z⟩
end SM
namespace SM
open PySem PySem.Spec PyProof.Rows L2
variable {K : PySem.W.Frag} {G G' G2 H H' H2 : Hp} {S S' S2 : Sto}
def veB : List Value := [.type "ValueError", .type "Exception", .type "BaseException", .type "object"]
structure Gx0 (K : PySem.W.Frag) (mg : Str → Option Value) (c : Nat) (x : Str) : Prop where
  q : PySem.W.excIn K (cad K c) veB "ValueError.__new__" = true
  kC : PySem.W.keepIn K (.ref (cad K c)) = true
  exC : PySem.W.subIn K (.ref (cad K c)) (.type "BaseException") = some true
  tyC : PySem.W.typeIn K (.ref (cad K c)) = some (.type "type")
  hm : mg x = some (.ref (cad K c))
def gx0B (K : PySem.W.Frag) (c : Nat) : Bool := PySem.W.excIn K (cad K c) veB "ValueError.__new__" && (PySem.W.keepIn K (.ref (cad K c)) && (decide (PySem.W.subIn K (.ref (cad K c)) (.type "BaseException") = some true) && decide (PySem.W.typeIn K (.ref (cad K c)) = some (.type "type"))))
section
variable {X : Cx} {pos p pos' : Pos} {x : Str} {c : Nat}
end
end SM
namespace SM
open PySem PySem.Spec PyProof.Rows L2
section
variable {X : Cx} {e : Expr} {es : List Expr} {pos p : Pos} {j : Nat} {x : Str} {t : DTA} {c : Nat}
end
section
variable {X : Cx} {pos p : Pos} {x : Str} {c : Nat}
end
section
variable {X : Cx} {e : Expr} {te : DTE} {pos p : Pos} {tab : List (Nat × Bool)}
structure isk (tab : List (Nat × Bool)) (S1 : Sto) (x : D) (k : D → Prop) : Prop where
  it : ∃ (a : Addr) (c : Nat) (ds : List D) (b : Bool), x = .adr a ∧ S1 a = some (.exo a c ds) ∧ tab.lookup c = some b ∧ k (.bl b)
end
def xaB (K : PySem.W.Frag) (f : Str) (cs : List Nat) : Bool := cs.all fun c => xfB K (cad K c) && decide (PySem.W.findIn K (.ref (cad K c)) f = some none)
structure xak (f : Str) (cs : List Nat) (S1 : Sto) (x : D) (k : D → Prop) : Prop where
  it : ∃ (a : Addr) (c : Nat) (ds : List D) (j : Nat) (v : D), x = .adr a ∧ S1 a = some (.exo a c ds) ∧ c ∈ cs ∧ (cfs c)[j]? = some f ∧ ds[j]? = some v ∧ k v
section
variable {X : Cx} {e : Expr} {te : DTE} {pos : Pos} {f : Str} {cs : List Nat}
end
end SM
namespace SM
open PySem PySem.Spec PyProof.Rows L2
variable {K : PySem.W.Frag} {G G' G2 H H' H2 : Hp} {S S' S2 : Sto}
structure GeH (P : Program) (w : World) (K : PySem.W.Frag) (mg : Str → Option Value) (base : Heap) (k : Nat) (c : Nat) (oth : List Nat) (ps : List Str) (R : DSp) : Prop where
  ex : ∃ f fd, L2H.FnH P w K mg base (L2N.CX P w) k f fd ps (toSp K R) ∧ Binds K fd ps [] ∧ EqF K c oth f
section
variable {X : Cx} {k j : Nat} {c : Nat} {oth : List Nat} {ps : List Str} {R : DSp}
end
end SM
namespace SM
open PySem PySem.Spec PyProof.Rows L2
variable {K : PySem.W.Frag} {G G' G2 H H' H2 : Hp} {S S' S2 : Sto}
section
variable {X : Cx} {a b : Expr} {pos : Pos} {k j : Nat} {ta tb : DTE} {ps : List Str} {R : DSp} {c : Nat}
end
end SM
namespace SM
open PySem PySem.Spec PyProof.Rows L2
variable {K : PySem.W.Frag} {G G' G2 H H' H2 : Hp} {S S' S2 : Sto}
section
variable {X : Cx} {k : Nat}
end
end SM
namespace SM
open PySem PySem.Spec PyProof.Rows L2
variable {K : PySem.W.Frag} {G G' G2 H H' H2 : Hp} {S S' S2 : Sto}
structure FunS (K : PySem.W.Frag) (x qual : Str) (params : Arguments) (body : List Stmt) (scope : Scope) (f : Addr) (fd : FuncData) (cc c : Addr) : Prop where
  ex : ∃ (oc : Value) (od : Option Addr) (dV kV doc pm : Value) (an : Option Addr) (ct : Value) (osl : Array (Option Value)),
    fd = PySem.W.fnX x qual params body scope [("__class__", cc)] dV kV doc pm an (.ref c) ct ∧ K.lookup f = some ⟨oc, od, .func fd, osl⟩ ∧ PySem.W.codeIn K (.ref c) qual = true ∧ DflV K dV [] ∧ KwdV K kV []
  kp : PySem.W.keepIn K (.ref f) = true
structure SupF (P : Program) (K : PySem.W.Frag) (mg : Str → Option Value) (cc c D f2 : Addr) (cs : List Nat) : Prop where
  cell : ∃ cl cld csl, K.lookup cc = some ⟨cl, cld, .cell (some (.ref D)), csl⟩
  code : ∃ ccl cdd vs ccs tf, K.lookup c = some ⟨ccl, cdd, .fields vs, ccs⟩ ∧ vs[2]? = some (.str P.main.file tf)
  cls : ∃ cd, PySem.W.clsIn K D = some cd
  top : (P.main.scope.names.lookup ("super" : Str)).isSome = false
  ng : mg "super" = none
  st : PySem.W.nsIn K cStatics "thirdparty.any" = some none
  ty2 : PySem.W.typeIn K (.ref f2) = some (.type "function")
  fi2 : PySem.W.fnIn K f2 = true
  sub : ∀ c', cs.contains c' = true → PySem.W.mroIn K (cad K c') (.ref D) = some true ∧ PySem.W.ks_superIn K (cad K c') D "__init__" = some (some (.ref f2))
section
variable {X : Cx} {cc c D f2 f : Addr} {cs : List Nat} {ps2 : List Str} {k2 : Nat} {R2 : DSp} {ta : DTA} {e : Expr} {es : List Expr} {p0 p1 p2 p3 p4 : Pos} {ar : Arg} {fd fd2 : FuncData} {body : List Stmt} {σ : L2.St} {δ : DS} {s : Shared} {E : DEnds} {W : WX} {oc : Value} {od : Option Addr} {osl : Array (Option Value)}
end
section
variable {P : Program} {w : World} {mg : Str → Option Value} {base : Heap}
end
end SM
namespace SM
open PySem PySem.Spec PyProof.Rows L2
open PySem.W (EachIs AllAlike Sortable dataLe)
variable {K : PySem.W.Frag} {G G' G2 H H' H2 : Hp} {S S' S2 : Sto}
section
variable {X : Cx} {pos pos' : Pos} {e o i : Expr} {te : DTE} {k : Nat}
end
end SM
namespace SM
open PySem PySem.Spec PyProof.Rows L2
variable {K : PySem.W.Frag} {G G' G2 H H' H2 : Hp} {S S' S2 : Sto}
def TabAll {α : Type} (Pr : Nat → α → Prop) : List (Nat × α) → Prop
  | [] => True
  | (c, x) :: T => Pr c x ∧ TabAll Pr T
theorem TabAll.at {α : Type} {Pr : Nat → α → Prop} : ∀ {T : List (Nat × α)} {c : Nat} {x : α}, TabAll Pr T → T.lookup c = some x → Pr c x
  | (c0, x0) :: T, c, x, h, e => by
    rw [List.lookup_cons] at e
    split at e
    · rename_i q
      cases e
      rw [eq_of_beq q]
      exact h.1
    · exact TabAll.at h.2 e
section
variable {X : Cx} {e o : Expr} {es : List Expr} {pos apos : Pos} {k j : Nat} {m : Str} {t : DTA} {to : DTE} {T : List (Nat × DSp)}
structure tabK (T : List (Nat × DSp)) (x : D) (F : DSp → Prop) : Prop where
  it : ∃ c fs R R0, x = .ins c fs ∧ T.lookup c = some R ∧ (∀ ds S Q X, R0 ds S Q X → R ds S Q X) ∧ F R0
structure tabV (T : List (Nat × Str)) (x : D) (F : Str → Prop) : Prop where
  it : ∃ c fs z, x = .ins c fs ∧ T.lookup c = some z ∧ F z
structure Gp (P : Program) (w : World) (K : PySem.W.Frag) (mg : Str → Option Value) (base : Heap) (k : Nat) (c : Nat) (m : Str) (ps : List Str) (R : DSp) : Prop where
  ex : ∃ f fd p, FnOk P w K mg base (L2N.CX P w) k f fd ps (toSp K R) ∧ Cls K (cad K c) ∧ PropOf K (cad K c) m p f ∧ Binds K fd ps []
end
end SM
namespace SM
open PySem PySem.Spec PyProof.Rows L2
open PySem.W (Frag)
def Df.obS (K : Frag) (d : Df) : He.FnW := match K.lookup (d.ad K) with
  | some ⟨_, _, .func g, _⟩ => some (g.name, g.qualname, g.params, g.body, g.scope, g.globals, [], g.builtins)
  | _ => none
def Df.okS (K : Frag) (d : Df) : Bool := PySem.W.keepIn K (.ref (d.ad K)) && (match K.lookup (d.ad K) with
  | some ⟨_, _, .func g, _⟩ => PySem.W.codeIn K g.code d.qual && (He.dflB K g.defaults [] && (He.kwdB K g.kwdefaults [] && ((match g.code with
    | .ref _ => true
    | _ => false) && (match g.closure with
    | [(n, _)] => decide (n = "__class__")
    | _ => false))))
  | _ => false)
def obC2 (ch : ChK) (fn fs : List Df) (K : Frag) : He.AlD := (ch.all (fun p => p K) && (fn.all (fun d => d.ok K) && fs.all fun d => d.okS K), (fn.map fun d => d.ob K) ++ fs.map fun d => d.obS K)
def vlC2 (fn fs : List Df) : He.AlD := (true, fn.map Df.val ++ fs.map Df.val)
def Says2 (ch : ChK) (fn fs : List Df) (K : Frag) : Prop := obC2 ch fn fs K = vlC2 fn fs
theorem Says2.bool {ch : ChK} {fn fs : List Df} {K : Frag} (c : Says2 ch fn fs K) : ch.all (fun p => p K) = true ∧ fn.all (fun d => d.ok K) = true ∧ fs.all (fun d => d.okS K) = true := by
  have c1 : (ch.all (fun p => p K) && (fn.all (fun d => d.ok K) && fs.all fun d => d.okS K)) = true := congrArg Prod.fst c
  simpa only [Bool.and_eq_true] using c1
end SM
namespace SM
open PySem PySem.Spec PyProof.Rows L2
variable {K : PySem.W.Frag} {G G' G2 H H' H2 : Hp} {S S' S2 : Sto}
structure Gmd (P : Program) (w : World) (K : PySem.W.Frag) (mg : Str → Option Value) (base : Heap) (k : Nat) (c : Nat) (m : Str) (ps : List Str) (dds : List D) (R : DSp) : Prop where
  ex : ∃ f fd dvs ds, FnOk P w K mg base (L2N.CX P w) k f fd ps (toSp K R) ∧ MOk K c m f ∧ Binds K fd ps ds ∧ Vals dvs ds ∧ ∀ G, Rps K G dvs dds
structure Gmk (P : Program) (w : World) (K : PySem.W.Frag) (mg : Str → Option Value) (base : Heap) (k : Nat) (c : Nat) (m : Str) (n : Nat) (x : Str) (ps : List Str) (R : DSp) : Prop where
  ex : ∃ f fd, FnOk P w K mg base (L2N.CX P w) k f fd ps (toSp K R) ∧ MOk K c m f ∧ KBn K fd ps n [x] (fun us ws => us ++ ws) (fun vs zs => vs ++ zs)
section
variable {X : Cx} {e o ke : Expr} {es : List Expr} {pos apos kpos : Pos} {k j n : Nat} {m kx : Str} {t : DTA} {to tke : DTE} {T : List (Nat × DSp)} {dds : List D}
end
end SM
namespace SM
open PySem PySem.Spec PyProof.Rows L2
end SM
namespace SM
open PySem PySem.Spec PyProof.Rows L2
end SM
namespace SM
open PySem PySem.Spec PyProof.Rows L2
open PySem.W (Frag)
def obL (as : List Addr) (ch : ChK) (fn fs : List Df) (g : Addr → Option Obj) : He.AlD := obC2 ch fn fs (He.frG g as)
def hookL (as : List Addr) (ch : ChK) (fn fs : List Df) : PySem.W.Hook where
  α := He.AlD
  obs s := obL as ch fn fs s.heap.get?
  val _ := vlC2 fn fs
  says _ h := ∃ K : Frag, K.In h ∧ Says2 ch fn fs K
  of _ _ e := ⟨_, He.frG_in, e⟩
  keeps := fun _ _ _ ⟨K, hK, c⟩ k => ⟨K, hK.keeps k, c⟩
theorem obL_eq {as : List Addr} {ch : ChK} {fn fs : List Df} {g : Addr → Option Obj} {s : Shared} (h : ∀ a, g a = s.heap.get? a) : obL as ch fn fs g = (hookL as ch fn fs).obs s := by
  have e : g = s.heap.get? := funext h
  rw [e] <;> rfl
end SM
namespace LAW
open PySem PySem.Spec PyProof.Rows L2 SM
def top (i : Nat) : Stmt := PySem.Challenge.pw_smalti_k24_error_classes.main.body.getD i (.Pass ⟨0, 0, 0, 0⟩)
abbrev s_l_bag : Stmt := top 32
abbrev s_l_take : Stmt := top 33
abbrev s_l_spot : Stmt := top 34
abbrev s_l_spots : Stmt := top 35
abbrev s_l_cell_errors : Stmt := top 39
abbrev s_l_cell_kinds : Stmt := top 36
abbrev s_l_other_kinds : Stmt := top 37
abbrev s_l_is_kind : Stmt := top 38
abbrev s_l_other_errors : Stmt := top 40
abbrev s_l_fields : Stmt := top 41
abbrev s_law_k24 : Stmt := top 42
def d_l_bag : Df := ⟨fun K => He.ga K "_law_bag", "_law_bag", "_law_bag", s_l_bag, [], []⟩
def d_l_take : Df := ⟨fun K => He.ga K "_law_take", "_law_take", "_law_take", s_l_take, [], []⟩
def d_l_spot : Df := ⟨fun K => He.ga K "_law_spot", "_law_spot", "_law_spot", s_l_spot, [], []⟩
def d_l_spots : Df := ⟨fun K => He.ga K "_law_spots", "_law_spots", "_law_spots", s_l_spots, [], []⟩
def d_l_cell_errors : Df := ⟨fun K => He.ga K "_law_cell_errors", "_law_cell_errors", "_law_cell_errors", s_l_cell_errors, [], []⟩
def d_l_cell_kinds : Df := ⟨fun K => He.ga K "_law_cell_kinds", "_law_cell_kinds", "_law_cell_kinds", s_l_cell_kinds, [], []⟩
def d_l_other_kinds : Df := ⟨fun K => He.ga K "_law_other_kinds", "_law_other_kinds", "_law_other_kinds", s_l_other_kinds, [], []⟩
def d_l_is_kind : Df := ⟨fun K => He.ga K "_law_is_kind", "_law_is_kind", "_law_is_kind", s_l_is_kind, [], []⟩
def d_l_other_errors : Df := ⟨fun K => He.ga K "_law_other_errors", "_law_other_errors", "_law_other_errors", s_l_other_errors, [], []⟩
def d_l_fields : Df := ⟨fun K => He.ga K "_law_fields", "_law_fields", "_law_fields", s_l_fields, [], []⟩
def d_law_k24 : Df := ⟨fun K => He.ga K "law", "law", "law", s_law_k24, [], []⟩
abbrev s_xEmptyCell : Stmt := inClass (top 13) 0
theorem sc_xEmptyCell : FnScope ["self", "x", "y"] ["self", "x", "y"] (defScope s_xEmptyCell) := ⟨rfl, rfl, rfl, by decide +kernel, rfl, by decide +kernel, by decide +kernel⟩
def d_xEmptyCell : Df := ⟨fun K => He.ma K (He.ga K "EmptyCell") "__init__", "__init__", "EmptyCell.__init__", s_xEmptyCell, [], []⟩
abbrev s_xNoHole : Stmt := inClass (top 12) 0
theorem sc_xNoHole : FnScope ["self", "x", "y"] ["self", "x", "y"] (defScope s_xNoHole) := ⟨rfl, rfl, rfl, by decide +kernel, rfl, by decide +kernel, by decide +kernel⟩
def d_xNoHole : Df := ⟨fun K => He.ma K (He.ga K "NoHole") "__init__", "__init__", "NoHole.__init__", s_xNoHole, [], []⟩
abbrev s_xNoStone : Stmt := inClass (top 11) 0
theorem sc_xNoStone : FnScope ["self", "x", "y"] ["self", "x", "y"] (defScope s_xNoStone) := ⟨rfl, rfl, rfl, by decide +kernel, rfl, by decide +kernel, by decide +kernel⟩
def d_xNoStone : Df := ⟨fun K => He.ma K (He.ga K "NoStone") "__init__", "__init__", "NoStone.__init__", s_xNoStone, [], []⟩
abbrev s_xNotNew : Stmt := inClass (top 16) 0
theorem sc_xNotNew : FnScope ["self", "x", "y"] ["self", "x", "y"] (defScope s_xNotNew) := ⟨rfl, rfl, rfl, by decide +kernel, rfl, by decide +kernel, by decide +kernel⟩
def d_xNotNew : Df := ⟨fun K => He.ma K (He.ga K "NotNew") "__init__", "__init__", "NotNew.__init__", s_xNotNew, [], []⟩
abbrev s_xNotOld : Stmt := inClass (top 15) 0
theorem sc_xNotOld : FnScope ["self", "x", "y"] ["self", "x", "y"] (defScope s_xNotOld) := ⟨rfl, rfl, rfl, by decide +kernel, rfl, by decide +kernel, by decide +kernel⟩
def d_xNotOld : Df := ⟨fun K => He.ma K (He.ga K "NotOld") "__init__", "__init__", "NotOld.__init__", s_xNotOld, [], []⟩
abbrev s_xOpposed : Stmt := inClass (top 14) 0
theorem sc_xOpposed : FnScope ["self", "x", "y"] ["self", "x", "y"] (defScope s_xOpposed) := ⟨rfl, rfl, rfl, by decide +kernel, rfl, by decide +kernel, by decide +kernel⟩
def d_xOpposed : Df := ⟨fun K => He.ma K (He.ga K "Opposed") "__init__", "__init__", "Opposed.__init__", s_xOpposed, [], []⟩
abbrev s_xOutOfPicture : Stmt := inClass (top 10) 0
theorem sc_xOutOfPicture : FnScope ["self", "x", "y"] ["self", "x", "y"] (defScope s_xOutOfPicture) := ⟨rfl, rfl, rfl, by decide +kernel, rfl, by decide +kernel, by decide +kernel⟩
def d_xOutOfPicture : Df := ⟨fun K => He.ma K (He.ga K "OutOfPicture") "__init__", "__init__", "OutOfPicture.__init__", s_xOutOfPicture, [], []⟩
abbrev s_xSurelyAfter : Stmt := inClass (top 19) 0
theorem sc_xSurelyAfter : FnScope ["self", "x", "y"] ["self", "x", "y"] (defScope s_xSurelyAfter) := ⟨rfl, rfl, rfl, by decide +kernel, rfl, by decide +kernel, by decide +kernel⟩
def d_xSurelyAfter : Df := ⟨fun K => He.ma K (He.ga K "SurelyAfter") "__init__", "__init__", "SurelyAfter.__init__", s_xSurelyAfter, [], []⟩
abbrev s_xSurelyNew : Stmt := inClass (top 18) 0
theorem sc_xSurelyNew : FnScope ["self", "x", "y"] ["self", "x", "y"] (defScope s_xSurelyNew) := ⟨rfl, rfl, rfl, by decide +kernel, rfl, by decide +kernel, by decide +kernel⟩
def d_xSurelyNew : Df := ⟨fun K => He.ma K (He.ga K "SurelyNew") "__init__", "__init__", "SurelyNew.__init__", s_xSurelyNew, [], []⟩
abbrev s_xSurelyOld : Stmt := inClass (top 17) 0
theorem sc_xSurelyOld : FnScope ["self", "x", "y"] ["self", "x", "y"] (defScope s_xSurelyOld) := ⟨rfl, rfl, rfl, by decide +kernel, rfl, by decide +kernel, by decide +kernel⟩
def d_xSurelyOld : Df := ⟨fun K => He.ma K (He.ga K "SurelyOld") "__init__", "__init__", "SurelyOld.__init__", s_xSurelyOld, [], []⟩
abbrev s_xBadDeed : Stmt := inClass (top 24) 0
theorem sc_xBadDeed : FnScope ["self", "index"] ["self", "index"] (defScope s_xBadDeed) := ⟨rfl, rfl, rfl, by decide +kernel, rfl, by decide +kernel, by decide +kernel⟩
def d_xBadDeed : Df := ⟨fun K => He.ma K (He.ga K "BadDeed") "__init__", "__init__", "BadDeed.__init__", s_xBadDeed, [], []⟩
abbrev s_xImpossible : Stmt := inClass (top 25) 0
theorem sc_xImpossible : FnScope ["self", "lacking"] ["self", "lacking"] (defScope s_xImpossible) := ⟨rfl, rfl, rfl, by decide +kernel, rfl, by decide +kernel, by decide +kernel⟩
def d_xImpossible : Df := ⟨fun K => He.ma K (He.ga K "Impossible") "__init__", "__init__", "Impossible.__init__", s_xImpossible, [], []⟩
abbrev s_xInvalidBook : Stmt := inClass (top 4) 0
theorem sc_xInvalidBook : FnScope ["self", "line"] ["self", "line"] (defScope s_xInvalidBook) := ⟨rfl, rfl, rfl, by decide +kernel, rfl, by decide +kernel, by decide +kernel⟩
def d_xInvalidBook : Df := ⟨fun K => He.ma K (He.ga K "InvalidBook") "__init__", "__init__", "InvalidBook.__init__", s_xInvalidBook, [], []⟩
abbrev s_xInvalidHistory : Stmt := inClass (top 6) 0
theorem sc_xInvalidHistory : FnScope ["self", "line"] ["self", "line"] (defScope s_xInvalidHistory) := ⟨rfl, rfl, rfl, by decide +kernel, rfl, by decide +kernel, by decide +kernel⟩
def d_xInvalidHistory : Df := ⟨fun K => He.ma K (He.ga K "InvalidHistory") "__init__", "__init__", "InvalidHistory.__init__", s_xInvalidHistory, [], []⟩
abbrev s_xInvalidLimit : Stmt := inClass (top 9) 0
theorem sc_xInvalidLimit : FnScope ["self", "value"] ["self", "value"] (defScope s_xInvalidLimit) := ⟨rfl, rfl, rfl, by decide +kernel, rfl, by decide +kernel, by decide +kernel⟩
def d_xInvalidLimit : Df := ⟨fun K => He.ma K (He.ga K "InvalidLimit") "__init__", "__init__", "InvalidLimit.__init__", s_xInvalidLimit, [], []⟩
abbrev s_xInvalidPicture : Stmt := inClass (top 2) 0
theorem sc_xInvalidPicture : FnScope ["self", "line"] ["self", "line"] (defScope s_xInvalidPicture) := ⟨rfl, rfl, rfl, by decide +kernel, rfl, by decide +kernel, by decide +kernel⟩
def d_xInvalidPicture : Df := ⟨fun K => He.ma K (He.ga K "InvalidPicture") "__init__", "__init__", "InvalidPicture.__init__", s_xInvalidPicture, [], []⟩
abbrev s_xInvalidRule : Stmt := inClass (top 3) 0
theorem sc_xInvalidRule : FnScope ["self", "part"] ["self", "part"] (defScope s_xInvalidRule) := ⟨rfl, rfl, rfl, by decide +kernel, rfl, by decide +kernel, by decide +kernel⟩
def d_xInvalidRule : Df := ⟨fun K => He.ma K (He.ga K "InvalidRule") "__init__", "__init__", "InvalidRule.__init__", s_xInvalidRule, [], []⟩
abbrev s_xInvalidSign : Stmt := inClass (top 7) 0
theorem sc_xInvalidSign : FnScope ["self", "sign"] ["self", "sign"] (defScope s_xInvalidSign) := ⟨rfl, rfl, rfl, by decide +kernel, rfl, by decide +kernel, by decide +kernel⟩
def d_xInvalidSign : Df := ⟨fun K => He.ma K (He.ga K "InvalidSign") "__init__", "__init__", "InvalidSign.__init__", s_xInvalidSign, [], []⟩
abbrev s_xInvalidSigns : Stmt := inClass (top 8) 0
theorem sc_xInvalidSigns : FnScope ["self", "signs"] ["self", "signs"] (defScope s_xInvalidSigns) := ⟨rfl, rfl, rfl, by decide +kernel, rfl, by decide +kernel, by decide +kernel⟩
def d_xInvalidSigns : Df := ⟨fun K => He.ma K (He.ga K "InvalidSigns") "__init__", "__init__", "InvalidSigns.__init__", s_xInvalidSigns, [], []⟩
abbrev s_xInvalidSketch : Stmt := inClass (top 5) 0
theorem sc_xInvalidSketch : FnScope ["self", "line"] ["self", "line"] (defScope s_xInvalidSketch) := ⟨rfl, rfl, rfl, by decide +kernel, rfl, by decide +kernel, by decide +kernel⟩
def d_xInvalidSketch : Df := ⟨fun K => He.ma K (He.ga K "InvalidSketch") "__init__", "__init__", "InvalidSketch.__init__", s_xInvalidSketch, [], []⟩
abbrev s_xNoPhotograph : Stmt := inClass (top 21) 0
theorem sc_xNoPhotograph : FnScope ["self", "number"] ["self", "number"] (defScope s_xNoPhotograph) := ⟨rfl, rfl, rfl, by decide +kernel, rfl, by decide +kernel, by decide +kernel⟩
def d_xNoPhotograph : Df := ⟨fun K => He.ma K (He.ga K "NoPhotograph") "__init__", "__init__", "NoPhotograph.__init__", s_xNoPhotograph, [], []⟩
abbrev s_xNoRule : Stmt := inClass (top 20) 0
theorem sc_xNoRule : FnScope ["self", "number"] ["self", "number"] (defScope s_xNoRule) := ⟨rfl, rfl, rfl, by decide +kernel, rfl, by decide +kernel, by decide +kernel⟩
def d_xNoRule : Df := ⟨fun K => He.ma K (He.ga K "NoRule") "__init__", "__init__", "NoRule.__init__", s_xNoRule, [], []⟩
abbrev s_xRuleClash : Stmt := inClass (top 23) 0
theorem sc_xRuleClash : FnScope ["self", "places"] ["self", "places"] (defScope s_xRuleClash) := ⟨rfl, rfl, rfl, by decide +kernel, rfl, by decide +kernel, by decide +kernel⟩
def d_xRuleClash : Df := ⟨fun K => He.ma K (He.ga K "RuleClash") "__init__", "__init__", "RuleClash.__init__", s_xRuleClash, [], []⟩
abbrev s_xTooManyCases : Stmt := inClass (top 26) 0
theorem sc_xTooManyCases : FnScope ["self", "cases"] ["self", "cases"] (defScope s_xTooManyCases) := ⟨rfl, rfl, rfl, by decide +kernel, rfl, by decide +kernel, by decide +kernel⟩
def d_xTooManyCases : Df := ⟨fun K => He.ma K (He.ga K "TooManyCases") "__init__", "__init__", "TooManyCases.__init__", s_xTooManyCases, [], []⟩
abbrev s_xUnknownOption : Stmt := inClass (top 27) 0
theorem sc_xUnknownOption : FnScope ["self", "name"] ["self", "name"] (defScope s_xUnknownOption) := ⟨rfl, rfl, rfl, by decide +kernel, rfl, by decide +kernel, by decide +kernel⟩
def d_xUnknownOption : Df := ⟨fun K => He.ma K (He.ga K "UnknownOption") "__init__", "__init__", "UnknownOption.__init__", s_xUnknownOption, [], []⟩
abbrev s_xWrongStone : Stmt := inClass (top 22) 0
theorem sc_xWrongStone : FnScope ["self", "stone"] ["self", "stone"] (defScope s_xWrongStone) := ⟨rfl, rfl, rfl, by decide +kernel, rfl, by decide +kernel, by decide +kernel⟩
def d_xWrongStone : Df := ⟨fun K => He.ma K (He.ga K "WrongStone") "__init__", "__init__", "WrongStone.__init__", s_xWrongStone, [], []⟩
def fn : List Df := [d_l_bag, d_l_take, d_l_spot, d_l_spots, d_l_cell_errors, d_l_cell_kinds, d_l_other_kinds, d_l_is_kind, d_l_other_errors, d_l_fields, d_law_k24, d_xEmptyCell, d_xNoHole, d_xNoStone, d_xNotNew, d_xNotOld, d_xOpposed, d_xOutOfPicture, d_xSurelyAfter, d_xSurelyNew, d_xSurelyOld, d_xBadDeed, d_xImpossible, d_xInvalidBook, d_xInvalidHistory, d_xInvalidLimit, d_xInvalidPicture, d_xInvalidRule, d_xInvalidSign, d_xInvalidSigns, d_xInvalidSketch, d_xNoPhotograph, d_xNoRule, d_xRuleClash, d_xTooManyCases, d_xUnknownOption, d_xWrongStone]
def fs : List Df := []
def ch : ChK := [fun K => oexB K 33,
  fun K => oinB K 33,
  fun K => (He.Fa.glo "EmptyCell").ok K,
  fun K => oexB K 32,
  fun K => oinB K 32,
  fun K => (He.Fa.glo "NoHole").ok K,
  fun K => oexB K 31,
  fun K => oinB K 31,
  fun K => (He.Fa.glo "NoStone").ok K,
  fun K => oexB K 36,
  fun K => oinB K 36,
  fun K => (He.Fa.glo "NotNew").ok K,
  fun K => oexB K 35,
  fun K => oinB K 35,
  fun K => (He.Fa.glo "NotOld").ok K,
  fun K => oexB K 34,
  fun K => oinB K 34,
  fun K => (He.Fa.glo "Opposed").ok K,
  fun K => oexB K 30,
  fun K => oinB K 30,
  fun K => (He.Fa.glo "OutOfPicture").ok K,
  fun K => oexB K 39,
  fun K => oinB K 39,
  fun K => (He.Fa.glo "SurelyAfter").ok K,
  fun K => oexB K 38,
  fun K => oinB K 38,
  fun K => (He.Fa.glo "SurelyNew").ok K,
  fun K => oexB K 37,
  fun K => oinB K 37,
  fun K => (He.Fa.glo "SurelyOld").ok K,
  fun K => oexB K 44,
  fun K => oinB K 44,
  fun K => (He.Fa.glo "BadDeed").ok K,
  fun K => oexB K 45,
  fun K => oinB K 45,
  fun K => (He.Fa.glo "Impossible").ok K,
  fun K => oexB K 23,
  fun K => oinB K 23,
  fun K => (He.Fa.glo "InvalidBook").ok K,
  fun K => oexB K 25,
  fun K => oinB K 25,
  fun K => (He.Fa.glo "InvalidHistory").ok K,
  fun K => oexB K 28,
  fun K => oinB K 28,
  fun K => (He.Fa.glo "InvalidLimit").ok K,
  fun K => oexB K 21,
  fun K => oinB K 21,
  fun K => (He.Fa.glo "InvalidPicture").ok K,
  fun K => oexB K 22,
  fun K => oinB K 22,
  fun K => (He.Fa.glo "InvalidRule").ok K,
  fun K => oexB K 26,
  fun K => oinB K 26,
  fun K => (He.Fa.glo "InvalidSign").ok K,
  fun K => oexB K 27,
  fun K => oinB K 27,
  fun K => (He.Fa.glo "InvalidSigns").ok K,
  fun K => oexB K 24,
  fun K => oinB K 24,
  fun K => (He.Fa.glo "InvalidSketch").ok K,
  fun K => oexB K 41,
  fun K => oinB K 41,
  fun K => (He.Fa.glo "NoPhotograph").ok K,
  fun K => oexB K 40,
  fun K => oinB K 40,
  fun K => (He.Fa.glo "NoRule").ok K,
  fun K => oexB K 43,
  fun K => oinB K 43,
  fun K => (He.Fa.glo "RuleClash").ok K,
  fun K => oexB K 46,
  fun K => oinB K 46,
  fun K => (He.Fa.glo "TooManyCases").ok K,
  fun K => oexB K 47,
  fun K => oinB K 47,
  fun K => (He.Fa.glo "UnknownOption").ok K,
  fun K => oexB K 42,
  fun K => oinB K 42,
  fun K => (He.Fa.glo "WrongStone").ok K,
  fun K => (He.Fa.free "int").ok K,
  fun K => (He.Fa.free "len").ok K,
  fun K => (He.Fa.glo "_law_take").ok K,
  fun K => (He.Fa.free "range").ok K,
  fun K => (He.Fa.glo "_law_spot").ok K,
  fun K => ixB K (.ref (cad K 33)) [(30, false), (31, false), (32, false), (33, true), (34, false), (35, false), (36, false), (37, false), (38, false), (39, false), (21, false), (22, false), (23, false), (24, false), (25, false), (26, false), (27, false), (28, false), (40, false), (41, false), (42, false), (43, false), (44, false), (45, false), (46, false), (47, false), (48, false), (49, false), (50, false)],
  fun K => (He.Fa.free "isinstance").ok K,
  fun K => ixB K (.ref (cad K 32)) [(30, false), (31, false), (32, true), (33, false), (34, false), (35, false), (36, false), (37, false), (38, false), (39, false), (21, false), (22, false), (23, false), (24, false), (25, false), (26, false), (27, false), (28, false), (40, false), (41, false), (42, false), (43, false), (44, false), (45, false), (46, false), (47, false), (48, false), (49, false), (50, false)],
  fun K => ixB K (.ref (cad K 31)) [(30, false), (31, true), (32, false), (33, false), (34, false), (35, false), (36, false), (37, false), (38, false), (39, false), (21, false), (22, false), (23, false), (24, false), (25, false), (26, false), (27, false), (28, false), (40, false), (41, false), (42, false), (43, false), (44, false), (45, false), (46, false), (47, false), (48, false), (49, false), (50, false)],
  fun K => ixB K (.ref (cad K 30)) [(30, true), (31, false), (32, false), (33, false), (34, false), (35, false), (36, false), (37, false), (38, false), (39, false), (21, false), (22, false), (23, false), (24, false), (25, false), (26, false), (27, false), (28, false), (40, false), (41, false), (42, false), (43, false), (44, false), (45, false), (46, false), (47, false), (48, false), (49, false), (50, false)],
  fun K => ixB K (.ref (cad K 36)) [(30, false), (31, false), (32, false), (33, false), (34, false), (35, false), (36, true), (37, false), (38, false), (39, false), (21, false), (22, false), (23, false), (24, false), (25, false), (26, false), (27, false), (28, false), (40, false), (41, false), (42, false), (43, false), (44, false), (45, false), (46, false), (47, false), (48, false), (49, false), (50, false)],
  fun K => ixB K (.ref (cad K 35)) [(30, false), (31, false), (32, false), (33, false), (34, false), (35, true), (36, false), (37, false), (38, false), (39, false), (21, false), (22, false), (23, false), (24, false), (25, false), (26, false), (27, false), (28, false), (40, false), (41, false), (42, false), (43, false), (44, false), (45, false), (46, false), (47, false), (48, false), (49, false), (50, false)],
  fun K => ixB K (.ref (cad K 34)) [(30, false), (31, false), (32, false), (33, false), (34, true), (35, false), (36, false), (37, false), (38, false), (39, false), (21, false), (22, false), (23, false), (24, false), (25, false), (26, false), (27, false), (28, false), (40, false), (41, false), (42, false), (43, false), (44, false), (45, false), (46, false), (47, false), (48, false), (49, false), (50, false)],
  fun K => ixB K (.ref (cad K 39)) [(30, false), (31, false), (32, false), (33, false), (34, false), (35, false), (36, false), (37, false), (38, false), (39, true), (21, false), (22, false), (23, false), (24, false), (25, false), (26, false), (27, false), (28, false), (40, false), (41, false), (42, false), (43, false), (44, false), (45, false), (46, false), (47, false), (48, false), (49, false), (50, false)],
  fun K => ixB K (.ref (cad K 38)) [(30, false), (31, false), (32, false), (33, false), (34, false), (35, false), (36, false), (37, false), (38, true), (39, false), (21, false), (22, false), (23, false), (24, false), (25, false), (26, false), (27, false), (28, false), (40, false), (41, false), (42, false), (43, false), (44, false), (45, false), (46, false), (47, false), (48, false), (49, false), (50, false)],
  fun K => ixB K (.ref (cad K 37)) [(30, false), (31, false), (32, false), (33, false), (34, false), (35, false), (36, false), (37, true), (38, false), (39, false), (21, false), (22, false), (23, false), (24, false), (25, false), (26, false), (27, false), (28, false), (40, false), (41, false), (42, false), (43, false), (44, false), (45, false), (46, false), (47, false), (48, false), (49, false), (50, false)],
  fun K => ixB K (.ref (cad K 23)) [(30, false), (31, false), (32, false), (33, false), (34, false), (35, false), (36, false), (37, false), (38, false), (39, false), (21, false), (22, false), (23, true), (24, false), (25, false), (26, false), (27, false), (28, false), (40, false), (41, false), (42, false), (43, false), (44, false), (45, false), (46, false), (47, false), (48, false), (49, false), (50, false)],
  fun K => ixB K (.ref (cad K 22)) [(30, false), (31, false), (32, false), (33, false), (34, false), (35, false), (36, false), (37, false), (38, false), (39, false), (21, false), (22, true), (23, false), (24, false), (25, false), (26, false), (27, false), (28, false), (40, false), (41, false), (42, false), (43, false), (44, false), (45, false), (46, false), (47, false), (48, false), (49, false), (50, false)],
  fun K => ixB K (.ref (cad K 21)) [(30, false), (31, false), (32, false), (33, false), (34, false), (35, false), (36, false), (37, false), (38, false), (39, false), (21, true), (22, false), (23, false), (24, false), (25, false), (26, false), (27, false), (28, false), (40, false), (41, false), (42, false), (43, false), (44, false), (45, false), (46, false), (47, false), (48, false), (49, false), (50, false)],
  fun K => ixB K (.ref (cad K 26)) [(30, false), (31, false), (32, false), (33, false), (34, false), (35, false), (36, false), (37, false), (38, false), (39, false), (21, false), (22, false), (23, false), (24, false), (25, false), (26, true), (27, false), (28, false), (40, false), (41, false), (42, false), (43, false), (44, false), (45, false), (46, false), (47, false), (48, false), (49, false), (50, false)],
  fun K => ixB K (.ref (cad K 25)) [(30, false), (31, false), (32, false), (33, false), (34, false), (35, false), (36, false), (37, false), (38, false), (39, false), (21, false), (22, false), (23, false), (24, false), (25, true), (26, false), (27, false), (28, false), (40, false), (41, false), (42, false), (43, false), (44, false), (45, false), (46, false), (47, false), (48, false), (49, false), (50, false)],
  fun K => ixB K (.ref (cad K 24)) [(30, false), (31, false), (32, false), (33, false), (34, false), (35, false), (36, false), (37, false), (38, false), (39, false), (21, false), (22, false), (23, false), (24, true), (25, false), (26, false), (27, false), (28, false), (40, false), (41, false), (42, false), (43, false), (44, false), (45, false), (46, false), (47, false), (48, false), (49, false), (50, false)],
  fun K => ixB K (.ref (cad K 40)) [(30, false), (31, false), (32, false), (33, false), (34, false), (35, false), (36, false), (37, false), (38, false), (39, false), (21, false), (22, false), (23, false), (24, false), (25, false), (26, false), (27, false), (28, false), (40, true), (41, false), (42, false), (43, false), (44, false), (45, false), (46, false), (47, false), (48, false), (49, false), (50, false)],
  fun K => ixB K (.ref (cad K 28)) [(30, false), (31, false), (32, false), (33, false), (34, false), (35, false), (36, false), (37, false), (38, false), (39, false), (21, false), (22, false), (23, false), (24, false), (25, false), (26, false), (27, false), (28, true), (40, false), (41, false), (42, false), (43, false), (44, false), (45, false), (46, false), (47, false), (48, false), (49, false), (50, false)],
  fun K => ixB K (.ref (cad K 27)) [(30, false), (31, false), (32, false), (33, false), (34, false), (35, false), (36, false), (37, false), (38, false), (39, false), (21, false), (22, false), (23, false), (24, false), (25, false), (26, false), (27, true), (28, false), (40, false), (41, false), (42, false), (43, false), (44, false), (45, false), (46, false), (47, false), (48, false), (49, false), (50, false)],
  fun K => ixB K (.ref (cad K 43)) [(30, false), (31, false), (32, false), (33, false), (34, false), (35, false), (36, false), (37, false), (38, false), (39, false), (21, false), (22, false), (23, false), (24, false), (25, false), (26, false), (27, false), (28, false), (40, false), (41, false), (42, false), (43, true), (44, false), (45, false), (46, false), (47, false), (48, false), (49, false), (50, false)],
  fun K => ixB K (.ref (cad K 42)) [(30, false), (31, false), (32, false), (33, false), (34, false), (35, false), (36, false), (37, false), (38, false), (39, false), (21, false), (22, false), (23, false), (24, false), (25, false), (26, false), (27, false), (28, false), (40, false), (41, false), (42, true), (43, false), (44, false), (45, false), (46, false), (47, false), (48, false), (49, false), (50, false)],
  fun K => ixB K (.ref (cad K 41)) [(30, false), (31, false), (32, false), (33, false), (34, false), (35, false), (36, false), (37, false), (38, false), (39, false), (21, false), (22, false), (23, false), (24, false), (25, false), (26, false), (27, false), (28, false), (40, false), (41, true), (42, false), (43, false), (44, false), (45, false), (46, false), (47, false), (48, false), (49, false), (50, false)],
  fun K => ixB K (.ref (cad K 46)) [(30, false), (31, false), (32, false), (33, false), (34, false), (35, false), (36, false), (37, false), (38, false), (39, false), (21, false), (22, false), (23, false), (24, false), (25, false), (26, false), (27, false), (28, false), (40, false), (41, false), (42, false), (43, false), (44, false), (45, false), (46, true), (47, false), (48, false), (49, false), (50, false)],
  fun K => ixB K (.ref (cad K 45)) [(30, false), (31, false), (32, false), (33, false), (34, false), (35, false), (36, false), (37, false), (38, false), (39, false), (21, false), (22, false), (23, false), (24, false), (25, false), (26, false), (27, false), (28, false), (40, false), (41, false), (42, false), (43, false), (44, false), (45, true), (46, false), (47, false), (48, false), (49, false), (50, false)],
  fun K => ixB K (.ref (cad K 44)) [(30, false), (31, false), (32, false), (33, false), (34, false), (35, false), (36, false), (37, false), (38, false), (39, false), (21, false), (22, false), (23, false), (24, false), (25, false), (26, false), (27, false), (28, false), (40, false), (41, false), (42, false), (43, false), (44, true), (45, false), (46, false), (47, false), (48, false), (49, false), (50, false)],
  fun K => ixB K (.ref (cad K 49)) [(30, false), (31, false), (32, false), (33, false), (34, false), (35, false), (36, false), (37, false), (38, false), (39, false), (21, false), (22, false), (23, false), (24, false), (25, false), (26, false), (27, false), (28, false), (40, false), (41, false), (42, false), (43, false), (44, false), (45, false), (46, false), (47, false), (48, false), (49, true), (50, false)],
  fun K => (He.Fa.glo "NothingToUndo").ok K,
  fun K => ixB K (.ref (cad K 48)) [(30, false), (31, false), (32, false), (33, false), (34, false), (35, false), (36, false), (37, false), (38, false), (39, false), (21, false), (22, false), (23, false), (24, false), (25, false), (26, false), (27, false), (28, false), (40, false), (41, false), (42, false), (43, false), (44, false), (45, false), (46, false), (47, false), (48, true), (49, false), (50, false)],
  fun K => (He.Fa.glo "UnequalSize").ok K,
  fun K => ixB K (.ref (cad K 47)) [(30, false), (31, false), (32, false), (33, false), (34, false), (35, false), (36, false), (37, false), (38, false), (39, false), (21, false), (22, false), (23, false), (24, false), (25, false), (26, false), (27, false), (28, false), (40, false), (41, false), (42, false), (43, false), (44, false), (45, false), (46, false), (47, true), (48, false), (49, false), (50, false)],
  fun K => ixB K (.ref (cad K 50)) [(30, false), (31, false), (32, false), (33, false), (34, false), (35, false), (36, false), (37, false), (38, false), (39, false), (21, false), (22, false), (23, false), (24, false), (25, false), (26, false), (27, false), (28, false), (40, false), (41, false), (42, false), (43, false), (44, false), (45, false), (46, false), (47, false), (48, false), (49, false), (50, true)],
  fun K => (He.Fa.glo "StillPossible").ok K,
  fun K => ixB K (.ref (cad K 20)) [(30, true), (31, true), (32, true), (33, true), (34, true), (35, true), (36, true), (37, true), (38, true), (39, true), (21, true), (22, true), (23, true), (24, true), (25, true), (26, true), (27, true), (28, true), (40, true), (41, true), (42, true), (43, true), (44, true), (45, true), (46, true), (47, true), (48, true), (49, true), (50, true)],
  fun K => (He.Fa.glo "SmaltiError").ok K,
  fun K => ixB K (.type "ValueError") [(30, true), (31, true), (32, true), (33, true), (34, true), (35, true), (36, true), (37, true), (38, true), (39, true), (21, true), (22, true), (23, true), (24, true), (25, true), (26, true), (27, true), (28, true), (40, true), (41, true), (42, true), (43, true), (44, true), (45, true), (46, true), (47, true), (48, true), (49, true), (50, true)],
  fun K => (He.Fa.free "ValueError").ok K,
  fun K => (He.Fa.glo "_law_cell_kinds").ok K,
  fun K => (He.Fa.glo "_law_other_kinds").ok K,
  fun K => gx0B K 50,
  fun K => gx0B K 49,
  fun K => gx0B K 48,
  fun K => xaB K "sign" [26],
  fun K => xaB K "line" [25],
  fun K => xaB K "line" [24],
  fun K => xaB K "line" [23],
  fun K => xaB K "part" [22],
  fun K => xaB K "line" [21],
  fun K => xaB K "stone" [42],
  fun K => xaB K "number" [41],
  fun K => xaB K "number" [40],
  fun K => xaB K "value" [28],
  fun K => xaB K "signs" [27],
  fun K => xaB K "cases" [46],
  fun K => xaB K "lacking" [45],
  fun K => xaB K "index" [44],
  fun K => xaB K "places" [43],
  fun K => xaB K "name" [47],
  fun K => xaB K "x" [30, 31, 32, 33, 34, 35, 36, 37, 38, 39],
  fun K => xaB K "y" [30, 31, 32, 33, 34, 35, 36, 37, 38, 39],
  fun K => (He.Fa.free "list").ok K,
  fun K => (He.Fa.glo "_law_bag").ok K,
  fun K => (He.Fa.glo "_law_spots").ok K,
  fun K => (He.Fa.glo "_law_cell_errors").ok K,
  fun K => (He.Fa.glo "_law_is_kind").ok K,
  fun K => (He.Fa.glo "_law_other_errors").ok K,
  fun K => (He.Fa.glo "_law_fields").ok K,
  fun K => (He.Fa.glo "law").ok K]
def nm0 : List Str := ["SmaltiError", "InvalidPicture", "InvalidRule", "InvalidBook", "InvalidSketch", "InvalidHistory", "InvalidSign", "InvalidSigns", "InvalidLimit", "OutOfPicture", "NoStone", "NoHole", "EmptyCell", "Opposed", "NotOld", "NotNew", "SurelyOld", "SurelyNew", "SurelyAfter", "NoRule", "NoPhotograph", "WrongStone", "RuleClash", "BadDeed", "Impossible", "TooManyCases", "UnknownOption", "UnequalSize", "NothingToUndo", "StillPossible"]
def nm1 : List Str := ["_law_bag", "_law_take", "_law_spot", "_law_spots", "_law_cell_kinds", "_law_other_kinds", "_law_is_kind", "_law_cell_errors", "_law_other_errors", "_law_fields"]
abbrev nms : List Str := nm0 ++ nm1
def as0 : List Addr := [2, 3, 6, 4, 24, 44, 63, 82, 101, 120, 139, 158, 177, 196, 215, 234, 253, 272, 291, 310, 329, 348, 367, 386, 405, 424, 443, 462, 481, 500, 519, 531, 543, 555, 562, 569, 576, 583, 590, 597, 604, 611, 618, 625, 632, 0, 23, 43, 62, 81]
def as1 : List Addr := [100, 119, 138, 157, 176, 195, 214, 233, 252, 271, 290, 309, 328, 347, 366, 385, 404, 423, 442, 461, 480, 499, 518, 530, 542, 554, 561, 568, 575, 582, 589, 596, 603, 610, 617, 624, 631, 22, 25, 41, 42, 60, 61, 79, 80, 98, 99, 117, 118, 136]
def as2 : List Addr := [137, 155, 156, 174, 175, 193, 194, 212, 213, 231, 232, 250, 251, 269, 270, 288, 289, 307, 308, 326, 327, 345, 346, 364, 365, 383, 384, 402, 403, 421, 422, 440, 441, 459, 460, 478, 479, 497, 498, 516, 517, 529, 541, 553, 558, 559, 560, 563, 564, 565]
def as3 : List Addr := [566, 567, 570, 571, 572, 573, 574, 577, 578, 579, 580, 581, 584, 585, 586, 587, 588, 591, 592, 593, 594, 595, 598, 599, 600, 601, 602, 605, 606, 607, 608, 609, 612, 613, 614, 615, 616, 619, 620, 621, 622, 623, 626, 627, 628, 629, 630, 40, 59, 78]
def as4 : List Addr := [97, 116, 135, 154, 173, 192, 211, 230, 249, 268, 287, 306, 325, 344, 363, 382, 401, 420, 439, 458, 477, 496, 515, 35, 36, 37, 38, 39, 54, 55, 56, 57, 58, 73, 74, 75, 76, 77, 92, 93, 94, 95, 96, 111, 112, 113, 114, 115, 130, 131]
def as5 : List Addr := [132, 133, 134, 149, 150, 151, 152, 153, 168, 169, 170, 171, 172, 187, 188, 189, 190, 191, 206, 207, 208, 209, 210, 225, 226, 227, 228, 229, 244, 245, 246, 247, 248, 263, 264, 265, 266, 267, 282, 283, 284, 285, 286, 301, 302, 303, 304, 305, 320, 321]
def as6 : List Addr := [322, 323, 324, 339, 340, 341, 342, 343, 358, 359, 360, 361, 362, 377, 378, 379, 380, 381, 396, 397, 398, 399, 400, 415, 416, 417, 418, 419, 434, 435, 436, 437, 438, 453, 454, 455, 456, 457, 472, 473, 474, 475, 476, 491, 492, 493, 494, 495, 510, 511]
def as7 : List Addr := [512, 513, 514]
abbrev as : List Addr := as0 ++ (as1 ++ (as2 ++ (as3 ++ (as4 ++ (as5 ++ (as6 ++ (as7)))))))
abbrev R : PySem.W.OpenRow := PySem.W.OpenLaw.row PySem.Challenge.rw_smalti_k24_error_classes
abbrev hk : PySem.W.Hook := hookL as ch fn fs
def ob (s : PySem.W.SharedT) : He.AlD := obL as ch fn fs (HandSHeadRun.getT s)
theorem ob_eq (s : PySem.W.SharedT) : ob s = hk.obs s.abs := obL_eq (HandSHeadRun.getT_eq s)
theorem run (w : World) : HandSHeadRun.RunEq R (PySem.W.view R.prog [42]) hk ob 30000 nms w := by
  intro os
  kernel_rfl
end LAW
namespace SM
open PySem PySem.Spec PyProof.Rows L2
theorem su_same {S : Sto} {a : Addr} {o : OO} : su S a o a = some o := by unfold su; exact if_pos rfl
theorem su_ne {S : Sto} {a b : Addr} {o : OO} (h : b ≠ a) : su S a o b = S b := by unfold su; exact if_neg h
theorem su_su {S : Sto} {a : Addr} {o u : OO} : su (su S a o) a u = su S a u := by funext b; unfold su; by_cases h : b = a <;> simp [h]
theorem sd_su {S : Sto} {a : Addr} {o : OO} : sd (su S a o) a = sd S a := by funext b; unfold su sd; by_cases h : b = a <;> simp [h]
theorem sd_none {S : Sto} {a : Addr} (h : S a = none) : sd S a = S := by
  funext b; unfold sd; split
  · rename_i e; rw [e, h]
  · rfl
theorem su_self {S : Sto} {a : Addr} {o : OO} (h : S a = some o) : su S a o = S := by
  funext b; unfold su; split
  · rename_i e; rw [e, h]
  · rfl
theorem st_ne {S : Sto} {a b : Addr} {o : OO} (h : S a = some o) (h' : S b = none) : a ≠ b := by
  intro e; subst e; rw [h] at h'; cases h'
variable {K : PySem.W.Frag} {G G' G2 H H' H2 : Hp} {S S' S2 : Sto}
theorem Rps.append : ∀ {vs ws : List V} {ds es : List D}, Rps K G vs ds → Rps K G ws es → Rps K G (vs ++ ws) (ds ++ es)
  | _, _, _, _, .nil, s => s
  | _, _, _, _, .cons r t, s => .cons r (Rps.append t s)
theorem Rps.take : ∀ {vs : List V} {ds : List D} (n : Nat), Rps K G vs ds → Rps K G (vs.take n) (ds.take n)
  | _, _, 0, _ => .nil
  | _, _, _ + 1, .nil => .nil
  | _, _, n + 1, .cons r t => .cons r (Rps.take n t)
theorem Rps.drop : ∀ {vs : List V} {ds : List D} (n : Nat), Rps K G vs ds → Rps K G (vs.drop n) (ds.drop n)
  | _, _, 0, r => r
  | _, _, _ + 1, .nil => .nil
  | _, _, n + 1, .cons _ t => Rps.drop n t
theorem Rel.sq (r : Rel K G H S) {a : Addr} {vs : List V} (h : SqL K G a vs) : SqL K H a vs := by
  rcases h with (h | ⟨o, h⟩) | h
  · exact .inl (.inl (r.at h rfl))
  · exact .inl (.inr ⟨o, r.at h rfl⟩)
  · exact .inr h
theorem Stp.refl (r : Rel K G H S) : Stp K G H S G H S := ⟨fun _ _ h => h, r, fun b o h g s => ⟨h, s, .inl g⟩⟩
theorem Stp.newF (r : Rel K G H S) {p : Addr} {o : HO} (h : H p = none) : Stp K G H S (upd G p o) (upd H p o) S where
  sg := fun b u e => by rw [upd_ne (ne_of_none e (r.free h).1)]; exact e
  rel := {
    le := fun b u e => by
      by_cases hb : b = p
      · subst hb; rw [upd_same] at e ⊢; exact .inl e
      · rw [upd_ne hb] at e ⊢; exact r.le b u e
    own := fun b u e => by
      have hb : b ≠ p := st_ne e (r.free h).2
      rw [upd_ne hb, upd_ne hb]
      refine ⟨(r.own b u e).1, (r.own b u e).2.mono fun c w q => ?_⟩
      rw [upd_ne (ne_of_none q (r.free h).1)]; exact q }
  fr := fun b u e g s => by
    have hb : b ≠ p := ne_of_none e h
    rw [upd_ne hb, upd_ne hb]; exact ⟨e, s, .inl g⟩
theorem Stp.newO (r : Rel K G H S) {p : Addr} {u : HO} {o : OO} (h : H p = none) (ro : RO K G (some u) o) : Stp K G H S G (upd H p u) (su S p o) where
  sg := fun _ _ e => e
  rel := {
    le := fun b w e => by
      have hb : b ≠ p := ne_of_none e (r.free h).1
      rw [upd_ne hb]; exact r.le b w e
    own := fun b w e => by
      by_cases hb : b = p
      · subst hb; rw [su_same] at e; cases e; rw [upd_same]; exact ⟨(r.free h).1, ro⟩
      · rw [su_ne hb] at e; rw [upd_ne hb]; exact r.own b w e }
  fr := fun b w e g s => by
    have hb : b ≠ p := ne_of_none e h
    rw [upd_ne hb, su_ne hb]; exact ⟨e, s, .inl g⟩
theorem Stp.mut (r : Rel K G H S) {p : Addr} {u : HO} {o o' : OO} (h : S p = some o) (ro : RO K G (some u) o') : Stp K G H S G (upd H p u) (su S p o') where
  sg := fun _ _ e => e
  rel := {
    le := fun b w e => by
      have hb : b ≠ p := fun z => by subst z; rw [(r.own _ _ h).1] at e; cases e
      rw [upd_ne hb]; exact r.le b w e
    own := fun b w e => by
      by_cases hb : b = p
      · subst hb; rw [su_same] at e; cases e; rw [upd_same]; exact ⟨(r.own _ _ h).1, ro⟩
      · rw [su_ne hb] at e; rw [upd_ne hb]; exact r.own b w e }
  fr := fun b w e g s => by
    have hb : b ≠ p := fun z => by subst z; rw [h] at s; cases s
    rw [upd_ne hb, su_ne hb]; exact ⟨e, s, .inl g⟩
theorem Stp.drop (r : Rel K G H S) {p : Addr} : Stp K G H S G H (sd S p) where
  sg := fun b w e => e
  rel := {
    le := r.le
    own := fun b w e => by
      by_cases hb : b = p
      · subst hb; rw [sd_same] at e; cases e
      · rw [sd_ne hb] at e; exact r.own b w e }
  fr := fun b w e g s => by
    refine ⟨e, ?_, .inl g⟩
    by_cases hb : b = p
    · subst hb; exact sd_same
    · rw [sd_ne hb]; exact s
theorem vwk_is {S : Sto} {x : D} {k : D → Prop} : vwk S x k = k (vw S x) := propext ⟨fun h => h.it, fun h => ⟨h⟩⟩
theorem vwk_of {S : Sto} {x d : D} {k : D → Prop} (h : vw S x = d) (q : k d) : vwk S x k := by rw [vwk_is, h]; exact q
theorem itk_is {α : Type} {xs : List α} {i : Int} {k : α → Prop} : itk xs i k = ∃ d, atI xs i = some d ∧ k d := propext ⟨fun h => h.it, fun h => ⟨h⟩⟩
theorem itk_of {α : Type} {xs : List α} {i : Int} {d : α} {k : α → Prop} (h : atI xs i = some d) (q : k d) : itk xs i k := by rw [itk_is]; exact ⟨d, h, q⟩
theorem brn_t {A B : Prop} : brn true A B = A := propext ⟨fun h => by have q := h.it; rwa [if_pos rfl] at q, fun h => ⟨by rw [if_pos rfl]; exact h⟩⟩
theorem brn_f {A B : Prop} : brn false A B = B := propext ⟨fun h => by have q := h.it; rwa [if_neg Bool.false_ne_true] at q, fun h => ⟨by rw [if_neg Bool.false_ne_true]; exact h⟩⟩
theorem brn_of {b : Bool} {A B : Prop} (h1 : b = true → A) (h2 : b = false → B) : brn b A B := by
  cases b
  · rw [brn_f]; exact h2 rfl
  · rw [brn_t]; exact h1 rfl
theorem vw_lst (r : Rel K G H S) {v : V} {d : D} {ds : List D} (h : Rp K G v d) (e : vw S d = .lst ds) : ∃ a vs, v = .ref a ∧ H a = some (.lst vs) ∧ Rps K G vs ds ∧ ds.length ≤ sizeLine := by
  cases h with
  | lst h q l => cases e; exact ⟨_, _, rfl, r.at h rfl, q, l⟩
  | adr a =>
    unfold vw at e
    cases q : S a with
    | none => simp [q] at e
    | some o =>
      cases o with
      | lst es =>
        simp [q] at e; subst e
        obtain ⟨vs, e1, e2, e3⟩ := (r.own a _ q).2
        exact ⟨a, vs, rfl, e1, e2, e3⟩
      | dT _ => simp [q] at e
      | ins _ _ => simp [q] at e
      | _ => simp [q] at e
  | _ => cases e
theorem vw_tup (r : Rel K G H S) {v : V} {d : D} {ds : List D} (h : Rp K G v d) (e : vw S d = .tup ds) : ∃ a vs, v = .ref a ∧ G a = some (.tup vs) ∧ H a = some (.tup vs) ∧ Rps K G vs ds ∧ ds.length ≤ sizeLine := by
  cases h with
  | tup h q l => cases e; exact ⟨_, _, rfl, h, r.at h rfl, q, l⟩
  | adr a =>
    unfold vw at e
    cases q : S a with
    | none => simp [q] at e
    | some o => cases o <;> simp [q] at e
  | _ => cases e
theorem vw_dT (r : Rel K G H S) {v : V} {d : D} {ds : List (List Key × D)} (h : Rp K G v d) (e : vw S d = .dT ds) : ∃ a vs, v = .ref a ∧ Rd H a (.dT vs) ∧ Rkv K G vs ds := by
  cases h with
  | dT h q => cases e; exact ⟨_, _, rfl, r.rd h, q⟩
  | adr a =>
    unfold vw at e
    cases q : S a with
    | none => simp [q] at e
    | some o =>
      cases o with
      | dT es =>
        simp [q] at e; subst e
        obtain ⟨vs, e1, e2⟩ := (r.own a _ q).2
        exact ⟨a, vs, rfl, .inl e1, e2⟩
      | dF od vs es =>
        simp [q] at e; subst e
        obtain ⟨e1, e2⟩ := (r.own a _ q).2
        exact ⟨a, vs, rfl, .inr ⟨od, e1⟩, e2⟩
      | _ => simp [q] at e
  | _ => cases e
theorem vw_scal {v : V} {d : D} (h : Rp K G v d) : (∀ b, vw S d = .bl b → v = .bl b) ∧ (∀ i, vw S d = .int i → v = .int i) ∧ (∀ s, vw S d = .str s → v = .str s ∧ okS s) ∧ (vw S d = .non → v = .non) ∧ (∀ s, vw S d = .ty s → v = .ty s) := by
  cases h with
  | adr a =>
    unfold vw
    cases q : S a with
    | none => simp [q]
    | some o => cases o <;> simp [q]
  | str h => simp only [vw]; exact ⟨(fun _ e => nomatch e), (fun _ e => nomatch e), (fun s e => by cases e; exact ⟨rfl, h⟩), (fun e => nomatch e), (fun _ e => nomatch e)⟩
  | _ => simp [vw]
end SM
namespace SM
open PySem PySem.Spec PyProof.Rows L2
abbrev R2D := D → D → Sto → DQ → Prop
abbrev RCD := List D → Sto → DQ → Prop
variable {K : PySem.W.Frag} {G G' G2 H H' H2 : Hp} {S S' S2 : Sto}
def lift2 (K : PySem.W.Frag) (r : R2D) : R2 := fun x y H Q => ∃ G S dx dy QD, Rel K G H S ∧ Rp K G x dx ∧ Rp K G y dy ∧ r dx dy S QD ∧ ∀ G' H' S' v d, Stp K G H S G' H' S' → Rp K G' v d → QD d S' → Q v H'
def liftC (K : PySem.W.Frag) (r : RCD) : List V → Hp → VK → Prop := fun vs H Q => ∃ G S ds QD, Rel K G H S ∧ Rps K G vs ds ∧ r ds S QD ∧ ∀ G' H' S' v d, Stp K G H S G' H' S' → Rp K G' v d → QD d S' → Q v H'
def liftM (K : PySem.W.Frag) (r : RCD) : V → List V → Hp → VK → Prop := fun x vs H Q => liftC K r (x :: vs) H Q
section
variable {X : Cx} {e a b c : Expr} {es : List Expr} {st : Stmt} {sts : List Stmt} {pos : Pos} {W : WX}
theorem PE.weak {t t' : TE} (h : PE X e t) (w : ∀ σ H Q, t' σ H Q → t σ H Q) : PE X e t' := ⟨fun pins s σ H Q I q => h.run pins s σ H Q I (w σ H Q q)⟩
theorem PT.weak {t t' : TT} (h : PT X e t) (w : ∀ σ H Q, t' σ H Q → t σ H Q) : PT X e t' := ⟨fun pins s σ H Q I q => h.run pins s σ H Q I (w σ H Q q)⟩
theorem PW.weak {t t' : TT} (h : PW X e t) (w : ∀ σ H Q, t' σ H Q → t σ H Q) : PW X e t' := ⟨fun wh pins s σ H Q I q => h.run wh pins s σ H Q I (w σ H Q q)⟩
theorem PA.weak {t t' : TA} (h : PA X es t) (w : ∀ σ H Q, t' σ H Q → t σ H Q) : PA X es t' := ⟨fun p pins s σ H Q I q => h.run p pins s σ H Q I (w σ H Q q)⟩
theorem PS.weak {t t' : TS} (h : PS X st t) (w : ∀ D σ H, t' D σ H → t D σ H) : PS X st t' := ⟨fun pins s σ H D I q => h.run pins s σ H D I (w D σ H q)⟩
theorem PSs.weak {t t' : TS} (h : PSs X sts t) (w : ∀ D σ H, t' D σ H → t D σ H) : PSs X sts t' := ⟨fun pins s σ H D I q => h.run pins s σ H D I (w D σ H q)⟩
theorem PI.weak {tg : Expr} {t t' : TI} (h : PI X tg e t) (w : ∀ σ H R, t' σ H R → t σ H R) : PI X tg e t' := ⟨fun pins s σ H R I q => h.run pins s σ H R I (w σ H R q)⟩
theorem PG.weak {g g' : TG} (h : PG X e g) (w : ∀ v σ H Q, g' v σ H Q → g v σ H Q) : PG X e g' := ⟨fun pins s σ H v u Q I r q => h.run pins s σ H v u Q I r (w v σ H Q q)⟩
theorem PGs.weak {g g' : TGs} (h : PGs X es g) (w : ∀ v σ H Q, g' v σ H Q → g v σ H Q) : PGs X es g' := ⟨fun pins s σ H v u Q I r q => h.run pins s σ H v u Q I r (w v σ H Q q)⟩
theorem OpR.weak {f : Value → Value → Sem Value} {r r' : R2} (h : OpR X f r) (w : ∀ x y H Q, r' x y H Q → r x y H Q) : OpR X f r' := fun pins s σ H x y v u Q I r1 r2 q => h pins s σ H x y v u Q I r1 r2 (w x y H Q q)
theorem OpR.or {f : Value → Value → Sem Value} {r r' : R2} (h : OpR X f r) (h' : OpR X f r') : OpR X f (fun x y H Q => r x y H Q ∨ r' x y H Q) := fun pins s σ H x y v u Q I r1 r2 q => q.elim (h pins s σ H x y v u Q I r1 r2) (h' pins s σ H x y v u Q I r1 r2)
theorem CallR.weak {f : Value} {r r' : List V → Hp → VK → Prop} (h : CallR X f r) (w : ∀ x H Q, r' x H Q → r x H Q) : CallR X f r' := fun pins s σ H xs us Q I r1 q => h pins s σ H xs us Q I r1 (w xs H Q q)
theorem CallR.or {f : Value} {r r' : List V → Hp → VK → Prop} (h : CallR X f r) (h' : CallR X f r') : CallR X f (fun x H Q => r x H Q ∨ r' x H Q) := fun pins s σ H xs us Q I r1 q => q.elim (h pins s σ H xs us Q I r1) (h' pins s σ H xs us Q I r1)
theorem IxR.weak {r r' : R2} (h : IxR X r) (w : ∀ x y H Q, r' x y H Q → r x y H Q) : IxR X r' := fun vl sl pins s σ H x y v u Q I r1 r2 q z => h vl sl pins s σ H x y v u Q I r1 r2 (w x y H Q q) z
theorem IxR.or {r r' : R2} (h : IxR X r) (h' : IxR X r') : IxR X (fun x y H Q => r x y H Q ∨ r' x y H Q) := fun vl sl pins s σ H x y v u Q I r1 r2 q z => q.elim (fun q => h vl sl pins s σ H x y v u Q I r1 r2 q z) (fun q => h' vl sl pins s σ H x y v u Q I r1 r2 q z)
theorem PE.or {t t' : TE} (h : PE X e t) (h' : PE X e t') : PE X e (fun σ H Q => t σ H Q ∨ t' σ H Q) := ⟨fun pins s σ H Q I q => q.elim (h.run pins s σ H Q I) (h'.run pins s σ H Q I)⟩
theorem KX.step {σ : L2.St} {XD : XQ} (k : KX K W σ G H S XD) (s : Stp K G H S G' H' S') : KX K W σ G' H' S' XD := fun G2 H2 S2 cls d x st r q => k G2 H2 S2 cls d x (s.trans st) r q
theorem ER.step {E : DEnds} {D : Ends} (k : ER K W G H S E D) (s : Stp K G H S G' H' S') : ER K W G' H' S' E D :=
  ⟨fun G2 H2 S2 σ δ st r q => k.nx G2 H2 S2 σ δ (s.trans st) r q, fun G2 H2 S2 v d st r q => k.rt G2 H2 S2 v d (s.trans st) r q, fun G2 H2 S2 σ δ st r q => k.bk G2 H2 S2 σ δ (s.trans st) r q, fun G2 H2 S2 σ δ st r q => k.ct G2 H2 S2 σ δ (s.trans st) r q, fun G2 H2 S2 σ δ cls d x st re r q => k.xc G2 H2 S2 σ δ cls d x (s.trans st) re r q⟩
def dVar (i : Nat) : DTE := fun δ S Q _ => match nth δ i with
  | some d => Q d S
  | none => False
def dC (d : D) : DTE := fun _ S Q _ => Q d S
theorem sim_var {i : Nat} : ∀ σ H Q, liftE K W (dVar i) σ H Q → tVar i σ H Q := by
  rintro σ H Q ⟨G, δ, S, QD, XD, re, rl, h, kq, kx⟩
  unfold dVar at h
  cases e : nth δ i with
  | none => rw [e] at h; exact h.elim
  | some d =>
    rw [e] at h
    obtain ⟨v, h1, h2⟩ := re.at_ i d e
    exact ⟨v, h1, kq G H S v d (Stp.refl rl) h2 h⟩
theorem dv (i : Nat) {x : Str} {pos : Pos} (hN : X.N[i]? = some x := by rfl) (hv : Vis X.env.scope x := by first | exact Or.inl rfl | exact Or.inr (Or.inl rfl) | exact Or.inr (Or.inr rfl)) (hd : (x == ("__debug__" : Str)) = false := by decide)
    (hcd : (x == ("__classdict__" : Str)) = false := by decide) : PD X (.Name x pos) (dVar i) := ⟨fun W _ => PE.weak (pe_var hN hv hd hcd) sim_var⟩
theorem sim_c {v : V} {d : D} (r : ∀ G, Rp K G v d) : ∀ σ H Q, liftE K W (dC d) σ H Q → tC v σ H Q := by
  rintro σ H Q ⟨G, δ, S, QD, XD, re, rl, h, kq, kx⟩
  exact kq G H S v d (Stp.refl rl) (r G) h
theorem de_int {i j pos} : PD X (.Constant (.int i) j pos) (dC (.int i)) := ⟨fun W _ => PE.weak pe_int (sim_c fun _ => .int i)⟩
theorem de_bl {i j pos} : PD X (.Constant (.bool i) j pos) (dC (.bl i)) := ⟨fun W _ => PE.weak pe_bl (sim_c fun _ => .bl i)⟩
theorem de_str {x : Str} {j pos} (h : okS x := by decide +kernel) : PD X (.Constant (.str x) j pos) (dC (.str x)) := ⟨fun W _ => PE.weak pe_str (sim_c fun _ => .str h)⟩
def dOp (r : R2D) (ta tb : DTE) : DTE := fun δ S Q X => ta δ S (fun x S1 => tb δ S1 (fun y S2 => r x y S2 Q) X) X
theorem sim_op {r : R2D} {ta tb : DTE} : ∀ σ H Q, liftE K W (dOp r ta tb) σ H Q → tOp (lift2 K r) (liftE K W ta) (liftE K W tb) σ H Q := by
  rintro σ H Q ⟨G, δ, S, QD, XD, re, rl, h, kq, kx⟩
  exact ⟨G, δ, S, _, XD, re, rl, h, fun G1 H1 S1 x dx s1 rx q => ⟨G1, δ, S1, _, XD, re.mono s1.sg, s1.rel, q, fun G2 H2 S2 y dy s2 ry q2 =>
    ⟨G2, S2, dx, dy, QD, s2.rel, rx.mono s2.sg, ry, q2, fun G3 H3 S3 v d s3 rv q3 => kq G3 H3 S3 v d ((s1.trans s2).trans s3) rv q3⟩, kx.step s1⟩, kx⟩
theorem de_op {op : Operator} {r : R2D} {ta tb : DTE} (ho : OpR X (binaryOp op) (lift2 X.K r)) (ha : PD X a ta) (hb : PD X b tb) : PD X (.BinOp a op b pos) (dOp r ta tb) := ⟨fun W tk => PE.weak (pe_op ho (ha.run W tk) (hb.run W tk)) sim_op⟩
theorem de_cmp {op : CmpOp} {r : R2D} {ta tb : DTE} (ho : OpR X (compareOp op) (lift2 X.K r)) (ha : PD X a ta) (hb : PD X b tb) (hm : behindInMarks op b = false := by rfl) : PD X (.Compare a [op] [b] pos) (dOp r ta tb) := ⟨fun W tk => PE.weak (pe_cmpR ho (ha.run W tk) (hb.run W tk) hm) sim_op⟩
def oInt (C : Int → Int → Prop) (g : Int → Int → D) : R2D := fun x y S Q => match x, y with
  | .int i, .int j => C i j ∧ Q (g i j) S
  | _, _ => False
def oInt0 (g : Int → Int → D) : R2D := fun x y S Q => match x, y with
  | .int i, .int j => Q (g i j) S
  | _, _ => False
theorem sim_int {C : Int → Int → Prop} {g : Int → Int → V} {gd : Int → Int → D} (hg : ∀ G i j, Rp K G (g i j) (gd i j)) : ∀ x y H Q, lift2 K (oInt C gd) x y H Q → rI C g x y H Q := by
  rintro x y H Q ⟨G, S, dx, dy, QD, rl, rx, ry, h, kq⟩
  cases rx with
  | int i => cases ry with
    | int j => exact ⟨i, j, rfl, rfl, h.1, kq G H S _ _ (Stp.refl rl) (hg G i j) h.2⟩
    | _ => exact h.elim
  | _ => exact h.elim
theorem sim_int0 {g : Int → Int → V} {gd : Int → Int → D} (hg : ∀ G i j, Rp K G (g i j) (gd i j)) : ∀ x y H Q, lift2 K (oInt0 gd) x y H Q → rI0 g x y H Q := by
  rintro x y H Q ⟨G, S, dx, dy, QD, rl, rx, ry, h, kq⟩
  cases rx with
  | int i => cases ry with
    | int j => exact ⟨i, j, rfl, rfl, kq G H S _ _ (Stp.refl rl) (hg G i j) h⟩
    | _ => exact h.elim
  | _ => exact h.elim
theorem o_sub : OpR X (binaryOp .Sub) (lift2 X.K (oInt0 fun i j => .int (i - j))) := OpR.weak op_sub (sim_int0 fun _ _ _ => .int _)
theorem o_fdiv : OpR X (binaryOp .FloorDiv) (lift2 X.K (oInt (fun _ j => 0 < j ∧ j < 1073741824) fun i j => .int (i / j))) := OpR.weak op_fdiv (sim_int fun _ _ _ => .int _)
theorem o_mod : OpR X (binaryOp .Mod) (lift2 X.K (oInt (fun _ j => 0 < j) fun i j => .int (i % j))) := OpR.weak op_mod (sim_int fun _ _ _ => .int _)
theorem o_pow : OpR X (binaryOp .Pow) (lift2 X.K (oInt (fun i j => 0 ≤ j ∧ j ≤ 1000000 ∧ i.natAbs < 2 ^ 64) fun i j => .int (i ^ j.toNat))) := OpR.weak op_pow (sim_int fun _ _ _ => .int _)
theorem o_lt : OpR X (compareOp .Lt) (lift2 X.K (oInt0 fun i j => .bl (decide (i < j)))) := OpR.weak op_lt (sim_int0 fun _ _ _ => .bl _)
theorem o_gt : OpR X (compareOp .Gt) (lift2 X.K (oInt0 fun i j => .bl (decide (j < i)))) := OpR.weak op_gt (sim_int0 fun _ _ _ => .bl _)
theorem o_ge : OpR X (compareOp .GtE) (lift2 X.K (oInt0 fun i j => .bl (decide (j ≤ i)))) := OpR.weak op_ge (sim_int0 fun _ _ _ => .bl _)
end
end SM
namespace SM
open PySem PySem.Spec PyProof.Rows L2
variable {K : PySem.W.Frag} {G G' G2 H H' H2 : Hp} {S S' S2 : Sto}
theorem plns_all (n : Nat) (ds : List D) : plns n ds = ds.all (pln n) := by
  induction ds with
  | nil => rfl
  | cons d r ih => rw [plns, ih]; rfl
theorem dp_vw (r : Rel K G H S) {n : Nat} {d : D} {v : V} (h : Rp K G v d) (e : pln (n + 1) (vw S d) = true) : Dp K H v (toP (vw S d)) ∧ PyData.canLay0 (toP (vw S d)) = true ∧ (toP (vw S d)).depth ≤ n + 1 := by
  cases q : vw S d with
  | lst ds =>
    rw [q] at e
    obtain ⟨a, vs, rfl, h1, h2, h3⟩ := vw_lst r h q
    obtain ⟨x, b, c⟩ := dps_of r n _ _ h2 (by simpa [pln] using e)
    exact ⟨.lst (SqL.of h1) x, by simpa [toP, PyData.canLay0] using b, by simp only [toP, PyData.depth]; omega⟩
  | tup ds =>
    rw [q] at e
    obtain ⟨a, vs, rfl, h0, h1, h2, h3⟩ := vw_tup r h q
    obtain ⟨x, b, c⟩ := dps_of r n _ _ h2 (by simpa [pln] using e)
    exact ⟨.tup (SqT.of h1) x, by simpa [toP, PyData.canLay0] using b, by simp only [toP, PyData.depth]; omega⟩
  | non => obtain ⟨_, _, _, z, _⟩ := vw_scal (S := S) h; rw [z q]; exact ⟨.non, rfl, by simp [toP, PyData.depth]⟩
  | bl b => obtain ⟨z, _, _, _, _⟩ := vw_scal (S := S) h; rw [z _ q]; exact ⟨.bl _, rfl, by simp [toP, PyData.depth]⟩
  | int b => obtain ⟨_, z, _, _, _⟩ := vw_scal (S := S) h; rw [z _ q]; exact ⟨.int _, rfl, by simp [toP, PyData.depth]⟩
  | str b => obtain ⟨_, _, z, _, _⟩ := vw_scal (S := S) h; obtain ⟨z1, z2⟩ := z _ q; rw [z1]; exact ⟨.str _, by simp [toP, PyData.canLay0, z2.2], by simp [toP, PyData.depth]⟩
  | _ => rw [q] at e; simp [pln] at e
def eqB : D → D → Bool
  | .int i, .int j => decide (i = j)
  | .str i, .str j => decide (i = j)
  | .bl i, .bl j => decide (i = j)
  | .non, .non => true
  | x, y => PyData.eqv (toP x) (toP y)
theorem eqB_eq (x y : D) (hx : pln 9 x = true) (hy : pln 9 y = true) : eqB x y = PyData.eqv (toP x) (toP y) := by
  cases x <;> cases y <;> first | rfl | (simp only [eqB, toP, PyData.eqv]; first | rfl | (rw [Bool.eq_iff_iff]; simp))
def oEq : R2D := fun x y S Q => vwk S x fun x' => vwk S y fun y' => (pln 9 x' && pln 9 y') = true ∧ Q (.bl (eqB x' y')) S
def oNe : R2D := fun x y S Q => vwk S x fun x' => vwk S y fun y' => (pln 9 x' && pln 9 y') = true ∧ Q (.bl (!eqB x' y')) S
section
variable {X : Cx} {e a b c : Expr} {es : List Expr} {st : Stmt} {sts : List Stmt} {pos : Pos} {W : WX} {k : Nat}
theorem o_eq (hr : Room k X.A) : OpR X (compareOp .Eq) (lift2 X.K oEq) := OpR.weak (op_eqD hr.units) (by
  rintro x y H Q ⟨G, S, dx, dy, QD, rl, rx, ry, hh, kq⟩
  obtain ⟨h, q⟩ : (pln 9 (vw S dx) && pln 9 (vw S dy)) = true ∧ _ := by simpa only [oEq, oNe, vwk_is] using hh
  rw [Bool.and_eq_true] at h
  obtain ⟨a1, a2, a3⟩ := dp_vw rl rx h.1
  obtain ⟨b1, b2, b3⟩ := dp_vw rl ry h.2
  refine ⟨_, _, a1, b1, by simp [SeqAt.shaped, a2]; omega, by simp [SeqAt.shaped, b2]; omega, ?_⟩
  rw [← eqB_eq _ _ h.1 h.2]
  exact kq _ _ _ _ _ (Stp.refl rl) (.bl _) q)
theorem o_ne (hr : Room k X.A) : OpR X (compareOp .NotEq) (lift2 X.K oNe) := OpR.weak (op_neD hr.units) (by
  rintro x y H Q ⟨G, S, dx, dy, QD, rl, rx, ry, hh, kq⟩
  obtain ⟨h, q⟩ : (pln 9 (vw S dx) && pln 9 (vw S dy)) = true ∧ _ := by simpa only [oEq, oNe, vwk_is] using hh
  rw [Bool.and_eq_true] at h
  obtain ⟨a1, a2, a3⟩ := dp_vw rl rx h.1
  obtain ⟨b1, b2, b3⟩ := dp_vw rl ry h.2
  refine ⟨_, _, a1, b1, by simp [SeqAt.shaped, a2]; omega, by simp [SeqAt.shaped, b2]; omega, ?_⟩
  rw [← eqB_eq _ _ h.1 h.2]
  exact kq _ _ _ _ _ (Stp.refl rl) (.bl _) q)
end
end SM
namespace SM
open PySem PySem.Spec PyProof.Rows L2
variable {K : PySem.W.Frag} {G G' G2 H H' H2 : Hp} {S S' S2 : Sto}
section
variable {X : Cx} {e a b c : Expr} {es : List Expr} {st : Stmt} {sts : List Stmt} {pos : Pos} {W : WX} {k : Nat}
theorem str_append {x y : Str} (hx : okS x) (hy : okS y) (h : x.length + y.length ≤ sizeLine) : okS (x ++ y) := by
  have e : (x ++ y) = ⟨x.cps ++ y.cps⟩ := rfl
  refine ⟨?_, ?_⟩
  · show (x.cps ++ y.cps).size ≤ sizeLine
    rw [Array.size_append]; exact h
  · rw [e]
    have h1 := hx.2
    have h2 := hy.2
    unfold PyData.strOk at h1 h2 ⊢
    simp only [Array.all_append, h1, h2, Bool.and_self]
theorem fz_lst (rl : Rel K G H S) {p : Addr} {vs : List V} {ds : List D} (hp : H p = none) (r : Rps K G vs ds) (hl : ds.length ≤ sizeLine) : Stp K G H S (upd G p (.lst vs)) (upd H p (.lst vs)) S ∧ Rp K (upd G p (.lst vs)) (.ref p) (.lst ds) :=
  ⟨Stp.newF rl hp, .lst upd_same (r.mono (Stp.newF (o := .lst vs) rl hp).sg) hl⟩
theorem fz_tup (rl : Rel K G H S) {p : Addr} {vs : List V} {ds : List D} (hp : H p = none) (r : Rps K G vs ds) (hl : ds.length ≤ sizeLine) : Stp K G H S (upd G p (.tup vs)) (upd H p (.tup vs)) S ∧ Rp K (upd G p (.tup vs)) (.ref p) (.tup ds) :=
  ⟨Stp.newF rl hp, .tup upd_same (r.mono (Stp.newF (o := .tup vs) rl hp).sg) hl⟩
theorem ow_lst (rl : Rel K G H S) {p : Addr} {vs : List V} {ds : List D} (hp : H p = none) (r : Rps K G vs ds) (hl : ds.length ≤ sizeLine) : Stp K G H S G (upd H p (.lst vs)) (su S p (.lst ds)) := Stp.newO rl hp ⟨vs, rfl, r, hl⟩
def oAdd : R2D := fun x y S Q => vwk S x fun x' => vwk S y fun y' => match x', y' with
  | .int i, .int j => Q (.int (i + j)) S
  | .str i, .str j => i.length + j.length ≤ sizeLine ∧ Q (.str (i ++ j)) S
  | .lst i, .lst j => i.length + j.length ≤ sizeLine ∧ Q (.lst (i ++ j)) S
  | _, _ => False
theorem o_add : OpR X (binaryOp .Add) (lift2 X.K oAdd) := OpR.weak (OpR.or op_add (OpR.or op_add_str op_cat)) (by
  rintro x y H Q ⟨G, S, dx, dy, QD, rl, rx, ry, h, kq⟩
  simp only [oAdd, vwk_is] at h
  split at h
  · rename_i i j ex ey
    rw [(vw_scal rx).2.1 _ ex, (vw_scal ry).2.1 _ ey]
    exact .inl ⟨i, j, rfl, rfl, kq _ _ _ _ _ (Stp.refl rl) (.int _) h⟩
  · rename_i i j ex ey
    obtain ⟨hx, ox⟩ := (vw_scal rx).2.2.1 _ ex
    obtain ⟨hy, oy⟩ := (vw_scal ry).2.2.1 _ ey
    rw [hx, hy]
    exact .inr (.inl ⟨i, j, rfl, rfl, h.1, kq _ _ _ _ _ (Stp.refl rl) (.str (str_append ox oy h.1)) h.2⟩)
  · rename_i i j ex ey
    obtain ⟨p, vs, rfl, hp, rv, lv⟩ := vw_lst rl rx ex
    obtain ⟨q, us, rfl, hq, ru, lu⟩ := vw_lst rl ry ey
    refine .inr (.inr ⟨p, q, vs, us, rfl, rfl, hp, hq, by rw [rv.length, ru.length]; exact h.1, fun z hz => ?_⟩)
    obtain ⟨s1, r1⟩ := fz_lst rl hz (rv.append ru) (by rw [List.length_append]; exact h.1)
    exact kq _ _ _ _ _ s1 r1 h.2
  · exact h.elim)
def oMul : R2D := fun x y S Q => vwk S x fun x' => match x', y with
  | .int i, .int j => ((-(2 ^ 64) < i ∧ i < 2 ^ 64) ∨ (-(2 ^ 64) < j ∧ j < 2 ^ 64)) ∧ Q (.int (i * j)) S
  | .lst ds, .int j => (0 ≤ j ∧ j < 2 ^ 63 ∧ ds.length * j.toNat ≤ sizeLine) ∧ Q (.lst (List.replicate j.toNat ds).flatten) S
  | _, _ => False
theorem Rps.rep {vs : List V} {ds : List D} (r : Rps K G vs ds) : ∀ n : Nat, Rps K G (List.replicate n vs).flatten (List.replicate n ds).flatten
  | 0 => .nil
  | n + 1 => by
    rw [List.replicate_succ, List.replicate_succ, List.flatten_cons, List.flatten_cons]
    exact r.append (r.rep n)
theorem rep_len {α : Type} (l : List α) (n : Nat) : (List.replicate n l).flatten.length = l.length * n := by
  induction n with
  | zero => rfl
  | succ n ih => rw [List.replicate_succ, List.flatten_cons, List.length_append, ih, Nat.mul_succ]; omega
theorem o_mul : OpR X (binaryOp .Mult) (lift2 X.K oMul) := OpR.weak (OpR.or op_mul op_rep) (by
  rintro x y H Q ⟨G, S, dx, dy, QD, rl, rx, ry, h, kq⟩
  simp only [oMul, vwk_is] at h
  split at h
  · rename_i i j ex
    rw [(vw_scal rx).2.1 _ ex]
    cases ry
    exact .inl ⟨i, j, rfl, rfl, h.1, kq _ _ _ _ _ (Stp.refl rl) (.int _) h.2⟩
  · rename_i ds j ex
    obtain ⟨p, vs, rfl, hp, rv, lv⟩ := vw_lst rl rx ex
    cases ry
    obtain ⟨⟨h1, h2, h3⟩, h4⟩ := h
    refine .inr ⟨p, j, vs, rfl, rfl, hp, by omega, h2, by rw [rv.length]; exact h3, fun z hz => ?_⟩
    obtain ⟨s1, r1⟩ := fz_lst rl hz (rv.rep j.toNat) (by rw [rep_len]; exact h3)
    exact kq _ _ _ _ _ s1 r1 h4
  · exact h.elim)
def dNil : DTA := fun _ S Q _ => Q [] S
def dCons (ta : DTE) (tr : DTA) : DTA := fun δ S Q X => ta δ S (fun x S1 => tr δ S1 (fun xs S2 => Q (x :: xs) S2) X) X
theorem da_nil : PDA X [] dNil := ⟨fun W tk => PA.weak pa_nil (by
  rintro σ H Q ⟨G, δ, S, QD, XD, re, rl, h, kq, kx⟩
  exact kq _ _ _ _ _ (Stp.refl rl) .nil h)⟩
theorem da_cons {ta : DTE} {tr : DTA} (ha : PD X e ta) (hr : PDA X es tr) (hs : starEach (e :: es) X.env = (false, eval e X.env) :: starEach es X.env := by rfl) : PDA X (e :: es) (dCons ta tr) := ⟨fun W tk => PA.weak (pa_cons (ha.run W tk) (hr.run W tk) hs) (by
  rintro σ H Q ⟨G, δ, S, QD, XD, re, rl, h, kq, kx⟩
  exact ⟨G, δ, S, _, XD, re, rl, h, fun G1 H1 S1 x dx s1 rx q => ⟨G1, δ, S1, _, XD, re.mono s1.sg, s1.rel, q, fun G2 H2 S2 xs ds s2 rs q2 =>
    kq _ _ _ _ _ (s1.trans s2) (.cons (rx.mono s2.sg) rs) q2, kx.step s1⟩, kx⟩)⟩
def few (xs : List D) (P : Prop) : Prop := match Nat.ble xs.length 1000 with
  | true => P
  | false => False
theorem few_of {xs : List D} {P : Prop} (h : few xs P) : xs.length ≤ sizeLine ∧ P := by
  unfold few at h
  cases q : Nat.ble xs.length 1000 with
  | false => rw [q] at h; exact h.elim
  | true => rw [q] at h; exact ⟨Nat.le_trans (Nat.le_of_ble_eq_true q) (by decide), h⟩
def dTup (t : DTA) : DTE := fun δ S Q X => t δ S (fun xs S1 => few xs (Q (.tup xs) S1)) X
def dLst (t : DTA) : DTE := fun δ S Q X => t δ S (fun xs S1 => few xs (Q (.lst xs) S1)) X
def dLstO (t : DTA) : DTE := fun δ S Q X => t δ S (fun xs S1 => few xs (∀ p, S1 p = none → Q (.adr p) (su S1 p (.lst xs)))) X
theorem de_tup {x1} {t : DTA} (h : PDA X es t) : PD X (.Tuple es x1 pos) (dTup t) := ⟨fun W tk => PE.weak (pe_tup (h.run W tk)) (by
  rintro σ H Q ⟨G, δ, S, QD, XD, re, rl, h, kq, kx⟩
  refine ⟨G, δ, S, _, XD, re, rl, h, fun G1 H1 S1 xs ds s1 rs q => ?_, kx⟩
  obtain ⟨l, q⟩ := few_of q
  refine ⟨by rw [rs.length]; exact l, fun p hp => ?_⟩
  obtain ⟨s2, r2⟩ := fz_tup s1.rel hp rs l
  exact kq _ _ _ _ _ (s1.trans s2) r2 q)⟩
theorem de_lst {t : DTA} (h : PDA X es t) : PD X (.List es pos) (dLst t) := ⟨fun W tk => PE.weak (pe_lst (h.run W tk)) (by
  rintro σ H Q ⟨G, δ, S, QD, XD, re, rl, h, kq, kx⟩
  refine ⟨G, δ, S, _, XD, re, rl, h, fun G1 H1 S1 xs ds s1 rs q => ?_, kx⟩
  obtain ⟨l, q⟩ := few_of q
  refine ⟨by rw [rs.length]; exact l, fun p hp => ?_⟩
  obtain ⟨s2, r2⟩ := fz_lst s1.rel hp rs l
  exact kq _ _ _ _ _ (s1.trans s2) r2 q)⟩
theorem de_lstO {t : DTA} (h : PDA X es t) : PD X (.List es pos) (dLstO t) := ⟨fun W tk => PE.weak (pe_lst (h.run W tk)) (by
  rintro σ H Q ⟨G, δ, S, QD, XD, re, rl, h, kq, kx⟩
  refine ⟨G, δ, S, _, XD, re, rl, h, fun G1 H1 S1 xs ds s1 rs q => ?_, kx⟩
  obtain ⟨l, q⟩ := few_of q
  refine ⟨by rw [rs.length]; exact l, fun p hp => ?_⟩
  exact kq _ _ _ _ _ (s1.trans (ow_lst s1.rel hp rs l)) (.adr p) (q p (s1.rel.free hp).2))⟩
def oTru (d : D) (S : Sto) (Q : Bool → Sto → Prop) : Prop := vwk S d fun d' => match d' with
  | .bl b => Q b S
  | .int i => Q (decide (i ≠ 0)) S
  | .str s => Q (decide (s.length ≠ 0)) S
  | .lst ds => Q (!ds.isEmpty) S
  | .tup ds => Q (!ds.isEmpty) S
  | .non => Q false S
  | _ => False
def dTru (t : DTE) : DTT := fun δ S Q X => t δ S (fun x S1 => oTru x S1 Q) X
theorem emp_len {vs : List V} {ds : List D} (r : Rps K G vs ds) : (!vs.isEmpty) = !ds.isEmpty := by cases r <;> rfl
theorem dt_val {t : DTE} (h : PD X a t) (he : ∀ whole, isTrue a X.env whole = (do let v ← whole; standAt a.pos; holding [v] (truthy v)) := by intro _; rfl) : PDT X a (dTru t) := ⟨fun W tk => PT.weak (pt_truth (h.run W tk) he) (by
  rintro σ H Q ⟨G, δ, S, QD, XD, re, rl, h, kq, kx⟩
  refine ⟨G, δ, S, _, XD, re, rl, h, fun G1 H1 S1 x d s1 rx q => ?_, kx⟩
  simp only [oTru, vwk_is] at q
  split at q
  · rename_i b ex; rw [(vw_scal rx).1 _ ex]; exact ⟨b, rfl, kq _ _ _ _ s1 q⟩
  · rename_i i ex
    rw [(vw_scal rx).2.1 _ ex]
    refine ⟨_, rfl, ?_⟩
    have e : (i != 0) = decide (i ≠ 0) := by rw [Bool.eq_iff_iff]; simp
    rw [e]
    exact kq _ _ _ _ s1 q
  · rename_i z ex
    obtain ⟨h1, h2⟩ := (vw_scal rx).2.2.1 _ ex
    rw [h1]
    refine ⟨_, ⟨h2.1, rfl⟩, ?_⟩
    have e : ((z.length : Int) != 0) = decide (z.length ≠ 0) := by
      rw [Bool.eq_iff_iff]; simp
    rw [e]; exact kq _ _ _ _ s1 q
  · rename_i ds ex
    obtain ⟨p, vs, rfl, hp, rv, _⟩ := vw_lst s1.rel rx ex
    exact ⟨_, .inl ⟨vs, SqL.of hp, rfl⟩, by rw [emp_len rv]; exact kq _ _ _ _ s1 q⟩
  · rename_i ds ex
    obtain ⟨p, vs, rfl, _, hp, rv, _⟩ := vw_tup s1.rel rx ex
    exact ⟨_, .inr (.inl ⟨vs, SqT.of hp, rfl⟩), by rw [emp_len rv]; exact kq _ _ _ _ s1 q⟩
  · rename_i ex
    rw [(vw_scal rx).2.2.2.1 ex]
    exact ⟨false, rfl, kq _ _ _ _ s1 q⟩
  · exact q.elim)⟩
def dNot (t : DTT) : DTT := fun δ S Q X => t δ S (fun b S1 => Q (!b) S1) X
def dAnd (t u : DTT) : DTT := fun δ S Q X => t δ S (fun b S1 => brn b (u δ S1 Q X) (Q false S1)) X
def dOr (t u : DTT) : DTT := fun δ S Q X => t δ S (fun b S1 => brn b (Q true S1) (u δ S1 Q X)) X
theorem dt_not {t : DTT} (h : PDT X a t) : PDT X (.UnaryOp .Not a pos) (dNot t) := ⟨fun W tk => PT.weak (pt_not (h.run W tk)) (by
  rintro σ H Q ⟨G, δ, S, QD, XD, re, rl, h, kq, kx⟩
  exact ⟨G, δ, S, _, XD, re, rl, h, fun G1 H1 S1 b s1 q => kq _ _ _ _ s1 q, kx⟩)⟩
theorem sim_and {t u : DTT} : ∀ σ H Q, liftT K W (dAnd t u) σ H Q → tAnd (liftT K W t) (liftT K W u) σ H Q := by
  rintro σ H Q ⟨G, δ, S, QD, XD, re, rl, h, kq, kx⟩
  refine ⟨G, δ, S, _, XD, re, rl, h, fun G1 H1 S1 b s1 q => ?_, kx⟩
  cases b with
  | true => rw [brn_t] at q; rw [if_pos rfl]; exact ⟨G1, δ, S1, QD, XD, re.mono s1.sg, s1.rel, q, fun G2 H2 S2 b s2 q2 => kq _ _ _ _ (s1.trans s2) q2, kx.step s1⟩
  | false => rw [brn_f] at q; rw [if_neg Bool.false_ne_true]; exact kq _ _ _ _ s1 q
theorem sim_or {t u : DTT} : ∀ σ H Q, liftT K W (dOr t u) σ H Q → tOr (liftT K W t) (liftT K W u) σ H Q := by
  rintro σ H Q ⟨G, δ, S, QD, XD, re, rl, h, kq, kx⟩
  refine ⟨G, δ, S, _, XD, re, rl, h, fun G1 H1 S1 b s1 q => ?_, kx⟩
  cases b with
  | false => rw [brn_f] at q; rw [if_neg Bool.false_ne_true]; exact ⟨G1, δ, S1, QD, XD, re.mono s1.sg, s1.rel, q, fun G2 H2 S2 b s2 q2 => kq _ _ _ _ (s1.trans s2) q2, kx.step s1⟩
  | true => rw [brn_t] at q; rw [if_pos rfl]; exact kq _ _ _ _ s1 q
theorem dw_and {t u : DTT} {rest : List Expr} (ha : PDT X a t) (hb : PDW X (.BoolOp .And (b :: rest) pos) u) : PDW X (.BoolOp .And (a :: b :: rest) pos) (dAnd t u) := ⟨fun W tk => PW.weak (pw_and (ha.run W tk) (hb.run W tk)) sim_and⟩
theorem dw_and1 {t : DTT} (ha : PDT X a t) : PDW X (.BoolOp .And [a] pos) t := ⟨fun W tk => pw_and1 (ha.run W tk)⟩
theorem dw_or {t u : DTT} {rest : List Expr} (ha : PDT X a t) (hb : PDW X (.BoolOp .Or (b :: rest) pos) u) : PDW X (.BoolOp .Or (a :: b :: rest) pos) (dOr t u) := ⟨fun W tk => PW.weak (pw_or (ha.run W tk) (hb.run W tk)) sim_or⟩
theorem dw_or1 {t : DTT} (ha : PDT X a t) : PDW X (.BoolOp .Or [a] pos) t := ⟨fun W tk => pw_or1 (ha.run W tk)⟩
theorem PDW.pt {t : DTT} (h : PDW X a t) : PDT X a t := ⟨fun W tk => (h.run W tk).pt⟩
def dAndV (t u : DTE) : DTE := fun δ S Q X => t δ S (fun x S1 => match x with
  | .bl b => brn b (u δ S1 Q X) (Q (.bl false) S1)
  | _ => False) X
theorem de_and {t u : DTE} {rest : List Expr} (ha : PD X a t) (hb : PD X (.BoolOp .And (b :: rest) pos) u) : PD X (.BoolOp .And (a :: b :: rest) pos) (dAndV t u) := ⟨fun W tk => PE.weak (pe_and (ha.run W tk) (hb.run W tk)) (by
  rintro σ H Q ⟨G, δ, S, QD, XD, re, rl, h, kq, kx⟩
  refine ⟨G, δ, S, _, XD, re, rl, h, fun G1 H1 S1 x d s1 rx q => ?_, kx⟩
  cases rx with
  | bl c =>
    refine ⟨c, rfl, ?_⟩
    cases c with
    | true => rw [if_pos rfl]; simp only [brn_t] at q; exact ⟨G1, δ, S1, QD, XD, re.mono s1.sg, s1.rel, q, fun G2 H2 S2 v d s2 rv q2 => kq _ _ _ _ _ (s1.trans s2) rv q2, kx.step s1⟩
    | false => rw [if_neg Bool.false_ne_true]; simp only [brn_f] at q; exact kq _ _ _ _ _ s1 (.bl _) q
  | _ => exact q.elim)⟩
theorem de_one {op} {t : DTE} (ha : PD X a t) : PD X (.BoolOp op [a] pos) t := ⟨fun W tk => pe_one (ha.run W tk)⟩
def dTestB (t : DTE) : DTT := fun δ S Q X => t δ S (fun x S1 => match x with
  | .bl b => Q b S1
  | _ => False) X
theorem sim_testB {t : DTE} : ∀ σ H Q, liftT K W (dTestB t) σ H Q → tTest (liftE K W t) σ H Q := by
  rintro σ H Q ⟨G, δ, S, QD, XD, re, rl, h, kq, kx⟩
  refine ⟨G, δ, S, _, XD, re, rl, h, fun G1 H1 S1 x d s1 rx q => ?_, kx⟩
  cases rx with
  | bl c => exact ⟨c, rfl, kq _ _ _ _ s1 q⟩
  | _ => exact q.elim
theorem dt_cmp {op : CmpOp} {r : R2D} {ta tb : DTE} (ho : OpR X (compareOp op) (lift2 X.K r)) (ha : PD X a ta) (hb : PD X b tb) (hm : behindInMarks op b = false := by rfl) : PDT X (.Compare a [op] [b] pos) (dTestB (dOp r ta tb)) :=
  ⟨fun W tk => PT.weak (pt_cmpR ho (ha.run W tk) (hb.run W tk) hm) (by
    rintro σ H Q h
    obtain ⟨G, δ, S, QD, XD, re, rl, h, kq, kx⟩ := sim_testB σ H Q h
    exact sim_op σ H _ ⟨G, δ, S, QD, XD, re, rl, h, kq, kx⟩)⟩
end
end SM
namespace SM
open PySem PySem.Spec PyProof.Rows L2
variable {K : PySem.W.Frag} {G G' G2 H H' H2 : Hp} {S S' S2 : Sto}
section
variable {X : Cx} {e a b c o i : Expr} {es : List Expr} {st : Stmt} {sts : List Stmt} {pos p apos cpos : Pos} {W : WX} {k : Nat} {x : Str}
def one (c : Nat) : Str := ⟨#[c]⟩
theorem atI_rps {vs : List V} {ds : List D} {i : Int} {d : D} (r : Rps K G vs ds) (h : atI ds i = some d) : ∃ v, atI vs i = some v ∧ Rp K G v d := by
  unfold atI at h ⊢
  rw [r.length]
  cases q : ixN ds.length i with
  | none => rw [q] at h; cases h
  | some j => rw [q] at h; exact r.get h
theorem okS_one {s : Str} {i : Int} {c : Nat} (h : okS s) (e : atI s.cps.toList i = some c) : okS (one c) := by
  refine ⟨(by show 1 ≤ sizeLine; decide), ?_⟩
  have hm : c ∈ s.cps.toList := by
    unfold atI at e
    cases q : ixN s.cps.toList.length i with
    | none => rw [q] at e; cases e
    | some j => rw [q] at e; exact List.mem_of_getElem? e
  have h2 := h.2
  unfold PyData.strOk at h2 ⊢
  rw [Array.all_eq_true_iff_forall_mem] at h2 ⊢
  intro z hz
  have : z = c := by simpa [one] using hz
  subst this
  exact h2 z (by simpa using hm)
theorem dKey_rp {v : V} {d : D} {k : Key} (r : Rp K G v d) (h : dKey d = some k) : v = kV k := by
  cases r <;> simp [dKey] at h
  · subst h; rfl
  · subst h; rfl
theorem dKeys_rps : ∀ {vs : List V} {ds : List D} {ks : List Key}, Rps K G vs ds → dKeys ds = some ks → vs = ks.map kV
  | _, _, ks, .nil, h => by cases h; rfl
  | _, _, ks, .cons r q, h => by
    unfold dKeys at h
    split at h
    · rename_i k ks' h1 h2
      cases h
      rw [List.map_cons, dKey_rp r h1, dKeys_rps q h2]
    · cases h
def valD (kvs : List (List Key × D)) (k : List Key) : Option D := (kvs.find? fun kv => decide (kv.1 = k)).map (·.2)
theorem valD_rkv : ∀ {ws : List (List Key × V)} {kvs : List (List Key × D)} (k : List Key), Rkv K G ws kvs → (valD kvs k = none ∧ valV ws k = none) ∨ ∃ d v, valD kvs k = some d ∧ valV ws k = some v ∧ Rp K G v d
  | _, _, k, .nil => .inl ⟨rfl, rfl⟩
  | _, _, k, @Rkv.cons _ _ k0 v d ws kvs r q => by
    unfold valD valV
    rw [List.find?_cons, List.find?_cons]
    by_cases h : k0 = k
    · simp only [h, decide_true]; exact .inr ⟨d, v, rfl, rfl, r⟩
    · simp only [h, decide_false]
      exact valD_rkv k q
def oIx : R2D := fun x y S Q => vwk S x fun x' => match x' with
  | .lst ds => (match y with
    | .int i => itk ds i fun d => Q d S
    | _ => False)
  | .tup ds => (match y with
    | .int i => itk ds i fun d => Q d S
    | _ => False)
  | .str s => (match y with
    | .int i => itk s.cps.toList i fun c => Q (.str (one c)) S
    | _ => False)
  | .dT kvs => (match y with
    | .tup ds => (match dKeys ds with
      | some ks => (match valD kvs ks with
        | some d => Q d S
        | none => False)
      | none => False)
    | _ => False)
  | _ => False
theorem ix_dict (hu : X.A.units + 1 < cLine) : IxR X (fun x y H Q => ∃ a v, x = .ref a ∧ DGet H a y (some v) ∧ Q v H) := by
  intro value slice pins s σ H x y v u Q I rx ry h hs
  obtain ⟨a, w, rfl, g, q⟩ := h
  obtain rfl : v = Value.ref a := rx
  have hT := dict_typeIs I g
  unfold subscriptTail
  refine wpAny_bind ?_
  rw [getitemInPython_of_ne hT.not_modules]
  refine wpAny_bind (wpAny_specialOf hT PySem.F.slot_dict_getitem.lookup ?_)
  have fin : wpAny (model X.prog X.w) X.A (subscripted slice false (.ref a) u) (fun r s₃ => wpAny (model X.prog X.w) X.A (letTemporaryGo value (.ref a) r >>= fun _ => pure r) (EP X pins σ Q) X.xe s₃) X.xe s := by
    rw [hs]
    exact wpAny_operating (d_getItem hu I g ry fun w' s3 I3 rw' => wpAny_bind (wpAny_letTemporaryGo (wpAny_pure ⟨w, H, I3, rw', q⟩)))
  first
    | exact wpAny_pure (wpAny_bind fin)
    | exact wpAny_bind (wpAny_pure (wpAny_bind fin))
    | exact wpAny_bind fin
theorem DGet.of_rd {a b : Addr} {ws : List (List Key × V)} {ks : List Key} (h : Rd H a (.dT ws)) (hb : H b = some (.tup (ks.map kV))) : DGet H a (.ref b) (valV ws ks) := .inr ⟨ws, ks, b, h, rfl, hb, rfl⟩
theorem i_ix (hr : Room k X.A) : IxR X (lift2 X.K oIx) := IxR.weak (IxR.or ix_list (IxR.or ix_tup (IxR.or ix_str (ix_dict (hu_of hr))))) (by
  rintro x y H Q ⟨G, S, dx, dy, QD, rl, rx, ry, h, kq⟩
  simp only [oIx, vwk_is, itk_is] at h
  split at h
  · rename_i ds ex
    obtain ⟨p, vs, rfl, hp, rv, lv⟩ := vw_lst rl rx ex
    split at h
    · rename_i i
      cases ry
      obtain ⟨d, ed, h⟩ := h
      · obtain ⟨v, e1, e2⟩ := atI_rps rv ed
        exact .inl ⟨p, vs, i, v, rfl, rfl, SqL.of hp, e1, kq _ _ _ _ _ (Stp.refl rl) e2 h⟩
    · exact h.elim
  · rename_i ds ex
    obtain ⟨p, vs, rfl, _, hp, rv, lv⟩ := vw_tup rl rx ex
    split at h
    · rename_i i
      cases ry
      obtain ⟨d, ed, h⟩ := h
      · obtain ⟨v, e1, e2⟩ := atI_rps rv ed
        exact .inr (.inl ⟨p, vs, i, v, rfl, rfl, SqT.of hp, e1, kq _ _ _ _ _ (Stp.refl rl) e2 h⟩)
    · exact h.elim
  · rename_i z ex
    obtain ⟨hx, ox⟩ := (vw_scal rx).2.2.1 _ ex
    subst hx
    split at h
    · rename_i i
      cases ry
      obtain ⟨d, ed, h⟩ := h
      · exact .inr (.inr (.inl ⟨z, i, d, rfl, rfl, ox.1, ed, kq _ _ _ _ _ (Stp.refl rl) (.str (okS_one ox ed)) h⟩))
    · exact h.elim
  · rename_i kvs ex
    obtain ⟨p, ws, rfl, hp, rv⟩ := vw_dT rl rx ex
    split at h
    · rename_i ds
      cases ry with
      | tup hg rs l =>
      split at h
      · rename_i ks ek
        split at h
        · rename_i d ed
          have e1 := dKeys_rps rs ek
          rcases valD_rkv ks rv with ⟨z, _⟩ | ⟨d', v, z1, z2, z3⟩
          · rw [z] at ed; cases ed
          · rw [z1] at ed; cases ed
            refine .inr (.inr (.inr ⟨p, v, rfl, ?_, kq _ _ _ _ _ (Stp.refl rl) z3 h⟩))
            rw [← z2]
            exact DGet.of_rd hp (by rw [← e1]; exact rl.at hg rfl)
        · exact h.elim
      · exact h.elim
    · exact h.elim
  · exact h.elim)
theorem de_ix {ta tb : DTE} (hr : Room k X.A) (ha : PD X a ta) (hb : PD X b tb) (hs : PlainIx b := by exact fun _ _ => rfl) : PD X (.Subscript a b pos) (dOp oIx ta tb) := ⟨fun W tk => PE.weak (pe_ix (i_ix hr) (ha.run W tk) (hb.run W tk) hs) sim_op⟩
end
end SM
namespace SM
open PySem PySem.Spec PyProof.Rows L2
variable {K : PySem.W.Frag} {G G' G2 H H' H2 : Hp} {S S' S2 : Sto}
section
variable {X : Cx} {e a b c o i : Expr} {es : List Expr} {st : Stmt} {sts : List Stmt} {pos p apos cpos pos' : Pos} {W : WX} {k : Nat} {x : Str}
def dCB (r : RCD) (t : DTA) : DTE := fun δ S Q X => t δ S (fun ds S1 => r ds S1 Q) X
theorem sim_cb {r : RCD} {t : DTA} : ∀ σ H Q, liftE K W (dCB r t) σ H Q → tCB (liftC K r) (liftA K W t) σ H Q := by
  rintro σ H Q ⟨G, δ, S, QD, XD, re, rl, h, kq, kx⟩
  exact ⟨G, δ, S, _, XD, re, rl, h, fun G1 H1 S1 vs ds s1 rs q => ⟨G1, S1, ds, QD, s1.rel, rs, q, fun G2 H2 S2 v d s2 rv q2 => kq _ _ _ _ _ (s1.trans s2) rv q2⟩, kx⟩
theorem de_callB {id : String} {r : RCD} {t : DTA} (hc : CallR X (.builtin id) (liftC X.K r)) (hg : Gl X x) (hm : X.mg x = none) (hv : bootBuiltins x = some (.builtin id)) (ha : PDA X (e :: es) t) (hn : x ≠ "__name__" := by decide) (hdb : (x == ("__debug__" : Str)) = false := by decide)
    (he : starEach (e :: es) X.env = (false, eval e X.env) :: starEach es X.env := by rfl) (hpl : (backTo pos (starEach es X.env)).any (·.1) = false := by rfl) : PD X (.Call (.Name x p) (e :: es) [] pos) (dCB r t) := ⟨fun W tk => PE.weak (pe_callB hc hg hm hv (ha.run W tk) hn hdb he hpl) sim_cb⟩
theorem de_callTy {T : String} {r : RCD} {t : DTA} (hc : CallR X (.type T) (liftC X.K r)) (hg : Gl X x) (hm : X.mg x = none) (hv : bootBuiltins x = some (.type T)) (ha : PDA X (e :: es) t) (hn : x ≠ "__name__" := by decide) (hdb : (x == ("__debug__" : Str)) = false := by decide)
    (he : starEach (e :: es) X.env = (false, eval e X.env) :: starEach es X.env := by rfl) (hpl : (backTo pos (starEach es X.env)).any (·.1) = false := by rfl) : PD X (.Call (.Name x p) (e :: es) [] pos) (dCB r t) := ⟨fun W tk => PE.weak (pe_callTy hc hg hm hv (ha.run W tk) hn hdb he hpl) sim_cb⟩
def on1 (f : D → Sto → DQ → Prop) : RCD := fun ds S Q => match ds with
  | [d] => f d S Q
  | _ => False
theorem on1_of {f : D → Sto → DQ → Prop} {ds : List D} {Q : DQ} {vs : List V} (h : on1 f ds S Q) (r : Rps K G vs ds) : ∃ d v, ds = [d] ∧ vs = [v] ∧ Rp K G v d ∧ f d S Q := by
  unfold on1 at h
  split at h
  · cases r with
    | cons r1 r2 => cases r2; exact ⟨_, _, rfl, rfl, r1, h⟩
  · exact h.elim
def lenD (d : D) (S : Sto) (Q : DQ) : Prop := vwk S d fun d' => match d' with
  | .lst ds => Q (.int ds.length) S
  | .tup ds => Q (.int ds.length) S
  | .str s => Q (.int s.length) S
  | _ => False
theorem c_len : CallR X (.builtin "len") (liftC X.K (on1 lenD)) := CallR.weak call_len (by
  rintro vs H Q ⟨G, S, ds, QD, rl, rs, h, kq⟩
  obtain ⟨d, v, rfl, rfl, rx, h⟩ := on1_of h rs
  simp only [lenD, vwk_is] at h
  split at h
  · rename_i l ex
    obtain ⟨p, us, rfl, hp, rv, _⟩ := vw_lst rl rx ex
    refine ⟨_, us.length, rfl, .inl ⟨us, SqL.of hp, rfl⟩, ?_⟩
    rw [rv.length]; exact kq _ _ _ _ _ (Stp.refl rl) (.int _) h
  · rename_i l ex
    obtain ⟨p, us, rfl, _, hp, rv, _⟩ := vw_tup rl rx ex
    refine ⟨_, us.length, rfl, .inr ⟨us, SqT.of hp, rfl⟩, ?_⟩
    rw [rv.length]; exact kq _ _ _ _ _ (Stp.refl rl) (.int _) h
  · rename_i s ex
    obtain ⟨e1, e2⟩ := (vw_scal rx).2.2.1 _ ex
    subst e1
    exact ⟨_, s.length, rfl, ⟨e2.1, rfl⟩, kq _ _ _ _ _ (Stp.refl rl) (.int _) h⟩
  · exact h.elim)
def intD (d : D) (S : Sto) (Q : DQ) : Prop := match d with
  | .int i => Q (.int i) S
  | .bl b => Q (.int (if b then 1 else 0)) S
  | .str s => (match PySem.intText? s with
    | some n => s.length ≤ 640 ∧ Q (.int n) S
    | none => False)
  | _ => False
theorem c_int : CallR X (.type "int") (liftC X.K (on1 intD)) := CallR.weak (CallR.or call_int1 call_int_str) (by
  rintro vs H Q ⟨G, S, ds, QD, rl, rs, h, kq⟩
  obtain ⟨d, v, rfl, rfl, rx, h⟩ := on1_of h rs
  cases rx with
  | int i => exact .inl (.inl ⟨i, rfl, kq _ _ _ _ _ (Stp.refl rl) (.int _) h⟩)
  | bl b => exact .inl (.inr ⟨b, rfl, kq _ _ _ _ _ (Stp.refl rl) (.int _) h⟩)
  | @str s hs =>
    unfold intD at h
    simp only at h
    split at h
    · rename_i n en
      exact .inr ⟨s, n, rfl, en, h.1, kq _ _ _ _ _ (Stp.refl rl) (.int _) h.2⟩
    · exact h.elim
  | _ => exact h.elim)
def itemsD (d : D) : Option (List D) := match d with
  | .lst ds => some ds
  | .tup ds => some ds
  | _ => none
def listD (d : D) (S : Sto) (Q : DQ) : Prop := vwk S d fun d' => match itemsD d' with
  | some ds => Q (.lst ds) S
  | none => False
theorem items_of (rl : Rel K G H S) {v : V} {d : D} {ds : List D} (rx : Rp K G v d) (h : itemsD (vw S d) = some ds) : ∃ p us, v = .ref p ∧ (SqL K H p us ∨ SqT K H p us) ∧ Rps K G us ds ∧ ds.length ≤ sizeLine := by
  unfold itemsD at h
  split at h
  · rename_i l ex
    cases h
    obtain ⟨p, us, rfl, hp, rv, l⟩ := vw_lst rl rx ex
    exact ⟨p, us, rfl, .inl (SqL.of hp), rv, l⟩
  · rename_i l ex
    cases h
    obtain ⟨p, us, rfl, _, hp, rv, l⟩ := vw_tup rl rx ex
    exact ⟨p, us, rfl, .inr (SqT.of hp), rv, l⟩
  · cases h
theorem c_list : CallR X (.type "list") (liftC X.K (on1 listD)) := CallR.weak call_list_of (by
  rintro vs H Q ⟨G, S, ds, QD, rl, rs, h, kq⟩
  obtain ⟨d, v, rfl, rfl, rx, h⟩ := on1_of h rs
  simp only [listD, vwk_is] at h
  split at h
  · rename_i l ex
    obtain ⟨p, us, rfl, hp, rv, hl⟩ := items_of rl rx ex
    refine ⟨p, us, rfl, hp, fun q hq => ?_⟩
    obtain ⟨s1, r1⟩ := fz_lst rl hq rv hl
    exact kq _ _ _ _ _ s1 r1 h
  · exact h.elim)
theorem PO.weak {e : Option Expr} {t t' : TO} (h : PO X e t) (w : ∀ σ H Q, t' σ H Q → t σ H Q) : PO X e t' := ⟨fun pins s σ H Q I q => h.run pins s σ H Q I (w σ H Q q)⟩
def dNoPart : DTO := fun _ S Q _ => Q none S
def dPart (t : DTE) : DTO := fun δ S Q X => t δ S (fun x S1 => match x with
  | .int i => Q (some i) S1
  | _ => False) X
theorem do_none : PDO X none dNoPart := ⟨fun W tk => PO.weak po_none (by
  rintro σ H Q ⟨G, δ, S, QD, XD, re, rl, h, kq, kx⟩
  exact kq _ _ _ _ (Stp.refl rl) h)⟩
theorem do_some {t : DTE} (h : PD X e t) : PDO X (some e) (dPart t) := ⟨fun W tk => PO.weak (po_some (h.run W tk)) (by
  rintro σ H Q ⟨G, δ, S, QD, XD, re, rl, h, kq, kx⟩
  refine ⟨G, δ, S, _, XD, re, rl, h, fun G1 H1 S1 x d s1 rx q => ?_, kx⟩
  cases rx with
  | int i => exact ⟨i, rfl, kq _ _ _ _ s1 q⟩
  | _ => exact q.elim)⟩
def cutD (xs : List D) (lo hi : Option Int) : List D := (xs.drop (HT.sIx xs.length 0 lo)).take (HT.sIx xs.length xs.length hi - HT.sIx xs.length 0 lo)
theorem cut_rps {vs : List V} {ds : List D} (r : Rps K G vs ds) (lo hi : Option Int) : Rps K G (cutV vs lo hi) (cutD ds lo hi) := by
  unfold cutV cutD; rw [r.length]; exact (r.drop _).take _
theorem cut_len (ds : List D) (lo hi : Option Int) : (cutD ds lo hi).length ≤ ds.length := by
  unfold cutD; rw [List.length_take, List.length_drop]; omega
def dSl (r : D → Option Int → Option Int → Sto → DQ → Prop) (te : DTE) (tl th : DTO) : DTE := fun δ S Q X => te δ S (fun x S1 => tl δ S1 (fun l S2 => th δ S2 (fun u S3 => r x l u S3 Q) X) X) X
theorem okS_sub {s t : Str} (h : okS s) (hm : ∀ c ∈ t.cps.toList, c ∈ s.cps.toList) (hl : t.length ≤ s.length) : okS t := by
  refine ⟨Nat.le_trans hl h.1, ?_⟩
  have h2 := h.2
  unfold PyData.strOk at h2 ⊢
  rw [Array.all_eq_true_iff_forall_mem] at h2 ⊢
  intro z hz
  exact h2 z (by simpa using hm z (by simpa using hz))
theorem dp_nm {i : Nat} {x : Str} {pos : Pos} (hN : X.N.Nodup) (hi : X.N[i]? = some x := by rfl) (hx : Loc X.env.scope x := by first | exact .inl rfl | exact .inr rfl) (hf : X.fn x = true ∨ X.env.scope.names.lookup x = some .local := by first | exact .inl rfl | exact .inr rfl | assumption) : PDP X (.Name x pos) (.nm i) := ⟨by rw [pG]; exact pg_name hN hi hx hf⟩
end
end SM
namespace SM
open PySem PySem.Spec PyProof.Rows L2
variable {K : PySem.W.Frag} {G G' G2 H H' H2 : Hp} {S S' S2 : Sto}
section
variable {X : Cx} {e a b c o i : Expr} {es : List Expr} {st : Stmt} {sts rest : List Stmt} {pos p apos cpos pos' : Pos} {W : WX} {k : Nat} {x : Str} {t u : DTS} {te : DTE}
theorem ownk_is {S : Sto} {a : Addr} {k : Option OO → Prop} : ownk S a k = k (S a) := propext ⟨fun h => h.it, fun h => ⟨h⟩⟩
theorem ownk_of {S : Sto} {a : Addr} {o : OO} {k : Option OO → Prop} (h : S a = some o) (q : k (some o)) : ownk S a k := by rw [ownk_is, h]; exact q
def dVarM (i : Nat) : DTE := fun δ S Q _ => match nth δ i with
  | some (.adr a) => ownk S a fun oo => (match oo with
    | some (.lst ds) => Q (.lst ds) (sd S a)
    | some (.dT kvs) => Q (.dT kvs) (sd S a)
    | some (.ins c ds) => Q (.ins c ds) (sd S a)
    | some (.dF _ _ _) => False
    | some (.dK _) | some (.kF _ _ _) | some (.exo _ _ _) => Q (.adr a) S
    | none => Q (.adr a) S)
  | some d => Q d S
  | none => False
theorem frz_lst (rl : Rel K G H S) {p : Addr} {ds : List D} (h : S p = some (.lst ds)) : ∃ G', Stp K G H S G' H (sd S p) ∧ Rp K G' (.ref p) (.lst ds) := by
  obtain ⟨_, vs, e, r, l⟩ := rl.own p _ h
  exact ⟨_, Stp.frz rl h e, .lst upd_same (r.mono (Stp.frz rl h e).sg) l⟩
theorem frz_dT (rl : Rel K G H S) {p : Addr} {ds : List (List Key × D)} (h : S p = some (.dT ds)) : ∃ G', Stp K G H S G' H (sd S p) ∧ Rp K G' (.ref p) (.dT ds) := by
  obtain ⟨_, vs, e, r⟩ := rl.own p _ h
  exact ⟨_, Stp.frz rl h e, .dT upd_same (r.mono (Stp.frz rl h e).sg)⟩
theorem frz_ins (rl : Rel K G H S) {p : Addr} {c : Nat} {ds : List D} (h : S p = some (.ins c ds)) : ∃ G', Stp K G H S G' H (sd S p) ∧ Rp K G' (.ref p) (.ins c ds) := by
  obtain ⟨_, dx, vs, e, r, l⟩ := rl.own p _ h
  exact ⟨_, Stp.frz rl h e, .ins upd_same (r.mono (Stp.frz rl h e).sg) l⟩
theorem sim_varM {i : Nat} : ∀ σ H Q, liftE K W (dVarM i) σ H Q → tVar i σ H Q := by
  rintro σ H Q ⟨G, δ, S, QD, XD, re, rl, h, kq, kx⟩
  unfold dVarM at h
  cases e : nth δ i with
  | none => rw [e] at h; exact h.elim
  | some d =>
    rw [e] at h
    obtain ⟨v, h1, h2⟩ := re.at_ i d e
    refine ⟨v, h1, ?_⟩
    cases h2 with
    | adr a =>
      simp only [ownk_is] at h
      cases q : S a with
      | none => rw [q] at h; exact kq G H S _ _ (Stp.refl rl) (.adr a) h
      | some oo =>
        rw [q] at h
        cases oo with
        | lst ds => obtain ⟨G', s1, r1⟩ := frz_lst rl q; exact kq _ _ _ _ _ s1 r1 h
        | dT ds => obtain ⟨G', s1, r1⟩ := frz_dT rl q; exact kq _ _ _ _ _ s1 r1 h
        | ins c ds => obtain ⟨G', s1, r1⟩ := frz_ins rl q; exact kq _ _ _ _ _ s1 r1 h
        | dF _ _ _ => exact h.elim
        | dK _ => exact kq G H S _ _ (Stp.refl rl) (.adr a) h
        | kF _ _ _ => exact kq G H S _ _ (Stp.refl rl) (.adr a) h
        | exo _ _ _ => exact kq G H S _ _ (Stp.refl rl) (.adr a) h
    | non => exact kq G H S _ _ (Stp.refl rl) .non h
    | bl z => exact kq G H S _ _ (Stp.refl rl) (.bl z) h
    | int z => exact kq G H S _ _ (Stp.refl rl) (.int z) h
    | str z => exact kq G H S _ _ (Stp.refl rl) (.str z) h
    | ty z => exact kq G H S _ _ (Stp.refl rl) (.ty z) h
    | tup z1 z2 z3 => exact kq G H S _ _ (Stp.refl rl) (.tup z1 z2 z3) h
    | lst z1 z2 z3 => exact kq G H S _ _ (Stp.refl rl) (.lst z1 z2 z3) h
    | dT z1 z2 => exact kq G H S _ _ (Stp.refl rl) (.dT z1 z2) h
    | ins z1 z2 z3 => exact kq G H S _ _ (Stp.refl rl) (.ins z1 z2 z3) h
    | cls z1 z2 => exact kq G H S _ _ (Stp.refl rl) (.cls z1 z2) h
    | exn0 z1 => exact kq G H S _ _ (Stp.refl rl) (.exn0 z1) h
    | exn z1 z2 z3 z4 => exact kq G H S _ _ (Stp.refl rl) (.exn z1 z2 z3 z4) h
theorem dvM (i : Nat) {x : Str} {pos : Pos} (hN : X.N[i]? = some x := by rfl) (hv : Vis X.env.scope x := by first | exact Or.inl rfl | exact Or.inr (Or.inl rfl) | exact Or.inr (Or.inr rfl)) (hd : (x == ("__debug__" : Str)) = false := by decide)
    (hcd : (x == ("__classdict__" : Str)) = false := by decide) : PD X (.Name x pos) (dVarM i) := ⟨fun W _ => PE.weak (pe_var hN hv hd hcd) sim_varM⟩
def dNext : DTS := fun E δ S => E.nx δ S
def dSeq (t u : DTS) : DTS := fun E δ S => t { E with nx := u E } δ S
theorem dss_nil : PDSs X [] dNext := ⟨fun W tk po => PSs.weak pss_nil (by
  rintro D σ H ⟨G, δ, S, E, re, rl, h, er⟩
  exact er.nx _ _ _ _ _ (Stp.refl rl) re h)⟩
theorem dss_cons (h1 : PDS X st t) (h2 : PDSs X rest u) : PDSs X (st :: rest) (dSeq t u) := ⟨fun W tk po => PSs.weak (pss_cons (h1.run W tk po) (h2.run W tk po)) (by
  rintro D σ H ⟨G, δ, S, E, re, rl, h, er⟩
  exact ⟨G, δ, S, _, re, rl, h, ⟨fun G1 H1 S1 σ1 δ1 s1 re1 q => ⟨G1, δ1, S1, E, re1, s1.rel, q, er.step s1⟩, er.rt, er.bk, er.ct, er.xc⟩⟩)⟩
theorem dss_one (h1 : PDS X st t) : PDSs X [st] t := ⟨fun W tk po => pss_one (h1.run W tk po)⟩
def dDrop (te : DTE) : DTS := fun E δ S => te δ S (fun _ S1 => E.nx δ S1) (fun x S1 => E.xc x δ S1)
theorem ds_expr (he : PD X e te) (hs : swapsWith e none pos.line X.env = pure false := by rfl) : PDS X (.Expr e pos) (dDrop te) := ⟨fun W tk po => PS.weak (ps_expr (he.run W tk) hs) (by
  rintro D σ H ⟨G, δ, S, E, re, rl, h, er⟩
  exact ⟨G, δ, S, _, _, re, rl, h, fun G1 H1 S1 v d s1 rv q => er.nx _ _ _ _ _ s1 (re.mono s1.sg) q, er.kx re⟩)⟩
def dRet (te : DTE) : DTS := fun E δ S => te δ S E.rt (fun x S1 => E.xc x δ S1)
theorem ds_ret (he : PD X e te) : PDS X (.Return (some e) pos) (dRet te) := ⟨fun W tk po => PS.weak (ps_ret (he.run W tk)) (by
  rintro D σ H ⟨G, δ, S, E, re, rl, h, er⟩
  exact ⟨G, δ, S, _, _, re, rl, h, fun G1 H1 S1 v d s1 rv q => er.rt _ _ _ _ _ s1 rv q, er.kx re⟩)⟩
def dIf (tc : DTT) (t u : DTS) : DTS := fun E δ S => tc δ S (fun b S1 => brn b (t E δ S1) (u E δ S1)) (fun x S1 => E.xc x δ S1)
theorem ds_if {tc : DTT} {ya yb : List Stmt} (hc : PDT X c tc) (ha : PDSs X ya t) (hb : PDSs X yb u) : PDS X (.If c ya yb pos) (dIf tc t u) := ⟨fun W tk po => PS.weak (ps_if (hc.run W tk) (ha.run W tk po) (hb.run W tk po)) (by
  rintro D σ H ⟨G, δ, S, E, re, rl, h, er⟩
  refine ⟨G, δ, S, _, _, re, rl, h, fun G1 H1 S1 b s1 q => ?_, er.kx re⟩
  cases b with
  | true => rw [brn_t] at q; rw [if_pos rfl]; exact ⟨G1, δ, S1, E, re.mono s1.sg, s1.rel, q, er.step s1⟩
  | false => rw [brn_f] at q; rw [if_neg Bool.false_ne_true]; exact ⟨G1, δ, S1, E, re.mono s1.sg, s1.rel, q, er.step s1⟩)⟩
def dSet (i : Nat) (te : DTE) : DTS := fun E δ S => te δ S (fun d S1 => E.nx (put δ i d) S1) (fun x S1 => E.xc x δ S1)
theorem ds_set {i : Nat} {x : Str} {pos' : Pos} (hN : X.N.Nodup) (he : PD X e te) (hi : X.N[i]? = some x := by rfl) (hx : Loc X.env.scope x := by first | exact .inl rfl | exact .inr rfl) (hs : swapsWith e (some (.Name x pos')) pos.line X.env = pure false := by rfl)
    (hf : X.fn x = true ∨ X.env.scope.names.lookup x = some .local := by first | exact .inl rfl | exact .inr rfl | assumption) : PDS X (.Assign [.Name x pos'] e pos) (dSet i te) := ⟨fun W tk po => PS.weak (ps_set hN hi hx (he.run W tk) hs hf) (by
  rintro D σ H ⟨G, δ, S, E, re, rl, h, er⟩
  exact ⟨G, δ, S, _, _, re, rl, h, fun G1 H1 S1 v d s1 rv q => er.nx _ _ _ _ _ s1 ((re.mono s1.sg).put i rv) q, er.kx re⟩)⟩
def dSetL (to ti te : DTE) : DTS := fun E δ S => te δ S (fun d S1 => to δ S1 (fun y S2 => ti δ S2 (fun z S3 => match y, z with
  | .adr q, .int n => ownk S3 q fun oo => (match oo with
    | some (.lst ds) => (match ixN ds.length n with
      | some j => E.nx δ (su S3 q (.lst (ds.set j d)))
      | none => False)
    | _ => False)
  | _, _ => False) (fun x S1 => E.xc x δ S1)) (fun x S1 => E.xc x δ S1)) (fun x S1 => E.xc x δ S1)
theorem ds_setL {to ti : DTE} (he : PD X e te) (ho : PD X o to) (hi : PD X i ti) (hs : swapsWithSole [.Subscript o i pos'] e pos.line X.env = pure false := by rfl) (hw : swappedStores [.Subscript o i pos'] e X.env = pure none := by rfl)
    (h1 : (assignEach [.Subscript o i pos'] X.env).map (·.2) = [assign (.Subscript o i pos') X.env] := by rfl)
    (ha : ∀ v, assign (.Subscript o i pos') X.env v = (do
      let ov ← holding [v] (eval o X.env)
      let iv ← holding [v, ov] (eval i X.env)
      standAt pos'
      holding [v, ov, iv] (setItem ov iv v)
      release [v, ov, iv] []) := by intro _; rfl) : PDS X (.Assign [.Subscript o i pos'] e pos) (dSetL to ti te) := ⟨fun W tk po => PS.weak (ps_asg (he.run W tk) (pg_sub (ho.run W tk) (hi.run W tk) set_list ha) hs hw h1) (by
  rintro D σ H ⟨G, δ, S, E, re, rl, h, er⟩
  refine ⟨G, δ, S, _, _, re, rl, h, fun G1 H1 S1 v d s1 rv q => ⟨G1, δ, S1, _, _, re.mono s1.sg, s1.rel, q, fun G2 H2 S2 y dy s2 ry q2 => ⟨G2, δ, S2, _, _, re.mono (s1.trans s2).sg, s2.rel, q2, fun G3 H3 S3 z dz s3 rz q3 => ?_, (er.kx re).step (s1.trans s2)⟩, (er.kx re).step s1⟩, er.kx re⟩
  split at q3
  · rename_i q n
    cases ry
    cases rz
    simp only [ownk_is] at q3
    split at q3
    · rename_i ds eS
      split at q3
      · rename_i j ej
        obtain ⟨_, vs, e1, r1, l1⟩ := s3.rel.own q _ eS
        refine ⟨q, vs, n, j, rfl, rfl, e1, by rw [r1.length]; exact ej, ?_⟩
        have s4 : Stp X.K G3 H3 S3 G3 (upd H3 q (.lst (vs.set j v))) (su S3 q (.lst (ds.set j d))) := Stp.mut s3.rel eS ⟨_, rfl, r1.set (rv.mono (s2.trans s3).sg) j, by rw [List.length_set]; exact l1⟩
        have s14 := ((s1.trans s2).trans s3).trans s4
        exact er.nx _ _ _ _ _ s14 (re.mono s14.sg) q3
      · exact q3.elim
    · exact q3.elim
  · exact q3.elim)⟩
theorem loopK_is {gd : Gd} {q : Pat} {tb : DTS} {E : DEnds} {xs : List D} {δ : DS} {S : Sto} : loopK gd q tb E xs δ S = dLoop gd q tb E xs δ S := propext ⟨fun h => h.it, fun h => ⟨h⟩⟩
def dFor (ti : DTI) (q : Pat) (tb : DTS) : DTS := fun E δ S => ti δ S (fun gd xs S1 => loopK gd q tb E xs δ S1) (fun x S1 => E.xc x δ S1)
theorem ds_for {tg iter : Expr} {body : List Stmt} {ti : DTI} {q : Pat} {tb : DTS} (hc : X.calm = true) (hi : PDI X tg iter ti) (hg : PDP X tg q) (hb : PDSs X body tb) (hs : ∀ x, foldedSetIterable iter X.env x = pure x := by intro _; rfl) :
    PDS X (.For tg iter body [] pos) (dFor ti q tb) := ⟨fun W tk po => PS.weak (ps_for po hc (hi.run W tk) hg.run (hb.run W tk po) hs) (by
  rintro D σ H ⟨G, δ, S, E, re, rl, h, er⟩
  unfold dFor at h
  simp only [loopK_is] at h
  refine ⟨G, δ, S, _, _, re, rl, h, fun G1 H1 S1 J gd xs s1 hJ hl hq => ?_, er.kx re⟩
  -- the invariant
  refine ⟨fun i m σ' H' => m = xs.length - i ∧ ∃ G' δ' S', Stp X.K G H S G' H' S' ∧ Same G1 G' ∧ RpE X.K G' σ' δ' ∧ dLoop gd q tb E (xs.drop i) δ' S', ⟨xs.length, by simp, G1, δ, S1, s1, Same.refl _, re.mono s1.sg, by simpa using hq⟩, ?_⟩
  rintro i m σ' H' ⟨rfl, G', δ', S', s2, sg, re', hd⟩
  have hgd : gok gd S' := by
    cases q : xs.drop i with
    | nil => rw [q, dLoop] at hd; exact hd.1
    | cons y z => rw [q, dLoop] at hd; exact hd.1
  obtain ⟨h1, h2⟩ := hJ G' H' S' sg s2.rel hgd i
  by_cases hlt : i < xs.length
  · obtain ⟨hgo, hy⟩ := h1 hlt
    refine .inr ⟨hgo, fun σ3 H3 => ∃ G3 δ3 S3, Stp X.K G H S G3 H3 S3 ∧ Same G1 G3 ∧ RpE X.K G3 σ3 δ3 ∧ dLoop gd q tb E (xs.drop (i + 1)) δ3 S3, fun σ3 H3 ⟨G3, δ3, S3, a1, a2, a3, a4⟩ => ⟨xs.length - (i + 1), by omega, rfl, G3, δ3, S3, a1, a2, a3, a4⟩, fun x H3 yl => ?_⟩
    obtain ⟨G3, s3, rx⟩ := hy x H3 yl
    have ed : xs[i]? = some (xs[i]) := by simp [hlt]
    have rx := rx _ ed
    rw [List.drop_eq_getElem_cons hlt, dLoop] at hd
    replace hd := hd.2
    split at hd
    · rename_i δ4 e4
      obtain ⟨σ4, a1, a2, a3⟩ := pG_run s3.rel _ _ x σ' δ' δ4 (re'.mono s3.sg) rx e4
      refine a1 _ ?_
      have s23 := s2.trans s3
      refine ⟨G3, δ4, S', _, a2, s3.rel, hd, ?_⟩
      exact ⟨fun G5 H5 S5 σ5 δ5 s5 r5 q5 => ⟨G5, δ5, S5, s23.trans s5, (sg.trans s3.sg).trans s5.sg, r5, q5⟩, fun G5 H5 S5 v d s5 r5 q5 => er.rt _ _ _ _ _ (s23.trans s5) r5 q5, fun G5 H5 S5 σ5 δ5 s5 r5 q5 => er.nx _ _ _ _ _ (s23.trans s5) r5 q5,
        fun G5 H5 S5 σ5 δ5 s5 r5 q5 => ⟨G5, δ5, S5, s23.trans s5, (sg.trans s3.sg).trans s5.sg, r5, q5⟩, fun G5 H5 S5 σ5 δ5 cls d x s5 r5 rx5 q5 => er.xc _ _ _ _ _ _ _ _ (s23.trans s5) r5 rx5 q5⟩
    · exact hd.elim
  · have hle : xs.length ≤ i := by omega
    refine .inl ⟨h2 hle, ?_⟩
    rw [List.drop_of_length_le hle, dLoop] at hd
    exact er.nx _ _ _ _ _ s2 re' hd.2)⟩
def rngD (a b : Int) : List D := (List.range (b - a).toNat).map fun i => .int (a + (i : Nat))
theorem it_range {lo : Int} {n : Nat} (xs : List D) (h : xs = (List.range n).map fun i => .int (lo + (i : Nat))) : ItD K G none (Itr lo n) xs := by
  subst h
  intro G1 H1 S1 sg rl _ i
  refine ⟨fun hi => ⟨(by simpa using hi : i < n), fun x H2 yl => ?_⟩, fun hi => (by simpa using hi : n ≤ i)⟩
  obtain ⟨e1, e2⟩ := yl
  subst e1 e2
  refine ⟨G1, Stp.refl rl, fun d hd => ?_⟩
  have hi' : i < n := by simpa using hi
  simp [hi'] at hd
  subst hd
  exact .int _
def dRng1 (t : DTA) : DTI := fun δ S Q X => t δ S (fun ds S1 => match ds with
  | [.int n] => (-16777216 ≤ n ∧ n ≤ 16777216) ∧ Q none (rngD 0 n) S1
  | _ => False) X
theorem rngD_len (a b : Int) : (rngD a b).length = (b - a).toNat := by simp [rngD]
theorem di_rng1 {tg : Expr} {t : DTA} (hg : Gl X "range") (hm : X.mg "range" = none) (ha : PDA X [a] t) (hs : starEach [a] X.env = [(false, eval a X.env)] := by rfl) : PDI X tg (.Call (.Name "range" p) [a] [] pos) (dRng1 t) := ⟨fun W tk => PI.weak (pi_range1 hg hm (ha.run W tk) hs) (by
  rintro σ H R ⟨G, δ, S, QD, XD, re, rl, h, kq, kx⟩
  refine ⟨G, δ, S, _, XD, re, rl, h, fun G1 H1 S1 vs ds s1 rs q => ?_, kx⟩
  split at q
  · rename_i n
    cases rs with
    | cons r1 r2 =>
    cases r2
    cases r1
    have hs : sizeLine = 16777216 := sizeLine_eq
    exact ⟨n, rfl, by omega, by omega, kq _ _ _ _ none _ s1 (it_range _ (by simp [rngD])) (by rw [rngD_len]; omega) q.2⟩
  · exact q.elim)⟩
def dItems (t : DTE) : DTI := fun δ S Q X => t δ S (fun d S1 => match d with
  | .lst ds => Q none ds S1
  | .tup ds => Q none ds S1
  | .str s => Q none (s.cps.toList.map fun c => .str (one c)) S1
  | .adr a => ownk S1 a fun o => (match o with
    | some (.lst ds) => Q (some (a, .lst ds)) ds S1
    | _ => False)
  | _ => False) X
theorem PI.or {tg : Expr} {t t' : TI} (h : PI X tg e t) (h' : PI X tg e t') : PI X tg e (fun σ H R => t σ H R ∨ t' σ H R) := ⟨fun pins s σ H R I q => q.elim (h.run pins s σ H R I) (h'.run pins s σ H R I)⟩
theorem it_lst {q : Addr} {vs : List V} {ds : List D} (h : G q = some (.lst vs)) (r : Rps K G vs ds) : ItD K G none (Itl K q) ds := by
  intro G1 H1 S1 sg rl _ i
  have hq : SqL K H1 q vs := SqL.of (rl.at (sg _ _ h) rfl)
  refine ⟨fun hi => ⟨⟨vs, vs[i]'(by rw [r.length]; exact hi), hq, by simp⟩, fun x H2 yl => ?_⟩, fun hi => ⟨vs, hq, by rw [r.length]; exact hi⟩⟩
  obtain ⟨e1, e2⟩ := yl
  subst e1
  refine ⟨G1, Stp.refl rl, fun d hd => ?_⟩
  obtain ⟨v, z1, z2⟩ := r.get hd
  have := e2 vs hq
  rw [z1] at this
  cases this
  exact z2.mono sg
theorem it_own {q : Addr} {ds : List D} : ItD K G (some (q, .lst ds)) (Itl K q) ds := by
  intro G1 H1 S1 sg rl hgd i
  obtain ⟨vs, e1, r, e3⟩ := (rl.own q _ hgd).2
  have hq : SqL K H1 q vs := SqL.of e1
  refine ⟨fun hi => ⟨⟨vs, vs[i]'(by rw [r.length]; exact hi), hq, by simp⟩, fun x H2 yl => ?_⟩, fun hi => ⟨vs, hq, by rw [r.length]; exact hi⟩⟩
  obtain ⟨e1, e2⟩ := yl
  subst e1
  refine ⟨G1, Stp.refl rl, fun d hd => ?_⟩
  obtain ⟨v, z1, z2⟩ := r.get hd
  have := e2 vs hq
  rw [z1] at this
  cases this
  exact z2
theorem it_tup {q : Addr} {vs : List V} {ds : List D} (h : G q = some (.tup vs)) (r : Rps K G vs ds) : ItD K G none (Itt K q) ds := by
  intro G1 H1 S1 sg rl _ i
  have hq : SqT K H1 q vs := SqT.of (rl.at (sg _ _ h) rfl)
  refine ⟨fun hi => ⟨⟨vs, vs[i]'(by rw [r.length]; exact hi), hq, by simp⟩, fun x H2 yl => ?_⟩, fun hi => ⟨vs, hq, by rw [r.length]; exact hi⟩⟩
  obtain ⟨e1, e2⟩ := yl
  subst e1
  refine ⟨G1, Stp.refl rl, fun d hd => ?_⟩
  obtain ⟨v, z1, z2⟩ := r.get hd
  have := e2 vs hq
  rw [z1] at this
  cases this
  exact z2.mono sg
theorem it_str {z : Str} (hz : okS z) : ItD K G none (Its z) (z.cps.toList.map fun c => .str (one c)) := by
  intro G1 H1 S1 sg rl _ i
  refine ⟨fun hi => ⟨(by simpa using hi : i < z.cps.size), fun x H2 yl => ?_⟩, fun hi => (by simpa using hi : z.cps.size ≤ i)⟩
  obtain ⟨e1, c, e2, e3⟩ := yl
  subst e1 e3
  refine ⟨G1, Stp.refl rl, fun d hd => ?_⟩
  have h2 : z.cps.toList[i]? = some c := by rw [Array.getElem?_toList]; exact e2
  rw [List.getElem?_map, h2] at hd
  cases hd
  refine .str (okS_sub (s := z) hz (fun q hq => ?_) ?_)
  · have : q = c := by simpa using hq
    subst this
    exact List.mem_of_getElem? h2
  · have := Array.getElem?_eq_some_iff.mp e2
    obtain ⟨h, _⟩ := this
    show 1 ≤ z.cps.size
    omega
def iAny (K : PySem.W.Frag) (te : TE) : TI := fun σ H R => te σ H fun x H1 => (∃ q vs, x = .ref q ∧ SqL K H1 q vs ∧ R (Itl K q) H1) ∨ (∃ q vs, x = .ref q ∧ SqT K H1 q vs ∧ R (Itt K q) H1) ∨ ∃ z, x = .str z ∧ R (Its z) H1
theorem pi_any {tg : Expr} {te : TE} (he : PE X e te) : PI X tg e (iAny X.K te) := by
  constructor
  intro pins s σ H R I h
  apply thn (he.run pins s σ H _ I h)
  rintro v s1 ⟨y, H1, I1, r1, q1⟩
  rcases q1 with ⟨q, vs, rfl, hq, hR⟩ | ⟨q, vs, rfl, hq, hR⟩ | ⟨z, rfl, hR⟩
  · obtain rfl : v = Value.ref q := r1
    obtain ⟨its, _, pl, _⟩ := I1.list hq
    exact wpAny_pyIter_list pl.isList (pi_one (tk := s1.toks) I1 _ (turn_list q _) ⟨_, Heap.get?_push_size _ rfl, rfl, rfl⟩ hR)
  · obtain rfl : v = Value.ref q := r1
    obtain ⟨its, _, pl, _⟩ := I1.tuple hq
    exact wpAny_pyIter_tuple (show s1.heap.IsTuple q its.toArray from pl) (pi_one (tk := s1.toks) I1 _ (turn_tuple q _) ⟨_, Heap.get?_push_size _ rfl, rfl, rfl⟩ hR)
  · obtain ⟨tk, rfl⟩ := r1
    by_cases hA : z.cps.all (fun c => decide (c < 128)) = true
    · exact wpAny_pyIter_ascii hA (pi_one (tk := s1.toks) I1 _ (turn_str _ z tk "str_ascii_iterator" (Or.inl rfl)) ⟨_, Heap.get?_push_size _ rfl, rfl, rfl⟩ hR)
    · exact wpAny_pyIter_wide (Bool.eq_false_iff.mpr hA) (pi_one (tk := s1.toks) I1 _ (turn_str _ z tk "str_iterator" (Or.inr rfl)) ⟨_, Heap.get?_push_size _ rfl, rfl, rfl⟩ hR)
theorem di_items {tg : Expr} {t : DTE} (ha : PD X a t) : PDI X tg a (dItems t) := ⟨fun W tk => PI.weak (pi_any (ha.run W tk)) (by
  rintro σ H R ⟨G, δ, S, QD, XD, re, rl, h, kq, kx⟩
  refine ⟨G, δ, S, _, XD, re, rl, h, fun G1 H1 S1 v d s1 rv q => ?_, kx⟩
  split at q
  · cases rv with
    | lst hg rs l => exact .inl ⟨_, _, rfl, SqL.of (s1.rel.at hg rfl), kq _ _ _ _ none _ s1 (it_lst hg rs) l q⟩
  · cases rv with
    | tup hg rs l => exact .inr (.inl ⟨_, _, rfl, SqT.of (s1.rel.at hg rfl), kq _ _ _ _ none _ s1 (it_tup hg rs) l q⟩)
  · cases rv with
    | str hz => exact .inr (.inr ⟨_, rfl, kq _ _ _ _ none _ s1 (it_str hz) (by simp only [List.length_map, Array.length_toList]; exact hz.1) q⟩)
  · rename_i a
    rw [ownk_is] at q
    split at q
    · rename_i ds e
      cases rv
      obtain ⟨vs, e1, e2, e3⟩ := (s1.rel.own a _ e).2
      exact .inl ⟨_, _, rfl, SqL.of e1, kq _ _ _ _ (some (a, .lst ds)) _ s1 it_own e3 q⟩
    · exact q.elim
  · exact q.elim)⟩
end
end SM
namespace SM
open PySem PySem.Spec PyProof.Rows L2
variable {K : PySem.W.Frag} {G G' G2 H H' H2 : Hp} {S S' S2 : Sto}
theorem startD_len : ∀ (N : List Str) (ds : List D), (startD N ds).length = N.length
  | [], _ => rfl
  | _ :: n, [] => congrArg Nat.succ (startD_len n [])
  | _ :: n, _ :: ds => congrArg Nat.succ (startD_len n ds)
theorem startD_nth : ∀ (N : List Str) (ds : List D) (i : Nat) (d : D), nth (startD N ds) i = some d → ds[i]? = some d
  | [], _, _, _, h => by simp [startD, nth] at h
  | _ :: n, [], 0, _, h => by simp [startD, nth] at h
  | _ :: n, [], i + 1, d, h => by have := startD_nth n [] i d (by simpa [startD, nth] using h); simp at this
  | _ :: n, e :: ds, 0, d, h => by simpa [startD, nth] using h
  | _ :: n, e :: ds, i + 1, d, h => by simpa using startD_nth n ds i d (by simpa [startD, nth] using h)
theorem startD_rpe {N : List Str} {vs : List V} {ds : List D} (r : Rps K G vs ds) (hl : ds.length ≤ N.length) : RpE K G (L2.start N vs) (startD N ds) := by
  refine ⟨?_, fun i d h => ?_⟩
  · rw [startD_len, L2.start, List.length_append, List.length_map, List.length_replicate, r.length]; omega
  · obtain ⟨v, h1, h2⟩ := r.get (startD_nth N ds i d h)
    refine ⟨v, ?_, h2⟩
    have hi := (List.getElem?_eq_some_iff.mp h1).1
    rw [L2.start, List.getElem?_append_left (by rw [List.length_map]; exact hi), List.getElem?_map, h1]
    rfl
section
variable {P : Program} {w : World} {mg : Str → Option Value} {base : Heap}
theorem fnD {x qual : Str} {params : Arguments} {body : List Stmt} {scope : Scope} {dvs : List V} {kws : List (Str × V)} {f : Addr} {fd : FuncData} {N ps : List Str} {k : Nat} (F : FunD K x qual params body scope dvs kws f fd) (Sc : FnScope N ps scope) (R : DSp)
    (len : ∀ ds S Q E, R ds S Q E → ds.length = ps.length) (hps : ps.length ≤ N.length)
    (hb : ∀ (cdv : Value) (A : Around) (outer : List Env) (s : Shared) (H : Hp) (E : XK), Room k (A.deeper (envOfC qual scope s.heap.objs.size f cdv)) → ∃ ts, PDSs (cxOf (L2N.CX P w) P w K mg base N qual scope f cdv A outer s H E) body ts ∧
      ∀ ds S QD XD, R ds S QD XD → ts ⟨fun _ S' => QD .non S', QD, fun _ _ => False, fun _ _ => False, fun x _ S' => XD x S'⟩ (startD N ds) S) : FnOk P w K mg base (L2N.CX P w) (k + 1) f fd ps (toSp K R) := by
  refine F.ok Sc (fun vs H Q E h => ?_) (fun cdv A outer s H vs Q E hr h => ?_)
  · obtain ⟨G, S, ds, QD, XD, _, rs, h, _⟩ := h
    rw [rs.length]; exact len _ _ _ _ h
  · obtain ⟨G, S, ds, QD, XD, rl, rs, h, kq, kx⟩ := h
    obtain ⟨ts, p, q⟩ := hb cdv A outer s H E hr
    refine ⟨liftS K (fun cls d _ H => E cls d H) ts, p.run _ (L2N.takes_of rfl rfl rfl rfl) (passes_of rfl), ⟨G, startD N ds, S, _, startD_rpe rs (by rw [len _ _ _ _ h]; exact hps), rl, q ds S QD XD h, ?_⟩⟩
    exact ⟨fun G1 H1 S1 σ δ s1 _ q => kq _ _ _ _ _ s1 .non q, fun G1 H1 S1 v d s1 r q => kq _ _ _ _ _ s1 r q, fun _ _ _ _ _ _ _ q => q.elim, fun _ _ _ _ _ _ _ q => q.elim, fun G1 H1 S1 σ δ cls d x s1 _ r q => kx _ _ _ _ _ _ s1 r q⟩
end
section
variable {X : Cx} {e a b c o i : Expr} {es : List Expr} {st : Stmt} {sts rest : List Stmt} {pos p apos cpos pos' : Pos} {W : WX} {k : Nat} {x m : Str} {t : DTA} {te : DTE} {f C : Addr} {fd : FuncData} {ps : List Str} {R : DSp} {dvs : List V} {dds : List D} {ds : List Value}
def dCall (R : DSp) (dds : List D) (t : DTA) : DTE := fun δ S Q X => t δ S (fun ds S1 => R (ds ++ dds) S1 Q X) X
theorem sim_call {σ : L2.St} {H : Hp} {Q : VK} (hdd : ∀ G, Rps K G dvs dds) (h : liftE K W (dCall R dds t) σ H Q) : liftA K W t σ H fun vs H1 => toSp K R (vs ++ dvs) H1 Q (WE W σ) := by
  obtain ⟨G, δ, S, QD, XD, re, rl, h, kq, kx⟩ := h
  exact ⟨G, δ, S, _, XD, re, rl, h, fun G1 H1 S1 vs ds s1 rs q => ⟨G1, S1, ds ++ dds, QD, XD, s1.rel, rs.append (hdd G1), q, fun G2 H2 S2 v d s2 r q => kq _ _ _ _ _ (s1.trans s2) r q, fun G2 H2 S2 cls d x s2 r q => kx _ _ _ _ _ _ (s1.trans s2) r q⟩, kx⟩
theorem de_call (F : FnOk X.prog X.w X.K X.mg X.base (L2N.CX X.prog X.w) k f fd ps (toSp X.K R)) (hr : Room k X.A) (hg : Gl X x) (hm : X.mg x = some (.ref f)) (hk : PySem.W.keepIn X.K (.ref f) = true) (hb : Binds X.K fd ps ds) (hd : Vals dvs ds) (hdd : ∀ G, Rps X.K G dvs dds)
    (ha : PDA X (e :: es) t) (hdb : (x == ("__debug__" : Str)) = false := by decide) (he : starEach (e :: es) X.env = (false, eval e X.env) :: starEach es X.env := by rfl) (hpl : (backTo pos (starEach es X.env)).any (·.1) = false := by rfl) :
    PD X (.Call (.Name x p) (e :: es) [] pos) (dCall R dds t) := ⟨fun W tk => PE.weak (pe_callSD (E := WE W) F hr hg hm hk hb hd (fun σ => L2N.passAt tk σ) (ha.run W tk) hdb he hpl) fun σ H Q h => sim_call hdd h⟩
end
end SM
namespace SM
open PySem PySem.Spec PyProof.Rows L2
variable {K : PySem.W.Frag} {G G' G2 H H' H2 : Hp} {S S' S2 : Sto}
section
variable {X : Cx} {e a b c o i : Expr} {es : List Expr} {st : Stmt} {sts rest : List Stmt} {pos p apos cpos pos' : Pos} {W : WX} {k : Nat} {x m fl : Str} {t : DTA} {te to : DTE} {f C : Addr} {fd : FuncData} {ps : List Str} {R : DSp} {dvs : List V} {dds : List D} {ds : List Value}
def Bt.is : Bt → D → Bool
  | .lst, .lst _ => true
  | .str, .str _ => true
  | .dct, .dT _ => true
  | _, _ => false
def dBM (T : Bt) (r : RCD) (to : DTE) (t : DTA) : DTE := fun δ S Q X => to δ S (fun x S1 => vwk S1 x fun x' => match T.is x' with
  | true => t δ S1 (fun ds S2 => r (x :: ds) S2 Q) X
  | false => False) X
theorem MtR.weak {id : String} {r r' : V → List V → Hp → VK → Prop} (h : MtR X id r) (w : ∀ x xs H Q, r' x xs H Q → r x xs H Q) : MtR X id r' := fun pins s σ H x xs v us Q I rx rs q => h pins s σ H x xs v us Q I rx rs (w x xs H Q q)
theorem bt_ty (rl : Rel K G H S) {T : Bt} {v : V} {d : D} (r : Rp K G v d) (h : T.is (vw S d) = true) (hT : T ≠ .dct) : tyV K T.nm v H := by
  cases e : vw S d with
  | lst ds =>
    rw [e] at h
    obtain ⟨q, vs, rfl, hq, _, _⟩ := vw_lst rl r e
    cases T <;> simp [Bt.is] at h
    exact .inl ⟨rfl, vs, SqL.of hq⟩
  | str z =>
    rw [e] at h
    obtain ⟨e1, _⟩ := (vw_scal r).2.2.1 _ e
    subst e1
    cases T <;> simp [Bt.is] at h
    rfl
  | _ => rw [e] at h; cases T <;> simp [Bt.is] at h hT
theorem sim_bm {T : Bt} {r : RCD} (hT : T ≠ .dct) : ∀ σ H Q, liftE K W (dBM T r to t) σ H Q → tBM K T.nm (liftM K r) (liftE K W to) (liftA K W t) σ H Q := by
  rintro σ H Q ⟨G, δ, S, QD, XD, re, rl, h, kq, kx⟩
  refine ⟨G, δ, S, _, XD, re, rl, h, fun G1 H1 S1 v d s1 rv q => ?_, kx⟩
  simp only [vwk_is] at q
  split at q
  · rename_i ht
    exact ⟨bt_ty s1.rel rv ht hT, G1, δ, S1, _, XD, re.mono s1.sg, s1.rel, q, fun G2 H2 S2 vs ds s2 rs q2 => ⟨G2, S2, _, QD, s2.rel, .cons (rv.mono s2.sg) rs, q2, fun G3 H3 S3 v d s3 r q => kq _ _ _ _ _ ((s1.trans s2).trans s3) r q⟩, kx.step s1⟩
  · exact q.elim
abbrev FewA (X : Cx) (q : Pos) (l : List Expr) : Prop := ((backTo q (starEach l X.env)).all (fun x => !x.1) && (backToKw q (keywordEach [] X.env)).all (fun x => x.1.isSome) && decide (l.length + ([] : List Keyword).length + (if ([] : List Keyword).isEmpty then 0 else 1) < 30)) = true
theorem de_bm {T : Bt} {r : RCD} {name : Str} {id : String} (hT : T ≠ .dct) (pa : PlainAttrs T.nm) (slot : Slot T.nm name id) (hty : typeOf (.builtin id) = pure (.type "method_descriptor")) (hm : MtR X id (liftM X.K r)) (ho : PD X o to) (ha : PDA X (e :: es) t)
    (hbase : attributeBase o name X.env (eval o X.env) = eval o X.env := by rfl) (hfew : FewA X cpos (e :: es) := by rfl) (hline : (apos.endLine == cpos.line) = true := by rfl) (he : starEach (e :: es) X.env = (false, eval e X.env) :: starEach es X.env := by rfl) (hpl : (backTo cpos (starEach es X.env)).any (·.1) = false := by rfl) :
    PD X (.Call (.Attribute o name apos) (e :: es) [] cpos) (dBM T r to t) := ⟨fun W tk => PE.weak (pe_bm pa slot hty hm (ho.run W tk) (ha.run W tk) hbase hfew hline he hpl) (sim_bm hT)⟩
def appD : RCD := fun ds S Q => match ds with
  | [.adr q, d] => ownk S q fun oo => (match oo with
    | some (.lst es) => es.length < sizeLine ∧ Q .non (su S q (.lst (es ++ [d])))
    | _ => False)
  | _ => False
theorem m_append : MtR X "list.append" (liftM X.K appD) := MtR.weak mt_append (by
  rintro x xs H Q ⟨G, S, ds, QD, rl, rs, h, kq⟩
  unfold appD at h
  split at h
  · rename_i q d
    cases rs with
    | cons r1 r2 =>
    cases r2 with
    | cons r2 r3 =>
    cases r3
    cases r1
    simp only [ownk_is] at h
    split at h
    · rename_i es eS
      obtain ⟨_, vs, e1, re, l1⟩ := rl.own q _ eS
      refine ⟨q, vs, _, rfl, rfl, e1, by rw [re.length]; exact h.1, ?_⟩
      exact kq _ _ _ _ _ (Stp.mut (o' := .lst (es ++ [d])) rl eS ⟨_, rfl, re.append (.cons r2 .nil), by rw [List.length_append]; exact h.1⟩) .non h.2
    · exact h.elim
  · exact h.elim)
end
end SM
namespace SM
open PySem PySem.Spec PyProof.Rows L2
variable {K : PySem.W.Frag} {G G' G2 H H' H2 : Hp} {S S' S2 : Sto}
section
variable {k : D → Prop} {ko : Option OO → Prop} {ds : List D} {kvs : List (List Key × D)} {c : Nat} {a b : Addr} {o u : OO}
theorem vk_non (q : k .non) : vwk S .non k := vwk_of rfl q
theorem vk_bl {z : Bool} (q : k (.bl z)) : vwk S (.bl z) k := vwk_of rfl q
theorem vk_int {z : Int} (q : k (.int z)) : vwk S (.int z) k := vwk_of rfl q
theorem vk_str {z : Str} (q : k (.str z)) : vwk S (.str z) k := vwk_of rfl q
theorem vk_tup (q : k (.tup ds)) : vwk S (.tup ds) k := vwk_of rfl q
theorem vk_lst (q : k (.lst ds)) : vwk S (.lst ds) k := vwk_of rfl q
theorem vk_dT (q : k (.dT kvs)) : vwk S (.dT kvs) k := vwk_of rfl q
theorem vk_ins (q : k (.ins c ds)) : vwk S (.ins c ds) k := vwk_of rfl q
theorem vw_own {a : Addr} : ∀ {o : OO}, S a = some o → vw S (.adr a) = (match o with | .lst ds => .lst ds | .dT kvs => .dT kvs | .ins c ds => .ins c ds | .dF _ _ kvs => .dT kvs | .dK _ => .adr 0 | .kF _ _ _ => .adr 0 | .exo _ _ _ => .adr 0)
  | .lst _, h => by simp [vw, h]
  | .dF _ _ _, h => by simp [vw, h]
  | .dT _, h => by simp [vw, h]
  | .ins _ _, h => by simp [vw, h]
  | .dK _, h => by simp [vw, h]
  | .kF _ _ _, h => by simp [vw, h]
  | .exo _ _ _, h => by simp [vw, h]
def ofO : OO → D
  | .lst ds => .lst ds
  | .dT kvs => .dT kvs
  | .ins c ds => .ins c ds
  | .dF _ _ kvs => .dT kvs
  | .dK _ | .kF _ _ _ | .exo _ _ _ => .adr 0
theorem vk_o (h : S a = some o) (q : k (ofO o)) : vwk S (.adr a) k := vwk_of (by rw [vw_own h]; cases o <;> rfl) q
theorem ok_o (h : S a = some o) (q : ko (some o)) : ownk S a ko := ownk_of h q
theorem brT {A B : Prop} (h : A) : brn true A B := by rw [brn_t]; exact h
theorem brF {A B : Prop} (h : B) : brn false A B := by rw [brn_f]; exact h
theorem ik_map {α : Type} {f : α → D} {xs : List α} {i : Nat} {kk : D → Prop} (h : i < xs.length) (q : kk (f xs[i])) : itk (xs.map f) (i : Int) kk := itk_of (atI_nat (by rw [List.getElem?_map]; simp [h])) q
theorem brP {c : Prop} [Decidable c] {A B : Prop} (h1 : c → A) (h2 : ¬ c → B) : brn (decide c) A B := brn_of (fun h => h1 (of_decide_eq_true h)) (fun h => h2 (of_decide_eq_false h))
end
section
variable {X : Cx} {st : Stmt} {rest : List Stmt} {t u : DTS}
def dCut (t u : DTS) : DTS := fun E δ S => cutK t u E δ S
theorem dss_cut (h1 : PDS X st t) (h2 : PDSs X rest u) : PDSs X (st :: rest) (dCut t u) := ⟨fun W tk po => PSs.weak (pss_cons (h1.run W tk po) (h2.run W tk po)) (by
  rintro D σ H ⟨G, δ, S, E, re, rl, ⟨M, h, hm⟩, er⟩
  exact ⟨G, δ, S, _, re, rl, h, ⟨fun G1 H1 S1 σ1 δ1 s1 re1 q => ⟨G1, δ1, S1, E, re1, s1.rel, hm _ _ q, er.step s1⟩, er.rt, er.bk, er.ct, er.xc⟩⟩)⟩
end
def bagO (b : Bag) : OO := .lst [.lst (b.cells.map D.int), .int b.at_, .int b.big, .int b.seed]
end SM
namespace SM
open PySem PySem.Spec PyProof.Rows L2
variable {K : PySem.W.Frag} {G G' G2 H H' H2 G0 H0 : Hp} {S S' S2 S0 : Sto}
theorem Stp.newH (r : Rel K G H S) {p : Addr} {o : HO} (h : H p = none) : Stp K G H S G (upd H p o) S where
  sg := fun _ _ e => e
  rel := {
    le := fun b w e => by
      have hb : b ≠ p := ne_of_none e (r.free h).1
      rw [upd_ne hb]; exact r.le b w e
    own := fun b w e => by
      have hb : b ≠ p := st_ne e (r.free h).2
      rw [upd_ne hb]; exact r.own b w e }
  fr := fun b w e g s => by
    have hb : b ≠ p := ne_of_none e h
    rw [upd_ne hb]; exact ⟨e, s, .inl g⟩
theorem Stp.mutH (s : Stp K G0 H0 S0 G H S) {p : Addr} {o : HO} (h0 : H0 p = none) (hg : G p = none) (hs : S p = none) : Stp K G0 H0 S0 G (upd H p o) S where
  sg := s.sg
  rel := {
    le := fun b w e => by
      have hb : b ≠ p := ne_of_none e hg
      rw [upd_ne hb]; exact s.rel.le b w e
    own := fun b w e => by
      have hb : b ≠ p := st_ne e hs
      rw [upd_ne hb]; exact s.rel.own b w e }
  fr := fun b w e g z => by
    have hb : b ≠ p := ne_of_none e h0
    rw [upd_ne hb]; exact s.fr b w e g z
theorem Stp.frzH (s : Stp K G0 H0 S0 G H S) {p : Addr} {o : HO} (h0 : H0 p = none) (hg : G p = none) (hs : S p = none) (hp : H p = some o) : Stp K G0 H0 S0 (upd G p o) H S where
  sg := fun b w e => by
    have := s.sg b w e
    rw [upd_ne (ne_of_none this hg)]; exact this
  rel := {
    le := fun b w e => by
      by_cases hb : b = p
      · subst hb; rw [upd_same] at e; cases e; exact .inl hp
      · rw [upd_ne hb] at e; exact s.rel.le b w e
    own := fun b w e => by
      have hb : b ≠ p := st_ne e hs
      rw [upd_ne hb]
      refine ⟨(s.rel.own b w e).1, (s.rel.own b w e).2.mono fun c w q => ?_⟩
      rw [upd_ne (ne_of_none q hg)]; exact q }
  fr := fun b w e g z => by
    have hb : b ≠ p := ne_of_none e h0
    rw [upd_ne hb]; exact s.fr b w e g z
theorem uns_rpe {σ : L2.St} {δ : DS} (h : RpE K G σ δ) : ∀ vs : List Nat, RpE K G (wipe σ vs) (uns δ vs)
  | [] => h
  | v :: vs => (uns_rpe h vs).unset v
theorem wipe_at (σ : L2.St) : ∀ (vs : List Nat) (i : Nat), (wipe σ vs)[i]? = if i ∈ vs then (σ[i]?).map (fun _ => none) else σ[i]?
  | [], i => by simp [wipe]
  | v :: vs, i => by
    rw [wipe]
    by_cases hv : v = i
    · subst hv
      rw [List.getElem?_set_self']
      rw [wipe_at σ vs v]
      by_cases hm : v ∈ vs
      · simp [hm]
        cases σ[v]? <;> rfl
      · simp [hm]
        cases σ[v]? <;> rfl
    · rw [List.getElem?_set_ne hv, wipe_at σ vs i]
      have : ¬ i = v := fun z => hv z.symm
      simp [this]
theorem wipe_agr {σ σ2 : L2.St} {vs l : List Nat} (h : Agr l (wipe σ vs) σ2) (hl : ∀ i ∈ l, i ∈ vs) : wipe σ2 vs = wipe σ vs := by
  apply List.ext_getElem?
  intro i
  rw [wipe_at σ2 vs i]
  by_cases hi : i ∈ vs
  · rw [if_pos hi, wipe_at σ vs i, if_pos hi]
    have hlen : σ2.length = σ.length := by rw [h.1, wipe_length]
    by_cases hb : i < σ.length
    · rw [List.getElem?_eq_getElem (by omega), List.getElem?_eq_getElem hb]; rfl
    · rw [List.getElem?_eq_none (by omega), List.getElem?_eq_none (by omega)]
  · rw [if_neg hi]
    exact h.2 i fun z => hi (hl i z)
def dYes : DTT := fun _ S Q _ => Q true S
theorem lcK_is {gd : Gd} {q : Pat} {tt : DTT} {te : DTE} {δ : DS} {xs : List D} {S : Sto} {Q : List D → Sto → Prop} : lcK gd q tt te δ xs S Q = dLcL gd q tt te δ xs S Q := propext ⟨fun h => h.it, fun h => ⟨h⟩⟩
def dLc (ti : DTI) (q : Pat) (tt : DTT) (te : DTE) (vs : List Nat) : DTE := fun δ S Q X => ti δ S (fun gd xs S1 => lcK gd q tt te (uns δ vs) xs S1 (fun ds S2 => Q (.lst ds) S2)) X
section
variable {X : Cx} {e a b c o i : Expr} {pos p : Pos} {W : WX} {k : Nat}
theorem PTs.weak {ifs : List Expr} {t t' : TT} (h : PTs X ifs t) (w : ∀ σ H Q, t' σ H Q → t σ H Q) : PTs X ifs t' := ⟨fun pins s σ H Q I q => h.run pins s σ H Q I (w σ H Q q)⟩
theorem dts_nil : PDTs X [] dYes := ⟨fun W tk => PTs.weak pts_nil (by
  rintro σ H Q ⟨G, δ, S, QD, XD, re, rl, h, kq, kx⟩
  exact kq _ _ _ _ (Stp.refl rl) h)⟩
abbrev W0 : WX := fun _ _ _ _ => False
theorem kx0 {σ : L2.St} : KX K W0 σ G H S noX := fun _ _ _ _ _ _ _ _ z => z
theorem LcI.step {A : Addr} {acc : List D} (I : LcI K G0 H0 S0 A G H S acc) (s : Stp K G H S G' H' S') : LcI K G0 H0 S0 A G' H' S' acc := by
  obtain ⟨vs, e, r⟩ := I.ex
  obtain ⟨e1, e2, e3⟩ := s.fr A _ e I.hg I.hs
  refine ⟨I.st.trans s, ⟨vs, e1, r.mono s.sg⟩, ?_, e2⟩
  rcases e3 with e3 | ⟨z, e3⟩
  · exact e3
  · cases e3
theorem LcI.more {A : Addr} {acc vs : List D} {us : List V} {v : V} {d : D} (I : LcI K G0 H0 S0 A G H S acc) (h0 : H0 A = none) (r : Rp K G v d) (hu : H A = some (.lst us)) : LcI K G0 H0 S0 A G (upd H A (.lst (us ++ [v]))) S (acc ++ [d]) := by
  obtain ⟨ws, e, rs⟩ := I.ex
  rw [hu] at e
  cases e
  exact ⟨I.st.mutH h0 I.hg I.hs, ⟨_, upd_same, rs.append (.cons r .nil)⟩, I.hg, I.hs⟩
theorem sim_lc {ti : DTI} {q : Pat} {tt : DTT} {te : DTE} {vs : List Nat} (hq : ∀ i ∈ slots q, i ∈ vs) (fin : DQ → List D → Sto → Prop)
    (hfin : ∀ G0 H0 S0 G H S A ds vv QD, Stp K G0 H0 S0 G H S → H0 A = none → G A = none → S A = none → H A = some (.lst vv) → Rps K G vv ds → ds.length ≤ sizeLine → fin QD ds S → ∃ G' S' d, Stp K G0 H0 S0 G' H S' ∧ Rp K G' (.ref A) d ∧ QD d S') :
    ∀ σ H Q, liftE K W (fun δ S Q X => ti δ S (fun gd xs S1 => dLcL gd q tt te (uns δ vs) xs S1 (fin Q)) X) σ H Q → tLc (liftI K W ti) (pG K q) (liftT K W0 tt) (liftE K W0 te) vs σ H Q := by
  rintro σ H Q ⟨G, δ, S, QD, XD, re, rl, h, kq, kx⟩
  refine ⟨G, δ, S, _, XD, re, rl, h, fun G1 H1 S1 J gd xs s1 hJ hl hd A hA => ?_, kx⟩
  have fA := s1.rel.free hA
  refine ⟨fun i m H' => m = xs.length - i ∧ i ≤ xs.length ∧ ∃ G' S' acc, LcI K G1 H1 S1 A G' H' S' acc ∧ acc.length ≤ i ∧ dLcL gd q tt te (uns δ vs) (xs.drop i) S' (fun ds S'' => fin QD (acc ++ ds) S''), ⟨xs.length, by simp, by simp, G1, S1, [], ⟨Stp.newH s1.rel hA, ⟨[], upd_same, .nil⟩, fA.1, fA.2⟩, by simp, by simpa using hd⟩, ?_⟩
  rintro i m H' ⟨rfl, hi, G', S', acc, I, la, hd'⟩
  have hgd : gok gd S' := by
    cases q : xs.drop i with
    | nil => rw [q, dLcL] at hd'; exact hd'.1
    | cons y z => rw [q, dLcL] at hd'; exact hd'.1
  obtain ⟨h1, h2⟩ := hJ G' H' S' I.st.sg I.st.rel hgd i
  by_cases hlt : i < xs.length
  · obtain ⟨hgo, hy⟩ := h1 hlt
    refine .inr ⟨hgo, fun H3 => ∃ G3 S3 acc3, LcI K G1 H1 S1 A G3 H3 S3 acc3 ∧ acc3.length ≤ i + 1 ∧ dLcL gd q tt te (uns δ vs) (xs.drop (i + 1)) S3 (fun ds S'' => fin QD (acc3 ++ ds) S''), fun H3 ⟨G3, S3, acc3, a1, a2, a3⟩ => ⟨xs.length - (i + 1), by omega, rfl, hlt, G3, S3, acc3, a1, a2, a3⟩, fun x H3 yl => ?_⟩
    obtain ⟨G3, s3, rx⟩ := hy x H3 yl
    have rx := rx _ (show xs[i]? = some xs[i] by simp [hlt])
    have I3 := I.step s3
    rw [List.drop_eq_getElem_cons hlt, dLcL] at hd'
    replace hd' := hd'.2
    split at hd'
    · rename_i δ2 e2
      have re3 : RpE K G3 (wipe σ vs) (uns δ vs) := uns_rpe (re.mono (s1.sg.trans (I.st.sg.trans s3.sg))) vs
      obtain ⟨σ2, a1, a2, a3⟩ := pG_run s3.rel _ _ x (wipe σ vs) (uns δ vs) δ2 re3 rx e2
      refine a1 _ ⟨wipe_agr a3 hq, ?_⟩
      refine ⟨G3, δ2, S', _, noX, a2, s3.rel, hd', fun G4 H4 S4 b s4 q4 => ?_, kx0⟩
      have I4 := I3.step s4
      cases b with
      | true =>
        rw [brn_t] at q4
        refine iteT ?_
        refine ⟨G4, δ2, S4, _, noX, a2.mono s4.sg, s4.rel, q4, fun G5 H5 S5 v d s5 rv q5 => ?_, kx0⟩
        have I5 := I4.step s5
        obtain ⟨us, e5, r5⟩ := I5.ex
        refine ⟨us, e5, by rw [r5.length]; omega, G5, S5, acc ++ [d], I5.more (vs := []) hA rv e5, by rw [List.length_append, List.length_singleton]; omega, ?_⟩
        simpa using q5
      | false =>
        rw [brn_f] at q4
        refine iteF ?_
        exact ⟨G4, S4, acc, I4, by omega, q4⟩
    · exact hd'.elim
  · have hle : xs.length ≤ i := by omega
    refine .inl ⟨h2 hle, ?_⟩
    rw [List.drop_of_length_le hle, dLcL] at hd'
    replace hd' := hd'.2
    obtain ⟨us, e5, r5⟩ := I.ex
    obtain ⟨G5, S5, d, s5, r6, q6⟩ := hfin G1 H1 S1 G' H' S' A _ us QD I.st hA I.hg I.hs e5 r5 (by omega) (by simpa using hd')
    exact kq _ _ _ _ _ (s1.trans s5) r6 q6
theorem fin_f : ∀ (G0 H0 : Hp) (S0 : Sto) (G H : Hp) (S : Sto) (A : Addr) (ds : List D) (vv : List V) (QD : DQ), Stp K G0 H0 S0 G H S → H0 A = none → G A = none → S A = none → H A = some (.lst vv) → Rps K G vv ds → ds.length ≤ sizeLine → QD (.lst ds) S → ∃ G' S' d, Stp K G0 H0 S0 G' H S' ∧ Rp K G' (.ref A) d ∧ QD d S' := by
  intro G0 H0 S0 G H S A ds vv QD s h0 hg hs hA r l q
  have s2 := s.frzH h0 hg hs hA
  refine ⟨_, S, _, s2, .lst upd_same (r.mono fun b w e => ?_) l, q⟩
  rw [upd_ne (ne_of_none e hg)]; exact e
section
variable {elt tg iter : Expr} {ifs : List Expr} {scope : Scope} {own : List (Str × Nat)} {ti : DTI} {q : Pat} {tt : DTT} {te : DTE}
theorem de_lc (hc : X.calm = true) (hN : X.N.Nodup) (hi : PDI X tg iter ti) (ok : BlkOk X.N X.env.scope scope own) (hg : ∀ s H C cl fp, PDP (Cx.bk X scope s H C cl fp) tg q) (ht : ∀ s H C cl fp, PDTs (Cx.bk X scope s H C cl fp) ifs tt) (he : ∀ s H C cl fp, PD (Cx.bk X scope s H C cl fp) elt te)
    (hq : ∀ i ∈ slots q, i ∈ own.map (·.2) := by decide) (hs : ∀ x, foldedSetIterable iter X.env x = pure x := by intro _; rfl) : PD X (.ListComp elt [⟨tg, iter, ifs, 0⟩] scope pos) (dLc ti q tt te (own.map (·.2))) := by
  unfold dLc
  simp only [lcK_is]
  exact ⟨fun W tk =>
  PE.weak (pe_lc hc hN (hi.run W tk) ok (fun s H C cl fp => (hg s H C cl fp).run) (fun s H C cl fp => (ht s H C cl fp).run W0 takes0N) (fun s H C cl fp => (he s H C cl fp).run W0 takes0N) hs) (sim_lc hq (fun Q ds S => Q (.lst ds) S) fin_f)⟩
end
end
end SM
namespace SM
open PySem PySem.Spec PyProof.Rows L2
variable {K : PySem.W.Frag} {G G' G2 H H' H2 G0 H0 : Hp} {S S' S2 S0 : Sto}
section
variable {X : Cx} {e a b c o i : Expr} {es : List Expr} {pos p py spos : Pos} {W : WX} {k : Nat} {x y : Str} {t : DTA} {te : DTE} {f C : Addr} {fd : FuncData} {ps : List Str} {R : DSp} {dvs : List V} {dds : List D} {ds : List Value}
section
variable {elt tg iter : Expr} {ifs : List Expr} {scope : Scope} {own : List (Str × Nat)} {ti : DTI} {q : Pat} {tt : DTT}
end
end
end SM
namespace SM
open PySem PySem.Spec PyProof.Rows L2
open PySem.W (EachIs AllAlike Sortable dataLe)
variable {K : PySem.W.Frag} {G G' G2 H H' H2 G0 H0 : Hp} {S S' S2 S0 : Sto}
section
variable {X : Cx} {k : Nat}
end
end SM
namespace SM
open PySem PySem.Spec PyProof.Rows L2
section
variable {X : Cx}
end
variable {K : PySem.W.Frag} {G G' G2 H H' H2 G0 H0 : Hp} {S S' S2 S0 : Sto}
theorem rkv_any : ∀ {ws : List (List Key × V)} {kvs : List (List Key × D)} (k : List Key), Rkv K G ws kvs → (ws.any fun p => decide (p.1 = k)) = (kvs.any fun p => decide (p.1 = k))
  | _, _, k, .nil => rfl
  | _, _, k, .cons r q => by rw [List.any_cons, List.any_cons, rkv_any k q]
theorem rkv_repl {v : V} {d : D} (rv : Rp K G v d) : ∀ {ws : List (List Key × V)} {kvs : List (List Key × D)} (k : List Key), Rkv K G ws kvs → Rkv K G (ws.map fun p => if p.1 = k then (p.1, v) else p) (kvs.map fun p => if p.1 = k then (p.1, d) else p)
  | _, _, k, .nil => .nil
  | _, _, k, @Rkv.cons _ _ k0 _ _ _ _ r q => by
    rw [List.map_cons, List.map_cons]
    by_cases e : k0 = k
    · simp only [e, if_true]; exact .cons rv (rkv_repl rv k q)
    · simp only [e, if_false]; exact .cons r (rkv_repl rv k q)
theorem rkv_snoc {k : List Key} {v : V} {d : D} (rv : Rp K G v d) : ∀ {ws : List (List Key × V)} {kvs : List (List Key × D)}, Rkv K G ws kvs → Rkv K G (ws ++ [(k, v)]) (kvs ++ [(k, d)])
  | _, _, .nil => .cons rv .nil
  | _, _, .cons r q => .cons r (rkv_snoc rv q)
theorem rkv_put {ws : List (List Key × V)} {kvs : List (List Key × D)} {v : V} {d : D} (k : List Key) (r : Rkv K G ws kvs) (rv : Rp K G v d) : Rkv K G (putK ws k v) (putD kvs k d) := by
  unfold putK putD
  rw [rkv_any k r]
  split
  · exact rkv_repl rv k r
  · exact rkv_snoc rv r
theorem DcI.step {A : Addr} {acc : List (List Key × D)} (I : DcI K G0 H0 S0 A G H S acc) (s : Stp K G H S G' H' S') : DcI K G0 H0 S0 A G' H' S' acc := by
  obtain ⟨vs, e, r⟩ := I.ex
  obtain ⟨e1, e2, e3⟩ := s.fr A _ e I.hg I.hs
  refine ⟨I.st.trans s, ⟨vs, e1, r.mono s.sg⟩, ?_, e2⟩
  rcases e3 with e3 | ⟨z, e3⟩
  · exact e3
  · cases e3
theorem DcI.more {A : Addr} {acc : List (List Key × D)} {us : List (List Key × V)} {v : V} {d : D} {k : List Key} (I : DcI K G0 H0 S0 A G H S acc) (h0 : H0 A = none) (r : Rp K G v d) (hu : H A = some (.dT us)) : DcI K G0 H0 S0 A G (upd H A (.dT (putK us k v))) S (putD acc k d) := by
  obtain ⟨ws, e, rs⟩ := I.ex
  rw [hu] at e
  cases e
  exact ⟨I.st.mutH h0 I.hg I.hs, ⟨_, upd_same, rkv_put k rs r⟩, I.hg, I.hs⟩
section
variable {X : Cx} {W : WX} {k : Nat}
end
end SM
namespace SM
open PySem PySem.Spec PyProof.Rows L2
open PySem.W (EachIs AllAlike Sortable dataLe KeyPure)
section
variable {prog : Program} {w : World} {A : Around} {E : Value → Shared → Prop} {s : Shared} {env : Env} {c : Str}
end
def pr (c : Int × Int) : D := .tup [.int c.1, .int c.2]
def roSort (l : List (Int × Int)) : List (Int × Int) := l.mergeSort fun p q => decide (p.2 < q.2 ∨ (p.2 = q.2 ∧ p.1 ≤ q.1))
variable {K : PySem.W.Frag} {G G' G2 H H' H2 G0 H0 : Hp} {S S' S2 S0 : Sto}
section
variable {X : Cx} {k : Nat}
end
end SM
namespace SM
open PySem PySem.Spec PyProof.Rows L2
variable {K : PySem.W.Frag} {G G' G2 H H' H2 : Hp} {S S' S2 : Sto}
section
variable {P : Program} {w : World} {mg : Str → Option Value} {base : Heap}
end
section
variable {X : Cx} {e o : Expr} {es : List Expr} {pos p apos : Pos} {W : WX} {k : Nat} {x m : Str} {t : DTA} {g C : Addr} {R : DSp} {pins : List (Addr × Obj)} {σ : L2.St} {s : Shared} {H : Hp} {A : Around} {E : Value → Shared → Prop}
end
end SM
namespace SM
open PySem PySem.Spec PyProof.Rows L2
open PySem.W (Looks)
variable {K : PySem.W.Frag} {G G' G2 H H' H2 : Hp} {S S' S2 : Sto}
section
variable {X : Cx} {k : Nat} {c : Nat} {oth : List Nat} {f : Addr} {fd : FuncData} {ps : List Str} {R : DSp} {A : Around} {pins : List (Addr × Obj)} {σ : L2.St} {s : Shared}
end
end SM
namespace SM
open PySem PySem.Spec PyProof.Rows L2
open PySem.W (Frag)
abbrev Df.Is (K : Frag) (d : Df) : Prop := ∃ fd, FunD K d.name d.qual (defArgs d.st) (defBody d.st) (defScope d.st) (d.dvs K) (d.kws K) (d.ad K) fd
theorem Df.is {K : Frag} {d : Df} (e : d.ob K = d.val) (c : d.ok K = true) : d.Is K := by
  unfold Df.ok at c
  rw [Bool.and_eq_true] at c
  obtain ⟨kp, c2⟩ := c
  unfold Df.ob at e
  split at c2
  · rename_i oc od g osl lk
    rw [lk] at e
    simp only [Bool.and_eq_true] at c2
    obtain ⟨c3, c4, c5⟩ := c2
    obtain ⟨n1, n2, n3, n4, n5, n6, n7, n8, n9, n10, n11, n12, n13, n14, n15⟩ := g
    simp only [Df.val, Option.some.injEq, Prod.mk.injEq] at e
    obtain ⟨rfl, rfl, rfl, rfl, rfl, rfl, rfl, rfl⟩ := e
    exact ⟨_, ⟨oc, od, n8, n9, n10, n11, n12, n13, n14, osl, rfl, lk, c3, He.dflB_ok c4, He.kwdB_ok c5⟩, kp⟩
  · cases c2
def obC (ch : ChK) (fn : List Df) (K : Frag) : He.AlD := (ch.all (fun p => p K) && fn.all (fun d => d.ok K), fn.map fun d => d.ob K)
def vlC (fn : List Df) : He.AlD := (true, fn.map Df.val)
def Says (ch : ChK) (fn : List Df) (K : Frag) : Prop := obC ch fn K = vlC fn
theorem Says.fact {ch : ChK} {fn : List Df} {K : Frag} (c : Says ch fn K) (i : Nat) {p : Frag → Bool} (h : ch[i]? = some p := by rfl) : p K = true := by
  have c1 : (ch.all (fun p => p K) && fn.all (fun d => d.ok K)) = true := congrArg Prod.fst c
  rw [Bool.and_eq_true] at c1
  exact List.all_eq_true.mp c1.1 p (List.mem_of_getElem? h)
theorem Says.df {ch : ChK} {fn : List Df} {K : Frag} (c : Says ch fn K) (i : Nat) {d : Df} (h : fn[i]? = some d := by rfl) : d.Is K := by
  have c1 : (ch.all (fun p => p K) && fn.all (fun d => d.ok K)) = true := congrArg Prod.fst c
  have c2 : fn.map (fun d => d.ob K) = fn.map Df.val := congrArg Prod.snd c
  rw [Bool.and_eq_true] at c1
  have e2 : (fn.map fun d => d.ob K)[i]? = (fn.map Df.val)[i]? := by rw [c2]
  rw [List.getElem?_map, List.getElem?_map, h] at e2
  exact Df.is (Option.some.inj e2) (List.all_eq_true.mp c1.2 d (List.mem_of_getElem? h))
end SM
namespace SM
open PySem PySem.Spec PyProof.Rows L2
variable {K : PySem.W.Frag} {G G' G2 H H' H2 : Hp} {S S' S2 : Sto}
theorem Fz.sq {a : Addr} {xs : List V} (h : Fz K H a xs) : SqL K H a xs := by
  rcases h with ⟨o, h⟩ | h
  · exact .inl (.inr ⟨o, h⟩)
  · exact .inr h
theorem Fz.inv {X : Cx} {pins : List (Addr × Obj)} {σ : L2.St} {s : Shared} {a : Addr} {xs : List V} (h : Fz X.K X.H_0 a xs) (I : Inv X pins σ H s) : Fz X.K H a xs := by
  rcases h with ⟨o, h⟩ | h
  · exact .inl ⟨o, I.base.frzs a o _ h⟩
  · exact .inr h
theorem rps_ints : ∀ ns : List Int, Rps K G (ns.map V.int) (ns.map D.int)
  | [] => .nil
  | n :: r => .cons (.int n) (rps_ints r)
section
variable {P : Program} {w : World} {mg : Str → Option Value} {base : Heap}
theorem fnScr {x qual : Str} {params : Arguments} {body : List Stmt} {scope : Scope} {dvs : List V} {kws : List (Str × V)} {f : Addr} {fd : FuncData} {N ps : List Str} {k n : Nat} (F : FunD K x qual params body scope dvs kws f fd) (Sc : FnScope N ps scope) (R : Addr → List Int → DSp)
    (len : ∀ a ns ds S Q E, R a ns ds S Q E → ds.length = ps.length) (hps : ps.length ≤ N.length)
    (hb : ∀ (cdv : Value) (A : Around) (outer : List Env) (s : Shared) (H : Hp) (E : XK) (a : Addr) (ns : List Int), Room k (A.deeper (envOfC qual scope s.heap.objs.size f cdv)) → Fz K H a (ns.map V.int) → ns.length ≤ n → ∃ ts, PDSs (cxOf (L2N.CX P w) P w K mg base N qual scope f cdv A outer s H E) body ts ∧
      ∀ ds S QD XD, R a ns ds S QD XD → ts ⟨fun _ S' => QD .non S', QD, fun _ _ => False, fun _ _ => False, fun x _ S' => XD x S'⟩ (startD N ds) S) : FnOk P w K mg base (L2N.CX P w) (k + 1) f fd ps (spScr K n R) := by
  refine F.ok Sc (fun vs H Q E h => ?_) (fun cdv A outer s H vs Q E hr h => ?_)
  · obtain ⟨a, ns, _, _, _, G, S, ds, QD, XD, _, rs, h, _⟩ := h
    rw [rs.length]; exact len _ _ _ _ _ _ h
  · obtain ⟨a, ns, _, hz, hn, G, S, ds, QD, XD, rl, rs, h, kq, kx⟩ := h
    obtain ⟨ts, p, q⟩ := hb cdv A outer s H E a ns hr hz hn
    refine ⟨liftS K (fun cls d _ H => E cls d H) ts, p.run _ (L2N.takes_of rfl rfl rfl rfl) (passes_of rfl), ⟨G, startD N ds, S, _, startD_rpe rs (by rw [len _ _ _ _ _ _ h]; exact hps), rl, q ds S QD XD h, ?_⟩⟩
    exact ⟨fun G1 H1 S1 σ δ s1 _ q => kq _ _ _ _ _ s1 .non q, fun G1 H1 S1 v d s1 r q => kq _ _ _ _ _ s1 r q, fun _ _ _ _ _ _ _ q => q.elim, fun _ _ _ _ _ _ _ q => q.elim, fun G1 H1 S1 σ δ cls d x s1 _ r q => kx _ _ _ _ _ _ s1 r q⟩
end
section
variable {X : Cx} {e : Expr} {es : List Expr} {pos p p2 : Pos} {k n : Nat} {x : Str} {t : DTA} {f a : Addr} {fd : FuncData} {ps : List Str} {R : Addr → List Int → DSp} {ns : List Int}
def oScr (a : Addr) (ns : List Int) (d : D) (lo hi : Option Int) (S : Sto) (Q : DQ) : Prop := d = .adr a ∧ Q (.lst (cutD (ns.map D.int) lo hi)) S
theorem sl_scr {xs : List V} (hz : Fz X.K X.H_0 a xs) : SlR X (fun x lo hi H Q => x = .ref a ∧ ∀ z, H z = none → Q (.ref z) (upd H z (.lst (cutV xs lo hi)))) := by
  intro pins s σ H x v vl vu lo hi sl Q I rx hs pl pu h
  obtain ⟨rfl, q⟩ := h
  exact sl_list pins s σ H _ v vl vu lo hi sl Q I rx hs pl pu ⟨a, xs, rfl, (hz.inv I).sq, q⟩
theorem de_sliceScr {lo hi : Option Expr} {te : DTE} {tl th : DTO} (hz : Fz X.K X.H_0 a (ns.map V.int)) (hn : ns.length ≤ sizeLine) (he : PD X e te) (hl : PDO X lo tl) (hu : PDO X hi th) : PD X (.Subscript e (.Slice lo hi none p2) pos) (dSl (oScr a ns) te tl th) := ⟨fun W tk => PE.weak (pe_slice (sl_scr hz) (he.run W tk) (hl.run W tk) (hu.run W tk)) (by
  rintro σ H Q ⟨G, δ, S, QD, XD, re, rl, h, kq, kx⟩
  refine ⟨G, δ, S, _, XD, re, rl, h, fun G1 H1 S1 x d s1 rx q => ⟨G1, δ, S1, _, XD, re.mono s1.sg, s1.rel, q, fun G2 H2 S2 l s2 q2 => ⟨G2, δ, S2, _, XD, re.mono (s1.trans s2).sg, s2.rel, q2, fun G3 H3 S3 u s3 q3 => ?_, kx.step (s1.trans s2)⟩, kx.step s1⟩, kx⟩
  have s13 := (s1.trans s2).trans s3
  obtain ⟨rfl, q3⟩ := q3
  cases rx
  refine ⟨rfl, fun z hz => ?_⟩
  obtain ⟨s4, r4⟩ := fz_lst s3.rel hz (cut_rps (rps_ints ns) l u) (Nat.le_trans (cut_len _ _ _) (by rw [List.length_map]; exact hn))
  exact kq _ _ _ _ _ (s13.trans s4) r4 q3)⟩
theorem de_callScr (F : FnOk X.prog X.w X.K X.mg X.base (L2N.CX X.prog X.w) k f fd ps (spScr X.K n R)) (hz : Fz X.K X.H_0 a (ns.map V.int)) (hn : ns.length ≤ n) (hr : Room k X.A) (hg : Gl X x) (hm : X.mg x = some (.ref f)) (hk : PySem.W.keepIn X.K (.ref f) = true) (hb : Binds X.K fd ps [])
    (ha : PDA X (e :: es) t) (hdb : (x == ("__debug__" : Str)) = false := by decide) (he : starEach (e :: es) X.env = (false, eval e X.env) :: starEach es X.env := by rfl) (hpl : (backTo pos (starEach es X.env)).any (·.1) = false := by rfl) :
    PD X (.Call (.Name x p) (e :: es) [] pos) (dCall (fun ds S Q E => ds = [.adr a] ∧ R a ns ds S Q E) [] t) := ⟨fun W tk => ⟨fun pins s σ H Q I h => by
  apply wpAny_Call_Name_kw
  apply ld_glob I hg hm (hd := hdb)
  refine PySem.W.callWith_K (first := []) (h₀ := X.base) I.ok.mod.kin hk ?_ he hpl
  obtain ⟨G, δ, S, QD, XD, re, rl, h, kq, kx⟩ := h
  apply thn ((ha.run W tk).run pos pins s σ H (fun vs H1 => ∃ G1 S1, Stp X.K G H S G1 H1 S1 ∧ vs = [.ref a] ∧ R a ns [.adr a] S1 QD XD) I ⟨G, δ, S, _, XD, re, rl, h, fun G1 H1 S1 vs ds s1 rs q => ?_, kx⟩)
  · rintro us s2 ⟨vs, H2, I2, r, G1, S1, s1, rfl, q2⟩
    refine ⟨I2.kIn, run_fnSD (E := WE W) F hr hb .nil (L2N.passAt tk σ) I2 r ?_⟩
    exact ⟨a, ns, rfl, hz.inv I2, hn, G1, S1, [.adr a], QD, XD, s1.rel, .cons (.adr a) .nil, q2, fun G3 H3 S3 v d s3 r q => kq _ _ _ _ _ (s1.trans s3) r q, fun G3 H3 S3 cls d x s3 r q => kx _ _ _ _ _ _ (s1.trans s3) r q⟩
  · rw [List.append_nil] at q
    obtain ⟨rfl, q⟩ := q
    cases rs with
    | cons r0 rs =>
      cases rs
      cases r0
      exact ⟨G1, S1, s1, rfl, q⟩⟩⟩
end
end SM
namespace SM
open PySem PySem.Spec PyProof.Rows L2
variable {S : Sto}
theorem lc_map {gd : Gd} (hg : gok gd S) {q : Pat} {te : DTE} {δ : DS} {α : Type} {g f : α → D} : ∀ {xs : List α} {Q : List D → Sto → Prop}, (∀ x ∈ xs, ∃ δ2, bindP q (g x) δ = some δ2 ∧ ∀ Q' : DQ, Q' (f x) S → te δ2 S Q' noX) → Q (xs.map f) S → dLcL gd q dYes te δ (xs.map g) S Q
  | [], _, _, h => ⟨hg, h⟩
  | x :: r, Q, hh, h => by
    obtain ⟨δ2, e, t⟩ := hh x (List.mem_cons_self ..)
    rw [List.map_cons, dLcL, e]
    refine ⟨hg, ?_⟩
    show brn true _ _
    rw [brn_t]
    exact t _ (lc_map hg (fun y hy => hh y (List.mem_cons_of_mem _ hy)) h)
abbrev Cell := Int × Int
def once (cs : List Cell) : List Cell := cs.foldl (fun a c => if c ∈ a then a else a ++ [c]) []
def blkB (N : List Str) (sc scope : Scope) (own : List (Str × Nat)) : Bool := decide (scope.kind = .function) && (scope.names.all (fun y => decide (scope.names.lookup y.1 = some y.2)) && (own.all (fun p => decide (N[p.2]? = some p.1)) &&
  (scope.names.all (fun y => !decide (y.2 = .free) || (decide (sc.names.lookup y.1 = some .cell) || decide (sc.names.lookup y.1 = some .free))) && scope.names.all (fun y => !(decide (y.2 = .local) || decide (y.2 = .cell)) || (decide (y.1 ∈ own.map (·.1)) || !decide (y.1 ∈ N))))))
theorem blk_of {N : List Str} {sc scope : Scope} {own : List (Str × Nat)} (h : blkB N sc scope own = true) : BlkOk N sc scope own := by
  simp only [blkB, Bool.and_eq_true, List.all_eq_true, Bool.or_eq_true, Bool.not_eq_true', decide_eq_true_eq, decide_eq_false_iff_not] at h
  obtain ⟨h1, h2, h3, h4, h5⟩ := h
  exact ⟨h1, h2, h3, fun y hy e => (h4 y hy).resolve_left fun z => z e, fun y hy e => (h5 y hy).resolve_left fun z => by
    have : ¬ (y.2 = .local ∨ y.2 = .cell) := by simpa [Bool.or_eq_false_iff] using z
    exact this e⟩
theorem lk_map {gd : Gd} {q : Pat} {te : DTE} {δ : DS} {α : Type} {g f : α → D} {xs : List α} {Q : List D → Sto → Prop} (h : ∀ x ∈ xs, ∃ δ2, bindP q (g x) δ = some δ2 ∧ ∀ Q' : DQ, Q' (f x) S → te δ2 S Q' noX) (hq : Q (xs.map f) S) (hg : gok gd S := by first | exact True.intro | assumption | exact su_same) : lcK gd q dYes te δ (xs.map g) S Q := by
  rw [lcK_is]; exact lc_map hg h hq
theorem loop_ofG {gd : Gd} {q : Pat} {tb : DTS} {E : DEnds} {α : Type} {g : α → D} (I : List α → DS → Sto → Prop) (hI : ∀ xs δ S, I xs δ S → gok gd S) (hs : ∀ x r δ S, I (x :: r) δ S → ∃ δ1, bindP q (g x) δ = some δ1 ∧ ∀ N : DS → Sto → Prop, (∀ δ2 S2, I r δ2 S2 → N δ2 S2) → tb { E with nx := N, ct := N, bk := E.nx } δ1 S) (hd : ∀ δ S, I [] δ S → E.nx δ S) :
    ∀ {xs : List α} {δ : DS} {S : Sto}, I xs δ S → loopK gd q tb E (xs.map g) δ S := by
  intro xs δ S h
  rw [loopK_is]
  induction xs generalizing δ S with
  | nil => exact ⟨hI _ _ _ h, hd _ _ h⟩
  | cons x r ih =>
    obtain ⟨δ1, e, t⟩ := hs x r δ S h
    rw [List.map_cons, dLoop, e]
    exact ⟨hI _ _ _ h, t _ fun δ2 S2 i => ih i⟩
theorem loop_of {q : Pat} {tb : DTS} {E : DEnds} {α : Type} {g : α → D} (I : List α → DS → Sto → Prop) (hs : ∀ x r δ S, I (x :: r) δ S → ∃ δ1, bindP q (g x) δ = some δ1 ∧ ∀ N : DS → Sto → Prop, (∀ δ2 S2, I r δ2 S2 → N δ2 S2) → tb { E with nx := N, ct := N, bk := E.nx } δ1 S) (hd : ∀ δ S, I [] δ S → E.nx δ S) {xs : List α} {δ : DS} {S : Sto} (h : I xs δ S) : loopK none q tb E (xs.map g) δ S :=
  loop_ofG (gd := none) I (fun _ _ _ _ => True.intro) hs hd h
section
variable {X : Cx} {e o : Expr} {es : List Expr} {pos p apos : Pos} {k j : Nat} {x m : Str} {t : DTA} {ps : List Str} {R : DSp}
theorem de_g (F : Gf X.prog X.w X.K X.mg X.base k x ps R) (hr : Room j X.A) (hg : Gl X x) (ha : PDA X (e :: es) t) (hkj : k ≤ j := by decide) (hdb : (x == ("__debug__" : Str)) = false := by decide) (he : starEach (e :: es) X.env = (false, eval e X.env) :: starEach es X.env := by rfl) (hpl : (backTo pos (starEach es X.env)).any (·.1) = false := by rfl) :
    PD X (.Call (.Name x p) (e :: es) [] pos) (dCall R [] t) := by
  obtain ⟨f, fd, F, hm, hk, hb⟩ := F.ex
  exact de_call F (hr.mono hkj) hg hm hk hb .nil (fun _ => .nil) ha hdb he hpl
end
end SM
namespace SM
open PySem PySem.Spec PyProof.Rows L2
variable {K : PySem.W.Frag} {G G' G2 H H' H2 : Hp} {S S' S2 : Sto}
abbrev oSub : R2D := oInt0 fun i j => .int (i - j)
abbrev oFdiv : R2D := oInt (fun _ j => 0 < j ∧ j < 1073741824) fun i j => .int (i / j)
abbrev oMod : R2D := oInt (fun _ j => 0 < j) fun i j => .int (i % j)
abbrev oPow : R2D := oInt (fun i j => 0 ≤ j ∧ j ≤ 1000000 ∧ i.natAbs < 2 ^ 64) fun i j => .int (i ^ j.toNat)
abbrev oLt : R2D := oInt0 fun i j => .bl (decide (i < j))
abbrev oGt : R2D := oInt0 fun i j => .bl (decide (j < i))
abbrev oGe : R2D := oInt0 fun i j => .bl (decide (j ≤ i))
abbrev Rd (t : DTS) (N : List Str) (R : DSp) : Prop := ∀ ds S QD XD, R ds S QD XD → t (ends QD XD) (startD N ds) S
abbrev Ln (n : Nat) (R : DSp) : Prop := ∀ ds S Q E, R ds S Q E → ds.length = n
section
variable {P : Program} {w : World} {mg : Str → Option Value} {base : Heap}
theorem fnT {x qual : Str} {params : Arguments} {body : List Stmt} {scope : Scope} {dvs : List V} {kws : List (Str × V)} {f : Addr} {fd : FuncData} {N ps : List Str} {k : Nat} {R : DSp} {t : DTS} (F : FunD K x qual params body scope dvs kws f fd) (Sc : FnScope N ps scope)
    (len : Ln ps.length R) (rd : Rd t N R) (hd : ∀ (cdv : Value) (A : Around) (outer : List Env) (s : Shared) (H : Hp) (E : XK), Room k (A.deeper (envOfC qual scope s.heap.objs.size f cdv)) → PDSs (cxOf (L2N.CX P w) P w K mg base N qual scope f cdv A outer s H E) body t) (hps : ps.length ≤ N.length := by decide) : FnOk P w K mg base (L2N.CX P w) (k + 1) f fd ps (toSp K R) :=
  fnD F Sc R len hps fun cdv A outer s H E hr => ⟨t, hd cdv A outer s H E hr, rd⟩
end
section
variable {X : Cx} {e o a b : Expr} {es : List Expr} {pos p apos : Pos} {k j : Nat} {x m : Str} {t : DTA} {te : DTE} {ps : List Str} {R : DSp} {c : Nat} {oth : List Nat}
def rScr (a : Addr) (ns : List Int) (R : Addr → List Int → DSp) : DSp := fun ds S Q E => ds = [.adr a] ∧ R a ns ds S Q E
theorem de_gScr {n : Nat} {a : Addr} {ns : List Int} {R : Addr → List Int → DSp} (F : Gz X.prog X.w X.K X.mg X.base k x ps n R) (hz : Fz X.K X.H_0 a (ns.map V.int)) (hn : ns.length ≤ n) (hr : Room j X.A) (hg : Gl X x) (ha : PDA X (e :: es) t) (hkj : k ≤ j := by decide)
    (hdb : (x == ("__debug__" : Str)) = false := by decide) (he : starEach (e :: es) X.env = (false, eval e X.env) :: starEach es X.env := by rfl) (hpl : (backTo pos (starEach es X.env)).any (·.1) = false := by rfl) :
    PD X (.Call (.Name x p) (e :: es) [] pos) (dCall (rScr a ns R) [] t) := by
  obtain ⟨f, fd, F, hm, hk, hb⟩ := F.ex
  exact de_callScr F hz hn (hr.mono hkj) hg hm hk hb ha hdb he hpl
end
end SM
namespace SM
open PySem PySem.Spec PyProof.Rows L2
variable {K : PySem.W.Frag} {G G' G2 H H' H2 : Hp} {S S' S2 : Sto}
@[irreducible] def rLaw (a : Addr) (ns : List Int) : DSp := fun ds S Q _ => ds = [.adr a] ∧ ∀ S', Q (.bl true) S'
theorem len_law (a : Addr) (ns : List Int) : Ln 1 (rLaw a ns) := fun ds S Q E h => by unfold rLaw at h; rw [h.1]; rfl
theorem law_sp {a : Addr} {ns : List Int} (hl : ns.length ≤ 63) (hO : Only H) (hS : SqL K H a (ns.map V.int)) : spScr K 63 rLaw [.ref a] H (fun v _ => v = .bl true) fun _ _ _ => False := by
  refine ⟨a, ns, rfl, Fz.of hO hS, hl, fun _ => none, fun _ => none, [.adr a], fun d _ => d = .bl true, fun _ _ => False, ⟨(fun _ _ h => nomatch h), (fun _ _ h => nomatch h)⟩, .cons (.adr a) .nil, by unfold rLaw; exact ⟨rfl, fun _ => rfl⟩, fun G' H' S' v d _ r q => ?_, fun _ _ _ _ _ _ _ _ z => z⟩
  subst q
  cases r
  rfl
theorem law_noX {P : Program} {w : World} {H : Hp} {s s' : Shared} {e : Value} (z : L2N.CX P w [] H s (fun _ _ _ => False) e s') : False := by
  obtain ⟨_, _, _, _, _, _, _, _, _, _, _, _, z⟩ := z
  exact z
theorem walk_law {l : PySem.W.OpenLaw} {k : Nat} {q : Program} {loose : List Str} {XP : (Str → Option Value) → Heap → Prop} {YP : World → Heap → Prop} {d : DefRec} {x : Str} (hn : l.most = some 63) (hdf : d.params.defaults = []) (hr : Room k callerA)
    (F : ∀ (w : World) (mg : Str → Option Value) (fa : Addr) (h : Heap), YP w h → h.Ns mainGlobals mg → mg d.name = some (.ref fa) → ∃ (K : PySem.W.Frag) (fd : FuncData), K.In h ∧ (∀ (s : Shared) (u : Value), BindsTo s fd ⟨[u], []⟩ [(x, u)]) ∧
      ∀ base : Heap, K.In base → base.Ns mainGlobals mg → FnOk l.prog w K mg base (L2N.CX l.prog w) k fa fd [x] (spScr K 63 rLaw)) :
    PySem.W.WalkO q loose XP YP l.row.toRowW d [] (fun f vs => PySem.call f vs) := by
  refine Att.attach_call hn hdf fun w s0 s1 mg mb fa o pm cd doc a vs ns G Y ho hd hcd hmg hobj hints hlen hg => ?_
  obtain ⟨K, fd, KX, hb, hF⟩ := F w mg fa _ Y G.T.g hmg
  exact law_call KX G.T.g G.T.b G.T.builtins G.T.nolimit hg hobj hints (Nat.le_trans hlen (by decide)) hr hF hb (fun H hO hS => law_sp hlen hO hS) fun H e s' => law_noX
section
variable {P : Program} {w : World} {mg : Str → Option Value} {base : Heap}
end
end SM
namespace SM
open PySem PySem.Spec PyProof.Rows L2
variable {K : PySem.W.Frag} {G G' G2 H H' H2 : Hp} {S S' S2 : Sto}
section
variable {X : Cx} {e o a b : Expr} {es : List Expr} {pos p apos : Pos} {k j : Nat} {x m : Str} {t : DTA} {te ta tb : DTE} {ps : List Str} {R : DSp} {c : Nat} {f : Addr} {fd : FuncData} {A : Around} {pins : List (Addr × Obj)} {σ : L2.St} {s : Shared} {W : WX}
end
end SM
namespace SM
open PySem PySem.Spec PyProof.Rows L2 TL
variable {K : PySem.W.Frag} {G G' G2 H H' H2 : Hp} {S S' S2 : Sto}
section
variable {X : Cx} {e o a b : Expr} {es : List Expr} {pos p apos : Pos} {k j : Nat} {x m : Str} {t : DTA} {te ta tb : DTE} {ps : List Str} {R : DSp} {c : Nat} {W : WX}
end
end SM
namespace PySem.W
open PySem
section
variable {prog : Program} {w : World} {A : Around} {E : Value → Shared → Prop} {s : Shared} {K : Frag} {x C L f : Addr} {h₀ : Heap} {m : Str → Option Value} {ox : Obj} {od : Option Obj}
end
end PySem.W
namespace SM
open PySem PySem.Spec PyProof.Rows L2
variable {K : PySem.W.Frag} {G G' G2 H H' H2 : Hp} {S S' S2 : Sto}
section
variable {X : Cx} {e o a b : Expr} {es : List Expr} {pos p apos : Pos} {k j : Nat} {x m : Str} {t : DTA} {te ta tb : DTE} {ps : List Str} {R : DSp} {c : Nat} {W : WX}
end
end SM
namespace SM
open PySem PySem.Spec PyProof.Rows L2
variable {K : PySem.W.Frag} {G G' G2 H H' H2 : Hp} {S S' S2 : Sto}
section
variable {X : Cx} {e o a b : Expr} {es : List Expr} {pos p apos : Pos} {k j : Nat} {x m : Str} {t : DTA} {te ta tb : DTE} {ps : List Str} {R : DSp} {c : Nat} {W : WX}
end
theorem slen_app (x y : Str) : (x ++ y).length = x.length + y.length := by
  show (x.cps ++ y.cps).size = x.cps.size + y.cps.size
  rw [Array.size_append]
end SM
namespace SM
open PySem PySem.Spec PyProof.Rows L2
variable {K : PySem.W.Frag} {G G' G2 H H' H2 : Hp} {S S' S2 : Sto}
section
variable {P : Program} {w : World} {mg : Str → Option Value} {base : Heap} {qual : Str} {params : Arguments} {scope : Scope} {f : Addr} {fd : FuncData} {c : Nat} {x y : Str} {p1 p2 p3 p4 q1 q2 q3 q4 : Pos}
theorem fnE1 (F : FunD K "__init__" qual params [.Assign [.Attribute (.Name "self" p1) x p2] (.Name x p3) p4] scope [] [] f fd) (Sc : FnScope ["self", x] ["self", x] scope) (T : OexC K (cad K c)) (n1 : PySem.W.findIn K (.ref (cad K c)) x = some none)
    (d1 : (x == ("__debug__" : Str)) = false := by decide) (d2 : (x == ("__classdict__" : Str)) = false := by decide) : FnOk P w K mg base (L2N.CX P w) 1 f fd ["self", x] (spE (cad K c) [x]) := by
  refine F.ok Sc (fun vs H Q E h => ?_) (fun cdv A outer s H vs Q E hr h => ?_)
  · obtain ⟨a, ws, rfl, hl, _⟩ := h
    simp only [List.length_cons, hl, List.length_nil]
  · have v0 := Sc.par "self" (by simp)
    have v1 := Sc.par x (by simp)
    refine ⟨_, pss_one (ps_ost (pe_var (i := 0) rfl (by rcases v0 with h | h; exact .inl h; exact .inr (.inl h)) (by decide) (by decide)) (pe_var (i := 1) rfl (by rcases v1 with h | h; exact .inl h; exact .inr (.inl h)) d1 d2)), ?_⟩
    obtain ⟨a, ws, rfl, hl, ha, q⟩ := h
    match ws, hl with
    | [v], _ =>
      refine ⟨v, rfl, .ref a, rfl, a, _, rfl, T, n1, .inl ⟨ha, fun dx hn hne => ?_⟩⟩
      refine q _ dx [(x, v)] upd_same (by rw [upd_ne hne, upd_same]) hn hne (fun b h1 h2 => by rw [upd_ne h1, upd_ne h2]) fun j fl u hj hv => ?_
      match j, hj, hv with
      | 0, hj, hv =>
        simp at hj hv
        subst hj hv
        simp
theorem fnE2 (F : FunD K "__init__" qual params [.Assign [.Attribute (.Name "self" p1) x p2] (.Name x p3) p4, .Assign [.Attribute (.Name "self" q1) y q2] (.Name y q3) q4] scope [] [] f fd) (Sc : FnScope ["self", x, y] ["self", x, y] scope) (T : OexC K (cad K c)) (n1 : PySem.W.findIn K (.ref (cad K c)) x = some none) (n2 : PySem.W.findIn K (.ref (cad K c)) y = some none) (hxy : x ≠ y)
    (d1 : (x == ("__debug__" : Str)) = false := by decide) (d2 : (x == ("__classdict__" : Str)) = false := by decide) (d3 : (y == ("__debug__" : Str)) = false := by decide) (d4 : (y == ("__classdict__" : Str)) = false := by decide) : FnOk P w K mg base (L2N.CX P w) 1 f fd ["self", x, y] (spE (cad K c) [x, y]) := by
  refine F.ok Sc (fun vs H Q E h => ?_) (fun cdv A outer s H vs Q E hr h => ?_)
  · obtain ⟨a, ws, rfl, hl, _⟩ := h
    simp only [List.length_cons, hl, List.length_nil]
  · have v0 := Sc.par "self" (by simp)
    have v1 := Sc.par x (by simp)
    have v2 := Sc.par y (by simp)
    have g0 : Vis scope "self" := by rcases v0 with h | h; exact .inl h; exact .inr (.inl h)
    refine ⟨_, pss_cons (ps_ost (pe_var (i := 0) rfl g0 (by decide) (by decide)) (pe_var (i := 1) rfl (by rcases v1 with h | h; exact .inl h; exact .inr (.inl h)) d1 d2)) (pss_one (ps_ost (pe_var (i := 0) rfl g0 (by decide) (by decide)) (pe_var (i := 2) rfl (by rcases v2 with h | h; exact .inl h; exact .inr (.inl h)) d3 d4))), ?_⟩
    obtain ⟨a, ws, rfl, hl, ha, q⟩ := h
    match ws, hl with
    | [v, u], _ =>
      refine ⟨v, rfl, .ref a, rfl, a, _, rfl, T, n1, .inl ⟨ha, fun dx hn hne => ?_⟩⟩
      refine ⟨u, rfl, .ref a, rfl, a, _, rfl, T, n2, .inr ⟨dx, _, upd_same, (by rw [upd_ne hne, upd_same]), (by simp), ?_⟩⟩
      refine q _ dx [(y, u), (x, v)] (by rw [upd_ne (Ne.symm hne), upd_same]) upd_same hn hne (fun b h1 h2 => by rw [upd_ne h2, upd_ne h1, upd_ne h2]) fun j fl z hj hv => ?_
      match j, hj, hv with
      | 0, hj, hv =>
        simp at hj hv
        subst hj hv
        have e : (x == y) = false := beq_eq_false_iff_ne.mpr hxy
        simp [List.lookup, e]
      | 1, hj, hv =>
        simp at hj hv
        subst hj hv
        simp
end
theorem cx_no {P : Program} {w : World} {outer : List Env} {H : Hp} {s s' : Shared} {e : Value} (z : L2N.CX P w outer H s (fun _ _ _ => False) e s') : False := by
  obtain ⟨_, _, _, _, _, _, _, _, _, _, _, _, z⟩ := z
  exact z
section
variable {X : Cx} {e : Expr} {es : List Expr} {pos p pos' : Pos} {k j : Nat} {x : Str} {t : DTA} {c : Nat} {W : WX}
end
end SM
namespace PySem.W
open PySem
section
variable {prog : Program} {w : World} {M : Model} {A : Around} {E : Value → Shared → Prop} {s : Shared} {K : Frag} {x C L f : Addr} {h₀ : Heap} {m : Str → Option Value} {ox : Obj} {od : Option Obj} {nm : String}
end
end PySem.W
namespace SM
open PySem PySem.Spec PyProof.Rows L2
variable {K : PySem.W.Frag} {G G' G2 H H' H2 : Hp} {S S' S2 : Sto}
section
variable {X : Cx} {e o a b : Expr} {es : List Expr} {pos p pos' p1 p2 p3 : Pos} {k j : Nat} {x m : Str} {t : DTA} {te ta tb : DTE} {ps : List Str} {R : DSp} {c : Nat} {W : WX}
end
end SM
namespace SM
open PySem PySem.Spec PyProof.Rows L2
variable {K : PySem.W.Frag} {G G' G2 H H' H2 : Hp} {S S' S2 : Sto}
section
variable {X : Cx} {e a b : Expr} {p pos tpos : Pos} {elts : List Expr} {kk : Nat} {t : DTA}
end
end SM
namespace SM
open PySem PySem.Spec PyProof.Rows L2
variable {K : PySem.W.Frag} {G G' G2 H H' H2 G0 H0 : Hp} {S S' S2 S0 : Sto}
section
variable {W : WX}
end
section
variable {X : Cx} {elt tg iter tg1 iter1 : Expr} {ifs ifs1 : List Expr} {scope : Scope} {own : List (Str × Nat)} {vs1 : List Nat} {ti ti1 : DTI} {q q1 : Pat} {tt tt1 : DTT} {te : DTE} {pos : Pos}
end
end SM
namespace SM
open PySem PySem.Spec PyProof.Rows L2
variable {K : PySem.W.Frag} {G G' G2 H H' H2 : Hp} {S S' S2 : Sto}
section
variable {X : Cx} {e o : Expr} {es : List Expr} {pos p apos : Pos} {W : WX} {k j i : Nat} {x m : Str} {t : DTA} {te : DTE} {ps : List Str} {R : DSp} {c : Nat} {g C : Addr} {pins : List (Addr × Obj)} {σ : L2.St} {s : Shared}
end
section
variable {X : Cx}
end
end SM
namespace SM
open PySem PySem.Spec PyProof.Rows L2
variable {K : PySem.W.Frag} {G G' G2 H H' H2 : Hp} {S S' S2 : Sto}
theorem ik_0 {α : Type} {x : α} {l : List α} {kk : α → Prop} (q : kk x) : itk (x :: l) 0 kk := itk_of (atI_nat (j := 0) (xs := x :: l) (v := x) rfl) q
theorem oex_of {c : Nat} (h : oexB K c = true) : OexC K (cad K c) := by
  unfold oexB at h
  simp only [Bool.and_eq_true] at h
  obtain ⟨h0, h1, h2, h3, h4⟩ := h
  refine ⟨?_, He.eqO_ok h1, of_decide_eq_true h2, of_decide_eq_true h3, h4⟩
  unfold oexClsB at h0
  split at h0
  · rename_i dd cd k0 k1 k2 k3 n k5 ho
    split at h0
    · rename_i C' bm hm
      simp only [Bool.and_eq_true, decide_eq_true_eq, Bool.not_eq_true'] at h0
      obtain ⟨rfl, rfl, hdel, hdict, hr⟩ := h0
      obtain ⟨nm, bs, mro, ns, qn, hd, sn, sub, ab, col, del⟩ := cd
      dsimp only at hm hdel hdict
      subst hm hdel hdict
      exact ⟨nm, qn, ns, bs, bm, sn, sub, ab, col, dd, k0, k1, k2, k3, k5, ho, hr⟩
    · cases h0
  · cases h0
theorem oin_of {c : Nat} (h : oinB K c = true) : PySem.W.findIn K (.ref (cad K c)) "__init__" = some (some (.ref (He.ma K (cad K c) "__init__"))) ∧ PySem.W.typeIn K (.ref (He.ma K (cad K c) "__init__")) = some (.type "function") ∧ ∀ f ∈ cfs c, PySem.W.findIn K (.ref (cad K c)) f = some none := by
  unfold oinB at h
  simp only [Bool.and_eq_true] at h
  obtain ⟨h1, h2, h3⟩ := h
  exact ⟨He.eqO_ok h1, of_decide_eq_true h2, fun f hf => He.eqO_ok (List.all_eq_true.mp h3 f hf)⟩
section
variable {P : Program} {w : World} {mg : Str → Option Value} {base : Heap} {c : Nat} {x y z qual : Str} {params : Arguments} {scope : Scope} {fd : FuncData} {p1 p2 p3 p4 q1 q2 q3 q4 : Pos}
theorem gx1 (F : FunD K "__init__" qual params [.Assign [.Attribute (.Name "self" p1) x p2] (.Name x p3) p4] scope [] [] (He.ma K (cad K c) "__init__") fd) (Sc : FnScope ["self", x] ["self", x] scope) (ec : cfs c = [x]) (hb : Binds K fd ["self", x] []) (ho : oexB K c = true) (hi : oinB K c = true) (hm : mg z = some (.ref (cad K c)))
    (d1 : (x == ("__debug__" : Str)) = false := by decide) (d2 : (x == ("__classdict__" : Str)) = false := by decide) : Gx P w K mg base c z := by
  obtain ⟨i1, i2, i3⟩ := oin_of hi
  exact ⟨_, fd, _, by rw [ec]; exact fnE1 F Sc (oex_of ho) (i3 x (by rw [ec]; simp)) d1 d2, oex_of ho, i1, i2, hb, hm⟩
theorem gx2 (F : FunD K "__init__" qual params [.Assign [.Attribute (.Name "self" p1) x p2] (.Name x p3) p4, .Assign [.Attribute (.Name "self" q1) y q2] (.Name y q3) q4] scope [] [] (He.ma K (cad K c) "__init__") fd) (Sc : FnScope ["self", x, y] ["self", x, y] scope) (ec : cfs c = [x, y]) (hb : Binds K fd ["self", x, y] []) (ho : oexB K c = true) (hi : oinB K c = true) (hm : mg z = some (.ref (cad K c))) (hxy : x ≠ y := by decide)
    (d1 : (x == ("__debug__" : Str)) = false := by decide) (d2 : (x == ("__classdict__" : Str)) = false := by decide) (d3 : (y == ("__debug__" : Str)) = false := by decide) (d4 : (y == ("__classdict__" : Str)) = false := by decide) : Gx P w K mg base c z := by
  obtain ⟨i1, i2, i3⟩ := oin_of hi
  exact ⟨_, fd, _, by rw [ec]; exact fnE2 F Sc (oex_of ho) (i3 x (by rw [ec]; simp)) (i3 y (by rw [ec]; simp)) hxy d1 d2 d3 d4, oex_of ho, i1, i2, hb, hm⟩
end
end SM
namespace SM
open PySem PySem.Spec PyProof.Rows L2
variable {X : Cx}
end SM
namespace SM
open PySem PySem.Spec PyProof.Rows L2
variable {K : PySem.W.Frag} {G G' G2 H H' H2 : Hp} {S S' S2 : Sto}
theorem lookup_memP {α : Type} : ∀ {l : List (Nat × α)} {c : Nat} {b : α}, l.lookup c = some b → (c, b) ∈ l
  | (x, y) :: r, c, b, h => by
    rw [List.lookup_cons] at h
    split at h
    · rename_i e
      cases h
      rw [eq_of_beq e]
      exact List.mem_cons_self
    · exact List.mem_cons_of_mem _ (lookup_memP h)
theorem Cgt.hot {X : Cx} {a : Addr} {oe : Obj} {c : Nat} {d : Option Addr} {pn : List (Addr × Obj)} (h : Cgt X.K oe c d) : L2H.HotC (X.suite a ((a, oe) :: pn)) := by
  obtain ⟨vs, e⟩ := h.fl
  exact ⟨(a, oe), ⟨rfl, vs, e, h.zn.2.2 vs e⟩, List.mem_cons_self⟩
section
variable {X : Cx} {x n : Str} {cv : Value} {i : Nat} {body suite : List Stmt} {b₀ : Stmt} {np pos pos' : Pos} {tb : DTS} {ts : Addr → Option Addr → Nat → DTS} {tab : List (Nat × Bool)}
end
end SM
namespace SM
open PySem PySem.Spec PyProof.Rows L2
variable {K : PySem.W.Frag} {G G' G2 H H' H2 : Hp} {S S' S2 : Sto}
section
variable {X : Cx} {a : Addr} {oe : Obj} {c : Nat} {d : Option Addr} {pn : List (Addr × Obj)} {e : Expr} {te : DTE} {fl : Str} {pos : Pos} {tbl : List (Nat × Nat)}
end
def IxOk (K : PySem.W.Frag) (cv : Value) (tab : List (Nat × Bool)) : Prop := ∀ c b, tab.lookup c = some b → ExcC K (cad K c) ∧ (PySem.W.clsIn K (cad K c)).isSome = true ∧ PySem.W.kitOne K (.ref (cad K c)) cv = some b
section
variable {X : Cx} {a : Addr} {oe : Obj} {c : Nat} {d : Option Addr} {pn : List (Addr × Obj)} {e : Expr} {te : DTE} {pos p : Pos} {tab : List (Nat × Bool)}
end
end SM
namespace SM
open PySem PySem.Spec PyProof.Rows L2
variable {K : PySem.W.Frag} {G G' G2 H H' H2 : Hp} {S S' S2 : Sto}
section
variable {P : Program} {w : World} {mg : Str → Option Value} {base : Heap}
end
section
variable {X : Cx} {e : Expr} {es : List Expr} {pos p : Pos} {k j : Nat} {x : Str} {t : DTA} {ps : List Str} {R : DSp}
end
end SM
namespace SM
open PySem PySem.Spec PyProof.Rows L2
variable {K : PySem.W.Frag}
theorem exc_of {D : Addr} (h : excB K D = true) : ExcC K D ∧ (PySem.W.clsIn K D).isSome = true := by
  unfold excB at h
  simp only [Bool.and_eq_true] at h
  obtain ⟨h1, h2, h3, h4, h5, h6, h7, h8, h9⟩ := h
  exact ⟨⟨He.eqO_ok h1, He.eqO_ok h2, of_decide_eq_true h3, h4, He.eqO_ok h5, He.eqO_ok h6, of_decide_eq_true h7, of_decide_eq_true h8⟩, h9⟩
theorem ix_of {cv : Value} {tab : List (Nat × Bool)} (h : ixB K cv tab = true) : IxOk K cv tab := fun c b hl => by
  have z := List.all_eq_true.mp h _ (lookup_memP hl)
  simp only [Bool.and_eq_true] at z
  exact ⟨(exc_of z.1).1, (exc_of z.1).2, of_decide_eq_true z.2⟩
section
variable {P : Program} {w : World} {mg : Str → Option Value} {base : Heap}
end
end SM
namespace SM
open PySem PySem.Spec PyProof.Rows L2
variable {K : PySem.W.Frag} {G H : Hp} {S : Sto}
end SM
namespace SM
open PySem PySem.Spec PyProof.Rows L2
variable {K : PySem.W.Frag} {G G' G2 H H' H2 : Hp} {S S' S2 : Sto}
section
variable {X : Cx} {body : List Stmt} {h0 : ExceptHandler} {hds : List ExceptHandler} {l : List Cl} {pos : Pos} {tb : WX → TS} {Wo : WX}
end
end SM
namespace SM
open PySem PySem.Spec PyProof.Rows L2
variable {K : PySem.W.Frag} {G G' G2 H H' H2 : Hp} {S S' S2 : Sto}
theorem gx0_of {mg : Str → Option Value} {c : Nat} {x : Str} (h : gx0B K c = true) (hm : mg x = some (.ref (cad K c))) : Gx0 K mg c x := by
  unfold gx0B at h
  simp only [Bool.and_eq_true] at h
  obtain ⟨h0, h1, h2, h3⟩ := h
  exact ⟨h0, h1, of_decide_eq_true h2, of_decide_eq_true h3, hm⟩
section
variable {X : Cx} {pos p pos' : Pos} {x : Str} {c : Nat}
end
end SM
namespace SM
open PySem PySem.Spec PyProof.Rows L2
theorem pe_mkE {X : Cx} {CX : CXT} {x : Str} {C fI : Addr} {k : Nat} {fd : FuncData} {ps : List Str} {sp : Sp} {e : Expr} {es : List Expr} {ta : TA} {p pos : Pos} (T : OexC X.K C) (iC : PySem.W.findIn X.K (.ref C) "__init__" = some (some (.ref fI)))
    (tI : PySem.W.typeIn X.K (.ref fI) = some (.type "function")) (F1 : FnOk X.prog X.w X.K X.mg X.base CX k fI fd ps sp) (hr : Room (k + 1) X.A) (hb : Binds X.K fd ps []) (hx : Passes CX X (fun _ _ _ => False)) (hg : Gl X x) (hm : X.mg x = some (.ref C)) (ha : PA X (e :: es) ta)
    (hdb : (x == ("__debug__" : Str)) = false := by decide) (he : starEach (e :: es) X.env = (false, eval e X.env) :: starEach es X.env := by rfl) (hpl : (backTo pos (starEach es X.env)).any (·.1) = false := by rfl) :
    PE X (.Call (.Name x p) (e :: es) [] pos) (fun σ H Q => ta σ H fun vs H1 => vs.length ≤ 1000 ∧ ∀ a, H1 a = none → sp (.ref a :: (vs ++ [])) (upd H1 a (exo a C none)) (fun v H2 => v = .non ∧ Q (.ref a) H2) (fun _ _ _ => False)) := by
  refine ⟨fun pins s σ H Q I h => ?_⟩
  obtain ⟨nm, q, N, bs, bm, sn, sub, ab, col, dd, k0, k1, k2, k3, k5, hC, hbm⟩ := T.cls
  refine wpAny_Call_Name_kw (ld_glob I hg hm ?_ hdb)
  refine PySem.W.callWith_K (h₀ := X.base) I.ok.mod.kin T.kC (thn (ha.run pos pins s σ H _ I h) ?_) he hpl
  rintro us s1 ⟨vs, H1, I1, r1, hz, q1⟩
  refine ⟨I1.kIn, ?_⟩
  show wpAny _ _ (call (.ref C) us) _ _ _
  obtain ⟨hp, g, dr, tk, os⟩ := s1
  generalize hn1 : hp.objs.size + 1 = n1
  have hsz : hp.objs.size ≤ n1 := by omega
  have hq := q1 n1 (I1.hok.fresh hsz)
  rw [List.append_nil] at hq
  generalize hh2 : (hp.push (PySem.W.kdv_tup us)).push (PySem.HandSPX.excO C hp.objs.size) = hp2
  have kk : ∀ b o, hp.get? b = some o → hp2.get? b = some o := by
    subst hh2
    exact fun b o e => Heap.get?_push_of_some _ (Heap.get?_push_of_some _ e)
  have hget : hp2.get? n1 = some (PySem.HandSPX.excO C hp.objs.size) := by
    subst hh2 hn1
    heap_get
  have I2 : Inv X pins σ (upd H1 n1 (exo n1 C none)) ⟨hp2, g, dr, tk, os⟩ := I1.laid (t' := tk) kk hsz (exo_ok hget)
  have r2 : Vals (V.ref n1 :: vs) (Value.ref n1 :: us) := .cons rfl r1
  have hl : (Value.ref n1 :: us ++ []).length = ps.length := by
    rw [List.append_nil, ← r2.length]
    exact F1.len _ _ _ _ hq
  have hus : us.length ≤ sizeLine := by
    rw [← Paired.length r1, sizeLine_eq]
    omega
  subst hh2 hn1
  refine wpAny_call (PySem.HandSPX.call_own F.excBase_ValueError (fun Y => PySem.HandSPX.refsVE_contains Y bm hbm) (I1.kIn _ _ hC) (PySem.W.looks_findIn I1.kIn iC) (fun self => PySem.W.bind_fn I1.kIn self tI) hus ?_)
  refine codeAny_mono (F1.run _ X.stack _ _ ⟨_ :: us, []⟩ (Value.ref (hp.objs.size + 1) :: us ++ []) _ _ (fun _ _ _ => False) (hr.make C us []) (I2.env0.make C us []) (hb _ (_ :: us) I2.kIn hl) (by rw [List.append_nil]; exact r2) hq) ?_
  intro r s' hq'
  match r, hq' with
  | .error er, hq' => exact hx pins σ _ _ er s' I2 hq'
  | .ok (.ret u), hq' =>
    obtain ⟨v, H2, I3, rv, ev, q2⟩ := I2.after hq'
    subst ev
    exact ⟨rv, V.ref (hp.objs.size + 1), H2, I3, rfl, q2⟩
section
variable {X : Cx} {e : Expr} {es : List Expr} {pos p : Pos} {j : Nat} {x : Str} {t : DTA} {c : Nat}
def dMkE (c : Nat) (t : DTA) : DTE := fun δ S Q XD => t δ S (fun ds S1 => ds.length = (cfs c).length ∧ ∀ a, S1 a = none → Q (.adr a) (su S1 a (.exo a c ds))) XD
theorem de_mkE (F : Gx X.prog X.w X.K X.mg X.base c x) (hr : Room j X.A) (hg : Gl X x) (ha : PDA X (e :: es) t) (hkj : 2 ≤ j := by decide) (hl9 : (cfs c).length ≤ 900 := by decide) (hdb : (x == ("__debug__" : Str)) = false := by decide) (he : starEach (e :: es) X.env = (false, eval e X.env) :: starEach es X.env := by rfl) (hpl : (backTo pos (starEach es X.env)).any (·.1) = false := by rfl) :
    PD X (.Call (.Name x p) (e :: es) [] pos) (dMkE c t) := ⟨fun W tk => by
  obtain ⟨f, fd, ps, F1, T, iC, tI, hb, hm⟩ := F.ex
  refine PE.weak (pe_mkE T iC tI F1 (hr.mono hkj) hb (fun pins σ H s e s' I z => (cx_no z).elim) hg hm (ha.run W tk) hdb he hpl) ?_
  rintro σ H Q ⟨G, δ, S, QD, XD, re, rl, h, kq, kx⟩
  refine ⟨G, δ, S, _, XD, re, rl, h, fun G1 H1 S1 vs ds s1 rs q => ?_, kx⟩
  obtain ⟨hl, q⟩ := q
  refine ⟨by rw [rs.length, hl]; omega, fun a na => ?_⟩
  rw [List.append_nil]
  refine ⟨a, vs, rfl, by rw [rs.length, hl], upd_same, fun H' d fs h1 h2 hn hne hk hlk => ⟨rfl, ?_⟩⟩
  have hn1 : H1 d = none := by rw [upd_ne hne] at hn; exact hn
  have s2 : Stp X.K G1 H1 S1 (upd G1 d (exd d fs)) (upd H1 d (exd d fs)) S1 := Stp.newF s1.rel hn1
  have na2 : upd H1 d (exd d fs) a = none := by rw [upd_ne (Ne.symm hne)]; exact na
  have s3 := Stp.newO s2.rel (p := a) (u := exo a (cad X.K c) (some d)) (o := .exo a c ds) na2 ⟨some d, rfl, hl, .inr ⟨d, fs, vs, rfl, upd_same, rs.mono s2.sg, hlk⟩⟩
  have eH : H' = upd (upd H1 d (exd d fs)) a (exo a (cad X.K c) (some d)) := by
    funext b
    by_cases hb1 : b = a
    · subst hb1; rw [upd_same, h1]
    · rw [upd_ne hb1]
      by_cases hb2 : b = d
      · subst hb2; rw [upd_same, h2]
      · rw [upd_ne hb2, hk b hb1 hb2, upd_ne hb1]
  subst eH
  exact kq _ _ _ _ _ ((s1.trans s2).trans s3) (.adr a) (q a (s1.rel.free na).2)⟩
end
def dMkE0 (c : Nat) : DTE := fun δ S Q _ => ∀ a, S a = none → Q (.adr a) (su S a (.exo a c []))
section
variable {X : Cx} {pos p : Pos} {x : Str} {c : Nat}
theorem pe_mkE0 (F : Gx0 X.K X.mg c x) (hg : Gl X x) (hdb : (x == ("__debug__" : Str)) = false := by decide) :
    PE X (.Call (.Name x p) [] [] pos) (fun σ H Q => ∀ a, H a = none → Q (.ref a) (upd H a (exo a (cad X.K c) none))) := by
  refine ⟨fun pins s σ H Q I h => ?_⟩
  refine wpAny_Call_Name_kw (ld_glob I hg F.hm ?_ hdb)
  refine PySem.W.callWith_K0 I.kIn F.kC ?_
  show wpAny _ _ (call (.ref (cad X.K c)) []) _ _ _
  obtain ⟨bm, N, nm, qn, bs, hdct, sn, sub, ab, col, dd, k0, k1, k2, k3, k5, mN, hC, hN, hni, T⟩ := exc_obj I.kIn F.q
  refine wpAny_call_exc_subT PySem.F.excBase_ValueError T hC hN hni (fun h' a hm => ?_) (Nat.zero_le _)
  have hn : H a = none := I.hok.gone hm.new
  obtain ⟨t, ht, _, _⟩ := hm.there
  exact ⟨.ref a, upd H a (exo a (cad X.K c) none), I.laidN hm.keeps hm.new hn (exo_ok ht), rfl, h a hn⟩
theorem de_mkE0 (F : Gx0 X.K X.mg c x) (hg : Gl X x) (hc : cfs c = [] := by rfl) (hdb : (x == ("__debug__" : Str)) = false := by decide) : PD X (.Call (.Name x p) [] [] pos) (dMkE0 c) := ⟨fun W tk => by
  refine PE.weak (pe_mkE0 F hg hdb) ?_
  rintro σ H Q ⟨G, δ, S, QD, XD, re, rl, h, kq, kx⟩ a na
  exact kq _ _ _ _ _ (Stp.newO rl (o := .exo a c []) na ⟨none, rfl, by rw [hc] <;> rfl, .inl ⟨rfl, hc⟩⟩) (.adr a) (h a (rl.free na).2)⟩
end
section
variable {X : Cx} {e : Expr} {te : DTE} {pos p : Pos} {tab : List (Nat × Bool)}
def dIsX (tab : List (Nat × Bool)) (te : DTE) : DTE := fun δ S Q XD => te δ S (fun x S1 => isk tab S1 x fun d => Q d S1) XD
def rIsXo (K : PySem.W.Frag) : List V → Hp → VK → Prop := fun xs H Q => ∃ (a C : Addr) (dd : Option Addr) (c : V) (cv : Value) (b : Bool), xs = [.ref a, c] ∧ H a = some (exo a C dd) ∧ (dd = none ∨ ∃ d fs, dd = some d ∧ H d = some (exd d fs)) ∧ ExcC K C ∧ (PySem.W.clsIn K C).isSome = true ∧
  (∀ u, RelV c u → u = cv) ∧ PySem.W.kitOne K (.ref C) cv = some b ∧ Q (.bl b) H
theorem inst_exo {pins : List (Addr × Obj)} {σ : L2.St} {H : Hp} {s : Shared} {a C : Addr} {dd : Option Addr} (I : Inv X pins σ H s) (h : H a = some (exo a C dd)) (hd : dd = none ∨ ∃ d fs, dd = some d ∧ H d = some (exd d fs)) : ∃ oe od, PySem.W.InstAt s.heap a oe C od := by
  obtain ⟨⟨t1, hget⟩, _, _⟩ := I.hok a _ h
  rcases hd with rfl | ⟨d, fs, rfl, hd⟩
  · exact ⟨_, none, hget, rfl, rfl, trivial⟩
  · obtain ⟨⟨mA, hns, hr⟩, _, _⟩ := I.hok d _ hd
    obtain ⟨od, ho, hl⟩ := lookIn_ns hns
    exact ⟨_, some od, hget, rfl, rfl, ho⟩
theorem call_isXo : CallR X (.builtin "isinstance") (rIsXo X.K) := by
  intro pins s σ H xs us Q I r h
  obtain ⟨a, D, dd, c, cv, b, rfl, ha, hd, C, hcl, hcv, e, q⟩ := h
  cases r with
  | cons rx rr =>
    cases rr with
    | cons rt rr =>
      cases rr
      cases rx
      have ec := hcv _ rt
      subst ec
      obtain ⟨oe, od, J⟩ := inst_exo I ha hd
      exact PySem.W.kia_one (PySem.W.kitx_exc hcl C.hg C.hk C.hs C.ha C.hn C.ht C.hm) I.kIn J e (fun z => nomatch z) fun tk => ⟨.bl b, H, I.kept (t' := tk) fun _ _ z => z, rfl, q⟩
theorem exo_dd {K : PySem.W.Frag} {G H : Hp} {S : Sto} {a : Addr} {c : Nat} {ds : List D} (rl : Rel K G H S) (h : S a = some (.exo a c ds)) : ∃ dd, H a = some (exo a (cad K c) dd) ∧ ds.length = (cfs c).length ∧ ((dd = none ∧ cfs c = []) ∨ ∃ d fs vs, dd = some d ∧ H d = some (exd d fs) ∧ Rps K G vs ds ∧ ∀ (j : Nat) (fl : Str) (v : V), (cfs c)[j]? = some fl → vs[j]? = some v → fs.lookup fl = some v) := by
  obtain ⟨_, dd, e, l, z⟩ := rl.own a _ h
  refine ⟨dd, e, l, z.imp id fun ⟨d, fs, vs, e1, g, r, k⟩ => ⟨d, fs, vs, e1, rl.at g rfl, r, k⟩⟩
theorem de_isX {u : Value} {cv : V} {ce : Expr} (hg : Gl X "isinstance") (hm : X.mg "isinstance" = none) (hcv : ∀ v, RelV cv v → v = u) (hce : PE X ce (tC cv)) (T : IxOk X.K u tab) (ha : PD X e te)
    (h1 : starEach (e :: [ce]) X.env = (false, eval e X.env) :: starEach [ce] X.env := by rfl) (h2 : starEach (ce :: []) X.env = (false, eval ce X.env) :: starEach [] X.env := by rfl) (h3 : (backTo pos (starEach [ce] X.env)).any (·.1) = false := by rfl) :
    PD X (.Call (.Name "isinstance" p) [e, ce] [] pos) (dIsX tab te) := ⟨fun W tk => by
  refine PE.weak (pe_callB call_isXo hg hm (by decide +kernel) (pa_cons (ha.run W tk) (pa_cons hce pa_nil h2) h1) (he := h1) (hpl := h3)) ?_
  rintro σ H Q ⟨G, δ, S, QD, XD, re, rl, h, kq, kx⟩
  refine ⟨G, δ, S, _, XD, re, rl, h, fun G1 H1 S1 v x s1 r z => ?_, kx⟩
  obtain ⟨a, c, ds, b, rfl, hS, hl, q⟩ := z.it
  cases r with
  | adr =>
    obtain ⟨C, hcl, hk⟩ := T c b hl
    obtain ⟨dd, hH, _, hd⟩ := exo_dd s1.rel hS
    exact ⟨a, _, dd, cv, u, b, rfl, hH, hd.imp (fun h => h.1) (fun ⟨d, fs, vs, a1, a2, _⟩ => ⟨d, fs, a1, a2⟩), C, hcl, hcv, hk, kq _ _ _ _ _ s1 (.bl b) q⟩
⟩
end
def XaOk (K : PySem.W.Frag) (f : Str) (cs : List Nat) : Prop := ∀ c ∈ cs, XfC K (cad K c) ∧ PySem.W.findIn K (.ref (cad K c)) f = some none
theorem xa_of {K : PySem.W.Frag} {f : Str} {cs : List Nat} (h : xaB K f cs = true) : XaOk K f cs := fun c hc => by
  have := List.all_eq_true.mp h c hc
  simp only [Bool.and_eq_true, decide_eq_true_eq] at this
  exact ⟨xfB_ok this.1, this.2⟩
def dXat (f : Str) (cs : List Nat) (te : DTE) : DTE := fun δ S Q XD => te δ S (fun x S1 => xak f cs S1 x fun d => Q d S1) XD
section
variable {X : Cx} {e : Expr} {te : DTE} {pos : Pos} {f : Str} {cs : List Nat}
theorem de_xat (T : XaOk X.K f cs) (ha : PD X e te) (hb : attributeBase e f X.env (eval e X.env) = eval e X.env := by rfl) : PD X (.Attribute e f pos) (dXat f cs te) := ⟨fun W tk => ⟨fun pins s σ H Q I h => by
  obtain ⟨G, δ, S, QD, XD, re, rl, h, kq, kx⟩ := h
  refine attr_of hb (thn ((ha.run W tk).run pins s σ H (fun v H1 => ∃ a c dd d fs u, v = .ref a ∧ H1 a = some (exo a (cad X.K c) dd) ∧ dd = some d ∧ H1 d = some (exd d fs) ∧ c ∈ cs ∧ fs.lookup f = some u ∧ Q u H1) I ⟨G, δ, S, _, XD, re, rl, h, fun G1 H1 S1 v d s1 r z => ?_, kx⟩) fun u s1 hh => ?_)
  · obtain ⟨a, c, ds, j, w, rfl, hS, hc, hf, hv, q⟩ := z.it
    cases r with
    | adr =>
      obtain ⟨dd, hH, hl, hd⟩ := exo_dd s1.rel hS
      rcases hd with ⟨_, hd⟩ | ⟨d, fs, vs, rfl, hd, rs, hk⟩
      · rw [hd] at hf; simp at hf
      · obtain ⟨u, hu, ru⟩ := rs.get hv
        exact ⟨a, c, _, d, fs, u, rfl, hH, rfl, hd, hc, hk j f u hf hu, kq _ _ _ _ _ s1 ru q⟩
  · obtain ⟨x, H1, I1, rx, a, c, dd, d, fs, v, ex, ha1, ed, ea, hc, l, q⟩ := hh
    subst ex
    obtain rfl : u = Value.ref a := rx
    subst ed
    obtain ⟨C, hno⟩ := T c hc
    obtain ⟨⟨t1, hget⟩, _, _⟩ := I1.hok a _ ha1
    obtain ⟨⟨mA, hns, hr⟩, _, _⟩ := I1.hok d _ ea
    obtain ⟨od, ho, hl⟩ := lookIn_ns hns
    obtain ⟨u, hu, ru⟩ := RelO.some_of (v := v) (o := mA f) (by rw [← l]; exact hr f)
    have J : PySem.W.InstAt s1.heap a _ (cad X.K c) (some od) := ⟨hget, rfl, rfl, ho⟩
    exact HandSPX.exc_get I1.kIn J C.ga C.gg C.exC (PySem.W.findObj_own C.hdC hno rfl (by rw [hl, hu])) (handed_of ru) ⟨v, H1, I1.tok _, ru, q⟩⟩⟩
end
end SM
namespace SM
open PySem PySem.Spec PyProof.Rows L2
variable {K : PySem.W.Frag} {G G' G2 H H' H2 : Hp} {S S' S2 : Sto}
section
variable {X : Cx} {k j : Nat} {c : Nat} {oth : List Nat} {ps : List Str} {R : DSp}
end
end SM
namespace SM
open PySem PySem.Spec PyProof.Rows L2
variable {K : PySem.W.Frag} {G G' G2 H H' H2 : Hp} {S S' S2 : Sto}
section
variable {X : Cx} {a b : Expr} {pos : Pos} {k j : Nat} {ta tb : DTE} {ps : List Str} {R : DSp} {c : Nat}
end
end SM
namespace SM
open PySem PySem.Spec PyProof.Rows L2
variable {K : PySem.W.Frag} {G G' G2 H H' H2 : Hp} {S S' S2 : Sto}
section
variable {X : Cx} {k : Nat}
end
end SM
namespace SM
open PySem PySem.Spec PyProof.Rows L2
variable {K : PySem.W.Frag} {G G' G2 H H' H2 : Hp} {S S' S2 : Sto}
theorem FunS.bindsN {x qual : Str} {params : Arguments} {body : List Stmt} {scope : Scope} {f : Addr} {fd : FuncData} {cc c : Addr} {ps : List Str} (F : FunS K x qual params body scope f fd cc c)
    (h : ∀ (kV doc pm : Value) (an : Option Addr) (cc : Addr) (cdv ct : Value) (us : List Value), us.length = ps.length → bindArgs (PySem.W.fnX x qual params body scope [("__class__", cc)] .none kV doc pm an cdv ct) ⟨us, []⟩ = pure (ps.zip us)) : Binds K fd ps [] := by
  obtain ⟨oc, od, dV, kV, doc, pm, an, ct, osl, rfl, lk, hcd, hD, hK⟩ := F.ex
  rcases hD with ⟨_, rfl⟩ | ⟨e, _⟩
  · exact .all (h kV doc pm an cc (.ref c) ct)
  · exact absurd rfl e
section
variable {X : Cx} {cc c D f2 f : Addr} {cs : List Nat} {ps2 : List Str} {k2 : Nat} {R2 : DSp} {ta : DTA} {e : Expr} {es : List Expr} {p0 p1 p2 p3 p4 : Pos} {ar : Arg} {fd fd2 : FuncData} {body : List Stmt} {σ : L2.St} {δ : DS} {s : Shared} {E : DEnds} {W : WX} {oc : Value} {od : Option Addr} {osl : Array (Option Value)}
end
section
variable {P : Program} {w : World} {mg : Str → Option Value} {base : Heap}
end
end SM
namespace SM
open PySem PySem.Spec PyProof.Rows L2
open PySem.W (EachIs AllAlike Sortable dataLe)
variable {K : PySem.W.Frag} {G G' G2 H H' H2 : Hp} {S S' S2 : Sto}
section
variable {X : Cx} {pos pos' : Pos} {e o i : Expr} {te : DTE} {k : Nat}
end
end SM
namespace SM
open PySem PySem.Spec PyProof.Rows L2
variable {K : PySem.W.Frag} {G G' G2 H H' H2 : Hp} {S S' S2 : Sto}
section
variable {X : Cx} {e o : Expr} {es : List Expr} {pos apos : Pos} {k j : Nat} {m : Str} {t : DTA} {to : DTE} {T : List (Nat × DSp)}
theorem tab_r {T : List (Nat × DSp)} {c : Nat} {fs : List D} {R : DSp} {F : DSp → Prop} (h : T.lookup c = some R) (q : F R) : tabK T (.ins c fs) F := ⟨c, fs, R, R, rfl, h, fun _ _ _ _ z => z, q⟩
theorem tabv_r {T : List (Nat × Str)} {c : Nat} {fs : List D} {z : Str} {F : Str → Prop} (h : T.lookup c = some z) (q : F z) : tabV T (.ins c fs) F := ⟨c, fs, z, rfl, h, q⟩
end
end SM
namespace SM
open PySem PySem.Spec PyProof.Rows L2
open PySem.W (Frag)
theorem Says2.fact {ch : ChK} {fn fs : List Df} {K : Frag} (c : Says2 ch fn fs K) (i : Nat) {p : Frag → Bool} (h : ch[i]? = some p := by rfl) : p K = true :=
  List.all_eq_true.mp c.bool.1 p (List.mem_of_getElem? h)
theorem Says2.lists {ch : ChK} {fn fs : List Df} {K : Frag} (c : Says2 ch fn fs K) : (fn.map fun d => d.ob K) = fn.map Df.val ∧ (fs.map fun d => d.obS K) = fs.map Df.val :=
  List.append_inj (congrArg Prod.snd c) (by rw [List.length_map, List.length_map])
theorem Says2.df {ch : ChK} {fn fs : List Df} {K : Frag} (c : Says2 ch fn fs K) (i : Nat) {d : Df} (h : fn[i]? = some d := by rfl) : d.Is K := by
  have e2 : (fn.map fun d => d.ob K)[i]? = (fn.map Df.val)[i]? := by rw [c.lists.1]
  rw [List.getElem?_map, List.getElem?_map, h] at e2
  exact Df.is (Option.some.inj e2) (List.all_eq_true.mp c.bool.2.1 d (List.mem_of_getElem? h))
end SM
namespace SM
open PySem PySem.Spec PyProof.Rows L2
variable {K : PySem.W.Frag} {G G' G2 H H' H2 : Hp} {S S' S2 : Sto}
section
variable {X : Cx} {e o ke : Expr} {es : List Expr} {pos apos kpos : Pos} {k j n : Nat} {m kx : Str} {t : DTA} {to tke : DTE} {T : List (Nat × DSp)} {dds : List D}
end
end SM
namespace SM
open PySem PySem.Spec PyProof.Rows L2
end SM
namespace SM
open PySem PySem.Spec PyProof.Rows L2
end SM
namespace SM
open PySem PySem.Spec PyProof.Rows L2
open PySem.W (Frag)
end SM
namespace SM
open PySem PySem.Spec PyProof.Rows L2
end SM
namespace SM
open PySem PySem.Spec PyProof.Rows L2
def gets (δ : DS) : List Nat → DS
  | [] => []
  | i :: r => nth δ i :: gets δ r
def setO : DS → Nat → Option D → DS
  | [], _, _ => []
  | _ :: r, 0, d => d :: r
  | x :: r, n + 1, d => x :: setO r n d
def setsA : List Nat → DS → DS → DS
  | [] => fun δ _ => δ
  | i :: r => fun δ ws => match ws with
    | [] => δ
    | w :: ws => setsA r (setO δ i w) ws
def sets (δ : DS) (ix : List Nat) (ws : DS) : DS := setsA ix δ ws
theorem setO_nth : ∀ (δ : DS) (i : Nat), setO δ i (nth δ i) = δ
  | [], _ => rfl
  | _ :: _, 0 => rfl
  | x :: r, i + 1 => by rw [setO, nth, setO_nth r i]
theorem sets_gets (δ : DS) : ∀ ix : List Nat, sets δ ix (gets δ ix) = δ
  | [] => rfl
  | i :: r => by
    show setsA r (setO δ i (nth δ i)) (gets δ r) = δ
    rw [setO_nth]
    exact sets_gets δ r
theorem put_0 {x : Option D} {r : DS} {d : D} : put (x :: r) 0 d = some d :: r := rfl
theorem put_s {x : Option D} {r : DS} {n : Nat} {d : D} : put (x :: r) (n + 1) d = x :: put r n d := rfl
theorem setO_0 {x d : Option D} {r : DS} : setO (x :: r) 0 d = d :: r := rfl
theorem setO_s {x d : Option D} {r : DS} {n : Nat} : setO (x :: r) (n + 1) d = x :: setO r n d := rfl
theorem sets_n {δ ws : DS} : sets δ [] ws = δ := rfl
theorem sets_c {δ ws : DS} {w : Option D} {i : Nat} {r : List Nat} : sets δ (i :: r) (w :: ws) = sets (setO δ i w) r ws := rfl
theorem gets_n {δ : DS} : gets δ [] = [] := rfl
theorem gets_c {δ : DS} {i : Nat} {r : List Nat} : gets δ (i :: r) = nth δ i :: gets δ r := rfl
theorem nth_0 {x : Option D} {r : DS} : nth (x :: r) 0 = x := rfl
theorem nth_s {x : Option D} {r : DS} {n : Nat} : nth (x :: r) (n + 1) = nth r n := rfl
theorem loop_eG {gd : Gd} {q : Pat} {tb : DTS} {E : DEnds} {α : Type} {g : α → D} (ix : List Nat) (J : List α → DS → Sto → Prop) {δ0 δl : DS} {S0 : Sto} {xs : List α} (hδ : δ0 = δl) (hI : ∀ xs ws S, J xs ws S → gok gd S)
    (hs : ∀ x r ws S, J (x :: r) ws S → ∃ δ1, bindP q (g x) (sets δl ix ws) = some δ1 ∧ ∀ N : DS → Sto → Prop, (∀ δ2 S2, δ2 = sets δl ix (gets δ2 ix) → J r (gets δ2 ix) S2 → N δ2 S2) → tb { E with nx := N, ct := N, bk := E.nx } δ1 S)
    (hd : ∀ ws S, J [] ws S → E.nx (sets δl ix ws) S) (h : J xs (gets δ0 ix) S0) : loopK gd q tb E (xs.map g) δ0 S0 := by
  subst hδ
  refine loop_ofG (g := g) (fun r δ S => δ = sets δ0 ix (gets δ ix) ∧ J r (gets δ ix) S) (fun xs δ S h => hI _ _ _ h.2) ?_ ?_ ⟨(sets_gets δ0 ix).symm, h⟩
  · rintro x r δ S ⟨e, hJ⟩
    obtain ⟨δ1, e1, t⟩ := hs x r _ S hJ
    exact ⟨δ1, by rw [e]; exact e1, fun N hN => t N fun δ2 S2 a b => hN δ2 S2 ⟨a, b⟩⟩
  · rintro δ S ⟨e, hJ⟩
    rw [e]
    exact hd _ _ hJ
theorem loop_e {q : Pat} {tb : DTS} {E : DEnds} {α : Type} {g : α → D} (ix : List Nat) (J : List α → DS → Sto → Prop) {δ0 δl : DS} {S0 : Sto} {xs : List α} (hδ : δ0 = δl)
    (hs : ∀ x r ws S, J (x :: r) ws S → ∃ δ1, bindP q (g x) (sets δl ix ws) = some δ1 ∧ ∀ N : DS → Sto → Prop, (∀ δ2 S2, δ2 = sets δl ix (gets δ2 ix) → J r (gets δ2 ix) S2 → N δ2 S2) → tb { E with nx := N, ct := N, bk := E.nx } δ1 S)
    (hd : ∀ ws S, J [] ws S → E.nx (sets δl ix ws) S) (h : J xs (gets δ0 ix) S0) : loopK none q tb E (xs.map g) δ0 S0 :=
  loop_eG (gd := none) ix J hδ (fun _ _ _ _ => True.intro) hs hd h
theorem loop_i {q : Pat} {tb : DTS} {E : DEnds} (n : Nat) (ix : List Nat) (J : Nat → DS → Sto → Prop) {δ0 δl : DS} {S0 : Sto} (hδ : δ0 = δl)
    (hs : ∀ i ws S, i < n → J i ws S → ∃ δ1, bindP q (D.int (0 + (i : Nat))) (sets δl ix ws) = some δ1 ∧ ∀ N : DS → Sto → Prop, (∀ δ2 S2, δ2 = sets δl ix (gets δ2 ix) → J (i + 1) (gets δ2 ix) S2 → N δ2 S2) → tb { E with nx := N, ct := N, bk := E.nx } δ1 S)
    (hd : ∀ ws S, J n ws S → E.nx (sets δl ix ws) S) (h : J 0 (gets δ0 ix) S0) : loopK none q tb E ((List.range n).map fun i : Nat => D.int (0 + (i : Nat))) δ0 S0 := by
  refine loop_e (g := fun i : Nat => D.int (0 + (i : Nat))) ix (fun r ws S => ∃ i, i ≤ n ∧ r = List.range' i (n - i) ∧ J i ws S) hδ ?_ ?_ ⟨0, Nat.zero_le _, by rw [List.range_eq_range', Nat.sub_zero], h⟩
  · rintro x r ws S ⟨i, hi, e, hI⟩
    have hlt : i < n := by
      rcases Nat.lt_or_ge i n with h | h
      · exact h
      · rw [show n - i = 0 by omega] at e; cases e
    obtain ⟨m, hm⟩ : ∃ m, n - i = m + 1 := ⟨n - i - 1, by omega⟩
    rw [hm, List.range'_succ] at e
    simp only [List.cons.injEq] at e
    obtain ⟨rfl, rfl⟩ := e
    obtain ⟨δ1, e1, hN⟩ := hs x ws S hlt hI
    exact ⟨δ1, e1, fun N h => hN N fun δ2 S2 a h2 => h δ2 S2 a ⟨x + 1, hlt, by congr 1; omega, h2⟩⟩
  · rintro ws S ⟨i, hi, e, hI⟩
    have ei : i = n := by
      rcases Nat.lt_or_ge i n with h | h
      · obtain ⟨m, hm⟩ : ∃ m, n - i = m + 1 := ⟨n - i - 1, by omega⟩
        rw [hm, List.range'_succ] at e; cases e
      · omega
    subst ei
    exact hd ws S hI
end SM
namespace SM
open PySem PySem.Spec PyProof.Rows L2
mutual
theorem eqv_toP : ∀ d : D, PyData.eqv (toP d) (toP d) = true
  | .tup ds => by rw [toP, PyData.eqv]; exact eqvA_toP ds
  | .lst ds => by rw [toP, PyData.eqv]; exact eqvA_toP ds
  | .non => rfl
  | .bl b => by simp [toP, PyData.eqv]
  | .int i => by simp [toP, PyData.eqv]
  | .str s => by simp [toP, PyData.eqv]
  | .ty _ => rfl
  | .adr _ => rfl
  | .ins _ _ => rfl
  | .dT _ => rfl
  | .exn _ _ _ _ => rfl
  | .cls _ => rfl
theorem eqvA_toP : ∀ ds : List D, PyData.eqvAll (toPs ds) (toPs ds) = true
  | [] => rfl
  | d :: r => by rw [toPs, PyData.eqvAll, eqv_toP d, eqvA_toP r]; rfl
end
theorem eqB_rfl (d : D) : eqB d d = true := by
  have h := eqv_toP d
  cases d <;> first | exact h | (simp [eqB])
end SM
namespace SM
open PySem PySem.Spec PyProof.Rows L2
section
variable {P : Program} {w : World} {A : Around} {R : Result → Shared → Prop} {s : Shared} {kx vx ta ia tb ib : Expr} {fa fb : List Expr} {scope : Scope} {pos : Pos} {it acc : Value} {D : Addr} {env : Env}
end
section
variable {X : Cx}
end
end SM
namespace SM
open PySem PySem.Spec PyProof.Rows L2
variable {K : PySem.W.Frag} {G G' G2 H H' H2 G0 H0 : Hp} {S S' S2 S0 : Sto}
def dDc2L (gd : Gd) (q : Pat) (tt : DTT) (ti1 : DTI) (q1 : Pat) (tt1 : DTT) (tk tv : DTE) (vs1 : List Nat) (δ : DS) : List D → List (List Key × D) → Sto → (List (List Key × D) → Sto → Prop) → Prop
  | [], a, S, Q => gok gd S ∧ Q a S
  | x :: r, a, S, Q => gok gd S ∧ match bindP q x δ with
    | some δ2 => tt δ2 S (fun b S3 => brn b (ti1 δ2 S3 (fun gd1 ys S4 => ys.length ≤ 1000 ∧ dDcL gd1 q1 tt1 tk tv (uns δ2 vs1) ys a S4 (fun a' S5 => dDc2L gd q tt ti1 q1 tt1 tk tv vs1 δ r a' S5 Q)) noX) (dDc2L gd q tt ti1 q1 tt1 tk tv vs1 δ r a S3 Q)) noX
    | none => False
structure dc2K (gd : Gd) (q : Pat) (tt : DTT) (ti1 : DTI) (q1 : Pat) (tt1 : DTT) (tk tv : DTE) (vs1 : List Nat) (δ : DS) (xs : List D) (S : Sto) (Q : List (List Key × D) → Sto → Prop) : Prop where
  it : xs.length ≤ 1000 ∧ dDc2L gd q tt ti1 q1 tt1 tk tv vs1 δ xs [] S Q
section
variable {W : WX}
end
section
variable {X : Cx} {k : Nat} {kx vx tg iter tg1 iter1 : Expr} {ifs ifs1 : List Expr} {scope : Scope} {own : List (Str × Nat)} {vs1 : List Nat} {ti ti1 : DTI} {q q1 : Pat} {tt tt1 : DTT} {tk tv : DTE} {pos : Pos}
end
end SM
namespace SM
open PySem PySem.Spec PyProof.Rows L2
variable {K : PySem.W.Frag} {G G' G2 H H' H2 G0 H0 : Hp} {S S' S2 S0 : Sto}
section
variable {X : Cx} {W : WX}
end
end SM
namespace SM
open PySem PySem.Spec PyProof.Rows L2
variable {K : PySem.W.Frag} {G G' G2 H H' H2 : Hp} {S S' S2 : Sto}
structure Gid (P : Program) (w : World) (K : PySem.W.Frag) (mg : Str → Option Value) (base : Heap) (k : Nat) (c : Nat) (x : Str) (ps : List Str) (dds : List D) (R : DSp) : Prop where
  ex : ∃ f fd dvs ds, FnOk P w K mg base (L2N.CX P w) k f fd ps (toSp K R) ∧ mg x = some (.ref (cad K c)) ∧ Mk K (cad K c) f ∧ Binds K fd ps ds ∧ Vals dvs ds ∧ ∀ G, Rps K G dvs dds
section
variable {X : Cx} {e : Expr} {es : List Expr} {pos p : Pos} {k j c : Nat} {x : Str} {t : DTA} {ps : List Str} {R : DSp} {dds : List D}
end
section
variable {x qual : Str} {params : Arguments} {body : List Stmt} {scope : Scope} {dvs : List V} {kws : List (Str × V)} {f : Addr} {fd : FuncData} {ps : List Str}
end
end SM
namespace SM
open PySem PySem.Spec PyProof.Rows L2
section
variable {X : Cx} {k : Nat} {y : Str} {py : Pos} {kx vx tg iter tg1 iter1 elt : Expr} {ifs ifs1 : List Expr} {scope : Scope} {own : List (Str × Nat)} {vj vs1 : List Nat} {pos spos : Pos}
variable {ti ti1 : DTI} {q q1 : Pat} {tt tt1 : DTT} {tk tv te : DTE}
end
end SM
namespace SM
open PySem PySem.Spec PyProof.Rows L2
section
variable {X : Cx} {k : Nat} {y : Str} {py : Pos} {kx vx tg iter : Expr} {ifs : List Expr} {scope : Scope} {own : List (Str × Nat)} {pos spos : Pos}
variable {ti : DTI} {q : Pat} {tt : DTT} {tk tv : DTE}
end
end SM
namespace SM
open PySem PySem.Spec PyProof.Rows L2
section
variable {prog : Program} {w : World} {A : Around} {E : Value → Shared → Prop} {s : Shared}
end
structure TurnH (X : Cx) (tg : Expr) (J : It) (fp : List Addr) (it : Addr) (tn : Nat → Heap → Prop) : Prop where
  obj : ∀ i h, tn i h → ∀ b ∈ fp, ∃ o, h.get? b = some o ∧ ∀ v, o.data ≠ .cell v
  keep : ∀ i h h', tn i h → (∀ b ∈ fp, ∀ o, h.get? b = some o → h'.get? b = some o) → tn i h'
  item : ∀ (i : Nat) (pins : List (Addr × Obj)) (s : Shared) (σ : L2.St) (H : Hp) (E : Value → Shared → Prop), Inv X pins σ H s → (∀ b ∈ fp, FpOk X pins H b) → tn i s.heap → J.go i H →
    wpAny (model X.prog X.w) X.A (pyNext (.ref it)) (fun r s1 => ∃ u, r = some u ∧
      wpAny (model X.prog X.w) X.A (letOwnedTupleGo tg (.ref it) u) (fun _ s2 => ∃ x H', Inv X pins σ H' s2 ∧ RelV x u ∧ J.yld i H x H' ∧ tn (i + 1) s2.heap ∧ ∀ b ∈ fp, H' b = none) E s1) E s
  done : ∀ (i : Nat) (pins : List (Addr × Obj)) (s : Shared) (σ : L2.St) (H : Hp) (E : Value → Shared → Prop), Inv X pins σ H s → (∀ b ∈ fp, FpOk X pins H b) → tn i s.heap → J.stop i H →
    wpAny (model X.prog X.w) X.A (pyNext (.ref it)) (fun r s1 => r = none ∧ Inv X pins σ H s1) E s
section
variable {X : Cx} {tg : Expr}
def PIEH (X : Cx) (pins : List (Addr × Obj)) (σ : L2.St) (tg : Expr) (R : It → Hp → Prop) (itv : Value) (s2 : Shared) : Prop :=
  ∃ (it : Addr) (fp : List Addr) (tn : Nat → Heap → Prop) (J : It) (H' : Hp), itv = .ref it ∧ Inv X pins σ H' s2 ∧ TurnH X tg J fp it tn ∧ tn 0 s2.heap ∧ (∀ b ∈ fp, FpOk X pins H' b) ∧ R J H'
structure PIH (X : Cx) (tg iter : Expr) (wi : TI) : Prop where
  run : ∀ (pins : List (Addr × Obj)) (s : Shared) (σ : L2.St) (H : Hp) (R : It → Hp → Prop), Inv X pins σ H s → wi σ H R →
    wpAny (model X.prog X.w) X.A (eval iter X.env) (fun v s1 => wpAny (model X.prog X.w) X.A (pyIter v) (PIEH X pins σ tg R) X.xe s1) X.xe s
theorem PIH.weak {iter : Expr} {t t' : TI} (h : PIH X tg iter t) (w : ∀ σ H R, t' σ H R → t σ H R) : PIH X tg iter t' := ⟨fun pins s σ H R I q => h.run pins s σ H R I (w σ H R q)⟩
structure PDIH (X : Cx) (tg iter : Expr) (ti : DTI) : Prop where
  run : ∀ W, L2N.Takes X W → PIH X tg iter (liftI X.K W ti)
end
end SM
namespace SM
open PySem PySem.Spec PyProof.Rows L2
end SM
namespace SM
open PySem PySem.Spec PyProof.Rows L2
def Sub (S S' : Sto) : Prop := ∀ a o, S a = some o → S' a = some o
variable {K : PySem.W.Frag} {G G' G2 H H' H2 : Hp} {S S' S0 : Sto}
theorem Sub.refl : Sub S S := fun _ _ h => h
theorem Sub.trans {S2 : Sto} (h : Sub S S') (h2 : Sub S' S2) : Sub S S2 := fun a o e => h2 a o (h a o e)
theorem Sub.non {p : Addr} (h : Sub S S') (e : S' p = none) : S p = none := by
  cases q : S p with
  | none => rfl
  | some o => rw [h p o q] at e; cases e
theorem Sub.set {p : Addr} {o : OO} (h : Sub S S') (hp : S p = none) : Sub S (su S' p o) := fun a u e => by
  rw [su_ne]
  · exact h a u e
  · intro z; subst z; rw [hp] at e; cases e
theorem Sub.new {p : Addr} {o : OO} (hp : S p = none) : Sub S (SM.su S p o) := Sub.refl.set hp
structure shrK (Q : DQ) (d : D) (S : Sto) : Prop where
  it : ∃ S0, Sub S0 S ∧ Q d S0
structure shrX (X : XQ) (x : Exn) (S : Sto) : Prop where
  it : ∃ S0, Sub S0 S ∧ X x S0
abbrev RdW (t : DTS) (N : List Str) (R : DSp) : Prop := ∀ ds S QD XD, R ds S QD XD → t (ends (shrK QD) (shrX XD)) (startD N ds) S
def widS (R : DSp) : DSp := fun ds S Q X => ∃ Q0 X0, R ds S Q0 X0 ∧ Q = shrK Q0 ∧ X = shrX X0
theorem RdW.rd {t : DTS} {N : List Str} {R : DSp} (h : RdW t N R) : Rd t N (widS R) := by
  rintro ds S _ _ ⟨Q0, X0, hr, rfl, rfl⟩
  exact h ds S Q0 X0 hr
variable {P : Program} {w : World} {mg : Str → Option Value} {base : Heap}
theorem FnH.imp {k : Nat} {f : Addr} {fd : FuncData} {ps : List Str} {sp sp' : Sp} (F : L2H.FnH P w K mg base (L2N.CX P w) k f fd ps sp) (h : ∀ vs H Q E, sp' vs H Q E → sp vs H Q E) : L2H.FnH P w K mg base (L2N.CX P w) k f fd ps sp' :=
  ⟨fun vs H Q E q => F.len vs H Q E (h _ _ _ _ q), fun A outer s H args us vs Q E p hr hot hp he hb hv hs => F.run A outer s H args us vs Q E p hr hot hp he hb hv (h _ _ _ _ hs)⟩
end SM
namespace SM
open PySem PySem.Spec PyProof.Rows L2
end SM
namespace SM
open PySem PySem.Spec PyProof.Rows L2
noncomputable section
namespace SD
end SD
end
end SM
namespace SM
open PySem PySem.Spec PyProof.Rows L2
section
variable {X : Cx} {o ke : Expr} {pos apos kpos : Pos} {k j n : Nat} {m kx : Str} {to tke : DTE} {T : List (Nat × DSp)} {dds : List D}
end
end SM
namespace SM
open PySem PySem.Spec PyProof.Rows L2
noncomputable section
namespace SD
end SD
end
end SM
open PySem PySem.Spec PyProof.Rows L2 SM
local macro_rules | `(tactic| row_hasAll w_d1) => `(tactic| (try (conv => whnf)); first
  | refine vk_int ?_ | refine vk_lst ?_ | refine vk_str ?_ | refine vk_tup ?_ | refine vk_ins ?_ | refine vk_bl ?_ | refine vk_non ?_ | refine vk_dT ?_
  | refine vk_o (by row_hasAll w_sto) ?_
  | refine tab_r rfl ?_ | refine tabv_r rfl ?_ | refine itk_of rfl ?_ | refine ik_0 ?_ | refine brT ?_ | refine brF ?_
  | refine ok_o (by row_hasAll w_sto) ?_
  | refine And.intro (by first | rfl | decide | omega | assumption | exact Nat.le_of_ble_eq_true rfl) ?_)
local macro_rules | `(tactic| row_hasAll w_d) => `(tactic| (repeat row_hasAll w_d1); (try (conv => whnf)); try simp only [su_su, ofO, List.append_nil, List.nil_append, List.cons_append, Int.reduceToNat, List.set_cons_succ, List.set_cons_zero])
local macro_rules | `(tactic| row_hasAll w_sto) => `(tactic| first | exact su_same | assumption | (rw [su_ne (by first | assumption | exact Ne.symm (by assumption))]; row_hasAll w_sto))
local macro_rules | `(tactic| row_hasAll w_steq) => `(tactic| (funext zz; simp only [su, sd, List.map_nil, List.map_append, List.map_cons]; grind))
local macro_rules | `(tactic| row_hasAll w_side) => `(tactic| first
  | omega
  | (fail_if_success (with_reducible refine Nat.le_trans ?_ (Nat.le_refl sizeLine))); first | rfl | assumption | decide | exact Nat.le_of_ble_eq_true rfl
  | (simp only [List.length_cons, List.length_nil, List.length_map, List.length_append, slen_app, sizeLine_eq]; omega))
local macro_rules | `(tactic| row_hasAll w_e1) => `(tactic| (try (conv => whnf)); first
  | refine vk_int ?_ | refine vk_lst ?_ | refine vk_str ?_ | refine vk_tup ?_ | refine vk_ins ?_ | refine vk_bl ?_ | refine vk_non ?_ | refine vk_dT ?_
  | refine vk_o (by row_hasAll w_sto) ?_
  | refine tab_r rfl ?_ | refine tabv_r rfl ?_ | refine itk_of rfl ?_ | refine ik_0 ?_ | refine brT ?_ | refine brF ?_
  | refine ok_o (by row_hasAll w_sto) ?_
  | refine And.intro (by row_hasAll w_side) ?_)
local macro_rules | `(tactic| row_hasAll w_e) => `(tactic| (repeat row_hasAll w_e1); (try (conv => whnf)); try simp only [decide_true, decide_false, Bool.not_true, Bool.not_false, su_su, ofO, List.append_nil, List.nil_append, List.cons_append, Int.reduceToNat, List.set_cons_succ, List.set_cons_zero])
local macro_rules | `(tactic| row_hasAll w_env) => `(tactic| ((try simp only [startD, put_0, put_s, setO_0, setO_s, sets_n, sets_c, gets_n, gets_c, nth_0, nth_s]); (try rfl)))
local macro_rules | `(tactic| row_hasAll w_w) => `(tactic| row_hasAll w_e; repeat (first | (row_hasAll w_c; row_hasAll w_e) | (row_hasAll w_e1; row_hasAll w_e)))
namespace SM
open PySem PySem.Spec PyProof.Rows L2
theorem fresh {S : Sto} {p l : Addr} {o : OO} (h : su S p o l = none) : l ≠ p ∧ S l = none := by
  unfold su at h
  split at h
  · cases h
  · rename_i e; exact ⟨e, h⟩
def t_l_bag (a : Addr) (ns : List Int) : DTS := (dRet (dLstO (dCons (dLc (dItems (dSl (oScr a ns) (dVar 0) dNoPart (dPart (dC (.int 63))))) (.nm 1) dYes (dCB (on1 intD) (dCons (dVar 1) dNil)) [1]) (dCons (dC (.int 0)) (dCons (dC (.int 0)) (dCons (dC (.int 7)) dNil))))))
abbrev N_l_bag : List Str := ["_law_script", "_law_cell"]
@[irreducible] def r_l_bag (a : Addr) (ns : List Int) : DSp := fun ds S Q _ => ds = [.adr a] ∧ ∀ p b, S p = none → Q (.adr p) (su S p (bagO b))
theorem len_l_bag (a : Addr) (ns : List Int) : Ln 1 (r_l_bag a ns) := fun ds S Q E h => by unfold r_l_bag at h; rw [h.1]; rfl
theorem cut63 (ns : List Int) (h : ns.length ≤ 63) : cutD (ns.map D.int) none (some 63) = ns.map D.int := by
  unfold SM.cutD
  have e : HT.sIx (ns.map D.int).length (ns.map D.int).length (some 63) = min 63 (ns.map D.int).length := HT.sIx_nat _ _ 63
  rw [HT.sIx_none, e, List.length_map, List.drop_zero, Nat.sub_zero, Nat.min_eq_right h]
  exact List.take_of_length_le (by rw [List.length_map]; exact Nat.le_refl _)
theorem rd_l_bag (a : Addr) (ns : List Int) (hn : ns.length ≤ 63) : Rd (t_l_bag a ns) N_l_bag (r_l_bag a ns) := by
  intro ds S QD XD h
  unfold r_l_bag at h
  obtain ⟨rfl, q⟩ := h
  row_hasAll w_d
  rw [cut63 ns hn]
  refine lk_map (f := D.int) (fun n _ => ⟨_, rfl, fun Q' h => ?_⟩) ?_
  · row_hasAll w_d
    exact h
  · row_hasAll w_d
    intro p hp
    exact q p ⟨ns, 0, 0, 7⟩ hp
theorem i_bag {a : Addr} {ns : List Int} {S : Sto} {Q : DQ} {X : XQ} (h : ∀ p b, S p = none → Q (.adr p) (su S p (bagO b))) : r_l_bag a ns [.adr a] S Q X := by unfold r_l_bag; exact ⟨rfl, h⟩
def t_l_take : DTS := (dCut (dIf (dAnd (dTestB (dOp oEq (dOp oIx (dVar 0) (dC (.int 2))) (dC (.int 0)))) (dTestB (dOp oLt (dOp oIx (dVar 0) (dC (.int 1))) (dCB (on1 lenD) (dCons (dOp oIx (dVar 0) (dC (.int 0))) dNil))))) (dSeq (dSet 2 (dOp oIx (dOp oIx (dVar 0) (dC (.int 0))) (dOp oIx (dVar 0) (dC (.int 1))))) (dSeq (dSetL (dVar 0) (dC (.int 1)) (dOp oAdd (dOp oIx (dVar 0) (dC (.int 1))) (dC (.int 1)))) (dIf (dTestB (dOp oGe (dVar 2) (dOp oPow (dC (.int 10)) (dC (.int 18))))) (dSetL (dVar 0) (dC (.int 2)) (dVar 2)) (dSetL (dVar 0) (dC (.int 3)) (dOp oMod (dCB (on1 intD) (dCons (dOp oAdd (dOp oAdd (dOp oMul (dOp oIx (dVar 0) (dC (.int 3))) (dC (.int 48271))) (dOp oMul (dVar 2) (dC (.int 69621)))) (dC (.int 12345))) dNil)) (dC (.int 2147483647))))))) dNext) (dSeq (dIf (dTestB (dOp oGt (dOp oIx (dVar 0) (dC (.int 2))) (dC (.int 0)))) (dSeq (dSet 3 (dOp oMod (dCB (on1 intD) (dCons (dOp oIx (dVar 0) (dC (.int 2))) dNil)) (dVar 1))) (dSeq (dSetL (dVar 0) (dC (.int 2)) (dOp oFdiv (dOp oIx (dVar 0) (dC (.int 2))) (dVar 1))) (dRet (dVar 3)))) dNext) (dSeq (dSetL (dVar 0) (dC (.int 3)) (dOp oMod (dCB (on1 intD) (dCons (dOp oAdd (dOp oMul (dOp oIx (dVar 0) (dC (.int 3))) (dC (.int 48271))) (dC (.int 11))) dNil)) (dC (.int 2147483647)))) (dRet (dOp oMod (dCB (on1 intD) (dCons (dOp oFdiv (dOp oIx (dVar 0) (dC (.int 3))) (dC (.int 16))) dNil)) (dVar 1))))))
abbrev N_l_take : List Str := ["_law_bag_here", "_law_size", "_law_cell", "_law_digit"]
@[irreducible] def r_l_take : DSp := fun ds S Q _ => ∃ a b n, ds = [.adr a, .int n] ∧ S a = some (bagO b) ∧ 0 < n ∧ n < 1073741824 ∧ ∀ v b', 0 ≤ v → v < n → Q (.int v) (su S a (bagO b'))
theorem len_l_take : Ln 2 r_l_take := fun ds S Q E h => by unfold r_l_take at h; obtain ⟨a, b, n, rfl, _⟩ := h; rfl
theorem rd_l_take : Rd t_l_take N_l_take r_l_take := by
  intro ds S QD XD h
  unfold r_l_take at h
  obtain ⟨a, b, n, rfl, hS, h0, h1, q⟩ := h
  refine ⟨fun δ' S' => ∃ b' x y, δ' = [some (.adr a), some (.int n), x, y] ∧ S' = su S a (bagO b'), ?_, ?_⟩
  · unfold bagO at hS
    have fin : ∀ x y, ∃ b' x' y', [some (D.adr a), some (.int n), x, y] = [some (.adr a), some (.int n), x', y'] ∧ S = su S a (bagO b') := fun x y => ⟨b, x, y, rfl, (su_self hS).symm⟩
    row_hasAll w_d
    refine brn_of (fun hb => ?_) (fun _ => brF (fin _ _))
    row_hasAll w_d
    refine brP (fun hc => ?_) (fun _ => fin _ _)
    have hc' : b.at_ < b.cells.length := by simpa using hc
    row_hasAll w_d
    refine ik_map hc' ?_
    row_hasAll w_d
    refine brP (fun hd => ?_) (fun hd => ?_)
    · row_hasAll w_d
      exact ⟨⟨b.cells, b.at_ + 1, _, b.seed⟩, _, _, rfl, rfl⟩
    · row_hasAll w_d
      exact ⟨⟨b.cells, b.at_ + 1, b.big, _⟩, _, _, rfl, rfl⟩
  · rintro δ' S' ⟨b', x, y, rfl, rfl⟩
    have hS' : su S a (bagO b') a = some (bagO b') := su_same
    unfold bagO at hS' ⊢
    row_hasAll w_d
    refine brP (fun hb => ?_) (fun _ => ?_)
    · row_hasAll w_d
      exact q (b'.big % n) ⟨b'.cells, b'.at_, b'.big / n, b'.seed⟩ (Int.emod_nonneg _ (by omega)) (Int.emod_lt_of_pos _ h0)
    · row_hasAll w_d
      exact q _ ⟨b'.cells, b'.at_, b'.big, (b'.seed * 48271 + 11) % 2147483647⟩ (Int.emod_nonneg _ (by omega)) (Int.emod_lt_of_pos _ h0)
theorem i_take {a : Addr} {b : Bag} {n : Int} {S : Sto} {Q : DQ} {X : XQ} (hS : S a = some (bagO b)) (h0 : 0 < n) (h1 : n < 1073741824) (q : ∀ v b', 0 ≤ v → v < n → Q (.int v) (su S a (bagO b'))) : r_l_take [.adr a, .int n] S Q X := by
  unfold r_l_take; exact ⟨a, b, n, rfl, hS, h0, h1, q⟩
theorem i_takeB {a : Addr} {b : Bag} {n : Int} {S : Sto} {Q : DQ} {X : XQ} (h0 : 0 < n) (h1 : n < 1073741824) (q : ∀ v b', 0 ≤ v → v < n → Q (.int v) (su S a (bagO b'))) : r_l_take [.adr a, .int n] (su S a (bagO b)) Q X :=
  i_take su_same h0 h1 fun v b' x y => by rw [su_su]; exact q v b' x y
def isL (S : Sto) (d : D) (l : List D) : Prop := d = .lst l ∨ ∃ a, d = .adr a ∧ S a = some (.lst l)
theorem isL.vw {S : Sto} {d : D} {l : List D} (h : isL S d l) : vw S d = .lst l := by
  rcases h with rfl | ⟨a, rfl, h⟩
  · rfl
  · rw [vw_own h]
end SM
--#ONETAC
local macro_rules | `(tactic| row_hasAll w_c) => `(tactic| first
  | refine i_is_int ?_
  | refine i_is_cell ?_
  | refine i_is_cells ?_
  | refine i_reading ?_
  | refine i_once (by row_hasAll w_side) ?_)
namespace SM
open PySem PySem.Spec PyProof.Rows L2
def small (c : Cell) : Prop := c.1.natAbs < 1152921504606846976 ∧ c.2.natAbs < 1152921504606846976
end SM
--#ONETAC
local macro_rules | `(tactic| row_hasAll w_c) => `(tactic| first
  | refine mk_region (by row_hasAll w_side) ?_
  | refine i_cells ?_
  | refine i_inR ?_
  | refine i_lenR (by row_hasAll w_side) ?_
  | refine i_eqR ?_
  | refine i_boolR ?_)
namespace SM
open PySem PySem.Spec PyProof.Rows L2
def t_l_spot : DTS := (dSeq (dSet 1 (dOp oSub (dCall r_l_take [] (dCons (dVar 0) (dCons (dC (.int 18)) dNil))) (dC (.int 5)))) (dSeq (dSet 2 (dOp oSub (dCall r_l_take [] (dCons (dVar 0) (dCons (dC (.int 18)) dNil))) (dC (.int 5)))) (dSeq (dIf (dTestB (dOp oEq (dCall r_l_take [] (dCons (dVar 0) (dCons (dC (.int 6)) dNil))) (dC (.int 0)))) (dSet 1 (dOp oMul (dVar 1) (dOp oPow (dC (.int 10)) (dC (.int 12))))) dNext) (dRet (dTup (dCons (dVar 1) (dCons (dVar 2) dNil)))))))
abbrev N_l_spot : List Str := ["_law_bag_here", "_law_cx", "_law_cy"]
@[irreducible] def r_l_spot : DSp := fun ds S Q _ => ∃ a b, ds = [.adr a] ∧ S a = some (bagO b) ∧ ∀ (c : Cell) b', small c → Q (pr c) (su S a (bagO b'))
theorem len_l_spot : Ln 1 r_l_spot := fun ds S Q E h => by unfold r_l_spot at h; obtain ⟨a, b, rfl, _⟩ := h; rfl
theorem rd_l_spot : Rd t_l_spot N_l_spot r_l_spot := by
  intro ds S QD XD h
  unfold r_l_spot at h
  obtain ⟨a, b, rfl, hS, q⟩ := h
  row_hasAll w_d
  refine i_take hS (by decide) (by decide) fun v1 b1 h1 h2 => ?_
  row_hasAll w_d
  refine i_takeB (by decide) (by decide) fun v2 b2 h3 h4 => ?_
  row_hasAll w_d
  refine i_takeB (by decide) (by decide) fun v3 b3 _ _ => ?_
  row_hasAll w_d
  refine brP (fun h0 => ?_) (fun h0 => ?_)
  · row_hasAll w_d
    exact q (_, _) _ ⟨by simp only; omega, by simp only; omega⟩
  · row_hasAll w_d
    exact q (_, _) _ ⟨by simp only; omega, by simp only; omega⟩
theorem i_spot {a : Addr} {b : Bag} {S : Sto} {Q : DQ} {X : XQ} (hS : S a = some (bagO b)) (q : ∀ (c : Cell) b', small c → Q (pr c) (su S a (bagO b'))) : r_l_spot [.adr a] S Q X := by unfold r_l_spot; exact ⟨a, b, rfl, hS, q⟩
def t_l_spots : DTS := (dSeq (dSet 2 (dLstO dNil)) (dSeq (dFor (dRng1 (dCons (dCall r_l_take [] (dCons (dVar 0) (dCons (dOp oAdd (dVar 1) (dC (.int 1))) dNil))) dNil)) (.nm 3) (dSeq (dSet 4 (dCall r_l_spot [] (dCons (dVar 0) dNil))) (dCut (dIf (dAnd (dTestB (dOp oGt (dCB (on1 lenD) (dCons (dVar 2) dNil)) (dC (.int 0)))) (dTestB (dOp oEq (dCall r_l_take [] (dCons (dVar 0) (dCons (dC (.int 4)) dNil))) (dC (.int 0))))) (dSet 4 (dOp oIx (dVar 2) (dCall r_l_take [] (dCons (dVar 0) (dCons (dCB (on1 lenD) (dCons (dVar 2) dNil)) dNil))))) dNext) (dDrop (dBM .lst appD (dVar 2) (dCons (dVar 4) dNil)))))) (dRet (dVarM 2))))
abbrev N_l_spots : List Str := ["_law_bag_here", "_law_most", "_law_spots_here", "_law_k", "_law_spot_here"]
@[irreducible] def r_l_spots : DSp := fun ds S Q _ => ∃ a b n, ds = [.adr a, .int n] ∧ S a = some (bagO b) ∧ 0 ≤ n ∧ n ≤ 100 ∧ ∀ (cs : List Cell) b', (cs.length : Int) ≤ n → (∀ c ∈ cs, small c) → Q (.lst (cs.map pr)) (su S a (bagO b'))
theorem len_l_spots : Ln 2 r_l_spots := fun ds S Q E h => by unfold r_l_spots at h; obtain ⟨a, b, n, rfl, _⟩ := h; rfl
theorem rd_l_spots : Rd t_l_spots N_l_spots r_l_spots := by
  intro ds S QD XD h
  unfold r_l_spots at h
  obtain ⟨a, b, n, rfl, hS, h0, h1, q⟩ := h
  row_hasAll w_d
  intro p hp
  have hpa : p ≠ a := fun e => by rw [e, hS] at hp; cases hp
  row_hasAll w_d
  refine i_take (b := b) (by row_hasAll w_sto) (by omega) (by omega) fun v b1 g0 g1 => ?_
  row_hasAll w_d
  refine loop_of (xs := List.range (v - 0).toNat) (g := fun i : Nat => D.int (0 + (i : Nat))) (fun r δ S' => ∃ x y b', ∃ cs : List Cell, δ = [some (.adr a), some (.int n), some (.adr p), x, y] ∧ S' = su (su S a (bagO b')) p (.lst (cs.map pr)) ∧ ((cs.length + r.length : Nat) : Int) ≤ n ∧ ∀ c ∈ cs, small c) ?_ ?_ ?_
  rotate_left 2
  · exact ⟨_, _, b1, [], rfl, by row_hasAll w_steq, by simp; omega, by simp⟩
  · rintro i r δ S' ⟨x, y, b', cs, rfl, rfl, hl, hs⟩
    refine ⟨_, rfl, fun N hN => ?_⟩
    row_hasAll w_d
    refine i_spot (b := b') (by row_hasAll w_sto) fun c b2 hc => ?_
    row_hasAll w_d
    refine ⟨fun δ S' => ∃ x b' c, δ = [some (.adr a), some (.int n), some (.adr p), x, some (pr c)] ∧ S' = su (su S a (bagO b')) p (.lst (cs.map pr)) ∧ small c, ?_, ?_⟩
    · have fin : ∀ b' b3 : Bag, su (su (su S a (bagO b')) p (.lst (cs.map pr))) a (bagO b3) = su (su S a (bagO b3)) p (.lst (cs.map pr)) := fun b' b3 => by row_hasAll w_steq
      rw [fin]
      row_hasAll w_d
      refine brP (fun h0 => ?_) (fun h0 => ?_)
      · row_hasAll w_d
        refine i_take (b := b2) (by row_hasAll w_sto) (by decide) (by decide) fun v2 b3 g2 g3 => ?_
        row_hasAll w_d
        rw [fin]
        refine brP (c := v2 = 0) (fun hv => ?_) (fun hv => ?_)
        · have hl0 : 0 < cs.length := by simpa using h0
          row_hasAll w_d
          refine i_take (b := b3) (by row_hasAll w_sto) (by simpa using h0) (by simp; omega) fun v3 b4 g4 g5 => ?_
          row_hasAll w_d
          rw [List.length_map] at g5
          obtain ⟨k, rfl⟩ : ∃ k : Nat, v3 = k := ⟨v3.toNat, by omega⟩
          refine ik_map (by omega) ?_
          row_hasAll w_d
          exact ⟨_, b4, _, rfl, by rw [fin], hs _ (List.getElem_mem _)⟩
        · row_hasAll w_d
          exact ⟨_, b3, c, rfl, rfl, hc⟩
      · row_hasAll w_d
        exact ⟨_, b2, c, rfl, rfl, hc⟩
    · rintro δ S' ⟨x, b', c, rfl, rfl, hc⟩
      row_hasAll w_d
      simp only [List.length_cons] at hl
      refine ⟨by rw [List.length_map, sizeLine_eq]; omega, hN _ _ ⟨_, _, b', cs ++ [c], rfl, by simp, by simp; omega, fun d hd => ?_⟩⟩
      rcases List.mem_append.mp hd with h | h
      · exact hs d h
      · simp at h; subst h; exact hc
  · rintro δ S' ⟨x, y, b', cs, rfl, rfl, hl, hs⟩
    row_hasAll w_d
    have e : sd (su (su S a (bagO b')) p (.lst (cs.map pr))) p = su S a (bagO b') := by rw [sd_su, sd_none]; rw [su_ne hpa]; exact hp
    rw [e]
    exact q cs b' (by simpa using hl) hs
theorem i_spots {a : Addr} {b : Bag} {n : Int} {S : Sto} {Q : DQ} {X : XQ} (hS : S a = some (bagO b)) (h0 : 0 ≤ n) (h1 : n ≤ 100) (q : ∀ (cs : List Cell) b', (cs.length : Int) ≤ n → (∀ c ∈ cs, small c) → Q (.lst (cs.map pr)) (su S a (bagO b'))) : r_l_spots [.adr a, .int n] S Q X := by unfold r_l_spots; exact ⟨a, b, n, rfl, hS, h0, h1, q⟩
end SM
--#ONETAC
local macro_rules | `(tactic| row_hasAll w_c) => `(tactic| first
  | refine i_region_is ?_)
namespace SM
open PySem PySem.Spec PyProof.Rows L2
abbrev row (cs : List Cell) : List Cell := roSort (once cs)
end SM
--#ONETAC
local macro_rules | `(tactic| row_hasAll w_c) => `(tactic| first
  | refine i_Ror (by row_hasAll w_side) (by row_hasAll w_side) ?_
  | refine i_Rand (by row_hasAll w_side) (by row_hasAll w_side) ?_
  | refine i_Rsub (by row_hasAll w_side) (by row_hasAll w_side) ?_
  | refine i_within ?_)
namespace SM
open PySem PySem.Spec PyProof.Rows L2
def kC24 : List Nat := [30, 31, 32, 33, 34, 35, 36, 37, 38, 39]
def kO24 : List Nat := [21, 22, 23, 24, 25, 26, 27, 28, 40, 41, 42, 43, 44, 45, 46, 47, 48, 49, 50]
def kA24 : List Nat := [30, 31, 32, 33, 34, 35, 36, 37, 38, 39, 21, 22, 23, 24, 25, 26, 27, 28, 40, 41, 42, 43, 44, 45, 46, 47, 48, 49, 50]
def tab24 (tab : List (Nat × Bool)) (T : Nat) : Bool := kA24.all fun c => tab.lookup c == some (T == c)
def tab24t (tab : List (Nat × Bool)) : Bool := kA24.all fun c => tab.lookup c == some true
theorem isx24 {tab : List (Nat × Bool)} (T : Nat) {a : Addr} {c : Nat} {ds : List D} {S1 : Sto} {k : D → Prop} (hS : S1 a = some (.exo a c ds)) (hc : c ∈ kA24) (h : tab24 tab T = true) (q : k (.bl (T == c))) : isk tab S1 (.adr a) k :=
  ⟨a, c, ds, _, rfl, hS, eq_of_beq (List.all_eq_true.mp h c hc), q⟩
theorem isx24t {tab : List (Nat × Bool)} {a : Addr} {c : Nat} {ds : List D} {S1 : Sto} {k : D → Prop} (hS : S1 a = some (.exo a c ds)) (hc : c ∈ kA24) (h : tab24t tab = true) (q : k (.bl true)) : isk tab S1 (.adr a) k :=
  ⟨a, c, ds, _, rfl, hS, eq_of_beq (List.all_eq_true.mp h c hc), q⟩
theorem su_keep {S : Sto} {a b : Addr} {o u : OO} (h : S a = some o) (hb : S b = none) : su S b u a = some o := by rw [su_ne (st_ne h hb)]; exact h
def t_l_cell_kinds : DTS := (dSeq (dSet 1 (dLst (dCons (dIsX [(30, true), (31, false), (32, false), (33, false), (34, false), (35, false), (36, false), (37, false), (38, false), (39, false), (21, false), (22, false), (23, false), (24, false), (25, false), (26, false), (27, false), (28, false), (40, false), (41, false), (42, false), (43, false), (44, false), (45, false), (46, false), (47, false), (48, false), (49, false), (50, false)] (dVar 0)) (dCons (dIsX [(30, false), (31, true), (32, false), (33, false), (34, false), (35, false), (36, false), (37, false), (38, false), (39, false), (21, false), (22, false), (23, false), (24, false), (25, false), (26, false), (27, false), (28, false), (40, false), (41, false), (42, false), (43, false), (44, false), (45, false), (46, false), (47, false), (48, false), (49, false), (50, false)] (dVar 0)) (dCons (dIsX [(30, false), (31, false), (32, true), (33, false), (34, false), (35, false), (36, false), (37, false), (38, false), (39, false), (21, false), (22, false), (23, false), (24, false), (25, false), (26, false), (27, false), (28, false), (40, false), (41, false), (42, false), (43, false), (44, false), (45, false), (46, false), (47, false), (48, false), (49, false), (50, false)] (dVar 0)) (dCons (dIsX [(30, false), (31, false), (32, false), (33, true), (34, false), (35, false), (36, false), (37, false), (38, false), (39, false), (21, false), (22, false), (23, false), (24, false), (25, false), (26, false), (27, false), (28, false), (40, false), (41, false), (42, false), (43, false), (44, false), (45, false), (46, false), (47, false), (48, false), (49, false), (50, false)] (dVar 0)) dNil)))))) (dSeq (dSet 1 (dOp oAdd (dVar 1) (dLst (dCons (dIsX [(30, false), (31, false), (32, false), (33, false), (34, true), (35, false), (36, false), (37, false), (38, false), (39, false), (21, false), (22, false), (23, false), (24, false), (25, false), (26, false), (27, false), (28, false), (40, false), (41, false), (42, false), (43, false), (44, false), (45, false), (46, false), (47, false), (48, false), (49, false), (50, false)] (dVar 0)) (dCons (dIsX [(30, false), (31, false), (32, false), (33, false), (34, false), (35, true), (36, false), (37, false), (38, false), (39, false), (21, false), (22, false), (23, false), (24, false), (25, false), (26, false), (27, false), (28, false), (40, false), (41, false), (42, false), (43, false), (44, false), (45, false), (46, false), (47, false), (48, false), (49, false), (50, false)] (dVar 0)) (dCons (dIsX [(30, false), (31, false), (32, false), (33, false), (34, false), (35, false), (36, true), (37, false), (38, false), (39, false), (21, false), (22, false), (23, false), (24, false), (25, false), (26, false), (27, false), (28, false), (40, false), (41, false), (42, false), (43, false), (44, false), (45, false), (46, false), (47, false), (48, false), (49, false), (50, false)] (dVar 0)) dNil)))))) (dRet (dOp oAdd (dVar 1) (dLst (dCons (dIsX [(30, false), (31, false), (32, false), (33, false), (34, false), (35, false), (36, false), (37, true), (38, false), (39, false), (21, false), (22, false), (23, false), (24, false), (25, false), (26, false), (27, false), (28, false), (40, false), (41, false), (42, false), (43, false), (44, false), (45, false), (46, false), (47, false), (48, false), (49, false), (50, false)] (dVar 0)) (dCons (dIsX [(30, false), (31, false), (32, false), (33, false), (34, false), (35, false), (36, false), (37, false), (38, true), (39, false), (21, false), (22, false), (23, false), (24, false), (25, false), (26, false), (27, false), (28, false), (40, false), (41, false), (42, false), (43, false), (44, false), (45, false), (46, false), (47, false), (48, false), (49, false), (50, false)] (dVar 0)) (dCons (dIsX [(30, false), (31, false), (32, false), (33, false), (34, false), (35, false), (36, false), (37, false), (38, false), (39, true), (21, false), (22, false), (23, false), (24, false), (25, false), (26, false), (27, false), (28, false), (40, false), (41, false), (42, false), (43, false), (44, false), (45, false), (46, false), (47, false), (48, false), (49, false), (50, false)] (dVar 0)) dNil))))))))
abbrev N_l_cell_kinds : List Str := ["_law_e", "_law_kinds"]
@[irreducible] def r_l_cell_kinds : DSp := fun ds S Q _ => ∃ a c fs, ds = [.adr a] ∧ S a = some (.exo a c fs) ∧ c ∈ kA24 ∧ Q (.lst (kC24.map fun k => .bl (k == c))) S
theorem len_l_cell_kinds : Ln 1 r_l_cell_kinds := fun ds S Q E h => by unfold r_l_cell_kinds at h; obtain ⟨a, c, fs, rfl, _⟩ := h; rfl
theorem rd_l_cell_kinds : Rd t_l_cell_kinds N_l_cell_kinds r_l_cell_kinds := by
  intro ds S QD XD h
  unfold r_l_cell_kinds at h
  obtain ⟨a, c, fs, rfl, hS, hc, q⟩ := h
  row_hasAll w_w
  refine isx24 30 hS hc ?_ ?_
  · decide
  row_hasAll w_w
  refine isx24 31 hS hc ?_ ?_
  · decide
  row_hasAll w_w
  refine isx24 32 hS hc ?_ ?_
  · decide
  row_hasAll w_w
  refine isx24 33 hS hc ?_ ?_
  · decide
  row_hasAll w_w
  refine isx24 34 hS hc ?_ ?_
  · decide
  row_hasAll w_w
  refine isx24 35 hS hc ?_ ?_
  · decide
  row_hasAll w_w
  refine isx24 36 hS hc ?_ ?_
  · decide
  row_hasAll w_w
  refine isx24 37 hS hc ?_ ?_
  · decide
  row_hasAll w_w
  refine isx24 38 hS hc ?_ ?_
  · decide
  row_hasAll w_w
  refine isx24 39 hS hc ?_ ?_
  · decide
  row_hasAll w_w
  exact q
theorem i_cellKinds {a : Addr} {c : Nat} {fs : List D} {S : Sto} {Q : DQ} {X : XQ} (hS : S a = some (.exo a c fs)) (hc : c ∈ kA24) (q : Q (.lst (kC24.map fun k => .bl (k == c))) S) : r_l_cell_kinds [.adr a] S Q X := by unfold r_l_cell_kinds; exact ⟨a, c, fs, rfl, hS, hc, q⟩
def t_l_other_kinds : DTS := (dSeq (dSet 1 (dLst (dCons (dIsX [(30, false), (31, false), (32, false), (33, false), (34, false), (35, false), (36, false), (37, false), (38, false), (39, false), (21, true), (22, false), (23, false), (24, false), (25, false), (26, false), (27, false), (28, false), (40, false), (41, false), (42, false), (43, false), (44, false), (45, false), (46, false), (47, false), (48, false), (49, false), (50, false)] (dVar 0)) (dCons (dIsX [(30, false), (31, false), (32, false), (33, false), (34, false), (35, false), (36, false), (37, false), (38, false), (39, false), (21, false), (22, true), (23, false), (24, false), (25, false), (26, false), (27, false), (28, false), (40, false), (41, false), (42, false), (43, false), (44, false), (45, false), (46, false), (47, false), (48, false), (49, false), (50, false)] (dVar 0)) (dCons (dIsX [(30, false), (31, false), (32, false), (33, false), (34, false), (35, false), (36, false), (37, false), (38, false), (39, false), (21, false), (22, false), (23, true), (24, false), (25, false), (26, false), (27, false), (28, false), (40, false), (41, false), (42, false), (43, false), (44, false), (45, false), (46, false), (47, false), (48, false), (49, false), (50, false)] (dVar 0)) dNil))))) (dSeq (dSet 1 (dOp oAdd (dVar 1) (dLst (dCons (dIsX [(30, false), (31, false), (32, false), (33, false), (34, false), (35, false), (36, false), (37, false), (38, false), (39, false), (21, false), (22, false), (23, false), (24, true), (25, false), (26, false), (27, false), (28, false), (40, false), (41, false), (42, false), (43, false), (44, false), (45, false), (46, false), (47, false), (48, false), (49, false), (50, false)] (dVar 0)) (dCons (dIsX [(30, false), (31, false), (32, false), (33, false), (34, false), (35, false), (36, false), (37, false), (38, false), (39, false), (21, false), (22, false), (23, false), (24, false), (25, true), (26, false), (27, false), (28, false), (40, false), (41, false), (42, false), (43, false), (44, false), (45, false), (46, false), (47, false), (48, false), (49, false), (50, false)] (dVar 0)) (dCons (dIsX [(30, false), (31, false), (32, false), (33, false), (34, false), (35, false), (36, false), (37, false), (38, false), (39, false), (21, false), (22, false), (23, false), (24, false), (25, false), (26, true), (27, false), (28, false), (40, false), (41, false), (42, false), (43, false), (44, false), (45, false), (46, false), (47, false), (48, false), (49, false), (50, false)] (dVar 0)) dNil)))))) (dSeq (dSet 1 (dOp oAdd (dVar 1) (dLst (dCons (dIsX [(30, false), (31, false), (32, false), (33, false), (34, false), (35, false), (36, false), (37, false), (38, false), (39, false), (21, false), (22, false), (23, false), (24, false), (25, false), (26, false), (27, true), (28, false), (40, false), (41, false), (42, false), (43, false), (44, false), (45, false), (46, false), (47, false), (48, false), (49, false), (50, false)] (dVar 0)) (dCons (dIsX [(30, false), (31, false), (32, false), (33, false), (34, false), (35, false), (36, false), (37, false), (38, false), (39, false), (21, false), (22, false), (23, false), (24, false), (25, false), (26, false), (27, false), (28, true), (40, false), (41, false), (42, false), (43, false), (44, false), (45, false), (46, false), (47, false), (48, false), (49, false), (50, false)] (dVar 0)) (dCons (dIsX [(30, false), (31, false), (32, false), (33, false), (34, false), (35, false), (36, false), (37, false), (38, false), (39, false), (21, false), (22, false), (23, false), (24, false), (25, false), (26, false), (27, false), (28, false), (40, true), (41, false), (42, false), (43, false), (44, false), (45, false), (46, false), (47, false), (48, false), (49, false), (50, false)] (dVar 0)) dNil)))))) (dSeq (dSet 1 (dOp oAdd (dVar 1) (dLst (dCons (dIsX [(30, false), (31, false), (32, false), (33, false), (34, false), (35, false), (36, false), (37, false), (38, false), (39, false), (21, false), (22, false), (23, false), (24, false), (25, false), (26, false), (27, false), (28, false), (40, false), (41, true), (42, false), (43, false), (44, false), (45, false), (46, false), (47, false), (48, false), (49, false), (50, false)] (dVar 0)) (dCons (dIsX [(30, false), (31, false), (32, false), (33, false), (34, false), (35, false), (36, false), (37, false), (38, false), (39, false), (21, false), (22, false), (23, false), (24, false), (25, false), (26, false), (27, false), (28, false), (40, false), (41, false), (42, true), (43, false), (44, false), (45, false), (46, false), (47, false), (48, false), (49, false), (50, false)] (dVar 0)) (dCons (dIsX [(30, false), (31, false), (32, false), (33, false), (34, false), (35, false), (36, false), (37, false), (38, false), (39, false), (21, false), (22, false), (23, false), (24, false), (25, false), (26, false), (27, false), (28, false), (40, false), (41, false), (42, false), (43, true), (44, false), (45, false), (46, false), (47, false), (48, false), (49, false), (50, false)] (dVar 0)) dNil)))))) (dSeq (dSet 1 (dOp oAdd (dVar 1) (dLst (dCons (dIsX [(30, false), (31, false), (32, false), (33, false), (34, false), (35, false), (36, false), (37, false), (38, false), (39, false), (21, false), (22, false), (23, false), (24, false), (25, false), (26, false), (27, false), (28, false), (40, false), (41, false), (42, false), (43, false), (44, true), (45, false), (46, false), (47, false), (48, false), (49, false), (50, false)] (dVar 0)) (dCons (dIsX [(30, false), (31, false), (32, false), (33, false), (34, false), (35, false), (36, false), (37, false), (38, false), (39, false), (21, false), (22, false), (23, false), (24, false), (25, false), (26, false), (27, false), (28, false), (40, false), (41, false), (42, false), (43, false), (44, false), (45, true), (46, false), (47, false), (48, false), (49, false), (50, false)] (dVar 0)) (dCons (dIsX [(30, false), (31, false), (32, false), (33, false), (34, false), (35, false), (36, false), (37, false), (38, false), (39, false), (21, false), (22, false), (23, false), (24, false), (25, false), (26, false), (27, false), (28, false), (40, false), (41, false), (42, false), (43, false), (44, false), (45, false), (46, true), (47, false), (48, false), (49, false), (50, false)] (dVar 0)) dNil)))))) (dSeq (dSet 1 (dOp oAdd (dVar 1) (dLst (dCons (dIsX [(30, false), (31, false), (32, false), (33, false), (34, false), (35, false), (36, false), (37, false), (38, false), (39, false), (21, false), (22, false), (23, false), (24, false), (25, false), (26, false), (27, false), (28, false), (40, false), (41, false), (42, false), (43, false), (44, false), (45, false), (46, false), (47, true), (48, false), (49, false), (50, false)] (dVar 0)) (dCons (dIsX [(30, false), (31, false), (32, false), (33, false), (34, false), (35, false), (36, false), (37, false), (38, false), (39, false), (21, false), (22, false), (23, false), (24, false), (25, false), (26, false), (27, false), (28, false), (40, false), (41, false), (42, false), (43, false), (44, false), (45, false), (46, false), (47, false), (48, true), (49, false), (50, false)] (dVar 0)) (dCons (dIsX [(30, false), (31, false), (32, false), (33, false), (34, false), (35, false), (36, false), (37, false), (38, false), (39, false), (21, false), (22, false), (23, false), (24, false), (25, false), (26, false), (27, false), (28, false), (40, false), (41, false), (42, false), (43, false), (44, false), (45, false), (46, false), (47, false), (48, false), (49, true), (50, false)] (dVar 0)) dNil)))))) (dRet (dOp oAdd (dVar 1) (dLst (dCons (dIsX [(30, false), (31, false), (32, false), (33, false), (34, false), (35, false), (36, false), (37, false), (38, false), (39, false), (21, false), (22, false), (23, false), (24, false), (25, false), (26, false), (27, false), (28, false), (40, false), (41, false), (42, false), (43, false), (44, false), (45, false), (46, false), (47, false), (48, false), (49, false), (50, true)] (dVar 0)) dNil))))))))))
abbrev N_l_other_kinds : List Str := ["_law_e", "_law_kinds"]
@[irreducible] def r_l_other_kinds : DSp := fun ds S Q _ => ∃ a c fs, ds = [.adr a] ∧ S a = some (.exo a c fs) ∧ c ∈ kA24 ∧ Q (.lst (kO24.map fun k => .bl (k == c))) S
theorem len_l_other_kinds : Ln 1 r_l_other_kinds := fun ds S Q E h => by unfold r_l_other_kinds at h; obtain ⟨a, c, fs, rfl, _⟩ := h; rfl
theorem rd_l_other_kinds : Rd t_l_other_kinds N_l_other_kinds r_l_other_kinds := by
  intro ds S QD XD h
  unfold r_l_other_kinds at h
  obtain ⟨a, c, fs, rfl, hS, hc, q⟩ := h
  row_hasAll w_w
  refine isx24 21 hS hc ?_ ?_
  · decide
  row_hasAll w_w
  refine isx24 22 hS hc ?_ ?_
  · decide
  row_hasAll w_w
  refine isx24 23 hS hc ?_ ?_
  · decide
  row_hasAll w_w
  refine isx24 24 hS hc ?_ ?_
  · decide
  row_hasAll w_w
  refine isx24 25 hS hc ?_ ?_
  · decide
  row_hasAll w_w
  refine isx24 26 hS hc ?_ ?_
  · decide
  row_hasAll w_w
  refine isx24 27 hS hc ?_ ?_
  · decide
  row_hasAll w_w
  refine isx24 28 hS hc ?_ ?_
  · decide
  row_hasAll w_w
  refine isx24 40 hS hc ?_ ?_
  · decide
  row_hasAll w_w
  refine isx24 41 hS hc ?_ ?_
  · decide
  row_hasAll w_w
  refine isx24 42 hS hc ?_ ?_
  · decide
  row_hasAll w_w
  refine isx24 43 hS hc ?_ ?_
  · decide
  row_hasAll w_w
  refine isx24 44 hS hc ?_ ?_
  · decide
  row_hasAll w_w
  refine isx24 45 hS hc ?_ ?_
  · decide
  row_hasAll w_w
  refine isx24 46 hS hc ?_ ?_
  · decide
  row_hasAll w_w
  refine isx24 47 hS hc ?_ ?_
  · decide
  row_hasAll w_w
  refine isx24 48 hS hc ?_ ?_
  · decide
  row_hasAll w_w
  refine isx24 49 hS hc ?_ ?_
  · decide
  row_hasAll w_w
  refine isx24 50 hS hc ?_ ?_
  · decide
  row_hasAll w_w
  exact q
theorem i_otherKinds {a : Addr} {c : Nat} {fs : List D} {S : Sto} {Q : DQ} {X : XQ} (hS : S a = some (.exo a c fs)) (hc : c ∈ kA24) (q : Q (.lst (kO24.map fun k => .bl (k == c))) S) : r_l_other_kinds [.adr a] S Q X := by unfold r_l_other_kinds; exact ⟨a, c, fs, rfl, hS, hc, q⟩
def t_l_is_kind : DTS := (dSeq (dSet 2 (dOp oAdd (dCall r_l_cell_kinds [] (dCons (dVar 0) dNil)) (dCall r_l_other_kinds [] (dCons (dVar 0) dNil)))) (dSeq (dFor (dRng1 (dCons (dCB (on1 lenD) (dCons (dVar 2) dNil)) dNil)) (.nm 3) (dIf (dTestB (dOp oNe (dOp oIx (dVar 2) (dVar 3)) (dOp oEq (dVar 3) (dVar 1)))) (dRet (dC (.bl false))) dNext)) (dRet (dAndV (dIsX [(30, true), (31, true), (32, true), (33, true), (34, true), (35, true), (36, true), (37, true), (38, true), (39, true), (21, true), (22, true), (23, true), (24, true), (25, true), (26, true), (27, true), (28, true), (40, true), (41, true), (42, true), (43, true), (44, true), (45, true), (46, true), (47, true), (48, true), (49, true), (50, true)] (dVar 0)) (dIsX [(30, true), (31, true), (32, true), (33, true), (34, true), (35, true), (36, true), (37, true), (38, true), (39, true), (21, true), (22, true), (23, true), (24, true), (25, true), (26, true), (27, true), (28, true), (40, true), (41, true), (42, true), (43, true), (44, true), (45, true), (46, true), (47, true), (48, true), (49, true), (50, true)] (dVar 0))))))
abbrev N_l_is_kind : List Str := ["_law_e", "_law_at", "_law_kinds", "_law_k"]
@[irreducible] def r_l_is_kind : DSp := fun ds S Q _ => ∃ a c fs, ∃ k : Nat, ds = [.adr a, .int k] ∧ S a = some (.exo a c fs) ∧ kA24[k]? = some c ∧ Q (.bl true) S
theorem len_l_is_kind : Ln 2 r_l_is_kind := fun ds S Q E h => by unfold r_l_is_kind at h; obtain ⟨a, c, fs, k, rfl, _⟩ := h; rfl
theorem kA_nd : ∀ i j : Fin 29, ((kA24.getD i.1 0 == kA24.getD j.1 0) = decide (i.1 = j.1)) := by decide
theorem rd_l_is_kind : Rd t_l_is_kind N_l_is_kind r_l_is_kind := by
  intro ds S QD XD h
  unfold r_l_is_kind at h
  obtain ⟨a, c, fs, k, rfl, hS, hk, q⟩ := h
  have hc : c ∈ kA24 := List.mem_of_getElem? hk
  row_hasAll w_w
  refine i_cellKinds hS hc ?_
  row_hasAll w_w
  refine i_otherKinds hS hc ?_
  have hk29 : k < 29 := by
    have := (List.getElem?_eq_some_iff.mp hk).1
    exact this
  have hcd : kA24.getD k 0 = c := by rw [List.getD_eq_getElem?_getD, hk]; rfl
  row_hasAll w_w
  rw [← List.map_append, show kC24 ++ kO24 = kA24 from rfl]
  generalize hK : kA24.map (fun k => D.bl (k == c)) = KS
  have hKl : KS.length = 29 := by rw [← hK, List.length_map]; rfl
  have hKi : ∀ i : Nat, i < 29 → KS[i]? = some (D.bl (decide (i = k))) := fun i hi => by
    rw [← hK, List.getElem?_map]
    have e1 : kA24[i]? = some (kA24.getD i 0) := by
      have : i < kA24.length := hi
      rw [List.getD_eq_getElem?_getD, List.getElem?_eq_getElem this]; rfl
    rw [e1, Option.map_some, ← hcd, kA_nd ⟨i, hi⟩ ⟨k, hk29⟩]
  row_hasAll w_w
  refine ⟨by rw [List.length_map, List.length_map]; decide, ?_⟩
  row_hasAll w_w
  rw [hKl]
  row_hasAll w_w
  refine loop_i 29 [3] (fun i ws S' => (∃ v, ws = [v]) ∧ S' = S) (by row_hasAll w_env) ?_ ?_ ⟨⟨_, rfl⟩, rfl⟩
  · rintro i ws _ hi ⟨⟨v, rfl⟩, rfl⟩
    refine ⟨_, rfl, fun N hN => ?_⟩
    rw [Int.zero_add]
    row_hasAll w_w
    refine itk_of (atI_nat (j := i) (hKi i hi)) ?_
    row_hasAll w_w
    have e1 : eqB (D.int (i : Int)) (D.int (k : Int)) = decide (i = k) := by
      simp [eqB, Int.natCast_inj]
    rw [e1, eqB_rfl]
    row_hasAll w_w
    exact hN _ _ (by row_hasAll w_env) ⟨⟨_, rfl⟩, rfl⟩
  · rintro ws _ ⟨⟨v, rfl⟩, rfl⟩
    row_hasAll w_w
    refine isx24t hS hc ?_ ?_
    · decide
    row_hasAll w_w
    refine isx24t hS hc ?_ ?_
    · decide
    row_hasAll w_w
    exact q
theorem i_isKind {a : Addr} {c k : Nat} {fs : List D} {S : Sto} {Q : DQ} {X : XQ} (hS : S a = some (.exo a c fs)) (hk : kA24[k]? = some c) (q : Q (.bl true) S) : r_l_is_kind [.adr a, .int k] S Q X := by unfold r_l_is_kind; exact ⟨a, c, fs, k, rfl, hS, hk, q⟩
def eC24 (x y : Int) : List (Nat × List D) := [(30, [.int x, .int y]), (31, [.int x, .int y]), (32, [.int x, .int y]), (33, [.int x, .int y]), (34, [.int x, .int y]), (35, [.int x, .int y]), (36, [.int x, .int y]), (37, [.int x, .int y]), (38, [.int x, .int y]), (39, [.int x, .int y])]
def eO24 (x : Int) (row : List D) : List (Nat × List D) := [(21, [.int x]), (22, [.int x]), (23, [.int x]), (24, [.int x]), (25, [.int x]), (26, [.str "ab"]), (27, [.str "bb"]), (28, [.int x]), (40, [.int x]), (41, [.int x]), (42, [.str "A"]), (43, [.lst row]), (44, [.int x]), (45, [.lst row]), (46, [.int x]), (47, [.str "far"]), (48, []), (49, []), (50, [])]
def Lie (S : Sto) : List Addr → List (Nat × List D) → Prop
  | [], [] => True
  | a :: as, e :: es => S a = some (.exo a e.1 e.2) ∧ Lie S as es
  | _, _ => False
def t_l_cell_errors : DTS := (dSeq (dSet 2 (dLst (dCons (dMkE 30 (dCons (dVar 0) (dCons (dVar 1) dNil))) (dCons (dMkE 31 (dCons (dVar 0) (dCons (dVar 1) dNil))) (dCons (dMkE 32 (dCons (dVar 0) (dCons (dVar 1) dNil))) (dCons (dMkE 33 (dCons (dVar 0) (dCons (dVar 1) dNil))) (dCons (dMkE 34 (dCons (dVar 0) (dCons (dVar 1) dNil))) dNil))))))) (dSeq (dSet 2 (dOp oAdd (dVar 2) (dLst (dCons (dMkE 35 (dCons (dVar 0) (dCons (dVar 1) dNil))) (dCons (dMkE 36 (dCons (dVar 0) (dCons (dVar 1) dNil))) (dCons (dMkE 37 (dCons (dVar 0) (dCons (dVar 1) dNil))) (dCons (dMkE 38 (dCons (dVar 0) (dCons (dVar 1) dNil))) dNil))))))) (dRet (dOp oAdd (dVar 2) (dLst (dCons (dMkE 39 (dCons (dVar 0) (dCons (dVar 1) dNil))) dNil))))))
abbrev N_l_cell_errors : List Str := ["_law_one", "_law_two", "_law_found"]
@[irreducible] def r_l_cell_errors : DSp := fun ds S Q _ => ∃ (x y : Int), ds = [.int x, .int y] ∧ ∀ S' (as : List Addr), (∀ b o, S b = some o → S' b = some o) → Lie S' as (eC24 x y) → Q (.lst (as.map .adr)) S'
theorem len_l_cell_errors : Ln 2 r_l_cell_errors := fun ds S Q E h => by unfold r_l_cell_errors at h; obtain ⟨x, y, rfl, _⟩ := h; rfl
theorem rd_l_cell_errors : Rd t_l_cell_errors N_l_cell_errors r_l_cell_errors := by
  intro ds S QD XD h
  unfold r_l_cell_errors at h
  obtain ⟨x, y, rfl, q⟩ := h
  row_hasAll w_w
  intro a0 h0
  row_hasAll w_w
  intro a1 h1
  row_hasAll w_w
  intro a2 h2
  row_hasAll w_w
  intro a3 h3
  row_hasAll w_w
  intro a4 h4
  row_hasAll w_w
  intro a5 h5
  row_hasAll w_w
  intro a6 h6
  row_hasAll w_w
  intro a7 h7
  row_hasAll w_w
  intro a8 h8
  row_hasAll w_w
  intro a9 h9
  row_hasAll w_w
  refine q _ [a0, a1, a2, a3, a4, a5, a6, a7, a8, a9] (fun b o hb => su_keep (su_keep (su_keep (su_keep (su_keep (su_keep (su_keep (su_keep (su_keep (su_keep (hb) h0) h1) h2) h3) h4) h5) h6) h7) h8) h9) ?_
  exact And.intro (su_keep (su_keep (su_keep (su_keep (su_keep (su_keep (su_keep (su_keep (su_keep (su_same) h1) h2) h3) h4) h5) h6) h7) h8) h9) (And.intro (su_keep (su_keep (su_keep (su_keep (su_keep (su_keep (su_keep (su_keep (su_same) h2) h3) h4) h5) h6) h7) h8) h9) (And.intro (su_keep (su_keep (su_keep (su_keep (su_keep (su_keep (su_keep (su_same) h3) h4) h5) h6) h7) h8) h9) (And.intro (su_keep (su_keep (su_keep (su_keep (su_keep (su_keep (su_same) h4) h5) h6) h7) h8) h9) (And.intro (su_keep (su_keep (su_keep (su_keep (su_keep (su_same) h5) h6) h7) h8) h9) (And.intro (su_keep (su_keep (su_keep (su_keep (su_same) h6) h7) h8) h9) (And.intro (su_keep (su_keep (su_keep (su_same) h7) h8) h9) (And.intro (su_keep (su_keep (su_same) h8) h9) (And.intro (su_keep (su_same) h9) (And.intro (su_same) (trivial))))))))))
theorem i_cellErrors {x : Int} {y : Int} {S : Sto} {Q : DQ} {X : XQ} (q : ∀ S' (as : List Addr), (∀ b o, S b = some o → S' b = some o) → Lie S' as (eC24 x y) → Q (.lst (as.map .adr)) S') : r_l_cell_errors [.int x, .int y] S Q X := by unfold r_l_cell_errors; exact ⟨_, _, rfl, q⟩
def t_l_other_errors : DTS := (dSeq (dSet 2 (dLst (dCons (dMkE 21 (dCons (dVar 0) dNil)) (dCons (dMkE 22 (dCons (dVar 0) dNil)) (dCons (dMkE 23 (dCons (dVar 0) dNil)) (dCons (dMkE 24 (dCons (dVar 0) dNil)) (dCons (dMkE 25 (dCons (dVar 0) dNil)) dNil))))))) (dSeq (dSet 2 (dOp oAdd (dVar 2) (dLst (dCons (dMkE 26 (dCons (dC (.str "ab")) dNil)) (dCons (dMkE 27 (dCons (dC (.str "bb")) dNil)) (dCons (dMkE 28 (dCons (dVar 0) dNil)) (dCons (dMkE 40 (dCons (dVar 0) dNil)) (dCons (dMkE 41 (dCons (dVar 0) dNil)) dNil)))))))) (dSeq (dSet 2 (dOp oAdd (dVar 2) (dLst (dCons (dMkE 42 (dCons (dC (.str "A")) dNil)) (dCons (dMkE 43 (dCons (dVar 1) dNil)) (dCons (dMkE 44 (dCons (dVar 0) dNil)) (dCons (dMkE 45 (dCons (dVar 1) dNil)) (dCons (dMkE 46 (dCons (dVar 0) dNil)) dNil)))))))) (dRet (dOp oAdd (dVar 2) (dLst (dCons (dMkE 47 (dCons (dC (.str "far")) dNil)) (dCons (dMkE0 48) (dCons (dMkE0 49) (dCons (dMkE0 50) dNil))))))))))
abbrev N_l_other_errors : List Str := ["_law_one", "_law_row", "_law_found"]
@[irreducible] def r_l_other_errors : DSp := fun ds S Q _ => ∃ (x : Int) (row : List D), ds = [.int x, .lst row] ∧ ∀ S' (as : List Addr), (∀ b o, S b = some o → S' b = some o) → Lie S' as (eO24 x row) → Q (.lst (as.map .adr)) S'
theorem len_l_other_errors : Ln 2 r_l_other_errors := fun ds S Q E h => by unfold r_l_other_errors at h; obtain ⟨x, y, rfl, _⟩ := h; rfl
theorem rd_l_other_errors : Rd t_l_other_errors N_l_other_errors r_l_other_errors := by
  intro ds S QD XD h
  unfold r_l_other_errors at h
  obtain ⟨x, row, rfl, q⟩ := h
  row_hasAll w_w
  intro a0 h0
  row_hasAll w_w
  intro a1 h1
  row_hasAll w_w
  intro a2 h2
  row_hasAll w_w
  intro a3 h3
  row_hasAll w_w
  intro a4 h4
  row_hasAll w_w
  intro a5 h5
  row_hasAll w_w
  intro a6 h6
  row_hasAll w_w
  intro a7 h7
  row_hasAll w_w
  intro a8 h8
  row_hasAll w_w
  intro a9 h9
  row_hasAll w_w
  intro a10 h10
  row_hasAll w_w
  intro a11 h11
  row_hasAll w_w
  intro a12 h12
  row_hasAll w_w
  intro a13 h13
  row_hasAll w_w
  intro a14 h14
  row_hasAll w_w
  intro a15 h15
  row_hasAll w_w
  intro a16 h16
  row_hasAll w_w
  intro a17 h17
  row_hasAll w_w
  intro a18 h18
  row_hasAll w_w
  refine q _ [a0, a1, a2, a3, a4, a5, a6, a7, a8, a9, a10, a11, a12, a13, a14, a15, a16, a17, a18] (fun b o hb => su_keep (su_keep (su_keep (su_keep (su_keep (su_keep (su_keep (su_keep (su_keep (su_keep (su_keep (su_keep (su_keep (su_keep (su_keep (su_keep (su_keep (su_keep (su_keep (hb) h0) h1) h2) h3) h4) h5) h6) h7) h8) h9) h10) h11) h12) h13) h14) h15) h16) h17) h18) ?_
  exact And.intro (su_keep (su_keep (su_keep (su_keep (su_keep (su_keep (su_keep (su_keep (su_keep (su_keep (su_keep (su_keep (su_keep (su_keep (su_keep (su_keep (su_keep (su_keep (su_same) h1) h2) h3) h4) h5) h6) h7) h8) h9) h10) h11) h12) h13) h14) h15) h16) h17) h18) (And.intro (su_keep (su_keep (su_keep (su_keep (su_keep (su_keep (su_keep (su_keep (su_keep (su_keep (su_keep (su_keep (su_keep (su_keep (su_keep (su_keep (su_keep (su_same) h2) h3) h4) h5) h6) h7) h8) h9) h10) h11) h12) h13) h14) h15) h16) h17) h18) (And.intro (su_keep (su_keep (su_keep (su_keep (su_keep (su_keep (su_keep (su_keep (su_keep (su_keep (su_keep (su_keep (su_keep (su_keep (su_keep (su_keep (su_same) h3) h4) h5) h6) h7) h8) h9) h10) h11) h12) h13) h14) h15) h16) h17) h18) (And.intro (su_keep (su_keep (su_keep (su_keep (su_keep (su_keep (su_keep (su_keep (su_keep (su_keep (su_keep (su_keep (su_keep (su_keep (su_keep (su_same) h4) h5) h6) h7) h8) h9) h10) h11) h12) h13) h14) h15) h16) h17) h18) (And.intro (su_keep (su_keep (su_keep (su_keep (su_keep (su_keep (su_keep (su_keep (su_keep (su_keep (su_keep (su_keep (su_keep (su_keep (su_same) h5) h6) h7) h8) h9) h10) h11) h12) h13) h14) h15) h16) h17) h18) (And.intro (su_keep (su_keep (su_keep (su_keep (su_keep (su_keep (su_keep (su_keep (su_keep (su_keep (su_keep (su_keep (su_keep (su_same) h6) h7) h8) h9) h10) h11) h12) h13) h14) h15) h16) h17) h18) (And.intro (su_keep (su_keep (su_keep (su_keep (su_keep (su_keep (su_keep (su_keep (su_keep (su_keep (su_keep (su_keep (su_same) h7) h8) h9) h10) h11) h12) h13) h14) h15) h16) h17) h18) (And.intro (su_keep (su_keep (su_keep (su_keep (su_keep (su_keep (su_keep (su_keep (su_keep (su_keep (su_keep (su_same) h8) h9) h10) h11) h12) h13) h14) h15) h16) h17) h18) (And.intro (su_keep (su_keep (su_keep (su_keep (su_keep (su_keep (su_keep (su_keep (su_keep (su_keep (su_same) h9) h10) h11) h12) h13) h14) h15) h16) h17) h18) (And.intro (su_keep (su_keep (su_keep (su_keep (su_keep (su_keep (su_keep (su_keep (su_keep (su_same) h10) h11) h12) h13) h14) h15) h16) h17) h18) (And.intro (su_keep (su_keep (su_keep (su_keep (su_keep (su_keep (su_keep (su_keep (su_same) h11) h12) h13) h14) h15) h16) h17) h18) (And.intro (su_keep (su_keep (su_keep (su_keep (su_keep (su_keep (su_keep (su_same) h12) h13) h14) h15) h16) h17) h18) (And.intro (su_keep (su_keep (su_keep (su_keep (su_keep (su_keep (su_same) h13) h14) h15) h16) h17) h18) (And.intro (su_keep (su_keep (su_keep (su_keep (su_keep (su_same) h14) h15) h16) h17) h18) (And.intro (su_keep (su_keep (su_keep (su_keep (su_same) h15) h16) h17) h18) (And.intro (su_keep (su_keep (su_keep (su_same) h16) h17) h18) (And.intro (su_keep (su_keep (su_same) h17) h18) (And.intro (su_keep (su_same) h18) (And.intro (su_same) (trivial)))))))))))))))))))
theorem i_otherErrors {x : Int} {row : List D} {S : Sto} {Q : DQ} {X : XQ} (q : ∀ S' (as : List Addr), (∀ b o, S b = some o → S' b = some o) → Lie S' as (eO24 x row) → Q (.lst (as.map .adr)) S') : r_l_other_errors [.int x, .lst row] S Q X := by unfold r_l_other_errors; exact ⟨_, _, rfl, q⟩
def t_l_fields : DTS := (dSeq (dSet 1 (dLst (dCons (dXat "line" [21] (dOp oIx (dVar 0) (dC (.int 0)))) (dCons (dXat "part" [22] (dOp oIx (dVar 0) (dC (.int 1)))) (dCons (dXat "line" [23] (dOp oIx (dVar 0) (dC (.int 2)))) (dCons (dXat "line" [24] (dOp oIx (dVar 0) (dC (.int 3)))) (dCons (dXat "line" [25] (dOp oIx (dVar 0) (dC (.int 4)))) (dCons (dXat "sign" [26] (dOp oIx (dVar 0) (dC (.int 5)))) dNil)))))))) (dSeq (dSet 1 (dOp oAdd (dVar 1) (dLst (dCons (dXat "signs" [27] (dOp oIx (dVar 0) (dC (.int 6)))) (dCons (dXat "value" [28] (dOp oIx (dVar 0) (dC (.int 7)))) (dCons (dXat "number" [40] (dOp oIx (dVar 0) (dC (.int 8)))) (dCons (dXat "number" [41] (dOp oIx (dVar 0) (dC (.int 9)))) (dCons (dXat "stone" [42] (dOp oIx (dVar 0) (dC (.int 10)))) dNil)))))))) (dSeq (dSet 1 (dOp oAdd (dVar 1) (dLst (dCons (dXat "places" [43] (dOp oIx (dVar 0) (dC (.int 11)))) (dCons (dXat "index" [44] (dOp oIx (dVar 0) (dC (.int 12)))) (dCons (dXat "lacking" [45] (dOp oIx (dVar 0) (dC (.int 13)))) (dCons (dXat "cases" [46] (dOp oIx (dVar 0) (dC (.int 14)))) dNil))))))) (dRet (dOp oAdd (dVar 1) (dLst (dCons (dXat "name" [47] (dOp oIx (dVar 0) (dC (.int 15)))) dNil)))))))
abbrev N_l_fields : List Str := ["_law_errors", "_law_told"]
@[irreducible] def r_l_fields : DSp := fun ds S Q _ => ∃ (as : List Addr) (x : Int) (row : List D), ds = [.lst (as.map .adr)] ∧ Lie S as (eO24 x row) ∧ Q (.lst [.int x, .int x, .int x, .int x, .int x, .str "ab", .str "bb", .int x, .int x, .int x, .str "A", .lst row, .int x, .lst row, .int x, .str "far"]) S
theorem len_l_fields : Ln 1 r_l_fields := fun ds S Q E h => by unfold r_l_fields at h; obtain ⟨as, x, row, rfl, _⟩ := h; rfl
theorem lie_at {S : Sto} : ∀ {as : List Addr} {es : List (Nat × List D)} {i : Nat} {e : Nat × List D}, Lie S as es → es[i]? = some e → ∃ a, as[i]? = some a ∧ S a = some (.exo a e.1 e.2)
  | [], [], _, _, _, h => by simp at h
  | [], _ :: _, _, _, h, _ => h.elim
  | _ :: _, [], _, _, h, _ => h.elim
  | a :: _, e0 :: _, 0, e, h, h2 => by simp at h2; subst h2; exact ⟨a, rfl, h.1⟩
  | _ :: as, _ :: es, i + 1, e, h, h2 => by simp at h2; obtain ⟨b, h3, h4⟩ := lie_at (i := i) h.2 h2; exact ⟨b, by simpa using h3, h4⟩
theorem rd_l_fields : Rd t_l_fields N_l_fields r_l_fields := by
  intro ds S QD XD h
  unfold r_l_fields at h
  obtain ⟨as, x, row, rfl, hL, q⟩ := h
  have at_ : ∀ (i : Nat) (e : Nat × List D), (eO24 x row)[i]? = some e → ∃ a, as[i]? = some a ∧ S a = some (.exo a e.1 e.2) := fun i e h => lie_at hL h
  row_hasAll w_w
  obtain ⟨a0, e0, f0⟩ := at_ 0 _ rfl
  refine itk_of (atI_nat (j := 0) (xs := as.map D.adr) (v := D.adr a0) (by rw [List.getElem?_map, e0]; rfl)) ?_
  row_hasAll w_w
  refine ⟨a0, 21, _, 0, _, rfl, f0, by decide, rfl, rfl, ?_⟩
  row_hasAll w_w
  obtain ⟨a1, e1, f1⟩ := at_ 1 _ rfl
  refine itk_of (atI_nat (j := 1) (xs := as.map D.adr) (v := D.adr a1) (by rw [List.getElem?_map, e1]; rfl)) ?_
  row_hasAll w_w
  refine ⟨a1, 22, _, 0, _, rfl, f1, by decide, rfl, rfl, ?_⟩
  row_hasAll w_w
  obtain ⟨a2, e2, f2⟩ := at_ 2 _ rfl
  refine itk_of (atI_nat (j := 2) (xs := as.map D.adr) (v := D.adr a2) (by rw [List.getElem?_map, e2]; rfl)) ?_
  row_hasAll w_w
  refine ⟨a2, 23, _, 0, _, rfl, f2, by decide, rfl, rfl, ?_⟩
  row_hasAll w_w
  obtain ⟨a3, e3, f3⟩ := at_ 3 _ rfl
  refine itk_of (atI_nat (j := 3) (xs := as.map D.adr) (v := D.adr a3) (by rw [List.getElem?_map, e3]; rfl)) ?_
  row_hasAll w_w
  refine ⟨a3, 24, _, 0, _, rfl, f3, by decide, rfl, rfl, ?_⟩
  row_hasAll w_w
  obtain ⟨a4, e4, f4⟩ := at_ 4 _ rfl
  refine itk_of (atI_nat (j := 4) (xs := as.map D.adr) (v := D.adr a4) (by rw [List.getElem?_map, e4]; rfl)) ?_
  row_hasAll w_w
  refine ⟨a4, 25, _, 0, _, rfl, f4, by decide, rfl, rfl, ?_⟩
  row_hasAll w_w
  obtain ⟨a5, e5, f5⟩ := at_ 5 _ rfl
  refine itk_of (atI_nat (j := 5) (xs := as.map D.adr) (v := D.adr a5) (by rw [List.getElem?_map, e5]; rfl)) ?_
  row_hasAll w_w
  refine ⟨a5, 26, _, 0, _, rfl, f5, by decide, rfl, rfl, ?_⟩
  row_hasAll w_w
  obtain ⟨a6, e6, f6⟩ := at_ 6 _ rfl
  refine itk_of (atI_nat (j := 6) (xs := as.map D.adr) (v := D.adr a6) (by rw [List.getElem?_map, e6]; rfl)) ?_
  row_hasAll w_w
  refine ⟨a6, 27, _, 0, _, rfl, f6, by decide, rfl, rfl, ?_⟩
  row_hasAll w_w
  obtain ⟨a7, e7, f7⟩ := at_ 7 _ rfl
  refine itk_of (atI_nat (j := 7) (xs := as.map D.adr) (v := D.adr a7) (by rw [List.getElem?_map, e7]; rfl)) ?_
  row_hasAll w_w
  refine ⟨a7, 28, _, 0, _, rfl, f7, by decide, rfl, rfl, ?_⟩
  row_hasAll w_w
  obtain ⟨a8, e8, f8⟩ := at_ 8 _ rfl
  refine itk_of (atI_nat (j := 8) (xs := as.map D.adr) (v := D.adr a8) (by rw [List.getElem?_map, e8]; rfl)) ?_
  row_hasAll w_w
  refine ⟨a8, 40, _, 0, _, rfl, f8, by decide, rfl, rfl, ?_⟩
  row_hasAll w_w
  obtain ⟨a9, e9, f9⟩ := at_ 9 _ rfl
  refine itk_of (atI_nat (j := 9) (xs := as.map D.adr) (v := D.adr a9) (by rw [List.getElem?_map, e9]; rfl)) ?_
  row_hasAll w_w
  refine ⟨a9, 41, _, 0, _, rfl, f9, by decide, rfl, rfl, ?_⟩
  row_hasAll w_w
  obtain ⟨a10, e10, f10⟩ := at_ 10 _ rfl
  refine itk_of (atI_nat (j := 10) (xs := as.map D.adr) (v := D.adr a10) (by rw [List.getElem?_map, e10]; rfl)) ?_
  row_hasAll w_w
  refine ⟨a10, 42, _, 0, _, rfl, f10, by decide, rfl, rfl, ?_⟩
  row_hasAll w_w
  obtain ⟨a11, e11, f11⟩ := at_ 11 _ rfl
  refine itk_of (atI_nat (j := 11) (xs := as.map D.adr) (v := D.adr a11) (by rw [List.getElem?_map, e11]; rfl)) ?_
  row_hasAll w_w
  refine ⟨a11, 43, _, 0, _, rfl, f11, by decide, rfl, rfl, ?_⟩
  row_hasAll w_w
  obtain ⟨a12, e12, f12⟩ := at_ 12 _ rfl
  refine itk_of (atI_nat (j := 12) (xs := as.map D.adr) (v := D.adr a12) (by rw [List.getElem?_map, e12]; rfl)) ?_
  row_hasAll w_w
  refine ⟨a12, 44, _, 0, _, rfl, f12, by decide, rfl, rfl, ?_⟩
  row_hasAll w_w
  obtain ⟨a13, e13, f13⟩ := at_ 13 _ rfl
  refine itk_of (atI_nat (j := 13) (xs := as.map D.adr) (v := D.adr a13) (by rw [List.getElem?_map, e13]; rfl)) ?_
  row_hasAll w_w
  refine ⟨a13, 45, _, 0, _, rfl, f13, by decide, rfl, rfl, ?_⟩
  row_hasAll w_w
  obtain ⟨a14, e14, f14⟩ := at_ 14 _ rfl
  refine itk_of (atI_nat (j := 14) (xs := as.map D.adr) (v := D.adr a14) (by rw [List.getElem?_map, e14]; rfl)) ?_
  row_hasAll w_w
  refine ⟨a14, 46, _, 0, _, rfl, f14, by decide, rfl, rfl, ?_⟩
  row_hasAll w_w
  obtain ⟨a15, e15, f15⟩ := at_ 15 _ rfl
  refine itk_of (atI_nat (j := 15) (xs := as.map D.adr) (v := D.adr a15) (by rw [List.getElem?_map, e15]; rfl)) ?_
  row_hasAll w_w
  refine ⟨a15, 47, _, 0, _, rfl, f15, by decide, rfl, rfl, ?_⟩
  row_hasAll w_w
  exact q
theorem i_fields {as : List Addr} {x : Int} {row : List D} {S : Sto} {Q : DQ} {X : XQ} (hL : Lie S as (eO24 x row)) (q : Q (.lst [.int x, .int x, .int x, .int x, .int x, .str "ab", .str "bb", .int x, .int x, .int x, .str "A", .lst row, .int x, .lst row, .int x, .str "far"]) S) : r_l_fields [.lst (as.map .adr)] S Q X := by unfold r_l_fields; exact ⟨as, x, row, rfl, hL, q⟩
local macro_rules | `(tactic| row_hasAll w_n) => `(tactic| (try simp only [startD, put_0, put_s, setO_0, setO_s, sets_n, sets_c]))
local macro_rules | `(tactic| row_hasAll w_m) => `(tactic| (row_hasAll w_n; row_hasAll w_w; row_hasAll w_n))
def t_law_k24_1 (a : Addr) (ns : List Int) : DTS := (dIf (dOr (dNot (dTru (dCall r_l_is_kind [] (dCons (dOp oIx (dVar 5) (dVar 6)) (dCons (dVar 6) dNil))))) (dOr (dTestB (dOp oNe (dXat "x" [30, 31, 32, 33, 34, 35, 36, 37, 38, 39] (dOp oIx (dVar 5) (dVar 6))) (dVar 2))) (dTestB (dOp oNe (dXat "y" [30, 31, 32, 33, 34, 35, 36, 37, 38, 39] (dOp oIx (dVar 5) (dVar 6))) (dVar 3))))) (dRet (dC (.bl false))) dNext)
def t_law_k24_2 (a : Addr) (ns : List Int) : DTS := (dSeq (dSet 8 (dLst (dCons (dVar 2) (dCons (dVar 2) (dCons (dVar 2) (dCons (dVar 2) (dCons (dVar 2) (dCons (dC (.str "ab")) (dCons (dC (.str "bb")) (dCons (dVar 2) (dCons (dVar 2) (dCons (dVar 2) (dCons (dC (.str "A")) (dCons (dVar 4) (dCons (dVar 2) (dCons (dVar 4) (dCons (dVar 2) (dCons (dC (.str "far")) dNil)))))))))))))))))) (dRet (dOp oEq (dCall r_l_fields [] (dCons (dVar 7) dNil)) (dVar 8))))
def t_law_k24_3 (a : Addr) (ns : List Int) : DTS := (dSeq (dFor (dRng1 (dCons (dC (.int 19)) dNil)) (.nm 6) (dIf (dNot (dTru (dCall r_l_is_kind [] (dCons (dOp oIx (dVar 7) (dVar 6)) (dCons (dOp oAdd (dC (.int 10)) (dVar 6)) dNil))))) (dRet (dC (.bl false))) dNext)) (t_law_k24_2 a ns))
def t_law_k24_4 (a : Addr) (ns : List Int) : DTS := (dSeq (dFor (dRng1 (dCons (dC (.int 10)) dNil)) (.nm 6) (t_law_k24_1 a ns)) (dSeq (dSet 7 (dCall r_l_other_errors [] (dCons (dVar 2) (dCons (dCB (on1 listD) (dCons (dVar 4) dNil)) dNil)))) (t_law_k24_3 a ns)))
def t_law_k24_5 (a : Addr) (ns : List Int) : DTS := (dSeq (dSet 4 (dCall r_l_spots [] (dCons (dVar 1) (dCons (dC (.int 5)) dNil)))) (dSeq (dSet 5 (dCall r_l_cell_errors [] (dCons (dVar 2) (dCons (dVar 3) dNil)))) (t_law_k24_4 a ns)))
def t_law_k24_6 (a : Addr) (ns : List Int) : DTS := (dSeq (dIf (dTestB (dOp oEq (dCall r_l_take [] (dCons (dVar 1) (dCons (dC (.int 2)) dNil))) (dC (.int 0)))) (dSet 2 (dOp oSub (dC (.int 0)) (dVar 2))) dNext) (t_law_k24_5 a ns))
def t_law_k24_7 (a : Addr) (ns : List Int) : DTS := (dSeq (dSet 2 (dOp oAdd (dCall r_l_take [] (dCons (dVar 1) (dCons (dOp oPow (dC (.int 10)) (dC (.int 9))) dNil))) (dC (.int 1)))) (dSeq (dSet 3 (dOp oSub (dC (.int 0)) (dCall r_l_take [] (dCons (dVar 1) (dCons (dOp oPow (dC (.int 10)) (dC (.int 9))) dNil))))) (t_law_k24_6 a ns)))
def t_law_k24 (a : Addr) (ns : List Int) : DTS := (dSeq (dSet 1 (dCall (rScr a ns r_l_bag) [] (dCons (dVar 0) dNil))) (t_law_k24_7 a ns))
abbrev N_law_k24 : List Str := ["_law_script", "_law_bag_here", "_law_one", "_law_two", "_law_row", "_law_cells", "_law_k", "_law_others", "_law_due"]
theorem rd_law_k24 (a : Addr) (ns : List Int) (hn : ns.length ≤ 63) : Rd (t_law_k24 a ns) N_law_k24 (rLaw a ns) := by
  intro ds S QD XD h
  unfold rLaw at h
  obtain ⟨rfl, q⟩ := h
  have hz := sizeLine_eq
  row_hasAll w_m
  refine i_bag fun p b hp => ?_
  row_hasAll w_m
  refine i_take (b := b) su_same (by decide) (by decide) fun v1 b1 g10 g11 => ?_
  row_hasAll w_m
  refine i_take (b := b1) su_same (by decide) (by decide) fun v2 b2 g20 g21 => ?_
  row_hasAll w_m
  refine i_take (b := b2) su_same (by decide) (by decide) fun v3 b3 g30 g31 => ?_
  row_hasAll w_m
  have kc : ∀ i : Fin 10, kA24[i.1]? = some (30 + i.1) ∧ 30 + i.1 ∈ ([30, 31, 32, 33, 34, 35, 36, 37, 38, 39] : List Nat) := by decide
  have fx : ∀ i : Nat, i < 10 → (cfs (30 + i))[0]? = some ("x" : Str) ∧ (cfs (30 + i))[1]? = some ("y" : Str) := fun i hi => by
    rcases (show i = 0 ∨ i = 1 ∨ i = 2 ∨ i = 3 ∨ i = 4 ∨ i = 5 ∨ i = 6 ∨ i = 7 ∨ i = 8 ∨ i = 9 by omega) with rfl | rfl | rfl | rfl | rfl | rfl | rfl | rfl | rfl | rfl <;> exact ⟨rfl, rfl⟩
  have ec : ∀ (x y : Int) (i : Nat), i < 10 → (eC24 x y)[i]? = some (30 + i, [.int x, .int y]) := fun x y i hi => by
    rcases (show i = 0 ∨ i = 1 ∨ i = 2 ∨ i = 3 ∨ i = 4 ∨ i = 5 ∨ i = 6 ∨ i = 7 ∨ i = 8 ∨ i = 9 by omega) with rfl | rfl | rfl | rfl | rfl | rfl | rfl | rfl | rfl | rfl <;> rfl
  have eo : ∀ (x : Int) (row : List D) (i : Nat), i < 19 → ∃ c fs, (eO24 x row)[i]? = some (c, fs) ∧ kA24[10 + i]? = some c := fun x row i hi => by
    rcases (show i = 0 ∨ i = 1 ∨ i = 2 ∨ i = 3 ∨ i = 4 ∨ i = 5 ∨ i = 6 ∨ i = 7 ∨ i = 8 ∨ i = 9 ∨ i = 10 ∨ i = 11 ∨ i = 12 ∨ i = 13 ∨ i = 14 ∨ i = 15 ∨ i = 16 ∨ i = 17 ∨ i = 18 by omega) with rfl | rfl | rfl | rfl | rfl | rfl | rfl | rfl | rfl | rfl | rfl | rfl | rfl | rfl | rfl | rfl | rfl | rfl | rfl <;> exact ⟨_, _, rfl, rfl⟩
  have rest : ∀ x : Int, t_law_k24_5 a ns (ends QD XD) [some (D.adr a), some (D.adr p), some (D.int x), some (D.int (0 - v2)), none, none, none, none, none] (su S p (bagO b3)) := by
    intro x
    unfold t_law_k24_5
    row_hasAll w_m
    refine i_spots (b := b3) su_same (by decide) (by decide) fun cs b4 hl hs => ?_
    row_hasAll w_m
    refine i_cellErrors fun S1 as hgr hL => ?_
    unfold t_law_k24_4
    row_hasAll w_m
    refine loop_i 10 [6] (fun i ws S2 => (∃ v, ws = [v]) ∧ S2 = S1) (by row_hasAll w_env) ?_ ?_ ⟨⟨_, rfl⟩, rfl⟩
    · rintro i ws _ hi ⟨⟨v, rfl⟩, rfl⟩
      refine ⟨_, rfl, fun N hN => ?_⟩
      rw [Int.zero_add]
      obtain ⟨ai, e1, e2⟩ := lie_at (i := i) hL (ec x (0 - v2) i hi)
      have e3 : (as.map D.adr)[i]? = some (D.adr ai) := by rw [List.getElem?_map, e1]; rfl
      unfold t_law_k24_1
      row_hasAll w_m
      refine itk_of (atI_nat (j := i) e3) ?_
      row_hasAll w_m
      refine i_isKind e2 (kc ⟨i, hi⟩).1 ?_
      row_hasAll w_m
      refine itk_of (atI_nat (j := i) e3) ?_
      row_hasAll w_m
      refine ⟨ai, _, _, 0, _, rfl, e2, (kc ⟨i, hi⟩).2, (fx i hi).1, rfl, ?_⟩
      row_hasAll w_m
      rw [eqB_rfl]
      row_hasAll w_m
      refine itk_of (atI_nat (j := i) e3) ?_
      row_hasAll w_m
      refine ⟨ai, _, _, 1, _, rfl, e2, (kc ⟨i, hi⟩).2, (fx i hi).2, rfl, ?_⟩
      row_hasAll w_m
      rw [eqB_rfl]
      row_hasAll w_m
      exact hN _ _ (by row_hasAll w_env) ⟨⟨_, rfl⟩, rfl⟩
    · rintro ws _ ⟨⟨v, rfl⟩, rfl⟩
      row_hasAll w_m
      refine i_otherErrors fun S2 bs hgr2 hL2 => ?_
      unfold t_law_k24_3
      row_hasAll w_m
      refine loop_i 19 [6] (fun i ws S3 => (∃ v, ws = [v]) ∧ S3 = S2) (by row_hasAll w_env) ?_ ?_ ⟨⟨_, rfl⟩, rfl⟩
      · rintro i ws _ hi ⟨⟨v, rfl⟩, rfl⟩
        refine ⟨_, rfl, fun N hN => ?_⟩
        rw [Int.zero_add]
        obtain ⟨c, fs, e4, e5⟩ := eo x (cs.map pr) i hi
        obtain ⟨ai, e1, e2⟩ := lie_at (i := i) hL2 e4
        have e3 : (bs.map D.adr)[i]? = some (D.adr ai) := by rw [List.getElem?_map, e1]; rfl
        row_hasAll w_m
        refine itk_of (atI_nat (j := i) e3) ?_
        row_hasAll w_m
        rw [show (10 : Int) + (i : Int) = ((10 + i : Nat) : Int) by omega]
        refine i_isKind e2 e5 ?_
        row_hasAll w_m
        exact hN _ _ (by row_hasAll w_env) ⟨⟨_, rfl⟩, rfl⟩
      · rintro ws _ ⟨⟨v, rfl⟩, rfl⟩
        unfold t_law_k24_2
        row_hasAll w_m
        refine i_fields hL2 ?_
        row_hasAll w_m
        have h8 : plns 7 (cs.map pr) = true := by
          rw [plns_all, List.all_eq_true]
          intro d hd
          obtain ⟨c, _, rfl⟩ := List.mem_map.mp hd
          rfl
        refine ⟨by simp [pln, plns, h8], ?_⟩
        rw [eqB_rfl]
        exact q _
  generalize t_law_k24_5 a ns = T at rest ⊢
  refine brn_of (fun hc => ?_) (fun hc => ?_)
  · row_hasAll w_m
    exact rest _
  · row_hasAll w_m
    exact rest _
end SM
namespace LAW
open PySem PySem.Spec PyProof.Rows L2 SM
variable {P : Program} {w : World} {K : PySem.W.Frag} {mg : Str → Option Value} {base : Heap} {f : Addr} {fd : FuncData}
theorem sc_l_bag : FnScope N_l_bag ["_law_script"] (defScope s_l_bag) := ⟨rfl, rfl, rfl, by decide +kernel, rfl, by decide +kernel, by decide +kernel⟩
theorem ok_l_bag (F : FunD K "_law_bag" "_law_bag" (defArgs s_l_bag) (defBody s_l_bag) (defScope s_l_bag) [] [] f fd) (n_int : mg "int" = none) : FnOk P w K mg base (L2N.CX P w) 1 f fd ["_law_script"] (spScr K 63 r_l_bag) :=
  fnScr F sc_l_bag r_l_bag (fun a ns ds S Q E h => len_l_bag a ns ds S Q E h) (by decide) fun cdv A outer s H E a ns hr hz hn => ⟨t_l_bag a ns, (dss_one (ds_ret (de_lstO (da_cons (de_lc (own := [("_law_cell", 1)]) rfl sc_l_bag.nd (di_items (de_sliceScr (a := a) (ns := ns) hz (Nat.le_trans hn (by decide)) (dv 0) do_none (do_some de_int))) (blk_of (by kernel_rfl)) (fun s H C cl fp => (dp_nm (i := 1) sc_l_bag.nd)) (fun s H C cl fp => dts_nil) (fun s H C cl fp => (de_callTy c_int (by rfl) n_int (by decide +kernel) (da_cons (dv 1) da_nil)))) (da_cons de_int (da_cons de_int (da_cons de_int da_nil))))))), rd_l_bag a ns hn⟩
theorem sc_l_take : FnScope N_l_take ["_law_bag_here", "_law_size"] (defScope s_l_take) := ⟨rfl, rfl, rfl, by decide +kernel, rfl, by decide +kernel, by decide +kernel⟩
theorem ok_l_take (F : FunD K "_law_take" "_law_take" (defArgs s_l_take) (defBody s_l_take) (defScope s_l_take) [] [] f fd) (n_len : mg "len" = none) (n_int : mg "int" = none) : FnOk P w K mg base (L2N.CX P w) 1 f fd ["_law_bag_here", "_law_size"] (toSp K r_l_take) :=
  fnT F sc_l_take len_l_take rd_l_take fun cdv A outer s H E hr => (dss_cut (ds_if (PDW.pt (dw_and (dt_cmp (o_eq (k := 0) hr) (de_ix (k := 0) hr (dv 0) de_int) de_int) (dw_and1 (dt_cmp o_lt (de_ix (k := 0) hr (dv 0) de_int) (de_callB c_len (by rfl) n_len PySem.boot_len (da_cons (de_ix (k := 0) hr (dv 0) de_int) da_nil)))))) (dss_cons (ds_set (i := 2) sc_l_take.nd (de_ix (k := 0) hr (de_ix (k := 0) hr (dv 0) de_int) (de_ix (k := 0) hr (dv 0) de_int))) (dss_cons (ds_setL (de_op o_add (de_ix (k := 0) hr (dv 0) de_int) de_int) (dv 0) de_int) (dss_one (ds_if (dt_cmp o_ge (dv 2) (de_op o_pow de_int de_int)) (dss_one (ds_setL (dv 2) (dv 0) de_int)) (dss_one (ds_setL (de_op o_mod (de_callTy c_int (by rfl) n_int (by decide +kernel) (da_cons (de_op o_add (de_op o_add (de_op o_mul (de_ix (k := 0) hr (dv 0) de_int) de_int) (de_op o_mul (dv 2) de_int)) de_int) da_nil)) de_int) (dv 0) de_int)))))) dss_nil) (dss_cons (ds_if (dt_cmp o_gt (de_ix (k := 0) hr (dv 0) de_int) de_int) (dss_cons (ds_set (i := 3) sc_l_take.nd (de_op o_mod (de_callTy c_int (by rfl) n_int (by decide +kernel) (da_cons (de_ix (k := 0) hr (dv 0) de_int) da_nil)) (dv 1))) (dss_cons (ds_setL (de_op o_fdiv (de_ix (k := 0) hr (dv 0) de_int) (dv 1)) (dv 0) de_int) (dss_one (ds_ret (dv 3))))) dss_nil) (dss_cons (ds_setL (de_op o_mod (de_callTy c_int (by rfl) n_int (by decide +kernel) (da_cons (de_op o_add (de_op o_mul (de_ix (k := 0) hr (dv 0) de_int) de_int) de_int) da_nil)) de_int) (dv 0) de_int) (dss_one (ds_ret (de_op o_mod (de_callTy c_int (by rfl) n_int (by decide +kernel) (da_cons (de_op o_fdiv (de_ix (k := 0) hr (dv 0) de_int) de_int) da_nil)) (dv 1)))))))
theorem sc_l_spot : FnScope N_l_spot ["_law_bag_here"] (defScope s_l_spot) := ⟨rfl, rfl, rfl, by decide +kernel, rfl, by decide +kernel, by decide +kernel⟩
theorem ok_l_spot (F : FunD K "_law_spot" "_law_spot" (defArgs s_l_spot) (defBody s_l_spot) (defScope s_l_spot) [] [] f fd) (g__law_take : Gf P w K mg base 1 "_law_take" ["_law_bag_here", "_law_size"] r_l_take) : FnOk P w K mg base (L2N.CX P w) 2 f fd ["_law_bag_here"] (toSp K r_l_spot) :=
  fnT F sc_l_spot len_l_spot rd_l_spot fun cdv A outer s H E hr => (dss_cons (ds_set (i := 1) sc_l_spot.nd (de_op o_sub (de_g g__law_take hr (by rfl) (da_cons (dv 0) (da_cons de_int da_nil))) de_int)) (dss_cons (ds_set (i := 2) sc_l_spot.nd (de_op o_sub (de_g g__law_take hr (by rfl) (da_cons (dv 0) (da_cons de_int da_nil))) de_int)) (dss_cons (ds_if (dt_cmp (o_eq (k := 1) hr) (de_g g__law_take hr (by rfl) (da_cons (dv 0) (da_cons de_int da_nil))) de_int) (dss_one (ds_set (i := 1) sc_l_spot.nd (de_op o_mul (dv 1) (de_op o_pow de_int de_int)))) dss_nil) (dss_one (ds_ret (de_tup (da_cons (dv 1) (da_cons (dv 2) da_nil))))))))
theorem sc_l_spots : FnScope N_l_spots ["_law_bag_here", "_law_most"] (defScope s_l_spots) := ⟨rfl, rfl, rfl, by decide +kernel, rfl, by decide +kernel, by decide +kernel⟩
theorem ok_l_spots (F : FunD K "_law_spots" "_law_spots" (defArgs s_l_spots) (defBody s_l_spots) (defScope s_l_spots) [] [] f fd) (n_range : mg "range" = none) (n_len : mg "len" = none) (g__law_take : Gf P w K mg base 1 "_law_take" ["_law_bag_here", "_law_size"] r_l_take) (g__law_spot : Gf P w K mg base 2 "_law_spot" ["_law_bag_here"] r_l_spot) : FnOk P w K mg base (L2N.CX P w) 3 f fd ["_law_bag_here", "_law_most"] (toSp K r_l_spots) :=
  fnT F sc_l_spots len_l_spots rd_l_spots fun cdv A outer s H E hr => (dss_cons (ds_set (i := 2) sc_l_spots.nd (de_lstO da_nil)) (dss_cons (ds_for rfl (di_rng1 (by rfl) n_range (da_cons (de_g g__law_take hr (by rfl) (da_cons (dv 0) (da_cons (de_op o_add (dv 1) de_int) da_nil))) da_nil)) (dp_nm (i := 3) sc_l_spots.nd) (dss_cons (ds_set (i := 4) sc_l_spots.nd (de_g g__law_spot hr (by rfl) (da_cons (dv 0) da_nil))) (dss_cut (ds_if (PDW.pt (dw_and (dt_cmp o_gt (de_callB c_len (by rfl) n_len PySem.boot_len (da_cons (dv 2) da_nil)) de_int) (dw_and1 (dt_cmp (o_eq (k := 2) hr) (de_g g__law_take hr (by rfl) (da_cons (dv 0) (da_cons de_int da_nil))) de_int)))) (dss_one (ds_set (i := 4) sc_l_spots.nd (de_ix (k := 2) hr (dv 2) (de_g g__law_take hr (by rfl) (da_cons (dv 0) (da_cons (de_callB c_len (by rfl) n_len PySem.boot_len (da_cons (dv 2) da_nil)) da_nil)))))) dss_nil) (dss_one (ds_expr (de_bm (by simp) PySem.F.plainAttrs_list PySem.F.slot_list_append PySem.F.type_list_append m_append (dv 2) (da_cons (dv 4) da_nil))))))) (dss_one (ds_ret (dvM 2)))))
theorem sc_l_cell_errors : FnScope N_l_cell_errors ["_law_one", "_law_two"] (defScope s_l_cell_errors) := ⟨rfl, rfl, rfl, by decide +kernel, rfl, by decide +kernel, by decide +kernel⟩
theorem ok_l_cell_errors (F : FunD K "_law_cell_errors" "_law_cell_errors" (defArgs s_l_cell_errors) (defBody s_l_cell_errors) (defScope s_l_cell_errors) [] [] f fd) (x_Opposed : Gx P w K mg base 34 "Opposed") (x_EmptyCell : Gx P w K mg base 33 "EmptyCell") (x_NoHole : Gx P w K mg base 32 "NoHole") (x_NoStone : Gx P w K mg base 31 "NoStone") (x_OutOfPicture : Gx P w K mg base 30 "OutOfPicture") (x_SurelyNew : Gx P w K mg base 38 "SurelyNew") (x_SurelyOld : Gx P w K mg base 37 "SurelyOld") (x_NotNew : Gx P w K mg base 36 "NotNew") (x_NotOld : Gx P w K mg base 35 "NotOld") (x_SurelyAfter : Gx P w K mg base 39 "SurelyAfter") : FnOk P w K mg base (L2N.CX P w) 3 f fd ["_law_one", "_law_two"] (toSp K r_l_cell_errors) :=
  fnT F sc_l_cell_errors len_l_cell_errors rd_l_cell_errors fun cdv A outer s H E hr => (dss_cons (ds_set (i := 2) sc_l_cell_errors.nd (de_lst (da_cons (de_mkE x_OutOfPicture hr (by rfl) (da_cons (dv 0) (da_cons (dv 1) da_nil))) (da_cons (de_mkE x_NoStone hr (by rfl) (da_cons (dv 0) (da_cons (dv 1) da_nil))) (da_cons (de_mkE x_NoHole hr (by rfl) (da_cons (dv 0) (da_cons (dv 1) da_nil))) (da_cons (de_mkE x_EmptyCell hr (by rfl) (da_cons (dv 0) (da_cons (dv 1) da_nil))) (da_cons (de_mkE x_Opposed hr (by rfl) (da_cons (dv 0) (da_cons (dv 1) da_nil))) da_nil))))))) (dss_cons (ds_set (i := 2) sc_l_cell_errors.nd (de_op o_add (dv 2) (de_lst (da_cons (de_mkE x_NotOld hr (by rfl) (da_cons (dv 0) (da_cons (dv 1) da_nil))) (da_cons (de_mkE x_NotNew hr (by rfl) (da_cons (dv 0) (da_cons (dv 1) da_nil))) (da_cons (de_mkE x_SurelyOld hr (by rfl) (da_cons (dv 0) (da_cons (dv 1) da_nil))) (da_cons (de_mkE x_SurelyNew hr (by rfl) (da_cons (dv 0) (da_cons (dv 1) da_nil))) da_nil))))))) (dss_one (ds_ret (de_op o_add (dv 2) (de_lst (da_cons (de_mkE x_SurelyAfter hr (by rfl) (da_cons (dv 0) (da_cons (dv 1) da_nil))) da_nil)))))))
theorem sc_l_cell_kinds : FnScope N_l_cell_kinds ["_law_e"] (defScope s_l_cell_kinds) := ⟨rfl, rfl, rfl, by decide +kernel, rfl, by decide +kernel, by decide +kernel⟩
theorem ok_l_cell_kinds (F : FunD K "_law_cell_kinds" "_law_cell_kinds" (defArgs s_l_cell_kinds) (defBody s_l_cell_kinds) (defScope s_l_cell_kinds) [] [] f fd) (ix_EmptyCell_all : IxOk K (.ref (cad K 33)) [(30, false), (31, false), (32, false), (33, true), (34, false), (35, false), (36, false), (37, false), (38, false), (39, false), (21, false), (22, false), (23, false), (24, false), (25, false), (26, false), (27, false), (28, false), (40, false), (41, false), (42, false), (43, false), (44, false), (45, false), (46, false), (47, false), (48, false), (49, false), (50, false)]) (g_EmptyCell : mg "EmptyCell" = some (.ref (cad K 33))) (n_isinstance : mg "isinstance" = none) (ix_NoHole_all : IxOk K (.ref (cad K 32)) [(30, false), (31, false), (32, true), (33, false), (34, false), (35, false), (36, false), (37, false), (38, false), (39, false), (21, false), (22, false), (23, false), (24, false), (25, false), (26, false), (27, false), (28, false), (40, false), (41, false), (42, false), (43, false), (44, false), (45, false), (46, false), (47, false), (48, false), (49, false), (50, false)]) (g_NoHole : mg "NoHole" = some (.ref (cad K 32))) (ix_NoStone_all : IxOk K (.ref (cad K 31)) [(30, false), (31, true), (32, false), (33, false), (34, false), (35, false), (36, false), (37, false), (38, false), (39, false), (21, false), (22, false), (23, false), (24, false), (25, false), (26, false), (27, false), (28, false), (40, false), (41, false), (42, false), (43, false), (44, false), (45, false), (46, false), (47, false), (48, false), (49, false), (50, false)]) (g_NoStone : mg "NoStone" = some (.ref (cad K 31))) (ix_OutOfPicture_all : IxOk K (.ref (cad K 30)) [(30, true), (31, false), (32, false), (33, false), (34, false), (35, false), (36, false), (37, false), (38, false), (39, false), (21, false), (22, false), (23, false), (24, false), (25, false), (26, false), (27, false), (28, false), (40, false), (41, false), (42, false), (43, false), (44, false), (45, false), (46, false), (47, false), (48, false), (49, false), (50, false)]) (g_OutOfPicture : mg "OutOfPicture" = some (.ref (cad K 30))) (ix_NotNew_all : IxOk K (.ref (cad K 36)) [(30, false), (31, false), (32, false), (33, false), (34, false), (35, false), (36, true), (37, false), (38, false), (39, false), (21, false), (22, false), (23, false), (24, false), (25, false), (26, false), (27, false), (28, false), (40, false), (41, false), (42, false), (43, false), (44, false), (45, false), (46, false), (47, false), (48, false), (49, false), (50, false)]) (g_NotNew : mg "NotNew" = some (.ref (cad K 36))) (ix_NotOld_all : IxOk K (.ref (cad K 35)) [(30, false), (31, false), (32, false), (33, false), (34, false), (35, true), (36, false), (37, false), (38, false), (39, false), (21, false), (22, false), (23, false), (24, false), (25, false), (26, false), (27, false), (28, false), (40, false), (41, false), (42, false), (43, false), (44, false), (45, false), (46, false), (47, false), (48, false), (49, false), (50, false)]) (g_NotOld : mg "NotOld" = some (.ref (cad K 35))) (ix_Opposed_all : IxOk K (.ref (cad K 34)) [(30, false), (31, false), (32, false), (33, false), (34, true), (35, false), (36, false), (37, false), (38, false), (39, false), (21, false), (22, false), (23, false), (24, false), (25, false), (26, false), (27, false), (28, false), (40, false), (41, false), (42, false), (43, false), (44, false), (45, false), (46, false), (47, false), (48, false), (49, false), (50, false)]) (g_Opposed : mg "Opposed" = some (.ref (cad K 34))) (ix_SurelyAfter_all : IxOk K (.ref (cad K 39)) [(30, false), (31, false), (32, false), (33, false), (34, false), (35, false), (36, false), (37, false), (38, false), (39, true), (21, false), (22, false), (23, false), (24, false), (25, false), (26, false), (27, false), (28, false), (40, false), (41, false), (42, false), (43, false), (44, false), (45, false), (46, false), (47, false), (48, false), (49, false), (50, false)]) (g_SurelyAfter : mg "SurelyAfter" = some (.ref (cad K 39))) (ix_SurelyNew_all : IxOk K (.ref (cad K 38)) [(30, false), (31, false), (32, false), (33, false), (34, false), (35, false), (36, false), (37, false), (38, true), (39, false), (21, false), (22, false), (23, false), (24, false), (25, false), (26, false), (27, false), (28, false), (40, false), (41, false), (42, false), (43, false), (44, false), (45, false), (46, false), (47, false), (48, false), (49, false), (50, false)]) (g_SurelyNew : mg "SurelyNew" = some (.ref (cad K 38))) (ix_SurelyOld_all : IxOk K (.ref (cad K 37)) [(30, false), (31, false), (32, false), (33, false), (34, false), (35, false), (36, false), (37, true), (38, false), (39, false), (21, false), (22, false), (23, false), (24, false), (25, false), (26, false), (27, false), (28, false), (40, false), (41, false), (42, false), (43, false), (44, false), (45, false), (46, false), (47, false), (48, false), (49, false), (50, false)]) (g_SurelyOld : mg "SurelyOld" = some (.ref (cad K 37))) : FnOk P w K mg base (L2N.CX P w) 1 f fd ["_law_e"] (toSp K r_l_cell_kinds) :=
  fnT F sc_l_cell_kinds len_l_cell_kinds rd_l_cell_kinds fun cdv A outer s H E hr => (dss_cons (ds_set (i := 1) sc_l_cell_kinds.nd (de_lst (da_cons (de_isX (u := .ref (cad K 30)) (cv := .ref (cad K 30)) (by rfl) n_isinstance (fun _ r => r) (pe_glob (by rfl) g_OutOfPicture rfl) ix_OutOfPicture_all (dv 0)) (da_cons (de_isX (u := .ref (cad K 31)) (cv := .ref (cad K 31)) (by rfl) n_isinstance (fun _ r => r) (pe_glob (by rfl) g_NoStone rfl) ix_NoStone_all (dv 0)) (da_cons (de_isX (u := .ref (cad K 32)) (cv := .ref (cad K 32)) (by rfl) n_isinstance (fun _ r => r) (pe_glob (by rfl) g_NoHole rfl) ix_NoHole_all (dv 0)) (da_cons (de_isX (u := .ref (cad K 33)) (cv := .ref (cad K 33)) (by rfl) n_isinstance (fun _ r => r) (pe_glob (by rfl) g_EmptyCell rfl) ix_EmptyCell_all (dv 0)) da_nil)))))) (dss_cons (ds_set (i := 1) sc_l_cell_kinds.nd (de_op o_add (dv 1) (de_lst (da_cons (de_isX (u := .ref (cad K 34)) (cv := .ref (cad K 34)) (by rfl) n_isinstance (fun _ r => r) (pe_glob (by rfl) g_Opposed rfl) ix_Opposed_all (dv 0)) (da_cons (de_isX (u := .ref (cad K 35)) (cv := .ref (cad K 35)) (by rfl) n_isinstance (fun _ r => r) (pe_glob (by rfl) g_NotOld rfl) ix_NotOld_all (dv 0)) (da_cons (de_isX (u := .ref (cad K 36)) (cv := .ref (cad K 36)) (by rfl) n_isinstance (fun _ r => r) (pe_glob (by rfl) g_NotNew rfl) ix_NotNew_all (dv 0)) da_nil)))))) (dss_one (ds_ret (de_op o_add (dv 1) (de_lst (da_cons (de_isX (u := .ref (cad K 37)) (cv := .ref (cad K 37)) (by rfl) n_isinstance (fun _ r => r) (pe_glob (by rfl) g_SurelyOld rfl) ix_SurelyOld_all (dv 0)) (da_cons (de_isX (u := .ref (cad K 38)) (cv := .ref (cad K 38)) (by rfl) n_isinstance (fun _ r => r) (pe_glob (by rfl) g_SurelyNew rfl) ix_SurelyNew_all (dv 0)) (da_cons (de_isX (u := .ref (cad K 39)) (cv := .ref (cad K 39)) (by rfl) n_isinstance (fun _ r => r) (pe_glob (by rfl) g_SurelyAfter rfl) ix_SurelyAfter_all (dv 0)) da_nil)))))))))
theorem sc_l_other_kinds : FnScope N_l_other_kinds ["_law_e"] (defScope s_l_other_kinds) := ⟨rfl, rfl, rfl, by decide +kernel, rfl, by decide +kernel, by decide +kernel⟩
theorem ok_l_other_kinds (F : FunD K "_law_other_kinds" "_law_other_kinds" (defArgs s_l_other_kinds) (defBody s_l_other_kinds) (defScope s_l_other_kinds) [] [] f fd) (ix_InvalidBook_all : IxOk K (.ref (cad K 23)) [(30, false), (31, false), (32, false), (33, false), (34, false), (35, false), (36, false), (37, false), (38, false), (39, false), (21, false), (22, false), (23, true), (24, false), (25, false), (26, false), (27, false), (28, false), (40, false), (41, false), (42, false), (43, false), (44, false), (45, false), (46, false), (47, false), (48, false), (49, false), (50, false)]) (g_InvalidBook : mg "InvalidBook" = some (.ref (cad K 23))) (n_isinstance : mg "isinstance" = none) (ix_InvalidRule_all : IxOk K (.ref (cad K 22)) [(30, false), (31, false), (32, false), (33, false), (34, false), (35, false), (36, false), (37, false), (38, false), (39, false), (21, false), (22, true), (23, false), (24, false), (25, false), (26, false), (27, false), (28, false), (40, false), (41, false), (42, false), (43, false), (44, false), (45, false), (46, false), (47, false), (48, false), (49, false), (50, false)]) (g_InvalidRule : mg "InvalidRule" = some (.ref (cad K 22))) (ix_InvalidPicture_all : IxOk K (.ref (cad K 21)) [(30, false), (31, false), (32, false), (33, false), (34, false), (35, false), (36, false), (37, false), (38, false), (39, false), (21, true), (22, false), (23, false), (24, false), (25, false), (26, false), (27, false), (28, false), (40, false), (41, false), (42, false), (43, false), (44, false), (45, false), (46, false), (47, false), (48, false), (49, false), (50, false)]) (g_InvalidPicture : mg "InvalidPicture" = some (.ref (cad K 21))) (ix_InvalidSign_all : IxOk K (.ref (cad K 26)) [(30, false), (31, false), (32, false), (33, false), (34, false), (35, false), (36, false), (37, false), (38, false), (39, false), (21, false), (22, false), (23, false), (24, false), (25, false), (26, true), (27, false), (28, false), (40, false), (41, false), (42, false), (43, false), (44, false), (45, false), (46, false), (47, false), (48, false), (49, false), (50, false)]) (g_InvalidSign : mg "InvalidSign" = some (.ref (cad K 26))) (ix_InvalidHistory_all : IxOk K (.ref (cad K 25)) [(30, false), (31, false), (32, false), (33, false), (34, false), (35, false), (36, false), (37, false), (38, false), (39, false), (21, false), (22, false), (23, false), (24, false), (25, true), (26, false), (27, false), (28, false), (40, false), (41, false), (42, false), (43, false), (44, false), (45, false), (46, false), (47, false), (48, false), (49, false), (50, false)]) (g_InvalidHistory : mg "InvalidHistory" = some (.ref (cad K 25))) (ix_InvalidSketch_all : IxOk K (.ref (cad K 24)) [(30, false), (31, false), (32, false), (33, false), (34, false), (35, false), (36, false), (37, false), (38, false), (39, false), (21, false), (22, false), (23, false), (24, true), (25, false), (26, false), (27, false), (28, false), (40, false), (41, false), (42, false), (43, false), (44, false), (45, false), (46, false), (47, false), (48, false), (49, false), (50, false)]) (g_InvalidSketch : mg "InvalidSketch" = some (.ref (cad K 24))) (ix_NoRule_all : IxOk K (.ref (cad K 40)) [(30, false), (31, false), (32, false), (33, false), (34, false), (35, false), (36, false), (37, false), (38, false), (39, false), (21, false), (22, false), (23, false), (24, false), (25, false), (26, false), (27, false), (28, false), (40, true), (41, false), (42, false), (43, false), (44, false), (45, false), (46, false), (47, false), (48, false), (49, false), (50, false)]) (g_NoRule : mg "NoRule" = some (.ref (cad K 40))) (ix_InvalidLimit_all : IxOk K (.ref (cad K 28)) [(30, false), (31, false), (32, false), (33, false), (34, false), (35, false), (36, false), (37, false), (38, false), (39, false), (21, false), (22, false), (23, false), (24, false), (25, false), (26, false), (27, false), (28, true), (40, false), (41, false), (42, false), (43, false), (44, false), (45, false), (46, false), (47, false), (48, false), (49, false), (50, false)]) (g_InvalidLimit : mg "InvalidLimit" = some (.ref (cad K 28))) (ix_InvalidSigns_all : IxOk K (.ref (cad K 27)) [(30, false), (31, false), (32, false), (33, false), (34, false), (35, false), (36, false), (37, false), (38, false), (39, false), (21, false), (22, false), (23, false), (24, false), (25, false), (26, false), (27, true), (28, false), (40, false), (41, false), (42, false), (43, false), (44, false), (45, false), (46, false), (47, false), (48, false), (49, false), (50, false)]) (g_InvalidSigns : mg "InvalidSigns" = some (.ref (cad K 27))) (ix_RuleClash_all : IxOk K (.ref (cad K 43)) [(30, false), (31, false), (32, false), (33, false), (34, false), (35, false), (36, false), (37, false), (38, false), (39, false), (21, false), (22, false), (23, false), (24, false), (25, false), (26, false), (27, false), (28, false), (40, false), (41, false), (42, false), (43, true), (44, false), (45, false), (46, false), (47, false), (48, false), (49, false), (50, false)]) (g_RuleClash : mg "RuleClash" = some (.ref (cad K 43))) (ix_WrongStone_all : IxOk K (.ref (cad K 42)) [(30, false), (31, false), (32, false), (33, false), (34, false), (35, false), (36, false), (37, false), (38, false), (39, false), (21, false), (22, false), (23, false), (24, false), (25, false), (26, false), (27, false), (28, false), (40, false), (41, false), (42, true), (43, false), (44, false), (45, false), (46, false), (47, false), (48, false), (49, false), (50, false)]) (g_WrongStone : mg "WrongStone" = some (.ref (cad K 42))) (ix_NoPhotograph_all : IxOk K (.ref (cad K 41)) [(30, false), (31, false), (32, false), (33, false), (34, false), (35, false), (36, false), (37, false), (38, false), (39, false), (21, false), (22, false), (23, false), (24, false), (25, false), (26, false), (27, false), (28, false), (40, false), (41, true), (42, false), (43, false), (44, false), (45, false), (46, false), (47, false), (48, false), (49, false), (50, false)]) (g_NoPhotograph : mg "NoPhotograph" = some (.ref (cad K 41))) (ix_TooManyCases_all : IxOk K (.ref (cad K 46)) [(30, false), (31, false), (32, false), (33, false), (34, false), (35, false), (36, false), (37, false), (38, false), (39, false), (21, false), (22, false), (23, false), (24, false), (25, false), (26, false), (27, false), (28, false), (40, false), (41, false), (42, false), (43, false), (44, false), (45, false), (46, true), (47, false), (48, false), (49, false), (50, false)]) (g_TooManyCases : mg "TooManyCases" = some (.ref (cad K 46))) (ix_Impossible_all : IxOk K (.ref (cad K 45)) [(30, false), (31, false), (32, false), (33, false), (34, false), (35, false), (36, false), (37, false), (38, false), (39, false), (21, false), (22, false), (23, false), (24, false), (25, false), (26, false), (27, false), (28, false), (40, false), (41, false), (42, false), (43, false), (44, false), (45, true), (46, false), (47, false), (48, false), (49, false), (50, false)]) (g_Impossible : mg "Impossible" = some (.ref (cad K 45))) (ix_BadDeed_all : IxOk K (.ref (cad K 44)) [(30, false), (31, false), (32, false), (33, false), (34, false), (35, false), (36, false), (37, false), (38, false), (39, false), (21, false), (22, false), (23, false), (24, false), (25, false), (26, false), (27, false), (28, false), (40, false), (41, false), (42, false), (43, false), (44, true), (45, false), (46, false), (47, false), (48, false), (49, false), (50, false)]) (g_BadDeed : mg "BadDeed" = some (.ref (cad K 44))) (ix_NothingToUndo_all : IxOk K (.ref (cad K 49)) [(30, false), (31, false), (32, false), (33, false), (34, false), (35, false), (36, false), (37, false), (38, false), (39, false), (21, false), (22, false), (23, false), (24, false), (25, false), (26, false), (27, false), (28, false), (40, false), (41, false), (42, false), (43, false), (44, false), (45, false), (46, false), (47, false), (48, false), (49, true), (50, false)]) (g_NothingToUndo : mg "NothingToUndo" = some (.ref (cad K 49))) (ix_UnequalSize_all : IxOk K (.ref (cad K 48)) [(30, false), (31, false), (32, false), (33, false), (34, false), (35, false), (36, false), (37, false), (38, false), (39, false), (21, false), (22, false), (23, false), (24, false), (25, false), (26, false), (27, false), (28, false), (40, false), (41, false), (42, false), (43, false), (44, false), (45, false), (46, false), (47, false), (48, true), (49, false), (50, false)]) (g_UnequalSize : mg "UnequalSize" = some (.ref (cad K 48))) (ix_UnknownOption_all : IxOk K (.ref (cad K 47)) [(30, false), (31, false), (32, false), (33, false), (34, false), (35, false), (36, false), (37, false), (38, false), (39, false), (21, false), (22, false), (23, false), (24, false), (25, false), (26, false), (27, false), (28, false), (40, false), (41, false), (42, false), (43, false), (44, false), (45, false), (46, false), (47, true), (48, false), (49, false), (50, false)]) (g_UnknownOption : mg "UnknownOption" = some (.ref (cad K 47))) (ix_StillPossible_all : IxOk K (.ref (cad K 50)) [(30, false), (31, false), (32, false), (33, false), (34, false), (35, false), (36, false), (37, false), (38, false), (39, false), (21, false), (22, false), (23, false), (24, false), (25, false), (26, false), (27, false), (28, false), (40, false), (41, false), (42, false), (43, false), (44, false), (45, false), (46, false), (47, false), (48, false), (49, false), (50, true)]) (g_StillPossible : mg "StillPossible" = some (.ref (cad K 50))) : FnOk P w K mg base (L2N.CX P w) 1 f fd ["_law_e"] (toSp K r_l_other_kinds) :=
  fnT F sc_l_other_kinds len_l_other_kinds rd_l_other_kinds fun cdv A outer s H E hr => (dss_cons (ds_set (i := 1) sc_l_other_kinds.nd (de_lst (da_cons (de_isX (u := .ref (cad K 21)) (cv := .ref (cad K 21)) (by rfl) n_isinstance (fun _ r => r) (pe_glob (by rfl) g_InvalidPicture rfl) ix_InvalidPicture_all (dv 0)) (da_cons (de_isX (u := .ref (cad K 22)) (cv := .ref (cad K 22)) (by rfl) n_isinstance (fun _ r => r) (pe_glob (by rfl) g_InvalidRule rfl) ix_InvalidRule_all (dv 0)) (da_cons (de_isX (u := .ref (cad K 23)) (cv := .ref (cad K 23)) (by rfl) n_isinstance (fun _ r => r) (pe_glob (by rfl) g_InvalidBook rfl) ix_InvalidBook_all (dv 0)) da_nil))))) (dss_cons (ds_set (i := 1) sc_l_other_kinds.nd (de_op o_add (dv 1) (de_lst (da_cons (de_isX (u := .ref (cad K 24)) (cv := .ref (cad K 24)) (by rfl) n_isinstance (fun _ r => r) (pe_glob (by rfl) g_InvalidSketch rfl) ix_InvalidSketch_all (dv 0)) (da_cons (de_isX (u := .ref (cad K 25)) (cv := .ref (cad K 25)) (by rfl) n_isinstance (fun _ r => r) (pe_glob (by rfl) g_InvalidHistory rfl) ix_InvalidHistory_all (dv 0)) (da_cons (de_isX (u := .ref (cad K 26)) (cv := .ref (cad K 26)) (by rfl) n_isinstance (fun _ r => r) (pe_glob (by rfl) g_InvalidSign rfl) ix_InvalidSign_all (dv 0)) da_nil)))))) (dss_cons (ds_set (i := 1) sc_l_other_kinds.nd (de_op o_add (dv 1) (de_lst (da_cons (de_isX (u := .ref (cad K 27)) (cv := .ref (cad K 27)) (by rfl) n_isinstance (fun _ r => r) (pe_glob (by rfl) g_InvalidSigns rfl) ix_InvalidSigns_all (dv 0)) (da_cons (de_isX (u := .ref (cad K 28)) (cv := .ref (cad K 28)) (by rfl) n_isinstance (fun _ r => r) (pe_glob (by rfl) g_InvalidLimit rfl) ix_InvalidLimit_all (dv 0)) (da_cons (de_isX (u := .ref (cad K 40)) (cv := .ref (cad K 40)) (by rfl) n_isinstance (fun _ r => r) (pe_glob (by rfl) g_NoRule rfl) ix_NoRule_all (dv 0)) da_nil)))))) (dss_cons (ds_set (i := 1) sc_l_other_kinds.nd (de_op o_add (dv 1) (de_lst (da_cons (de_isX (u := .ref (cad K 41)) (cv := .ref (cad K 41)) (by rfl) n_isinstance (fun _ r => r) (pe_glob (by rfl) g_NoPhotograph rfl) ix_NoPhotograph_all (dv 0)) (da_cons (de_isX (u := .ref (cad K 42)) (cv := .ref (cad K 42)) (by rfl) n_isinstance (fun _ r => r) (pe_glob (by rfl) g_WrongStone rfl) ix_WrongStone_all (dv 0)) (da_cons (de_isX (u := .ref (cad K 43)) (cv := .ref (cad K 43)) (by rfl) n_isinstance (fun _ r => r) (pe_glob (by rfl) g_RuleClash rfl) ix_RuleClash_all (dv 0)) da_nil)))))) (dss_cons (ds_set (i := 1) sc_l_other_kinds.nd (de_op o_add (dv 1) (de_lst (da_cons (de_isX (u := .ref (cad K 44)) (cv := .ref (cad K 44)) (by rfl) n_isinstance (fun _ r => r) (pe_glob (by rfl) g_BadDeed rfl) ix_BadDeed_all (dv 0)) (da_cons (de_isX (u := .ref (cad K 45)) (cv := .ref (cad K 45)) (by rfl) n_isinstance (fun _ r => r) (pe_glob (by rfl) g_Impossible rfl) ix_Impossible_all (dv 0)) (da_cons (de_isX (u := .ref (cad K 46)) (cv := .ref (cad K 46)) (by rfl) n_isinstance (fun _ r => r) (pe_glob (by rfl) g_TooManyCases rfl) ix_TooManyCases_all (dv 0)) da_nil)))))) (dss_cons (ds_set (i := 1) sc_l_other_kinds.nd (de_op o_add (dv 1) (de_lst (da_cons (de_isX (u := .ref (cad K 47)) (cv := .ref (cad K 47)) (by rfl) n_isinstance (fun _ r => r) (pe_glob (by rfl) g_UnknownOption rfl) ix_UnknownOption_all (dv 0)) (da_cons (de_isX (u := .ref (cad K 48)) (cv := .ref (cad K 48)) (by rfl) n_isinstance (fun _ r => r) (pe_glob (by rfl) g_UnequalSize rfl) ix_UnequalSize_all (dv 0)) (da_cons (de_isX (u := .ref (cad K 49)) (cv := .ref (cad K 49)) (by rfl) n_isinstance (fun _ r => r) (pe_glob (by rfl) g_NothingToUndo rfl) ix_NothingToUndo_all (dv 0)) da_nil)))))) (dss_one (ds_ret (de_op o_add (dv 1) (de_lst (da_cons (de_isX (u := .ref (cad K 50)) (cv := .ref (cad K 50)) (by rfl) n_isinstance (fun _ r => r) (pe_glob (by rfl) g_StillPossible rfl) ix_StillPossible_all (dv 0)) da_nil)))))))))))
theorem sc_l_is_kind : FnScope N_l_is_kind ["_law_e", "_law_at"] (defScope s_l_is_kind) := ⟨rfl, rfl, rfl, by decide +kernel, rfl, by decide +kernel, by decide +kernel⟩
theorem ok_l_is_kind (F : FunD K "_law_is_kind" "_law_is_kind" (defArgs s_l_is_kind) (defBody s_l_is_kind) (defScope s_l_is_kind) [] [] f fd) (n_len : mg "len" = none) (n_range : mg "range" = none) (ix_SmaltiError_all : IxOk K (.ref (cad K 20)) [(30, true), (31, true), (32, true), (33, true), (34, true), (35, true), (36, true), (37, true), (38, true), (39, true), (21, true), (22, true), (23, true), (24, true), (25, true), (26, true), (27, true), (28, true), (40, true), (41, true), (42, true), (43, true), (44, true), (45, true), (46, true), (47, true), (48, true), (49, true), (50, true)]) (g_SmaltiError : mg "SmaltiError" = some (.ref (cad K 20))) (n_isinstance : mg "isinstance" = none) (ix_ValueError_all : IxOk K (.type "ValueError") [(30, true), (31, true), (32, true), (33, true), (34, true), (35, true), (36, true), (37, true), (38, true), (39, true), (21, true), (22, true), (23, true), (24, true), (25, true), (26, true), (27, true), (28, true), (40, true), (41, true), (42, true), (43, true), (44, true), (45, true), (46, true), (47, true), (48, true), (49, true), (50, true)]) (n_ValueError : mg "ValueError" = none) (g__law_cell_kinds : Gf P w K mg base 1 "_law_cell_kinds" ["_law_e"] r_l_cell_kinds) (g__law_other_kinds : Gf P w K mg base 1 "_law_other_kinds" ["_law_e"] r_l_other_kinds) : FnOk P w K mg base (L2N.CX P w) 2 f fd ["_law_e", "_law_at"] (toSp K r_l_is_kind) :=
  fnT F sc_l_is_kind len_l_is_kind rd_l_is_kind fun cdv A outer s H E hr => (dss_cons (ds_set (i := 2) sc_l_is_kind.nd (de_op o_add (de_g g__law_cell_kinds hr (by rfl) (da_cons (dv 0) da_nil)) (de_g g__law_other_kinds hr (by rfl) (da_cons (dv 0) da_nil)))) (dss_cons (ds_for rfl (di_rng1 (by rfl) n_range (da_cons (de_callB c_len (by rfl) n_len PySem.boot_len (da_cons (dv 2) da_nil)) da_nil)) (dp_nm (i := 3) sc_l_is_kind.nd) (dss_one (ds_if (dt_cmp (o_ne (k := 1) hr) (de_ix (k := 1) hr (dv 2) (dv 3)) (de_cmp (o_eq (k := 1) hr) (dv 3) (dv 1))) (dss_one (ds_ret de_bl)) dss_nil))) (dss_one (ds_ret (de_and (de_isX (u := .ref (cad K 20)) (cv := .ref (cad K 20)) (by rfl) n_isinstance (fun _ r => r) (pe_glob (by rfl) g_SmaltiError rfl) ix_SmaltiError_all (dv 0)) (de_one (de_isX (u := .type "ValueError") (cv := .ty "ValueError") (by rfl) n_isinstance (fun _ r => r) (pe_bltn (by rfl) n_ValueError (by decide +kernel) rfl) ix_ValueError_all (dv 0))))))))
theorem sc_l_other_errors : FnScope N_l_other_errors ["_law_one", "_law_row"] (defScope s_l_other_errors) := ⟨rfl, rfl, rfl, by decide +kernel, rfl, by decide +kernel, by decide +kernel⟩
theorem ok_l_other_errors (F : FunD K "_law_other_errors" "_law_other_errors" (defArgs s_l_other_errors) (defBody s_l_other_errors) (defScope s_l_other_errors) [] [] f fd) (x_InvalidHistory : Gx P w K mg base 25 "InvalidHistory") (x_InvalidSketch : Gx P w K mg base 24 "InvalidSketch") (x_InvalidBook : Gx P w K mg base 23 "InvalidBook") (x_InvalidRule : Gx P w K mg base 22 "InvalidRule") (x_InvalidPicture : Gx P w K mg base 21 "InvalidPicture") (x_NoPhotograph : Gx P w K mg base 41 "NoPhotograph") (x_NoRule : Gx P w K mg base 40 "NoRule") (x_InvalidLimit : Gx P w K mg base 28 "InvalidLimit") (x_InvalidSigns : Gx P w K mg base 27 "InvalidSigns") (x_InvalidSign : Gx P w K mg base 26 "InvalidSign") (x_TooManyCases : Gx P w K mg base 46 "TooManyCases") (x_Impossible : Gx P w K mg base 45 "Impossible") (x_BadDeed : Gx P w K mg base 44 "BadDeed") (x_RuleClash : Gx P w K mg base 43 "RuleClash") (x_WrongStone : Gx P w K mg base 42 "WrongStone") (x0_StillPossible : Gx0 K mg 50 "StillPossible") (x0_NothingToUndo : Gx0 K mg 49 "NothingToUndo") (x0_UnequalSize : Gx0 K mg 48 "UnequalSize") (x_UnknownOption : Gx P w K mg base 47 "UnknownOption") : FnOk P w K mg base (L2N.CX P w) 3 f fd ["_law_one", "_law_row"] (toSp K r_l_other_errors) :=
  fnT F sc_l_other_errors len_l_other_errors rd_l_other_errors fun cdv A outer s H E hr => (dss_cons (ds_set (i := 2) sc_l_other_errors.nd (de_lst (da_cons (de_mkE x_InvalidPicture hr (by rfl) (da_cons (dv 0) da_nil)) (da_cons (de_mkE x_InvalidRule hr (by rfl) (da_cons (dv 0) da_nil)) (da_cons (de_mkE x_InvalidBook hr (by rfl) (da_cons (dv 0) da_nil)) (da_cons (de_mkE x_InvalidSketch hr (by rfl) (da_cons (dv 0) da_nil)) (da_cons (de_mkE x_InvalidHistory hr (by rfl) (da_cons (dv 0) da_nil)) da_nil))))))) (dss_cons (ds_set (i := 2) sc_l_other_errors.nd (de_op o_add (dv 2) (de_lst (da_cons (de_mkE x_InvalidSign hr (by rfl) (da_cons de_str da_nil)) (da_cons (de_mkE x_InvalidSigns hr (by rfl) (da_cons de_str da_nil)) (da_cons (de_mkE x_InvalidLimit hr (by rfl) (da_cons (dv 0) da_nil)) (da_cons (de_mkE x_NoRule hr (by rfl) (da_cons (dv 0) da_nil)) (da_cons (de_mkE x_NoPhotograph hr (by rfl) (da_cons (dv 0) da_nil)) da_nil)))))))) (dss_cons (ds_set (i := 2) sc_l_other_errors.nd (de_op o_add (dv 2) (de_lst (da_cons (de_mkE x_WrongStone hr (by rfl) (da_cons de_str da_nil)) (da_cons (de_mkE x_RuleClash hr (by rfl) (da_cons (dv 1) da_nil)) (da_cons (de_mkE x_BadDeed hr (by rfl) (da_cons (dv 0) da_nil)) (da_cons (de_mkE x_Impossible hr (by rfl) (da_cons (dv 1) da_nil)) (da_cons (de_mkE x_TooManyCases hr (by rfl) (da_cons (dv 0) da_nil)) da_nil)))))))) (dss_one (ds_ret (de_op o_add (dv 2) (de_lst (da_cons (de_mkE x_UnknownOption hr (by rfl) (da_cons de_str da_nil)) (da_cons (de_mkE0 x0_UnequalSize (by rfl)) (da_cons (de_mkE0 x0_NothingToUndo (by rfl)) (da_cons (de_mkE0 x0_StillPossible (by rfl)) da_nil)))))))))))
theorem sc_l_fields : FnScope N_l_fields ["_law_errors"] (defScope s_l_fields) := ⟨rfl, rfl, rfl, by decide +kernel, rfl, by decide +kernel, by decide +kernel⟩
theorem ok_l_fields (F : FunD K "_law_fields" "_law_fields" (defArgs s_l_fields) (defBody s_l_fields) (defScope s_l_fields) [] [] f fd) (xa_sign_26 : XaOk K "sign" [26]) (xa_line_25 : XaOk K "line" [25]) (xa_line_24 : XaOk K "line" [24]) (xa_line_23 : XaOk K "line" [23]) (xa_part_22 : XaOk K "part" [22]) (xa_line_21 : XaOk K "line" [21]) (xa_stone_42 : XaOk K "stone" [42]) (xa_number_41 : XaOk K "number" [41]) (xa_number_40 : XaOk K "number" [40]) (xa_value_28 : XaOk K "value" [28]) (xa_signs_27 : XaOk K "signs" [27]) (xa_cases_46 : XaOk K "cases" [46]) (xa_lacking_45 : XaOk K "lacking" [45]) (xa_index_44 : XaOk K "index" [44]) (xa_places_43 : XaOk K "places" [43]) (xa_name_47 : XaOk K "name" [47]) : FnOk P w K mg base (L2N.CX P w) 1 f fd ["_law_errors"] (toSp K r_l_fields) :=
  fnT F sc_l_fields len_l_fields rd_l_fields fun cdv A outer s H E hr => (dss_cons (ds_set (i := 1) sc_l_fields.nd (de_lst (da_cons (de_xat xa_line_21 (de_ix (k := 0) hr (dv 0) de_int)) (da_cons (de_xat xa_part_22 (de_ix (k := 0) hr (dv 0) de_int)) (da_cons (de_xat xa_line_23 (de_ix (k := 0) hr (dv 0) de_int)) (da_cons (de_xat xa_line_24 (de_ix (k := 0) hr (dv 0) de_int)) (da_cons (de_xat xa_line_25 (de_ix (k := 0) hr (dv 0) de_int)) (da_cons (de_xat xa_sign_26 (de_ix (k := 0) hr (dv 0) de_int)) da_nil)))))))) (dss_cons (ds_set (i := 1) sc_l_fields.nd (de_op o_add (dv 1) (de_lst (da_cons (de_xat xa_signs_27 (de_ix (k := 0) hr (dv 0) de_int)) (da_cons (de_xat xa_value_28 (de_ix (k := 0) hr (dv 0) de_int)) (da_cons (de_xat xa_number_40 (de_ix (k := 0) hr (dv 0) de_int)) (da_cons (de_xat xa_number_41 (de_ix (k := 0) hr (dv 0) de_int)) (da_cons (de_xat xa_stone_42 (de_ix (k := 0) hr (dv 0) de_int)) da_nil)))))))) (dss_cons (ds_set (i := 1) sc_l_fields.nd (de_op o_add (dv 1) (de_lst (da_cons (de_xat xa_places_43 (de_ix (k := 0) hr (dv 0) de_int)) (da_cons (de_xat xa_index_44 (de_ix (k := 0) hr (dv 0) de_int)) (da_cons (de_xat xa_lacking_45 (de_ix (k := 0) hr (dv 0) de_int)) (da_cons (de_xat xa_cases_46 (de_ix (k := 0) hr (dv 0) de_int)) da_nil))))))) (dss_one (ds_ret (de_op o_add (dv 1) (de_lst (da_cons (de_xat xa_name_47 (de_ix (k := 0) hr (dv 0) de_int)) da_nil))))))))
theorem sc_law_k24 : FnScope N_law_k24 ["_law_script"] (defScope s_law_k24) := ⟨rfl, rfl, rfl, by decide +kernel, rfl, by decide +kernel, by decide +kernel⟩
theorem ok_law_k24 (F : FunD K "law" "law" (defArgs s_law_k24) (defBody s_law_k24) (defScope s_law_k24) [] [] f fd) (n_range : mg "range" = none) (xa_x_30_31_32_33_34_35_36_37_38_39 : XaOk K "x" [30, 31, 32, 33, 34, 35, 36, 37, 38, 39]) (xa_y_30_31_32_33_34_35_36_37_38_39 : XaOk K "y" [30, 31, 32, 33, 34, 35, 36, 37, 38, 39]) (n_list : mg "list" = none) (g__law_bag : Gz P w K mg base 1 "_law_bag" ["_law_script"] 63 r_l_bag) (g__law_take : Gf P w K mg base 1 "_law_take" ["_law_bag_here", "_law_size"] r_l_take) (g__law_spots : Gf P w K mg base 3 "_law_spots" ["_law_bag_here", "_law_most"] r_l_spots) (g__law_cell_errors : Gf P w K mg base 3 "_law_cell_errors" ["_law_one", "_law_two"] r_l_cell_errors) (g__law_is_kind : Gf P w K mg base 2 "_law_is_kind" ["_law_e", "_law_at"] r_l_is_kind) (g__law_other_errors : Gf P w K mg base 3 "_law_other_errors" ["_law_one", "_law_row"] r_l_other_errors) (g__law_fields : Gf P w K mg base 1 "_law_fields" ["_law_errors"] r_l_fields) : FnOk P w K mg base (L2N.CX P w) 4 f fd ["_law_script"] (spScr K 63 rLaw) :=
  fnScr F sc_law_k24 rLaw (fun a ns ds S Q E h => len_law a ns ds S Q E h) (by decide) fun cdv A outer s H E a ns hr hz hn => ⟨t_law_k24 a ns, (dss_cons (ds_set (i := 1) sc_law_k24.nd (de_gScr g__law_bag hz (Nat.le_trans hn (by decide)) hr (by rfl) (da_cons (dv 0) da_nil))) (dss_cons (ds_set (i := 2) sc_law_k24.nd (de_op o_add (de_g g__law_take hr (by rfl) (da_cons (dv 1) (da_cons (de_op o_pow de_int de_int) da_nil))) de_int)) (dss_cons (ds_set (i := 3) sc_law_k24.nd (de_op o_sub de_int (de_g g__law_take hr (by rfl) (da_cons (dv 1) (da_cons (de_op o_pow de_int de_int) da_nil))))) (dss_cons (ds_if (dt_cmp (o_eq (k := 3) hr) (de_g g__law_take hr (by rfl) (da_cons (dv 1) (da_cons de_int da_nil))) de_int) (dss_one (ds_set (i := 2) sc_law_k24.nd (de_op o_sub de_int (dv 2)))) dss_nil) (dss_cons (ds_set (i := 4) sc_law_k24.nd (de_g g__law_spots hr (by rfl) (da_cons (dv 1) (da_cons de_int da_nil)))) (dss_cons (ds_set (i := 5) sc_law_k24.nd (de_g g__law_cell_errors hr (by rfl) (da_cons (dv 2) (da_cons (dv 3) da_nil)))) (dss_cons (ds_for rfl (di_rng1 (by rfl) n_range (da_cons de_int da_nil)) (dp_nm (i := 6) sc_law_k24.nd) (dss_one (ds_if (PDW.pt (dw_or (dt_not (dt_val (de_g g__law_is_kind hr (by rfl) (da_cons (de_ix (k := 3) hr (dv 5) (dv 6)) (da_cons (dv 6) da_nil))))) (dw_or (dt_cmp (o_ne (k := 3) hr) (de_xat xa_x_30_31_32_33_34_35_36_37_38_39 (de_ix (k := 3) hr (dv 5) (dv 6))) (dv 2)) (dw_or1 (dt_cmp (o_ne (k := 3) hr) (de_xat xa_y_30_31_32_33_34_35_36_37_38_39 (de_ix (k := 3) hr (dv 5) (dv 6))) (dv 3)))))) (dss_one (ds_ret de_bl)) dss_nil))) (dss_cons (ds_set (i := 7) sc_law_k24.nd (de_g g__law_other_errors hr (by rfl) (da_cons (dv 2) (da_cons (de_callTy c_list (by rfl) n_list (by decide +kernel) (da_cons (dv 4) da_nil)) da_nil)))) (dss_cons (ds_for rfl (di_rng1 (by rfl) n_range (da_cons de_int da_nil)) (dp_nm (i := 6) sc_law_k24.nd) (dss_one (ds_if (dt_not (dt_val (de_g g__law_is_kind hr (by rfl) (da_cons (de_ix (k := 3) hr (dv 7) (dv 6)) (da_cons (de_op o_add de_int (dv 6)) da_nil))))) (dss_one (ds_ret de_bl)) dss_nil))) (dss_cons (ds_set (i := 8) sc_law_k24.nd (de_lst (da_cons (dv 2) (da_cons (dv 2) (da_cons (dv 2) (da_cons (dv 2) (da_cons (dv 2) (da_cons de_str (da_cons de_str (da_cons (dv 2) (da_cons (dv 2) (da_cons (dv 2) (da_cons de_str (da_cons (dv 4) (da_cons (dv 2) (da_cons (dv 4) (da_cons (dv 2) (da_cons de_str da_nil)))))))))))))))))) (dss_one (ds_ret (de_cmp (o_eq (k := 3) hr) (de_g g__law_fields hr (by rfl) (da_cons (dv 7) da_nil)) (dv 8)))))))))))))), rd_law_k24 a ns hn⟩
theorem facts {P : Program} {w : World} {K : PySem.W.Frag} {h : Heap} {mg : Str → Option Value} {f : Addr} (X : K.In h) (G : h.Ns mainGlobals mg) (hfa : mg ("law" : Str) = some (.ref f)) (c : Says2 ch fn fs K) :
    ∃ fd : FuncData, (∀ (s : Shared) (v : Value), BindsTo s fd ⟨[v], []⟩ [("_law_script", v)]) ∧ ∀ base : Heap, K.In base → base.Ns mainGlobals mg → FnOk P w K mg base (L2N.CX P w) 4 f fd ["_law_script"] (spScr K 63 rLaw) := by
  obtain ⟨fd_l_bag, F_l_bag⟩ := c.df 0 (d := d_l_bag) rfl
  obtain ⟨fd_l_take, F_l_take⟩ := c.df 1 (d := d_l_take) rfl
  obtain ⟨fd_l_spot, F_l_spot⟩ := c.df 2 (d := d_l_spot) rfl
  obtain ⟨fd_l_spots, F_l_spots⟩ := c.df 3 (d := d_l_spots) rfl
  obtain ⟨fd_l_cell_errors, F_l_cell_errors⟩ := c.df 4 (d := d_l_cell_errors) rfl
  obtain ⟨fd_l_cell_kinds, F_l_cell_kinds⟩ := c.df 5 (d := d_l_cell_kinds) rfl
  obtain ⟨fd_l_other_kinds, F_l_other_kinds⟩ := c.df 6 (d := d_l_other_kinds) rfl
  obtain ⟨fd_l_is_kind, F_l_is_kind⟩ := c.df 7 (d := d_l_is_kind) rfl
  obtain ⟨fd_l_other_errors, F_l_other_errors⟩ := c.df 8 (d := d_l_other_errors) rfl
  obtain ⟨fd_l_fields, F_l_fields⟩ := c.df 9 (d := d_l_fields) rfl
  obtain ⟨fd_law_k24, F_law_k24⟩ := c.df 10 (d := d_law_k24) rfl
  obtain ⟨fd_xEmptyCell, F_xEmptyCell⟩ := c.df 11 (d := d_xEmptyCell) rfl
  obtain ⟨fd_xNoHole, F_xNoHole⟩ := c.df 12 (d := d_xNoHole) rfl
  obtain ⟨fd_xNoStone, F_xNoStone⟩ := c.df 13 (d := d_xNoStone) rfl
  obtain ⟨fd_xNotNew, F_xNotNew⟩ := c.df 14 (d := d_xNotNew) rfl
  obtain ⟨fd_xNotOld, F_xNotOld⟩ := c.df 15 (d := d_xNotOld) rfl
  obtain ⟨fd_xOpposed, F_xOpposed⟩ := c.df 16 (d := d_xOpposed) rfl
  obtain ⟨fd_xOutOfPicture, F_xOutOfPicture⟩ := c.df 17 (d := d_xOutOfPicture) rfl
  obtain ⟨fd_xSurelyAfter, F_xSurelyAfter⟩ := c.df 18 (d := d_xSurelyAfter) rfl
  obtain ⟨fd_xSurelyNew, F_xSurelyNew⟩ := c.df 19 (d := d_xSurelyNew) rfl
  obtain ⟨fd_xSurelyOld, F_xSurelyOld⟩ := c.df 20 (d := d_xSurelyOld) rfl
  obtain ⟨fd_xBadDeed, F_xBadDeed⟩ := c.df 21 (d := d_xBadDeed) rfl
  obtain ⟨fd_xImpossible, F_xImpossible⟩ := c.df 22 (d := d_xImpossible) rfl
  obtain ⟨fd_xInvalidBook, F_xInvalidBook⟩ := c.df 23 (d := d_xInvalidBook) rfl
  obtain ⟨fd_xInvalidHistory, F_xInvalidHistory⟩ := c.df 24 (d := d_xInvalidHistory) rfl
  obtain ⟨fd_xInvalidLimit, F_xInvalidLimit⟩ := c.df 25 (d := d_xInvalidLimit) rfl
  obtain ⟨fd_xInvalidPicture, F_xInvalidPicture⟩ := c.df 26 (d := d_xInvalidPicture) rfl
  obtain ⟨fd_xInvalidRule, F_xInvalidRule⟩ := c.df 27 (d := d_xInvalidRule) rfl
  obtain ⟨fd_xInvalidSign, F_xInvalidSign⟩ := c.df 28 (d := d_xInvalidSign) rfl
  obtain ⟨fd_xInvalidSigns, F_xInvalidSigns⟩ := c.df 29 (d := d_xInvalidSigns) rfl
  obtain ⟨fd_xInvalidSketch, F_xInvalidSketch⟩ := c.df 30 (d := d_xInvalidSketch) rfl
  obtain ⟨fd_xNoPhotograph, F_xNoPhotograph⟩ := c.df 31 (d := d_xNoPhotograph) rfl
  obtain ⟨fd_xNoRule, F_xNoRule⟩ := c.df 32 (d := d_xNoRule) rfl
  obtain ⟨fd_xRuleClash, F_xRuleClash⟩ := c.df 33 (d := d_xRuleClash) rfl
  obtain ⟨fd_xTooManyCases, F_xTooManyCases⟩ := c.df 34 (d := d_xTooManyCases) rfl
  obtain ⟨fd_xUnknownOption, F_xUnknownOption⟩ := c.df 35 (d := d_xUnknownOption) rfl
  obtain ⟨fd_xWrongStone, F_xWrongStone⟩ := c.df 36 (d := d_xWrongStone) rfl
  have e := hfa.symm.trans (He.glo_ok X G (c.fact 150 (p := fun K => (He.Fa.glo "law").ok K) rfl))
  cases e
  have b := FunD.bindsA (ps := ["_law_script"]) F_law_k24 fun _ _ _ _ _ _ us hl => match us, hl with | [_], _ => rfl
  refine ⟨fd_law_k24, fun s v => b s [v] rfl, fun base _ _ => ?_⟩
  have x_EmptyCell : Gx P w K mg base 33 "EmptyCell" := gx2 F_xEmptyCell sc_xEmptyCell rfl (FunD.bindsN (ps := ["self", "x", "y"]) F_xEmptyCell fun _ _ _ _ _ _ us hl => match us, hl with | [_, _, _], _ => rfl) (c.fact 0 (p := fun K => oexB K 33) rfl) (c.fact 1 (p := fun K => oinB K 33) rfl) (He.glo_ok X G (c.fact 2 (p := fun K => (He.Fa.glo "EmptyCell").ok K) rfl))
  have x_NoHole : Gx P w K mg base 32 "NoHole" := gx2 F_xNoHole sc_xNoHole rfl (FunD.bindsN (ps := ["self", "x", "y"]) F_xNoHole fun _ _ _ _ _ _ us hl => match us, hl with | [_, _, _], _ => rfl) (c.fact 3 (p := fun K => oexB K 32) rfl) (c.fact 4 (p := fun K => oinB K 32) rfl) (He.glo_ok X G (c.fact 5 (p := fun K => (He.Fa.glo "NoHole").ok K) rfl))
  have x_NoStone : Gx P w K mg base 31 "NoStone" := gx2 F_xNoStone sc_xNoStone rfl (FunD.bindsN (ps := ["self", "x", "y"]) F_xNoStone fun _ _ _ _ _ _ us hl => match us, hl with | [_, _, _], _ => rfl) (c.fact 6 (p := fun K => oexB K 31) rfl) (c.fact 7 (p := fun K => oinB K 31) rfl) (He.glo_ok X G (c.fact 8 (p := fun K => (He.Fa.glo "NoStone").ok K) rfl))
  have x_NotNew : Gx P w K mg base 36 "NotNew" := gx2 F_xNotNew sc_xNotNew rfl (FunD.bindsN (ps := ["self", "x", "y"]) F_xNotNew fun _ _ _ _ _ _ us hl => match us, hl with | [_, _, _], _ => rfl) (c.fact 9 (p := fun K => oexB K 36) rfl) (c.fact 10 (p := fun K => oinB K 36) rfl) (He.glo_ok X G (c.fact 11 (p := fun K => (He.Fa.glo "NotNew").ok K) rfl))
  have x_NotOld : Gx P w K mg base 35 "NotOld" := gx2 F_xNotOld sc_xNotOld rfl (FunD.bindsN (ps := ["self", "x", "y"]) F_xNotOld fun _ _ _ _ _ _ us hl => match us, hl with | [_, _, _], _ => rfl) (c.fact 12 (p := fun K => oexB K 35) rfl) (c.fact 13 (p := fun K => oinB K 35) rfl) (He.glo_ok X G (c.fact 14 (p := fun K => (He.Fa.glo "NotOld").ok K) rfl))
  have x_Opposed : Gx P w K mg base 34 "Opposed" := gx2 F_xOpposed sc_xOpposed rfl (FunD.bindsN (ps := ["self", "x", "y"]) F_xOpposed fun _ _ _ _ _ _ us hl => match us, hl with | [_, _, _], _ => rfl) (c.fact 15 (p := fun K => oexB K 34) rfl) (c.fact 16 (p := fun K => oinB K 34) rfl) (He.glo_ok X G (c.fact 17 (p := fun K => (He.Fa.glo "Opposed").ok K) rfl))
  have x_OutOfPicture : Gx P w K mg base 30 "OutOfPicture" := gx2 F_xOutOfPicture sc_xOutOfPicture rfl (FunD.bindsN (ps := ["self", "x", "y"]) F_xOutOfPicture fun _ _ _ _ _ _ us hl => match us, hl with | [_, _, _], _ => rfl) (c.fact 18 (p := fun K => oexB K 30) rfl) (c.fact 19 (p := fun K => oinB K 30) rfl) (He.glo_ok X G (c.fact 20 (p := fun K => (He.Fa.glo "OutOfPicture").ok K) rfl))
  have x_SurelyAfter : Gx P w K mg base 39 "SurelyAfter" := gx2 F_xSurelyAfter sc_xSurelyAfter rfl (FunD.bindsN (ps := ["self", "x", "y"]) F_xSurelyAfter fun _ _ _ _ _ _ us hl => match us, hl with | [_, _, _], _ => rfl) (c.fact 21 (p := fun K => oexB K 39) rfl) (c.fact 22 (p := fun K => oinB K 39) rfl) (He.glo_ok X G (c.fact 23 (p := fun K => (He.Fa.glo "SurelyAfter").ok K) rfl))
  have x_SurelyNew : Gx P w K mg base 38 "SurelyNew" := gx2 F_xSurelyNew sc_xSurelyNew rfl (FunD.bindsN (ps := ["self", "x", "y"]) F_xSurelyNew fun _ _ _ _ _ _ us hl => match us, hl with | [_, _, _], _ => rfl) (c.fact 24 (p := fun K => oexB K 38) rfl) (c.fact 25 (p := fun K => oinB K 38) rfl) (He.glo_ok X G (c.fact 26 (p := fun K => (He.Fa.glo "SurelyNew").ok K) rfl))
  have x_SurelyOld : Gx P w K mg base 37 "SurelyOld" := gx2 F_xSurelyOld sc_xSurelyOld rfl (FunD.bindsN (ps := ["self", "x", "y"]) F_xSurelyOld fun _ _ _ _ _ _ us hl => match us, hl with | [_, _, _], _ => rfl) (c.fact 27 (p := fun K => oexB K 37) rfl) (c.fact 28 (p := fun K => oinB K 37) rfl) (He.glo_ok X G (c.fact 29 (p := fun K => (He.Fa.glo "SurelyOld").ok K) rfl))
  have x_BadDeed : Gx P w K mg base 44 "BadDeed" := gx1 F_xBadDeed sc_xBadDeed rfl (FunD.bindsN (ps := ["self", "index"]) F_xBadDeed fun _ _ _ _ _ _ us hl => match us, hl with | [_, _], _ => rfl) (c.fact 30 (p := fun K => oexB K 44) rfl) (c.fact 31 (p := fun K => oinB K 44) rfl) (He.glo_ok X G (c.fact 32 (p := fun K => (He.Fa.glo "BadDeed").ok K) rfl))
  have x_Impossible : Gx P w K mg base 45 "Impossible" := gx1 F_xImpossible sc_xImpossible rfl (FunD.bindsN (ps := ["self", "lacking"]) F_xImpossible fun _ _ _ _ _ _ us hl => match us, hl with | [_, _], _ => rfl) (c.fact 33 (p := fun K => oexB K 45) rfl) (c.fact 34 (p := fun K => oinB K 45) rfl) (He.glo_ok X G (c.fact 35 (p := fun K => (He.Fa.glo "Impossible").ok K) rfl))
  have x_InvalidBook : Gx P w K mg base 23 "InvalidBook" := gx1 F_xInvalidBook sc_xInvalidBook rfl (FunD.bindsN (ps := ["self", "line"]) F_xInvalidBook fun _ _ _ _ _ _ us hl => match us, hl with | [_, _], _ => rfl) (c.fact 36 (p := fun K => oexB K 23) rfl) (c.fact 37 (p := fun K => oinB K 23) rfl) (He.glo_ok X G (c.fact 38 (p := fun K => (He.Fa.glo "InvalidBook").ok K) rfl))
  have x_InvalidHistory : Gx P w K mg base 25 "InvalidHistory" := gx1 F_xInvalidHistory sc_xInvalidHistory rfl (FunD.bindsN (ps := ["self", "line"]) F_xInvalidHistory fun _ _ _ _ _ _ us hl => match us, hl with | [_, _], _ => rfl) (c.fact 39 (p := fun K => oexB K 25) rfl) (c.fact 40 (p := fun K => oinB K 25) rfl) (He.glo_ok X G (c.fact 41 (p := fun K => (He.Fa.glo "InvalidHistory").ok K) rfl))
  have x_InvalidLimit : Gx P w K mg base 28 "InvalidLimit" := gx1 F_xInvalidLimit sc_xInvalidLimit rfl (FunD.bindsN (ps := ["self", "value"]) F_xInvalidLimit fun _ _ _ _ _ _ us hl => match us, hl with | [_, _], _ => rfl) (c.fact 42 (p := fun K => oexB K 28) rfl) (c.fact 43 (p := fun K => oinB K 28) rfl) (He.glo_ok X G (c.fact 44 (p := fun K => (He.Fa.glo "InvalidLimit").ok K) rfl))
  have x_InvalidPicture : Gx P w K mg base 21 "InvalidPicture" := gx1 F_xInvalidPicture sc_xInvalidPicture rfl (FunD.bindsN (ps := ["self", "line"]) F_xInvalidPicture fun _ _ _ _ _ _ us hl => match us, hl with | [_, _], _ => rfl) (c.fact 45 (p := fun K => oexB K 21) rfl) (c.fact 46 (p := fun K => oinB K 21) rfl) (He.glo_ok X G (c.fact 47 (p := fun K => (He.Fa.glo "InvalidPicture").ok K) rfl))
  have x_InvalidRule : Gx P w K mg base 22 "InvalidRule" := gx1 F_xInvalidRule sc_xInvalidRule rfl (FunD.bindsN (ps := ["self", "part"]) F_xInvalidRule fun _ _ _ _ _ _ us hl => match us, hl with | [_, _], _ => rfl) (c.fact 48 (p := fun K => oexB K 22) rfl) (c.fact 49 (p := fun K => oinB K 22) rfl) (He.glo_ok X G (c.fact 50 (p := fun K => (He.Fa.glo "InvalidRule").ok K) rfl))
  have x_InvalidSign : Gx P w K mg base 26 "InvalidSign" := gx1 F_xInvalidSign sc_xInvalidSign rfl (FunD.bindsN (ps := ["self", "sign"]) F_xInvalidSign fun _ _ _ _ _ _ us hl => match us, hl with | [_, _], _ => rfl) (c.fact 51 (p := fun K => oexB K 26) rfl) (c.fact 52 (p := fun K => oinB K 26) rfl) (He.glo_ok X G (c.fact 53 (p := fun K => (He.Fa.glo "InvalidSign").ok K) rfl))
  have x_InvalidSigns : Gx P w K mg base 27 "InvalidSigns" := gx1 F_xInvalidSigns sc_xInvalidSigns rfl (FunD.bindsN (ps := ["self", "signs"]) F_xInvalidSigns fun _ _ _ _ _ _ us hl => match us, hl with | [_, _], _ => rfl) (c.fact 54 (p := fun K => oexB K 27) rfl) (c.fact 55 (p := fun K => oinB K 27) rfl) (He.glo_ok X G (c.fact 56 (p := fun K => (He.Fa.glo "InvalidSigns").ok K) rfl))
  have x_InvalidSketch : Gx P w K mg base 24 "InvalidSketch" := gx1 F_xInvalidSketch sc_xInvalidSketch rfl (FunD.bindsN (ps := ["self", "line"]) F_xInvalidSketch fun _ _ _ _ _ _ us hl => match us, hl with | [_, _], _ => rfl) (c.fact 57 (p := fun K => oexB K 24) rfl) (c.fact 58 (p := fun K => oinB K 24) rfl) (He.glo_ok X G (c.fact 59 (p := fun K => (He.Fa.glo "InvalidSketch").ok K) rfl))
  have x_NoPhotograph : Gx P w K mg base 41 "NoPhotograph" := gx1 F_xNoPhotograph sc_xNoPhotograph rfl (FunD.bindsN (ps := ["self", "number"]) F_xNoPhotograph fun _ _ _ _ _ _ us hl => match us, hl with | [_, _], _ => rfl) (c.fact 60 (p := fun K => oexB K 41) rfl) (c.fact 61 (p := fun K => oinB K 41) rfl) (He.glo_ok X G (c.fact 62 (p := fun K => (He.Fa.glo "NoPhotograph").ok K) rfl))
  have x_NoRule : Gx P w K mg base 40 "NoRule" := gx1 F_xNoRule sc_xNoRule rfl (FunD.bindsN (ps := ["self", "number"]) F_xNoRule fun _ _ _ _ _ _ us hl => match us, hl with | [_, _], _ => rfl) (c.fact 63 (p := fun K => oexB K 40) rfl) (c.fact 64 (p := fun K => oinB K 40) rfl) (He.glo_ok X G (c.fact 65 (p := fun K => (He.Fa.glo "NoRule").ok K) rfl))
  have x_RuleClash : Gx P w K mg base 43 "RuleClash" := gx1 F_xRuleClash sc_xRuleClash rfl (FunD.bindsN (ps := ["self", "places"]) F_xRuleClash fun _ _ _ _ _ _ us hl => match us, hl with | [_, _], _ => rfl) (c.fact 66 (p := fun K => oexB K 43) rfl) (c.fact 67 (p := fun K => oinB K 43) rfl) (He.glo_ok X G (c.fact 68 (p := fun K => (He.Fa.glo "RuleClash").ok K) rfl))
  have x_TooManyCases : Gx P w K mg base 46 "TooManyCases" := gx1 F_xTooManyCases sc_xTooManyCases rfl (FunD.bindsN (ps := ["self", "cases"]) F_xTooManyCases fun _ _ _ _ _ _ us hl => match us, hl with | [_, _], _ => rfl) (c.fact 69 (p := fun K => oexB K 46) rfl) (c.fact 70 (p := fun K => oinB K 46) rfl) (He.glo_ok X G (c.fact 71 (p := fun K => (He.Fa.glo "TooManyCases").ok K) rfl))
  have x_UnknownOption : Gx P w K mg base 47 "UnknownOption" := gx1 F_xUnknownOption sc_xUnknownOption rfl (FunD.bindsN (ps := ["self", "name"]) F_xUnknownOption fun _ _ _ _ _ _ us hl => match us, hl with | [_, _], _ => rfl) (c.fact 72 (p := fun K => oexB K 47) rfl) (c.fact 73 (p := fun K => oinB K 47) rfl) (He.glo_ok X G (c.fact 74 (p := fun K => (He.Fa.glo "UnknownOption").ok K) rfl))
  have x_WrongStone : Gx P w K mg base 42 "WrongStone" := gx1 F_xWrongStone sc_xWrongStone rfl (FunD.bindsN (ps := ["self", "stone"]) F_xWrongStone fun _ _ _ _ _ _ us hl => match us, hl with | [_, _], _ => rfl) (c.fact 75 (p := fun K => oexB K 42) rfl) (c.fact 76 (p := fun K => oinB K 42) rfl) (He.glo_ok X G (c.fact 77 (p := fun K => (He.Fa.glo "WrongStone").ok K) rfl))
  have n_int : mg "int" = none := He.free_ok X G (c.fact 78 (p := fun K => (He.Fa.free "int").ok K) rfl)
  have o_l_bag := ok_l_bag (P := P) (w := w) (mg := mg) (base := base) F_l_bag n_int
  have n_len : mg "len" = none := He.free_ok X G (c.fact 79 (p := fun K => (He.Fa.free "len").ok K) rfl)
  have o_l_take := ok_l_take (P := P) (w := w) (mg := mg) (base := base) F_l_take n_len n_int
  have g__law_take : Gf P w K mg base 1 "_law_take" ["_law_bag_here", "_law_size"] r_l_take := ⟨_, _, o_l_take, He.glo_ok X G (c.fact 80 (p := fun K => (He.Fa.glo "_law_take").ok K) rfl), F_l_take.kp, (FunD.bindsN (ps := ["_law_bag_here", "_law_size"]) F_l_take fun _ _ _ _ _ _ us hl => match us, hl with | [_, _], _ => rfl)⟩
  have o_l_spot := ok_l_spot (P := P) (w := w) (mg := mg) (base := base) F_l_spot g__law_take
  have n_range : mg "range" = none := He.free_ok X G (c.fact 81 (p := fun K => (He.Fa.free "range").ok K) rfl)
  have g__law_spot : Gf P w K mg base 2 "_law_spot" ["_law_bag_here"] r_l_spot := ⟨_, _, o_l_spot, He.glo_ok X G (c.fact 82 (p := fun K => (He.Fa.glo "_law_spot").ok K) rfl), F_l_spot.kp, (FunD.bindsN (ps := ["_law_bag_here"]) F_l_spot fun _ _ _ _ _ _ us hl => match us, hl with | [_], _ => rfl)⟩
  have o_l_spots := ok_l_spots (P := P) (w := w) (mg := mg) (base := base) F_l_spots n_range n_len g__law_take g__law_spot
  have o_l_cell_errors := ok_l_cell_errors (P := P) (w := w) (mg := mg) (base := base) F_l_cell_errors x_Opposed x_EmptyCell x_NoHole x_NoStone x_OutOfPicture x_SurelyNew x_SurelyOld x_NotNew x_NotOld x_SurelyAfter
  have ix_EmptyCell_all : IxOk K (.ref (cad K 33)) [(30, false), (31, false), (32, false), (33, true), (34, false), (35, false), (36, false), (37, false), (38, false), (39, false), (21, false), (22, false), (23, false), (24, false), (25, false), (26, false), (27, false), (28, false), (40, false), (41, false), (42, false), (43, false), (44, false), (45, false), (46, false), (47, false), (48, false), (49, false), (50, false)] := ix_of (c.fact 83 (p := fun K => ixB K (.ref (cad K 33)) [(30, false), (31, false), (32, false), (33, true), (34, false), (35, false), (36, false), (37, false), (38, false), (39, false), (21, false), (22, false), (23, false), (24, false), (25, false), (26, false), (27, false), (28, false), (40, false), (41, false), (42, false), (43, false), (44, false), (45, false), (46, false), (47, false), (48, false), (49, false), (50, false)]) rfl)
  have g_EmptyCell : mg "EmptyCell" = some (.ref (cad K 33)) := He.glo_ok X G (c.fact 2 (p := fun K => (He.Fa.glo "EmptyCell").ok K) rfl)
  have n_isinstance : mg "isinstance" = none := He.free_ok X G (c.fact 84 (p := fun K => (He.Fa.free "isinstance").ok K) rfl)
  have ix_NoHole_all : IxOk K (.ref (cad K 32)) [(30, false), (31, false), (32, true), (33, false), (34, false), (35, false), (36, false), (37, false), (38, false), (39, false), (21, false), (22, false), (23, false), (24, false), (25, false), (26, false), (27, false), (28, false), (40, false), (41, false), (42, false), (43, false), (44, false), (45, false), (46, false), (47, false), (48, false), (49, false), (50, false)] := ix_of (c.fact 85 (p := fun K => ixB K (.ref (cad K 32)) [(30, false), (31, false), (32, true), (33, false), (34, false), (35, false), (36, false), (37, false), (38, false), (39, false), (21, false), (22, false), (23, false), (24, false), (25, false), (26, false), (27, false), (28, false), (40, false), (41, false), (42, false), (43, false), (44, false), (45, false), (46, false), (47, false), (48, false), (49, false), (50, false)]) rfl)
  have g_NoHole : mg "NoHole" = some (.ref (cad K 32)) := He.glo_ok X G (c.fact 5 (p := fun K => (He.Fa.glo "NoHole").ok K) rfl)
  have ix_NoStone_all : IxOk K (.ref (cad K 31)) [(30, false), (31, true), (32, false), (33, false), (34, false), (35, false), (36, false), (37, false), (38, false), (39, false), (21, false), (22, false), (23, false), (24, false), (25, false), (26, false), (27, false), (28, false), (40, false), (41, false), (42, false), (43, false), (44, false), (45, false), (46, false), (47, false), (48, false), (49, false), (50, false)] := ix_of (c.fact 86 (p := fun K => ixB K (.ref (cad K 31)) [(30, false), (31, true), (32, false), (33, false), (34, false), (35, false), (36, false), (37, false), (38, false), (39, false), (21, false), (22, false), (23, false), (24, false), (25, false), (26, false), (27, false), (28, false), (40, false), (41, false), (42, false), (43, false), (44, false), (45, false), (46, false), (47, false), (48, false), (49, false), (50, false)]) rfl)
  have g_NoStone : mg "NoStone" = some (.ref (cad K 31)) := He.glo_ok X G (c.fact 8 (p := fun K => (He.Fa.glo "NoStone").ok K) rfl)
  have ix_OutOfPicture_all : IxOk K (.ref (cad K 30)) [(30, true), (31, false), (32, false), (33, false), (34, false), (35, false), (36, false), (37, false), (38, false), (39, false), (21, false), (22, false), (23, false), (24, false), (25, false), (26, false), (27, false), (28, false), (40, false), (41, false), (42, false), (43, false), (44, false), (45, false), (46, false), (47, false), (48, false), (49, false), (50, false)] := ix_of (c.fact 87 (p := fun K => ixB K (.ref (cad K 30)) [(30, true), (31, false), (32, false), (33, false), (34, false), (35, false), (36, false), (37, false), (38, false), (39, false), (21, false), (22, false), (23, false), (24, false), (25, false), (26, false), (27, false), (28, false), (40, false), (41, false), (42, false), (43, false), (44, false), (45, false), (46, false), (47, false), (48, false), (49, false), (50, false)]) rfl)
  have g_OutOfPicture : mg "OutOfPicture" = some (.ref (cad K 30)) := He.glo_ok X G (c.fact 20 (p := fun K => (He.Fa.glo "OutOfPicture").ok K) rfl)
  have ix_NotNew_all : IxOk K (.ref (cad K 36)) [(30, false), (31, false), (32, false), (33, false), (34, false), (35, false), (36, true), (37, false), (38, false), (39, false), (21, false), (22, false), (23, false), (24, false), (25, false), (26, false), (27, false), (28, false), (40, false), (41, false), (42, false), (43, false), (44, false), (45, false), (46, false), (47, false), (48, false), (49, false), (50, false)] := ix_of (c.fact 88 (p := fun K => ixB K (.ref (cad K 36)) [(30, false), (31, false), (32, false), (33, false), (34, false), (35, false), (36, true), (37, false), (38, false), (39, false), (21, false), (22, false), (23, false), (24, false), (25, false), (26, false), (27, false), (28, false), (40, false), (41, false), (42, false), (43, false), (44, false), (45, false), (46, false), (47, false), (48, false), (49, false), (50, false)]) rfl)
  have g_NotNew : mg "NotNew" = some (.ref (cad K 36)) := He.glo_ok X G (c.fact 11 (p := fun K => (He.Fa.glo "NotNew").ok K) rfl)
  have ix_NotOld_all : IxOk K (.ref (cad K 35)) [(30, false), (31, false), (32, false), (33, false), (34, false), (35, true), (36, false), (37, false), (38, false), (39, false), (21, false), (22, false), (23, false), (24, false), (25, false), (26, false), (27, false), (28, false), (40, false), (41, false), (42, false), (43, false), (44, false), (45, false), (46, false), (47, false), (48, false), (49, false), (50, false)] := ix_of (c.fact 89 (p := fun K => ixB K (.ref (cad K 35)) [(30, false), (31, false), (32, false), (33, false), (34, false), (35, true), (36, false), (37, false), (38, false), (39, false), (21, false), (22, false), (23, false), (24, false), (25, false), (26, false), (27, false), (28, false), (40, false), (41, false), (42, false), (43, false), (44, false), (45, false), (46, false), (47, false), (48, false), (49, false), (50, false)]) rfl)
  have g_NotOld : mg "NotOld" = some (.ref (cad K 35)) := He.glo_ok X G (c.fact 14 (p := fun K => (He.Fa.glo "NotOld").ok K) rfl)
  have ix_Opposed_all : IxOk K (.ref (cad K 34)) [(30, false), (31, false), (32, false), (33, false), (34, true), (35, false), (36, false), (37, false), (38, false), (39, false), (21, false), (22, false), (23, false), (24, false), (25, false), (26, false), (27, false), (28, false), (40, false), (41, false), (42, false), (43, false), (44, false), (45, false), (46, false), (47, false), (48, false), (49, false), (50, false)] := ix_of (c.fact 90 (p := fun K => ixB K (.ref (cad K 34)) [(30, false), (31, false), (32, false), (33, false), (34, true), (35, false), (36, false), (37, false), (38, false), (39, false), (21, false), (22, false), (23, false), (24, false), (25, false), (26, false), (27, false), (28, false), (40, false), (41, false), (42, false), (43, false), (44, false), (45, false), (46, false), (47, false), (48, false), (49, false), (50, false)]) rfl)
  have g_Opposed : mg "Opposed" = some (.ref (cad K 34)) := He.glo_ok X G (c.fact 17 (p := fun K => (He.Fa.glo "Opposed").ok K) rfl)
  have ix_SurelyAfter_all : IxOk K (.ref (cad K 39)) [(30, false), (31, false), (32, false), (33, false), (34, false), (35, false), (36, false), (37, false), (38, false), (39, true), (21, false), (22, false), (23, false), (24, false), (25, false), (26, false), (27, false), (28, false), (40, false), (41, false), (42, false), (43, false), (44, false), (45, false), (46, false), (47, false), (48, false), (49, false), (50, false)] := ix_of (c.fact 91 (p := fun K => ixB K (.ref (cad K 39)) [(30, false), (31, false), (32, false), (33, false), (34, false), (35, false), (36, false), (37, false), (38, false), (39, true), (21, false), (22, false), (23, false), (24, false), (25, false), (26, false), (27, false), (28, false), (40, false), (41, false), (42, false), (43, false), (44, false), (45, false), (46, false), (47, false), (48, false), (49, false), (50, false)]) rfl)
  have g_SurelyAfter : mg "SurelyAfter" = some (.ref (cad K 39)) := He.glo_ok X G (c.fact 23 (p := fun K => (He.Fa.glo "SurelyAfter").ok K) rfl)
  have ix_SurelyNew_all : IxOk K (.ref (cad K 38)) [(30, false), (31, false), (32, false), (33, false), (34, false), (35, false), (36, false), (37, false), (38, true), (39, false), (21, false), (22, false), (23, false), (24, false), (25, false), (26, false), (27, false), (28, false), (40, false), (41, false), (42, false), (43, false), (44, false), (45, false), (46, false), (47, false), (48, false), (49, false), (50, false)] := ix_of (c.fact 92 (p := fun K => ixB K (.ref (cad K 38)) [(30, false), (31, false), (32, false), (33, false), (34, false), (35, false), (36, false), (37, false), (38, true), (39, false), (21, false), (22, false), (23, false), (24, false), (25, false), (26, false), (27, false), (28, false), (40, false), (41, false), (42, false), (43, false), (44, false), (45, false), (46, false), (47, false), (48, false), (49, false), (50, false)]) rfl)
  have g_SurelyNew : mg "SurelyNew" = some (.ref (cad K 38)) := He.glo_ok X G (c.fact 26 (p := fun K => (He.Fa.glo "SurelyNew").ok K) rfl)
  have ix_SurelyOld_all : IxOk K (.ref (cad K 37)) [(30, false), (31, false), (32, false), (33, false), (34, false), (35, false), (36, false), (37, true), (38, false), (39, false), (21, false), (22, false), (23, false), (24, false), (25, false), (26, false), (27, false), (28, false), (40, false), (41, false), (42, false), (43, false), (44, false), (45, false), (46, false), (47, false), (48, false), (49, false), (50, false)] := ix_of (c.fact 93 (p := fun K => ixB K (.ref (cad K 37)) [(30, false), (31, false), (32, false), (33, false), (34, false), (35, false), (36, false), (37, true), (38, false), (39, false), (21, false), (22, false), (23, false), (24, false), (25, false), (26, false), (27, false), (28, false), (40, false), (41, false), (42, false), (43, false), (44, false), (45, false), (46, false), (47, false), (48, false), (49, false), (50, false)]) rfl)
  have g_SurelyOld : mg "SurelyOld" = some (.ref (cad K 37)) := He.glo_ok X G (c.fact 29 (p := fun K => (He.Fa.glo "SurelyOld").ok K) rfl)
  have o_l_cell_kinds := ok_l_cell_kinds (P := P) (w := w) (mg := mg) (base := base) F_l_cell_kinds ix_EmptyCell_all g_EmptyCell n_isinstance ix_NoHole_all g_NoHole ix_NoStone_all g_NoStone ix_OutOfPicture_all g_OutOfPicture ix_NotNew_all g_NotNew ix_NotOld_all g_NotOld ix_Opposed_all g_Opposed ix_SurelyAfter_all g_SurelyAfter ix_SurelyNew_all g_SurelyNew ix_SurelyOld_all g_SurelyOld
  have ix_InvalidBook_all : IxOk K (.ref (cad K 23)) [(30, false), (31, false), (32, false), (33, false), (34, false), (35, false), (36, false), (37, false), (38, false), (39, false), (21, false), (22, false), (23, true), (24, false), (25, false), (26, false), (27, false), (28, false), (40, false), (41, false), (42, false), (43, false), (44, false), (45, false), (46, false), (47, false), (48, false), (49, false), (50, false)] := ix_of (c.fact 94 (p := fun K => ixB K (.ref (cad K 23)) [(30, false), (31, false), (32, false), (33, false), (34, false), (35, false), (36, false), (37, false), (38, false), (39, false), (21, false), (22, false), (23, true), (24, false), (25, false), (26, false), (27, false), (28, false), (40, false), (41, false), (42, false), (43, false), (44, false), (45, false), (46, false), (47, false), (48, false), (49, false), (50, false)]) rfl)
  have g_InvalidBook : mg "InvalidBook" = some (.ref (cad K 23)) := He.glo_ok X G (c.fact 38 (p := fun K => (He.Fa.glo "InvalidBook").ok K) rfl)
  have ix_InvalidRule_all : IxOk K (.ref (cad K 22)) [(30, false), (31, false), (32, false), (33, false), (34, false), (35, false), (36, false), (37, false), (38, false), (39, false), (21, false), (22, true), (23, false), (24, false), (25, false), (26, false), (27, false), (28, false), (40, false), (41, false), (42, false), (43, false), (44, false), (45, false), (46, false), (47, false), (48, false), (49, false), (50, false)] := ix_of (c.fact 95 (p := fun K => ixB K (.ref (cad K 22)) [(30, false), (31, false), (32, false), (33, false), (34, false), (35, false), (36, false), (37, false), (38, false), (39, false), (21, false), (22, true), (23, false), (24, false), (25, false), (26, false), (27, false), (28, false), (40, false), (41, false), (42, false), (43, false), (44, false), (45, false), (46, false), (47, false), (48, false), (49, false), (50, false)]) rfl)
  have g_InvalidRule : mg "InvalidRule" = some (.ref (cad K 22)) := He.glo_ok X G (c.fact 50 (p := fun K => (He.Fa.glo "InvalidRule").ok K) rfl)
  have ix_InvalidPicture_all : IxOk K (.ref (cad K 21)) [(30, false), (31, false), (32, false), (33, false), (34, false), (35, false), (36, false), (37, false), (38, false), (39, false), (21, true), (22, false), (23, false), (24, false), (25, false), (26, false), (27, false), (28, false), (40, false), (41, false), (42, false), (43, false), (44, false), (45, false), (46, false), (47, false), (48, false), (49, false), (50, false)] := ix_of (c.fact 96 (p := fun K => ixB K (.ref (cad K 21)) [(30, false), (31, false), (32, false), (33, false), (34, false), (35, false), (36, false), (37, false), (38, false), (39, false), (21, true), (22, false), (23, false), (24, false), (25, false), (26, false), (27, false), (28, false), (40, false), (41, false), (42, false), (43, false), (44, false), (45, false), (46, false), (47, false), (48, false), (49, false), (50, false)]) rfl)
  have g_InvalidPicture : mg "InvalidPicture" = some (.ref (cad K 21)) := He.glo_ok X G (c.fact 47 (p := fun K => (He.Fa.glo "InvalidPicture").ok K) rfl)
  have ix_InvalidSign_all : IxOk K (.ref (cad K 26)) [(30, false), (31, false), (32, false), (33, false), (34, false), (35, false), (36, false), (37, false), (38, false), (39, false), (21, false), (22, false), (23, false), (24, false), (25, false), (26, true), (27, false), (28, false), (40, false), (41, false), (42, false), (43, false), (44, false), (45, false), (46, false), (47, false), (48, false), (49, false), (50, false)] := ix_of (c.fact 97 (p := fun K => ixB K (.ref (cad K 26)) [(30, false), (31, false), (32, false), (33, false), (34, false), (35, false), (36, false), (37, false), (38, false), (39, false), (21, false), (22, false), (23, false), (24, false), (25, false), (26, true), (27, false), (28, false), (40, false), (41, false), (42, false), (43, false), (44, false), (45, false), (46, false), (47, false), (48, false), (49, false), (50, false)]) rfl)
  have g_InvalidSign : mg "InvalidSign" = some (.ref (cad K 26)) := He.glo_ok X G (c.fact 53 (p := fun K => (He.Fa.glo "InvalidSign").ok K) rfl)
  have ix_InvalidHistory_all : IxOk K (.ref (cad K 25)) [(30, false), (31, false), (32, false), (33, false), (34, false), (35, false), (36, false), (37, false), (38, false), (39, false), (21, false), (22, false), (23, false), (24, false), (25, true), (26, false), (27, false), (28, false), (40, false), (41, false), (42, false), (43, false), (44, false), (45, false), (46, false), (47, false), (48, false), (49, false), (50, false)] := ix_of (c.fact 98 (p := fun K => ixB K (.ref (cad K 25)) [(30, false), (31, false), (32, false), (33, false), (34, false), (35, false), (36, false), (37, false), (38, false), (39, false), (21, false), (22, false), (23, false), (24, false), (25, true), (26, false), (27, false), (28, false), (40, false), (41, false), (42, false), (43, false), (44, false), (45, false), (46, false), (47, false), (48, false), (49, false), (50, false)]) rfl)
  have g_InvalidHistory : mg "InvalidHistory" = some (.ref (cad K 25)) := He.glo_ok X G (c.fact 41 (p := fun K => (He.Fa.glo "InvalidHistory").ok K) rfl)
  have ix_InvalidSketch_all : IxOk K (.ref (cad K 24)) [(30, false), (31, false), (32, false), (33, false), (34, false), (35, false), (36, false), (37, false), (38, false), (39, false), (21, false), (22, false), (23, false), (24, true), (25, false), (26, false), (27, false), (28, false), (40, false), (41, false), (42, false), (43, false), (44, false), (45, false), (46, false), (47, false), (48, false), (49, false), (50, false)] := ix_of (c.fact 99 (p := fun K => ixB K (.ref (cad K 24)) [(30, false), (31, false), (32, false), (33, false), (34, false), (35, false), (36, false), (37, false), (38, false), (39, false), (21, false), (22, false), (23, false), (24, true), (25, false), (26, false), (27, false), (28, false), (40, false), (41, false), (42, false), (43, false), (44, false), (45, false), (46, false), (47, false), (48, false), (49, false), (50, false)]) rfl)
  have g_InvalidSketch : mg "InvalidSketch" = some (.ref (cad K 24)) := He.glo_ok X G (c.fact 59 (p := fun K => (He.Fa.glo "InvalidSketch").ok K) rfl)
  have ix_NoRule_all : IxOk K (.ref (cad K 40)) [(30, false), (31, false), (32, false), (33, false), (34, false), (35, false), (36, false), (37, false), (38, false), (39, false), (21, false), (22, false), (23, false), (24, false), (25, false), (26, false), (27, false), (28, false), (40, true), (41, false), (42, false), (43, false), (44, false), (45, false), (46, false), (47, false), (48, false), (49, false), (50, false)] := ix_of (c.fact 100 (p := fun K => ixB K (.ref (cad K 40)) [(30, false), (31, false), (32, false), (33, false), (34, false), (35, false), (36, false), (37, false), (38, false), (39, false), (21, false), (22, false), (23, false), (24, false), (25, false), (26, false), (27, false), (28, false), (40, true), (41, false), (42, false), (43, false), (44, false), (45, false), (46, false), (47, false), (48, false), (49, false), (50, false)]) rfl)
  have g_NoRule : mg "NoRule" = some (.ref (cad K 40)) := He.glo_ok X G (c.fact 65 (p := fun K => (He.Fa.glo "NoRule").ok K) rfl)
  have ix_InvalidLimit_all : IxOk K (.ref (cad K 28)) [(30, false), (31, false), (32, false), (33, false), (34, false), (35, false), (36, false), (37, false), (38, false), (39, false), (21, false), (22, false), (23, false), (24, false), (25, false), (26, false), (27, false), (28, true), (40, false), (41, false), (42, false), (43, false), (44, false), (45, false), (46, false), (47, false), (48, false), (49, false), (50, false)] := ix_of (c.fact 101 (p := fun K => ixB K (.ref (cad K 28)) [(30, false), (31, false), (32, false), (33, false), (34, false), (35, false), (36, false), (37, false), (38, false), (39, false), (21, false), (22, false), (23, false), (24, false), (25, false), (26, false), (27, false), (28, true), (40, false), (41, false), (42, false), (43, false), (44, false), (45, false), (46, false), (47, false), (48, false), (49, false), (50, false)]) rfl)
  have g_InvalidLimit : mg "InvalidLimit" = some (.ref (cad K 28)) := He.glo_ok X G (c.fact 44 (p := fun K => (He.Fa.glo "InvalidLimit").ok K) rfl)
  have ix_InvalidSigns_all : IxOk K (.ref (cad K 27)) [(30, false), (31, false), (32, false), (33, false), (34, false), (35, false), (36, false), (37, false), (38, false), (39, false), (21, false), (22, false), (23, false), (24, false), (25, false), (26, false), (27, true), (28, false), (40, false), (41, false), (42, false), (43, false), (44, false), (45, false), (46, false), (47, false), (48, false), (49, false), (50, false)] := ix_of (c.fact 102 (p := fun K => ixB K (.ref (cad K 27)) [(30, false), (31, false), (32, false), (33, false), (34, false), (35, false), (36, false), (37, false), (38, false), (39, false), (21, false), (22, false), (23, false), (24, false), (25, false), (26, false), (27, true), (28, false), (40, false), (41, false), (42, false), (43, false), (44, false), (45, false), (46, false), (47, false), (48, false), (49, false), (50, false)]) rfl)
  have g_InvalidSigns : mg "InvalidSigns" = some (.ref (cad K 27)) := He.glo_ok X G (c.fact 56 (p := fun K => (He.Fa.glo "InvalidSigns").ok K) rfl)
  have ix_RuleClash_all : IxOk K (.ref (cad K 43)) [(30, false), (31, false), (32, false), (33, false), (34, false), (35, false), (36, false), (37, false), (38, false), (39, false), (21, false), (22, false), (23, false), (24, false), (25, false), (26, false), (27, false), (28, false), (40, false), (41, false), (42, false), (43, true), (44, false), (45, false), (46, false), (47, false), (48, false), (49, false), (50, false)] := ix_of (c.fact 103 (p := fun K => ixB K (.ref (cad K 43)) [(30, false), (31, false), (32, false), (33, false), (34, false), (35, false), (36, false), (37, false), (38, false), (39, false), (21, false), (22, false), (23, false), (24, false), (25, false), (26, false), (27, false), (28, false), (40, false), (41, false), (42, false), (43, true), (44, false), (45, false), (46, false), (47, false), (48, false), (49, false), (50, false)]) rfl)
  have g_RuleClash : mg "RuleClash" = some (.ref (cad K 43)) := He.glo_ok X G (c.fact 68 (p := fun K => (He.Fa.glo "RuleClash").ok K) rfl)
  have ix_WrongStone_all : IxOk K (.ref (cad K 42)) [(30, false), (31, false), (32, false), (33, false), (34, false), (35, false), (36, false), (37, false), (38, false), (39, false), (21, false), (22, false), (23, false), (24, false), (25, false), (26, false), (27, false), (28, false), (40, false), (41, false), (42, true), (43, false), (44, false), (45, false), (46, false), (47, false), (48, false), (49, false), (50, false)] := ix_of (c.fact 104 (p := fun K => ixB K (.ref (cad K 42)) [(30, false), (31, false), (32, false), (33, false), (34, false), (35, false), (36, false), (37, false), (38, false), (39, false), (21, false), (22, false), (23, false), (24, false), (25, false), (26, false), (27, false), (28, false), (40, false), (41, false), (42, true), (43, false), (44, false), (45, false), (46, false), (47, false), (48, false), (49, false), (50, false)]) rfl)
  have g_WrongStone : mg "WrongStone" = some (.ref (cad K 42)) := He.glo_ok X G (c.fact 77 (p := fun K => (He.Fa.glo "WrongStone").ok K) rfl)
  have ix_NoPhotograph_all : IxOk K (.ref (cad K 41)) [(30, false), (31, false), (32, false), (33, false), (34, false), (35, false), (36, false), (37, false), (38, false), (39, false), (21, false), (22, false), (23, false), (24, false), (25, false), (26, false), (27, false), (28, false), (40, false), (41, true), (42, false), (43, false), (44, false), (45, false), (46, false), (47, false), (48, false), (49, false), (50, false)] := ix_of (c.fact 105 (p := fun K => ixB K (.ref (cad K 41)) [(30, false), (31, false), (32, false), (33, false), (34, false), (35, false), (36, false), (37, false), (38, false), (39, false), (21, false), (22, false), (23, false), (24, false), (25, false), (26, false), (27, false), (28, false), (40, false), (41, true), (42, false), (43, false), (44, false), (45, false), (46, false), (47, false), (48, false), (49, false), (50, false)]) rfl)
  have g_NoPhotograph : mg "NoPhotograph" = some (.ref (cad K 41)) := He.glo_ok X G (c.fact 62 (p := fun K => (He.Fa.glo "NoPhotograph").ok K) rfl)
  have ix_TooManyCases_all : IxOk K (.ref (cad K 46)) [(30, false), (31, false), (32, false), (33, false), (34, false), (35, false), (36, false), (37, false), (38, false), (39, false), (21, false), (22, false), (23, false), (24, false), (25, false), (26, false), (27, false), (28, false), (40, false), (41, false), (42, false), (43, false), (44, false), (45, false), (46, true), (47, false), (48, false), (49, false), (50, false)] := ix_of (c.fact 106 (p := fun K => ixB K (.ref (cad K 46)) [(30, false), (31, false), (32, false), (33, false), (34, false), (35, false), (36, false), (37, false), (38, false), (39, false), (21, false), (22, false), (23, false), (24, false), (25, false), (26, false), (27, false), (28, false), (40, false), (41, false), (42, false), (43, false), (44, false), (45, false), (46, true), (47, false), (48, false), (49, false), (50, false)]) rfl)
  have g_TooManyCases : mg "TooManyCases" = some (.ref (cad K 46)) := He.glo_ok X G (c.fact 71 (p := fun K => (He.Fa.glo "TooManyCases").ok K) rfl)
  have ix_Impossible_all : IxOk K (.ref (cad K 45)) [(30, false), (31, false), (32, false), (33, false), (34, false), (35, false), (36, false), (37, false), (38, false), (39, false), (21, false), (22, false), (23, false), (24, false), (25, false), (26, false), (27, false), (28, false), (40, false), (41, false), (42, false), (43, false), (44, false), (45, true), (46, false), (47, false), (48, false), (49, false), (50, false)] := ix_of (c.fact 107 (p := fun K => ixB K (.ref (cad K 45)) [(30, false), (31, false), (32, false), (33, false), (34, false), (35, false), (36, false), (37, false), (38, false), (39, false), (21, false), (22, false), (23, false), (24, false), (25, false), (26, false), (27, false), (28, false), (40, false), (41, false), (42, false), (43, false), (44, false), (45, true), (46, false), (47, false), (48, false), (49, false), (50, false)]) rfl)
  have g_Impossible : mg "Impossible" = some (.ref (cad K 45)) := He.glo_ok X G (c.fact 35 (p := fun K => (He.Fa.glo "Impossible").ok K) rfl)
  have ix_BadDeed_all : IxOk K (.ref (cad K 44)) [(30, false), (31, false), (32, false), (33, false), (34, false), (35, false), (36, false), (37, false), (38, false), (39, false), (21, false), (22, false), (23, false), (24, false), (25, false), (26, false), (27, false), (28, false), (40, false), (41, false), (42, false), (43, false), (44, true), (45, false), (46, false), (47, false), (48, false), (49, false), (50, false)] := ix_of (c.fact 108 (p := fun K => ixB K (.ref (cad K 44)) [(30, false), (31, false), (32, false), (33, false), (34, false), (35, false), (36, false), (37, false), (38, false), (39, false), (21, false), (22, false), (23, false), (24, false), (25, false), (26, false), (27, false), (28, false), (40, false), (41, false), (42, false), (43, false), (44, true), (45, false), (46, false), (47, false), (48, false), (49, false), (50, false)]) rfl)
  have g_BadDeed : mg "BadDeed" = some (.ref (cad K 44)) := He.glo_ok X G (c.fact 32 (p := fun K => (He.Fa.glo "BadDeed").ok K) rfl)
  have ix_NothingToUndo_all : IxOk K (.ref (cad K 49)) [(30, false), (31, false), (32, false), (33, false), (34, false), (35, false), (36, false), (37, false), (38, false), (39, false), (21, false), (22, false), (23, false), (24, false), (25, false), (26, false), (27, false), (28, false), (40, false), (41, false), (42, false), (43, false), (44, false), (45, false), (46, false), (47, false), (48, false), (49, true), (50, false)] := ix_of (c.fact 109 (p := fun K => ixB K (.ref (cad K 49)) [(30, false), (31, false), (32, false), (33, false), (34, false), (35, false), (36, false), (37, false), (38, false), (39, false), (21, false), (22, false), (23, false), (24, false), (25, false), (26, false), (27, false), (28, false), (40, false), (41, false), (42, false), (43, false), (44, false), (45, false), (46, false), (47, false), (48, false), (49, true), (50, false)]) rfl)
  have g_NothingToUndo : mg "NothingToUndo" = some (.ref (cad K 49)) := He.glo_ok X G (c.fact 110 (p := fun K => (He.Fa.glo "NothingToUndo").ok K) rfl)
  have ix_UnequalSize_all : IxOk K (.ref (cad K 48)) [(30, false), (31, false), (32, false), (33, false), (34, false), (35, false), (36, false), (37, false), (38, false), (39, false), (21, false), (22, false), (23, false), (24, false), (25, false), (26, false), (27, false), (28, false), (40, false), (41, false), (42, false), (43, false), (44, false), (45, false), (46, false), (47, false), (48, true), (49, false), (50, false)] := ix_of (c.fact 111 (p := fun K => ixB K (.ref (cad K 48)) [(30, false), (31, false), (32, false), (33, false), (34, false), (35, false), (36, false), (37, false), (38, false), (39, false), (21, false), (22, false), (23, false), (24, false), (25, false), (26, false), (27, false), (28, false), (40, false), (41, false), (42, false), (43, false), (44, false), (45, false), (46, false), (47, false), (48, true), (49, false), (50, false)]) rfl)
  have g_UnequalSize : mg "UnequalSize" = some (.ref (cad K 48)) := He.glo_ok X G (c.fact 112 (p := fun K => (He.Fa.glo "UnequalSize").ok K) rfl)
  have ix_UnknownOption_all : IxOk K (.ref (cad K 47)) [(30, false), (31, false), (32, false), (33, false), (34, false), (35, false), (36, false), (37, false), (38, false), (39, false), (21, false), (22, false), (23, false), (24, false), (25, false), (26, false), (27, false), (28, false), (40, false), (41, false), (42, false), (43, false), (44, false), (45, false), (46, false), (47, true), (48, false), (49, false), (50, false)] := ix_of (c.fact 113 (p := fun K => ixB K (.ref (cad K 47)) [(30, false), (31, false), (32, false), (33, false), (34, false), (35, false), (36, false), (37, false), (38, false), (39, false), (21, false), (22, false), (23, false), (24, false), (25, false), (26, false), (27, false), (28, false), (40, false), (41, false), (42, false), (43, false), (44, false), (45, false), (46, false), (47, true), (48, false), (49, false), (50, false)]) rfl)
  have g_UnknownOption : mg "UnknownOption" = some (.ref (cad K 47)) := He.glo_ok X G (c.fact 74 (p := fun K => (He.Fa.glo "UnknownOption").ok K) rfl)
  have ix_StillPossible_all : IxOk K (.ref (cad K 50)) [(30, false), (31, false), (32, false), (33, false), (34, false), (35, false), (36, false), (37, false), (38, false), (39, false), (21, false), (22, false), (23, false), (24, false), (25, false), (26, false), (27, false), (28, false), (40, false), (41, false), (42, false), (43, false), (44, false), (45, false), (46, false), (47, false), (48, false), (49, false), (50, true)] := ix_of (c.fact 114 (p := fun K => ixB K (.ref (cad K 50)) [(30, false), (31, false), (32, false), (33, false), (34, false), (35, false), (36, false), (37, false), (38, false), (39, false), (21, false), (22, false), (23, false), (24, false), (25, false), (26, false), (27, false), (28, false), (40, false), (41, false), (42, false), (43, false), (44, false), (45, false), (46, false), (47, false), (48, false), (49, false), (50, true)]) rfl)
  have g_StillPossible : mg "StillPossible" = some (.ref (cad K 50)) := He.glo_ok X G (c.fact 115 (p := fun K => (He.Fa.glo "StillPossible").ok K) rfl)
  have o_l_other_kinds := ok_l_other_kinds (P := P) (w := w) (mg := mg) (base := base) F_l_other_kinds ix_InvalidBook_all g_InvalidBook n_isinstance ix_InvalidRule_all g_InvalidRule ix_InvalidPicture_all g_InvalidPicture ix_InvalidSign_all g_InvalidSign ix_InvalidHistory_all g_InvalidHistory ix_InvalidSketch_all g_InvalidSketch ix_NoRule_all g_NoRule ix_InvalidLimit_all g_InvalidLimit ix_InvalidSigns_all g_InvalidSigns ix_RuleClash_all g_RuleClash ix_WrongStone_all g_WrongStone ix_NoPhotograph_all g_NoPhotograph ix_TooManyCases_all g_TooManyCases ix_Impossible_all g_Impossible ix_BadDeed_all g_BadDeed ix_NothingToUndo_all g_NothingToUndo ix_UnequalSize_all g_UnequalSize ix_UnknownOption_all g_UnknownOption ix_StillPossible_all g_StillPossible
  have ix_SmaltiError_all : IxOk K (.ref (cad K 20)) [(30, true), (31, true), (32, true), (33, true), (34, true), (35, true), (36, true), (37, true), (38, true), (39, true), (21, true), (22, true), (23, true), (24, true), (25, true), (26, true), (27, true), (28, true), (40, true), (41, true), (42, true), (43, true), (44, true), (45, true), (46, true), (47, true), (48, true), (49, true), (50, true)] := ix_of (c.fact 116 (p := fun K => ixB K (.ref (cad K 20)) [(30, true), (31, true), (32, true), (33, true), (34, true), (35, true), (36, true), (37, true), (38, true), (39, true), (21, true), (22, true), (23, true), (24, true), (25, true), (26, true), (27, true), (28, true), (40, true), (41, true), (42, true), (43, true), (44, true), (45, true), (46, true), (47, true), (48, true), (49, true), (50, true)]) rfl)
  have g_SmaltiError : mg "SmaltiError" = some (.ref (cad K 20)) := He.glo_ok X G (c.fact 117 (p := fun K => (He.Fa.glo "SmaltiError").ok K) rfl)
  have ix_ValueError_all : IxOk K (.type "ValueError") [(30, true), (31, true), (32, true), (33, true), (34, true), (35, true), (36, true), (37, true), (38, true), (39, true), (21, true), (22, true), (23, true), (24, true), (25, true), (26, true), (27, true), (28, true), (40, true), (41, true), (42, true), (43, true), (44, true), (45, true), (46, true), (47, true), (48, true), (49, true), (50, true)] := ix_of (c.fact 118 (p := fun K => ixB K (.type "ValueError") [(30, true), (31, true), (32, true), (33, true), (34, true), (35, true), (36, true), (37, true), (38, true), (39, true), (21, true), (22, true), (23, true), (24, true), (25, true), (26, true), (27, true), (28, true), (40, true), (41, true), (42, true), (43, true), (44, true), (45, true), (46, true), (47, true), (48, true), (49, true), (50, true)]) rfl)
  have n_ValueError : mg "ValueError" = none := He.free_ok X G (c.fact 119 (p := fun K => (He.Fa.free "ValueError").ok K) rfl)
  have g__law_cell_kinds : Gf P w K mg base 1 "_law_cell_kinds" ["_law_e"] r_l_cell_kinds := ⟨_, _, o_l_cell_kinds, He.glo_ok X G (c.fact 120 (p := fun K => (He.Fa.glo "_law_cell_kinds").ok K) rfl), F_l_cell_kinds.kp, (FunD.bindsN (ps := ["_law_e"]) F_l_cell_kinds fun _ _ _ _ _ _ us hl => match us, hl with | [_], _ => rfl)⟩
  have g__law_other_kinds : Gf P w K mg base 1 "_law_other_kinds" ["_law_e"] r_l_other_kinds := ⟨_, _, o_l_other_kinds, He.glo_ok X G (c.fact 121 (p := fun K => (He.Fa.glo "_law_other_kinds").ok K) rfl), F_l_other_kinds.kp, (FunD.bindsN (ps := ["_law_e"]) F_l_other_kinds fun _ _ _ _ _ _ us hl => match us, hl with | [_], _ => rfl)⟩
  have o_l_is_kind := ok_l_is_kind (P := P) (w := w) (mg := mg) (base := base) F_l_is_kind n_len n_range ix_SmaltiError_all g_SmaltiError n_isinstance ix_ValueError_all n_ValueError g__law_cell_kinds g__law_other_kinds
  have x0_StillPossible : Gx0 K mg 50 "StillPossible" := gx0_of (c.fact 122 (p := fun K => gx0B K 50) rfl) (He.glo_ok X G (c.fact 115 (p := fun K => (He.Fa.glo "StillPossible").ok K) rfl))
  have x0_NothingToUndo : Gx0 K mg 49 "NothingToUndo" := gx0_of (c.fact 123 (p := fun K => gx0B K 49) rfl) (He.glo_ok X G (c.fact 110 (p := fun K => (He.Fa.glo "NothingToUndo").ok K) rfl))
  have x0_UnequalSize : Gx0 K mg 48 "UnequalSize" := gx0_of (c.fact 124 (p := fun K => gx0B K 48) rfl) (He.glo_ok X G (c.fact 112 (p := fun K => (He.Fa.glo "UnequalSize").ok K) rfl))
  have o_l_other_errors := ok_l_other_errors (P := P) (w := w) (mg := mg) (base := base) F_l_other_errors x_InvalidHistory x_InvalidSketch x_InvalidBook x_InvalidRule x_InvalidPicture x_NoPhotograph x_NoRule x_InvalidLimit x_InvalidSigns x_InvalidSign x_TooManyCases x_Impossible x_BadDeed x_RuleClash x_WrongStone x0_StillPossible x0_NothingToUndo x0_UnequalSize x_UnknownOption
  have xa_sign_26 : XaOk K "sign" [26] := xa_of (c.fact 125 (p := fun K => xaB K "sign" [26]) rfl)
  have xa_line_25 : XaOk K "line" [25] := xa_of (c.fact 126 (p := fun K => xaB K "line" [25]) rfl)
  have xa_line_24 : XaOk K "line" [24] := xa_of (c.fact 127 (p := fun K => xaB K "line" [24]) rfl)
  have xa_line_23 : XaOk K "line" [23] := xa_of (c.fact 128 (p := fun K => xaB K "line" [23]) rfl)
  have xa_part_22 : XaOk K "part" [22] := xa_of (c.fact 129 (p := fun K => xaB K "part" [22]) rfl)
  have xa_line_21 : XaOk K "line" [21] := xa_of (c.fact 130 (p := fun K => xaB K "line" [21]) rfl)
  have xa_stone_42 : XaOk K "stone" [42] := xa_of (c.fact 131 (p := fun K => xaB K "stone" [42]) rfl)
  have xa_number_41 : XaOk K "number" [41] := xa_of (c.fact 132 (p := fun K => xaB K "number" [41]) rfl)
  have xa_number_40 : XaOk K "number" [40] := xa_of (c.fact 133 (p := fun K => xaB K "number" [40]) rfl)
  have xa_value_28 : XaOk K "value" [28] := xa_of (c.fact 134 (p := fun K => xaB K "value" [28]) rfl)
  have xa_signs_27 : XaOk K "signs" [27] := xa_of (c.fact 135 (p := fun K => xaB K "signs" [27]) rfl)
  have xa_cases_46 : XaOk K "cases" [46] := xa_of (c.fact 136 (p := fun K => xaB K "cases" [46]) rfl)
  have xa_lacking_45 : XaOk K "lacking" [45] := xa_of (c.fact 137 (p := fun K => xaB K "lacking" [45]) rfl)
  have xa_index_44 : XaOk K "index" [44] := xa_of (c.fact 138 (p := fun K => xaB K "index" [44]) rfl)
  have xa_places_43 : XaOk K "places" [43] := xa_of (c.fact 139 (p := fun K => xaB K "places" [43]) rfl)
  have xa_name_47 : XaOk K "name" [47] := xa_of (c.fact 140 (p := fun K => xaB K "name" [47]) rfl)
  have o_l_fields := ok_l_fields (P := P) (w := w) (mg := mg) (base := base) F_l_fields xa_sign_26 xa_line_25 xa_line_24 xa_line_23 xa_part_22 xa_line_21 xa_stone_42 xa_number_41 xa_number_40 xa_value_28 xa_signs_27 xa_cases_46 xa_lacking_45 xa_index_44 xa_places_43 xa_name_47
  have xa_x_30_31_32_33_34_35_36_37_38_39 : XaOk K "x" [30, 31, 32, 33, 34, 35, 36, 37, 38, 39] := xa_of (c.fact 141 (p := fun K => xaB K "x" [30, 31, 32, 33, 34, 35, 36, 37, 38, 39]) rfl)
  have xa_y_30_31_32_33_34_35_36_37_38_39 : XaOk K "y" [30, 31, 32, 33, 34, 35, 36, 37, 38, 39] := xa_of (c.fact 142 (p := fun K => xaB K "y" [30, 31, 32, 33, 34, 35, 36, 37, 38, 39]) rfl)
  have n_list : mg "list" = none := He.free_ok X G (c.fact 143 (p := fun K => (He.Fa.free "list").ok K) rfl)
  have g__law_bag : Gz P w K mg base 1 "_law_bag" ["_law_script"] 63 r_l_bag := ⟨_, _, o_l_bag, He.glo_ok X G (c.fact 144 (p := fun K => (He.Fa.glo "_law_bag").ok K) rfl), F_l_bag.kp, (FunD.bindsN (ps := ["_law_script"]) F_l_bag fun _ _ _ _ _ _ us hl => match us, hl with | [_], _ => rfl)⟩
  have g__law_spots : Gf P w K mg base 3 "_law_spots" ["_law_bag_here", "_law_most"] r_l_spots := ⟨_, _, o_l_spots, He.glo_ok X G (c.fact 145 (p := fun K => (He.Fa.glo "_law_spots").ok K) rfl), F_l_spots.kp, (FunD.bindsN (ps := ["_law_bag_here", "_law_most"]) F_l_spots fun _ _ _ _ _ _ us hl => match us, hl with | [_, _], _ => rfl)⟩
  have g__law_cell_errors : Gf P w K mg base 3 "_law_cell_errors" ["_law_one", "_law_two"] r_l_cell_errors := ⟨_, _, o_l_cell_errors, He.glo_ok X G (c.fact 146 (p := fun K => (He.Fa.glo "_law_cell_errors").ok K) rfl), F_l_cell_errors.kp, (FunD.bindsN (ps := ["_law_one", "_law_two"]) F_l_cell_errors fun _ _ _ _ _ _ us hl => match us, hl with | [_, _], _ => rfl)⟩
  have g__law_is_kind : Gf P w K mg base 2 "_law_is_kind" ["_law_e", "_law_at"] r_l_is_kind := ⟨_, _, o_l_is_kind, He.glo_ok X G (c.fact 147 (p := fun K => (He.Fa.glo "_law_is_kind").ok K) rfl), F_l_is_kind.kp, (FunD.bindsN (ps := ["_law_e", "_law_at"]) F_l_is_kind fun _ _ _ _ _ _ us hl => match us, hl with | [_, _], _ => rfl)⟩
  have g__law_other_errors : Gf P w K mg base 3 "_law_other_errors" ["_law_one", "_law_row"] r_l_other_errors := ⟨_, _, o_l_other_errors, He.glo_ok X G (c.fact 148 (p := fun K => (He.Fa.glo "_law_other_errors").ok K) rfl), F_l_other_errors.kp, (FunD.bindsN (ps := ["_law_one", "_law_row"]) F_l_other_errors fun _ _ _ _ _ _ us hl => match us, hl with | [_, _], _ => rfl)⟩
  have g__law_fields : Gf P w K mg base 1 "_law_fields" ["_law_errors"] r_l_fields := ⟨_, _, o_l_fields, He.glo_ok X G (c.fact 149 (p := fun K => (He.Fa.glo "_law_fields").ok K) rfl), F_l_fields.kp, (FunD.bindsN (ps := ["_law_errors"]) F_l_fields fun _ _ _ _ _ _ us hl => match us, hl with | [_], _ => rfl)⟩
  have o_law_k24 := ok_law_k24 (P := P) (w := w) (mg := mg) (base := base) F_law_k24 n_range xa_x_30_31_32_33_34_35_36_37_38_39 xa_y_30_31_32_33_34_35_36_37_38_39 n_list g__law_bag g__law_take g__law_spots g__law_cell_errors g__law_is_kind g__law_other_errors g__law_fields
  exact o_law_k24
end LAW
open PySem PySem.W PySem.Calls PyProof.Rows
theorem PySem.Challenge.cw_smalti_k24_error_classes_holds : PySem.Challenge.rw_smalti_k24_error_classes.Holds := by
  w_on; o_law
  refine HandSHeadRun.head_any (r := OpenLaw.row PySem.Challenge.rw_smalti_k24_error_classes) (q := view (OpenLaw.row PySem.Challenge.rw_smalti_k24_error_classes).prog [42]) (H := LAW.hk) (ob := LAW.ob) (M := 30000) (loose := LAW.nms) (d := HandSHeadRun.topDef (OpenLaw.row PySem.Challenge.rw_smalti_k24_error_classes).prog 42) (kwd := []) LAW.ob_eq
    (by kernel_rfl) (fun s => by kernel_rfl) LAW.run (by kernel_rfl) (by kernel_rfl) (by kernel_rfl) (by rfl) (by first | assumption | decide +kernel) (by decide +kernel) ⟨rfl, rfl, rfl, rfl, rfl, by decide +kernel⟩ ?hw ?hc
  case hw => w_witness2
  case hc =>
    refine SM.walk_law (l := PySem.Challenge.rw_smalti_k24_error_classes) (k := 4) (x := "_law_script") rfl (by kernel_rfl) ⟨rfl, by decide, by decide⟩ ?F
    intro w mg fa h Y G hmg0
    obtain ⟨K, KX, c⟩ := Y
    have hmg : mg ("law" : PySem.Str) = some (.ref fa) := by
      have e : (HandSHeadRun.topDef (OpenLaw.row PySem.Challenge.rw_smalti_k24_error_classes).prog 42).name = ("law" : PySem.Str) := by kernel_rfl
      rw [← e]
      exact hmg0
    obtain ⟨fd, hb, hF⟩ := LAW.facts (P := (PySem.Challenge.rw_smalti_k24_error_classes).prog) (w := w) KX G hmg c
    exact ⟨K, fd, KX, hb, hF⟩
