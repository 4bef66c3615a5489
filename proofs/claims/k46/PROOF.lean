import PyProof.Rows.All
import Wide.All
import OpenK.AllK
import Wide.FinOn
import HandS.ForMost
import HandS.ForExc
import HandS.Wide
import HandS.Walk
import HandS.IsInst
import KE.KDictKeyed
import HandS.WideBits
import HandS.ExcIs
import HandS.TryOnly
import HandS.More
import HandS.Rev
import HandS.Style
import PyProof.StrBlock2
import PyProof.Rows.StrSplitAre
import PyProof.Rows.StrItems
import PyProof.Rows.RegStrFacts
import HandS.StrMore
import HandS.SortInts
import PyProof.Rows.StrCut
import KE.IntTextText
import KE.IntTextLaws
import KE.LtSeq
import HandS.Dict
import HandS.FStr
import KE.KDictDisplayH
import HandS.EndBits
import PySem.Challenge.RW_oddbases_k46_machine_rows
set_option Elab.async false
set_option linter.all false
set_option maxRecDepth 100000
set_option maxHeartbeats 1000000
namespace DD
open PySem PySem.Spec PyProof.Rows L2

/-! ### data -/
inductive D where
  | non | bl (b : Bool) | int (i : Int) | str (x : Str)
  | tup (xs : List D) | lst (xs : List D) | scr (xs : List D)
  | own (xs : List D) | bor (xs : List D)
  | ins (C : Str) (ns : List Str) (xs : List D)
  | exc (C : Str)
  | dct (ks : List NestedKey) (xs : List D)

/-- the written part, and where the classes stand by name -/
structure Nm where
  K : PySem.W.Frag
  ad : Str → Addr
  w : World
/-- a caught exception of the class at C, kept -/
def XO (C a : Addr) : HO := .ext fun h => ∃ (oe : Obj) (vs : Array Value), h.get? a = some oe ∧ Zc (.ref C) none oe ∧ oe.data = .fields vs

/-! a key, by the tuples that are known -/
mutual
inductive KR (G : Hp) : NestedKey → V → Prop
  | num (i : Int) : KR G (.num i) (.int i)
  | text (x : Str) : KR G (.text x) (.str x)
  | tup {a : Addr} {vs : List V} {ks : List NestedKey} : G a = some (.tup vs) → KRs G ks vs → KR G (.tup ks) (.ref a)
inductive KRs (G : Hp) : List NestedKey → List V → Prop
  | nil : KRs G [] []
  | cons {k : NestedKey} {v : V} {ks : List NestedKey} {vs : List V} : KR G k v → KRs G ks vs → KRs G (k :: ks) (v :: vs)
end
mutual
theorem KR.mono {G G' : Hp} (h : Same G G') : ∀ (k : NestedKey) (v : V), KR G k v → KR G' k v
  | _, _, .num i => .num i
  | _, _, .text x => .text x
  | _, _, .tup e q => .tup (h _ _ e) (KRs.mono h _ _ q)
theorem KRs.mono {G G' : Hp} (h : Same G G') : ∀ (ks : List NestedKey) (vs : List V), KRs G ks vs → KRs G' ks vs
  | _, _, .nil => .nil
  | _, _, .cons r q => .cons (KR.mono h _ _ r) (KRs.mono h _ _ q)
end
/-- an entry of a dict: its key, where the key stands, its value -/
abbrev Ent := NestedKey × Addr × V
/-- the dict at a: its keys are tuples -/
def DXO (w : World) (a : Addr) (es : List Ent) : HO := .ext fun h => a ≠ sysModules ∧ (es.map (·.1)).Nodup ∧ es.length ≤ sizeLine ∧ (∀ e ∈ es, e.1.depth ≤ 8) ∧ ∃ ys : List (NestedKey × Addr × Value), Paired (fun (x : Ent) (y : NestedKey × Addr × Value) => x.1 = y.1 ∧ x.2.1 = y.2.1 ∧ RelV x.2.2 y.2.2) es ys ∧
  ∃ o ds ep, h.get? a = some o ∧ o.ExactDict ∧ o.data = .dict ds ep ∧ ds.toList = ys.map fun y => ⟨y.1.hash w, .ref y.2.1, y.2.2⟩

mutual
inductive Rep (nm : Nm) (G : Hp) : V → D → Prop
  | non : Rep nm G .non .non
  | bl (b : Bool) : Rep nm G (.bl b) (.bl b)
  | int (i : Int) : Rep nm G (.int i) (.int i)
  | str (x : Str) : Rep nm G (.str x) (.str x)
  | tup {a : Addr} {vs : List V} {ds : List D} : G a = some (.tup vs) → Reps nm G vs ds → Rep nm G (.ref a) (.tup ds)
  | lst {a : Addr} {vs : List V} {ds : List D} : G a = some (.lst vs) → Reps nm G vs ds → Rep nm G (.ref a) (.lst ds)
  | scr {a : Addr} {vs : List V} {ds : List D} : SqL nm.K G a vs → Reps nm G vs ds → Rep nm G (.ref a) (.scr ds)
  | ins {a : Addr} {C : Str} {dx : Addr} {ns : List Str} {vs : List V} {ds : List D} : G a = some (.ins (nm.ad C) dx (ns.zip vs)) → Reps nm G vs ds → Rep nm G (.ref a) (.ins C ns ds)
  | exc {a : Addr} {C : Str} : G a = some (XO (nm.ad C) a) → Rep nm G (.ref a) (.exc C)
  | dct {a : Addr} {es : List Ent} {ks : List NestedKey} {ds : List D} : G a = some (DXO nm.w a es) → es.map (·.1) = ks → KRs G ks (es.map fun e => .ref e.2.1) → Reps nm G (es.map (·.2.2)) ds → Rep nm G (.ref a) (.dct ks ds)
inductive Reps (nm : Nm) (G : Hp) : List V → List D → Prop
  | nil : Reps nm G [] []
  | cons {v : V} {vs : List V} {d : D} {ds : List D} : Rep nm G v d → Reps nm G vs ds → Reps nm G (v :: vs) (d :: ds)
end

section
variable {nm : Nm} {G G' : Hp}
mutual
theorem Rep.mono (h : Same G G') : ∀ (d : D) (v : V), Rep nm G v d → Rep nm G' v d
  | .non, _, r => by cases r; exact .non
  | .bl b, _, r => by cases r; exact .bl b
  | .int i, _, r => by cases r; exact .int i
  | .str x, _, r => by cases r; exact .str x
  | .tup ds, _, r => by
    cases r with
    | tup e q => exact .tup (h _ _ e) (Reps.mono h ds _ q)
  | .lst ds, _, r => by
    cases r with
    | lst e q => exact .lst (h _ _ e) (Reps.mono h ds _ q)
  | .scr ds, _, r => by
    cases r with
    | scr e q => exact .scr (Same.seq h e) (Reps.mono h ds _ q)
  | .own _, _, r => by cases r
  | .bor _, _, r => by cases r
  | .ins C ns ds, _, r => by
    cases r with
    | ins e q => exact .ins (h _ _ e) (Reps.mono h ds _ q)
  | .exc C, _, r => by
    cases r with
    | exc e => exact .exc (h _ _ e)
  | .dct ks ds, _, r => by
    cases r with
    | dct e1 e2 q1 q2 => exact .dct (h _ _ e1) e2 (KRs.mono h _ _ q1) (Reps.mono h ds _ q2)
theorem Reps.mono (h : Same G G') : ∀ (ds : List D) (vs : List V), Reps nm G vs ds → Reps nm G' vs ds
  | [], _, r => by cases r; exact .nil
  | d :: ds, _, r => by
    cases r with
    | cons e q => exact .cons (Rep.mono h d _ e) (Reps.mono h ds _ q)
end
theorem Reps.length : ∀ {ds : List D} {vs : List V}, Reps nm G vs ds → vs.length = ds.length
  | _, _, .nil => rfl
  | _, _, .cons _ q => by simp [Reps.length q]
theorem Reps.get : ∀ {ds : List D} {vs : List V} {i : Nat} {d : D}, Reps nm G vs ds → ds[i]? = some d → ∃ v, vs[i]? = some v ∧ Rep nm G v d
  | _, _, _, _, .nil, e => by simp at e
  | _, _, 0, _, .cons r _, e => by simp at e; subst e; exact ⟨_, rfl, r⟩
  | _, _, i + 1, _, .cons _ q, e => by
    obtain ⟨v, h1, h2⟩ := Reps.get q (i := i) (by simpa using e)
    exact ⟨v, by simpa using h1, h2⟩
theorem Reps.getV : ∀ {ds : List D} {vs : List V} {i : Nat} {v : V}, Reps nm G vs ds → vs[i]? = some v → ∃ d, ds[i]? = some d ∧ Rep nm G v d
  | _, _, _, _, .nil, e => by simp at e
  | _, _, 0, _, .cons r _, e => by simp at e; subst e; exact ⟨_, rfl, r⟩
  | _, _, i + 1, _, .cons _ q, e => by
    obtain ⟨v, h1, h2⟩ := Reps.getV q (i := i) (by simpa using e)
    exact ⟨v, by simpa using h1, h2⟩
theorem Reps.append : ∀ {ds es : List D} {vs us : List V}, Reps nm G vs ds → Reps nm G us es → Reps nm G (vs ++ us) (ds ++ es)
  | _, _, _, _, .nil, q => q
  | _, _, _, _, .cons r t, q => .cons r (Reps.append t q)
theorem Reps.take : ∀ {ds : List D} {vs : List V} (n : Nat), Reps nm G vs ds → Reps nm G (vs.take n) (ds.take n)
  | _, _, 0, _ => .nil
  | _, _, _ + 1, .nil => .nil
  | _, _, n + 1, .cons r t => .cons r (Reps.take n t)
theorem Reps.drop : ∀ {ds : List D} {vs : List V} (n : Nat), Reps nm G vs ds → Reps nm G (vs.drop n) (ds.drop n)
  | _, _, 0, r => r
  | _, _, _ + 1, .nil => .nil
  | _, _, n + 1, .cons _ t => Reps.drop n t
theorem Reps.set : ∀ {ds : List D} {vs : List V} {v : V} {d : D} (i : Nat), Reps nm G vs ds → Rep nm G v d → Reps nm G (vs.set i v) (ds.set i d)
  | _, _, _, _, _, .nil, _ => .nil
  | _, _, _, _, 0, .cons _ t, q => .cons q t
  | _, _, _, _, i + 1, .cons r t, q => .cons r (Reps.set i t q)
theorem Reps.reverse : ∀ {ds : List D} {vs : List V}, Reps nm G vs ds → Reps nm G vs.reverse ds.reverse
  | _, _, .nil => .nil
  | _, _, .cons r t => by
    rw [List.reverse_cons, List.reverse_cons]
    exact (Reps.reverse t).append (.cons r .nil)
theorem Reps.dropLast {ds : List D} {vs : List V} (h : Reps nm G vs ds) : Reps nm G vs.dropLast ds.dropLast := by
  rw [List.dropLast_eq_take, List.dropLast_eq_take, h.length]
  exact h.take _
end

/-- from (G, H) to (G', H'), an expression begun at H0: what was known stays, what is new in G' was not there at H0 -/
structure Ext (H0 G H G' H' : Hp) : Prop where
  g : Same G G'
  h : Same H H'
  gh : Same G' H'
  new : ∀ a, G a = none → H0 a ≠ none → G' a = none
section
variable {H0 H1 G H G' H' G2 H2 : Hp}
theorem Ext.refl (gh : Same G H) : Ext H0 G H G H := ⟨Same.refl G, Same.refl H, gh, fun _ e _ => e⟩
theorem Ext.trans (a : Ext H0 G H G' H') (b : Ext H0 G' H' G2 H2) : Ext H0 G H G2 H2 :=
  ⟨a.g.trans b.g, a.h.trans b.h, b.gh, fun x e n => b.new x (a.new x e n) n⟩
theorem Ext.from (s : Same H0 H1) (b : Ext H1 G H G' H') : Ext H0 G H G' H' :=
  ⟨b.g, b.h, b.gh, fun x e n => b.new x e (fun z => by
    cases q : H0 x with
    | none => exact n q
    | some o => rw [s x o q] at z; cases z)⟩
/-- only H grows -/
theorem Ext.grow (gh : Same G H) (h : Same H H') : Ext H0 G H G H' := ⟨Same.refl G, h, gh.trans h, fun _ e _ => e⟩
end
theorem same_upd {H : Hp} {p : Addr} {o : HO} (h : H p = none) : Same H (upd H p o) := fun b x e => by
  rw [upd_ne (ne_of_none e h)]
  exact e

/-- a value that an expression gives; H0: where the expression began -/
def RepV (nm : Nm) (H0 G H : Hp) (v : V) : D → Prop
  | .own l => ∃ p vs, v = .ref p ∧ H p = some (.lst vs) ∧ G p = none ∧ H0 p = none ∧ Reps nm G vs l
  | .bor l => ∃ p vs, v = .ref p ∧ H p = some (.lst vs) ∧ G p = none ∧ Reps nm G vs l
  | d => Rep nm G v d
def isOwn : D → Bool
  | .own _ => true
  | _ => false
def isBor : D → Bool
  | .bor _ => true
  | _ => false
def flat1 : D → Bool
  | .own _ => false
  | .bor _ => false
  | _ => true
def frz : D → D
  | .own l => .lst l
  | .bor l => .lst l
  | d => d
section
variable {nm : Nm} {H0 G H G' H' : Hp} {v : V} {d : D}
theorem RepV.of (r : Rep nm G v d) : RepV nm H0 G H v d := by
  cases d <;> first | exact r | cases r
theorem RepV.ext (r : RepV nm H0 G H v d) (x : Ext H G H G' H') : RepV nm H0 G' H' v d := by
  cases d with
  | own l =>
    obtain ⟨p, vs, rfl, e, n, n0, q⟩ := r
    exact ⟨p, vs, rfl, x.h _ _ e, x.new p n (by rw [e]; exact fun z => by cases z), n0, q.mono x.g⟩
  | bor l =>
    obtain ⟨p, vs, rfl, e, n, q⟩ := r
    exact ⟨p, vs, rfl, x.h _ _ e, x.new p n (by rw [e]; exact fun z => by cases z), q.mono x.g⟩
  | _ => exact Rep.mono x.g _ _ r
theorem RepV.from {H1 : Hp} (s : Same H0 H1) (r : RepV nm H1 G H v d) : RepV nm H0 G H v d := by
  cases d with
  | own l =>
    obtain ⟨p, vs, rfl, e, n, n0, q⟩ := r
    exact ⟨p, vs, rfl, e, n, s.free n0, q⟩
  | bor l => exact r
  | _ => exact r
/-- a value that is no borrowed one is frozen -/
theorem RepV.freeze (r : RepV nm H0 G H v d) (gh : Same G H) (nb : isBor d = false) : ∃ G', Ext H0 G H G' H ∧ Rep nm G' v (frz d) := by
  cases d with
  | own l =>
    obtain ⟨p, vs, rfl, e, n, n0, q⟩ := r
    have sm : Same G (upd G p (.lst vs)) := same_upd n
    refine ⟨upd G p (.lst vs), ⟨sm, Same.refl H, fun b o eb => ?_, fun a ea na => ?_⟩, .lst upd_same (q.mono sm)⟩
    · by_cases hb : b = p
      · subst hb; rw [upd_same] at eb; cases eb; exact e
      · rw [upd_ne hb] at eb; exact gh _ _ eb
    · rw [upd_ne (fun z => na (by rw [z]; exact n0))]; exact ea
  | bor l => cases nb
  | _ => exact ⟨G, Ext.refl gh, r⟩
end

/-! ### the names' values -/
abbrev Env := List (Option D)
/-- slots whose values' addresses are known: that of a list which a def changes; others -/
structure Pin where
  o : Option (Nat × Addr) := none
  l : List (Nat × Addr) := []
def npo : Option (Nat × Addr) → Nat → Bool
  | none, _ => true
  | some (j, _), i => j != i
def npb (pp : Pin) (i : Nat) : Bool := npo pp.o i && pp.l.all fun q => q.1 != i
theorem npb_ne {pp : Pin} {i j : Nat} {p : Addr} (h : npb pp i = true) (e : pp.o = some (j, p) ∨ (j, p) ∈ pp.l) : j ≠ i := by
  unfold npb at h
  rw [Bool.and_eq_true] at h
  rcases e with e | e
  · have h := h.1
    rw [e] at h
    simpa [npo] using h
  · have := List.all_eq_true.mp h.2 _ e
    simpa using this
structure Rel (nm : Nm) (G0 B : Hp) (pp : Pin) (G H : Hp) (σ : L2.St) (ρ : Env) : Prop where
  ext : Ext B G0 B G H
  len : ρ.length = σ.length
  slot : ∀ (i : Nat) (d : D), ρ[i]? = some (some d) → ∃ v, σ[i]? = some (some v) ∧ RepV nm B G H v d ∧ isBor d = false
  apart : ∀ (i j : Nat) (l l' : List D) (p : Addr), ρ[i]? = some (some (.own l)) → ρ[j]? = some (some (.own l')) → i ≠ j → σ[i]? = some (some (.ref p)) → σ[j]? ≠ some (some (.ref p))
  pin : ∀ (i : Nat) (p : Addr), pp.o = some (i, p) ∨ (i, p) ∈ pp.l → σ[i]? = some (some (.ref p))
section
variable {nm : Nm} {pp : Pin} {G0 B G H G' H' : Hp} {σ : L2.St} {ρ : Env}
theorem Rel.gh (r : Rel nm G0 B pp G H σ ρ) : Same G H := r.ext.gh
theorem Rel.bh (r : Rel nm G0 B pp G H σ ρ) : Same B H := r.ext.h
theorem Rel.go (r : Rel nm G0 B pp G H σ ρ) (x : Ext H G H G' H') : Rel nm G0 B pp G' H' σ ρ := by
  refine ⟨r.ext.trans (Ext.from r.bh x), r.len, fun i d e => ?_, r.apart, r.pin⟩
  obtain ⟨v, e1, q, nb⟩ := r.slot i d e
  exact ⟨v, e1, q.ext x, nb⟩
/-- ρ' says less than ρ -/
def Weak (ρ ρ' : Env) : Prop := ρ'.length = ρ.length ∧ ∀ (i : Nat) (d : D), ρ'[i]? = some (some d) → ρ[i]? = some (some d)
theorem Weak.refl (ρ : Env) : Weak ρ ρ := ⟨rfl, fun _ _ h => h⟩
theorem Weak.trans {ρ ρ1 ρ2 : Env} (a : Weak ρ ρ1) (b : Weak ρ1 ρ2) : Weak ρ ρ2 := ⟨b.1.trans a.1, fun i d h => a.2 i d (b.2 i d h)⟩
theorem weak_nil : Weak [] [] := Weak.refl _
theorem weak_keep {x : Option D} {ρ ρ' : Env} (h : Weak ρ ρ') : Weak (x :: ρ) (x :: ρ') := by
  refine ⟨by simp [h.1], fun i d e => ?_⟩
  cases i with
  | zero => simpa using e
  | succ i => simpa using h.2 i d (by simpa using e)
theorem weak_drop {x : Option D} {ρ ρ' : Env} (h : Weak ρ ρ') : Weak (x :: ρ) (none :: ρ') := by
  refine ⟨by simp [h.1], fun i d e => ?_⟩
  cases i with
  | zero => simp at e
  | succ i => simpa using h.2 i d (by simpa using e)
theorem Rel.weak {ρ' : Env} (r : Rel nm G0 B pp G H σ ρ) (w : Weak ρ ρ') : Rel nm G0 B pp G H σ ρ' :=
  ⟨r.ext, w.1.trans r.len, fun i d e => r.slot i d (w.2 i d e), fun i j l l' p h1 h2 => r.apart i j l l' p (w.2 _ _ h1) (w.2 _ _ h2), r.pin⟩
/-- a value is stored -/
theorem Rel.set {v : V} {d : D} (r : Rel nm G0 B pp G H σ ρ) (i : Nat) (hh : Ext H G H G' H') (q : RepV nm H G' H' v d) (nb : isBor d = false) (np : npb pp i = true) : Rel nm G0 B pp G' H' (σ.set i (some v)) (ρ.set i (some d)) := by
  have r2 := r.go hh
  refine ⟨r2.ext, by simp [r2.len], fun j e ej => ?_, fun j k l l' p hj hk hjk e1 e2 => ?_, fun j q e => by rw [List.getElem?_set_ne (npb_ne np e).symm]; exact r.pin j q e⟩
  · by_cases hij : i = j
    · subst hij
      by_cases hi : i < ρ.length
      · rw [List.getElem?_set_self hi] at ej
        cases ej
        exact ⟨v, by rw [List.getElem?_set_self (by rw [← r.len]; exact hi)], q.from r.bh, nb⟩
      · rw [List.getElem?_eq_none (by simpa using hi)] at ej; cases ej
    · rw [List.getElem?_set_ne hij] at ej
      obtain ⟨u, h1, h2, h3⟩ := r2.slot j e ej
      exact ⟨u, by rw [List.getElem?_set_ne hij]; exact h1, h2, h3⟩
  · -- two own lists
    have fresh : ∀ (m : Nat) (l : List D), m ≠ i → ρ[m]? = some (some (.own l)) → ∀ (l2 : List D), d = .own l2 → σ[m]? = some (some (.ref p)) → v = .ref p → False := fun m l hm h1 l2 h2 h3 h4 => by
      subst h2
      obtain ⟨u, g1, ⟨p', vs, rfl, g2, _⟩, _⟩ := r.slot m _ h1
      obtain ⟨p2, vs2, rfl, _, _, g3, _⟩ := q
      rw [h3] at g1
      cases g1
      cases h4
      rw [g3] at g2
      cases g2
    by_cases hij : i = j
    · subst hij
      have hi : i < ρ.length := by
        by_cases hi : i < ρ.length
        · exact hi
        · rw [List.getElem?_eq_none (by simpa using hi)] at hj; cases hj
      rw [List.getElem?_set_self hi] at hj
      rw [List.getElem?_set_self (by rw [← r.len]; exact hi)] at e1
      rw [List.getElem?_set_ne hjk] at hk e2
      cases hj
      cases e1
      exact fresh k l' (fun z => hjk z.symm) hk _ rfl e2 rfl
    · by_cases hik : i = k
      · subst hik
        have hi : i < ρ.length := by
          by_cases hi : i < ρ.length
          · exact hi
          · rw [List.getElem?_eq_none (by simpa using hi)] at hk; cases hk
        rw [List.getElem?_set_self hi] at hk
        rw [List.getElem?_set_self (by rw [← r.len]; exact hi)] at e2
        rw [List.getElem?_set_ne hij] at hj e1
        cases hk
        cases e2
        exact fresh j l (fun z => hij z.symm) hj _ rfl e1 rfl
      · rw [List.getElem?_set_ne hij] at hj e1
        rw [List.getElem?_set_ne hik] at hk e2
        exact r2.apart j k l l' p hj hk hjk e1 e2
end

/-! ### the judgements -/
structure Sit where
  X : Cx
  nm : Nm
  G0 : Hp
  B : Hp
  ex : Str → Env → Prop
  kk : nm.K = X.K
  ww : nm.w = X.w := by rfl
  pp : Pin := {}
  tt : Bool := false
abbrev Sit.Rel (S : Sit) (G H : Hp) (σ : L2.St) (ρ : Env) : Prop := DD.Rel S.nm S.G0 S.B S.pp G H σ ρ

def WX (X : Cx) (e : Expr) : TE := fun σ H Q => ∀ (pins : List (Addr × Obj)) (s : Shared), Inv X pins σ H s → wpAny (model X.prog X.w) X.A (eval e X.env) (EP X pins σ Q) X.xe s
def WT (X : Cx) (e : Expr) : TT := fun σ H Q => ∀ (pins : List (Addr × Obj)) (s : Shared), Inv X pins σ H s → wpAny (model X.prog X.w) X.A (isTrue e X.env (eval e X.env)) (TP X pins σ Q) X.xe s
def WW (X : Cx) (e : Expr) : TT := fun σ H Q => ∀ (whole : Sem Value) (pins : List (Addr × Obj)) (s : Shared), Inv X pins σ H s → wpAny (model X.prog X.w) X.A (isTrue e X.env whole) (TP X pins σ Q) X.xe s
def WA (X : Cx) (es : List Expr) : TA := fun σ H Q => ∀ (pos : Pos) (pins : List (Addr × Obj)) (s : Shared), Inv X pins σ H s → wpAny (model X.prog X.w) X.A (spliced (backTo pos (starEach es X.env))) (AP X pins σ Q) X.xe s
def WS (X : Cx) (st : Stmt) : TS := fun D σ H => ∀ (pins : List (Addr × Obj)) (s : Shared), Inv X pins σ H s → wpAny (model X.prog X.w) X.A (exec st X.env) (SP X pins D) X.xe s
def WSs (X : Cx) (st : List Stmt) : TS := fun D σ H => ∀ (pins : List (Addr × Obj)) (s : Shared), Inv X pins σ H s → wpAny (model X.prog X.w) X.A (execs st X.env) (SP X pins D) X.xe s
def WG (X : Cx) (target : Expr) : TG := fun v σ H Q => ∀ (pins : List (Addr × Obj)) (s : Shared) (u : Value), Inv X pins σ H s → RelV v u → wpAny (model X.prog X.w) X.A (assign target X.env u) (fun _ s' => ∃ σ' H', Inv X pins σ' H' s' ∧ Q σ' H') X.xe s
def WGs (X : Cx) (ts : List Expr) : TGs := fun vs σ H Q => ∀ (pins : List (Addr × Obj)) (s : Shared) (us : List Value), Inv X pins σ H s → Vals vs us → wpAny (model X.prog X.w) X.A (assignInOrder ((assignEach ts X.env).map (·.2)) us) (fun _ s' => ∃ σ' H', Inv X pins σ' H' s' ∧ Q σ' H') X.xe s
def WI (X : Cx) (tg iter : Expr) : TI := fun σ H R => ∀ (pins : List (Addr × Obj)) (s : Shared), Inv X pins σ H s →
    wpAny (model X.prog X.w) X.A (eval iter X.env) (fun v s1 => wpAny (model X.prog X.w) X.A (pyIter v) (PIE X pins σ tg R) X.xe s1) X.xe s
section
variable {X : Cx} {e : Expr} {es : List Expr} {st : Stmt} {sts : List Stmt}
theorem pe_w : PE X e (WX X e) := ⟨fun pins s _ _ _ I h => h pins s I⟩
theorem pt_w : PT X e (WT X e) := ⟨fun pins s _ _ _ I h => h pins s I⟩
theorem pw_w : PW X e (WW X e) := ⟨fun wh pins s _ _ _ I h => h wh pins s I⟩
theorem pa_w : PA X es (WA X es) := ⟨fun pos pins s _ _ _ I h => h pos pins s I⟩
theorem ps_w : PS X st (WS X st) := ⟨fun pins s _ _ _ I h => h pins s I⟩
theorem pss_w : PSs X sts (WSs X sts) := ⟨fun pins s _ _ _ I h => h pins s I⟩
theorem pg_w : PG X e (WG X e) := ⟨fun pins s _ _ _ u _ I r h => h pins s u I r⟩
theorem pgs_w : PGs X es (WGs X es) := ⟨fun pins s _ _ _ us _ I r h => h pins s us I r⟩
theorem pi_w {tg : Expr} : PI X tg e (WI X tg e) := ⟨fun pins s _ _ _ I h => h pins s I⟩
theorem WX.of {t : TE} {σ : L2.St} {H : Hp} {Q : VK} (h : PE X e t) (q : t σ H Q) : WX X e σ H Q := fun pins s I => h.run pins s σ H Q I q
theorem WT.of {t : TT} {σ : L2.St} {H : Hp} {Q : Bool → Hp → Prop} (h : PT X e t) (q : t σ H Q) : WT X e σ H Q := fun pins s I => h.run pins s σ H Q I q
theorem WW.of {t : TT} {σ : L2.St} {H : Hp} {Q : Bool → Hp → Prop} (h : PW X e t) (q : t σ H Q) : WW X e σ H Q := fun wh pins s I => h.run wh pins s σ H Q I q
theorem WA.of {t : TA} {σ : L2.St} {H : Hp} {Q : List V → Hp → Prop} (h : PA X es t) (q : t σ H Q) : WA X es σ H Q := fun pos pins s I => h.run pos pins s σ H Q I q
theorem WS.of {t : TS} {σ : L2.St} {H : Hp} {D : Ends} (h : PS X st t) (q : t D σ H) : WS X st D σ H := fun pins s I => h.run pins s σ H D I q
theorem WSs.of {t : TS} {σ : L2.St} {H : Hp} {D : Ends} (h : PSs X sts t) (q : t D σ H) : WSs X sts D σ H := fun pins s I => h.run pins s σ H D I q
theorem WX.mono {σ : L2.St} {H : Hp} {Q Q' : VK} (h : WX X e σ H Q) (m : ∀ v H', Q v H' → Q' v H') : WX X e σ H Q' := fun pins s I => thn (h pins s I) fun _ _ ⟨v, H', I', r, q⟩ => ⟨v, H', I', r, m v H' q⟩
theorem WT.mono {σ : L2.St} {H : Hp} {Q Q' : Bool → Hp → Prop} (h : WT X e σ H Q) (m : ∀ v H', Q v H' → Q' v H') : WT X e σ H Q' := fun pins s I => thn (h pins s I) fun _ _ ⟨H', I', q⟩ => ⟨H', I', m _ H' q⟩
theorem WW.mono {σ : L2.St} {H : Hp} {Q Q' : Bool → Hp → Prop} (h : WW X e σ H Q) (m : ∀ v H', Q v H' → Q' v H') : WW X e σ H Q' := fun wh pins s I => thn (h wh pins s I) fun _ _ ⟨H', I', q⟩ => ⟨H', I', m _ H' q⟩
theorem WA.mono {σ : L2.St} {H : Hp} {Q Q' : List V → Hp → Prop} (h : WA X es σ H Q) (m : ∀ v H', Q v H' → Q' v H') : WA X es σ H Q' := fun pos pins s I => thn (h pos pins s I) fun _ _ ⟨vs, H', I', r, q⟩ => ⟨vs, H', I', r, m _ H' q⟩
theorem SP.mono {pins : List (Addr × Obj)} {D D' : Ends} {f : Flow} {s : Shared} (h : SP X pins D f s) (h1 : ∀ σ H, D.nx σ H → D'.nx σ H) (h2 : ∀ v H, D.rt v H → D'.rt v H) (h3 : ∀ σ H, D.bk σ H → D'.bk σ H) (h4 : ∀ σ H, D.ct σ H → D'.ct σ H) : SP X pins D' f s := by
  cases f with
  | next => obtain ⟨σ', H', I, q⟩ := h; exact ⟨σ', H', I, h1 _ _ q⟩
  | brk => obtain ⟨σ', H', I, q⟩ := h; exact ⟨σ', H', I, h3 _ _ q⟩
  | cont => obtain ⟨σ', H', I, q⟩ := h; exact ⟨σ', H', I, h4 _ _ q⟩
  | ret u => obtain ⟨v, σ', H', I, r, q⟩ := h; exact ⟨v, σ', H', I, r, h2 _ _ q⟩
theorem WS.mono {σ : L2.St} {H : Hp} {D D' : Ends} (h : WS X st D σ H) (h1 : ∀ σ H, D.nx σ H → D'.nx σ H) (h2 : ∀ v H, D.rt v H → D'.rt v H) (h3 : ∀ σ H, D.bk σ H → D'.bk σ H) (h4 : ∀ σ H, D.ct σ H → D'.ct σ H) : WS X st D' σ H :=
  fun pins s I => thn (h pins s I) fun _ _ q => DD.SP.mono q h1 h2 h3 h4
theorem WSs.mono {σ : L2.St} {H : Hp} {D D' : Ends} (h : WSs X sts D σ H) (h1 : ∀ σ H, D.nx σ H → D'.nx σ H) (h2 : ∀ v H, D.rt v H → D'.rt v H) (h3 : ∀ σ H, D.bk σ H → D'.bk σ H) (h4 : ∀ σ H, D.ct σ H → D'.ct σ H) : WSs X sts D' σ H :=
  fun pins s I => thn (h pins s I) fun _ _ q => DD.SP.mono q h1 h2 h3 h4
theorem WG.mono {v : V} {σ : L2.St} {H : Hp} {Q Q' : L2.St → Hp → Prop} (h : WG X e v σ H Q) (m : ∀ σ' H', Q σ' H' → Q' σ' H') : WG X e v σ H Q' := fun pins s u I r => thn (h pins s u I r) fun _ _ ⟨σ', H', I', q⟩ => ⟨σ', H', I', m _ _ q⟩
theorem WGs.mono {vs : List V} {σ : L2.St} {H : Hp} {Q Q' : L2.St → Hp → Prop} (h : WGs X es vs σ H Q) (m : ∀ σ' H', Q σ' H' → Q' σ' H') : WGs X es vs σ H Q' := fun pins s u I r => thn (h pins s u I r) fun _ _ ⟨σ', H', I', q⟩ => ⟨σ', H', I', m _ _ q⟩
end

abbrev TD := Env → (D → Prop) → Prop
abbrev TDs := Env → (List D → Prop) → Prop
abbrev TDt := Env → (Bool → Prop) → Prop
structure DE where
  nx : Env → Prop
  rt : D → Prop
  bk : Env → Prop := fun _ => False
  ct : Env → Prop := fun _ => False
abbrev TDS := DE → Env → Prop
abbrev TDG := D → Env → (Env → Prop) → Prop
abbrev TDGs := List D → Env → (Env → Prop) → Prop
abbrev TDI := Env → (List D → Prop) → Prop

inductive RepVs (nm : Nm) (H0 G H : Hp) : List V → List D → Prop
  | nil : RepVs nm H0 G H [] []
  | cons {v : V} {vs : List V} {d : D} {ds : List D} : RepV nm H0 G H v d → RepVs nm H0 G H vs ds → RepVs nm H0 G H (v :: vs) (d :: ds)
theorem RepVs.ext {nm : Nm} {H0 G H G' H' : Hp} (x : Ext H G H G' H') : ∀ {vs : List V} {ds : List D}, RepVs nm H0 G H vs ds → RepVs nm H0 G' H' vs ds
  | _, _, .nil => .nil
  | _, _, .cons r q => .cons (r.ext x) (RepVs.ext x q)
theorem RepVs.from {nm : Nm} {H0 H1 G H : Hp} (x : Same H0 H1) : ∀ {vs : List V} {ds : List D}, RepVs nm H1 G H vs ds → RepVs nm H0 G H vs ds
  | _, _, .nil => .nil
  | _, _, .cons r q => .cons (r.from x) (RepVs.from x q)

structure JE (S : Sit) (e : Expr) (τ : TD) : Prop where
  run : ∀ (G H : Hp) (σ : L2.St) (ρ : Env) (Q : D → Prop), S.Rel G H σ ρ → τ ρ Q → WX S.X e σ H fun v H' => ∃ G' d, Ext H G H G' H' ∧ RepV S.nm H G' H' v d ∧ Q d
structure JA (S : Sit) (es : List Expr) (τ : TDs) : Prop where
  run : ∀ (G H : Hp) (σ : L2.St) (ρ : Env) (Q : List D → Prop), S.Rel G H σ ρ → τ ρ Q → WA S.X es σ H fun vs H' => ∃ G' ds, Ext H G H G' H' ∧ RepVs S.nm H G' H' vs ds ∧ Q ds
structure JT (S : Sit) (e : Expr) (τ : TDt) : Prop where
  run : ∀ (G H : Hp) (σ : L2.St) (ρ : Env) (Q : Bool → Prop), S.Rel G H σ ρ → τ ρ Q → WT S.X e σ H fun b H' => ∃ G', Ext H G H G' H' ∧ Q b
structure JW (S : Sit) (e : Expr) (τ : TDt) : Prop where
  run : ∀ (G H : Hp) (σ : L2.St) (ρ : Env) (Q : Bool → Prop), S.Rel G H σ ρ → τ ρ Q → WW S.X e σ H fun b H' => ∃ G', Ext H G H G' H' ∧ Q b
/-- the ends, from a statement begun at Gs: what was frozen stays so -/
def wRt (nm : Nm) (pp : Pin) (G H : Hp) (d : D) (rt : D → Prop) : Prop := match pp.o with
  | none => rt d
  | some (_, p) => flat1 d = true ∧ ∃ vs l, H p = some (.lst vs) ∧ G p = none ∧ Reps nm G vs l ∧ rt (.tup [d, .lst l])
def wR (S : Sit) (v : V) (H : Hp) (rt : D → Prop) : Prop := match S.tt with
  | false => ∃ G d, Ext S.B S.G0 S.B G H ∧ RepV S.nm S.B G H v d ∧ isBor d = false ∧ wRt S.nm S.pp G H d rt
  | true => ∃ G pt v0 v1 d0 d1, Ext S.B S.G0 S.B G H ∧ v = .ref pt ∧ S.B pt = none ∧ H pt = some (.tup [v0, v1]) ∧ (RepV S.nm S.B G H v0 d0 ∧ isBor d0 = false) ∧ RepV S.nm S.B G H v1 d1 ∧ isBor d1 = false ∧ rt (.tup [d0, d1])
theorem wR_false {S : Sit} {v : V} {H : Hp} {rt : D → Prop} (ht : S.tt = false) (h : ∃ G d, Ext S.B S.G0 S.B G H ∧ RepV S.nm S.B G H v d ∧ isBor d = false ∧ wRt S.nm S.pp G H d rt) : wR S v H rt := by
  unfold wR; rw [ht]; exact h
theorem wR_true {S : Sit} {v : V} {H : Hp} {rt : D → Prop} (ht : S.tt = true) (h : ∃ G pt v0 v1 d0 d1, Ext S.B S.G0 S.B G H ∧ v = .ref pt ∧ S.B pt = none ∧ H pt = some (.tup [v0, v1]) ∧ (RepV S.nm S.B G H v0 d0 ∧ isBor d0 = false) ∧ RepV S.nm S.B G H v1 d1 ∧ isBor d1 = false ∧ rt (.tup [d0, d1])) : wR S v H rt := by
  unfold wR; rw [ht]; exact h
def lift (S : Sit) (Gs : Hp) (E : DE) : Ends where
  nx := fun σ H => ∃ G ρ, S.Rel G H σ ρ ∧ Same Gs G ∧ E.nx ρ
  rt := fun v H => wR S v H E.rt
  bk := fun σ H => ∃ G ρ, S.Rel G H σ ρ ∧ Same Gs G ∧ E.bk ρ
  ct := fun σ H => ∃ G ρ, S.Rel G H σ ρ ∧ Same Gs G ∧ E.ct ρ
structure JS (S : Sit) (st : Stmt) (τ : TDS) : Prop where
  run : ∀ (G H : Hp) (σ : L2.St) (ρ : Env) (E : DE), S.Rel G H σ ρ → τ E ρ → WS S.X st (lift S G E) σ H
structure JSs (S : Sit) (st : List Stmt) (τ : TDS) : Prop where
  run : ∀ (G H : Hp) (σ : L2.St) (ρ : Env) (E : DE), S.Rel G H σ ρ → τ E ρ → WSs S.X st (lift S G E) σ H
/-- (G, H) behind the value's expression, which began at (G0, H0) where the names were -/
structure JG (S : Sit) (tg : Expr) (g : TDG) : Prop where
  run : ∀ (G0 H0 G H : Hp) (σ : L2.St) (ρ : Env) (v : V) (d : D) (Q : Env → Prop), S.Rel G0 H0 σ ρ → Ext H0 G0 H0 G H → RepV S.nm H0 G H v d → g d ρ Q → WG S.X tg v σ H fun σ' H' => ∃ G' ρ', S.Rel G' H' σ' ρ' ∧ Same G G' ∧ Q ρ'
/-- several targets: values that are no lists of one's own -/
structure JGs (S : Sit) (ts : List Expr) (g : TDGs) : Prop where
  run : ∀ (G H : Hp) (σ : L2.St) (ρ : Env) (vs : List V) (ds : List D) (Q : Env → Prop), S.Rel G H σ ρ → Reps S.nm G vs ds → g ds ρ Q → WGs S.X ts vs σ H fun σ' H' => ∃ G' ρ', S.Rel G' H' σ' ρ' ∧ Same G G' ∧ Q ρ'
/-- what an iterator gives -/
def Gives (nm : Nm) (G : Hp) (J : It) (ds : List D) : Prop :=
  ∃ (n : Nat) (Gp : Hp → Prop) (Y : Nat → Hp → V → Hp → Prop), n = ds.length ∧ Walk J n Gp Y ∧ (∀ H2, Same G H2 → Gp H2) ∧
    ∀ (i : Nat) (x : V) (H2 H3 : Hp), Same G H2 → i < n → Y i H2 x H3 → ∃ d, ds[i]? = some d ∧
      ((H3 = H2 ∧ Rep nm G x d) ∨ ∃ (T : Addr) (a b : V) (da db : D), x = .ref T ∧ H2 T = none ∧ H3 = upd H2 T (.tup [a, b]) ∧ d = .tup [da, db] ∧ Rep nm G a da ∧ Rep nm G b db)
structure JI (S : Sit) (tg iter : Expr) (ι : TDI) : Prop where
  run : ∀ (G H : Hp) (σ : L2.St) (ρ : Env) (Q : List D → Prop), S.Rel G H σ ρ → ι ρ Q → WI S.X tg iter σ H fun J H' => ∃ G' ds, Ext H G H G' H' ∧ Gives S.nm G' J ds ∧ Q ds
end DD

set_option Elab.async false
set_option linter.all false
set_option maxRecDepth 100000
set_option maxHeartbeats 1000000
namespace DD
open PySem PySem.Spec PyProof.Rows L2
/-! ### what goes on, at a state of the names (kept a written list) -/
@[irreducible] def Nx (Q : Env → Prop) (ρ : Env) : Prop := Q ρ
theorem Nx.get {Q : Env → Prop} {ρ : Env} (h : Nx Q ρ) : Q ρ := by unfold Nx at h; exact h
theorem Nx.of {Q : Env → Prop} {ρ : Env} (h : Q ρ) : Nx Q ρ := by unfold Nx; exact h
@[irreducible] def put (ρ : Env) (i : Nat) (x : Option D) : Env := ρ.set i x
theorem put_eq (ρ : Env) (i : Nat) (x : Option D) : put ρ i x = ρ.set i x := by unfold put; rfl
theorem Nx.id {Q : Env → Prop} {ρ : Env} (h : Nx Q ρ) : Nx Q ρ := h
theorem Nx.getS {Q : Env → Prop} {ρ : Env} {i : Nat} {x : Option D} (h : Nx Q (put ρ i x)) : Q (ρ.set i x) := put_eq ρ i x ▸ h.get
theorem nx_set0 {Q : Env → Prop} {a0 x : Option D} {l : Env} (q : Q (x :: l)) : Nx Q (put (a0 :: l) 0 x) := by rw [put_eq]; exact .of q
theorem nx_set1 {Q : Env → Prop} {a0 a1 x : Option D} {l : Env} (q : Q (a0 :: x :: l)) : Nx Q (put (a0 :: a1 :: l) 1 x) := by rw [put_eq]; exact .of q
theorem nx_set2 {Q : Env → Prop} {a0 a1 a2 x : Option D} {l : Env} (q : Q (a0 :: a1 :: x :: l)) : Nx Q (put (a0 :: a1 :: a2 :: l) 2 x) := by rw [put_eq]; exact .of q
theorem nx_set3 {Q : Env → Prop} {a0 a1 a2 a3 x : Option D} {l : Env} (q : Q (a0 :: a1 :: a2 :: x :: l)) : Nx Q (put (a0 :: a1 :: a2 :: a3 :: l) 3 x) := by rw [put_eq]; exact .of q
theorem nx_set4 {Q : Env → Prop} {a0 a1 a2 a3 a4 x : Option D} {l : Env} (q : Q (a0 :: a1 :: a2 :: a3 :: x :: l)) : Nx Q (put (a0 :: a1 :: a2 :: a3 :: a4 :: l) 4 x) := by rw [put_eq]; exact .of q
theorem nx_set5 {Q : Env → Prop} {a0 a1 a2 a3 a4 a5 x : Option D} {l : Env} (q : Q (a0 :: a1 :: a2 :: a3 :: a4 :: x :: l)) : Nx Q (put (a0 :: a1 :: a2 :: a3 :: a4 :: a5 :: l) 5 x) := by rw [put_eq]; exact .of q
theorem nx_set6 {Q : Env → Prop} {a0 a1 a2 a3 a4 a5 a6 x : Option D} {l : Env} (q : Q (a0 :: a1 :: a2 :: a3 :: a4 :: a5 :: x :: l)) : Nx Q (put (a0 :: a1 :: a2 :: a3 :: a4 :: a5 :: a6 :: l) 6 x) := by rw [put_eq]; exact .of q
theorem nx_set7 {Q : Env → Prop} {a0 a1 a2 a3 a4 a5 a6 a7 x : Option D} {l : Env} (q : Q (a0 :: a1 :: a2 :: a3 :: a4 :: a5 :: a6 :: x :: l)) : Nx Q (put (a0 :: a1 :: a2 :: a3 :: a4 :: a5 :: a6 :: a7 :: l) 7 x) := by rw [put_eq]; exact .of q
theorem nx_set8 {Q : Env → Prop} {a0 a1 a2 a3 a4 a5 a6 a7 a8 x : Option D} {l : Env} (q : Q (a0 :: a1 :: a2 :: a3 :: a4 :: a5 :: a6 :: a7 :: x :: l)) : Nx Q (put (a0 :: a1 :: a2 :: a3 :: a4 :: a5 :: a6 :: a7 :: a8 :: l) 8 x) := by rw [put_eq]; exact .of q
theorem nx_set9 {Q : Env → Prop} {a0 a1 a2 a3 a4 a5 a6 a7 a8 a9 x : Option D} {l : Env} (q : Q (a0 :: a1 :: a2 :: a3 :: a4 :: a5 :: a6 :: a7 :: a8 :: x :: l)) : Nx Q (put (a0 :: a1 :: a2 :: a3 :: a4 :: a5 :: a6 :: a7 :: a8 :: a9 :: l) 9 x) := by rw [put_eq]; exact .of q
theorem nx_set10 {Q : Env → Prop} {a0 a1 a2 a3 a4 a5 a6 a7 a8 a9 a10 x : Option D} {l : Env} (q : Q (a0 :: a1 :: a2 :: a3 :: a4 :: a5 :: a6 :: a7 :: a8 :: a9 :: x :: l)) : Nx Q (put (a0 :: a1 :: a2 :: a3 :: a4 :: a5 :: a6 :: a7 :: a8 :: a9 :: a10 :: l) 10 x) := by rw [put_eq]; exact .of q
theorem nx_set11 {Q : Env → Prop} {a0 a1 a2 a3 a4 a5 a6 a7 a8 a9 a10 a11 x : Option D} {l : Env} (q : Q (a0 :: a1 :: a2 :: a3 :: a4 :: a5 :: a6 :: a7 :: a8 :: a9 :: a10 :: x :: l)) : Nx Q (put (a0 :: a1 :: a2 :: a3 :: a4 :: a5 :: a6 :: a7 :: a8 :: a9 :: a10 :: a11 :: l) 11 x) := by rw [put_eq]; exact .of q
theorem nx_set12 {Q : Env → Prop} {a0 a1 a2 a3 a4 a5 a6 a7 a8 a9 a10 a11 a12 x : Option D} {l : Env} (q : Q (a0 :: a1 :: a2 :: a3 :: a4 :: a5 :: a6 :: a7 :: a8 :: a9 :: a10 :: a11 :: x :: l)) : Nx Q (put (a0 :: a1 :: a2 :: a3 :: a4 :: a5 :: a6 :: a7 :: a8 :: a9 :: a10 :: a11 :: a12 :: l) 12 x) := by rw [put_eq]; exact .of q
theorem nx_set13 {Q : Env → Prop} {a0 a1 a2 a3 a4 a5 a6 a7 a8 a9 a10 a11 a12 a13 x : Option D} {l : Env} (q : Q (a0 :: a1 :: a2 :: a3 :: a4 :: a5 :: a6 :: a7 :: a8 :: a9 :: a10 :: a11 :: a12 :: x :: l)) : Nx Q (put (a0 :: a1 :: a2 :: a3 :: a4 :: a5 :: a6 :: a7 :: a8 :: a9 :: a10 :: a11 :: a12 :: a13 :: l) 13 x) := by rw [put_eq]; exact .of q
theorem nx_set14 {Q : Env → Prop} {a0 a1 a2 a3 a4 a5 a6 a7 a8 a9 a10 a11 a12 a13 a14 x : Option D} {l : Env} (q : Q (a0 :: a1 :: a2 :: a3 :: a4 :: a5 :: a6 :: a7 :: a8 :: a9 :: a10 :: a11 :: a12 :: a13 :: x :: l)) : Nx Q (put (a0 :: a1 :: a2 :: a3 :: a4 :: a5 :: a6 :: a7 :: a8 :: a9 :: a10 :: a11 :: a12 :: a13 :: a14 :: l) 14 x) := by rw [put_eq]; exact .of q
theorem nx_set15 {Q : Env → Prop} {a0 a1 a2 a3 a4 a5 a6 a7 a8 a9 a10 a11 a12 a13 a14 a15 x : Option D} {l : Env} (q : Q (a0 :: a1 :: a2 :: a3 :: a4 :: a5 :: a6 :: a7 :: a8 :: a9 :: a10 :: a11 :: a12 :: a13 :: a14 :: x :: l)) : Nx Q (put (a0 :: a1 :: a2 :: a3 :: a4 :: a5 :: a6 :: a7 :: a8 :: a9 :: a10 :: a11 :: a12 :: a13 :: a14 :: a15 :: l) 15 x) := by rw [put_eq]; exact .of q
theorem nx_set16 {Q : Env → Prop} {a0 a1 a2 a3 a4 a5 a6 a7 a8 a9 a10 a11 a12 a13 a14 a15 a16 x : Option D} {l : Env} (q : Q (a0 :: a1 :: a2 :: a3 :: a4 :: a5 :: a6 :: a7 :: a8 :: a9 :: a10 :: a11 :: a12 :: a13 :: a14 :: a15 :: x :: l)) : Nx Q (put (a0 :: a1 :: a2 :: a3 :: a4 :: a5 :: a6 :: a7 :: a8 :: a9 :: a10 :: a11 :: a12 :: a13 :: a14 :: a15 :: a16 :: l) 16 x) := by rw [put_eq]; exact .of q
theorem nx_set17 {Q : Env → Prop} {a0 a1 a2 a3 a4 a5 a6 a7 a8 a9 a10 a11 a12 a13 a14 a15 a16 a17 x : Option D} {l : Env} (q : Q (a0 :: a1 :: a2 :: a3 :: a4 :: a5 :: a6 :: a7 :: a8 :: a9 :: a10 :: a11 :: a12 :: a13 :: a14 :: a15 :: a16 :: x :: l)) : Nx Q (put (a0 :: a1 :: a2 :: a3 :: a4 :: a5 :: a6 :: a7 :: a8 :: a9 :: a10 :: a11 :: a12 :: a13 :: a14 :: a15 :: a16 :: a17 :: l) 17 x) := by rw [put_eq]; exact .of q
theorem nx_set18 {Q : Env → Prop} {a0 a1 a2 a3 a4 a5 a6 a7 a8 a9 a10 a11 a12 a13 a14 a15 a16 a17 a18 x : Option D} {l : Env} (q : Q (a0 :: a1 :: a2 :: a3 :: a4 :: a5 :: a6 :: a7 :: a8 :: a9 :: a10 :: a11 :: a12 :: a13 :: a14 :: a15 :: a16 :: a17 :: x :: l)) : Nx Q (put (a0 :: a1 :: a2 :: a3 :: a4 :: a5 :: a6 :: a7 :: a8 :: a9 :: a10 :: a11 :: a12 :: a13 :: a14 :: a15 :: a16 :: a17 :: a18 :: l) 18 x) := by rw [put_eq]; exact .of q
theorem nx_set19 {Q : Env → Prop} {a0 a1 a2 a3 a4 a5 a6 a7 a8 a9 a10 a11 a12 a13 a14 a15 a16 a17 a18 a19 x : Option D} {l : Env} (q : Q (a0 :: a1 :: a2 :: a3 :: a4 :: a5 :: a6 :: a7 :: a8 :: a9 :: a10 :: a11 :: a12 :: a13 :: a14 :: a15 :: a16 :: a17 :: a18 :: x :: l)) : Nx Q (put (a0 :: a1 :: a2 :: a3 :: a4 :: a5 :: a6 :: a7 :: a8 :: a9 :: a10 :: a11 :: a12 :: a13 :: a14 :: a15 :: a16 :: a17 :: a18 :: a19 :: l) 19 x) := by rw [put_eq]; exact .of q
theorem nx_set20 {Q : Env → Prop} {a0 a1 a2 a3 a4 a5 a6 a7 a8 a9 a10 a11 a12 a13 a14 a15 a16 a17 a18 a19 a20 x : Option D} {l : Env} (q : Q (a0 :: a1 :: a2 :: a3 :: a4 :: a5 :: a6 :: a7 :: a8 :: a9 :: a10 :: a11 :: a12 :: a13 :: a14 :: a15 :: a16 :: a17 :: a18 :: a19 :: x :: l)) : Nx Q (put (a0 :: a1 :: a2 :: a3 :: a4 :: a5 :: a6 :: a7 :: a8 :: a9 :: a10 :: a11 :: a12 :: a13 :: a14 :: a15 :: a16 :: a17 :: a18 :: a19 :: a20 :: l) 20 x) := by rw [put_eq]; exact .of q
theorem nx_set21 {Q : Env → Prop} {a0 a1 a2 a3 a4 a5 a6 a7 a8 a9 a10 a11 a12 a13 a14 a15 a16 a17 a18 a19 a20 a21 x : Option D} {l : Env} (q : Q (a0 :: a1 :: a2 :: a3 :: a4 :: a5 :: a6 :: a7 :: a8 :: a9 :: a10 :: a11 :: a12 :: a13 :: a14 :: a15 :: a16 :: a17 :: a18 :: a19 :: a20 :: x :: l)) : Nx Q (put (a0 :: a1 :: a2 :: a3 :: a4 :: a5 :: a6 :: a7 :: a8 :: a9 :: a10 :: a11 :: a12 :: a13 :: a14 :: a15 :: a16 :: a17 :: a18 :: a19 :: a20 :: a21 :: l) 21 x) := by rw [put_eq]; exact .of q
theorem nx_set22 {Q : Env → Prop} {a0 a1 a2 a3 a4 a5 a6 a7 a8 a9 a10 a11 a12 a13 a14 a15 a16 a17 a18 a19 a20 a21 a22 x : Option D} {l : Env} (q : Q (a0 :: a1 :: a2 :: a3 :: a4 :: a5 :: a6 :: a7 :: a8 :: a9 :: a10 :: a11 :: a12 :: a13 :: a14 :: a15 :: a16 :: a17 :: a18 :: a19 :: a20 :: a21 :: x :: l)) : Nx Q (put (a0 :: a1 :: a2 :: a3 :: a4 :: a5 :: a6 :: a7 :: a8 :: a9 :: a10 :: a11 :: a12 :: a13 :: a14 :: a15 :: a16 :: a17 :: a18 :: a19 :: a20 :: a21 :: a22 :: l) 22 x) := by rw [put_eq]; exact .of q
theorem nx_set23 {Q : Env → Prop} {a0 a1 a2 a3 a4 a5 a6 a7 a8 a9 a10 a11 a12 a13 a14 a15 a16 a17 a18 a19 a20 a21 a22 a23 x : Option D} {l : Env} (q : Q (a0 :: a1 :: a2 :: a3 :: a4 :: a5 :: a6 :: a7 :: a8 :: a9 :: a10 :: a11 :: a12 :: a13 :: a14 :: a15 :: a16 :: a17 :: a18 :: a19 :: a20 :: a21 :: a22 :: x :: l)) : Nx Q (put (a0 :: a1 :: a2 :: a3 :: a4 :: a5 :: a6 :: a7 :: a8 :: a9 :: a10 :: a11 :: a12 :: a13 :: a14 :: a15 :: a16 :: a17 :: a18 :: a19 :: a20 :: a21 :: a22 :: a23 :: l) 23 x) := by rw [put_eq]; exact .of q
theorem nx_set24 {Q : Env → Prop} {a0 a1 a2 a3 a4 a5 a6 a7 a8 a9 a10 a11 a12 a13 a14 a15 a16 a17 a18 a19 a20 a21 a22 a23 a24 x : Option D} {l : Env} (q : Q (a0 :: a1 :: a2 :: a3 :: a4 :: a5 :: a6 :: a7 :: a8 :: a9 :: a10 :: a11 :: a12 :: a13 :: a14 :: a15 :: a16 :: a17 :: a18 :: a19 :: a20 :: a21 :: a22 :: a23 :: x :: l)) : Nx Q (put (a0 :: a1 :: a2 :: a3 :: a4 :: a5 :: a6 :: a7 :: a8 :: a9 :: a10 :: a11 :: a12 :: a13 :: a14 :: a15 :: a16 :: a17 :: a18 :: a19 :: a20 :: a21 :: a22 :: a23 :: a24 :: l) 24 x) := by rw [put_eq]; exact .of q

/-! ### expressions -/
/-- a list of one's own is lent where its name is read -/
def borO : D → D
  | .own l => .bor l
  | d => d
def eVar (i : Nat) : TD := fun ρ Q => match ρ[i]? with
  | some (some d) => Q (borO d)
  | _ => False
def eC (d : D) : TD := fun _ Q => Q d
section
variable {S : Sit} {a b c e : Expr} {es : List Expr} {pos : Pos} {τa τb τc : TD}
theorem je_var {i : Nat} {x : Str} (hN : S.X.N[i]? = some x) (hv : Vis S.X.env.scope x) (hd : (x == ("__debug__" : Str)) = false := by decide) (hcd : (x == ("__classdict__" : Str)) = false := by decide) : JE S (.Name x pos) (eVar i) := by
  refine ⟨fun G H σ ρ Q R h => WX.of (pe_var hN hv hd hcd) ?_⟩
  unfold eVar at h
  split at h
  · rename_i d e
    obtain ⟨v, h1, h2, h3⟩ := R.slot i _ e
    refine ⟨v, h1, G, borO d, Ext.refl R.gh, ?_, h⟩
    cases d with
    | own l =>
      obtain ⟨p, vs, rfl, g1, g2, g3, g4⟩ := h2
      exact ⟨p, vs, rfl, g1, g2, g4⟩
    | bor l => exact absurd h3 (by simp [isBor])
    | _ => exact h2
  · exact h.elim
theorem jv (i : Nat) {x : Str} (hN : S.X.N[i]? = some x := by rfl) (hv : Vis S.X.env.scope x := by first | exact Or.inl rfl | exact Or.inr (Or.inl rfl) | exact Or.inr (Or.inr rfl)) (hd : (x == ("__debug__" : Str)) = false := by decide)
    (hcd : (x == ("__classdict__" : Str)) = false := by decide) : JE S (.Name x pos) (eVar i) := je_var hN hv hd hcd
theorem je_const {d : D} {v : V} (h : PE S.X e (tC v)) (r : ∀ G, Rep S.nm G v d) : JE S e (eC d) := ⟨fun G H σ ρ Q R h' => WX.of h ⟨G, d, Ext.refl R.gh, .of (r G), h'⟩⟩
theorem je_int {i : Int} {j} : JE S (.Constant (.int i) j pos) (eC (.int i)) := je_const pe_int fun _ => .int i
theorem je_bl {i : Bool} {j} : JE S (.Constant (.bool i) j pos) (eC (.bl i)) := je_const pe_bl fun _ => .bl i
theorem je_str {i : Str} {j} : JE S (.Constant (.str i) j pos) (eC (.str i)) := je_const pe_str fun _ => .str i
theorem je_non {j} : JE S (.Constant .none j pos) (eC .non) := je_const pe_non fun _ => .non
/-- a module's constant: an int, a text -/
theorem je_globI {x : Str} {i : Int} {t : Tok} (hg : Gl S.X x) (hm : S.X.mg x = some (.int i t)) (hd : (x == ("__debug__" : Str)) = false := by decide) : JE S (.Name x pos) (eC (.int i)) := je_const (pe_glob (v := .int i) hg hm ⟨_, rfl⟩ hd) fun _ => .int i
theorem je_globS {x : Str} {i : Str} {t : Tok} (hg : Gl S.X x) (hm : S.X.mg x = some (.str i t)) (hd : (x == ("__debug__" : Str)) = false := by decide) : JE S (.Name x pos) (eC (.str i)) := je_const (pe_glob (v := .str i) hg hm ⟨_, rfl⟩ hd) fun _ => .str i

/-! ### operators -/
abbrev RD2 := D → D → (D → Prop) → Prop
def DOp (S : Sit) (f : Value → Value → Sem Value) (r : RD2) : Prop :=
  ∀ (H0 G H : Hp) (x y : V) (d e : D) (Q : D → Prop), Same H0 H → Same G H → RepV S.nm H0 G H x d → RepV S.nm H0 G H y e → r d e Q →
    ∀ (pins : List (Addr × Obj)) (s : Shared) (σ : L2.St) (v u : Value), Inv S.X pins σ H s → RelV x v → RelV y u →
      wpAny (model S.X.prog S.X.w) S.X.A (f v u) (EP S.X pins σ fun z H' => ∃ G' d', Ext H0 G H G' H' ∧ RepV S.nm H0 G' H' z d' ∧ Q d') S.X.xe s
/-- by a rule of the layer -/
theorem DOp.of {f : Value → Value → Sem Value} {r : RD2} (h : ∀ (H0 G H : Hp) (x y : V) (d e : D) (Q : D → Prop), Same H0 H → Same G H → RepV S.nm H0 G H x d → RepV S.nm H0 G H y e → r d e Q →
    ∃ r' : R2, OpR S.X f r' ∧ r' x y H fun z H' => ∃ G' d', Ext H0 G H G' H' ∧ RepV S.nm H0 G' H' z d' ∧ Q d') : DOp S f r := fun H0 G H x y d e Q s0 gh rx ry q pins s σ v u I ru rv => by
  obtain ⟨r', ho, q'⟩ := h H0 G H x y d e Q s0 gh rx ry q
  exact ho pins s σ H x y v u _ I ru rv q'
def rSem (X : Cx) (f : Value → Value → Sem Value) : R2 := fun x y H Q => ∀ (pins : List (Addr × Obj)) (s : Shared) (σ : L2.St) (v u : Value), Inv X pins σ H s → RelV x v → RelV y u → wpAny (model X.prog X.w) X.A (f v u) (EP X pins σ Q) X.xe s
theorem op_sem {X : Cx} {f : Value → Value → Sem Value} : OpR X f (rSem X f) := fun pins s σ _ _ _ v u _ I rx ry h => h pins s σ v u I rx ry
def eOp (r : RD2) (τa τb : TD) : TD := fun ρ Q => τa ρ fun d => τb ρ fun e => r d e Q
theorem two_run {f : Value → Value → Sem Value} {r : RD2} (ho : DOp S f r) (ha : JE S a τa) (hb : JE S b τb) {G H : Hp} {σ : L2.St} {ρ : Env} {Q : D → Prop} (R : S.Rel G H σ ρ) (h : eOp r τa τb ρ Q) :
    tOp (rSem S.X f) (WX S.X a) (WX S.X b) σ H fun v H' => ∃ G' d, Ext H G H G' H' ∧ RepV S.nm H G' H' v d ∧ Q d := by
  refine (ha.run G H σ ρ _ R h).mono fun x H1 ⟨G1, d, x1, r1, h1⟩ => ?_
  refine (hb.run G1 H1 σ ρ _ (R.go x1) h1).mono fun y H2 ⟨G2, e, x2, r2, h2⟩ => ?_
  intro pins s σ' v u I rx ry
  have y2 := Ext.from x1.h x2
  refine thn (ho H G2 H2 x y d e Q (x1.h.trans x2.h) x2.gh (r1.ext x2) (r2.from x1.h) h2 pins s σ' v u I rx ry) fun z s' ⟨w, H3, I3, rz, G3, d3, x3, r3, q3⟩ => ?_
  exact ⟨w, H3, I3, rz, G3, d3, x1.trans (y2.trans x3), r3, q3⟩
theorem je_op {op : Operator} {r : RD2} (ho : DOp S (binaryOp op) r) (ha : JE S a τa) (hb : JE S b τb) : JE S (.BinOp a op b pos) (eOp r τa τb) :=
  ⟨fun G H σ ρ Q R h => WX.of (pe_op op_sem pe_w pe_w) (two_run ho ha hb R h)⟩
theorem je_cmp {op : CmpOp} {r : RD2} (ho : DOp S (compareOp op) r) (ha : JE S a τa) (hb : JE S b τb) (hm : behindInMarks op b = false) : JE S (.Compare a [op] [b] pos) (eOp r τa τb) :=
  ⟨fun G H σ ρ Q R h => WX.of (pe_cmpR op_sem pe_w pe_w hm) (two_run ho ha hb R h)⟩
def dTest (τ : TD) : TDt := fun ρ Q => τ ρ fun d => match d with
  | .bl b => Q b
  | _ => False
theorem repV_bl {nm : Nm} {H0 G H : Hp} {v : V} {b : Bool} (r : RepV nm H0 G H v (.bl b)) : v = .bl b := by
  cases (show Rep nm G v (.bl b) from r); rfl
theorem repV_int {nm : Nm} {H0 G H : Hp} {v : V} {b : Int} (r : RepV nm H0 G H v (.int b)) : v = .int b := by
  cases (show Rep nm G v (.int b) from r); rfl
theorem repV_str {nm : Nm} {H0 G H : Hp} {v : V} {b : Str} (r : RepV nm H0 G H v (.str b)) : v = .str b := by
  cases (show Rep nm G v (.str b) from r); rfl
theorem repV_non {nm : Nm} {H0 G H : Hp} {v : V} (r : RepV nm H0 G H v .non) : v = .non := by
  cases (show Rep nm G v .non from r); rfl
theorem jt_of {t : TE → TT} (hp : PT S.X e (t (WX S.X e))) (ht : ∀ σ H (Q : Bool → Hp → Prop), WX S.X e σ H (fun v H' => ∃ k, v = .bl k ∧ Q k H') → t (WX S.X e) σ H Q) (h : JE S e τa) : JT S e (dTest τa) := by
  refine ⟨fun G H σ ρ Q R hq => WT.of hp (ht _ _ _ ((h.run G H σ ρ _ R hq).mono fun v H' ⟨G', d, x, r, q⟩ => ?_))⟩
  cases d with
  | bl b => exact ⟨b, repV_bl r, G', x, q⟩
  | _ => exact q.elim
/-- an expression whose value is a truth, as a test -/
theorem jt_val (h : JE S e τa) (he : ∀ whole, isTrue e S.X.env whole = (do let v ← whole; standAt e.pos; holding [v] (truthy v)) := by intro _; rfl) : JT S e (dTest τa) :=
  jt_of (t := tB) (pt_val pe_w he) (fun _ _ _ q => q) h
theorem jt_cmp {op : CmpOp} {r : RD2} (ho : DOp S (compareOp op) r) (ha : JE S a τa) (hb : JE S b τb) (hm : behindInMarks op b = false) : JT S (.Compare a [op] [b] pos) (dTest (eOp r τa τb)) := by
  refine ⟨fun G H σ ρ Q R h => WT.of (pt_cmpR op_sem pe_w pe_w hm) ?_⟩
  have q := two_run ho ha hb R h
  refine q.mono fun x H1 q1 => q1.mono fun y H2 q2 => ?_
  intro pins s σ' v u I rx ry
  refine thn (q2 pins s σ' v u I rx ry) fun z s' ⟨w, H3, I3, rz, G3, d3, x3, r3, q3⟩ => ⟨w, H3, I3, rz, ?_⟩
  cases d3 with
  | bl b => exact ⟨b, repV_bl r3, G3, x3, q3⟩
  | _ => exact q3.elim
/-- a op b op' c, b no list of one's own -/
def eChain (r r' : RD2) (τa τb τc : TD) : TD := fun ρ Q => τa ρ fun d => τb ρ fun e => flat1 e = true ∧ r d e fun z => match z with
  | .bl k => (k = true → τc ρ fun f => r' e f Q) ∧ (k = false → Q (.bl false))
  | _ => False
theorem chain_run {f f' : Value → Value → Sem Value} {r r' : RD2} (ho : DOp S f r) (ho' : DOp S f' r') (ha : JE S a τa) (hb : JE S b τb) (hc : JE S c τc) {G H : Hp} {σ : L2.St} {ρ : Env} {Q : D → Prop} (R : S.Rel G H σ ρ) (h : eChain r r' τa τb τc ρ Q) :
    tChain (rSem S.X f) (rSem S.X f') (WX S.X a) (WX S.X b) (WX S.X c) σ H fun v H' => ∃ G' d, Ext H G H G' H' ∧ RepV S.nm H G' H' v d ∧ Q d := by
  refine (ha.run G H σ ρ _ R h).mono fun x H1 ⟨G1, d, x1, r1, h1⟩ => ?_
  refine (hb.run G1 H1 σ ρ _ (R.go x1) h1).mono fun y H2 ⟨G2, e, x2, r2, fe, h2⟩ => ?_
  intro pins s σ' v u I rx ry
  have y2 := x1.trans (Ext.from x1.h x2)
  refine thn (ho H G2 H2 x y d e _ (x1.h.trans x2.h) x2.gh (r1.ext x2) (r2.from x1.h) h2 pins s σ' v u I rx ry) fun z s' ⟨w, H3, I3, rz, G3, d3, x3, r3, q3⟩ => ⟨w, H3, I3, rz, ?_⟩
  cases d3 with
  | bl k =>
    refine ⟨k, repV_bl r3, ?_⟩
    have y3 := y2.trans x3
    cases k with
    | false => exact ⟨G3, _, y3, .of (.bl _), q3.2 rfl⟩
    | true =>
      have ry2 : RepV S.nm H G3 H3 y e := by
        cases e with
        | own l => cases fe
        | bor l => cases fe
        | _ => exact Rep.mono x3.g _ _ (r2.from x1.h)
      rw [if_pos rfl]
      refine (hc.run G3 H3 σ ρ _ (R.go y3) (q3.1 rfl)).mono fun zc H4 ⟨G4, f4, x4, r4, h4⟩ => ?_
      intro pins s σ' v u I rx ry
      refine thn (ho' H G4 H4 y zc e f4 Q (y3.h.trans x4.h) x4.gh (ry2.ext x4) (r4.from y3.h) h4 pins s σ' v u I rx ry) fun z s' ⟨w, H5, I5, rz, G5, d5, x5, r5, q5⟩ => ?_
      exact ⟨w, H5, I5, rz, G5, d5, y3.trans ((Ext.from y3.h x4).trans x5), r5, q5⟩
  | _ => exact q3.elim
theorem je_chain {op op' : CmpOp} {r r' : RD2} (ho : DOp S (compareOp op) r) (ho' : DOp S (compareOp op') r') (ha : JE S a τa) (hb : JE S b τb) (hc : JE S c τc) (hm : lastMarks [op, op'] [b, c] = false := by with_unfolding_all rfl) :
    JE S (.Compare a [op, op'] [b, c] pos) (eChain r r' τa τb τc) := ⟨fun G H σ ρ Q R h => WX.of (pe_chain op_sem op_sem pe_w pe_w pe_w hm) (chain_run ho ho' ha hb hc R h)⟩
theorem jt_chain {op op' : CmpOp} {r r' : RD2} (ho : DOp S (compareOp op) r) (ho' : DOp S (compareOp op') r') (ha : JE S a τa) (hb : JE S b τb) (hc : JE S c τc) (hm : lastMarks [op, op'] [b, c] = false := by with_unfolding_all rfl) :
    JT S (.Compare a [op, op'] [b, c] pos) (dTest (eChain r r' τa τb τc)) := by
  refine ⟨fun G H σ ρ Q R h => WT.of (pt_chain op_sem op_sem pe_w pe_w pe_w hm) ?_⟩
  have fin : ∀ (z : V) (H' : Hp), (∃ G' d, Ext H G H G' H' ∧ RepV S.nm H G' H' z d ∧ (match d with | .bl b => Q b | _ => False)) → ∃ k, z = .bl k ∧ ∃ G', Ext H G H G' H' ∧ Q k := fun z H' ⟨G', d, x, r, q⟩ => by
    cases d with
    | bl b => exact ⟨b, repV_bl r, G', x, q⟩
    | _ => exact q.elim
  refine (chain_run ho ho' ha hb hc R h).mono fun x H1 q1 => q1.mono fun y H2 q2 => ?_
  intro pins s σ' v u I rx ry
  refine thn (q2 pins s σ' v u I rx ry) fun z s' ⟨w, H3, I3, rz, k, ek, q3⟩ => ⟨w, H3, I3, rz, k, ek, ?_⟩
  cases k with
  | false =>
    rw [if_neg Bool.false_ne_true] at q3 ⊢
    exact fin _ _ q3
  | true =>
    rw [if_pos rfl] at q3 ⊢
    refine q3.mono fun zc H4 q4 => ?_
    intro pins s σ' v u I rx ry
    exact thn (q4 pins s σ' v u I rx ry) fun z s' ⟨w, H5, I5, rz, q5⟩ => ⟨w, H5, I5, rz, fin _ _ q5⟩

/-! ### and, or, not -/
variable {rest : List Expr} {ta tb : TDt}
def eAnd (τa τb : TD) : TD := fun ρ Q => τa ρ fun d => match d with
  | .bl b => (b = true → τb ρ Q) ∧ (b = false → Q (.bl false))
  | _ => False
def eOr (τa τb : TD) : TD := fun ρ Q => τa ρ fun d => match d with
  | .bl b => (b = true → Q (.bl true)) ∧ (b = false → τb ρ Q)
  | _ => False
def eNot (τa : TD) : TD := fun ρ Q => τa ρ fun d => match d with
  | .bl b => Q (.bl (!b))
  | _ => False
theorem je_one {op} (h : JE S a τa) : JE S (.BoolOp op [a] pos) τa := ⟨fun G H σ ρ Q R q => WX.of (pe_one pe_w) (h.run G H σ ρ Q R q)⟩
theorem je_and (ha : JE S a τa) (hb : JE S (.BoolOp .And (b :: rest) pos) τb) : JE S (.BoolOp .And (a :: b :: rest) pos) (eAnd τa τb) := by
  refine ⟨fun G H σ ρ Q R h => WX.of (pe_and pe_w pe_w) ((ha.run G H σ ρ _ R h).mono fun v H1 ⟨G1, d, x1, r1, q1⟩ => ?_)⟩
  cases d with
  | bl k =>
    refine ⟨k, repV_bl r1, ?_⟩
    cases k with
    | false => exact ⟨G1, _, x1, .of (.bl _), q1.2 rfl⟩
    | true => exact (hb.run G1 H1 σ ρ Q (R.go x1) (q1.1 rfl)).mono fun v H2 ⟨G2, d, x2, r2, q2⟩ => ⟨G2, d, x1.trans (Ext.from x1.h x2), r2.from x1.h, q2⟩
  | _ => exact q1.elim
theorem je_or (ha : JE S a τa) (hb : JE S (.BoolOp .Or (b :: rest) pos) τb) : JE S (.BoolOp .Or (a :: b :: rest) pos) (eOr τa τb) := by
  refine ⟨fun G H σ ρ Q R h => WX.of (pe_or pe_w pe_w) ((ha.run G H σ ρ _ R h).mono fun v H1 ⟨G1, d, x1, r1, q1⟩ => ?_)⟩
  cases d with
  | bl k =>
    refine ⟨k, repV_bl r1, ?_⟩
    cases k with
    | true => exact ⟨G1, _, x1, .of (.bl _), q1.1 rfl⟩
    | false => exact (hb.run G1 H1 σ ρ Q (R.go x1) (q1.2 rfl)).mono fun v H2 ⟨G2, d, x2, r2, q2⟩ => ⟨G2, d, x1.trans (Ext.from x1.h x2), r2.from x1.h, q2⟩
  | _ => exact q1.elim
theorem je_not (ha : JE S a τa) : JE S (.UnaryOp .Not a pos) (eNot τa) := by
  refine ⟨fun G H σ ρ Q R h => WX.of (pe_not pe_w) ((ha.run G H σ ρ _ R h).mono fun v H1 ⟨G1, d, x1, r1, q1⟩ => ?_)⟩
  cases d with
  | bl k => exact ⟨k, repV_bl r1, G1, _, x1, .of (.bl _), q1⟩
  | _ => exact q1.elim
/-- as tests -/
def dAnd (ta tb : TDt) : TDt := fun ρ Q => ta ρ fun b => (b = true → tb ρ Q) ∧ (b = false → Q false)
def dOr (ta tb : TDt) : TDt := fun ρ Q => ta ρ fun b => (b = true → Q true) ∧ (b = false → tb ρ Q)
def dNot (ta : TDt) : TDt := fun ρ Q => ta ρ fun b => Q (!b)
theorem JW.jt (h : JW S e ta) : JT S e ta := ⟨fun G H σ ρ Q R q => h.run G H σ ρ Q R q _⟩
theorem jw_and1 (h : JT S a ta) : JW S (.BoolOp .And [a] pos) ta := ⟨fun G H σ ρ Q R q => WW.of (pw_and1 pt_w) (h.run G H σ ρ Q R q)⟩
theorem jw_or1 (h : JT S a ta) : JW S (.BoolOp .Or [a] pos) ta := ⟨fun G H σ ρ Q R q => WW.of (pw_or1 pt_w) (h.run G H σ ρ Q R q)⟩
theorem jw_and (ha : JT S a ta) (hb : JW S (.BoolOp .And (b :: rest) pos) tb) : JW S (.BoolOp .And (a :: b :: rest) pos) (dAnd ta tb) := by
  refine ⟨fun G H σ ρ Q R h => WW.of (pw_and pt_w pw_w) ((ha.run G H σ ρ _ R h).mono fun k H1 ⟨G1, x1, q1⟩ => ?_)⟩
  cases k with
  | false => exact ⟨G1, x1, q1.2 rfl⟩
  | true => exact (hb.run G1 H1 σ ρ Q (R.go x1) (q1.1 rfl)).mono fun v H2 ⟨G2, x2, q2⟩ => ⟨G2, x1.trans (Ext.from x1.h x2), q2⟩
theorem jw_or (ha : JT S a ta) (hb : JW S (.BoolOp .Or (b :: rest) pos) tb) : JW S (.BoolOp .Or (a :: b :: rest) pos) (dOr ta tb) := by
  refine ⟨fun G H σ ρ Q R h => WW.of (pw_or pt_w pw_w) ((ha.run G H σ ρ _ R h).mono fun k H1 ⟨G1, x1, q1⟩ => ?_)⟩
  cases k with
  | true => exact ⟨G1, x1, q1.1 rfl⟩
  | false => exact (hb.run G1 H1 σ ρ Q (R.go x1) (q1.2 rfl)).mono fun v H2 ⟨G2, x2, q2⟩ => ⟨G2, x1.trans (Ext.from x1.h x2), q2⟩
theorem jt_not (h : JT S a ta) : JT S (.UnaryOp .Not a pos) (dNot ta) := ⟨fun G H σ ρ Q R q => WT.of (pt_not pt_w) (h.run G H σ ρ (fun b => Q (!b)) R q)⟩
/-- a if t else b -/
def eIf (tc : TDt) (τa τb : TD) : TD := fun ρ Q => tc ρ fun b => (b = true → τa ρ Q) ∧ (b = false → τb ρ Q)
theorem je_ifExp (hc : JT S c ta) (ha : JE S a τa) (hb : JE S b τb) : JE S (.IfExp c a b pos) (eIf ta τa τb) := by
  refine ⟨fun G H σ ρ Q R h => WX.of (pe_ifExp pt_w pe_w pe_w) ((hc.run G H σ ρ _ R h).mono fun k H1 ⟨G1, x1, q1⟩ => ?_)⟩
  cases k with
  | true => exact (ha.run G1 H1 σ ρ Q (R.go x1) (q1.1 rfl)).mono fun v H2 ⟨G2, d, x2, r2, q2⟩ => ⟨G2, d, x1.trans (Ext.from x1.h x2), r2.from x1.h, q2⟩
  | false => exact (hb.run G1 H1 σ ρ Q (R.go x1) (q1.2 rfl)).mono fun v H2 ⟨G2, d, x2, r2, q2⟩ => ⟨G2, d, x1.trans (Ext.from x1.h x2), r2.from x1.h, q2⟩

/-! ### arguments, displays: lists that are new are frozen at once -/
def frzO : D → D
  | .own l => .lst l
  | d => d
theorem frzO_own {d : D} {l : List D} : frzO d ≠ .own l := by cases d <;> simp [frzO]
theorem RepV.frzO {nm : Nm} {H0 G H : Hp} {v : V} {d : D} (r : RepV nm H0 G H v d) (gh : Same G H) : ∃ G', Ext H0 G H G' H ∧ RepV nm H0 G' H v (frzO d) := by
  cases d with
  | own l =>
    obtain ⟨G', x, q⟩ := r.freeze gh rfl
    exact ⟨G', x, q⟩
  | _ => exact ⟨G, Ext.refl gh, r⟩
/-- values of which none is a new list -/
inductive RepA (nm : Nm) (G H : Hp) : List V → List D → Prop
  | nil : RepA nm G H [] []
  | cons {v : V} {vs : List V} {d : D} {ds : List D} : RepV nm H G H v d → isOwn d = false → RepA nm G H vs ds → RepA nm G H (v :: vs) (d :: ds)
theorem repV_noOwn {nm : Nm} {H0 H1 G H : Hp} {v : V} {d : D} (r : RepV nm H0 G H v d) (h : isOwn d = false) : RepV nm H1 G H v d := by
  cases d with
  | own l => cases h
  | _ => exact r
theorem isOwn_frzO (d : D) : isOwn (frzO d) = false := by cases d <;> rfl
structure JA' (S : Sit) (es : List Expr) (τ : TDs) : Prop where
  run : ∀ (G H : Hp) (σ : L2.St) (ρ : Env) (Q : List D → Prop), S.Rel G H σ ρ → τ ρ Q → WA S.X es σ H fun vs H' => ∃ G' ds, Ext H G H G' H' ∧ RepA S.nm G' H' vs ds ∧ Q ds
def aNil : TDs := fun _ Q => Q []
def aCons (τ : TD) (t : TDs) : TDs := fun ρ Q => τ ρ fun d => t ρ fun ds => Q (frzO d :: ds)
theorem ja_nil : JA' S [] aNil := ⟨fun G H σ ρ Q R h => WA.of pa_nil ⟨G, [], Ext.refl R.gh, .nil, h⟩⟩
theorem ja_cons {t : TDs} (ha : JE S e τa) (hr : JA' S es t) (hs : starEach (e :: es) S.X.env = (false, eval e S.X.env) :: starEach es S.X.env := by rfl) : JA' S (e :: es) (aCons τa t) := by
  refine ⟨fun G H σ ρ Q R h => WA.of (pa_cons pe_w pa_w hs) ((ha.run G H σ ρ _ R h).mono fun v H1 ⟨G1, d, x1, r1, q1⟩ => ?_)⟩
  obtain ⟨G1', x1', r1'⟩ := r1.frzO x1.gh
  have y1 := x1.trans x1'
  refine (hr.run G1' H1 σ ρ _ (R.go y1) q1).mono fun vs H2 ⟨G2, ds, x2, r2, q2⟩ => ⟨G2, frzO d :: ds, y1.trans (Ext.from y1.h x2), .cons ?_ (isOwn_frzO d) r2, q2⟩
  exact repV_noOwn (r1'.ext x2) (isOwn_frzO d)
/-- no borrowed list among them: plain values -/
theorem RepA.reps {nm : Nm} {G H : Hp} : ∀ {vs : List V} {ds : List D}, RepA nm G H vs ds → ds.any isBor = false → Reps nm G vs ds
  | _, _, .nil, _ => .nil
  | _, _, .cons (d := d) r n q, h => by
    rw [List.any_cons, Bool.or_eq_false_iff] at h
    refine .cons ?_ (RepA.reps q h.2)
    cases d with
    | own l => cases n
    | bor l => cases h.1
    | _ => exact r
def eTup (t : TDs) : TD := fun ρ Q => t ρ fun ds => ds.any isBor = false ∧ ds.length ≤ sizeLine ∧ Q (.tup ds)
def eLst (t : TDs) : TD := fun ρ Q => t ρ fun ds => ds.any isBor = false ∧ ds.length ≤ sizeLine ∧ Q (.own ds)
theorem je_tup {t : TDs} {x1} (h : JA' S es t) : JE S (.Tuple es x1 pos) (eTup t) := by
  refine ⟨fun G H σ ρ Q R q => WX.of (pe_tup pa_w) ((h.run G H σ ρ _ R q).mono fun vs H1 ⟨G1, ds, x1, r1, nb, hl, q1⟩ => ?_)⟩
  have rs := r1.reps nb
  refine ⟨by rw [rs.length]; exact hl, fun p hp => ?_⟩
  have gp : G1 p = none := x1.gh.free hp
  have sg : Same G1 (upd G1 p (.tup vs)) := same_upd gp
  refine ⟨upd G1 p (.tup vs), .tup ds, x1.trans ⟨sg, same_upd hp, fun b o e => ?_, fun a ea na => ?_⟩, .of (.tup upd_same (rs.mono sg)), q1⟩
  · by_cases hb : b = p
    · subst hb; rw [upd_same] at e ⊢; exact e
    · rw [upd_ne hb] at e ⊢; exact x1.gh _ _ e
  · rw [upd_ne (fun z => na (by rw [z]; exact x1.h.free hp))]; exact ea
theorem je_lst {t : TDs} (h : JA' S es t) : JE S (.List es pos) (eLst t) := by
  refine ⟨fun G H σ ρ Q R q => WX.of (pe_lst pa_w) ((h.run G H σ ρ _ R q).mono fun vs H1 ⟨G1, ds, x1, r1, nb, hl, q1⟩ => ?_)⟩
  have rs := r1.reps nb
  refine ⟨by rw [rs.length]; exact hl, fun p hp => ?_⟩
  have gp : G1 p = none := x1.gh.free hp
  exact ⟨G1, .own ds, x1.trans (Ext.grow x1.gh (same_upd hp)), ⟨p, vs, rfl, upd_same, gp, x1.h.free hp, rs⟩, q1⟩

/-! ### built-ins by name -/
abbrev RDs := List D → (D → Prop) → Prop
def DCall (S : Sit) (f : Value) (r : RDs) : Prop :=
  ∀ (H0 G H : Hp) (xs : List V) (ds : List D) (Q : D → Prop), Same H0 H → Same G H → RepA S.nm G H xs ds → r ds Q →
    ∀ (pins : List (Addr × Obj)) (s : Shared) (σ : L2.St) (us : List Value), Inv S.X pins σ H s → Vals xs us →
      wpAny (model S.X.prog S.X.w) S.X.A (call f us) (EP S.X pins σ fun z H' => ∃ G' d', Ext H0 G H G' H' ∧ RepV S.nm H0 G' H' z d' ∧ Q d') S.X.xe s
def cSem (X : Cx) (f : Value) : List V → Hp → VK → Prop := fun xs H Q => ∀ (pins : List (Addr × Obj)) (s : Shared) (σ : L2.St) (us : List Value), Inv X pins σ H s → Vals xs us → wpAny (model X.prog X.w) X.A (call f us) (EP X pins σ Q) X.xe s
theorem call_sem {X : Cx} {f : Value} : CallR X f (cSem X f) := fun pins s σ _ _ us _ I r h => h pins s σ us I r
theorem DCall.of {f : Value} {r : RDs} (h : ∀ (H0 G H : Hp) (xs : List V) (ds : List D) (Q : D → Prop), Same H0 H → Same G H → RepA S.nm G H xs ds → r ds Q →
    ∃ r' : List V → Hp → VK → Prop, CallR S.X f r' ∧ r' xs H fun z H' => ∃ G' d', Ext H0 G H G' H' ∧ RepV S.nm H0 G' H' z d' ∧ Q d') : DCall S f r := fun H0 G H xs ds Q s0 gh ra q pins s σ us I rv => by
  obtain ⟨r', ho, q'⟩ := h H0 G H xs ds Q s0 gh ra q
  exact ho pins s σ H xs us _ I rv q'
def eCB (r : RDs) (t : TDs) : TD := fun ρ Q => t ρ fun ds => r ds Q
theorem cb_run {f : Value} {r : RDs} {t : TDs} (hc : DCall S f r) (h : JA' S es t) {G H : Hp} {σ : L2.St} {ρ : Env} {Q : D → Prop} (R : S.Rel G H σ ρ) (q : eCB r t ρ Q) :
    tCB (cSem S.X f) (WA S.X es) σ H fun v H' => ∃ G' d, Ext H G H G' H' ∧ RepV S.nm H G' H' v d ∧ Q d := by
  refine (h.run G H σ ρ _ R q).mono fun vs H1 ⟨G1, ds, x1, r1, q1⟩ => ?_
  intro pins s σ' us I rv
  refine thn (hc H G1 H1 vs ds Q x1.h x1.gh r1 q1 pins s σ' us I rv) fun z s' ⟨w, H3, I3, rz, G3, d3, x3, r3, q3⟩ => ?_
  exact ⟨w, H3, I3, rz, G3, d3, x1.trans x3, r3, q3⟩
theorem je_callB {x : Str} {p : Pos} {id : String} {r : RDs} {t : TDs} (hc : DCall S (.builtin id) r) (hg : Gl S.X x) (hm : S.X.mg x = none) (hv : bootBuiltins x = some (.builtin id)) (h : JA' S (e :: es) t) (hn : x ≠ "__name__" := by decide) (hdb : (x == ("__debug__" : Str)) = false := by decide)
    (he : starEach (e :: es) S.X.env = (false, eval e S.X.env) :: starEach es S.X.env := by rfl) (hpl : (backTo pos (starEach es S.X.env)).any (·.1) = false := by rfl) : JE S (.Call (.Name x p) (e :: es) [] pos) (eCB r t) :=
  ⟨fun G H σ ρ Q R q => WX.of (pe_callB call_sem hg hm hv pa_w hn hdb he hpl) (cb_run hc h R q)⟩
theorem je_callTy {x : Str} {p : Pos} {T : String} {r : RDs} {t : TDs} (hc : DCall S (.type T) r) (hg : Gl S.X x) (hm : S.X.mg x = none) (hv : bootBuiltins x = some (.type T)) (h : JA' S (e :: es) t) (hn : x ≠ "__name__" := by decide) (hdb : (x == ("__debug__" : Str)) = false := by decide)
    (he : starEach (e :: es) S.X.env = (false, eval e S.X.env) :: starEach es S.X.env := by rfl) (hpl : (backTo pos (starEach es S.X.env)).any (·.1) = false := by rfl) : JE S (.Call (.Name x p) (e :: es) [] pos) (eCB r t) :=
  ⟨fun G H σ ρ Q R q => WX.of (pe_callTy call_sem hg hm hv pa_w hn hdb he hpl) (cb_run hc h R q)⟩
end

/-! ### a def's promise -/
/-- a def's end: it gives back a value, or an exception of the named class -/
inductive Out where
  | ret (d : D)
  | exn (C : Str)
abbrev MD := List D → (Out → Prop) → Prop
def spD (nm : Nm) (M : MD) : Sp := fun vs H Q E => ∃ (G : Hp) (ds : List D) (P : Out → Prop), Same G H ∧ Reps nm G vs ds ∧ M ds P ∧
  (∀ (G' H' : Hp) (v : V) (r : D), Ext H G H G' H' → RepV nm H G' H' v r → isBor r = false → P (.ret r) → Q v H') ∧
  (∀ (C : Str) (H' : Hp), Same H H' → P (.exn C) → E (.ref (nm.ad C)) none H')
mutual
def noLst : D → Bool
  | .lst _ => false
  | .own _ => false
  | .bor _ => false
  | .tup l => noLsts l
  | .scr _ => false
  | .ins _ _ l => noLsts l
  | .non => true
  | .bl _ => true
  | .int _ => true
  | .str _ => true
  | .exc _ => true
  | .dct _ _ => false
def noLsts : List D → Bool
  | [] => true
  | d :: ds => noLst d && noLsts ds
end
def retOk : D → Bool
  | .own l => noLsts l
  | d => noLst d
section
variable {nm : Nm} {G G' : Hp}
mutual
theorem Rep.cut (h : ∀ a o, G a = some o → (∀ l, o ≠ .lst l) → G' a = some o) : ∀ (d : D) (v : V), noLst d = true → Rep nm G v d → Rep nm G' v d
  | .non, _, _, r => by cases r; exact .non
  | .bl b, _, _, r => by cases r; exact .bl b
  | .int i, _, _, r => by cases r; exact .int i
  | .str x, _, _, r => by cases r; exact .str x
  | .tup ds, _, n, r => by
    cases r with
    | tup e q => exact .tup (h _ _ e (fun l z => by cases z)) (Reps.cut h ds _ n q)
  | .lst ds, _, n, r => by cases n
  | .scr ds, _, n, r => by cases n
  | .own _, _, _, r => by cases r
  | .bor _, _, _, r => by cases r
  | .ins C ns ds, _, n, r => by
    cases r with
    | ins e q => exact .ins (h _ _ e (fun l z => by cases z)) (Reps.cut h ds _ n q)
  | .exc C, _, _, r => by
    cases r with
    | exc e => exact .exc (h _ _ e (fun l z => by cases z))
  | .dct _ _, _, n, r => by cases n
theorem Reps.cut (h : ∀ a o, G a = some o → (∀ l, o ≠ .lst l) → G' a = some o) : ∀ (ds : List D) (vs : List V), noLsts ds = true → Reps nm G vs ds → Reps nm G' vs ds
  | [], _, _, r => by cases r; exact .nil
  | d :: ds, _, n, r => by
    have n' : noLst d = true ∧ noLsts ds = true := by
      have z : (noLst d && noLsts ds) = true := n
      simpa using z
    cases r with
    | cons e q => exact .cons (Rep.cut h d _ n'.1 e) (Reps.cut h ds _ n'.2 q)
end
end
/-- borrowed lists frozen for the time of a call -/
theorem RepA.lend {nm : Nm} {H : Hp} : ∀ {vs : List V} {ds : List D} {G : Hp}, RepA nm G H vs ds → Same G H →
    ∃ G1, Same G G1 ∧ Same G1 H ∧ Reps nm G1 vs (ds.map frz) ∧ (∀ a, G a = none → G1 a ≠ none → ∃ l, H a = some (.lst l)) ∧ (ds.any isBor = false → G1 = G)
  | _, _, G, .nil, gh => ⟨G, Same.refl G, gh, .nil, fun a h n => absurd h n, fun _ => rfl⟩
  | _, _, G, .cons (v := v) (d := d) r n q, gh => by
    cases d with
    | own l => cases n
    | bor l =>
      obtain ⟨p, ws, rfl, e1, n1, q1⟩ := r
      obtain ⟨G1, s1, t1, rs, fr, _⟩ := RepA.lend q gh
      by_cases hp : G1 p = none
      · have sm : Same G1 (upd G1 p (.lst ws)) := same_upd hp
        refine ⟨upd G1 p (.lst ws), s1.trans sm, fun b o eb => ?_, .cons (.lst upd_same ((q1.mono s1).mono sm)) (rs.mono sm), fun a h0 h1 => ?_, fun h => ?_⟩
        · by_cases hb : b = p
          · subst hb; rw [upd_same] at eb; cases eb; exact e1
          · rw [upd_ne hb] at eb; exact t1 _ _ eb
        · by_cases hb : a = p
          · subst hb; exact ⟨ws, e1⟩
          · rw [upd_ne hb] at h1; exact fr a h0 h1
        · simp [isBor] at h
      · obtain ⟨o, ho⟩ : ∃ o, G1 p = some o := by
          cases z : G1 p with
          | none => exact absurd z hp
          | some o => exact ⟨o, rfl⟩
        have e2 := t1 _ _ ho
        rw [e1] at e2
        cases e2
        exact ⟨G1, s1, t1, .cons (.lst ho (q1.mono s1)) rs, fr, fun h => by simp [isBor] at h⟩
    | _ =>
      obtain ⟨G1, s1, t1, rs, fr, fe⟩ := RepA.lend q gh
      refine ⟨G1, s1, t1, .cons (Rep.mono s1 _ _ r) rs, fr, fun h => fe ?_⟩
      rw [List.any_cons, Bool.or_eq_false_iff] at h
      exact h.2
/-- behind a call: what was lent is one's own again -/
theorem unlend {nm : Nm} {G G1 G4 H2 H4 H0 : Hp} {v : V} {r : D} (s0 : Same H0 H2) (s1 : Same G G1) (t1 : Same G1 H2) (fr : ∀ a, G a = none → G1 a ≠ none → ∃ l, H2 a = some (.lst l)) (x : Ext H2 G1 H2 G4 H4) (q : RepV nm H2 G4 H4 v r) (ok : retOk r = true) :
    ∃ G5, Ext H0 G H2 G5 H4 ∧ RepV nm H0 G5 H4 v r := by
  classical
  let G5 : Hp := fun a => if G a = none ∧ G1 a ≠ none then none else G4 a
  have g5 : ∀ a o, G5 a = some o → G4 a = some o := fun a o e => by
    show G4 a = some o
    have e' : (if G a = none ∧ G1 a ≠ none then none else G4 a) = some o := e
    split at e'
    · cases e'
    · exact e'
  have k5 : ∀ a, ¬ (G a = none ∧ G1 a ≠ none) → G5 a = G4 a := fun a h => if_neg h
  have z5 : ∀ a, G4 a = none → G5 a = none := fun a h => by
    show (if G a = none ∧ G1 a ≠ none then none else G4 a) = none
    split
    · rfl
    · exact h
  have cut : ∀ a o, G4 a = some o → (∀ l, o ≠ .lst l) → G5 a = some o := fun a o e nl => by
    rw [k5 a, e]
    rintro ⟨h1, h2⟩
    obtain ⟨l, hl⟩ := fr a h1 h2
    have := x.gh a o e
    rw [x.h a _ hl] at this
    cases this
    exact nl l rfl
  refine ⟨G5, ⟨fun b o e => ?_, x.h, fun b o e => x.gh b o (g5 b o e), fun a ea na => ?_⟩, ?_⟩
  · rw [k5 b (fun h => by rw [e] at h; cases h.1)]
    exact x.g b o (s1 b o e)
  · by_cases h : G1 a = none
    · refine z5 a (x.new a h (fun z => na ?_))
      exact s0.free z
    · exact if_pos ⟨ea, h⟩
  · cases r with
    | own l =>
      obtain ⟨p, vs, rfl, e1, n1, n2, rs⟩ := q
      exact ⟨p, vs, rfl, e1, z5 p n1, s0.free n2, Reps.cut cut l vs ok rs⟩
    | bor l => cases ok
    | _ => exact Rep.cut cut _ _ ok q

/-- what is wished of an exception is granted -/
def JX (S : Sit) : Prop := ∃ W : L2.WX, Takes S.X W ∧ ∀ (G H : Hp) (σ : L2.St) (ρ : Env) (C : Str), S.Rel G H σ ρ → S.ex C ρ → W (.ref (S.nm.ad C)) none σ H
/-- the whole: program, world, written part, module names, base, classes -/
structure Gm where
  P : Program
  w : World
  K : PySem.W.Frag
  mg : Str → Option Value
  base : Heap
  nm : Nm
  kk : nm.K = K
  ww : nm.w = w := by rfl
abbrev Sit.gm (S : Sit) : Gm := ⟨S.X.prog, S.X.w, S.X.K, S.X.mg, S.X.base, S.nm, S.kk, S.ww⟩
structure Cal (Γ : Gm) (k : Nat) (x : Str) (n : Nat) (M : MD) : Prop where
  ex : ∃ (f : Addr) (fd : FuncData) (ps : List Str), ps.length = n ∧ FnOk Γ.P Γ.w Γ.K Γ.mg Γ.base (L2.CX Γ.P Γ.w) k f fd ps (spD Γ.nm M) ∧ Γ.mg x = some (.ref f) ∧ PySem.W.keepIn Γ.K (.ref f) = true ∧ Binds Γ.K fd ps []
theorem Cal.mono {Γ : Gm} {j k : Nat} {x : Str} {n : Nat} {M : MD} (h : Cal Γ j x n M) (l : j ≤ k) : Cal Γ k x n M := by
  obtain ⟨f, fd, ps, h1, h2, h3⟩ := h.ex
  exact ⟨f, fd, ps, h1, h2.mono l, h3⟩
abbrev TX := Str → Env → Prop
def oCall (ex : TX) (ρ : Env) (ds : List D) (M : MD) (Q : D → Prop) : Prop := M (ds.map frz) fun out => match out with
  | .ret r => (ds.any isBor = true → retOk r = true) ∧ Q r
  | .exn C => ex C ρ
def eCall (ex : TX) (M : MD) (t : TDs) : TD := fun ρ Q => t ρ fun ds => oCall ex ρ ds M Q
/-- the callee's promise, from the values -/
theorem sp_of {S : Sit} {M : MD} {W : L2.WX} (hW : ∀ (G H : Hp) (σ : L2.St) (ρ : Env) (C : Str), S.Rel G H σ ρ → S.ex C ρ → W (.ref (S.nm.ad C)) none σ H) {H0 G H : Hp} {σ : L2.St} {ρ : Env} {vs : List V} {ds : List D} {Q : D → Prop}
    (R : S.Rel G H σ ρ) (s0 : Same H0 H) (ra : RepA S.nm G H vs ds) (q : oCall S.ex ρ ds M Q) :
    spD S.nm M vs H (fun v H' => ∃ G' d, Ext H0 G H G' H' ∧ RepV S.nm H0 G' H' v d ∧ Q d) (WE W σ) := by
  obtain ⟨G1, s1, t1, rs, fr, fe⟩ := ra.lend R.gh
  refine ⟨G1, _, _, t1, rs, q, fun G' H' v r x rv nb pr => ?_, fun C H' sm pe => ?_⟩
  · cases hb : ds.any isBor with
    | true =>
      obtain ⟨G5, x5, r5⟩ := unlend s0 s1 t1 fr x rv (pr.1 hb)
      exact ⟨G5, r, x5, r5, pr.2⟩
    | false =>
      have e := fe hb
      subst e
      exact ⟨G', r, Ext.from s0 x, rv.from s0, pr.2⟩
  · exact hW G H' σ ρ C (R.go (Ext.grow R.gh sm)) pe
section
variable {S : Sit} {o e : Expr} {es : List Expr} {pos p apos : Pos} {t : TDs} {M : MD} {k n : Nat} {x m : Str}
theorem je_call {Γ : Gm} (jx : JX S) (F : Cal Γ k x n M) (hr : Room k S.X.A) (hg : Gl S.X x) (h : JA' S (e :: es) t) (hdb : (x == ("__debug__" : Str)) = false := by decide)
    (he : starEach (e :: es) S.X.env = (false, eval e S.X.env) :: starEach es S.X.env := by rfl) (hpl : (backTo pos (starEach es S.X.env)).any (·.1) = false := by rfl) (hG : S.gm = Γ := by rfl) : JE S (.Call (.Name x p) (e :: es) [] pos) (eCall S.ex M t) := by
  subst hG
  obtain ⟨W, tk, hW⟩ := jx
  obtain ⟨f, fd, ps, _, F, hm, hk, hb⟩ := F.ex
  refine ⟨fun G H σ ρ Q R q => WX.of (pe_callS F hr hg hm hk hb (fun σ => passAt tk σ) pa_w hdb he hpl) ?_⟩
  refine (h.run G H σ ρ _ R q).mono fun vs H1 ⟨G1, ds, x1, r1, q1⟩ => ?_
  have z := sp_of hW (R.go x1) x1.h r1 q1
  obtain ⟨G2, ds2, P2, a1, a2, a3, a4, a5⟩ := z
  refine ⟨G2, ds2, P2, a1, a2, a3, fun G' H' v r y1 y2 y3 y4 => ?_, a5⟩
  obtain ⟨G3, d, x3, r3, q3⟩ := a4 G' H' v r y1 y2 y3 y4
  exact ⟨G3, d, x1.trans x3, r3, q3⟩

/-- o.m(..) with an exception's wish by the slots -/
def tMethS (C : Addr) (m : Str) (sp : Sp) (E : L2.St → XK) (ta : TE) (t : TA) : TE := fun σ H Q => ta σ H fun x H1 => ∃ a dx fs, x = .ref a ∧ H1 a = some (.ins C dx fs) ∧ fs.lookup m = none ∧ t σ H1 fun vs H2 => sp (x :: vs) H2 Q (E σ)
theorem pe_methS {X : Cx} {C f : Addr} {fd : FuncData} {ps : List Str} {sp : Sp} {CX : CXT} {E : L2.St → XK} {ta : TE} {t : TA} {pl : Sem Bool} (he : PE X o ta) (c : Cls X.K C) (hm : Meth X.K C m f) (F : FnOk X.prog X.w X.K X.mg X.base CX k f fd ps sp) (hr : Room k X.A) (hb : Binds X.K fd ps []) (hx : ∀ σ, PassesAt CX X σ (E σ)) (ha : PA X (e :: es) t)
    (hst : starEach (e :: es) X.env = (false, eval e X.env) :: starEach es X.env := by rfl) (hpl : (backTo pos (starEach es X.env)).any (·.1) = false := by rfl)
    (ht : eval (.Call (.Attribute o m apos) (e :: es) [] pos) X.env = (do
      let ov ← eval o X.env
      standAt apos.atName
      let (f, first) ← holding [ov] (getMethod ov m pl)
      callWith pos f first (backTo pos (starEach (e :: es) X.env)) (backToKw pos (keywordEach [] X.env))) := by rfl) :
    PE X (.Call (.Attribute o m apos) (e :: es) [] pos) (tMethS C m sp E ta t) := by
  refine ⟨fun pins s σ H Q I h => ?_⟩
  refine PySem.W.methodCall_KW (pl := pl) (thn (he.run pins s σ H _ I h) fun u s1 ⟨x, H1, I1, rx, a, dx, fs, ex, ea, l, q⟩ => ?_) ht
  subst ex
  obtain rfl : u = Value.ref a := rx
  refine getmeth_ok I1 ea c hm l ?_
  refine PySem.W.callWith_K (first := [.ref a]) (h₀ := X.base) I.ok.mod.kin hm.kp (thn (ha.run pos pins s1 σ H1 _ I1 q) fun us s2 ⟨vs, H2, I2, r, q2⟩ => ⟨I2.kIn, ?_⟩) hst hpl
  exact run_fnS (us := .ref a :: us) (vs := .ref a :: vs) F hr hb (hx σ) I2 (.cons rfl r) q2
/-- a method of the class named C -/
structure CalM (Γ : Gm) (k : Nat) (C m : Str) (n : Nat) (M : MD) : Prop where
  ex : ∃ (f : Addr) (fd : FuncData) (ps : List Str), ps.length = n ∧ FnOk Γ.P Γ.w Γ.K Γ.mg Γ.base (L2.CX Γ.P Γ.w) k f fd ps (spD Γ.nm M) ∧ Cls Γ.K (Γ.nm.ad C) ∧ Meth Γ.K (Γ.nm.ad C) m f ∧ Binds Γ.K fd ps []
theorem CalM.mono {Γ : Gm} {j k : Nat} {C m : Str} {n : Nat} {M : MD} (h : CalM Γ j C m n M) (l : j ≤ k) : CalM Γ k C m n M := by
  obtain ⟨f, fd, ps, h1, h2, h3⟩ := h.ex
  exact ⟨f, fd, ps, h1, h2.mono l, h3⟩
theorem lookup_zip_none {m : Str} : ∀ {ns : List Str} {vs : List V}, m ∉ ns → (ns.zip vs).lookup m = none
  | [], _, _ => rfl
  | _ :: _, [], _ => rfl
  | n :: ns, v :: vs, h => by
    rw [List.zip_cons_cons, List.lookup_cons, beq_eq_false_iff_ne.mpr (fun z => h (by rw [z]; exact List.mem_cons_self))]
    exact lookup_zip_none fun z => h (List.mem_cons_of_mem _ z)
/-- the receiver stands in slot i -/
def eMeth (Γ : Gm) (ex : TX) (k : Nat) (i : Nat) (m : Str) (n : Nat) (t : TDs) : TD := fun ρ Q => ∃ C ns fs M, ρ[i]? = some (some (.ins C ns fs)) ∧ m ∉ ns ∧ CalM Γ k C m n M ∧ t ρ fun ds => oCall ex ρ (.ins C ns fs :: ds) M Q
theorem je_meth (Γ : Gm) (n : Nat) (jx : JX S) (hr : Room k S.X.A) {i : Nat} {y : Str} {py : Pos} {pl : Sem Bool} (ho : PE S.X (.Name y py) (tVar i)) (h : JA' S (e :: es) t)
    (hst : starEach (e :: es) S.X.env = (false, eval e S.X.env) :: starEach es S.X.env := by rfl) (hpl : (backTo pos (starEach es S.X.env)).any (·.1) = false := by rfl)
    (ht : eval (.Call (.Attribute (.Name y py) m apos) (e :: es) [] pos) S.X.env = (do
      let ov ← eval (.Name y py) S.X.env
      standAt apos.atName
      let (f, first) ← holding [ov] (getMethod ov m pl)
      callWith pos f first (backTo pos (starEach (e :: es) S.X.env)) (backToKw pos (keywordEach [] S.X.env))) := by rfl) (hG : S.gm = Γ := by rfl) :
    JE S (.Call (.Attribute (.Name y py) m apos) (e :: es) [] pos) (eMeth Γ S.ex k i m n t) := by
  subst hG
  obtain ⟨W, tk, hW⟩ := jx
  refine ⟨fun G H σ ρ Q R q => ?_⟩
  obtain ⟨C, ns, fs, M, e0, hn, F, q⟩ := q
  obtain ⟨f, fd, ps, _, F, hc, hm, hb⟩ := F.ex
  refine WX.of (pe_methS ho hc hm F hr hb (fun σ => passAt tk σ) pa_w hst hpl ht) ?_
  obtain ⟨v, h1, h2, _⟩ := R.slot i _ e0
  have h2' : Rep S.nm G v (.ins C ns fs) := h2
  refine ⟨v, h1, ?_⟩
  cases h2' with
  | ins ea ra =>
    refine ⟨_, _, _, rfl, R.gh _ _ ea, lookup_zip_none hn, ?_⟩
    refine (h.run G H σ ρ _ R q).mono fun vs H1 ⟨G1, ds, x1, r1, q1⟩ => ?_
    have z := sp_of hW (R.go x1) x1.h (.cons (.of (.ins (x1.g _ _ ea) (ra.mono x1.g))) rfl r1) q1
    obtain ⟨G2, ds2, P2, a1, a2, a3, a4, a5⟩ := z
    refine ⟨G2, ds2, P2, a1, a2, a3, fun G' H' v r y1 y2 y3 y4 => ?_, a5⟩
    obtain ⟨G3, d, x3, r3, q3⟩ := a4 G' H' v r y1 y2 y3 y4
    exact ⟨G3, d, x1.trans x3, r3, q3⟩
/-- a field -/
def fldOf : List Str → List D → Str → Option D
  | n :: ns, d :: ds, f => if f = n then some d else fldOf ns ds f
  | _, _, _ => none
theorem fld_get {nm : Nm} {G : Hp} {f : Str} : ∀ {ns : List Str} {vs : List V} {ds : List D} {d : D}, Reps nm G vs ds → fldOf ns ds f = some d → ∃ v, (ns.zip vs).lookup f = some v ∧ Rep nm G v d
  | [], _, _, _, _, h => by simp [fldOf] at h
  | _ :: _, _, _, _, .nil, h => by simp [fldOf] at h
  | n :: ns, _, _, _, .cons (v := v) (vs := vs) r q, h => by
    unfold fldOf at h
    split at h
    · rename_i e
      cases h
      subst e
      exact ⟨v, by rw [List.zip_cons_cons, List.lookup_cons_self], r⟩
    · rename_i e
      obtain ⟨u, h1, h2⟩ := fld_get q h
      exact ⟨u, by rw [List.zip_cons_cons, List.lookup_cons, beq_eq_false_iff_ne.mpr e]; exact h1, h2⟩
def FldOk (K : PySem.W.Frag) (nm : Nm) (C f : Str) : Prop := Cls K (nm.ad C) ∧ NoAttr K (nm.ad C) f
def eFld (Γ : Gm) (τ : TD) (f : Str) : TD := fun ρ Q => τ ρ fun d => match d with
  | .ins C ns fs => FldOk Γ.K Γ.nm C f ∧ ∃ x, fldOf ns fs f = some x ∧ Q x
  | _ => False
theorem je_fld (Γ : Gm) {τ : TD} {f : Str} (ho : JE S o τ) (hb : attributeBase o f S.X.env (eval o S.X.env) = eval o S.X.env := by rfl) (hG : S.gm = Γ := by rfl) : JE S (.Attribute o f pos) (eFld Γ τ f) := by
  subst hG
  refine ⟨fun G H σ ρ Q R q => WX.of (pe_fld pe_w hb) ((ho.run G H σ ρ _ R q).mono fun v H1 ⟨G1, d, x1, r1, q1⟩ => ?_)⟩
  cases d with
  | ins C ns fs =>
    obtain ⟨⟨hc, ha⟩, q1⟩ := q1
    have r1' : Rep S.nm G1 v (.ins C ns fs) := r1
    cases r1' with
    | ins ea ra =>
      obtain ⟨d, e, q1⟩ := q1
      obtain ⟨u, h1, h2⟩ := fld_get ra e
      exact ⟨_, _, _, _, u, rfl, x1.gh _ _ ea, hc, ha, h1, G1, d, x1, .of h2, q1⟩
  | _ => exact q1.elim
end
end DD

set_option Elab.async false
set_option linter.all false
set_option maxRecDepth 100000
set_option maxHeartbeats 1000000
namespace DD
open PySem PySem.Spec PyProof.Rows L2

/-! ### targets -/
section
variable {S : Sit} {a b c e : Expr} {es : List Expr} {pos : Pos} {τa τb τc : TD} {st : Stmt} {sts : List Stmt} {t u : TDS}
def gN (i : Nat) : TDG := fun d ρ Q => isBor d = false ∧ Nx Q (put ρ i (some d))
theorem jg_name {i : Nat} {x : Str} (hN : S.X.N.Nodup) (hi : S.X.N[i]? = some x) (hx : Loc S.X.env.scope x) (hf : S.X.fn x = true ∨ S.X.env.scope.names.lookup x = some .local := by first | exact .inl rfl | exact .inr rfl | assumption) (np : npb S.pp i = true := by rfl) : JG S (.Name x pos) (gN i) := by
  refine ⟨fun G0 H0 G H σ ρ v d Q R x0 r h => ?_⟩
  intro pins s u I rv
  refine (pg_name hN hi hx hf).run pins s σ H v u _ I rv ?_
  exact ⟨G, _, R.set i x0 r h.1 np, Same.refl G, h.2.getS⟩
def gTup (t : TDGs) : TDG := fun d ρ Q => match d with
  | .tup ds => t ds ρ Q
  | _ => False
def gtNil : TDGs := fun ds ρ Q => match ds with
  | [] => Q ρ
  | _ => False
def gtCons (g : TDG) (t : TDGs) : TDGs := fun ds ρ Q => match ds with
  | d :: ds => g d ρ fun ρ2 => t ds ρ2 Q
  | _ => False
theorem jgs_nil : JGs S [] gtNil := by
  refine ⟨fun G H σ ρ vs ds Q R r h => ?_⟩
  cases r with
  | nil =>
    intro pins s us I rv
    exact pgs_nil.run pins s σ H [] us _ I rv ⟨rfl, G, ρ, R, Same.refl G, h⟩
  | cons _ _ => exact h.elim
theorem jgs_cons {g : TDG} {t : TDGs} (h1 : JG S e g) (h2 : JGs S es t) (hs : (assignEach (e :: es) S.X.env).map (·.2) = assign e S.X.env :: (assignEach es S.X.env).map (·.2) := by rfl) : JGs S (e :: es) (gtCons g t) := by
  refine ⟨fun G H σ ρ vs ds Q R r h => ?_⟩
  cases r with
  | nil => exact h.elim
  | cons r rs =>
    rename_i v vs d ds
    intro pins s us I rv
    refine (pgs_cons pg_w pgs_w hs).run pins s σ H (v :: vs) us _ I rv ⟨v, vs, rfl, ?_⟩
    refine (h1.run G H G H σ ρ v d _ R (Ext.refl R.gh) (.of r) h).mono fun σ' H' ⟨G', ρ', R', sg, q'⟩ => ?_
    exact (h2.run G' H' σ' ρ' vs ds Q R' (rs.mono sg) q').mono fun σ2 H2 ⟨G2, ρ2, R2, sg2, q2⟩ => ⟨G2, ρ2, R2, sg.trans sg2, q2⟩
/-- (a, b) = a tuple -/
theorem jg_tup {k : Nat} {t : TDGs} {n : Nat} (hc : S.X.calm = true) (h : JGs S es t)
    (hn : (assignEach es S.X.env).length = n := by rfl) (hst : (assignEach es S.X.env).findIdx? (·.1) = none := by rfl) : JG S (.Tuple es k pos) (fun d ρ Q => match d with
  | .tup ds => ds.length = n ∧ t ds ρ Q
  | _ => False) := by
  refine ⟨fun G0 H0 G H σ ρ v d Q R x0 r h' => ?_⟩
  cases d with
  | tup ds =>
    have r' : Rep S.nm G v (.tup ds) := r
    cases r' with
    | tup e rs =>
      intro pins s u I rv
      refine (pg_tup hc pgs_w hn hst).run pins s σ H _ u _ I rv ⟨_, _, rfl, .inl (.inl (x0.gh _ _ e)), rs.length.trans h'.1, ?_⟩
      exact h.run G H σ ρ _ ds Q (R.go x0) rs h'.2
  | _ => exact h'.elim

/-! ### statements -/
theorem WS.lift {G1 G H : Hp} {σ : L2.St} {E : DE} (sg : Same G G1) (h : WS S.X st (lift S G1 E) σ H) : WS S.X st (lift S G E) σ H :=
  h.mono (fun _ _ ⟨G', ρ', R', s', q⟩ => ⟨G', ρ', R', sg.trans s', q⟩) (fun _ _ q => q) (fun _ _ ⟨G', ρ', R', s', q⟩ => ⟨G', ρ', R', sg.trans s', q⟩) fun _ _ ⟨G', ρ', R', s', q⟩ => ⟨G', ρ', R', sg.trans s', q⟩
theorem WSs.lift {G1 G H : Hp} {σ : L2.St} {E : DE} (sg : Same G G1) (h : WSs S.X sts (lift S G1 E) σ H) : WSs S.X sts (lift S G E) σ H :=
  h.mono (fun _ _ ⟨G', ρ', R', s', q⟩ => ⟨G', ρ', R', sg.trans s', q⟩) (fun _ _ q => q) (fun _ _ ⟨G', ρ', R', s', q⟩ => ⟨G', ρ', R', sg.trans s', q⟩) fun _ _ ⟨G', ρ', R', s', q⟩ => ⟨G', ρ', R', sg.trans s', q⟩
def dNext : TDS := fun E ρ => E.nx ρ
def dSeq (t u : TDS) : TDS := fun E ρ => t { E with nx := u E } ρ
theorem jss_nil : JSs S [] dNext := ⟨fun G H σ ρ E R h => WSs.of pss_nil ⟨G, ρ, R, Same.refl G, h⟩⟩
theorem jss_cons (h1 : JS S st t) (h2 : JSs S sts u) : JSs S (st :: sts) (dSeq t u) := by
  refine ⟨fun G H σ ρ E R h => WSs.of (pss_cons ps_w pss_w) ?_⟩
  refine (h1.run G H σ ρ _ R h).mono (fun σ' H' ⟨G', ρ', R', sg, q⟩ => ?_) (fun _ _ q => q) (fun _ _ q => q) fun _ _ q => q
  exact (h2.run G' H' σ' ρ' E R' q).lift sg
theorem jss_one (h1 : JS S st t) : JSs S [st] t := ⟨fun G H σ ρ E R h => WSs.of (pss_one ps_w) (h1.run G H σ ρ E R h)⟩
theorem js_pass : JS S (.Pass pos) dNext := ⟨fun G H σ ρ E R h => WS.of ps_pass ⟨G, ρ, R, Same.refl G, h⟩⟩
theorem js_break : JS S (.Break pos) (fun E ρ => E.bk ρ) := ⟨fun G H σ ρ E R h => WS.of ps_break ⟨G, ρ, R, Same.refl G, h⟩⟩
theorem js_cont : JS S (.Continue pos) (fun E ρ => E.ct ρ) := ⟨fun G H σ ρ E R h => WS.of ps_continue ⟨G, ρ, R, Same.refl G, h⟩⟩
def dNever : TDS := fun _ _ => False
theorem js_never : JS S st dNever := ⟨fun _ _ _ _ _ _ h => h.elim⟩
theorem jss_never : JSs S sts dNever := ⟨fun _ _ _ _ _ _ h => h.elim⟩
def dIf (tc : TDt) (t u : TDS) : TDS := fun E ρ => tc ρ fun b => (b = true → t E ρ) ∧ (b = false → u E ρ)
theorem js_if {tc : TDt} {s1 s2 : List Stmt} (hc : JT S c tc) (h1 : JSs S s1 t) (h2 : JSs S s2 u) : JS S (.If c s1 s2 pos) (dIf tc t u) := by
  refine ⟨fun G H σ ρ E R h => WS.of (ps_if pt_w pss_w pss_w) ((hc.run G H σ ρ _ R h).mono fun b H1 ⟨G1, x1, q1⟩ => ?_)⟩
  cases b with
  | true => exact (h1.run G1 H1 σ ρ E (R.go x1) (q1.1 rfl)).lift x1.g
  | false => exact (h2.run G1 H1 σ ρ E (R.go x1) (q1.2 rfl)).lift x1.g
def dRet (τ : TD) : TDS := fun E ρ => τ ρ fun d => isBor d = false ∧ E.rt d
theorem wRt_none {S : Sit} {G H : Hp} {d : D} {rt : D → Prop} (hw : S.pp.o = none) (q : rt d) : wRt S.nm S.pp G H d rt := by unfold wRt; rw [hw]; exact q
theorem js_ret (he : JE S e τa) (hw : S.pp.o = none := by rfl) (ht : S.tt = false := by rfl) : JS S (.Return (some e) pos) (dRet τa) := by
  refine ⟨fun G H σ ρ E R h => WS.of (ps_ret pe_w) ((he.run G H σ ρ _ R h).mono fun v H1 ⟨G1, d, x1, r1, nb, q1⟩ => ?_)⟩
  exact wR_false ht ⟨G1, d, (R.go x1).ext, r1.from R.bh, nb, wRt_none hw q1⟩
theorem js_retN (hw : S.pp.o = none := by rfl) (ht : S.tt = false := by rfl) : JS S (.Return none pos) (fun E _ => E.rt .non) := ⟨fun G H σ ρ E R h => WS.of ps_retN (wR_false ht ⟨G, .non, R.ext, .of .non, rfl, wRt_none hw h⟩)⟩
/-- return x: what is one's own is given away -/
def dRetV (i : Nat) : TDS := fun E ρ => match ρ[i]? with
  | some (some d) => E.rt d
  | _ => False
theorem js_retv (i : Nat) {x : Str} {p : Pos} (ho : PE S.X (.Name x p) (tVar i)) (hw : S.pp.o = none := by rfl) (ht : S.tt = false := by rfl) : JS S (.Return (some (.Name x p)) pos) (dRetV i) := by
  refine ⟨fun G H σ ρ E R h => WS.of (ps_ret ho) ?_⟩
  unfold dRetV at h
  split at h
  · rename_i d e
    obtain ⟨v, h1, h2, h3⟩ := R.slot i _ e
    exact ⟨v, h1, wR_false ht ⟨G, d, R.ext, h2, h3, wRt_none hw h⟩⟩
  · exact h.elim
def dDrop (τ : TD) : TDS := fun E ρ => τ ρ fun _ => E.nx ρ
theorem js_expr (he : JE S e τa) (hs : swapsWith e none pos.line S.X.env = pure false := by rfl) : JS S (.Expr e pos) (dDrop τa) := by
  refine ⟨fun G H σ ρ E R h => WS.of (ps_expr pe_w hs) ((he.run G H σ ρ _ R h).mono fun v H1 ⟨G1, d, x1, r1, q1⟩ => ?_)⟩
  exact ⟨G1, ρ, R.go x1, x1.g, q1⟩
theorem js_doc {x j} {pos' : Pos} : JS S (.Expr (.Constant (.str x) j pos) pos') dNext := ⟨fun G H σ ρ E R h => WS.of ps_doc ⟨G, ρ, R, Same.refl G, h⟩⟩
def dAsg (τ : TD) (g : TDG) : TDS := fun E ρ => τ ρ fun d => g d ρ E.nx
theorem js_asg {tg : Expr} {g : TDG} (he : JE S e τa) (hg : JG S tg g) (hs : swapsWithSole [tg] e pos.line S.X.env = pure false := by rfl) (hw : swappedStores [tg] e S.X.env = pure none := by rfl)
    (h1 : (assignEach [tg] S.X.env).map (·.2) = [assign tg S.X.env] := by rfl) : JS S (.Assign [tg] e pos) (dAsg τa g) := by
  refine ⟨fun G H σ ρ E R h => WS.of (ps_asg pe_w pg_w hs hw h1) ((he.run G H σ ρ _ R h).mono fun v H1 ⟨G1, d, x1, r1, q1⟩ => ?_)⟩
  exact (hg.run G H G1 H1 σ ρ v d _ R x1 r1 q1).mono fun σ' H' ⟨G', ρ', R', sg, q'⟩ => ⟨G', ρ', R', x1.g.trans sg, q'⟩
def dSet (i : Nat) (τ : TD) : TDS := fun E ρ => τ ρ fun d => isBor d = false ∧ Nx E.nx (put ρ i (some d))
theorem js_set {i : Nat} {x : Str} {pos' : Pos} (hN : S.X.N.Nodup) (hi : S.X.N[i]? = some x) (hx : Loc S.X.env.scope x) (he : JE S e τa) (hs : swapsWith e (some (.Name x pos')) pos.line S.X.env = pure false := by rfl) (hf : S.X.fn x = true ∨ S.X.env.scope.names.lookup x = some .local := by first | exact .inl rfl | exact .inr rfl | assumption) (np : npb S.pp i = true := by rfl) :
    JS S (.Assign [.Name x pos'] e pos) (dSet i τa) := by
  refine ⟨fun G H σ ρ E R h => WS.of (ps_set hN hi hx pe_w hs hf) ((he.run G H σ ρ _ R h).mono fun v H1 ⟨G1, d, x1, r1, nb, q1⟩ => ?_)⟩
  exact ⟨G1, _, R.set i x1 r1 nb np, x1.g, q1.getS⟩
/-- a, b = x, y with plain local names -/
def dPar (i j : Nat) (t : TDs) : TDS := fun E ρ => t ρ fun ds => match ds with
  | [d, e] => isBor d = false ∧ isBor e = false ∧ Nx (fun ρ1 => Nx E.nx (put ρ1 j (some e))) (put ρ i (some d))
  | _ => False
theorem js_par {i j : Nat} {x y : Str} {px py pt : Pos} {kt k2 pt2} {t : TDs} (hc : S.X.calm = true) (hN : S.X.N.Nodup) (hi : S.X.N[i]? = some x) (hj : S.X.N[j]? = some y) (hij : i ≠ j)
    (hx : S.X.env.scope.names.lookup x = some .local) (hy : S.X.env.scope.names.lookup y = some .local) (ha : JA' S [a, b] t)
    (hw : swappedStores [.Tuple [.Name x px, .Name y py] kt pt] (.Tuple [a, b] k2 pt2) S.X.env = pure (some [x, y]) := by rfl)
    (hs : swapsWithSole [.Tuple [.Name x px, .Name y py] kt pt] (.Tuple [a, b] k2 pt2) pos.line S.X.env = pure false := by rfl) (np : npb S.pp i = true := by rfl) (np2 : npb S.pp j = true := by rfl) :
    JS S (.Assign [.Tuple [.Name x px, .Name y py] kt pt] (.Tuple [a, b] k2 pt2) pos) (dPar i j t) := by
  refine ⟨fun G H σ ρ E R h => WS.of (ps_par hc hN hi hj hij hx hy pa_w hw hs) ((ha.run G H σ ρ _ R h).mono fun vs H1 ⟨G1, ds, x1, r1, q1⟩ => ?_)⟩
  cases r1 with
  | nil => exact q1.elim
  | cons ra na r1 =>
    cases r1 with
    | nil => exact q1.elim
    | cons rb nb r1 =>
      cases r1 with
      | cons _ _ _ => exact q1.elim
      | nil =>
        obtain ⟨b1, b2, q1⟩ := q1
        have R1 := R.set i x1 (repV_noOwn ra na) b1 np
        exact ⟨_, _, rfl, G1, _, R1.set j (Ext.refl x1.gh) (repV_noOwn rb nb) b2 np2, x1.g, q1.getS.getS⟩
/-- name op= e -/
def dAug (i : Nat) (τ : TD) (r : RD2) : TDS := fun E ρ => match ρ[i]? with
  | some (some d) => flat1 d = true ∧ τ ρ fun e => r d e fun z => isBor z = false ∧ Nx E.nx (put ρ i (some z))
  | _ => False
theorem js_aug {i : Nat} {x : Str} {op : Operator} {r : RD2} {pos' : Pos} (hN : S.X.N.Nodup) (hi : S.X.N[i]? = some x) (hx : Loc S.X.env.scope x) (he : JE S e τa) (ho : DOp S (inplaceOp op) r) (hf : S.X.fn x = true ∨ S.X.env.scope.names.lookup x = some .local := by first | exact .inl rfl | exact .inr rfl | assumption) (np : npb S.pp i = true := by rfl) :
    JS S (.AugAssign (.Name x pos') op e pos) (dAug i τa r) := by
  refine ⟨fun G H σ ρ E R h => ?_⟩
  have hp : PIp S.X op (rSem S.X (inplaceOp op)) := fun pins s σ H x y v u Q I rx ry q => q pins s σ v u I rx ry
  refine WS.of (ps_aug hN hi hx pe_w hp hf) ?_
  unfold dAug at h
  split at h
  · rename_i d ed
    obtain ⟨fd, h⟩ := h
    obtain ⟨v, h1, h2, h3⟩ := R.slot i _ ed
    refine ⟨v, h1, (he.run G H σ ρ _ R h).mono fun y H1 ⟨G1, e1, x1, r1, q1⟩ => ?_⟩
    intro pins s σ' v' u I rv ru
    have rd : RepV S.nm H G H v d := by
      cases d with
      | own l => cases fd
      | bor l => cases fd
      | _ => exact h2
    refine thn (ho H G1 H1 v y d e1 _ x1.h x1.gh (rd.ext x1) r1 q1 pins s σ' v' u I rv ru) fun z s' ⟨w, H3, I3, rz, G3, d3, x3, r3, nb, q3⟩ => ?_
    exact ⟨w, H3, I3, rz, G3, _, R.set i (x1.trans x3) r3 nb np, x1.g.trans x3.g, q3.getS⟩
  · exact h.elim
/-- a list of one's own frozen ahead of a statement -/
def frzAt (i : Nat) (ρ : Env) : Env := match ρ[i]? with
  | some (some (.own l)) => ρ.set i (some (.lst l))
  | _ => ρ
theorem Rel.frzAt {nm : Nm} {pp : Pin} {G0 B G H : Hp} {σ : L2.St} {ρ : Env} (R : DD.Rel nm G0 B pp G H σ ρ) (i : Nat) : ∃ G', Same G G' ∧ DD.Rel nm G0 B pp G' H σ (DD.frzAt i ρ) := by
  unfold DD.frzAt
  split
  · rename_i l e
    obtain ⟨v, h1, h2, h3⟩ := R.slot i _ e
    obtain ⟨p, vs, rfl, g1, g2, g3, g4⟩ := h2
    have sm : Same G (upd G p (.lst vs)) := same_upd g2
    have hi : i < ρ.length := by
      by_cases hi : i < ρ.length
      · exact hi
      · rw [List.getElem?_eq_none (by simpa using hi)] at e; cases e
    refine ⟨upd G p (.lst vs), sm, ⟨R.ext.trans ⟨sm, Same.refl H, fun b o eb => ?_, fun a ea na => ?_⟩, by rw [List.length_set]; exact R.len, fun j d ej => ?_, fun j k l1 l2 q hj hk hjk e1 e2 => ?_, R.pin⟩⟩
    · by_cases hb : b = p
      · subst hb; rw [upd_same] at eb; cases eb; exact g1
      · rw [upd_ne hb] at eb; exact R.gh _ _ eb
    · rw [upd_ne (fun z => na (by rw [z]; exact g3))]; exact ea
    · by_cases hij : i = j
      · subst hij
        rw [List.getElem?_set_self hi] at ej
        cases ej
        exact ⟨_, h1, .of (.lst upd_same (g4.mono sm)), rfl⟩
      · rw [List.getElem?_set_ne hij] at ej
        obtain ⟨u, k1, k2, k3⟩ := R.slot j d ej
        refine ⟨u, k1, ?_, k3⟩
        cases d with
        | own l' =>
          obtain ⟨p', vs', rfl, a1, a2, a3, a4⟩ := k2
          have np : p' ≠ p := fun z => R.apart i j l l' p e ej hij h1 (by rw [← z]; exact k1)
          exact ⟨p', vs', rfl, a1, by rw [upd_ne np]; exact a2, a3, a4.mono sm⟩
        | bor l' => cases k3
        | _ => exact Rep.mono sm _ _ k2
    · have nj : ∀ (m : Nat) (l' : List D), (ρ.set i (some (D.lst l)))[m]? = some (some (.own l')) → ρ[m]? = some (some (.own l')) := fun m l' em => by
        by_cases him : i = m
        · subst him
          rw [List.getElem?_set_self hi] at em; cases em
        · rw [List.getElem?_set_ne him] at em; exact em
      exact R.apart j k l1 l2 q (nj j l1 hj) (nj k l2 hk) hjk e1 e2
  · exact ⟨G, Same.refl G, R⟩
theorem js_frz (i : Nat) (h : JS S st t) : JS S st (fun E ρ => t E (frzAt i ρ)) := by
  refine ⟨fun G H σ ρ E R q => ?_⟩
  obtain ⟨G', sg, R'⟩ := R.frzAt i
  exact (h.run G' H σ _ E R' q).lift sg
/-- what is one's own is changed -/
theorem Rel.mutate {nm : Nm} {pp : Pin} {G0 B G H : Hp} {σ : L2.St} {ρ : Env} (R : DD.Rel nm G0 B pp G H σ ρ) {i : Nat} {l l' : List D} {p : Addr} {vs' : List V} (e : ρ[i]? = some (some (.own l))) (es : σ[i]? = some (some (.ref p))) (q : Reps nm G vs' l') :
    DD.Rel nm G0 B pp G (upd H p (.lst vs')) σ (ρ.set i (some (.own l'))) := by
  obtain ⟨v, h1, h2, h3⟩ := R.slot i _ e
  rw [es] at h1
  cases h1
  obtain ⟨p', vs, ep, g1, g2, g3, g4⟩ := h2
  cases ep
  have hi : i < ρ.length := by
    by_cases hi : i < ρ.length
    · exact hi
    · rw [List.getElem?_eq_none (by simpa using hi)] at e; cases e
  refine ⟨⟨R.ext.g, fun b o eb => ?_, fun b o eb => ?_, R.ext.new⟩, by rw [List.length_set]; exact R.len, fun j d ej => ?_, fun j k l1 l2 q hj hk hjk e1 e2 => ?_, R.pin⟩
  · rw [upd_ne (ne_of_none eb g3)]; exact R.bh _ _ eb
  · rw [upd_ne (ne_of_none eb g2)]; exact R.gh _ _ eb
  · by_cases hij : i = j
    · subst hij
      rw [List.getElem?_set_self hi] at ej
      cases ej
      exact ⟨_, es, ⟨p, vs', rfl, upd_same, g2, g3, q⟩, rfl⟩
    · rw [List.getElem?_set_ne hij] at ej
      obtain ⟨u, k1, k2, k3⟩ := R.slot j d ej
      refine ⟨u, k1, ?_, k3⟩
      cases d with
      | own l2 =>
        obtain ⟨p2, vs2, rfl, a1, a2, a3, a4⟩ := k2
        have np : p2 ≠ p := fun z => R.apart i j l l2 p e ej hij es (by rw [← z]; exact k1)
        exact ⟨p2, vs2, rfl, by rw [upd_ne np]; exact a1, a2, a3, a4⟩
      | bor l' => cases k3
      | _ => exact k2
  · have nj : ∀ (m : Nat) (l2 : List D), (ρ.set i (some (D.own l')))[m]? = some (some (.own l2)) → ∃ l3, ρ[m]? = some (some (.own l3)) := fun m l2 em => by
      by_cases him : i = m
      · subst him; exact ⟨l, e⟩
      · rw [List.getElem?_set_ne him] at em; exact ⟨_, em⟩
    obtain ⟨l3, e3⟩ := nj j l1 hj
    obtain ⟨l4, e4⟩ := nj k l2 hk
    exact R.apart j k l3 l4 q e3 e4 hjk e1 e2
def dFrz (i : Nat) (t : TDS) : TDS := fun E ρ => t E (frzAt i ρ)

/-! ### loops -/
def dWhile (tc : TDt) (tb : TDS) : TDS := fun E ρ => ∃ Iv : Nat → Env → Prop, (∃ n ρ', Weak ρ ρ' ∧ Iv n ρ') ∧ ∀ n ρ, Iv n ρ →
  tc ρ fun b => (b = true → tb { E with nx := fun ρ' => ∃ m ρ'', m < n ∧ Weak ρ' ρ'' ∧ Iv m ρ'', ct := fun ρ' => ∃ m ρ'', m < n ∧ Weak ρ' ρ'' ∧ Iv m ρ'', bk := E.nx } ρ) ∧ (b = false → E.nx ρ)
theorem js_while {tc : TDt} (hp : PassesOwn (model S.X.prog S.X.w) S.X.A S.X.env S.X.xe) (hc : JT S c tc) (hb : JSs S sts t) : JS S (.While c sts [] pos) (dWhile tc t) := by
  refine ⟨fun G H σ ρ E R h => WS.of (ps_while hp pt_w pss_w) ?_⟩
  obtain ⟨Iv, ⟨n, ρ', w, i0⟩, turn⟩ := h
  refine ⟨fun n σ H => ∃ G' ρ, S.Rel G' H σ ρ ∧ Same G G' ∧ Iv n ρ, ⟨n, G, ρ', R.weak w, Same.refl G, i0⟩, fun m σ H ⟨G', ρ, R, sg, iv⟩ => ?_⟩
  refine (hc.run G' H σ ρ _ R (turn m ρ iv)).mono fun b H1 ⟨G1, x1, q1⟩ => ?_
  cases b with
  | false =>
    rw [if_neg Bool.false_ne_true]
    exact ⟨G1, ρ, R.go x1, sg.trans x1.g, q1.2 rfl⟩
  | true =>
    rw [if_pos rfl]
    refine ⟨fun σ' H' => ∃ G' ρ', S.Rel G' H' σ' ρ' ∧ Same G G' ∧ ∃ k ρ'', k < m ∧ Weak ρ' ρ'' ∧ Iv k ρ'', fun σ' H' ⟨G', ρ', R', sg', k, ρ'', hk, w', i'⟩ => ⟨k, hk, G', ρ'', R'.weak w', sg', i'⟩, ?_⟩
    exact (hb.run G1 H1 σ ρ _ (R.go x1) (q1.1 rfl)).lift (sg.trans x1.g)
def forR (g : TDG) (tb : TDS) (E : DE) : List D → Env → Prop
  | [], ρ => E.nx ρ
  | d :: ds, ρ => g d ρ fun ρ2 => tb { E with nx := fun ρ' => ∃ ρ'', Weak ρ' ρ'' ∧ forR g tb E ds ρ'', ct := fun ρ' => ∃ ρ'', Weak ρ' ρ'' ∧ forR g tb E ds ρ'', bk := E.nx } ρ2
def dFor (ι : TDI) (g : TDG) (tb : TDS) : TDS := fun E ρ => ι ρ fun ds => ∃ ρ', Weak ρ ρ' ∧ forR g tb E ds ρ'
theorem js_for {tg iter : Expr} {ι : TDI} {g : TDG} (hp : PassesOwn (model S.X.prog S.X.w) S.X.A S.X.env S.X.xe) (hc : S.X.calm = true) (hi : JI S tg iter ι) (hg : JG S tg g) (hb : JSs S sts t)
    (hs : ∀ x, foldedSetIterable iter S.X.env x = pure x := by intro _; rfl) : JS S (.For tg iter sts [] pos) (dFor ι g t) := by
  refine ⟨fun G H σ ρ E R h => WS.of (ps_for hp hc pi_w pg_w pss_w hs) ?_⟩
  refine fun pins s I => thn (hi.run G H σ ρ _ R h pins s I) fun v s1 h1 => thn h1 fun itv s2 h2 => ?_
  obtain ⟨it, fp, tn, J, H2, e1, e2, e3, e4, e5, G1, ds, x1, gv, ρ', w, q⟩ := h2
  refine ⟨it, fp, tn, J, H2, e1, e2, e3, e4, e5, ?_⟩
  obtain ⟨n, Gp, Y, en, wk, hG, hY⟩ := gv
  have R1 := (R.go x1).weak w
  subst en
  refine for_it wk (fun i σ H => ∃ G ρ, S.Rel G H σ ρ ∧ Same G1 G ∧ forR g t E (ds.drop i) ρ) ⟨G1, ρ', R1, Same.refl G1, q⟩ (fun i σ H _ ⟨G, ρ, R, sg, _⟩ => hG H (sg.trans R.gh)) (fun i x σ H H' hi ⟨G2, ρ, R, sg, q⟩ y => ?_) fun σ H ⟨G2, ρ, R, sg, q⟩ => ?_
  · obtain ⟨d, ed, hd⟩ := hY i x H H' (sg.trans R.gh) hi y
    have e : ds.drop i = d :: ds.drop (i + 1) := by
      rw [List.drop_eq_getElem_cons hi]
      rw [List.getElem?_eq_getElem hi] at ed
      cases ed
      rfl
    rw [e] at q
    have q' : g d ρ fun ρ2 => t { E with nx := fun ρ' => ∃ ρ'', Weak ρ' ρ'' ∧ forR g t E (ds.drop (i + 1)) ρ'', ct := fun ρ' => ∃ ρ'', Weak ρ' ρ'' ∧ forR g t E (ds.drop (i + 1)) ρ'', bk := E.nx } ρ2 := q
    have st : ∃ G', Ext H G2 H G' H' ∧ RepV S.nm H G' H' x d := by
      rcases hd with ⟨eh, rx⟩ | ⟨T, a, b, da, db, ex, nT, eh, edt, ra, rb⟩
      · subst eh
        exact ⟨G2, Ext.refl R.gh, .of (Rep.mono sg _ _ rx)⟩
      · subst eh ex edt
        have gT : G2 T = none := R.gh.free nT
        have sm : Same G2 (upd G2 T (.tup [a, b])) := same_upd gT
        refine ⟨upd G2 T (.tup [a, b]), ⟨sm, same_upd nT, fun c o eo => ?_, fun c ec nc => ?_⟩, .of (.tup upd_same (.cons ((Rep.mono sg _ _ ra).mono sm) (.cons ((Rep.mono sg _ _ rb).mono sm) .nil)))⟩
        · by_cases hb : c = T
          · subst hb; rw [upd_same] at eo ⊢; exact eo
          · rw [upd_ne hb] at eo ⊢; exact R.gh _ _ eo
        · rw [upd_ne (fun z => nc (by rw [z]; exact nT))]; exact ec
    obtain ⟨G', x', r'⟩ := st
    refine (hg.run G2 H G' H' σ ρ x d _ R x' r' q').mono fun σ2 H2 ⟨G3, ρ2, R2, sg2, q2⟩ => ?_
    have sg3 : Same G1 G3 := (sg.trans x'.g).trans sg2
    refine (hb.run G3 H2 σ2 ρ2 _ R2 q2).mono (fun _ _ ⟨G4, ρ4, R4, sg4, ρ5, w5, q4⟩ => ?_) (fun _ _ q => q) (fun _ _ ⟨G4, ρ4, R4, sg4, q4⟩ => ?_) (fun _ _ ⟨G4, ρ4, R4, sg4, ρ5, w5, q4⟩ => ?_)
    · exact ⟨G4, ρ5, R4.weak w5, sg3.trans sg4, q4⟩
    · exact ⟨G4, ρ4, R4, x1.g.trans (sg3.trans sg4), q4⟩
    · exact ⟨G4, ρ5, R4.weak w5, sg3.trans sg4, q4⟩
  · rw [List.drop_length] at q
    exact ⟨G2, ρ, R, x1.g.trans sg, q⟩

/-! ### a list of one's own, changed -/
theorem Rel.ownAt {nm : Nm} {pp : Pin} {G0 B G H : Hp} {σ : L2.St} {ρ : Env} (R : DD.Rel nm G0 B pp G H σ ρ) {i : Nat} {l : List D} (e : ρ[i]? = some (some (.own l))) : ∃ p vs, σ[i]? = some (some (.ref p)) ∧ H p = some (.lst vs) ∧ G p = none ∧ B p = none ∧ Reps nm G vs l := by
  obtain ⟨v, h1, h2, h3⟩ := R.slot i _ e
  obtain ⟨p, vs, rfl, g1, g2, g3, g4⟩ := h2
  exact ⟨p, vs, h1, g1, g2, g3, g4⟩
/-- what a method makes of a list, given its arguments -/
abbrev RM := List D → List D → (List D → Prop) → Prop
def DMut (S : Sit) (id : String) (f : RM) : Prop := ∀ (G H : Hp) (p : Addr) (vs ws : List V) (l ds : List D) (K : List D → Prop), H p = some (.lst vs) → Same G H → Reps S.nm G vs l → RepA S.nm G H ws ds → f l ds K →
  ∃ (r : V → List V → Hp → VK → Prop) (vs' : List V) (l' : List D), MtR S.X id r ∧ Reps S.nm G vs' l' ∧ K l' ∧ ∀ Q : VK, (∀ v, Q v (upd H p (.lst vs'))) → r (.ref p) ws H Q
def dMut (i : Nat) (f : RM) (t : TDs) : TDS := fun E ρ => match ρ[i]? with
  | some (some (.own l)) => t ρ fun ds => f l ds fun l' => Nx E.nx (put ρ i (some (.own l')))
  | _ => False
def mSem (X : Cx) (id : String) : V → List V → Hp → VK → Prop := fun x xs H Q => ∀ (pins : List (Addr × Obj)) (s : Shared) (σ : L2.St) (v : Value) (us : List Value), Inv X pins σ H s → RelV x v → Vals xs us → wpAny (model X.prog X.w) X.A (call (.builtin id) (v :: us)) (EP X pins σ Q) X.xe s
theorem mt_sem {X : Cx} {id : String} : MtR X id (mSem X id) := fun pins s σ _ _ _ v us _ I rx rs q => q pins s σ v us I rx rs
theorem js_mut (i : Nat) {x : Str} {name : Str} {id : String} {f : RM} {px apos cpos : Pos} {t : TDs} (slot : Slot "list" name id) (hty : typeOf (.builtin id) = pure (.type "method_descriptor")) (hf : DMut S id f) (ho : PE S.X (.Name x px) (tVar i)) (ha : JA' S (e :: es) t)
    (hbase : attributeBase (.Name x px) name S.X.env (eval (.Name x px) S.X.env) = eval (.Name x px) S.X.env := by rfl)
    (hfew : ((backTo cpos (starEach (e :: es) S.X.env)).all (fun x => !x.1) && (backToKw cpos (keywordEach [] S.X.env)).all (fun x => x.1.isSome)
      && decide ((e :: es).length + ([] : List Keyword).length + (if ([] : List Keyword).isEmpty then 0 else 1) < 30)) = true := by rfl)
    (hline : (apos.endLine == cpos.line) = true := by rfl) (hst : starEach (e :: es) S.X.env = (false, eval e S.X.env) :: starEach es S.X.env := by rfl) (hplain : (backTo cpos (starEach es S.X.env)).any (·.1) = false := by rfl)
    (hs : swapsWith (.Call (.Attribute (.Name x px) name apos) (e :: es) [] cpos) none pos.line S.X.env = pure false := by rfl) : JS S (.Expr (.Call (.Attribute (.Name x px) name apos) (e :: es) [] cpos) pos) (dMut i f t) := by
  refine ⟨fun G H σ ρ E R h => WS.of (ps_expr (pe_bm PySem.F.plainAttrs_list slot hty mt_sem ho pa_w hbase hfew hline hst hplain) hs) ?_⟩
  unfold dMut at h
  split at h
  · rename_i l el
    obtain ⟨p, vs, e1, e2, e3, e4, e5⟩ := R.ownAt el
    refine ⟨.ref p, e1, .inl ⟨rfl, vs, .inl (.inl e2)⟩, (ha.run G H σ ρ _ R h).mono fun ws H1 ⟨G1, ds, x1, r1, q1⟩ => ?_⟩
    obtain ⟨r, vs', l', h1, h2, h3, h4⟩ := hf G1 H1 p vs ws l ds _ (x1.h _ _ e2) x1.gh (e5.mono x1.g) r1 q1
    intro pins s σ' v us I rx rs
    exact h1 pins s σ' H1 (.ref p) ws v us _ I rx rs (h4 _ fun v => ⟨G1, _, (R.go x1).mutate el e1 h2, x1.g, h3.getS⟩)
  · exact h.elim
theorem js_mut0 (i : Nat) {x : Str} {name : Str} {id : String} {f : RM} {px apos cpos : Pos} (slot : Slot "list" name id) (hty : typeOf (.builtin id) = pure (.type "method_descriptor")) (hf : DMut S id f) (ho : PE S.X (.Name x px) (tVar i))
    (hbase : attributeBase (.Name x px) name S.X.env (eval (.Name x px) S.X.env) = eval (.Name x px) S.X.env := by rfl) (hline : (apos.endLine == cpos.line) = true := by rfl)
    (hs : swapsWith (.Call (.Attribute (.Name x px) name apos) [] [] cpos) none pos.line S.X.env = pure false := by rfl) : JS S (.Expr (.Call (.Attribute (.Name x px) name apos) [] [] cpos) pos) (dMut i f aNil) := by
  refine ⟨fun G H σ ρ E R h => WS.of (ps_expr (pe_bm0 PySem.F.plainAttrs_list slot hty mt_sem ho hbase hline) hs) ?_⟩
  unfold dMut at h
  split at h
  · rename_i l el
    obtain ⟨p, vs, e1, e2, e3, e4, e5⟩ := R.ownAt el
    refine ⟨.ref p, e1, .inl ⟨rfl, vs, .inl (.inl e2)⟩, ?_⟩
    obtain ⟨r, vs', l', h1, h2, h3, h4⟩ := hf G H p vs [] l [] _ e2 R.gh e5 .nil h
    intro pins s σ' v us I rx rs
    exact h1 pins s σ' H (.ref p) [] v us _ I rx rs (h4 _ fun v => ⟨G, _, R.mutate el e1 h2, Same.refl G, h3.getS⟩)
  · exact h.elim
def mAppend : RM := fun l ds K => match ds with
  | [d] => isBor d = false ∧ l.length < sizeLine ∧ K (l ++ [d])
  | _ => False
theorem m_append : DMut S "list.append" mAppend := by
  intro G H p vs ws l ds K hp gh rl rw h
  match ds, rw, h with
  | [d], .cons (v := v) rd nd .nil, h =>
    obtain ⟨nb, hl, k⟩ := h
    have r1 := (RepA.cons rd nd .nil).reps (by simp [nb])
    exact ⟨rAppend, vs ++ [v], l ++ [d], mt_append, rl.append r1, k, fun Q q => ⟨p, vs, v, rfl, rfl, hp, by rw [rl.length]; exact hl, q _⟩⟩
def lstT : D → Option (List D)
  | .lst l => some l
  | .own l => some l
  | .bor l => some l
  | _ => none
theorem RepV.lstT {nm : Nm} {H0 G H : Hp} {v : V} {d : D} {l : List D} (r : RepV nm H0 G H v d) (gh : Same G H) (e : DD.lstT d = some l) : ∃ p vs, v = .ref p ∧ H p = some (.lst vs) ∧ Reps nm G vs l := by
  cases d with
  | own l' =>
    cases e
    obtain ⟨p, vs, rfl, h1, _, _, q⟩ := r
    exact ⟨p, vs, rfl, h1, q⟩
  | bor l' =>
    cases e
    obtain ⟨p, vs, rfl, h1, _, q⟩ := r
    exact ⟨p, vs, rfl, h1, q⟩
  | lst l' =>
    cases e
    have r' : Rep nm G v (.lst l) := r
    cases r' with
    | lst h1 q => exact ⟨_, _, rfl, gh _ _ h1, q⟩
  | _ => cases e
def mExtend : RM := fun l ds K => match ds with
  | [d] => match lstT d with
    | some m => l.length + m.length ≤ sizeLine ∧ K (l ++ m)
    | none => False
  | _ => False
theorem m_extend : DMut S "list.extend" mExtend := by
  intro G H p vs ws l ds K hp gh rl rw h
  match ds, rw, h with
  | [d], .cons (v := v) rd nd .nil, h =>
    unfold mExtend at h
    dsimp only at h
    split at h
    · rename_i m em
      obtain ⟨hl, k⟩ := h
      obtain ⟨b, zs, rfl, hb, rz⟩ := rd.lstT gh em
      exact ⟨rExtend, vs ++ zs, l ++ m, mt_extend, rl.append rz, k, fun Q q => ⟨p, b, vs, zs, rfl, rfl, hp, hb, by rw [rl.length, rz.length]; exact hl, q _⟩⟩
    · exact h.elim
def mPop : RM := fun l ds K => match ds with
  | [] => l ≠ [] ∧ K l.dropLast
  | _ => False
theorem m_pop : DMut S "list.pop" mPop := by
  intro G H p vs ws l ds K hp gh rl rw h
  match ds, rw, h with
  | [], .nil, h =>
    obtain ⟨nl, k⟩ := h
    have hv : vs.length - 1 < vs.length := by
      have := rl.length
      have : l.length ≠ 0 := fun z => nl (List.length_eq_zero_iff.mp z)
      omega
    exact ⟨rPop, vs.dropLast, l.dropLast, mt_pop, rl.dropLast, k, fun Q q => ⟨p, vs, vs[vs.length - 1], rfl, rfl, hp, List.getElem?_eq_getElem hv, q _⟩⟩
def mReverse : RM := fun l ds K => match ds with
  | [] => K l.reverse
  | _ => False
theorem m_reverse : DMut S "list.reverse" mReverse := by
  intro G H p vs ws l ds K hp gh rl rw h
  match ds, rw, h with
  | [], .nil, h => exact ⟨rReverse, vs.reverse, l.reverse, mt_reverse, rl.reverse, h, fun Q q => ⟨p, vs, rfl, rfl, hp, q _⟩⟩
def mClear : RM := fun l ds K => match ds with
  | [] => K []
  | _ => False
theorem m_clear : DMut S "list.clear" mClear := by
  intro G H p vs ws l ds K hp gh rl rw h
  match ds, rw, h with
  | [], .nil, h => exact ⟨rClear, [], [], mt_clear, .nil, h, fun Q q => ⟨p, vs, rfl, rfl, hp, q _⟩⟩
/-- x[k] = e -/
def dSetIx (i : Nat) (τe τk : TD) : TDS := fun E ρ => match ρ[i]? with
  | some (some (.own l)) => τe ρ fun d => isBor d = false ∧ τk ρ fun k => match k with
    | .int n => ∃ j, ixN l.length n = some j ∧ Nx E.nx (put ρ i (some (.own (l.set j (frzO d)))))
    | _ => False
  | _ => False
theorem js_setIx (i : Nat) {x : Str} {k : Expr} {px spos : Pos} (ho : PE S.X (.Name x px) (tVar i)) (hk : JE S k τb) (he : JE S e τa)
    (ha : ∀ v, assign (.Subscript (.Name x px) k spos) S.X.env v = (do
      let ov ← holding [v] (eval (.Name x px) S.X.env)
      let iv ← holding [v, ov] (eval k S.X.env)
      standAt spos
      holding [v, ov, iv] (setItem ov iv v)
      release [v, ov, iv] []) := by intro _; rfl)
    (hs : swapsWithSole [.Subscript (.Name x px) k spos] e pos.line S.X.env = pure false := by rfl) (hw : swappedStores [.Subscript (.Name x px) k spos] e S.X.env = pure none := by rfl)
    (h1 : (assignEach [.Subscript (.Name x px) k spos] S.X.env).map (·.2) = [assign (.Subscript (.Name x px) k spos) S.X.env] := by rfl) : JS S (.Assign [.Subscript (.Name x px) k spos] e pos) (dSetIx i τa τb) := by
  refine ⟨fun G H σ ρ E R h => WS.of (ps_asg pe_w (pg_sub ho pe_w set_list ha) hs hw h1) ?_⟩
  unfold dSetIx at h
  split at h
  · rename_i l el
    refine (he.run G H σ ρ _ R h).mono fun v H1 ⟨G1, d, x1, r1, nb, q1⟩ => ?_
    obtain ⟨G1', x1', r1'⟩ := r1.frzO x1.gh
    have y1 := x1.trans x1'
    obtain ⟨p, vs, e1, e2, e3, e4, e5⟩ := R.ownAt el
    refine ⟨.ref p, e1, (hk.run G1' H1 σ ρ _ (R.go y1) q1).mono fun kv H2 ⟨G2, kd, x2, r2, q3⟩ => ?_⟩
    cases kd with
    | int n =>
      obtain ⟨j, hj, q3⟩ := q3
      cases repV_int r2
      have rd : Rep S.nm G2 v (frzO d) := by
        have z := r1'.ext x2
        cases hd : frzO d with
        | own l2 => exact absurd hd frzO_own
        | bor l2 =>
          cases d <;> simp [frzO] at hd
          cases nb
        | _ => rw [hd] at z; exact z
      have z := y1.trans (Ext.from y1.h x2)
      have rl := e5.mono z.g
      exact ⟨p, vs, n, j, rfl, rfl, z.h _ _ e2, by rw [rl.length]; exact hj, G2, _, (R.go z).mutate el e1 (rl.set j rd), z.g, q3.getS⟩
    | _ => exact q3.elim
  · exact h.elim

/-! ### iterators -/
def iterV (X : Cx) (tg : Expr) (x : V) (H : Hp) (R : It → Hp → Prop) : Prop := ∀ (pins : List (Addr × Obj)) (s : Shared) (σ : L2.St) (v : Value), Inv X pins σ H s → RelV x v → wpAny (model X.prog X.w) X.A (pyIter v) (PIE X pins σ tg R) X.xe s
theorem iter_list {X : Cx} {tg : Expr} {a : Addr} {xs : List V} {H : Hp} {R : It → Hp → Prop} (hq : SqL X.K H a xs) (q : R (Itl X.K a) H) : iterV X tg (.ref a) H R := by
  intro pins s1 σ v I1 r1
  cases r1
  obtain ⟨its, rv, p, hz⟩ := I1.list hq
  refine wpAny_pyIter_list p.isList ?_
  refine ⟨s1.heap.objs.size, [s1.heap.objs.size], _, _, H, rfl, I1.kept (t' := s1.toks) fun b o e => Heap.get?_push_of_some _ e, turn_list a _, ⟨_, Heap.get?_push_size _ rfl, rfl, rfl⟩, fun b hb => ?_, q⟩
  have e : b = s1.heap.objs.size := by simpa using hb
  subst e
  exact I1.fpOk (Nat.le_refl _) (I1.hok.fresh (Nat.le_refl _))
theorem iter_tup {X : Cx} {tg : Expr} {a : Addr} {xs : List V} {H : Hp} {R : It → Hp → Prop} (hq : SqT X.K H a xs) (q : R (Itt X.K a) H) : iterV X tg (.ref a) H R := by
  intro pins s1 σ v I1 r1
  cases r1
  obtain ⟨its, rv, p, hz⟩ := I1.tuple hq
  refine wpAny_pyIter_tuple (show s1.heap.IsTuple a its.toArray from p) ?_
  refine ⟨s1.heap.objs.size, [s1.heap.objs.size], _, _, H, rfl, I1.kept (t' := s1.toks) fun b o e => Heap.get?_push_of_some _ e, turn_tuple a _, ⟨_, Heap.get?_push_size _ rfl, rfl, rfl⟩, fun b hb => ?_, q⟩
  have e : b = s1.heap.objs.size := by simpa using hb
  subst e
  exact I1.fpOk (Nat.le_refl _) (I1.hok.fresh (Nat.le_refl _))
theorem gives_list {nm : Nm} {G : Hp} {a : Addr} {vs : List V} {ds : List D} (hq : SqL nm.K G a vs) (r : Reps nm G vs ds) : Gives nm G (Itl nm.K a) ds := by
  refine ⟨vs.length, fun H => SqL nm.K H a vs, YAt vs, r.length, walk_list, fun H2 s => Same.seq s hq, fun i x H2 H3 s hi ⟨e1, e2⟩ => ?_⟩
  obtain ⟨d, h1, h2⟩ := r.getV e2
  exact ⟨d, h1, .inl ⟨e1, h2⟩⟩
theorem gives_tup {nm : Nm} {G : Hp} {a : Addr} {vs : List V} {ds : List D} (hq : G a = some (.tup vs)) (r : Reps nm G vs ds) : Gives nm G (Itt nm.K a) ds := by
  refine ⟨vs.length, fun H => SqT nm.K H a vs, YAt vs, r.length, walk_tup, fun H2 s => .inl (.inl (s _ _ hq)), fun i x H2 H3 s hi ⟨e1, e2⟩ => ?_⟩
  obtain ⟨d, h1, h2⟩ := r.getV e2
  exact ⟨d, h1, .inl ⟨e1, h2⟩⟩
/-- the signs of a text -/
def signs (x : Str) : List D := x.cps.toList.map fun c => .str ⟨#[c]⟩
def iOf (τ : TD) : TDI := fun ρ Q => τ ρ fun d => match d with
  | .lst l => Q l
  | .own l => Q l
  | .scr l => Q l
  | .tup l => Q l
  | _ => False
theorem ji_of {tg : Expr} (he : JE S e τa) : JI S tg e (iOf τa) := by
  refine ⟨fun G H σ ρ Q R h => ?_⟩
  intro pins s I
  refine thn (he.run G H σ ρ _ R h pins s I) fun v s1 ⟨x, H1, I1, r1, G1, d, x1, rd, q1⟩ => ?_
  have kk := S.kk
  cases d with
  | lst l =>
    have rd' : Rep S.nm G1 x (.lst l) := rd
    cases rd' with
    | lst ea ra =>
      refine iter_list (.inl (.inl (x1.gh _ _ ea))) ?_ pins s1 σ v I1 r1
      rw [← kk]
      exact ⟨G1, l, x1, gives_list (.inl (.inl ea)) ra, q1⟩
  | own l =>
    obtain ⟨G2, x2, rd'⟩ := rd.freeze x1.gh rfl
    cases rd' with
    | lst ea ra =>
      refine iter_list (.inl (.inl (x2.gh _ _ ea))) ?_ pins s1 σ v I1 r1
      rw [← kk]
      exact ⟨G2, l, x1.trans x2, gives_list (.inl (.inl ea)) ra, q1⟩
  | scr l =>
    have rd' : Rep S.nm G1 x (.scr l) := rd
    cases rd' with
    | scr ea ra =>
      refine iter_list (Same.seq x1.gh (by rw [← kk]; exact ea)) ?_ pins s1 σ v I1 r1
      rw [← kk]
      exact ⟨G1, l, x1, gives_list ea ra, q1⟩
  | tup l =>
    have rd' : Rep S.nm G1 x (.tup l) := rd
    cases rd' with
    | tup ea ra =>
      refine iter_tup (.inl (.inl (x1.gh _ _ ea))) ?_ pins s1 σ v I1 r1
      rw [← kk]
      exact ⟨G1, l, x1, gives_tup ea ra, q1⟩
  | _ => exact q1.elim
def rangeD (lo : Int) (n : Nat) : List D := (List.range n).map fun i => .int (lo + (i : Nat))
theorem gives_range {nm : Nm} {G : Hp} {lo : Int} {n : Nat} : Gives nm G (Itr lo n) (rangeD lo n) := by
  refine ⟨n, fun _ => True, YFn fun i => .int (lo + i), by simp [rangeD], walk_range, fun _ _ => trivial, fun i x H2 H3 s hi ⟨e1, e2⟩ => ?_⟩
  subst e2
  exact ⟨.int (lo + i), by simp [rangeD, List.getElem?_map, List.getElem?_range hi], .inl ⟨e1, .int _⟩⟩
theorem repA_int1 {nm : Nm} {G H : Hp} {vs : List V} {i : Int} (r : RepA nm G H vs [.int i]) : vs = [.int i] := by
  match r with
  | .cons r _ .nil => rw [repV_int r]
theorem repA_int2 {nm : Nm} {G H : Hp} {vs : List V} {i j : Int} (r : RepA nm G H vs [.int i, .int j]) : vs = [.int i, .int j] := by
  match r with
  | .cons r _ (.cons q _ .nil) => rw [repV_int r, repV_int q]
theorem repA_int3 {nm : Nm} {G H : Hp} {vs : List V} {i j k : Int} (r : RepA nm G H vs [.int i, .int j, .int k]) : vs = [.int i, .int j, .int k] := by
  match r with
  | .cons r _ (.cons q _ (.cons t _ .nil)) => rw [repV_int r, repV_int q, repV_int t]
def iRange1 (t : TDs) : TDI := fun ρ Q => t ρ fun ds => match ds with
  | [.int n] => (-(2 ^ 62) ≤ n ∧ n < 2 ^ 62) ∧ Q (rangeD 0 n.toNat)
  | _ => False
theorem ji_range1 {tg : Expr} {t : TDs} {p : Pos} (hg : Gl S.X "range") (hm : S.X.mg "range" = none) (ha : JA' S [a] t) (hs : starEach [a] S.X.env = [(false, eval a S.X.env)] := by rfl) : JI S tg (.Call (.Name "range" p) [a] [] pos) (iRange1 t) := by
  refine ⟨fun G H σ ρ Q R h => fun pins s I => (pi_range1 hg hm pa_w hs).run pins s σ H _ I ((ha.run G H σ ρ _ R h).mono fun vs H1 ⟨G1, ds, x1, r1, q1⟩ => ?_)⟩
  match ds, r1, q1 with
  | [.int n], r1, q1 =>
    cases repA_int1 r1
    exact ⟨n, rfl, q1.1.1, q1.1.2, G1, _, x1, gives_range, q1.2⟩
def iRange2 (t : TDs) : TDI := fun ρ Q => t ρ fun ds => match ds with
  | [.int m, .int n] => (-(2 ^ 62) ≤ m ∧ m < 2 ^ 62 ∧ -(2 ^ 62) ≤ n ∧ n < 2 ^ 62) ∧ Q (rangeD m (n - m).toNat)
  | _ => False
theorem ji_range2 {tg : Expr} {t : TDs} {p : Pos} (hg : Gl S.X "range") (hm : S.X.mg "range" = none) (ha : JA' S [a, b] t) (hs : starEach [a, b] S.X.env = [(false, eval a S.X.env), (false, eval b S.X.env)] := by rfl) (hs2 : starEach [b] S.X.env = [(false, eval b S.X.env)] := by rfl) :
    JI S tg (.Call (.Name "range" p) [a, b] [] pos) (iRange2 t) := by
  refine ⟨fun G H σ ρ Q R h => fun pins s I => (pi_range2 hg hm pa_w hs hs2).run pins s σ H _ I ((ha.run G H σ ρ _ R h).mono fun vs H1 ⟨G1, ds, x1, r1, q1⟩ => ?_)⟩
  match ds, r1, q1 with
  | [.int m, .int n], r1, q1 =>
    cases repA_int2 r1
    exact ⟨m, n, rfl, q1.1, G1, _, x1, gives_range, q1.2⟩
/-- downward -/
def downD (hi : Int) (n : Nat) : List D := (List.range n).map fun i => .int (hi - (i : Nat))
theorem gives_down {nm : Nm} {G : Hp} {lo : Int} {n : Nat} : Gives nm G (Itc lo (-1) n) (downD lo n) := by
  refine ⟨n, fun _ => True, YFn fun i => .int (lo + (i : Nat) * (-1)), by simp [downD], walk_rangeC, fun _ _ => trivial, fun i x H2 H3 s hi ⟨e1, e2⟩ => ?_⟩
  subst e2
  refine ⟨.int (lo + (i : Nat) * (-1)), ?_, .inl ⟨e1, .int _⟩⟩
  simp only [downD, List.getElem?_map, List.getElem?_range hi, Option.map_some]
  congr 2
  omega
def iDown (t : TDs) : TDI := fun ρ Q => t ρ fun ds => match ds with
  | [.int m, .int n, .int c] => c = -1 ∧ (-(2 ^ 62) ≤ m ∧ m < 2 ^ 62 ∧ -(2 ^ 62) ≤ n ∧ n < 2 ^ 62) ∧ Q (downD m (m - n).toNat)
  | _ => False
theorem ji_down {tg : Expr} {t : TDs} {p : Pos} (hg : Gl S.X "range") (hm : S.X.mg "range" = none) (ha : JA' S [a, b, c] t)
    (hs : starEach [a, b, c] S.X.env = (false, eval a S.X.env) :: starEach [b, c] S.X.env := by rfl) (hs2 : (backTo pos (starEach [b, c] S.X.env)).any (·.1) = false := by rfl) :
    JI S tg (.Call (.Name "range" p) [a, b, c] [] pos) (iDown t) := by
  refine ⟨fun G H σ ρ Q R h => fun pins s I => (pi_range3 hg hm pa_w hs hs2).run pins s σ H _ I ((ha.run G H σ ρ _ R h).mono fun vs H1 ⟨G1, ds, x1, r1, q1⟩ => ?_)⟩
  match ds, r1, q1 with
  | [.int m, .int n, .int k], r1, q1 =>
    cases repA_int3 r1
    obtain ⟨e, ⟨b1, b2, b3, b4⟩, q⟩ := q1
    subst e
    exact ⟨m, n, -1, _, rfl, RgC.neg b1 b2 b3 b4, G1, _, x1, gives_down, q⟩
end
end DD

set_option Elab.async false
set_option linter.all false
set_option maxRecDepth 100000
set_option maxHeartbeats 1000000
namespace DD
open PySem PySem.Spec PyProof.Rows L2

/-! ### a def by its body -/
def startD (N : List Str) (ds : List D) : Env := ds.map some ++ List.replicate (N.length - ds.length) none
theorem nx_st1 {Q : Env → Prop} {x : Str} {N : List Str} {d : D} {ds : List D} (q : Nx (fun t => Q (some d :: t)) (startD N ds)) : Nx Q (startD (x :: N) (d :: ds)) := by
  have e : startD (x :: N) (d :: ds) = some d :: startD N ds := by simp [startD]
  rw [e]
  exact .of q.get
theorem nx_st2 {Q : Env → Prop} {x : Str} {N : List Str} (q : Nx (fun t => Q (none :: t)) (startD N [])) : Nx Q (startD (x :: N) []) := by
  have e : startD (x :: N) [] = none :: startD N [] := by simp [startD, List.replicate_succ]
  rw [e]
  exact .of q.get
theorem nx_st3 {Q : Env → Prop} (q : Q []) : Nx Q (startD [] []) := .of q
def sitOf (Γ : Gm) (N : List Str) (qual : Str) (sc : Scope) (f : Addr) (cdv : Value) (A : Around) (outer : List PySem.Env) (s : Shared) (H : Hp) (E : XK) (G0 : Hp) (P : Out → Prop) : Sit where
  X := cxOf (L2.CX Γ.P Γ.w) Γ.P Γ.w Γ.K Γ.mg Γ.base N qual sc f cdv A outer s H E
  nm := Γ.nm
  G0 := G0
  B := H
  ex := fun C _ => P (.exn C)
  kk := Γ.kk
  ww := Γ.ww
theorem start_rel {nm : Nm} {G H : Hp} {N : List Str} {vs : List V} {ds : List D} (gh : Same G H) (r : Reps nm G vs ds) : DD.Rel nm G H {} G H (L2.start N vs) (startD N ds) := by
  have hl := r.length
  have key : ∀ (i : Nat) (d : D), (startD N ds)[i]? = some (some d) → ∃ v, (L2.start N vs)[i]? = some (some v) ∧ Rep nm G v d := fun i d e => by
    unfold startD at e
    unfold L2.start
    by_cases hi : i < ds.length
    · rw [List.getElem?_append_left (by simpa using hi), List.getElem?_map] at e
      have e2 : ds[i]? = some d := by
        cases q : ds[i]? with
        | none => rw [q] at e; cases e
        | some d' => rw [q] at e; cases e; rfl
      obtain ⟨v, h1, h2⟩ := r.get e2
      refine ⟨v, ?_, h2⟩
      rw [List.getElem?_append_left (by simp; omega), List.getElem?_map, h1]
      rfl
    · rw [List.getElem?_append_right (by simpa using hi), List.getElem?_replicate] at e
      split at e <;> cases e
  refine ⟨Ext.refl gh, by simp [startD, L2.start, hl], fun i d e => ?_, fun i j l l' p hi => ?_, fun _ _ z => by rcases z with z | z <;> cases z⟩
  · obtain ⟨v, h1, h2⟩ := key i d e
    refine ⟨v, h1, .of h2, ?_⟩
    cases d <;> first | rfl | cases h2
  · obtain ⟨v, h1, h2⟩ := key i _ hi
    cases h2
theorem fnD {Γ : Gm} {x qual : Str} {st : Stmt} {f : Addr} {fd : FuncData} {N ps : List Str} {k : Nat} {M : MD} (F : Fun Γ.K x qual st f fd) (Sc : FnScope N ps (defScope st)) (hl : ∀ ds P, M ds P → ds.length = ps.length)
    (hb : ∀ (cdv : Value) (A : Around) (outer : List PySem.Env) (s : Shared) (H : Hp) (E : XK) (G0 : Hp) (ds : List D) (P : Out → Prop),
      JX (sitOf Γ N qual (defScope st) f cdv A outer s H E G0 P) → Room k (sitOf Γ N qual (defScope st) f cdv A outer s H E G0 P).X.A → PassesOwn (model Γ.P Γ.w) (sitOf Γ N qual (defScope st) f cdv A outer s H E G0 P).X.A (sitOf Γ N qual (defScope st) f cdv A outer s H E G0 P).X.env (sitOf Γ N qual (defScope st) f cdv A outer s H E G0 P).X.xe → M ds P →
      ∃ t, JSs (sitOf Γ N qual (defScope st) f cdv A outer s H E G0 P) (defBody st) t ∧ Nx (fun ρ => t { nx := fun _ => P (.ret .non), rt := fun d => P (.ret d) } ρ) (startD N ds)) :
    FnOk Γ.P Γ.w Γ.K Γ.mg Γ.base (L2.CX Γ.P Γ.w) (k + 1) f fd ps (spD Γ.nm M) := by
  refine F.okX Sc (fun vs H Q E h => ?_) fun cdv A outer s H vs Q E hr hsp => ?_
  · obtain ⟨G, ds, P, _, r, m, _⟩ := h
    rw [r.length]
    exact hl ds P m
  · obtain ⟨G, ds, P, gh, r, m, hret, hexn⟩ := hsp
    have jx : JX (sitOf Γ N qual (defScope st) f cdv A outer s H E G P) :=
      ⟨fun cls d _ H' => E cls d H', takes_of rfl rfl rfl rfl, fun G' H' σ ρ C R p => hexn C H' R.bh p⟩
    obtain ⟨t, ht, hq⟩ := hb cdv A outer s H E G ds P jx hr (passes_of rfl) m
    refine ⟨_, pss_w, (ht.run G H (L2.start N vs) (startD N ds) _ (start_rel gh r) hq.get).mono (fun σ' H' ⟨G', ρ', R', _, q⟩ => ?_) (fun v H' ⟨G', d, x, rv, nb, q⟩ => ?_) (fun _ _ ⟨_, _, _, _, q⟩ => q.elim) (fun _ _ ⟨_, _, _, _, q⟩ => q.elim)⟩
    · exact hret G' H' .non .non R'.ext (.of .non) rfl q
    · exact hret G' H' v d x rv nb q

section
variable {S : Sit} {a b c e : Expr} {es : List Expr} {pos : Pos} {τa τb τc : TD} {st : Stmt} {sts : List Stmt} {t u : TDS}
/-! ### operators -/
theorem new_own {nm : Nm} {H0 G H : Hp} {p : Addr} {vs : List V} {l : List D} (s0 : Same H0 H) (gh : Same G H) (hp : H p = none) (r : Reps nm G vs l) : Ext H0 G H G (upd H p (.lst vs)) ∧ RepV nm H0 G (upd H p (.lst vs)) (.ref p) (.own l) :=
  ⟨Ext.grow gh (same_upd hp), p, vs, rfl, upd_same, gh.free hp, s0.free hp, r⟩
theorem new_tup {nm : Nm} {H0 G H : Hp} {p : Addr} {vs : List V} {l : List D} (s0 : Same H0 H) (gh : Same G H) (hp : H p = none) (r : Reps nm G vs l) : ∃ G', Ext H0 G H G' (upd H p (.tup vs)) ∧ RepV nm H0 G' (upd H p (.tup vs)) (.ref p) (.tup l) := by
  have gp := gh.free hp
  have sm : Same G (upd G p (.tup vs)) := same_upd gp
  refine ⟨upd G p (.tup vs), ⟨sm, same_upd hp, fun b o e => ?_, fun a ea na => ?_⟩, .of (.tup upd_same (r.mono sm))⟩
  · by_cases hb : b = p
    · subst hb; rw [upd_same] at e ⊢; exact e
    · rw [upd_ne hb] at e ⊢; exact gh _ _ e
  · rw [upd_ne (fun z => na (by rw [z]; exact s0.free hp))]; exact ea
def rAdd : RD2 := fun d e Q => match d, e with
  | .int i, .int j => Q (.int (i + j))
  | .str x, .str y => x.length + y.length ≤ sizeLine ∧ Q (.str (x ++ y))
  | .tup l, .tup m => l ≠ [] ∧ m ≠ [] ∧ l.length + m.length ≤ sizeLine ∧ Q (.tup (l ++ m))
  | d, e => match lstT d, lstT e with
    | some l, some m => l.length + m.length ≤ sizeLine ∧ Q (.own (l ++ m))
    | _, _ => False
theorem o_add : DOp S (binaryOp .Add) rAdd := .of fun H0 G H x y d e Q s0 gh rx ry h => by
  unfold rAdd at h
  split at h
  · rename_i i j
    cases repV_int rx
    cases repV_int ry
    exact ⟨_, op_add, i, j, rfl, rfl, G, _, Ext.refl gh, .of (.int _), h⟩
  · rename_i i j
    cases repV_str rx
    cases repV_str ry
    exact ⟨_, op_add_str, i, j, rfl, rfl, h.1, G, _, Ext.refl gh, .of (.str _), h.2⟩
  · rename_i l m
    have rx' : Rep S.nm G x (.tup l) := rx
    have ry' : Rep S.nm G y (.tup m) := ry
    cases rx' with
    | tup e1 r1 =>
      cases ry' with
      | tup e2 r2 =>
        rename_i vs _ ws
        obtain ⟨h1, h2, h3, q⟩ := h
        have n1 : vs ≠ [] := fun z => by subst z; cases r1; exact h1 rfl
        have n2 : ws ≠ [] := fun z => by subst z; cases r2; exact h2 rfl
        refine ⟨_, op_catT, _, _, vs, ws, rfl, rfl, .inl (.inl (gh _ _ e1)), .inl (.inl (gh _ _ e2)), n1, by rw [r1.length, r2.length]; exact h3, fun z => absurd z n2, fun _ p hp => ?_⟩
        obtain ⟨G', x1, x2⟩ := new_tup s0 gh hp (r1.append r2)
        exact ⟨G', _, x1, x2, q⟩
  · split at h
    · rename_i l m e1 e2
      obtain ⟨p, vs, rfl, hp, r1⟩ := rx.lstT gh e1
      obtain ⟨p2, ws, rfl, hp2, r2⟩ := ry.lstT gh e2
      refine ⟨_, op_cat, p, p2, vs, ws, rfl, rfl, hp, hp2, by rw [r1.length, r2.length]; exact h.1, fun q hq => ?_⟩
      obtain ⟨x1, x2⟩ := new_own s0 gh hq (r1.append r2)
      exact ⟨G, _, x1, x2, h.2⟩
    · exact h.elim

/-- two ints -/
def rInt (C : Int → Int → Prop) (g : Int → Int → D) : RD2 := fun d e Q => match d, e with
  | .int i, .int j => C i j ∧ Q (g i j)
  | _, _ => False
def rInt0 (g : Int → Int → D) : RD2 := fun d e Q => match d, e with
  | .int i, .int j => Q (g i j)
  | _, _ => False
theorem o_int {f : Value → Value → Sem Value} {C : Int → Int → Prop} {g : Int → Int → Int} (h : OpR S.X f (rI C fun i j => .int (g i j))) : DOp S f (rInt C fun i j => .int (g i j)) := .of fun H0 G H x y d e Q s0 gh rx ry q => by
  unfold rInt at q
  split at q
  · rename_i i j
    cases repV_int rx
    cases repV_int ry
    exact ⟨_, h, i, j, rfl, rfl, q.1, G, _, Ext.refl gh, .of (.int _), q.2⟩
  · exact q.elim
theorem o_int0 {f : Value → Value → Sem Value} {g : Int → Int → Int} (h : OpR S.X f (rI0 fun i j => .int (g i j))) : DOp S f (rInt0 fun i j => .int (g i j)) := .of fun H0 G H x y d e Q s0 gh rx ry q => by
  unfold rInt0 at q
  split at q
  · rename_i i j
    cases repV_int rx
    cases repV_int ry
    exact ⟨_, h, i, j, rfl, rfl, G, _, Ext.refl gh, .of (.int _), q⟩
  · exact q.elim
theorem o_bool0 {f : Value → Value → Sem Value} {g : Int → Int → Bool} (h : OpR S.X f (rI0 fun i j => .bl (g i j))) : DOp S f (rInt0 fun i j => .bl (g i j)) := .of fun H0 G H x y d e Q s0 gh rx ry q => by
  unfold rInt0 at q
  split at q
  · rename_i i j
    cases repV_int rx
    cases repV_int ry
    exact ⟨_, h, i, j, rfl, rfl, G, _, Ext.refl gh, .of (.bl _), q⟩
  · exact q.elim
theorem o_sub : DOp S (binaryOp .Sub) (rInt0 fun i j => .int (i - j)) := o_int0 op_sub
def rMod : RD2 := fun d e Q => match d, e with
  | .int i, .int j => 0 < j ∧ Q (.int (i % j))
  | _, _ => False
theorem o_mod : DOp S (binaryOp .Mod) rMod := fun H0 G H x y d e Q s0 gh rx ry h => (o_int op_mod : DOp S (binaryOp .Mod) (rInt (fun _ j => 0 < j) fun i j => .int (i % j))) H0 G H x y d e Q s0 gh rx ry (by
  unfold rMod at h
  unfold rInt
  exact h)
def rPow : RD2 := fun d e Q => match d, e with
  | .int i, .int j => (0 ≤ j ∧ j ≤ 1000000 ∧ i.natAbs < 2 ^ 64) ∧ Q (.int (i ^ j.toNat))
  | _, _ => False
theorem o_pow : DOp S (binaryOp .Pow) rPow := fun H0 G H x y d e Q s0 gh rx ry h => (o_int op_pow : DOp S (binaryOp .Pow) (rInt CPow fun i j => .int (i ^ j.toNat))) H0 G H x y d e Q s0 gh rx ry (by
  unfold rPow at h
  unfold rInt
  exact h)
theorem o_lt : DOp S (compareOp .Lt) (rInt0 fun i j => .bl (decide (i < j))) := o_bool0 op_lt
theorem o_le : DOp S (compareOp .LtE) (rInt0 fun i j => .bl (decide (i ≤ j))) := o_bool0 op_le
theorem o_gt : DOp S (compareOp .Gt) (rInt0 fun i j => .bl (decide (j < i))) := o_bool0 op_gt
theorem o_ge : DOp S (compareOp .GtE) (rInt0 fun i j => .bl (decide (j ≤ i))) := o_bool0 op_ge
/-- the left or the right one below 2^64, or both together below a million bits -/
def MulB (i j : Int) : Prop := CMul i j ∨ CMulW i j
def rMul : RD2 := fun d e Q => match d, e with
  | .int i, .int j => MulB i j ∧ Q (.int (i * j))
  | d, .int k => match lstT d with
    | some l => (-(2 ^ 63) ≤ k ∧ k < 2 ^ 63) ∧ l.length * k.toNat ≤ sizeLine ∧ Q (.own (List.replicate k.toNat l).flatten)
    | none => False
  | _, _ => False
theorem Reps.rep {nm : Nm} {G : Hp} {vs : List V} {ds : List D} (r : Reps nm G vs ds) : ∀ k : Nat, Reps nm G (List.replicate k vs).flatten (List.replicate k ds).flatten
  | 0 => .nil
  | k + 1 => by
    rw [List.replicate_succ, List.replicate_succ, List.flatten_cons, List.flatten_cons]
    exact r.append (Reps.rep r k)
theorem o_mul : DOp S (binaryOp .Mult) rMul := .of fun H0 G H x y d e Q s0 gh rx ry h => by
  unfold rMul at h
  split at h
  · rename_i i j
    cases repV_int rx
    cases repV_int ry
    rcases h.1 with c | c
    · exact ⟨_, op_mul, i, j, rfl, rfl, c, G, _, Ext.refl gh, .of (.int _), h.2⟩
    · exact ⟨_, op_mulW, i, j, rfl, rfl, c, G, _, Ext.refl gh, .of (.int _), h.2⟩
  · split at h
    · rename_i k _ _ l el
      cases repV_int ry
      obtain ⟨p, vs, rfl, hp, r1⟩ := rx.lstT gh el
      refine ⟨_, op_rep, p, k, vs, rfl, rfl, hp, h.1.1, h.1.2, by rw [r1.length]; exact h.2.1, fun q hq => ?_⟩
      obtain ⟨x1, x2⟩ := new_own s0 gh hq (r1.rep k.toNat)
      exact ⟨G, _, x1, x2, h.2.2⟩
    · exact h.elim
  · exact h.elim
def rDiv : RD2 := fun d e Q => match d, e with
  | .int i, .int j => (0 < j ∧ j.natAbs.log2 < 9000 ∧ Q (.int (i / j))) ∨ (j < 0 ∧ j.natAbs < 1073741824 ∧ Q (.int (i.fdiv j)))
  | _, _ => False
theorem o_div : DOp S (binaryOp .FloorDiv) rDiv := .of fun H0 G H x y d e Q s0 gh rx ry h => by
  unfold rDiv at h
  split at h
  · rename_i i j
    cases repV_int rx
    cases repV_int ry
    rcases h with ⟨h1, h2, h⟩ | ⟨h1, h2, h⟩
    · exact ⟨_, op_fdivW, i, j, rfl, rfl, ⟨h1, h2⟩, G, _, Ext.refl gh, .of (.int _), h⟩
    · exact ⟨_, op_fdivN, i, j, rfl, rfl, ⟨by omega, h2⟩, G, _, Ext.refl gh, .of (.int _), h⟩
  · exact h.elim
/-- in place -/
def rIAdd : RD2 := fun d e Q => match d, e with
  | .int i, .int j => Q (.int (i + j))
  | .str x, .str y => x.length + y.length ≤ sizeLine ∧ Q (.str (x ++ y))
  | _, _ => False
theorem o_iadd : DOp S (inplaceOp .Add) rIAdd := .of fun H0 G H x y d e Q s0 gh rx ry h => by
  unfold rIAdd at h
  split at h
  · rename_i i j
    cases repV_int rx
    cases repV_int ry
    exact ⟨_, iop_add, i, j, rfl, rfl, G, _, Ext.refl gh, .of (.int _), h⟩
  · rename_i i j
    cases repV_str rx
    cases repV_str ry
    exact ⟨_, iop_add_str, i, j, rfl, rfl, h.1, G, _, Ext.refl gh, .of (.str _), h.2⟩
  · exact h.elim
theorem o_isub : DOp S (inplaceOp .Sub) (rInt0 fun i j => .int (i - j)) := o_int0 iop_sub

/-! ### == -/
mutual
def toP : D → Option PyData
  | .non => some .none
  | .bl b => some (.bool b)
  | .int i => some (.int i)
  | .str x => some (.str x)
  | .tup l => match toPs l with
    | some l => some (.tuple l)
    | none => none
  | .lst l => match toPs l with
    | some l => some (.list l)
    | none => none
  | .own l => match toPs l with
    | some l => some (.list l)
    | none => none
  | .bor l => match toPs l with
    | some l => some (.list l)
    | none => none
  | .scr l => match toPs l with
    | some l => some (.list l)
    | none => none
  | .ins _ _ _ => none
  | .exc _ => none
  | .dct _ _ => none
def toPs : List D → Option (List PyData)
  | [] => some []
  | d :: ds => match toP d, toPs ds with
    | some p, some ps => some (p :: ps)
    | _, _ => none
end
section
variable {nm : Nm} {G : Hp}
mutual
theorem Rep.dp : ∀ (d : D) (v : V) (p : PyData), Rep nm G v d → toP d = some p → Dp nm.K G v p
  | .non, _, _, r, e => by cases r; cases e; exact .non
  | .bl b, _, _, r, e => by cases r; cases e; exact .bl b
  | .int i, _, _, r, e => by cases r; cases e; exact .int i
  | .str x, _, _, r, e => by cases r; cases e; exact .str x
  | .tup l, _, p, r, e => by
    cases r with
    | tup h q =>
      unfold toP at e
      split at e
      · rename_i ps eps
        cases e
        exact .tup (.inl (.inl h)) (Reps.dp l _ ps q eps)
      · cases e
  | .lst l, _, p, r, e => by
    cases r with
    | lst h q =>
      unfold toP at e
      split at e
      · rename_i ps eps
        cases e
        exact .lst (.inl (.inl h)) (Reps.dp l _ ps q eps)
      · cases e
  | .scr l, _, p, r, e => by
    cases r with
    | scr h q =>
      unfold toP at e
      split at e
      · rename_i ps eps
        cases e
        exact .lst h (Reps.dp l _ ps q eps)
      · cases e
  | .own _, _, _, r, _ => by cases r
  | .bor _, _, _, r, _ => by cases r
  | .ins _ _ _, _, _, _, e => by cases e
  | .exc _, _, _, _, e => by cases e
  | .dct _ _, _, _, _, e => by cases e
theorem Reps.dp : ∀ (ds : List D) (vs : List V) (ps : List PyData), Reps nm G vs ds → toPs ds = some ps → DpAll nm.K G vs ps
  | [], _, _, r, e => by cases r; cases e; exact .nil
  | d :: ds, _, _, r, e => by
    cases r with
    | cons r q =>
      unfold toPs at e
      split at e
      · rename_i p ps e1 e2
        cases e
        exact .cons (Rep.dp d _ p r e1) (Reps.dp ds _ ps q e2)
      · cases e
end
end
mutual
theorem Dp.mono {K : PySem.W.Frag} {G H : Hp} (h : Same G H) : ∀ (p : PyData) (v : V), Dp K G v p → Dp K H v p
  | .none, _, r => by cases r; exact .non
  | .bool b, _, r => by cases r; exact .bl b
  | .int i, _, r => by cases r; exact .int i
  | .str x, _, r => by cases r; exact .str x
  | .list ps, _, r => by
    cases r with
    | lst e q => exact .lst (Same.seq h e) (DpAll.mono h ps _ q)
  | .tuple ps, _, r => by
    cases r with
    | tup e q =>
      refine .tup ?_ (DpAll.mono h ps _ q)
      rcases e with (e | ⟨o, e⟩) | e
      · exact .inl (.inl (h _ _ e))
      · exact .inl (.inr ⟨o, h _ _ e⟩)
      · exact .inr e
  | .dict _, _, r => by cases r
theorem DpAll.mono {K : PySem.W.Frag} {G H : Hp} (h : Same G H) : ∀ (ps : List PyData) (vs : List V), DpAll K G vs ps → DpAll K H vs ps
  | [], _, r => by cases r; exact .nil
  | p :: ps, _, r => by
    cases r with
    | cons e q => exact .cons (Dp.mono h p _ e) (DpAll.mono h ps _ q)
end
theorem RepV.dp {nm : Nm} {H0 G H : Hp} {v : V} {d : D} {p : PyData} (r : RepV nm H0 G H v d) (gh : Same G H) (e : toP d = some p) : Dp nm.K H v p := by
  cases d with
  | own l =>
    obtain ⟨a, vs, rfl, h1, _, _, q⟩ := r
    unfold toP at e
    split at e
    · rename_i ps eps
      cases e
      exact .lst (.inl (.inl h1)) (DpAll.mono gh _ _ (Reps.dp l _ ps q eps))
    · cases e
  | bor l =>
    obtain ⟨a, vs, rfl, h1, _, q⟩ := r
    unfold toP at e
    split at e
    · rename_i ps eps
      cases e
      exact .lst (.inl (.inl h1)) (DpAll.mono gh _ _ (Reps.dp l _ ps q eps))
    · cases e
  | _ => exact Dp.mono gh _ _ (Rep.dp _ _ _ r e)
/-- the answer of == -/
def eqD (d e : D) : Bool := match toP d, toP e with
  | some p, some q => PyData.eqv p q
  | _, _ => false
def shapedD (d : D) : Prop := ∃ p, toP d = some p ∧ SeqAt.shaped p = true
@[irreducible] def rEq (neg : Bool) : RD2 := fun d e Q => match d, e with
  | .int i, .int j => Q (.bl (if neg then !decide (i = j) else decide (i = j)))
  | .str i, .str j => Q (.bl (if neg then !decide (i = j) else decide (i = j)))
  | .bl i, .bl j => Q (.bl (if neg then !decide (i = j) else decide (i = j)))
  | d, e => shapedD d ∧ shapedD e ∧ Q (.bl (if neg then !eqD d e else eqD d e))
theorem o_eq (hu : S.X.A.units + 64 < cLine) : DOp S (compareOp .Eq) (rEq false) := .of fun H0 G H x y d e Q s0 gh rx ry h => by
  unfold rEq at h
  split at h
  · rename_i i j
    cases repV_int rx
    cases repV_int ry
    exact ⟨_, op_eq, rfl, G, _, Ext.refl gh, .of (.bl _), by rw [dec_int, Bool.beq_eq_decide_eq]; exact h⟩
  · rename_i i j
    cases repV_str rx
    cases repV_str ry
    exact ⟨_, op_eq, rfl, G, _, Ext.refl gh, .of (.bl _), by rw [dec_str, Bool.beq_eq_decide_eq]; exact h⟩
  · rename_i i j
    cases repV_bl rx
    cases repV_bl ry
    exact ⟨_, op_eq, rfl, G, _, Ext.refl gh, .of (.bl _), by rw [dec_bl, Bool.beq_eq_decide_eq]; exact h⟩
  · obtain ⟨⟨p, e1, s1⟩, ⟨q, e2, s2⟩, h⟩ := h
    have kk := S.kk
    refine ⟨_, op_eqD hu, p, q, by rw [← kk]; exact rx.dp gh e1, by rw [← kk]; exact ry.dp gh e2, s1, s2, G, _, Ext.refl gh, .of (.bl _), ?_⟩
    unfold eqD at h
    rw [e1, e2] at h
    exact h
theorem o_ne (hu : S.X.A.units + 64 < cLine) : DOp S (compareOp .NotEq) (rEq true) := .of fun H0 G H x y d e Q s0 gh rx ry h => by
  unfold rEq at h
  split at h
  · rename_i i j
    cases repV_int rx
    cases repV_int ry
    exact ⟨_, op_ne, rfl, G, _, Ext.refl gh, .of (.bl _), by rw [dec_int, Bool.beq_eq_decide_eq]; exact h⟩
  · rename_i i j
    cases repV_str rx
    cases repV_str ry
    exact ⟨_, op_ne, rfl, G, _, Ext.refl gh, .of (.bl _), by rw [dec_str, Bool.beq_eq_decide_eq]; exact h⟩
  · rename_i i j
    cases repV_bl rx
    cases repV_bl ry
    exact ⟨_, op_ne, rfl, G, _, Ext.refl gh, .of (.bl _), by rw [dec_bl, Bool.beq_eq_decide_eq]; exact h⟩
  · obtain ⟨⟨p, e1, s1⟩, ⟨q, e2, s2⟩, h⟩ := h
    have kk := S.kk
    refine ⟨_, op_neD hu, p, q, by rw [← kk]; exact rx.dp gh e1, by rw [← kk]; exact ry.dp gh e2, s1, s2, G, _, Ext.refl gh, .of (.bl _), ?_⟩
    unfold eqD at h
    rw [e1, e2] at h
    exact h
def isNon : D → Bool
  | .non => true
  | _ => false
def rIs (neg : Bool) : RD2 := fun d e Q => match e with
  | .non => Q (.bl (if neg then !isNon d else isNon d))
  | .bl b => match d with
    | .bl a => Q (.bl (if neg then !(a == b) else (a == b)))
    | _ => False
  | _ => False
theorem op_isBl {X : Cx} : OpR X (compareOp .Is) (fun x y H Q => ∃ a b, x = .bl a ∧ y = .bl b ∧ Q (.bl (a == b)) H) := by
  intro pins s σ H x y v u Q I rx ry h
  obtain ⟨a, b, rfl, rfl, q⟩ := h
  cases rx
  cases ry
  show wpAny _ _ ((isSame (Value.bool a) (Value.bool b)) >>= fun z => pure (Value.bool z)) _ _ s
  refine wpAny_bind (wpAny_isSame_plain rfl (wpAny_pure (fin_bl I q ?_)))
  cases a <;> cases b <;> rfl
theorem op_notBl {X : Cx} : OpR X (compareOp .IsNot) (fun x y H Q => ∃ a b, x = .bl a ∧ y = .bl b ∧ Q (.bl (!(a == b))) H) := by
  intro pins s σ H x y v u Q I rx ry h
  obtain ⟨a, b, rfl, rfl, q⟩ := h
  cases rx
  cases ry
  show wpAny _ _ ((isSame (Value.bool a) (Value.bool b)) >>= fun z => pure (Value.bool (!z))) _ _ s
  refine wpAny_bind (wpAny_isSame_plain rfl (wpAny_pure (fin_bl I q ?_)))
  cases a <;> cases b <;> rfl
theorem isNon_rep {nm : Nm} {H0 G H : Hp} {v : V} {d : D} (r : RepV nm H0 G H v d) : decide (v = .non) = isNon d := by
  cases d with
  | non => cases repV_non r; rfl
  | own l => obtain ⟨p, vs, rfl, _⟩ := r; rfl
  | bor l => obtain ⟨p, vs, rfl, _⟩ := r; rfl
  | bl b => cases repV_bl r; rfl
  | int b => cases repV_int r; rfl
  | str b => cases repV_str r; rfl
  | tup l => cases (show Rep nm G v (.tup l) from r); rfl
  | lst l => cases (show Rep nm G v (.lst l) from r); rfl
  | scr l => cases (show Rep nm G v (.scr l) from r); rfl
  | dct ks l => cases (show Rep nm G v (.dct ks l) from r); rfl
  | ins C ns l => cases (show Rep nm G v (.ins C ns l) from r); rfl
  | exc C => cases (show Rep nm G v (.exc C) from r); rfl
theorem o_is : DOp S (compareOp .Is) (rIs false) := .of fun H0 G H x y d e Q s0 gh rx ry h => by
  unfold rIs at h
  split at h
  · cases repV_non ry
    exact ⟨_, op_isN, rfl, G, _, Ext.refl gh, .of (.bl _), by rw [isNon_rep rx]; exact h⟩
  · split at h
    · cases repV_bl rx
      cases repV_bl ry
      exact ⟨_, op_isBl, _, _, rfl, rfl, G, _, Ext.refl gh, .of (.bl _), h⟩
    · exact h.elim
  · exact h.elim
theorem o_isnot : DOp S (compareOp .IsNot) (rIs true) := .of fun H0 G H x y d e Q s0 gh rx ry h => by
  unfold rIs at h
  split at h
  · cases repV_non ry
    exact ⟨_, op_notN, rfl, G, _, Ext.refl gh, .of (.bl _), by rw [isNon_rep rx]; exact h⟩
  · split at h
    · cases repV_bl rx
      cases repV_bl ry
      exact ⟨_, op_notBl, _, _, rfl, rfl, G, _, Ext.refl gh, .of (.bl _), h⟩
    · exact h.elim
  · exact h.elim

/-! ### subscripts -/
def seqD : D → Option (List D)
  | .lst l => some l
  | .own l => some l
  | .bor l => some l
  | .scr l => some l
  | _ => none
theorem RepV.seqD {nm : Nm} {H0 G H : Hp} {v : V} {d : D} {l : List D} (r : RepV nm H0 G H v d) (gh : Same G H) (e : DD.seqD d = some l) : ∃ p vs, v = .ref p ∧ SqL nm.K H p vs ∧ Reps nm G vs l := by
  cases d with
  | own l' =>
    cases e
    obtain ⟨p, vs, rfl, h1, _, _, q⟩ := r
    exact ⟨p, vs, rfl, .inl (.inl h1), q⟩
  | bor l' =>
    cases e
    obtain ⟨p, vs, rfl, h1, _, q⟩ := r
    exact ⟨p, vs, rfl, .inl (.inl h1), q⟩
  | lst l' =>
    cases e
    have r' : Rep nm G v (.lst l) := r
    cases r' with
    | lst h1 q => exact ⟨_, _, rfl, .inl (.inl (gh _ _ h1)), q⟩
  | scr l' =>
    cases e
    have r' : Rep nm G v (.scr l) := r
    cases r' with
    | scr h1 q => exact ⟨_, _, rfl, Same.seq gh h1, q⟩
  | _ => cases e
theorem Reps.atI {nm : Nm} {G : Hp} {vs : List V} {l : List D} {i : Int} {d : D} (r : Reps nm G vs l) (e : L2.atI l i = some d) : ∃ v, L2.atI vs i = some v ∧ Rep nm G v d := by
  unfold L2.atI at e ⊢
  rw [r.length]
  cases h : ixN l.length i with
  | none => rw [h] at e; cases e
  | some j =>
    rw [h] at e
    exact r.get e
def rIxD : RD2 := fun d e Q => match e with
  | .int i => match d with
    | .tup l => match L2.atI l i with
      | some x => Q x
      | none => False
    | .str z => z.length ≤ sizeLine ∧ match L2.atI z.cps.toList i with
      | some c => Q (.str ⟨#[c]⟩)
      | none => False
    | d => match seqD d with
      | some l => match L2.atI l i with
        | some x => Q x
        | none => False
      | none => False
  | _ => False
def tOrIx (X : Cx) (x : V) (i : Int) (H : Hp) (Q : VK) : Prop := rIxL X.K x (.int i) H Q ∨ rIxT X.K x (.int i) H Q ∨ rIxS x (.int i) H Q
theorem je_ix (ha : JE S a τa) (hb : JE S b τb) (hs : PlainIx b := by exact fun _ _ => rfl) : JE S (.Subscript a b pos) (eOp rIxD τa τb) := by
  refine ⟨fun G H σ ρ Q R h => WX.of (pe_ix (ix_list.or (ix_tup.or ix_str)) pe_w pe_w hs) ?_⟩
  refine (ha.run G H σ ρ _ R h).mono fun x H1 ⟨G1, d, x1, r1, h1⟩ => ?_
  refine (hb.run G1 H1 σ ρ _ (R.go x1) h1).mono fun y H2 ⟨G2, e, x2, r2, h2⟩ => ?_
  have y2 := x1.trans (Ext.from x1.h x2)
  have rd := r1.ext x2
  have kk := S.kk
  cases e with
  | int i =>
    cases repV_int r2
    have main : ∀ l, DD.seqD d = some l → (match L2.atI l i with | some z => Q z | none => False) → tOrIx S.X x i H2 (fun v H' => ∃ G' d, Ext H G H G' H' ∧ RepV S.nm H G' H' v d ∧ Q d) := fun l el hq => by
      split at hq
      · rename_i z ez
        obtain ⟨p, vs, rfl, hp, ra⟩ := rd.seqD y2.gh el
        obtain ⟨v, h3, h4⟩ := ra.atI ez
        exact .inl ⟨p, vs, i, v, rfl, rfl, by rw [← kk]; exact hp, h3, G2, z, y2, .of h4, hq⟩
      · exact hq.elim
    cases d with
    | tup l =>
      have hq : (match L2.atI l i with | some z => Q z | none => False) := h2
      split at hq
      · rename_i z ez
        have rd' : Rep S.nm G2 x (.tup l) := rd
        cases rd' with
        | tup ea ra =>
          obtain ⟨v, h3, h4⟩ := ra.atI ez
          exact .inr (.inl ⟨_, _, i, v, rfl, rfl, .inl (.inl (y2.gh _ _ ea)), h3, G2, z, y2, .of h4, hq⟩)
      · exact hq.elim
    | str z =>
      have hq : z.length ≤ sizeLine ∧ (match L2.atI z.cps.toList i with | some c => Q (.str ⟨#[c]⟩) | none => False) := h2
      obtain ⟨hz, hq⟩ := hq
      cases repV_str rd
      split at hq
      · rename_i c ec
        exact .inr (.inr ⟨z, i, c, rfl, rfl, hz, ec, G2, _, y2, .of (.str _), hq⟩)
      · exact hq.elim
    | lst l => exact main l rfl h2
    | own l => exact main l rfl h2
    | bor l => exact main l rfl h2
    | scr l => exact main l rfl h2
    | _ => exact (show False from h2).elim
  | _ => exact (show False from h2).elim
abbrev TDo := Env → (Option Int → Prop) → Prop
def WO (X : Cx) (e : Option Expr) : TO := fun σ H Q => ∀ (pins : List (Addr × Obj)) (s : Shared), Inv X pins σ H s → wpAny (model X.prog X.w) X.A (evalPart e X.env) (fun u s' => ∃ o H', Inv X pins σ H' s' ∧ IsPart u o ∧ Q o H') X.xe s
theorem po_w {e : Option Expr} : PO S.X e (WO S.X e) := ⟨fun pins s _ _ _ I h => h pins s I⟩
theorem WO.mono {e : Option Expr} {σ : L2.St} {H : Hp} {Q Q' : Option Int → Hp → Prop} (h : WO S.X e σ H Q) (m : ∀ v H', Q v H' → Q' v H') : WO S.X e σ H Q' := fun pins s I => thn (h pins s I) fun _ _ ⟨o, H', I', r, q⟩ => ⟨o, H', I', r, m _ H' q⟩
structure JO (S : Sit) (e : Option Expr) (t : TDo) : Prop where
  run : ∀ (G H : Hp) (σ : L2.St) (ρ : Env) (Q : Option Int → Prop), S.Rel G H σ ρ → t ρ Q → WO S.X e σ H fun o H' => ∃ G', Ext H G H G' H' ∧ Q o
theorem jo_none : JO S none (fun _ Q => Q none) := ⟨fun G H σ ρ Q R h pins s I => po_none.run pins s σ H _ I ⟨G, Ext.refl R.gh, h⟩⟩
theorem jo_some (he : JE S e τa) : JO S (some e) (fun ρ Q => τa ρ fun d => match d with
  | .int i => Q (some i)
  | _ => False) := by
  refine ⟨fun G H σ ρ Q R h pins s I => (po_some pe_w).run pins s σ H _ I ((he.run G H σ ρ _ R h).mono fun v H1 ⟨G1, d, x1, r1, q1⟩ => ?_)⟩
  cases d with
  | int i =>
    cases repV_int r1
    exact ⟨i, rfl, G1, x1, q1⟩
  | _ => exact q1.elim
def cutD (l : List D) (lo hi : Option Int) : List D := (l.drop (HT.sIx l.length 0 lo)).take (HT.sIx l.length l.length hi - HT.sIx l.length 0 lo)
theorem Reps.cutV {nm : Nm} {G : Hp} {vs : List V} {l : List D} {lo hi : Option Int} (r : Reps nm G vs l) : Reps nm G (L2.cutV vs lo hi) (cutD l lo hi) := by
  unfold L2.cutV cutD
  rw [r.length]
  exact (r.drop _).take _
def eSl (τ : TD) (tl th : TDo) : TD := fun ρ Q => τ ρ fun d => tl ρ fun lo => th ρ fun hi => match d with
  | .str z => z.length ≤ sizeLine ∧ Q (.str (cutS z lo hi))
  | d => match seqD d with
    | some l => Q (.own (cutD l lo hi))
    | none => False
theorem je_slice {lo hi : Option Expr} {tl th : TDo} {p2 : Pos} (ha : JE S a τa) (hl : JO S lo tl) (hh : JO S hi th) : JE S (.Subscript a (.Slice lo hi none p2) pos) (eSl τa tl th) := by
  refine ⟨fun G H σ ρ Q R h => WX.of (pe_slice (sl_list.or sl_str) pe_w po_w po_w) ?_⟩
  refine (ha.run G H σ ρ _ R h).mono fun x H1 ⟨G1, d, x1, r1, h1⟩ => ?_
  refine (hl.run G1 H1 σ ρ _ (R.go x1) h1).mono fun lo H2 ⟨G2, x2, h2⟩ => ?_
  have y2 := x1.trans (Ext.from x1.h x2)
  refine (hh.run G2 H2 σ ρ _ (R.go y2) h2).mono fun hi H3 ⟨G3, x3, h3⟩ => ?_
  have y3 := y2.trans (Ext.from y2.h x3)
  have rd := (r1.ext x2).ext x3
  have kk := S.kk
  have main : ∀ l, DD.seqD d = some l → Q (.own (cutD l lo hi)) → rSlL S.X.K x lo hi H3 (fun v H' => ∃ G' d, Ext H G H G' H' ∧ RepV S.nm H G' H' v d ∧ Q d) ∨ rSlS x lo hi H3 (fun v H' => ∃ G' d, Ext H G H G' H' ∧ RepV S.nm H G' H' v d ∧ Q d) := fun l el hq => by
    obtain ⟨p, vs, rfl, hp, ra⟩ := rd.seqD y3.gh el
    refine Or.inl ⟨p, vs, rfl, by rw [← kk]; exact hp, fun q hq' => ?_⟩
    obtain ⟨z1, z2⟩ := new_own (H0 := H) y3.h y3.gh hq' (ra.cutV (lo := lo) (hi := hi))
    exact ⟨G3, _, y3.trans z1, z2, hq⟩
  cases d with
  | str z =>
    cases repV_str rd
    exact .inr ⟨z, rfl, h3.1, G3, _, y3, .of (.str _), h3.2⟩
  | lst l => exact main l rfl h3
  | own l => exact main l rfl h3
  | bor l => exact main l rfl h3
  | scr l => exact main l rfl h3
  | _ => exact (show False from h3).elim

/-! ### more iterators -/
/-- reversed(xs) -/
def iRevD (t : TDs) : TDI := fun ρ Q => t ρ fun ds => match ds with
  | [.lst l] => Q l.reverse
  | [.scr l] => Q l.reverse
  | _ => False
theorem gives_rev {nm : Nm} {G : Hp} {a : Addr} {vs : List V} {ds : List D} (hq : SqL nm.K G a vs) (r : Reps nm G vs ds) : Gives nm G (Itv nm.K a vs.length) ds.reverse := by
  refine ⟨vs.length, _, _, by simp [r.length], walk_rev, fun H2 s => Same.seq s hq, fun i x H2 H3 s hi ⟨e1, e2⟩ => ?_⟩
  obtain ⟨d, h1, h2⟩ := r.getV e2
  refine ⟨d, ?_, .inl ⟨e1, h2⟩⟩
  rw [List.getElem?_reverse (by rw [← r.length]; exact hi), ← r.length]
  exact h1
theorem ji_rev {tg : Expr} {t : TDs} {p : Pos} (hg : Gl S.X "reversed") (hm : S.X.mg "reversed" = none) (ha : JA' S [a] t) (hs : starEach [a] S.X.env = [(false, eval a S.X.env)] := by rfl) : JI S tg (.Call (.Name "reversed" p) [a] [] pos) (iRevD t) := by
  refine ⟨fun G H σ ρ Q R h => fun pins s I => (pi_reversed hg hm pa_w hs).run pins s σ H _ I ((ha.run G H σ ρ _ R h).mono fun vs H1 ⟨G1, ds, x1, r1, q1⟩ => ?_)⟩
  have kk := S.kk
  match ds, r1, q1 with
  | [.lst l], .cons (v := v) rv _ .nil, q1 =>
    have r' : Rep S.nm G1 v (.lst l) := rv
    cases r' with
    | lst ea ra => exact ⟨_, _, rfl, .inl (.inl (x1.gh _ _ ea)), G1, _, x1, by rw [← kk]; exact gives_rev (.inl (.inl ea)) ra, q1⟩
  | [.scr l], .cons (v := v) rv _ .nil, q1 =>
    have r' : Rep S.nm G1 v (.scr l) := rv
    cases r' with
    | scr ea ra => exact ⟨_, _, rfl, by rw [← kk]; exact Same.seq x1.gh ea, G1, _, x1, by rw [← kk]; exact gives_rev ea ra, q1⟩
/-- enumerate(xs), to two targets -/
def enumD (n : Nat) : List D → List D
  | [] => []
  | d :: ds => .tup [.int n, d] :: enumD (n + 1) ds
theorem enumD_length : ∀ (ds : List D) (n : Nat), (enumD n ds).length = ds.length
  | [], _ => rfl
  | _ :: ds, n => by simp [enumD, enumD_length ds]
theorem enumD_get : ∀ (ds : List D) (n i : Nat) (d : D), ds[i]? = some d → (enumD n ds)[i]? = some (.tup [.int ((n + i : Nat) : Int), d])
  | [], _, _, _, h => by simp at h
  | d :: ds, n, 0, _, h => by simp at h; subst h; simp [enumD]
  | _ :: ds, n, i + 1, d, h => by
    have := enumD_get ds (n + 1) i d (by simpa using h)
    simp only [enumD, List.getElem?_cons_succ, this]
    congr 4
    simp
    omega
theorem gives_enum {nm : Nm} {G : Hp} {a : Addr} {vs : List V} {ds : List D} (hq : SqL nm.K G a vs) (r : Reps nm G vs ds) : Gives nm G (Ite nm.K a) (enumD 0 ds) := by
  refine ⟨vs.length, _, _, by rw [enumD_length, r.length], walk_enum, fun H2 s => Same.seq s hq, fun i x H2 H3 s hi ⟨T, u, v, e1, e2, e3, e4, e5⟩ => ?_⟩
  obtain ⟨d, h1, h2⟩ := r.getV e5
  refine ⟨_, enumD_get ds 0 i d h1, .inr ⟨T, u, v, _, d, e1, e2, e3, rfl, ?_, h2⟩⟩
  cases e4
  rw [Nat.zero_add]
  exact .int _
def iEnumD (t : TDs) : TDI := fun ρ Q => t ρ fun ds => match ds with
  | [.lst l] => Q (enumD 0 l)
  | [.scr l] => Q (enumD 0 l)
  | _ => False
theorem ji_enum {elts : List Expr} {kk : Nat} {tpos : Pos} {t : TDs} {p : Pos} (hg : Gl S.X "enumerate") (hm : S.X.mg "enumerate" = none) (ha : JA' S [a] t) (hs : starEach [a] S.X.env = [(false, eval a S.X.env)] := by rfl) :
    JI S (.Tuple elts kk tpos) (.Call (.Name "enumerate" p) [a] [] pos) (iEnumD t) := by
  refine ⟨fun G H σ ρ Q R h => fun pins s I => (pi_enum hg hm pa_w hs).run pins s σ H _ I ((ha.run G H σ ρ _ R h).mono fun vs H1 ⟨G1, ds, x1, r1, q1⟩ => ?_)⟩
  have kk := S.kk
  match ds, r1, q1 with
  | [.lst l], .cons (v := v) rv _ .nil, q1 =>
    have r' : Rep S.nm G1 v (.lst l) := rv
    cases r' with
    | lst ea ra => exact ⟨_, _, rfl, .inl (.inl (x1.gh _ _ ea)), G1, _, x1, by rw [← kk]; exact gives_enum (.inl (.inl ea)) ra, q1⟩
  | [.scr l], .cons (v := v) rv _ .nil, q1 =>
    have r' : Rep S.nm G1 v (.scr l) := rv
    cases r' with
    | scr ea ra => exact ⟨_, _, rfl, by rw [← kk]; exact Same.seq x1.gh ea, G1, _, x1, by rw [← kk]; exact gives_enum ea ra, q1⟩
/-- zip(xs, ys), to two targets -/
def zipD (l m : List D) : List D := List.zipWith (fun a b => .tup [a, b]) l m
theorem gives_zip {nm : Nm} {G : Hp} {a b : Addr} {vs us : List V} {ds es : List D} (hq : SqL nm.K G a vs) (hq2 : SqL nm.K G b us) (r : Reps nm G vs ds) (r2 : Reps nm G us es) : Gives nm G (Itz nm.K a b) (zipD ds es) := by
  refine ⟨min vs.length us.length, _, _, by simp [zipD, r.length, r2.length], walk_zip rfl, fun H2 s => ⟨Same.seq s hq, Same.seq s hq2⟩, fun i x H2 H3 s hi ⟨T, u, v, e1, e2, e3, e4, e5⟩ => ?_⟩
  obtain ⟨d, h1, h2⟩ := r.getV e4
  obtain ⟨d', h3, h4⟩ := r2.getV e5
  refine ⟨.tup [d, d'], ?_, .inr ⟨T, u, v, d, d', e1, e2, e3, rfl, h2, h4⟩⟩
  unfold zipD
  rw [List.getElem?_zipWith, h1, h3]
def iZipD (t : TDs) : TDI := fun ρ Q => t ρ fun ds => match ds with
  | [.lst l, .lst m] => Q (zipD l m)
  | _ => False
theorem ji_zip {elts : List Expr} {kk : Nat} {tpos : Pos} {t : TDs} {p : Pos} (hg : Gl S.X "zip") (hm : S.X.mg "zip" = none) (ha : JA' S [a, b] t) (hs : starEach [a, b] S.X.env = (false, eval a S.X.env) :: starEach [b] S.X.env := by rfl) (hpl : (backTo pos (starEach [b] S.X.env)).any (·.1) = false := by rfl) :
    JI S (.Tuple elts kk tpos) (.Call (.Name "zip" p) [a, b] [] pos) (iZipD t) := by
  refine ⟨fun G H σ ρ Q R h => fun pins s I => (pi_zip hg hm pa_w hs hpl).run pins s σ H _ I ((ha.run G H σ ρ _ R h).mono fun vs H1 ⟨G1, ds, x1, r1, q1⟩ => ?_)⟩
  have kk := S.kk
  match ds, r1, q1 with
  | [.lst l, .lst m], .cons (v := v) rv _ (.cons (v := v2) rv2 _ .nil), q1 =>
    have r' : Rep S.nm G1 v (.lst l) := rv
    have r2' : Rep S.nm G1 v2 (.lst m) := rv2
    cases r' with
    | lst ea ra =>
      cases r2' with
      | lst eb rb => exact ⟨_, _, _, _, rfl, .inl (.inl (x1.gh _ _ ea)), .inl (.inl (x1.gh _ _ eb)), G1, _, x1, by rw [← kk]; exact gives_zip (.inl (.inl ea)) (.inl (.inl eb)) ra rb, q1⟩

/-! ### [elt for x in xs if ..] -/
abbrev Sit.blk (S : Sit) (s : Shared) (H : Hp) (scope : Scope) (cenv : PySem.Env) (fp : List Addr) : Sit := { S with X := S.X.blk s H scope cenv fp, ex := fun _ _ => False }
def lcR (i : Nat) (tt : TDt) (τ : TD) : List D → Env → (List D → Prop) → Prop
  | [], _, Q => Q []
  | d :: ds, ρ, Q => Nx (fun ρ1 => tt ρ1 fun b => (b = true → τ ρ1 fun y => isBor y = false ∧ lcR i tt τ ds ρ fun ys => Q (frzO y :: ys)) ∧ (b = false → lcR i tt τ ds ρ Q)) (put ρ i (some d))
def eLc (ι : TDI) (i : Nat) (tt : TDt) (τ : TD) : TD := fun ρ Q => ι ρ fun ds => ds.length < sizeLine ∧ lcR i tt τ ds ρ fun ys => Q (.own ys)
def dTrue : TDt := fun _ Q => Q true
structure JTs (S : Sit) (ifs : List Expr) (tt : TDt) : Prop where
  run : ∀ (G H : Hp) (σ : L2.St) (ρ : Env) (Q : Bool → Prop), S.Rel G H σ ρ → tt ρ Q → ∀ (pins : List (Addr × Obj)) (s : Shared), Inv S.X pins σ H s →
    wpAny (model S.X.prog S.X.w) S.X.A (forIn ifs true fun c r => if r = true then do let ok ← isTrue c S.X.env (eval c S.X.env); pure (ForInStep.yield ok) else pure (ForInStep.yield r)) (TP S.X pins σ fun b H' => ∃ G', Ext H G H G' H' ∧ Q b) S.X.xe s
theorem jts_nil : JTs S [] dTrue := ⟨fun G H σ ρ Q R h pins s I => pts_nil.run pins s σ H _ I ⟨G, Ext.refl R.gh, h⟩⟩
theorem jts_one {tt : TDt} (h : JT S c tt) : JTs S [c] tt := ⟨fun G H σ ρ Q R q pins s I => (pts_one pt_w).run pins s σ H _ I (h.run G H σ ρ Q R q)⟩
/-- the block's readings at every block -/
def UE (X : Cx) (scope : Scope) (e : Expr) : TE := fun σ H Q => ∀ (s : Shared) (H0 : Hp) (C : Addr) (cl : List (Str × Addr)) (fp : List Addr), WX (X.blk s H0 scope (compEnvC scope cl C X.env) fp) e σ H Q
def UT (X : Cx) (scope : Scope) (ifs : List Expr) : TT := fun σ H Q => ∀ (s0 : Shared) (H0 : Hp) (C : Addr) (cl : List (Str × Addr)) (fp : List Addr) (pins : List (Addr × Obj)) (s : Shared), Inv (X.blk s0 H0 scope (compEnvC scope cl C X.env) fp) pins σ H s →
    wpAny (model X.prog X.w) X.A (forIn ifs true fun c r => if r = true then do let ok ← isTrue c (compEnvC scope cl C X.env) (eval c (compEnvC scope cl C X.env)); pure (ForInStep.yield ok) else pure (ForInStep.yield r)) (TP (X.blk s0 H0 scope (compEnvC scope cl C X.env) fp) pins σ Q) (fun _ _ => False) s
theorem lc_run {x : Str} {px : Pos} {elt iter : Expr} {ifs : List Expr} {scope : Scope} {i : Nat} {ι : TDI} {tt : TDt} {τ : TD} (hi : JI S (.Name x px) iter ι)
    (ht : ∀ (s : Shared) (H : Hp) (C : Addr) (cl : List (Str × Addr)) (fp : List Addr), JTs (S.blk s H scope (compEnvC scope cl C S.X.env) fp) ifs tt)
    (he : ∀ (s : Shared) (H : Hp) (C : Addr) (cl : List (Str × Addr)) (fp : List Addr), JE (S.blk s H scope (compEnvC scope cl C S.X.env) fp) elt τ)
    {G H : Hp} {σ : L2.St} {ρ : Env} {Q : D → Prop} (R : S.Rel G H σ ρ) (h : eLc ι i tt τ ρ Q) (np : npb S.pp i = true) :
    tLc (WI S.X (.Name x px) iter) (gName i) (UT S.X scope ifs) (UE S.X scope elt) [i] σ H fun v H' => ∃ G' d, Ext H G H G' H' ∧ RepV S.nm H G' H' v d ∧ Q d := by
  refine fun pins s I => thn (hi.run G H σ ρ _ R h pins s I) fun v s1 h1 => thn h1 fun itv s2 h2 => ?_
  obtain ⟨it, fp, tn, J, H2, e1, e2, e3, e4, e5, G1, ds, x1, gv, hz, q⟩ := h2
  refine ⟨it, fp, tn, J, H2, e1, e2, e3, e4, e5, fun L hL => ?_⟩
  obtain ⟨n, Gp, Y, en, wk, hG, hY⟩ := gv
  subst en
  have gL : G1 L = none := x1.gh.free hL
  have bL : H L = none := x1.h.free hL
  -- the list under way stands at L; what is made so far is known in G'
  refine lc_it wk (fun k H' => ∃ (G' : Hp) (acc : List V) (ys : List D), Same G1 G' ∧ Ext H G H G' H' ∧ G' L = none ∧ H' L = some (.lst acc) ∧ Reps S.nm G' acc ys ∧ ys.length ≤ k ∧ k ≤ ds.length ∧ lcR i tt τ (ds.drop k) ρ fun zs => Q (.own (ys ++ zs))) ?_ (fun k H' _ ⟨G', acc, ys, sg, x', _⟩ => hG H' (sg.trans x'.gh)) (fun k x H' H'' hk ⟨G', acc, ys, sg, x', nL, aL, ra, ly, lk, q⟩ y => ?_) fun H' ⟨G', acc, ys, sg, x', nL, aL, ra, ly, lk, q⟩ => ?_
  · exact ⟨G1, [], [], Same.refl G1, x1.trans (Ext.grow x1.gh (same_upd hL)), gL, upd_same, .nil, Nat.le_refl _, Nat.zero_le _, q⟩
  · obtain ⟨d, ed, hd⟩ := hY k x H' H'' (sg.trans x'.gh) hk y
    have e : ds.drop k = d :: ds.drop (k + 1) := by
      rw [List.drop_eq_getElem_cons hk]
      rw [List.getElem?_eq_getElem hk] at ed
      cases ed
      rfl
    rw [e] at q
    have q := Nx.getS (show Nx _ (put _ _ _) from q)
    have R' : S.Rel G' H' σ ρ := R.go x'
    have st : ∃ G3, Ext H' G' H' G3 H'' ∧ RepV S.nm H' G3 H'' x d ∧ isBor d = false := by
      rcases hd with ⟨eh, rx⟩ | ⟨T, a, b, da, db, ex, nT, eh, edt, ra, rb⟩
      · subst eh
        refine ⟨G', Ext.refl x'.gh, .of (Rep.mono sg _ _ rx), ?_⟩
        cases d <;> first | rfl | cases rx
      · subst eh ex edt
        obtain ⟨G3, z1, z2⟩ := new_tup (nm := S.nm) (H0 := H') (Same.refl H') x'.gh nT (.cons (Rep.mono sg _ _ ra) (.cons (Rep.mono sg _ _ rb) .nil))
        exact ⟨G3, z1, z2, rfl⟩
    obtain ⟨G3, x3, r3, nb⟩ := st
    have R3 : S.Rel G3 H'' (σ.set i (some x)) (ρ.set i (some d)) := R'.set i x3 r3 nb np
    have y3 : Ext H G H G3 H'' := x'.trans (Ext.from x'.h x3)
    have L3 : H'' L = some (.lst acc) := x3.h _ _ aL
    have N3 : G3 L = none := x3.new L nL (by rw [aL]; exact fun z => by cases z)
    show wipe ((wipe σ [i]).set i (some x)) [i] = wipe σ [i] ∧ UT S.X scope ifs ((wipe σ [i]).set i (some x)) H'' _
    have es : (wipe σ [i]).set i (some x) = σ.set i (some x) := by
      show (σ.set i none).set i (some x) = _
      rw [List.set_set]
    refine ⟨?_, ?_⟩
    · show ((σ.set i none).set i (some x)).set i none = σ.set i none
      rw [List.set_set, List.set_set]
    · rw [es]
      intro s0 H0 C cl fp' pins' s' I'
      refine thn ((ht s0 H0 C cl fp').run G3 H'' _ _ _ R3 q pins' s' I') fun b s5 ⟨H5, I5, G5, x5, q5⟩ => ⟨H5, I5, ?_⟩
      have y5 : Ext H G H G5 H5 := y3.trans (Ext.from y3.h x5)
      have L5 : H5 L = some (.lst acc) := x5.h _ _ L3
      have N5 : G5 L = none := x5.new L N3 (by rw [L3]; exact fun z => by cases z)
      cases b with
      | false =>
        dsimp only
        rw [if_neg Bool.false_ne_true]
        exact ⟨G5, acc, ys, ((sg.trans x3.g).trans x5.g), y5, N5, L5, (ra.mono x3.g).mono x5.g, Nat.le_trans ly (Nat.le_succ k), hk, q5.2 rfl⟩
      | true =>
        dsimp only
        rw [if_pos rfl]
        intro s6 H6 C6 cl6 fp6
        refine ((he s6 H6 C6 cl6 fp6).run G5 H5 _ _ _ (R3.go x5) (q5.1 rfl)).mono fun yv H7 ⟨G7, dy, x7, r7, nb7, q7⟩ => ?_
        obtain ⟨G8, x8, r8⟩ := r7.freeze x7.gh nb7
        have z8 : Ext H5 G5 H5 G8 H7 := x7.trans x8
        have y8 : Ext H G H G8 H7 := y5.trans (Ext.from y5.h z8)
        have L8 : H7 L = some (.lst acc) := x7.h _ _ L5
        have N8 : G8 L = none := z8.new L N5 (by rw [L5]; exact fun z => by cases z)
        have ra8 := ((ra.mono x3.g).mono x5.g).mono z8.g
        refine ⟨acc, L8, ?_, ?_⟩
        · rw [ra.length]
          omega
        · have ef : frz dy = frzO dy := by
            cases dy <;> first | rfl | cases nb7
          have eq1 : (fun zs => Q (D.own ((ys ++ [frzO dy]) ++ zs))) = fun zs => Q (D.own (ys ++ (frzO dy :: zs))) := by
            funext zs
            rw [List.append_assoc]
            rfl
          refine ⟨G8, acc ++ [yv], ys ++ [frzO dy], ((sg.trans x3.g).trans x5.g).trans z8.g, ⟨y8.g, fun c o ec => ?_, fun c o ec => ?_, y8.new⟩, N8, upd_same, ra8.append (.cons (by rw [← ef]; exact r8) .nil), by simp; omega, hk, ?_⟩
          · rw [upd_ne (ne_of_none ec bL)]
            exact y8.h _ _ ec
          · rw [upd_ne (ne_of_none ec N8)]
            exact y8.gh _ _ ec
          · rw [eq1]
            exact q7
  · rw [List.drop_length] at q
    have q' : Q (.own (ys ++ [])) := q
    rw [List.append_nil] at q'
    exact ⟨G', .own ys, x', ⟨L, acc, rfl, aL, nL, bL, ra⟩, q'⟩
theorem je_lc {x : Str} {px : Pos} {elt iter : Expr} {ifs : List Expr} {scope : Scope} {i : Nat} {ι : TDI} {tt : TDt} {τ : TD} (hc : S.X.calm = true) (hN : S.X.N.Nodup) (hi : JI S (.Name x px) iter ι) (ok : BlkOk S.X.N S.X.env.scope scope [(x, i)])
    (hg : ∀ (s : Shared) (H : Hp) (C : Addr) (cl : List (Str × Addr)) (fp : List Addr), PG (S.X.blk s H scope (compEnvC scope cl C S.X.env) fp) (.Name x px) (gName i))
    (ht : ∀ (s : Shared) (H : Hp) (C : Addr) (cl : List (Str × Addr)) (fp : List Addr), JTs (S.blk s H scope (compEnvC scope cl C S.X.env) fp) ifs tt)
    (he : ∀ (s : Shared) (H : Hp) (C : Addr) (cl : List (Str × Addr)) (fp : List Addr), JE (S.blk s H scope (compEnvC scope cl C S.X.env) fp) elt τ) (hs : ∀ x, foldedSetIterable iter S.X.env x = pure x := by intro _; rfl) (np : npb S.pp i = true := by rfl) :
    JE S (.ListComp elt [⟨.Name x px, iter, ifs, 0⟩] scope pos) (eLc ι i tt τ) := by
  refine ⟨fun G H σ ρ Q R h => WX.of (pe_lc (own := [(x, i)]) (tt := UT S.X scope ifs) (te := UE S.X scope elt) hc hN pi_w ok hg (fun s H C cl fp => ⟨fun pins s' σ H Q I h => h s _ C cl fp pins s' I⟩) (fun s H C cl fp => ⟨fun pins s' σ H Q I h => h s _ C cl fp pins s' I⟩) hs) (lc_run hi ht he R h np)⟩
theorem tLc_mono {tg iter : Expr} {g : TG} {tt : TT} {te : TE} {vs : List Nat} {σ : L2.St} {H : Hp} {Q Q' : VK} (h : tLc (WI S.X tg iter) g tt te vs σ H Q) (m : ∀ v H', Q v H' → Q' v H') : tLc (WI S.X tg iter) g tt te vs σ H Q' := by
  refine fun pins s I => thn (h pins s I) fun v s1 h1 => thn h1 fun itv s2 h2 => ?_
  obtain ⟨it, fp, tn, J, H2, e1, e2, e3, e4, e5, q⟩ := h2
  refine ⟨it, fp, tn, J, H2, e1, e2, e3, e4, e5, fun L hL => ?_⟩
  obtain ⟨W, w0, turn⟩ := q L hL
  refine ⟨W, w0, fun i n H hw => ?_⟩
  rcases turn i n H hw with ⟨a, b⟩ | z
  · exact .inl ⟨a, m _ _ b⟩
  · exact .inr z
/-- y = [..] on one line -/
theorem js_setLc {j : Nat} {y : Str} {py : Pos} {spos : Pos} {x : Str} {px : Pos} {elt iter : Expr} {ifs : List Expr} {scope : Scope} {i : Nat} {ι : TDI} {tt : TDt} {τ : TD} (hc : S.X.calm = true) (hN : S.X.N.Nodup) (hy : S.X.N[j]? = some y) (hyl : S.X.env.scope.names.lookup y = some .local)
    (hsw : swapsWith (.ListComp elt [⟨.Name x px, iter, ifs, 0⟩] scope pos) (some (.Name y py)) spos.line S.X.env = pure true) (hi : JI S (.Name x px) iter ι) (ok : BlkOk S.X.N S.X.env.scope scope [(x, i)])
    (hg : ∀ (s : Shared) (H : Hp) (C : Addr) (cl : List (Str × Addr)) (fp : List Addr), PG (S.X.blk s H scope (compEnvC scope cl C S.X.env) fp) (.Name x px) (gName i))
    (ht : ∀ (s : Shared) (H : Hp) (C : Addr) (cl : List (Str × Addr)) (fp : List Addr), JTs (S.blk s H scope (compEnvC scope cl C S.X.env) fp) ifs tt)
    (he : ∀ (s : Shared) (H : Hp) (C : Addr) (cl : List (Str × Addr)) (fp : List Addr), JE (S.blk s H scope (compEnvC scope cl C S.X.env) fp) elt τ) (hs : ∀ x, foldedSetIterable iter S.X.env x = pure x := by intro _; rfl) (np : npb S.pp i = true := by rfl) (np2 : npb S.pp j = true := by rfl) :
    JS S (.Assign [.Name y py] (.ListComp elt [⟨.Name x px, iter, ifs, 0⟩] scope pos) spos) (dSet j (eLc ι i tt τ)) := by
  refine ⟨fun G H σ ρ E R h => WS.of (ps_setLc (own := [(x, i)]) (tt := UT S.X scope ifs) (te := UE S.X scope elt) hc hN hy hyl hsw pi_w ok hg (fun s H C cl fp => ⟨fun pins s' σ H Q I h => h s _ C cl fp pins s' I⟩) (fun s H C cl fp => ⟨fun pins s' σ H Q I h => h s _ C cl fp pins s' I⟩) hs) ?_⟩
  have q := lc_run hi ht he (Q := fun d => isBor d = false ∧ Nx E.nx (put ρ j (some d))) R h np
  refine tLc_mono q fun v H1 ⟨G1, d, x1, r1, nb, q1⟩ => ?_
  exact ⟨G1, _, R.set j x1 r1 nb np2, x1.g, q1.getS⟩
end
end DD

set_option Elab.async false
set_option linter.all false
set_option maxRecDepth 100000
set_option maxHeartbeats 1000000
namespace DD
open PySem PySem.Spec PyProof.Rows L2
section
variable {S : Sit} {a b c e : Expr} {es : List Expr} {pos : Pos} {τa τb τc : TD} {st : Stmt} {sts : List Stmt} {t u : TDS}

/-! ### built-ins -/
theorem RepA.one {nm : Nm} {G H : Hp} {vs : List V} {d : D} (r : RepA nm G H vs [d]) : ∃ v, vs = [v] ∧ RepV nm H G H v d ∧ isOwn d = false := by
  match r with
  | .cons r n .nil => exact ⟨_, rfl, r, n⟩
def cLen : RDs := fun ds Q => match ds with
  | [d] => match d with
    | .str z => z.length ≤ sizeLine ∧ Q (.int z.length)
    | .tup l => Q (.int l.length)
    | d => match seqD d with
      | some l => Q (.int l.length)
      | none => False
  | _ => False
theorem k_len : DCall S (.builtin "len") cLen := .of fun H0 G H xs ds Q s0 gh r h => by
  match ds, r, h with
  | [d], r, h =>
    obtain ⟨v, rfl, rv, _⟩ := r.one
    have kk := S.kk
    have main : ∀ l, DD.seqD d = some l → Q (.int l.length) → ∃ r', CallR S.X (.builtin "len") r' ∧ r' [v] H fun z H' => ∃ G' d', Ext H0 G H G' H' ∧ RepV S.nm H0 G' H' z d' ∧ Q d' := fun l el hq => by
      obtain ⟨p, vs, rfl, hp, ra⟩ := rv.seqD gh el
      exact ⟨_, call_len_seq, p, vs, rfl, .inl (by rw [← kk]; exact hp), G, _, Ext.refl gh, .of (.int _), by rw [ra.length]; exact hq⟩
    cases d with
    | str z =>
      cases repV_str rv
      exact ⟨_, call_len_str, z, rfl, h.1, G, _, Ext.refl gh, .of (.int _), h.2⟩
    | tup l =>
      have r' : Rep S.nm G v (.tup l) := rv
      cases r' with
      | tup ea ra => exact ⟨_, call_len_seq, _, _, rfl, .inr (.inl (.inl (gh _ _ ea))), G, _, Ext.refl gh, .of (.int _), by rw [ra.length]; exact h⟩
    | lst l => exact main l rfl h
    | own l => exact main l rfl h
    | bor l => exact main l rfl h
    | scr l => exact main l rfl h
    | _ => exact (show False from h).elim
def cAbs : RDs := fun ds Q => match ds with
  | [.int i] => Q (.int (if i < 0 then -i else i))
  | _ => False
theorem k_abs : DCall S (.builtin "abs") cAbs := .of fun H0 G H xs ds Q s0 gh r h => by
  match ds, r, h with
  | [.int i], r, h =>
    cases repA_int1 r
    exact ⟨_, call_abs, i, rfl, G, _, Ext.refl gh, .of (.int _), h⟩
def cMax : RDs := fun ds Q => match ds with
  | [.int i, .int j] => Q (.int (if j > i then j else i))
  | _ => False
theorem k_max (hc : S.X.calm = true) : DCall S (.builtin "max") cMax := .of fun H0 G H xs ds Q s0 gh r h => by
  match ds, r, h with
  | [.int i, .int j], r, h =>
    cases repA_int2 r
    exact ⟨_, call_max2 hc, i, j, rfl, G, _, Ext.refl gh, .of (.int _), h⟩
def cMin : RDs := fun ds Q => match ds with
  | [.int i, .int j] => Q (.int (if j < i then j else i))
  | _ => False
theorem k_min (hc : S.X.calm = true) : DCall S (.builtin "min") cMin := .of fun H0 G H xs ds Q s0 gh r h => by
  match ds, r, h with
  | [.int i, .int j], r, h =>
    cases repA_int2 r
    exact ⟨_, call_min2 hc, i, j, rfl, G, _, Ext.refl gh, .of (.int _), h⟩
def cDivmod : RDs := fun ds Q => match ds with
  | [.int i, .int j] => CDivP i j ∧ Q (.tup [.int (i / j), .int (i % j)])
  | _ => False
theorem k_divmod : DCall S (.builtin "divmod") cDivmod := .of fun H0 G H xs ds Q s0 gh r h => by
  match ds, r, h with
  | [.int i, .int j], r, h =>
    cases repA_int2 r
    refine ⟨_, call_divmodW, i, j, rfl, h.1, fun p hp => ?_⟩
    obtain ⟨G', x1, x2⟩ := new_tup (nm := S.nm) s0 gh hp (.cons (.int (i / j)) (.cons (.int (i % j)) .nil))
    exact ⟨G', _, x1, x2, h.2⟩
def cList : RDs := fun ds Q => match ds with
  | [d] => match d with
    | .tup l => Q (.own l)
    | d => match seqD d with
      | some l => Q (.own l)
      | none => False
  | _ => False
theorem k_list : DCall S (.type "list") cList := .of fun H0 G H xs ds Q s0 gh r h => by
  match ds, r, h with
  | [d], r, h =>
    obtain ⟨v, rfl, rv, _⟩ := r.one
    have kk := S.kk
    have main : ∀ l, DD.seqD d = some l → Q (.own l) → ∃ r', CallR S.X (.type "list") r' ∧ r' [v] H fun z H' => ∃ G' d', Ext H0 G H G' H' ∧ RepV S.nm H0 G' H' z d' ∧ Q d' := fun l el hq => by
      obtain ⟨p, vs, rfl, hp, ra⟩ := rv.seqD gh el
      refine ⟨_, call_list_of, p, vs, rfl, .inl (by rw [← kk]; exact hp), fun q hq' => ?_⟩
      obtain ⟨z1, z2⟩ := new_own s0 gh hq' ra
      exact ⟨G, _, z1, z2, hq⟩
    cases d with
    | tup l =>
      have r' : Rep S.nm G v (.tup l) := rv
      cases r' with
      | tup ea ra =>
        refine ⟨_, call_list_of, _, _, rfl, .inr (.inl (.inl (gh _ _ ea))), fun q hq' => ?_⟩
        obtain ⟨z1, z2⟩ := new_own s0 gh hq' ra
        exact ⟨G, _, z1, z2, h⟩
    | lst l => exact main l rfl h
    | own l => exact main l rfl h
    | bor l => exact main l rfl h
    | scr l => exact main l rfl h
    | _ => exact (show False from h).elim
/-- a row of ints, of truths -/
def intsD (ns : List Int) : List D := ns.map D.int
def blsD (bs : List Bool) : List D := bs.map D.bl
theorem reps_ints {nm : Nm} {G : Hp} : ∀ {ns : List Int} {vs : List V}, Reps nm G vs (intsD ns) → vs = ns.map V.int
  | [], _, .nil => rfl
  | n :: ns, _, .cons r q => by
    cases r
    rw [reps_ints q]
    rfl
theorem ints_reps {nm : Nm} {G : Hp} : ∀ {ns : List Int}, Reps nm G (ns.map V.int) (intsD ns)
  | [] => .nil
  | n :: ns => .cons (.int n) ints_reps
theorem reps_bls {nm : Nm} {G : Hp} : ∀ {ns : List Bool} {vs : List V}, Reps nm G vs (blsD ns) → vs = ns.map V.bl
  | [], _, .nil => rfl
  | n :: ns, _, .cons r q => by
    cases r
    rw [reps_bls q]
    rfl
def cSum : RDs := fun ds Q => ∃ ns : List Int, (ds = [.lst (intsD ns)] ∨ ds = [.bor (intsD ns)]) ∧ Q (.int ns.sum)
theorem k_sum (hc : S.X.calm = true) : DCall S (.builtin "sum") cSum := .of fun H0 G H xs ds Q s0 gh r h => by
  obtain ⟨ns, e, h⟩ := h
  have kk := S.kk
  have ex : ∃ d, ds = [d] ∧ DD.seqD d = some (intsD ns) := by rcases e with e | e <;> exact ⟨_, e, rfl⟩
  obtain ⟨d, rfl, ed⟩ := ex
  obtain ⟨v, rfl, rv, _⟩ := r.one
  obtain ⟨p, vs, rfl, hp, ra⟩ := rv.seqD gh ed
  refine ⟨_, cr_sum hc, p, ns, rfl, ?_, G, _, Ext.refl gh, .of (.int _), h⟩
  rw [← kk, ← reps_ints ra]
  exact hp
def cAny : RDs := fun ds Q => ∃ ns : List Bool, (ds = [.lst (blsD ns)] ∨ ds = [.bor (blsD ns)]) ∧ Q (.bl (ns.any id))
theorem k_any (hc : S.X.calm = true) : DCall S (.builtin "any") cAny := .of fun H0 G H xs ds Q s0 gh r h => by
  obtain ⟨ns, e, h⟩ := h
  have kk := S.kk
  have ex : ∃ d, ds = [d] ∧ DD.seqD d = some (blsD ns) := by rcases e with e | e <;> exact ⟨_, e, rfl⟩
  obtain ⟨d, rfl, ed⟩ := ex
  obtain ⟨v, rfl, rv, _⟩ := r.one
  obtain ⟨p, vs, rfl, hp, ra⟩ := rv.seqD gh ed
  refine ⟨_, cr_any hc, p, ns, rfl, ?_, G, _, Ext.refl gh, .of (.bl _), h⟩
  rw [← kk, ← reps_bls ra]
  exact hp
def cStr : RDs := fun ds Q => match ds with
  | [.int i] => i.natAbs.log2 < 1920 ∧ Q (.str (toString i))
  | _ => False
theorem k_str : DCall S (.type "str") cStr := .of fun H0 G H xs ds Q s0 gh r h => by
  match ds, r, h with
  | [.int i], r, h =>
    cases repA_int1 r
    exact ⟨_, call_str_int, i, rfl, h.1, G, _, Ext.refl gh, .of (.str _), h.2⟩
def cInt : RDs := fun ds Q => match ds with
  | [.str z] => ∃ n, PySem.intText? z = some n ∧ z.length ≤ 640 ∧ Q (.int n)
  | _ => False
theorem k_int : DCall S (.type "int") cInt := .of fun H0 G H xs ds Q s0 gh r h => by
  match ds, r, h with
  | [.str z], r, h =>
    obtain ⟨v, rfl, rv, _⟩ := r.one
    cases repV_str rv
    obtain ⟨n, h1, h2, h⟩ := h
    exact ⟨_, call_int_str, z, n, rfl, h1, h2, G, _, Ext.refl gh, .of (.int _), h⟩

/-! ### isinstance -/
inductive Bt where
  | tup | int | bl | lst | str | ve
def Bt.nm : Bt → String
  | .tup => "tuple"
  | .int => "int"
  | .bl => "bool"
  | .lst => "list"
  | .str => "str"
  | .ve => "ValueError"
/-- a class by name: a built-in type, one of the text's -/
inductive Cn where
  | ty (T : Bt)
  | own (C : Str)
def Cn.v (nm : Nm) : Cn → V
  | .ty T => .ty T.nm
  | .own C => .ref (nm.ad C)
def Cn.val (nm : Nm) : Cn → Value
  | .ty T => .type T.nm
  | .own C => .ref (nm.ad C)
/-- what a class of the text must say for isinstance of its instances -/
structure InsTy (K : PySem.W.Frag) (C : Addr) : Prop where
  cl : Cls K C
  ha : PySem.W.findIn K (.ref C) "__class__" = some (some (.builtin "object.__class__"))
  hn : PySem.W.specialIn K (.builtin "object.__class__") "__get__" = some (some (.builtin "getset_descriptor.__get__"))
  ht : PySem.W.takesIn K (.builtin "object.__class__") = some true
  hm : PySem.W.mroIn K C (.type "object") = some true
def tyD : D → Option String
  | .non => some "NoneType"
  | .bl _ => some "bool"
  | .int _ => some "int"
  | .str _ => some "str"
  | .tup _ => some "tuple"
  | .lst _ => some "list"
  | .own _ => some "list"
  | .bor _ => some "list"
  | .scr _ => some "list"
  | .ins _ _ _ => none
  | .exc _ => none
  | .dct _ _ => none
def isB : D → Bt → Bool
  | .tup _, .tup => true
  | .int _, .int => true
  | .bl _, .int => true
  | .bl _, .bl => true
  | .lst _, .lst => true
  | .own _, .lst => true
  | .bor _, .lst => true
  | .scr _, .lst => true
  | .str _, .str => true
  | _, _ => false
theorem isB_kit {d : D} {T : String} {b : Bt} (h : tyD d = some T) : kitB T b.nm = some (isB d b) := by
  cases d <;> cases h <;> cases b <;> first | (show kitB _ (Bt.nm _) = some true; decide +kernel) | (show kitB _ (Bt.nm _) = some false; decide +kernel)
def rIsiT (Γ : Gm) (n : Cn) (d : D) (Q : D → Prop) : Prop := match n with
  | .ty T2 => Q (.bl (isB d T2))
  | .own C => ∃ T b, tyD d = some T ∧ PySem.W.kitOne Γ.K (.type T) (.ref (Γ.nm.ad C)) = some b ∧ Q (.bl b)
def rIsiD (Γ : Gm) (n : Cn) (d : D) (Q : D → Prop) : Prop := match d with
  | .ins C _ _ => InsTy Γ.K (Γ.nm.ad C) ∧ ∃ b, PySem.W.kitOne Γ.K (.ref (Γ.nm.ad C)) (n.val Γ.nm) = some b ∧ Q (.bl b)
  | .exc C => ExcC Γ.K (Γ.nm.ad C) ∧ ∃ b, PySem.W.kitOne Γ.K (.ref (Γ.nm.ad C)) (n.val Γ.nm) = some b ∧ Q (.bl b)
  | .dct _ _ => False
  | d => rIsiT Γ n d Q
theorem isi_ty {H0 G H : Hp} {v : V} {d : D} {T : String} (gh : Same G H) (r : RepV S.nm H0 G H v d) (e : tyD d = some T) : TyX S.X.K H v (.type T) := by
  have kk := S.kk
  cases d with
  | non => cases e; cases repV_non r; exact .base .non
  | bl x => cases e; cases repV_bl r; exact .base (.bl x)
  | int x => cases e; cases repV_int r; exact .base (.int x)
  | str x => cases e; cases repV_str r; exact .base (.str x)
  | tup l =>
    cases e
    have r' : Rep S.nm G v (.tup l) := r
    cases r' with
    | tup ea ra => exact .base (.tup (gh _ _ ea))
  | lst l =>
    cases e
    have r' : Rep S.nm G v (.lst l) := r
    cases r' with
    | lst ea ra => exact .base (.lst (gh _ _ ea))
  | scr l =>
    cases e
    have r' : Rep S.nm G v (.scr l) := r
    cases r' with
    | scr ea ra =>
      rcases Same.seq gh ea with (h | ⟨o, h⟩) | ⟨o, its, n, h, hc, _⟩
      · exact .base (.lst h)
      · exact .base (.frz h)
      · rw [kk] at h
        exact .kList h hc
  | own l =>
    cases e
    obtain ⟨p, vs, rfl, h1, _⟩ := r
    exact .base (.lst h1)
  | bor l =>
    cases e
    obtain ⟨p, vs, rfl, h1, _⟩ := r
    exact .base (.lst h1)
  | _ => cases e
def eIsi (Γ : Gm) (n : Cn) (τ : TD) : TD := fun ρ Q => τ ρ fun d => rIsiD Γ n d Q
theorem call_isiX {X : Cx} {C : Addr} (hC : ExcC X.K C) : CallR X (.builtin "isinstance") (fun xs H Q => ∃ (a : Addr) (c : V) (cv : Value) (b : Bool), xs = [.ref a, c] ∧ (∀ u, RelV c u → u = cv) ∧ H a = some (XO C a) ∧ PySem.W.kitOne X.K (.ref C) cv = some b ∧ Q (.bl b) H) := by
  intro pins s σ H xs us Q I r h
  obtain ⟨a, c, cv, b, rfl, hcv, ha, e, q⟩ := h
  cases r with
  | cons rx rr =>
    cases rr with
    | cons rt rr =>
      cases rr
      cases rx
      have ec := hcv _ rt
      subst ec
      obtain ⟨⟨oe, vs, hget, hz, hv⟩, _, _⟩ := I.hok a _ ha
      have J : PySem.W.InstAt s.heap a oe C none := by
        obtain ⟨oc, od, oda, osl⟩ := oe
        obtain ⟨h1, h2⟩ := hz
        dsimp only at h1 h2 hv
        subst h1 h2 hv
        exact ⟨hget, rfl, rfl, trivial⟩
      exact PySem.W.kia_one (PySem.W.handS_kitx_exc hC.hg hC.hk hC.hs hC.hd hC.ha hC.hn hC.ht hC.hm) I.kIn J e (fun z => nomatch z) fun tk => ⟨.bl b, H, I.kept (t' := tk) fun _ _ z => z, rfl, q⟩
theorem je_isi (Γ : Gm) (n : Cn) {x : Str} {p p2 : Pos} (hg : Gl S.X "isinstance") (hm : S.X.mg "isinstance" = none) (ha : JE S a τa) (hn : PE S.X (.Name x p2) (tC (n.v S.nm))) (hs : starEach [a, .Name x p2] S.X.env = (false, eval a S.X.env) :: starEach [.Name x p2] S.X.env := by rfl)
    (hs2 : starEach [.Name x p2] S.X.env = (false, eval (.Name x p2) S.X.env) :: starEach [] S.X.env := by rfl)
    (hpl : (backTo pos (starEach [.Name x p2] S.X.env)).any (·.1) = false := by rfl) (hG : S.gm = Γ := by rfl) : JE S (.Call (.Name "isinstance" p) [a, .Name x p2] [] pos) (eIsi Γ n τa) := by
  subst hG
  refine ⟨fun G H σ ρ Q R h => WX.of (pe_callB (id := "isinstance") call_sem hg hm (by decide +kernel) (pa_cons pe_w (pa_cons hn pa_nil hs2) hs) (by decide) (by decide) hs hpl) ?_⟩
  refine (ha.run G H σ ρ _ R h).mono fun v H1 ⟨G1, d, x1, r1, q1⟩ => ?_
  intro pins s σ' us I rv
  have kk := S.kk
  have cu : ∀ u, RelV (n.v S.nm) u → u = n.val S.nm := fun u r => by cases n <;> exact r
  have cv : ClsV (n.v S.nm) (n.val S.nm) := by
    cases n with
    | ty T => exact .ty _
    | own C => exact .own _
  have main : ∀ T, tyD d = some T → rIsiT S.gm n d Q → wpAny (model S.X.prog S.X.w) S.X.A (call (.builtin "isinstance") us) (EP S.X pins σ' fun v H' => ∃ G' d, Ext H G H G' H' ∧ RepV S.nm H G' H' v d ∧ Q d) S.X.xe s := fun T eT q1 => by
    have ty := isi_ty x1.gh r1 eT
    cases n with
    | ty T2 =>
      exact call_isi pins s σ' H1 _ us _ I rv ⟨v, _, _, _, _, rfl, cv, ty, kit_ty (isB_kit eT), G1, _, x1, .of (.bl _), q1⟩
    | own C =>
      obtain ⟨T', b, eT', eb, q1⟩ := q1
      rw [eT] at eT'
      cases eT'
      exact call_isi pins s σ' H1 _ us _ I rv ⟨v, _, _, _, b, rfl, cv, ty, eb, G1, _, x1, .of (.bl b), q1⟩
  cases d with
  | ins C ns fs =>
    obtain ⟨hC, b, eb, q1⟩ := q1
    have r' : Rep S.nm G1 v (.ins C ns fs) := r1
    cases r' with
    | ins ea ra =>
      exact call_isi pins s σ' H1 _ us _ I rv ⟨_, _, _, _, b, rfl, cv, .base (.ins (x1.gh _ _ ea) hC.cl hC.ha hC.hn hC.ht hC.hm), eb, G1, _, x1, .of (.bl b), q1⟩
  | exc C =>
    obtain ⟨hC, b, eb, q1⟩ := q1
    have r' : Rep S.nm G1 v (.exc C) := r1
    cases r' with
    | exc ea =>
      exact call_isiX hC pins s σ' H1 _ us _ I rv ⟨_, _, _, b, rfl, cu, x1.gh _ _ ea, eb, G1, _, x1, .of (.bl b), q1⟩
  | dct _ _ => exact q1.elim
  | _ => exact main _ rfl q1
theorem pn_ty {T : Bt} {x : Str} {p : Pos} (hg : Gl S.X x) (hm : S.X.mg x = none) (hv : bootBuiltins x = some (.type T.nm)) (hn : x ≠ "__name__" := by decide) (hd : (x == ("__debug__" : Str)) = false := by decide) : PE S.X (.Name x p) (tC ((Cn.ty T).v S.nm)) := pe_bltn hg hm hv rfl hn hd
theorem pn_own {x : Str} {p : Pos} (C : Str) (hg : Gl S.X x) (hm : S.X.mg x = some (.ref (S.nm.ad C))) (hd : (x == ("__debug__" : Str)) = false := by decide) : PE S.X (.Name x p) (tC ((Cn.own C).v S.nm)) := pe_glob hg hm rfl hd

/-! ### raise X("..") -/
/-- a class of one's own whose instances may be raised -/
structure ExK (Γ : Gm) (C : Str) : Prop where
  q : ∃ bm : List Value, bm = [.type "ValueError", .type "Exception", .type "BaseException", .type "object"] ∧ PySem.W.excIn Γ.K (Γ.nm.ad C) bm "ValueError.__new__" = true
  g : Γ.mg C = some (.ref (Γ.nm.ad C))
  k : PySem.W.keepIn Γ.K (.ref (Γ.nm.ad C)) = true
  b : PySem.W.subIn Γ.K (.ref (Γ.nm.ad C)) (.type "BaseException") = some true
  t : PySem.W.typeIn Γ.K (.ref (Γ.nm.ad C)) = some (.type "type")
theorem js_raise {Γ : Gm} {C m : Str} {j : Nat} {p p2 pos' : Pos} (jx : JX S) (hk : ExK Γ C) (hc : S.X.calm = true) (hg : Gl S.X C) (hdb : (C == ("__debug__" : Str)) = false := by decide) (hG : S.gm = Γ := by rfl) :
    JS S (.Raise (some (.Call (.Name C p) [.Constant (.str m) j p2] [] pos')) none pos) (fun _ ρ => S.ex C ρ) := by
  subst hG
  obtain ⟨W, tk, hW⟩ := jx
  obtain ⟨bm, rfl, q⟩ := hk.q
  exact ⟨fun G H σ ρ E R h => WS.of (ps_raise hc tk (pmk_own PySem.F.excBase_ValueError q hk.g hk.k (raises_own hk.b hk.t) hg hdb)) (hW G H σ ρ C R h)⟩
end
end DD

set_option Elab.async false
set_option linter.all false
set_option maxRecDepth 100000
set_option maxHeartbeats 1000000
namespace DD
inductive Num where
  | i (n : Int)
  | p (x y : Int)
def Num.isP : Num → Bool
  | .i _ => false
  | .p _ _ => true
def Num.x : Num → Int
  | .i n => n
  | .p x _ => x
def Num.y : Num → Int
  | .i _ => 0
  | .p _ y => y
def Num.add : Num → Num → Num
  | .i a, .i b => .i (a + b)
  | a, b => .p (a.x + b.x) (a.y + b.y)
def Num.mul : Num → Num → Num
  | .i a, .i b => .i (a * b)
  | a, b => .p (a.x * b.x - a.y * b.y) (a.x * b.y + a.y * b.x)
def Num.lt (a : Num) (n : Nat) : Prop := a.x.natAbs < 2 ^ n ∧ a.y.natAbs < 2 ^ n
theorem Num.mul_comm (a b : Num) : a.mul b = b.mul a := by
  cases a <;> cases b <;> simp [Num.mul, Num.x, Num.y, Int.mul_comm, Int.add_comm]
theorem Num.mul_add (a b c : Num) : a.mul (b.add c) = (a.mul b).add (a.mul c) := by
  cases a <;> cases b <;> cases c <;> simp [Num.mul, Num.add, Num.x, Num.y, Int.mul_add] <;> omega

inductive WayM where
  | plain (b : Int) | below (b : Int) | bal (h : Int) | grow (f : Int) | fall (m : Int) | pairs (m : Int)
namespace WayM
def v : WayM → Int
  | .plain b => b | .below b => b | .bal h => h | .grow f => f | .fall m => m | .pairs m => m
def ok : WayM → Prop
  | .plain b => 2 ≤ b ∧ b ≤ 60 | .below b => 2 ≤ b ∧ b ≤ 60 | .bal h => 1 ≤ h ∧ h ≤ 30 | .grow f => 2 ≤ f ∧ f ≤ 60 | .fall m => 1 ≤ m ∧ m ≤ 9 | .pairs m => 1 ≤ m ∧ m ≤ 9
theorem vb {w : WayM} (h : w.ok) : 1 ≤ w.v ∧ w.v ≤ 60 := by cases w <;> simp only [ok, v] at * <;> omega
def low (w : WayM) (_ : Int) : Int := match w with
  | .bal h => 0 - h
  | _ => 0
def high (w : WayM) (k : Int) : Int := match w with
  | .plain b => b - 1 | .below b => b - 1 | .bal h => h | .grow f => f + k - 1 | .fall m => m | .pairs m => m * m
/-- none for Falling -/
def ratio (w : WayM) (k : Int) : Num := match w with
  | .plain b => .i b | .below b => .i (0 - b) | .bal h => .i (2 * h + 1) | .grow f => .i (f + k) | .fall _ => .i 0 | .pairs m => .p (0 - m) 1
def hasRatio : WayM → Bool
  | .fall _ => false
  | _ => true
def isPairs : WayM → Bool
  | .pairs _ => true
  | _ => false
def isFall : WayM → Bool
  | .fall _ => true
  | _ => false
/-- the numbers that a way has -/
def has (w : WayM) (a : Num) : Bool := match w with
  | .pairs _ => a.isP
  | .below _ => !a.isP
  | .bal _ => !a.isP
  | _ => !a.isP && decide (0 ≤ a.x)
/-- Falling's weights: of this place and of the one beneath (1 beneath 0) -/
def fallW (m : Int) : Nat → Int × Int
  | 0 => (1, 1)
  | k + 1 => (m * (fallW m k).1 + (fallW m k).2, (fallW m k).1)
def weight (w : WayM) : Nat → Num
  | 0 => match w with
    | .pairs _ => .p 1 0
    | _ => .i 1
  | k + 1 => match w with
    | .fall m => .i (fallW m (k + 1)).1
    | _ => (weight w k).mul (w.ratio k)
theorem weight_fall (m : Int) (k : Nat) : (WayM.fall m).weight k = .i (fallW m k).1 := by cases k <;> rfl
/-- no weight up to place k is longer than 9 k bits -/
def nought (w : WayM) : Num := match w with
  | .pairs _ => .p 0 0
  | _ => .i 0
end WayM
/-! ### numbers' size -/
theorem pow_add_le {a b c : Nat} (h : a + b ≤ c) {x y : Nat} (hx : x < 2 ^ a) (hy : y < 2 ^ b) : x * y < 2 ^ c :=
  Nat.lt_of_lt_of_le (Nat.mul_lt_mul'' hx hy) (by rw [← Nat.pow_add]; exact Nat.pow_le_pow_right (by decide) h)
theorem Num.lt_mono {a : Num} {m n : Nat} (h : a.lt m) (l : m ≤ n) : a.lt n := ⟨Nat.lt_of_lt_of_le h.1 (Nat.pow_le_pow_right (by decide) l), Nat.lt_of_lt_of_le h.2 (Nat.pow_le_pow_right (by decide) l)⟩
theorem Num.lt_mul {a b : Num} {m n : Nat} (ha : a.lt m) (hb : b.lt n) : (a.mul b).lt (m + n + 1) := by
  have p : ∀ x y : Int, x.natAbs < 2 ^ m → y.natAbs < 2 ^ n → (x * y).natAbs < 2 ^ (m + n) := fun x y hx hy => by
    rw [Int.natAbs_mul]
    exact pow_add_le (Nat.le_refl _) hx hy
  have e : 2 ^ (m + n + 1) = 2 ^ (m + n) + 2 ^ (m + n) := by rw [Nat.pow_succ]; omega
  have q0 : 0 < 2 ^ (m + n) := Nat.pow_pos (by decide)
  have h1 := p a.x b.x ha.1 hb.1
  have h2 := p a.y b.y ha.2 hb.2
  have h3 := p a.x b.y ha.1 hb.2
  have h4 := p a.y b.x ha.2 hb.1
  cases a <;> cases b <;> simp only [Num.mul, Num.lt, Num.x, Num.y] at * <;> rw [e] <;> constructor <;> (try simp only [Int.natAbs_zero]) <;> omega
theorem Num.lt_add {a b : Num} {n : Nat} (ha : a.lt n) (hb : b.lt n) : (a.add b).lt (n + 1) := by
  have e : 2 ^ (n + 1) = 2 ^ n + 2 ^ n := by rw [Nat.pow_succ]; omega
  have q0 : 0 < 2 ^ n := Nat.pow_pos (by decide)
  obtain ⟨h1, h2⟩ := ha
  obtain ⟨h3, h4⟩ := hb
  cases a <;> cases b <;> simp only [Num.add, Num.lt, Num.x, Num.y] at * <;> rw [e] <;> constructor <;> (try simp only [Int.natAbs_zero]) <;> omega
namespace WayM
theorem ratio_lt {w : WayM} (h : w.ok) {k : Nat} (hk : k ≤ 20000) : (w.ratio k).lt 16 := by
  cases w <;> simp only [ok, ratio, Num.lt, Num.x, Num.y] at * <;> constructor <;> omega
theorem fallW_lt {m : Int} (h : 1 ≤ m ∧ m ≤ 9) : ∀ k : Nat, 1 ≤ (fallW m k).1 ∧ 1 ≤ (fallW m k).2 ∧ (fallW m k).1 < 16 ^ (k + 1) ∧ (fallW m k).2 ≤ (fallW m k).1
  | 0 => ⟨Int.le_refl _, Int.le_refl _, by show (1 : Int) < 16; decide, Int.le_refl _⟩
  | k + 1 => by
    obtain ⟨h1, h2, h3, h4⟩ := fallW_lt h k
    have e : (16 : Int) ^ (k + 1 + 1) = 16 ^ (k + 1) * 16 := Int.pow_succ ..
    have a1 : (fallW m k).1 ≤ m * (fallW m k).1 := by
      have := Int.mul_le_mul_of_nonneg_right h.1 (show 0 ≤ (fallW m k).1 by omega)
      omega
    have a2 : m * (fallW m k).1 ≤ 9 * (fallW m k).1 := Int.mul_le_mul_of_nonneg_right h.2 (by omega)
    refine ⟨?_, h1, ?_, ?_⟩
    · show 1 ≤ m * (fallW m k).1 + (fallW m k).2
      omega
    · show m * (fallW m k).1 + (fallW m k).2 < 16 ^ (k + 1 + 1)
      omega
    · show (fallW m k).1 ≤ m * (fallW m k).1 + (fallW m k).2
      omega
theorem weight_lt {w : WayM} (h : w.ok) : ∀ k : Nat, k ≤ 20000 → (w.weight k).lt (17 * k + 4)
  | 0, _ => by cases w <;> simp [weight, Num.lt, Num.x, Num.y]
  | k + 1, hk => by
    have ih := weight_lt h k (by omega)
    have r := ratio_lt h (k := k) (by omega)
    by_cases hf : w.isFall = true
    · cases w with
      | fall m =>
        have z := (fallW_lt h (k + 1))
        have e : (16 : Int) ^ (k + 1 + 1) = ((2 ^ (4 * k + 8) : Nat) : Int) := by
          rw [show 4 * k + 8 = 4 * (k + 1 + 1) by omega, Nat.pow_mul]
          push_cast
          rfl
        rw [e] at z
        refine Num.lt_mono (m := 4 * k + 8) ⟨?_, ?_⟩ (by omega)
        · show (fallW m (k + 1)).1.natAbs < _
          omega
        · show 0 < _
          exact Nat.pow_pos (by decide)
      | _ => cases hf
    · have e : w.weight (k + 1) = (w.weight k).mul (w.ratio k) := by
        cases w <;> first | rfl | exact absurd rfl hf
      rw [e]
      exact Num.lt_mono (Num.lt_mul ih r) (by omega)
theorem weight_succ {w : WayM} (h : w.isFall = false) (k : Nat) : w.weight (k + 1) = (w.weight k).mul (w.ratio k) := by
  cases w <;> first | rfl | cases h
/-- by the kind -/
def kind : WayM → Int
  | .plain _ => 0 | .below _ => 1 | .bal _ => 2 | .grow _ => 3 | .fall _ => 4 | .pairs _ => 5
end WayM
theorem weight_isP (w : WayM) : ∀ k : Nat, (w.weight k).isP = w.isPairs
  | 0 => by cases w <;> rfl
  | k + 1 => by
    have ih := weight_isP w k
    cases w with
    | fall m => rfl
    | pairs m => 
      rw [WayM.weight_succ rfl]
      cases h : WayM.weight (.pairs m) k <;> rfl
    | _ =>
      rw [WayM.weight_succ rfl]
      revert ih
      cases h : WayM.weight _ k with
      | i n => intro _; rfl
      | p x y => intro z; cases z
namespace WayM
/-- the weight beneath (1 beneath place 0) -/
def under (w : WayM) : Nat → Num
  | 0 => .i 1
  | n + 1 => w.weight n
theorem under_fall (m : Int) (n : Nat) : (WayM.fall m).under n = .i (fallW m n).2 := by
  cases n with
  | zero => rfl
  | succ n => exact weight_fall m n
theorem weight_fall_succ (m : Int) (n : Nat) : (WayM.fall m).weight (n + 1) = .i (m * (fallW m n).1 + (fallW m n).2) := rfl
theorem weight_pairs_succ {m : Int} {n : Nat} {x y : Int} (h : (WayM.pairs m).weight n = .p x y) : (WayM.pairs m).weight (n + 1) = .p (0 - m * x - y) (x - m * y) := by
  rw [weight_succ rfl, h]
  show Num.p (x * (0 - m) - y * 1) (x * 1 + y * (0 - m)) = _
  rw [Int.mul_sub, Int.mul_sub, Int.mul_zero, Int.mul_zero, Int.mul_one, Int.mul_one, Int.mul_comm x m, Int.mul_comm y m]
  congr 1; omega
/-- a way by a kind and a number -/
def ofK (k n : Int) : WayM :=
  if k = 0 then .plain (2 + n % 59) else if k = 1 then .below (2 + n % 59) else if k = 2 then .bal (1 + n % 30) else if k = 3 then .grow (2 + n % 59) else if k = 4 then .fall (1 + n % 9) else .pairs (1 + n % 9)
theorem ofK_ok (k n : Int) : (ofK k n).ok := by
  unfold ofK
  repeat' split
  all_goals (simp only [WayM.ok]; omega)
theorem six_k {k : Int} (h : 0 ≤ k ∧ k < 6) : k = 0 ∨ k = 1 ∨ k = 2 ∨ k = 3 ∨ k = 4 ∨ k = 5 := by omega
theorem ofK_kind {k : Int} (h : 0 ≤ k ∧ k < 6) (n : Int) : (ofK k n).kind = k := by
  rcases six_k h with rfl | rfl | rfl | rfl | rfl | rfl <;> rfl
def sizeK (k n : Int) : Int := if k = 0 ∨ k = 1 ∨ k = 3 then 2 + n % 59 else if k = 2 then 1 + n % 30 else 1 + n % 9
theorem ofK_v {k : Int} (h : 0 ≤ k ∧ k < 6) (n : Int) : (ofK k n).v = sizeK k n := by
  rcases six_k h with rfl | rfl | rfl | rfl | rfl | rfl <;> rfl
theorem kind_range (w : WayM) : 0 ≤ w.kind ∧ w.kind < 6 := by cases w <;> simp [kind]
end WayM
namespace WayM
/-- how many figures a place has, but in Growing by place -/
def rad (w : WayM) (k : Int) : Int := match w with
  | .plain b => b | .below b => b | .bal h => 2 * h + 1 | .grow f => f + k | .fall _ => 1 | .pairs m => m * m + 1
def fig (w : WayM) (a : Num) (k : Int) : Int := match w with
  | .pairs m => (a.x + m * a.y) % (m * m + 1)
  | w => (a.x - w.low k) % w.rad k + w.low k
def carry (w : WayM) (a : Num) (k : Int) : Num := match w with
  | .pairs m => .p (a.y - m * ((a.x + m * a.y) / (m * m + 1))) (0 - (a.x + m * a.y) / (m * m + 1))
  | .below b => .i (0 - a.x / b)
  | w => .i ((a.x - w.low k) / w.rad k)
theorem sq_pos (m : Int) : 0 < m * m + 1 := by
  have : 0 ≤ m * m := by
    rcases Int.le_total 0 m with h | h
    · exact Int.mul_nonneg h h
    · have := Int.mul_nonneg (show 0 ≤ -m by omega) (show 0 ≤ -m by omega)
      rwa [Int.neg_mul_neg] at this
  omega
theorem rad_pos {w : WayM} (h : w.ok) {k : Int} (hk : 0 ≤ k) : 0 < w.rad k := by
  cases w <;> simp only [ok, rad] at * <;> first | omega | exact sq_pos _
theorem fig_range {w : WayM} (h : w.ok) (hr : w.hasRatio = true) (a : Num) {k : Int} (hk : 0 ≤ k) : w.low k ≤ w.fig a k ∧ w.fig a k ≤ w.high k := by
  have r := rad_pos h hk
  cases w with
  | fall m => cases hr
  | pairs m =>
    have r : 0 < m * m + 1 := r
    have h1 := Int.emod_nonneg (a.x + m * a.y) (show m * m + 1 ≠ 0 by omega)
    have h2 := Int.emod_lt_of_pos (a.x + m * a.y) r
    simp only [low, high, fig]
    omega
  | plain b =>
    have h1 := Int.emod_nonneg (a.x - 0) (show b ≠ 0 by have : 0 < b := r; omega)
    have h2 := Int.emod_lt_of_pos (a.x - 0) r
    simp only [low, high, fig, rad] at *
    omega
  | below b =>
    have h1 := Int.emod_nonneg (a.x - 0) (show b ≠ 0 by have : 0 < b := r; omega)
    have h2 := Int.emod_lt_of_pos (a.x - 0) r
    simp only [low, high, fig, rad] at *
    omega
  | bal b =>
    have h1 := Int.emod_nonneg (a.x - (0 - b)) (show 2 * b + 1 ≠ 0 by have : 0 < 2 * b + 1 := r; omega)
    have h2 := Int.emod_lt_of_pos (a.x - (0 - b)) r
    simp only [low, high, fig, rad] at *
    omega
  | grow b =>
    have h1 := Int.emod_nonneg (a.x - 0) (show b + k ≠ 0 by have : 0 < b + k := r; omega)
    have h2 := Int.emod_lt_of_pos (a.x - 0) r
    simp only [low, high, fig, rad] at *
    omega
/-- the equation of whole numbers -/
theorem split_int {w : WayM} (hr : w.hasRatio = true) (hp : w.isPairs = false) (a : Num) (k : Int) : a.x = w.fig a k + (w.carry a k).x * (w.ratio k).x := by
  cases w with
  | fall m => cases hr
  | pairs m => cases hp
  | plain b =>
    have := Int.mul_ediv_add_emod (a.x - 0) b
    simp only [fig, carry, ratio, low, rad, Num.x] at *
    rw [Int.mul_comm] at this
    omega
  | below b =>
    have := Int.mul_ediv_add_emod (a.x - 0) b
    rw [Int.sub_zero] at this
    show a.x = (a.x - 0) % b + 0 + (0 - a.x / b) * (0 - b)
    rw [Int.sub_zero, show (0 - a.x / b) * (0 - b) = b * (a.x / b) by rw [Int.zero_sub, Int.zero_sub, Int.neg_mul_neg, Int.mul_comm]]
    omega
  | bal b =>
    have := Int.mul_ediv_add_emod (a.x - (0 - b)) (2 * b + 1)
    simp only [fig, carry, ratio, low, rad, Num.x] at *
    rw [Int.mul_comm] at this
    omega
  | grow b =>
    have := Int.mul_ediv_add_emod (a.x - 0) (b + k)
    simp only [fig, carry, ratio, low, rad, Num.x] at *
    rw [Int.mul_comm] at this
    omega
theorem split_pair (m : Int) (a : Num) (k : Int) : a.x = (pairs m).fig a k - m * ((pairs m).carry a k).x - ((pairs m).carry a k).y ∧ a.y = ((pairs m).carry a k).x - m * ((pairs m).carry a k).y := by
  have := Int.mul_ediv_add_emod (a.x + m * a.y) (m * m + 1)
  simp only [fig, carry, Num.x, Num.y] at *
  generalize (a.x + m * a.y) / (m * m + 1) = t at *
  rw [Int.add_mul, Int.one_mul, Int.mul_assoc] at this
  rw [Int.mul_sub, Int.mul_sub, Int.mul_zero]
  omega
theorem fig_self {w : WayM} (hr : w.hasRatio = true) {f k : Int} (h1 : w.low k ≤ f) (h2 : f ≤ w.high k) : w.fig (.i f) k = f ∧ w.carry (.i f) k = w.nought := by
  cases w with
  | fall m => cases hr
  | pairs m =>
    simp only [low, high] at h1 h2
    have e : f + m * 0 = f := by rw [Int.mul_zero, Int.add_zero]
    have e1 : f % (m * m + 1) = f := Int.emod_eq_of_lt h1 (by omega)
    have e2 : f / (m * m + 1) = 0 := Int.ediv_eq_zero_of_lt h1 (by omega)
    show (f + m * 0) % (m * m + 1) = f ∧ Num.p (0 - m * ((f + m * 0) / (m * m + 1))) (0 - (f + m * 0) / (m * m + 1)) = Num.p 0 0
    rw [e, e1, e2, Int.mul_zero]
    exact ⟨rfl, rfl⟩
  | plain b =>
    simp only [low, high] at h1 h2
    simp only [fig, carry, nought, low, rad, Num.x, Int.sub_zero, Int.add_zero]
    rw [Int.emod_eq_of_lt h1 (by omega), Int.ediv_eq_zero_of_lt h1 (by omega)]
    exact ⟨rfl, rfl⟩
  | below b =>
    simp only [low, high] at h1 h2
    simp only [fig, carry, nought, low, rad, Num.x, Int.sub_zero, Int.add_zero]
    rw [Int.emod_eq_of_lt h1 (by omega), Int.ediv_eq_zero_of_lt h1 (by omega)]
    exact ⟨rfl, rfl⟩
  | bal b =>
    simp only [low, high] at h1 h2
    simp only [fig, carry, nought, low, rad, Num.x]
    rw [Int.emod_eq_of_lt (by omega) (by omega), Int.ediv_eq_zero_of_lt (by omega) (by omega)]
    exact ⟨by omega, rfl⟩
  | grow b =>
    simp only [low, high] at h1 h2
    simp only [fig, carry, nought, low, rad, Num.x, Int.sub_zero, Int.add_zero]
    rw [Int.emod_eq_of_lt h1 (by omega), Int.ediv_eq_zero_of_lt h1 (by omega)]
    exact ⟨rfl, rfl⟩
theorem carry_isP (w : WayM) (a : Num) (k : Int) : (w.carry a k).isP = w.isPairs := by cases w <;> rfl
/-- what the method of Pairs divides -/
theorem turned_div (m x y : Int) : ((x + (0 - (x + m * y) % (m * m + 1))) * (0 - m) - (y + 0) * -1) / (m * m + 1) = y - m * ((x + m * y) / (m * m + 1)) ∧ ((x + (0 - (x + m * y) % (m * m + 1))) * -1 + (y + 0) * (0 - m)) / (m * m + 1) = 0 - (x + m * y) / (m * m + 1) := by
  have e := Int.mul_ediv_add_emod (x + m * y) (m * m + 1)
  have p := sq_pos m
  generalize (x + m * y) / (m * m + 1) = t at *
  have e1 : (x + m * y) % (m * m + 1) = x + m * y - (m * m + 1) * t := by omega
  rw [e1]
  refine ⟨Int.ediv_eq_of_eq_mul_right (by omega) ?_, Int.ediv_eq_of_eq_mul_right (by omega) ?_⟩
  · simp only [Int.mul_sub, Int.sub_mul, Int.add_mul, Int.mul_add, Int.mul_zero, Int.zero_mul, Int.one_mul, Int.mul_one, Int.mul_neg, Int.neg_mul, Int.zero_sub, Int.neg_neg, Int.neg_sub, Int.neg_add, Int.mul_assoc, Int.mul_comm, Int.mul_left_comm]
    omega
  · simp only [Int.mul_sub, Int.sub_mul, Int.add_mul, Int.mul_add, Int.mul_zero, Int.zero_mul, Int.one_mul, Int.mul_one, Int.mul_neg, Int.neg_mul, Int.zero_sub, Int.neg_neg, Int.neg_sub, Int.neg_add, Int.mul_assoc, Int.mul_comm, Int.mul_left_comm]
    omega
theorem div_exact {x l r : Int} (h : 0 < r) : (x - ((x - l) % r + l)) / r = (x - l) / r := by
  have e := Int.mul_ediv_add_emod (x - l) r
  refine Int.ediv_eq_of_eq_mul_right (by omega) ?_
  omega
theorem div_exactN {x b : Int} (h : 0 < b) : Int.fdiv (x - ((x - 0) % b + 0)) (0 - b) = 0 - x / b := by
  have e := Int.mul_ediv_add_emod x b
  rw [Int.sub_zero, Int.add_zero]
  have e2 : x - x % b = (0 - x / b) * (0 - b) := by
    rw [Int.zero_sub, Int.zero_sub, Int.neg_mul_neg, Int.mul_comm]
    omega
  rw [e2]
  exact Int.mul_fdiv_cancel _ (by omega)
end WayM
end DD

set_option Elab.async false
set_option linter.all false
set_option maxRecDepth 100000
set_option maxHeartbeats 1000000
namespace DD
open PySem PySem.Spec PyProof.Rows L2
section
variable {S : Sit} {a b c e : Expr} {es : List Expr} {pos : Pos} {τa τb τc : TD}
def eNeg (τ : TD) : TD := fun ρ Q => τ ρ fun d => match d with
  | .int i => Q (.int (-i))
  | _ => False
theorem je_neg (ha : JE S a τa) : JE S (.UnaryOp .USub a pos) (eNeg τa) := by
  refine ⟨fun G H σ ρ Q R h => WX.of (pe_un un_neg pe_w) ((ha.run G H σ ρ _ R h).mono fun v H1 ⟨G1, d, x1, r1, q1⟩ => ?_)⟩
  cases d with
  | int i =>
    cases repV_int r1
    exact ⟨i, rfl, G1, _, x1, .of (.int _), q1⟩
  | _ => exact q1.elim
theorem jx_blk {s : Shared} {H : Hp} {scope : Scope} {cenv : PySem.Env} {fp : List Addr} : JX (S.blk s H scope cenv fp) := ⟨fun _ _ _ _ => False, takes0, fun _ _ _ _ _ _ h => h⟩
end
theorem ff_tt {C : Prop} (h : false = true) : C := nomatch h
theorem tt_ff {C : Prop} (h : true = false) : C := nomatch h
theorem mulOk_of {i j : Int} {a b : Nat} (ha : i.natAbs < 2 ^ a) (hb : j.natAbs < 2 ^ b) (h : a + b ≤ 999998) : MulB i j := by
  have h2 : ∀ (x : Nat) (n : Nat), x < 2 ^ n → x < 2 ^ (n + 1) := fun x n h => Nat.lt_of_lt_of_le h (Nat.pow_le_pow_right (by decide) (Nat.le_succ n))
  exact .inr (wide_mul (h2 _ _ ha) (h2 _ _ hb) (Nat.succ_pos _) (Nat.succ_pos _) (by omega))
theorem ix_own {l : List D} {i : Int} {x : D} {Q : D → Prop} (h : L2.atI l i = some x) (q : Q x) : rIxD (.own l) (.int i) Q := by
  show match L2.atI l i with | some x => Q x | none => False
  rw [h]
  exact q
theorem ix_lst {l : List D} {i : Int} {x : D} {Q : D → Prop} (h : L2.atI l i = some x) (q : Q x) : rIxD (.lst l) (.int i) Q := by
  show match L2.atI l i with | some x => Q x | none => False
  rw [h]
  exact q
theorem ix_bor {l : List D} {i : Int} {x : D} {Q : D → Prop} (h : L2.atI l i = some x) (q : Q x) : rIxD (.bor l) (.int i) Q := by
  show match L2.atI l i with | some x => Q x | none => False
  rw [h]
  exact q
theorem ix_scr {l : List D} {i : Int} {x : D} {Q : D → Prop} (h : L2.atI l i = some x) (q : Q x) : rIxD (.scr l) (.int i) Q := by
  show match L2.atI l i with | some x => Q x | none => False
  rw [h]
  exact q
theorem ix_tup {l : List D} {i : Int} {x : D} {Q : D → Prop} (h : L2.atI l i = some x) (q : Q x) : rIxD (.tup l) (.int i) Q := by
  show match L2.atI l i with | some x => Q x | none => False
  rw [h]
  exact q
theorem mulOk_right {i j : Int} (h1 : -(2 ^ 64) < j) (h2 : j < 2 ^ 64) : MulB i j := .inl (.inr ⟨h1, h2⟩)
theorem mulOk_left {i j : Int} (h1 : -(2 ^ 64) < i) (h2 : i < 2 ^ 64) : MulB i j := .inl (.inl ⟨h1, h2⟩)
theorem size_small {n : Nat} (h : n ≤ 16000000) : n ≤ sizeLine := Nat.le_trans h (by rw [sizeLine_eq]; decide)
theorem size_lt {n : Nat} (h : n ≤ 16000000) : n < sizeLine := Nat.lt_of_le_of_lt h (by rw [sizeLine_eq]; decide)
theorem log2_small {j : Int} {b : Nat} (h : j.natAbs < 2 ^ b) (hb : b ≤ 9000) (h0 : 0 < b := by decide) : j.natAbs.log2 < 9000 := Nat.lt_of_lt_of_le (PySem.Flt.log2_lt_of h0 h) hb

/-! ### in -/
def flatB : D → Bool
  | .non => true
  | .bl _ => true
  | .int _ => true
  | .str _ => true
  | _ => false
def eqFD : D → D → Bool
  | .non, .non => true
  | .bl a, .bl b => a == b
  | .bl a, .int b => (if a then 1 else 0) == b
  | .int a, .bl b => a == (if b then 1 else 0)
  | .int a, .int b => a == b
  | .str a, .str b => a == b
  | _, _ => false
def inD (x : D) (l : List D) : Bool := l.any fun y => eqFD y x
theorem flat_rep {nm : Nm} {G : Hp} {v : V} {d : D} (r : Rep nm G v d) (f : flatB d = true) : flatV v = true := by
  cases d <;> first | (cases r; rfl) | cases f
theorem eqF_rep {nm : Nm} {G : Hp} {v w : V} {d e : D} (r : Rep nm G v d) (q : Rep nm G w e) (f : flatB d = true) (g : flatB e = true) : eqV v w = eqFD d e := by
  cases d <;> cases e <;> first | (cases r; cases q; rfl) | exact absurd f Bool.false_ne_true | exact absurd g Bool.false_ne_true
theorem flats_rep {nm : Nm} {G : Hp} : ∀ {vs : List V} {ds : List D}, Reps nm G vs ds → ds.all flatB = true → vs.all flatV = true
  | _, _, .nil, _ => rfl
  | _, _, .cons r q, h => by
    rw [List.all_cons, Bool.and_eq_true] at h ⊢
    exact ⟨flat_rep r h.1, flats_rep q h.2⟩
theorem in_rep {nm : Nm} {G : Hp} {x : V} {d : D} (r : Rep nm G x d) (f : flatB d = true) : ∀ {vs : List V} {ds : List D}, Reps nm G vs ds → ds.all flatB = true → inV x vs = inD d ds
  | _, _, .nil, _ => rfl
  | _, _, .cons (v := v) (vs := vs) (d := e) (ds := ds) q qs, h => by
    rw [List.all_cons, Bool.and_eq_true] at h
    have ih := in_rep r f qs h.2
    unfold inV inD at ih ⊢
    rw [List.any_cons, List.any_cons, eqF_rep q r h.1 f, ih]
def rIn (neg : Bool) : RD2 := fun d e Q => match e with
  | .str z => ∃ c : Nat, d = .str ⟨#[c]⟩ ∧ Q (.bl (if neg then !decide (c ∈ z.cps.toList) else decide (c ∈ z.cps.toList)))
  | .tup l => flatB d = true ∧ l.all flatB = true ∧ Q (.bl (if neg then !inD d l else inD d l))
  | e => match seqD e with
    | some l => flatB d = true ∧ l.all flatB = true ∧ Q (.bl (if neg then !inD d l else inD d l))
    | none => False
section
variable {S : Sit}
theorem flat_repV {nm : Nm} {H0 G H : Hp} {v : V} {d : D} (r : RepV nm H0 G H v d) (f : flatB d = true) : Rep nm G v d := by
  cases d <;> first | exact r | cases f
theorem o_inG {neg : Bool} {op : CmpOp} (h1 : OpR S.X (compareOp op) (L2.rIn S.X.K neg)) (h2 : OpR S.X (compareOp op) (fun x y H Q => ∃ (c : Nat) (z : Str), x = .str ⟨#[c]⟩ ∧ y = .str z ∧ Q (.bl (if neg then !decide (c ∈ z.cps.toList) else decide (c ∈ z.cps.toList))) H)) : DOp S (compareOp op) (rIn neg) := .of fun H0 G H x y d e Q s0 gh rx ry h => by
  have kk := S.kk
  have main : ∀ l, DD.seqD e = some l → flatB d = true ∧ l.all flatB = true ∧ Q (.bl (if neg then !inD d l else inD d l)) → ∃ r' : R2, OpR S.X (compareOp op) r' ∧ r' x y H fun z H' => ∃ G' d', Ext H0 G H G' H' ∧ RepV S.nm H0 G' H' z d' ∧ Q d' := fun l el ⟨f1, f2, q⟩ => by
    obtain ⟨p, vs, rfl, hp, ra⟩ := ry.seqD gh el
    have rd := flat_repV rx f1
    exact ⟨_, h1, p, vs, rfl, .inl (by rw [← kk]; exact hp), flat_rep rd f1, flats_rep ra f2, G, _, Ext.refl gh, .of (.bl _), by rw [in_rep rd f1 ra f2]; exact q⟩
  cases e with
  | str z =>
    obtain ⟨c, rfl, q⟩ := h
    cases repV_str rx
    cases repV_str ry
    exact ⟨_, h2, c, z, rfl, rfl, G, _, Ext.refl gh, .of (.bl _), q⟩
  | tup l =>
    obtain ⟨f1, f2, q⟩ := (show flatB d = true ∧ l.all flatB = true ∧ Q (.bl (if neg then !inD d l else inD d l)) from h)
    have rd := flat_repV rx f1
    have ry' : Rep S.nm G y (.tup l) := ry
    cases ry' with
    | tup ea ra => exact ⟨_, h1, _, _, rfl, .inr (.inl (.inl (gh _ _ ea))), flat_rep rd f1, flats_rep ra f2, G, _, Ext.refl gh, .of (.bl _), by rw [in_rep rd f1 ra f2]; exact q⟩
  | lst l => exact main l rfl h
  | own l => exact main l rfl h
  | bor l => exact main l rfl h
  | scr l => exact main l rfl h
  | _ => exact (show False from h).elim
theorem o_in : DOp S (compareOp .In) (rIn false) := o_inG op_in_seq op_in_sign
theorem o_notin : DOp S (compareOp .NotIn) (rIn true) := o_inG op_notIn_seq op_notIn_sign
end

/-! ### loops -/
theorem for_inv {g : TDG} {tb : TDS} {E : DE} (I : List D → Env → Prop) (step : ∀ (d : D) (rest : List D) (ρ : Env) (N : Env → Prop), I (d :: rest) ρ → (∀ ρ' ρ'', Weak ρ' ρ'' → I rest ρ'' → N ρ') → g d ρ fun ρ2 => tb { nx := N, rt := E.rt, bk := E.nx, ct := N } ρ2)
    (done : ∀ ρ, I [] ρ → E.nx ρ) : ∀ (items : List D) (ρ : Env), I items ρ → forR g tb E items ρ
  | [], ρ, h => done ρ h
  | d :: rest, ρ, h => step d rest ρ _ h fun _ ρ'' w i => ⟨ρ'', w, for_inv I step done rest ρ'' i⟩
/-- a loop that carries nothing -/
theorem for_all {g : TDG} {tb : TDS} {E : DE} {items : List D} {ρ : Env} (A : D → Prop) (ha : ∀ d ∈ items, A d) (step : ∀ (d : D) (N : Env → Prop), A d → (∀ ρ', Weak ρ' ρ → N ρ') → g d ρ fun ρ2 => tb { nx := N, rt := E.rt, bk := E.nx, ct := N } ρ2)
    (done : E.nx ρ) : forR g tb E items ρ :=
  for_inv (fun ds ρ' => (∀ d ∈ ds, A d) ∧ ρ' = ρ) (fun d rest ρ' N h hn => by
    obtain ⟨h, rfl⟩ := h
    exact step d N (h d List.mem_cons_self) fun ρ' w => hn ρ' _ w ⟨fun x hx => h x (List.mem_cons_of_mem _ hx), rfl⟩) (fun ρ' h => h.2 ▸ done) items ρ ⟨ha, rfl⟩
/-- a loop that carries a state -/
theorem for_fold {α β : Type} {g : TDG} {tb : TDS} {E : DE} (f : α → D) (enc : β → Env) (stp : β → α → β) (step : ∀ (s : β) (x : α) (N : Env → Prop), (∀ ρ', Weak ρ' (enc (stp s x)) → N ρ') → g (f x) (enc s) fun ρ2 => tb { nx := N, rt := E.rt, bk := E.nx, ct := N } ρ2)
    : ∀ (xs : List α) (s0 : β), E.nx (enc (xs.foldl stp s0)) → forR g tb E (xs.map f) (enc s0)
  | [], _, h => h
  | x :: xs, s0, h => step s0 x _ fun ρ' w => ⟨_, w, for_fold f enc stp step xs (stp s0 x) h⟩
theorem mem_cut {d : D} {l : List D} {lo hi : Option Int} (h : d ∈ cutD l lo hi) : d ∈ l := List.mem_of_mem_drop (List.mem_of_mem_take h)
theorem cut_len (l : List D) (lo hi : Option Int) : (cutD l lo hi).length ≤ l.length := by
  unfold cutD
  rw [List.length_take, List.length_drop]
  omega
theorem ints_len (ns : List Int) : (intsD ns).length = ns.length := List.length_map _
theorem mem_ints {d : D} {ns : List Int} (h : d ∈ intsD ns) : ∃ c, d = .int c ∧ c ∈ ns := by
  obtain ⟨c, h1, h2⟩ := List.mem_map.mp h
  exact ⟨c, h2.symm, h1⟩
/-- what is walked: written ints and a cut of the script -/
theorem mem_cells {d : D} {ns ms : List Int} {lo hi : Option Int} (h : d ∈ intsD ms ++ cutD (intsD ns) lo hi) : ∃ c, d = .int c := by
  rcases List.mem_append.mp h with h | h
  · exact let ⟨c, e, _⟩ := mem_ints h; ⟨c, e⟩
  · exact let ⟨c, e, _⟩ := mem_ints (mem_cut h); ⟨c, e⟩

/-! ### numbers -/
def Num.d : Num → D
  | .i n => .int n
  | .p x y => .tup [.int x, .int y]
theorem Num.mulOk {a b : Num} {m n : Nat} (ha : a.lt m) (hb : b.lt n) (h : m + n ≤ 999998) : MulB a.x b.x ∧ MulB a.y b.y ∧ MulB a.x b.y ∧ MulB a.y b.x :=
  ⟨mulOk_of ha.1 hb.1 h, mulOk_of ha.2 hb.2 h, mulOk_of ha.1 hb.2 h, mulOk_of ha.2 hb.1 h⟩
theorem Num.frz (a : Num) : DD.frz a.d = a.d := by cases a <;> rfl
theorem Num.nb (a : Num) : isBor a.d = false := by cases a <;> rfl
theorem Num.n1 (a : Num) : borO a.d = a.d := by cases a <;> rfl
theorem Num.n2 (a : Num) : frzO a.d = a.d := by cases a <;> rfl
theorem Num.n3 (a : Num) : isBor (borO a.d) = false := by cases a <;> rfl
theorem Num.ok (a : Num) : retOk a.d = true := by cases a <;> rfl
theorem Num.n4 (a : Num) : isOwn a.d = false := by cases a <;> rfl
theorem shaped_num (a : Num) : shapedD a.d := by
  cases a with
  | i n => exact ⟨_, rfl, rfl⟩
  | p x y => exact ⟨_, rfl, rfl⟩
theorem eqD_num (a b : Num) : eqD a.d b.d = (match a, b with
  | .i m, .i n => decide (m = n)
  | .p x y, .p u v => decide (x = u) && decide (y = v)
  | _, _ => false) := by
  cases a <;> cases b <;> simp [eqD, Num.d, toP, toPs, PyData.eqv, PyData.eqvAll, Bool.beq_eq_decide_eq]
theorem eqD_num_refl (a : Num) : eqD a.d a.d = true := by
  rw [eqD_num]
  cases a <;> simp
theorem rEq_i0 {i j : Int} {Q : D → Prop} (q : Q (.bl (decide (i = j)))) : rEq false (.int i) (.int j) Q := by
  unfold rEq
  exact q
theorem rEq_i1 {i j : Int} {Q : D → Prop} (q : Q (.bl (!decide (i = j)))) : rEq true (.int i) (.int j) Q := by
  unfold rEq
  exact q
theorem rEq_s0 {i j : Str} {Q : D → Prop} (q : Q (.bl (decide (i = j)))) : rEq false (.str i) (.str j) Q := by
  unfold rEq
  exact q
theorem rEq_s1 {i j : Str} {Q : D → Prop} (q : Q (.bl (!decide (i = j)))) : rEq true (.str i) (.str j) Q := by
  unfold rEq
  exact q
theorem rEq_b0 {i j : Bool} {Q : D → Prop} (q : Q (.bl (decide (i = j)))) : rEq false (.bl i) (.bl j) Q := by
  unfold rEq
  exact q
theorem rEq_b1 {i j : Bool} {Q : D → Prop} (q : Q (.bl (!decide (i = j)))) : rEq true (.bl i) (.bl j) Q := by
  unfold rEq
  exact q
def isScal : D → Bool
  | .int _ => true
  | .str _ => true
  | .bl _ => true
  | _ => false
theorem rEq_deep {d e : D} {neg : Bool} {Q : D → Prop} (n : (isScal d && isScal e) = false) (h1 : shapedD d) (h2 : shapedD e) (q : Q (.bl (if neg then !eqD d e else eqD d e))) : rEq neg d e Q := by
  unfold rEq
  cases d <;> cases e <;> first | exact ⟨h1, h2, q⟩ | cases n
theorem brT {p : Prop} [Decidable p] {A B : Prop} (hp : p) (a : A) : (decide p = true → A) ∧ (decide p = false → B) := ⟨fun _ => a, fun h => absurd hp (of_decide_eq_false h)⟩
theorem brF {p : Prop} [Decidable p] {A B : Prop} (hp : ¬ p) (b : B) : (decide p = true → A) ∧ (decide p = false → B) := ⟨fun h => absurd (of_decide_eq_true h) hp, fun _ => b⟩
theorem brNT {p : Prop} [Decidable p] {A B : Prop} (hp : p) (b : B) : ((!decide p) = true → A) ∧ ((!decide p) = false → B) := ⟨fun h => by simp [hp] at h, fun _ => b⟩
theorem brNF {p : Prop} [Decidable p] {A B : Prop} (hp : ¬ p) (a : A) : ((!decide p) = true → A) ∧ ((!decide p) = false → B) := ⟨fun _ => a, fun h => by simp [hp] at h⟩
theorem br {p : Prop} [Decidable p] {A B : Prop} (a : p → A) (b : ¬ p → B) : (decide p = true → A) ∧ (decide p = false → B) := ⟨fun h => a (of_decide_eq_true h), fun h => b (of_decide_eq_false h)⟩
theorem brN {p : Prop} [Decidable p] {A B : Prop} (a : ¬ p → A) (b : p → B) : ((!decide p) = true → A) ∧ ((!decide p) = false → B) := ⟨fun h => a (by simpa using h), fun h => b (by simpa using h)⟩
theorem brbT {b : Bool} {A B : Prop} (h : b = true) (a : A) : (b = true → A) ∧ (b = false → B) := ⟨fun _ => a, fun z => Bool.noConfusion (h.symm.trans z)⟩
theorem brbF {b : Bool} {A B : Prop} (h : b = false) (x : B) : (b = true → A) ∧ (b = false → B) := ⟨fun z => Bool.noConfusion (h.symm.trans z), fun _ => x⟩
theorem rEq_iT {i j : Int} {Q : D → Prop} (h : i = j) (q : Q (.bl true)) : rEq false (.int i) (.int j) Q := rEq_i0 (by rw [decide_eq_true h]; exact q)
theorem rEq_bT {i j : Bool} {Q : D → Prop} (h : i = j) (q : Q (.bl true)) : rEq false (.bl i) (.bl j) Q := rEq_b0 (by rw [decide_eq_true h]; exact q)
theorem rEq_bN {i j : Bool} {Q : D → Prop} (h : i = j) (q : Q (.bl false)) : rEq true (.bl i) (.bl j) Q := rEq_b1 (by rw [decide_eq_true h]; exact q)
theorem rEq_sT {i j : Str} {Q : D → Prop} (h : i = j) (q : Q (.bl true)) : rEq false (.str i) (.str j) Q := rEq_s0 (by rw [decide_eq_true h]; exact q)
theorem rEq_num {a b : Num} {neg : Bool} {Q : D → Prop} (e : a = b) (q : Q (.bl (!neg))) : rEq neg a.d b.d Q := by
  subst e
  cases a with
  | i n => cases neg <;> simpa [rEq, Num.d] using q
  | p x y =>
    have h := shaped_num (.p x y)
    have e := eqD_num_refl (.p x y)
    refine rEq_deep rfl h h ?_
    show Q (.bl (if neg = true then !eqD (Num.p x y).d (Num.p x y).d else eqD (Num.p x y).d (Num.p x y).d))
    rw [e]
    cases neg <;> exact q
theorem rEq_b {a : Num} {d e : D} {neg : Bool} {Q : D → Prop} (h : d = a.d ∧ e = a.d) (q : Q (.bl (!neg))) : rEq neg d e Q := by
  rw [h.1, h.2]
  exact rEq_num rfl q
/-! ### the law -/
def adOf (mg : Str → Option Value) (x : Str) : Addr := match mg x with
  | some (.ref a) => a
  | _ => 0
theorem adOf_eq {mg : Str → Option Value} {x : Str} {a : Addr} (h : mg x = some (.ref a)) : adOf mg x = a := by
  unfold adOf
  rw [h]
theorem adOf_mg {mg : Str → Option Value} {x : Str} {a : Addr} (h : mg x = some (.ref a)) : mg x = some (.ref (adOf mg x)) := by
  rw [adOf_eq h]
  exact h
def gmOf (P : Program) (w : World) (K : PySem.W.Frag) (mg : Str → Option Value) (base : Heap) : Gm := ⟨P, w, K, mg, base, ⟨K, adOf mg, w⟩, rfl, rfl⟩
def spLaw (K : PySem.W.Frag) (n : Nat) : Sp := fun vs H Q _ => ∃ (a : Addr) (ns : List Int), vs = [.ref a] ∧ SqL K H a (ns.map V.int) ∧ ns.length ≤ n ∧ (∀ z ∈ ns, Builtin.Int.intBits z ≤ 1048576) ∧ ∀ H', Q (.bl true) H'
theorem law_ok {P : Program} {w : World} {K : PySem.W.Frag} {mg : Str → Option Value} {base : Heap} {CX : CXT} {k : Nat} {f : Addr} {fd : FuncData} {ps : List Str} {nm : Nm} {M : MD} {n : Nat} (hK : nm.K = K) (F : FnOk P w K mg base CX k f fd ps (spD nm M))
    (hM : ∀ ns : List Int, ns.length ≤ n → (∀ z ∈ ns, Builtin.Int.intBits z ≤ 1048576) → M [.scr (intsD ns)] (fun o => o = .ret (.bl true))) : FnOk P w K mg base CX k f fd ps (spLaw K n) :=
  F.imp fun vs H Q E ⟨a, ns, e, hS, hl, hb, q⟩ => ⟨H, _, _, Same.refl H, by
    rw [e]
    exact .cons (.scr (by rw [hK]; exact hS) ints_reps) .nil, hM ns hl hb, fun G' H' v r x rv nb p => by
      cases p
      cases repV_bl rv
      exact q H', fun C H' _ p => by cases p⟩
theorem noCX {P : Program} {w : World} {H : Hp} {s : Shared} {e : Value} {s' : Shared} (h : L2.CX P w [] H s (fun _ _ _ => False) e s') : False := by
  obtain ⟨_, _, _, _, _, _, _, _, _, _, _, _, z⟩ := h
  exact z
end DD

set_option Elab.async false
set_option linter.all false
set_option maxRecDepth 100000
set_option maxHeartbeats 1000000
namespace DD
open PySem PySem.Spec PyProof.Rows L2

/-! ### instances made by a class whose __init__ looks at one number and keeps it -/
def spI (nm : Nm) (C fld : Str) (lo hi : Int) : Sp := fun vs H Q E => ∃ (x dx : Addr) (n : Int), vs = [.ref x, .int n] ∧ H x = some (.ins (nm.ad C) dx []) ∧ H dx = some (.own x) ∧
  (lo ≤ n ∧ n ≤ hi → ∀ H' : Hp, (∀ b o, b ≠ x → H b = some o → H' b = some o) → H' x = some (.ins (nm.ad C) dx [(fld, .int n)]) → Q .non H') ∧
  (¬(lo ≤ n ∧ n ≤ hi) → ∀ H' : Hp, Same H H' → E (.ref (nm.ad "NoWay")) none H')
def M_mk (C fld : Str) (lo hi : Int) : MD := fun ds P => ∃ n : Int, ds = [.int n] ∧ (lo ≤ n ∧ n ≤ hi → P (.ret (.ins C [fld] [.int n]))) ∧ (¬(lo ≤ n ∧ n ≤ hi) → P (.exn "NoWay"))
structure CalC (Γ : Gm) (k : Nat) (C fld : Str) (lo hi : Int) : Prop where
  ex : ∃ (f : Addr) (fd : FuncData) (ps : List Str), FnOk Γ.P Γ.w Γ.K Γ.mg Γ.base (L2.CX Γ.P Γ.w) k f fd ps (spI Γ.nm C fld lo hi) ∧ Mk Γ.K (Γ.nm.ad C) f ∧ Γ.mg C = some (.ref (Γ.nm.ad C)) ∧ Binds Γ.K fd ps []
theorem CalC.mono {Γ : Gm} {j k : Nat} {C fld : Str} {lo hi : Int} (h : CalC Γ j C fld lo hi) (l : j ≤ k) : CalC Γ k C fld lo hi := by
  obtain ⟨f, fd, ps, h1, h2⟩ := h.ex
  exact ⟨f, fd, ps, h1.mono l, h2⟩
section
variable {X : Cx} {pins : List (Addr × Obj)} {σ : L2.St} {H : Hp} {s : Shared}
theorem made_run {CX : CXT} {k : Nat} {f C : Addr} {fd : FuncData} {ps : List Str} {sp : Sp} {E : L2.St → XK} {Q : VK} {us : List Value} {vs : List V} (M : Mk X.K C f) (F : FnOk X.prog X.w X.K X.mg X.base CX k f fd ps sp) (hr : Room (k + 1) X.A) (hb : Binds X.K fd ps [])
    (hx : PassesAt CX X σ (E σ)) (I : Inv X pins σ H s) (r : Vals vs us)
    (h : ∀ x dx, H x = none → H dx = none → dx ≠ x → sp (.ref x :: vs) (upd (upd H dx (.own x)) x (.ins C dx [])) (fun v H2 => v = .non ∧ Q (.ref x) H2) (E σ)) :
    wpAny (model X.prog X.w) X.A (call (.ref C) us) (EP X pins σ Q) X.xe s := by
  obtain ⟨nx, hnx⟩ : ∃ a, a = s.heap.objs.size + 1 := ⟨_, rfl⟩
  have q0 := h (s.heap.objs.size + 1) s.heap.objs.size (I.hok.fresh (Nat.le_succ _)) (I.hok.fresh (Nat.le_refl _)) (Nat.ne_of_lt (Nat.lt_succ_self _))
  have J := Inv.made (C := C) I
  have rr : Vals (V.ref (s.heap.objs.size + 1) :: vs) (Value.ref (s.heap.objs.size + 1) :: us) := .cons rfl r
  have len0 : (Value.ref (s.heap.objs.size + 1) :: us).length = ps.length := by
    rw [← rr.length]
    exact F.len _ _ _ _ q0
  have bb := hb _ (Value.ref (s.heap.objs.size + 1) :: us) J.kIn (by rw [List.append_nil]; exact len0)
  rw [List.append_nil] at bb
  have run := F.run _ X.stack _ _ _ _ _ _ (E σ) (hr.make C us []) (J.env0.make C us []) bb rr q0
  refine wpAny_call (make_map (f := f) I.kIn M.makes M.init (beq_iff_eq.mp M.fn) (codeAny_mono run fun res s2 hq => ?_))
  cases res with
  | error e => exact hx pins _ _ e s2 J hq
  | ok fl =>
    cases fl with
    | ret u =>
      obtain ⟨v, H2, J2, rv, ev, q2⟩ := J.after hq
      subst ev
      exact ⟨rv, ⟨V.ref (s.heap.objs.size + 1), H2, J2, rfl, q2⟩⟩
    | next => exact hq.elim
    | brk => exact hq.elim
    | cont => exact hq.elim
end
section
variable {S : Sit} {e : Expr} {pos p : Pos} {t : TDs} {k : Nat} {C fld : Str} {lo hi : Int}
theorem je_make {Γ : Gm} (jx : JX S) (F : CalC Γ k C fld lo hi) (hr : Room (k + 1) S.X.A) (hg : Gl S.X C) (h : JA' S [e] t) (hdb : (C == ("__debug__" : Str)) = false := by decide)
    (he : starEach [e] S.X.env = (false, eval e S.X.env) :: starEach [] S.X.env := by rfl) (hpl : (backTo pos (starEach [] S.X.env)).any (·.1) = false := by rfl) (hG : S.gm = Γ := by rfl) : JE S (.Call (.Name C p) [e] [] pos) (eCall S.ex (M_mk C fld lo hi) t) := by
  subst hG
  obtain ⟨W, tk, hW⟩ := jx
  obtain ⟨f, fd, ps, F, M, hm, hb⟩ := F.ex
  refine ⟨fun G H σ ρ Q R q => fun pins s I => ?_⟩
  refine wpAny_Call_Name_kw (ld_glob I hg hm ?_ hdb)
  refine PySem.W.callWith_K (h₀ := S.X.base) I.ok.mod.kin M.kp (thn (h.run G H σ ρ _ R q pos pins s I) fun us s1 ⟨vs, H1, I1, r, q⟩ => ⟨I1.kIn, ?_⟩) he hpl
  obtain ⟨G1, ds, x1, ra, q⟩ := q
  obtain ⟨n, en, q1, q2⟩ := q
  have e1 : ds = [.int n] := by
    have key : ∀ d, frz d = .int n → d = .int n := fun d hd => by cases d <;> simp [frz] at hd; rw [hd]
    match ds with
    | [] => exact absurd (congrArg List.length en) (by simp)
    | [d] =>
      have e2 : [frz d] = [D.int n] := en
      have e3 : frz d = D.int n := by injection e2
      rw [key d e3]
    | _ :: _ :: _ => exact absurd (congrArg List.length en) (by simp)
  subst e1
  cases repA_int1 ra
  have rr := R.go x1
  refine made_run (E := fun σ => WE W σ) M F hr hb (passAt tk σ) I1 r fun x dx hx hd hne => ?_
  have smI : Same H1 (upd (upd H1 dx (.own x)) x (.ins (S.nm.ad C) dx [])) := fun b o eb => by
    rw [upd_ne (ne_of_none eb hx), upd_ne (ne_of_none eb hd)]
    exact eb
  refine ⟨x, dx, n, rfl, upd_same, ?_, fun hn H' keep at_ => ⟨rfl, ?_⟩, fun hn H' sm => ?_⟩
  · rw [upd_ne hne]
    exact upd_same
  · have gx : G1 x = none := x1.gh.free hx
    have sg : Same G1 (upd G1 x (.ins (S.nm.ad C) dx [(fld, .int n)])) := same_upd gx
    have sh : Same H1 H' := fun b o eb => keep b o (ne_of_none eb hx) (smI b o eb)
    refine ⟨upd G1 x (.ins (S.nm.ad C) dx [(fld, .int n)]), .ins C [fld] [.int n], x1.trans ⟨sg, sh, fun b o eb => ?_, fun a ea na => ?_⟩, .of (.ins (vs := [.int n]) upd_same (.cons (.int n) .nil)), (q1 hn).2⟩
    · by_cases hbx : b = x
      · subst hbx
        rw [upd_same] at eb
        cases eb
        exact at_
      · rw [upd_ne hbx] at eb
        exact sh b o (x1.gh b o eb)
    · rw [upd_ne (fun z => na (by rw [z]; exact x1.h.free hx))]
      exact ea
  · exact hW G1 H' σ ρ "NoWay" (rr.go (Ext.grow x1.gh (smI.trans sm))) (q2 hn)
end
def M_look_at : MD := fun ds P => ∃ n lo hi : Int, ds = [.int n, .int lo, .int hi] ∧ (lo ≤ n ∧ n ≤ hi → P (.ret .non)) ∧ (¬(lo ≤ n ∧ n ≤ hi) → P (.exn "NoWay"))
/-- the reading of such an __init__ -/
theorem init_read {Γ : Gm} {C fld : Str} {lo hi : Int} {x dx : Addr} {n : Int} {H : Hp} {Q : VK} {E : XK} {W : L2.WX} {σ : L2.St} (hf : FldOk Γ.K Γ.nm C fld) (eW : ∀ c d H, W c d σ H = E c d H) (h0 : σ[0]? = some (some (.ref x))) (h1 : σ[1]? = some (some (.int n)))
    (hx : H x = some (.ins (Γ.nm.ad C) dx [])) (hd : H dx = some (.own x))
    (q1 : lo ≤ n ∧ n ≤ hi → ∀ H' : Hp, (∀ b o, b ≠ x → H b = some o → H' b = some o) → H' x = some (.ins (Γ.nm.ad C) dx [(fld, .int n)]) → Q .non H')
    (q2 : ¬(lo ≤ n ∧ n ≤ hi) → ∀ H' : Hp, Same H H' → E (.ref (Γ.nm.ad "NoWay")) none H') :
    tSeq (tDrop (tCallS (spD Γ.nm M_look_at) (WE W) (tCons (tVar 1) (tCons (tC (.int lo)) (tCons (tC (.int hi)) tNil))))) (sFld Γ.K (tVar 0) (tVar 1) fld) { nx := fun _ H' => Q .non H', rt := Q } σ H := by
  refine ⟨.int n, h1, ⟨H, [.int n, .int lo, .int hi], fun o => (o = .ret .non ∧ (lo ≤ n ∧ n ≤ hi)) ∨ (o = .exn "NoWay" ∧ ¬(lo ≤ n ∧ n ≤ hi)), Same.refl H, .cons (.int n) (.cons (.int lo) (.cons (.int hi) .nil)), ⟨n, lo, hi, rfl, fun z => .inl ⟨rfl, z⟩, fun z => .inr ⟨rfl, z⟩⟩, fun G' H' v r xx rv nb p => ?_, fun C' H' sm p => ?_⟩⟩
  · rcases p with ⟨_, z⟩ | ⟨p, _⟩
    · have sh := xx.h
      refine ⟨.int n, h1, .ref x, h0, x, Γ.nm.ad C, dx, [], rfl, sh _ _ hx, hf.1, hf.2, by decide, ?_⟩
      exact q1 z _ (fun b o hb eb => by rw [upd_ne hb]; exact sh _ _ eb) upd_same
    · cases p
  · rcases p with ⟨p, _⟩ | ⟨p, z⟩
    · cases p
    · cases p
      show W _ _ σ H'
      rw [eW]
      exact q2 z H' sm

/-! ### the six ways -/
namespace WayM
def cls : WayM → Str
  | .plain _ => "Plain" | .below _ => "Below" | .bal _ => "Balanced" | .grow _ => "Growing" | .fall _ => "Falling" | .pairs _ => "Pairs"
def fld : WayM → Str
  | .plain _ => "base" | .below _ => "base" | .bal _ => "half" | .grow _ => "first" | .fall _ => "most" | .pairs _ => "most"
def d (w : WayM) : D := .ins w.cls [w.fld] [.int w.v]
end WayM

/-! ### methods of ways -/
abbrev MW := WayM → List D → (Out → Prop) → Prop
def atC (C : Str) (mw : MW) : MD := fun ds P => ∃ (w : WayM) (rest : List D), w.cls = C ∧ w.ok ∧ ds = w.d :: rest ∧ mw w rest P
def WM (LC : List Str) (Γ : Gm) (k : Nat) (m : Str) (n : Nat) (mw : MW) : Prop := ∀ w : WayM, w.cls ∈ LC → CalM Γ k w.cls m n (atC w.cls mw)
theorem WM.mono {LC : List Str} {Γ : Gm} {j k : Nat} {m : Str} {n : Nat} {mw : MW} (h : WM LC Γ j m n mw) (l : j ≤ k) : WM LC Γ k m n mw := fun w hw => (h w hw).mono l
theorem meth_way {LC : List Str} {Γ : Gm} {ex : TX} {k i : Nat} {m : Str} {n : Nat} {t : TDs} {mw : MW} {ρ : Env} {Q : D → Prop} (h : WM LC Γ k m n mw) (w : WayM) (hw : w.cls ∈ LC) (hok : w.ok) (hm : m ∉ [w.fld]) (e : ρ[i]? = some (some w.d))
    (q : t ρ fun ds => oCall ex ρ (w.d :: ds) (atC w.cls mw) Q) : eMeth Γ ex k i m n t ρ Q := ⟨w.cls, [w.fld], [.int w.v], _, e, hm, h w hw, q⟩
/-- facts of the ways' classes -/
def FlT (LC : List Str) (Γ : Gm) : Prop := ∀ w : WayM, w.cls ∈ LC → FldOk Γ.K Γ.nm w.cls w.fld
def IsT (LC : List Str) (Γ : Gm) (C2 : Str) : Prop := ∀ w : WayM, w.cls ∈ LC → InsTy Γ.K (Γ.nm.ad w.cls) ∧ PySem.W.kitOne Γ.K (.ref (Γ.nm.ad w.cls)) (.ref (Γ.nm.ad C2)) = some (decide (C2 = "Way" ∨ w.cls = C2))
theorem fld_one {f : Str} {d : D} : fldOf [f] [d] f = some d := if_pos rfl
theorem fld_way {LC : List Str} {Γ : Gm} (h : FlT LC Γ) {w : WayM} (hw : w.cls ∈ LC) {Q : D → Prop} (q : Q (.int w.v)) : FldOk Γ.K Γ.nm w.cls w.fld ∧ ∃ x, fldOf [w.fld] [D.int w.v] w.fld = some x ∧ Q x := ⟨h w hw, _, fld_one, q⟩
theorem nf_low (w : WayM) : ("low" : Str) ∉ [w.fld] := by
  cases w with
  | plain x => show ("low" : Str) ∉ [("base" : Str)]; decide
  | below x => show ("low" : Str) ∉ [("base" : Str)]; decide
  | bal x => show ("low" : Str) ∉ [("half" : Str)]; decide
  | grow x => show ("low" : Str) ∉ [("first" : Str)]; decide
  | fall x => show ("low" : Str) ∉ [("most" : Str)]; decide
  | pairs x => show ("low" : Str) ∉ [("most" : Str)]; decide
theorem nf_high (w : WayM) : ("high" : Str) ∉ [w.fld] := by
  cases w with
  | plain x => show ("high" : Str) ∉ [("base" : Str)]; decide
  | below x => show ("high" : Str) ∉ [("base" : Str)]; decide
  | bal x => show ("high" : Str) ∉ [("half" : Str)]; decide
  | grow x => show ("high" : Str) ∉ [("first" : Str)]; decide
  | fall x => show ("high" : Str) ∉ [("most" : Str)]; decide
  | pairs x => show ("high" : Str) ∉ [("most" : Str)]; decide
theorem nf_ratio (w : WayM) : ("ratio" : Str) ∉ [w.fld] := by
  cases w with
  | plain x => show ("ratio" : Str) ∉ [("base" : Str)]; decide
  | below x => show ("ratio" : Str) ∉ [("base" : Str)]; decide
  | bal x => show ("ratio" : Str) ∉ [("half" : Str)]; decide
  | grow x => show ("ratio" : Str) ∉ [("first" : Str)]; decide
  | fall x => show ("ratio" : Str) ∉ [("most" : Str)]; decide
  | pairs x => show ("ratio" : Str) ∉ [("most" : Str)]; decide
theorem nf_weight (w : WayM) : ("weight" : Str) ∉ [w.fld] := by
  cases w with
  | plain x => show ("weight" : Str) ∉ [("base" : Str)]; decide
  | below x => show ("weight" : Str) ∉ [("base" : Str)]; decide
  | bal x => show ("weight" : Str) ∉ [("half" : Str)]; decide
  | grow x => show ("weight" : Str) ∉ [("first" : Str)]; decide
  | fall x => show ("weight" : Str) ∉ [("most" : Str)]; decide
  | pairs x => show ("weight" : Str) ∉ [("most" : Str)]; decide
theorem nf_split (w : WayM) : ("split" : Str) ∉ [w.fld] := by
  cases w with
  | plain x => show ("split" : Str) ∉ [("base" : Str)]; decide
  | below x => show ("split" : Str) ∉ [("base" : Str)]; decide
  | bal x => show ("split" : Str) ∉ [("half" : Str)]; decide
  | grow x => show ("split" : Str) ∉ [("first" : Str)]; decide
  | fall x => show ("split" : Str) ∉ [("most" : Str)]; decide
  | pairs x => show ("split" : Str) ∉ [("most" : Str)]; decide
theorem nf_has (w : WayM) : ("has" : Str) ∉ [w.fld] := by
  cases w with
  | plain x => show ("has" : Str) ∉ [("base" : Str)]; decide
  | below x => show ("has" : Str) ∉ [("base" : Str)]; decide
  | bal x => show ("has" : Str) ∉ [("half" : Str)]; decide
  | grow x => show ("has" : Str) ∉ [("first" : Str)]; decide
  | fall x => show ("has" : Str) ∉ [("most" : Str)]; decide
  | pairs x => show ("has" : Str) ∉ [("most" : Str)]; decide
def six : List Str := ["Plain", "Below", "Balanced", "Growing", "Falling", "Pairs"]
theorem six_all (w : WayM) : w.cls ∈ six := by
  cases w with
  | plain x => show ("Plain" : Str) ∈ six; decide
  | below x => show ("Below" : Str) ∈ six; decide
  | bal x => show ("Balanced" : Str) ∈ six; decide
  | grow x => show ("Growing" : Str) ∈ six; decide
  | fall x => show ("Falling" : Str) ∈ six; decide
  | pairs x => show ("Pairs" : Str) ∈ six; decide
end DD

set_option Elab.async false
set_option linter.all false
set_option maxRecDepth 100000
set_option maxHeartbeats 1000000
namespace DD
open PySem PySem.Spec PyProof.Rows L2

/-! ### loops told by the place -/
theorem for_at {g : TDG} {tb : TDS} {E : DE} {items : List D} (A : Nat → Prop) (enc : Nat → Env) (a0 : A 0) (step : ∀ (i : Nat) (d : D) (N : Env → Prop), items[i]? = some d → A i → (A (i + 1) → ∀ ρ', Weak ρ' (enc (i + 1)) → N ρ') → g d (enc i) fun ρ2 => tb { nx := N, rt := E.rt, bk := E.nx, ct := N } ρ2)
    (done : A items.length → E.nx (enc items.length)) : forR g tb E items (enc 0) := by
  refine for_inv (fun ds ρ => ∃ i, i ≤ items.length ∧ ds = items.drop i ∧ ρ = enc i ∧ A i) (fun d rest ρ N h hn => ?_) (fun ρ h => ?_) items (enc 0) ⟨0, Nat.zero_le _, rfl, rfl, a0⟩
  · obtain ⟨i, hi, e, rfl, a⟩ := h
    have hl : i < items.length := by
      by_cases hl : i < items.length
      · exact hl
      · rw [List.drop_eq_nil_of_le (Nat.le_of_not_lt hl)] at e; cases e
    rw [List.drop_eq_getElem_cons hl] at e
    injection e with e1 e2
    refine step i d N (by rw [List.getElem?_eq_getElem hl, e1]) a fun a' ρ' w => hn ρ' _ w ⟨i + 1, hl, e2, rfl, a'⟩
  · obtain ⟨i, hi, e, rfl, a⟩ := h
    have : i = items.length := by
      have := congrArg List.length e
      simp at this
      omega
    subst this
    exact done a
theorem range_len (lo : Int) (n : Nat) : (rangeD lo n).length = n := by simp [rangeD]
theorem for_range {g : TDG} {tb : TDS} {E : DE} {lo : Int} {n : Nat} (A : Nat → Prop) (enc : Nat → Env) (a0 : A 0) (step : ∀ (i : Nat) (N : Env → Prop), i < n → A i → (A (i + 1) → ∀ ρ', Weak ρ' (enc (i + 1)) → N ρ') → g (.int (lo + (i : Nat))) (enc i) fun ρ2 => tb { nx := N, rt := E.rt, bk := E.nx, ct := N } ρ2)
    (done : A n → E.nx (enc n)) : forR g tb E (rangeD lo n) (enc 0) := by
  refine for_at A enc a0 (fun i d N e a hN => ?_) (by rw [range_len]; exact done)
  have hi : i < n := by
    by_cases hi : i < n
    · exact hi
    · rw [List.getElem?_eq_none (by rw [range_len]; omega)] at e; cases e
  have : d = .int (lo + (i : Nat)) := by
    simp only [rangeD, List.getElem?_map, List.getElem?_range hi, Option.map_some] at e
    exact (Option.some.inj e).symm
  subst this
  exact step i N hi a hN
theorem for_range0 {g : TDG} {tb : TDS} {E : DE} {n : Nat} (A : Nat → Prop) (enc : Nat → Env) (a0 : A 0) (step : ∀ (i : Nat) (N : Env → Prop), i < n → A i → (A (i + 1) → ∀ ρ', Weak ρ' (enc (i + 1)) → N ρ') → g (.int (i : Nat)) (enc i) fun ρ2 => tb { nx := N, rt := E.rt, bk := E.nx, ct := N } ρ2)
    (done : A n → E.nx (enc n)) : forR g tb E (rangeD 0 n) (enc 0) := for_range A enc a0 (fun i N h a hN => by rw [Int.zero_add]; exact step i N h a hN) done
theorem down_len (lo : Int) (n : Nat) : (downD lo n).length = n := by simp [downD]
theorem for_down {g : TDG} {tb : TDS} {E : DE} {hi : Int} {n : Nat} (A : Nat → Prop) (enc : Nat → Env) (a0 : A 0) (step : ∀ (i : Nat) (N : Env → Prop), i < n → A i → (A (i + 1) → ∀ ρ', Weak ρ' (enc (i + 1)) → N ρ') → g (.int (hi - (i : Nat))) (enc i) fun ρ2 => tb { nx := N, rt := E.rt, bk := E.nx, ct := N } ρ2)
    (done : A n → E.nx (enc n)) : forR g tb E (downD hi n) (enc 0) := by
  refine for_at A enc a0 (fun i d N e a hN => ?_) (by rw [down_len]; exact done)
  have hi2 : i < n := by
    by_cases hi : i < n
    · exact hi
    · rw [List.getElem?_eq_none (by rw [down_len]; omega)] at e; cases e
  have : d = .int (hi - (i : Nat)) := by
    simp only [downD, List.getElem?_map, List.getElem?_range hi2, Option.map_some] at e
    exact (Option.some.inj e).symm
  subst this
  exact step i N hi2 a hN

/-! ### at a place -/
theorem atI_nat {α : Type} {l : List α} {i : Nat} {x : α} {j : Int} (ej : j = i) (h : l[i]? = some x) : L2.atI l j = some x := by
  subst ej
  have hi : i < l.length := by
    by_cases hi : i < l.length
    · exact hi
    · rw [List.getElem?_eq_none (by omega)] at h; cases h
  unfold L2.atI L2.ixN
  rw [if_pos (by omega), if_pos (by omega)]
  exact h
theorem atI_last {α : Type} {l : List α} {x : α} (h : l.getLast? = some x) : L2.atI l (-1) = some x := by
  have hl : l ≠ [] := fun z => by subst z; cases h
  have : 0 < l.length := List.length_pos_iff.mpr hl
  unfold L2.atI L2.ixN
  rw [if_neg (by omega), if_pos (by omega)]
  rw [List.getLast?_eq_getElem?] at h
  show l[((-1 : Int) + l.length).toNat]? = some x
  rw [show ((-1 : Int) + l.length).toNat = l.length - 1 by omega]
  exact h
/-- a list of written ints and a cut of the script, at a place: an int -/
theorem cells_at {ms ns : List Int} {lo hi : Option Int} {i : Nat} (h : i < (intsD ms ++ cutD (intsD ns) lo hi).length) : ∃ c, (intsD ms ++ cutD (intsD ns) lo hi)[i]? = some (.int c) := by
  rw [List.getElem?_eq_getElem h]
  obtain ⟨c, e⟩ := mem_cells (List.getElem_mem h)
  exact ⟨c, by rw [e]⟩

theorem len_pos {a : D} {l : List D} : (0 : Int) < ((a :: l).length : Int) := Int.natCast_pos.mpr (Nat.succ_pos _)
theorem Num.n5 (a : Num) : isBor (frzO (borO a.d)) = false := by cases a <;> rfl
theorem Num.n6 (a : Num) : isBor (frzO a.d) = false := by cases a <;> rfl
theorem Num.d_int {a : Num} (h : a.isP = false) : a.d = .int a.x := by cases a <;> first | rfl | cases h
theorem Num.d_pair {a : Num} (h : a.isP = true) : a.d = .tup [.int a.x, .int a.y] := by cases a <;> first | rfl | cases h
end DD

set_option Elab.async false
set_option linter.all false
set_option maxRecDepth 100000
set_option maxHeartbeats 1000000
namespace DD
open PySem PySem.Spec PyProof.Rows L2
theorem ok_tn (i : Int) (a : Num) : retOk (.tup [.int i, a.d]) = true := by cases a <;> rfl
theorem ret2 {P : Out → Prop} {a b a' b' : Int} (h : P (.ret (.tup [.int a, .int b]))) (ea : a = a') (eb : b = b') : P (.ret (.tup [.int a', .int b'])) := by
  subst ea eb
  exact h
end DD

set_option Elab.async false
set_option linter.all false
set_option maxRecDepth 100000
set_option maxHeartbeats 1000000
namespace DD
open PySem PySem.Spec PyProof.Rows L2

/-! ### try .. except C as n: what is caught is known further on -/
/-- a thing that came up since the entry is known from here on -/
theorem inv_know {X : Cx} {pins : List (Addr × Obj)} {σ : L2.St} {H : Hp} {s : Shared} {a C : Addr} {oe : Obj} {vs : Array Value} (I : Inv X pins σ H s) (h1 : s.heap.get? a = some oe) (h2 : Zc (.ref C) none oe) (h3 : oe.data = .fields vs)
    (ha : H a = none) (hl : a ≠ X.env.locals) (hn : ∀ o, X.s_0.heap.get? a = some o → a ∉ X.ex → False) (hp : ∀ p ∈ X.pn ++ pins, p.1 ≠ a) : Inv X pins σ (upd H a (XO C a)) s := by
  have sm : Same H (upd H a (XO C a)) := same_upd ha
  have b0 := I.base
  refine { ok := I.ok, os := I.os, bare := I.bare, loc := I.loc, cell := I.cell, len := I.len, base := ?base, free := ?free, freeC := ?freeC, pin := ?pin, hok := ?hok }
  case base =>
    refine ⟨b0.keep, b0.slot, fun b o e n hx => ?_, b0.there, fun b xs e => sm _ _ (b0.tups b xs e), fun b o u e => sm _ _ (b0.frzs b o u e), fun b ps e => ?_⟩
    · rw [upd_ne (fun z => by subst z; exact hn o e hx)]
      exact b0.free b o e n hx
    · obtain ⟨more, q⟩ := b0.tbls b ps e
      exact ⟨more, sm _ _ q⟩
  case free => rw [upd_ne (Ne.symm hl)]; exact I.free
  case freeC =>
    intro x c e
    have hc : c ≠ a := fun z => by
      obtain ⟨v, o, ho, hd⟩ := I.cell x c e
      rw [z, h1] at ho
      cases ho
      rw [h3] at hd
      cases hd
    rw [upd_ne hc]
    exact I.freeC x c e
  case pin =>
    intro p m
    obtain ⟨q1, q2, q3⟩ := I.pin p m
    exact ⟨q1, by rw [upd_ne (hp p m)]; exact q2, q3⟩
  case hok =>
    intro b o e
    by_cases hb : b = a
    · subst hb
      rw [upd_same] at e
      cases e
      exact ⟨⟨oe, vs, h1, h2, h3⟩, ⟨oe, h1⟩, fun x y ⟨o1, v1, g1, g2, g3⟩ k => ⟨o1, v1, k _ g1, g2, g3⟩⟩
    · rw [upd_ne hb] at e
      exact (I.hok b o e).stay (fun _ _ _ q => q) (fun c q => sm _ _ q) fun c xs q => sm _ _ q
/-- the wish of the clause -/
def wKnow (K : PySem.W.Frag) (c : Value) (i : Nat) (ts : TS) (D : Ends) : L2.WX := fun cls d σ H =>
  ∃ C, cls = .ref C ∧ d = none ∧ PySem.W.exmOne K cls c = some true ∧ ∀ a, H a = none → ts ⟨fun σ2 H2 => D.nx (σ2.set i none) H2, D.rt, fun σ2 H2 => D.bk (σ2.set i none) H2, fun σ2 H2 => D.ct (σ2.set i none) H2⟩ (σ.set i (some (.ref a))) (upd H a (XO C a))
theorem ps_try_know {X : Cx} {x n : Str} {c : Value} {i : Nat} {body suite : List Stmt} {first : Stmt} {np pos pos2 : Pos} {tb : L2.WX → TS} {ts : TS} (st : X.stack = X.env :: X.outer) (fr : X.env.frame = some X.env.locals) (nd : X.N.Nodup) (hi : X.N[i]? = some n) (hk : X.env.kindOf n = some .local) (nc : Names X x c)
    (hb : ∀ (W : L2.WX) (pn : List (Addr × Obj)) (xe : Value → Shared → Prop), Takes (X.tr pn xe) W → PassesOwn (model X.prog X.w) X.A X.env xe → PSs (X.tr pn xe) body (tb W))
    (hs : ∀ (a : Addr) (pn : List (Addr × Obj)), PSs (X.suite a pn) (first :: suite) ts) :
    PS X (.Try body [.ExceptHandler (some (.Name x np)) (some n) (first :: suite) pos2] [] [] pos) (fun D σ H => tb (wKnow X.K c i ts D) D σ H) := by
  constructor
  intro pins s σ H D I h
  have frm : X.A.frames = some (X.env :: X.outer) := by rw [I.ok.frames, st]
  refine wpAny_Try_except (wpAny_mono ((hb (wKnow X.K c i ts D) (X.pn ++ pins) (fun e t => wpAny (model X.prog X.w) X.A (noteFrame e X.env) (fun _ t => wpAny (model X.prog X.w) X.A (setFlight e none) (fun _ t => wpAny (model X.prog X.w) X.A (handleBy e X.env [.ExceptHandler (some (.Name x np)) (some n) (first :: suite) pos2]) (SP X pins D) X.xe t) X.xe t) X.xe t)
    (fun u t xx => ?caught) PassesOwn.looking).run [] s σ H D (I.toTry _) h) (fun f t q => ?thru) fun _ _ q => q)
  case thru =>
    cases f with
    | next => obtain ⟨σ1, H1, J, q⟩ := q; exact wpAny_execs_nil ⟨σ1, H1, J.ofTry I.ok, q⟩
    | ret u => obtain ⟨v, σ1, H1, J, r, q⟩ := q; exact ⟨v, σ1, H1, J.ofTry I.ok, r, q⟩
    | brk => obtain ⟨σ1, H1, J, q⟩ := q; exact ⟨σ1, H1, J.ofTry I.ok, q⟩
    | cont => obtain ⟨σ1, H1, J, q⟩ := q; exact ⟨σ1, H1, J.ofTry I.ok, q⟩
  case caught =>
    obtain ⟨a, B, sI, pins1, σ1, H1, cls, d, rfl, JI, nb, up, sky, na, os, ag, C, rfl, rfl, hm, go⟩ := xx
    have J := JI.ofTry I.ok
    have lands : Sky B (X.env :: X.outer) a (Zc (.ref C) none) X.env.locals t.heap := st ▸ sky
    have nB : B.get? a = none := by
      rcases lands with ⟨_, z, _⟩ | ⟨_, z, _⟩ | ⟨_, z, _⟩ <;> exact z
    show wpAny (model X.prog X.w) X.A (noteFrame (.ref a) X.env) _ _ _
    refine Sky.land Zc.steady frm fr lands fun h2 fl2 up2 => ?_
    have J2 : Inv X pins σ1 H1 { t with heap := h2 } := J.landed nb fl2.1 (up.trans up2) os ag
    obtain ⟨o2, v2, g2, z2, f2⟩ := fl2.there
    have far : a ∉ frs (X.env :: X.outer) := fun hmem => by
      obtain ⟨_, o, e, nf⟩ := fl2.2.2.1.mem hmem
      rw [g2] at e
      cases e
      exact nf _ f2
    have aL : a ≠ X.env.locals := fun z => far (List.mem_filterMap.mpr ⟨X.env, List.mem_cons_self, by rw [fr, z]⟩)
    have aF : a ∉ X.fs := fun z => far (by
      obtain ⟨e, he, q⟩ := List.mem_filterMap.mp z
      exact List.mem_filterMap.mpr ⟨e, List.mem_cons_of_mem _ he, q⟩)
    have new : ∀ o, sI.heap.get? a = some o → False := fun o e => by
      have := nb a o e (st ▸ far)
      rw [nB] at this
      cases this
    refine wpAny_handleBy_cons (codeAny_handlers_test ?_) (by intro q; cases q)
    have ty : PySem.W.Looks (model X.prog X.w) h2 (typeOf (.ref a)) (.ref C) := fun A Q E s k q => wpAny_typeOf_ref (k _ _ g2) (by rw [z2.1]; exact q)
    have mt := PySem.W.exm_one (M := model X.prog X.w) J2.kIn ty hm
    have S2 := J2.suite g2 f2 na aL aF
    have named : ∀ {Q : Value → Shared → Prop} {E : Value → Shared → Prop}, Q c { t with heap := h2 } → wpAny (model X.prog X.w) (X.A.mark (some (.ref a))) (eval (.Name x np) X.env) Q E { t with heap := h2 } := fun {Q E} q => by
      rcases nc with ⟨hg, hdb, hv | ⟨hv, hbo, hne⟩⟩
      · exact ld_glob (X := X.suite a ((a, o2) :: (X.pn ++ pins))) S2 hg hv q hdb
      · exact ld_blt (X := X.suite a ((a, o2) :: (X.pn ++ pins))) S2 hg hv hbo q hne hdb
    refine named (mt.here (codeAny_handlers_suite_as (HandSPX.lands_againZ fl2 fun h3 fl3 up3 => ?_)))
    have J3 : Inv X pins σ1 H1 { t with heap := h3 } := J.landed nb fl3.1 ((up.trans up2).trans up3) os ag
    obtain ⟨o3, v3, g3, z3, f3⟩ := fl3.there
    have K3 : Inv X pins σ1 (upd H1 a (XO C a)) { t with heap := h3 } := inv_know J3 g3 z3 f3 na aL (fun o e hx => by
      obtain ⟨o', e'⟩ := J.base.there a o e hx
      exact new o' e') fun p m z => by
        obtain ⟨e, _⟩ := J.pin p m
        exact new _ (z ▸ e)
    have S3 : Inv (X.suite a (X.pn ++ pins)) [] σ1 (upd H1 a (XO C a)) { t with heap := h3 } :=
      ⟨K3.ok.suite a _, K3.os, K3.bare, K3.base, K3.loc, K3.cell, K3.free, K3.freeC, fun p m => K3.pin p (by rw [List.append_nil] at m; exact m), K3.hok, K3.len⟩
    refine store_ok (X := X.suite a (X.pn ++ pins)) (v := .ref a) S3 nd hi (.inl hk) rfl (fun t4 S4 => ?_) (.inr hk)
    refine wpAny_mono ((hs a (X.pn ++ pins)).run [] t4 _ _ _ S4 (go a na)) (fun f t5 q => ?_) (fun _ _ z => z.elim)
    have back : ∀ {σ5 : L2.St} {H5 : Hp} {Q : Shared → Prop}, Inv (X.suite a (X.pn ++ pins)) [] σ5 H5 t5 → (∀ t6, Inv X pins (σ5.set i none) H5 t6 → Q t6) →
        wpAny (model X.prog X.w) X.A (do bindName X.env n .none; unbindBehindTheSuite X.env n pos2) (fun _ t6 => Q t6) X.xe t5 := fun {σ5 H5 Q} S5 hq => by
      have J5 : Inv X pins σ5 H5 t5 := ⟨I.ok, S5.os, S5.bare, S5.base, S5.loc, S5.cell, S5.free, S5.freeC, fun p m => S5.pin p (by rw [List.append_nil]; exact m), S5.hok, S5.len⟩
      exact gone_ok J5 nd hi hk hq
    cases f with
    | next => obtain ⟨σ5, H5, S5, q⟩ := q; exact back S5 fun t6 J6 => ⟨_, _, J6, q⟩
    | ret u => obtain ⟨v, σ5, H5, S5, r, q⟩ := q; exact back S5 fun t6 J6 => ⟨_, _, _, J6, r, q⟩
    | brk => obtain ⟨σ5, H5, S5, q⟩ := q; exact back S5 fun t6 J6 => ⟨_, _, J6, q⟩
    | cont => obtain ⟨σ5, H5, S5, q⟩ := q; exact back S5 fun t6 J6 => ⟨_, _, J6, q⟩

/-! ### .. over data -/
abbrev Sit.tr (S : Sit) (G : Hp) (pn : List (Addr × Obj)) (xe : Value → Shared → Prop) (ex : TX) : Sit := { S with X := S.X.tr pn xe, G0 := G, ex := ex }
abbrev Sit.suite (S : Sit) (G : Hp) (a : Addr) (pn : List (Addr × Obj)) : Sit := { S with X := S.X.suite a pn, G0 := G, ex := fun _ _ => False }
section
variable {nm : Nm} {pp : Pin} {G0 B G H G' H' : Hp} {σ σ' : L2.St} {ρ ρ' : Env}
theorem Rel.low (R : DD.Rel nm G0 B pp G H σ ρ) : DD.Rel nm G B pp G H σ ρ := ⟨⟨Same.refl G, R.ext.h, R.ext.gh, fun a e _ => e⟩, R.len, R.slot, R.apart, R.pin⟩
theorem Ext.up (R : Ext B G0 B G H) (R' : Ext B G B G' H') : Ext B G0 B G' H' := ⟨R.g.trans R'.g, R'.h, R'.gh, fun a e n => R'.new a (R.new a e n) n⟩
theorem Rel.up (R : DD.Rel nm G0 B pp G H σ ρ) (R' : DD.Rel nm G B pp G' H' σ' ρ') : DD.Rel nm G0 B pp G' H' σ' ρ' := ⟨R.ext.up R'.ext, R'.len, R'.slot, R'.apart, R'.pin⟩
end
theorem wR_up {S : Sit} {X' : Cx} {kk : S.nm.K = X'.K} {ww : S.nm.w = X'.w} {ex : TX} {G H : Hp} {σ : L2.St} {ρ : Env} {v : V} {H1 : Hp} {rt : D → Prop} (R : S.Rel G H σ ρ) (h : wR { X := X', nm := S.nm, G0 := G, B := S.B, ex := ex, kk := kk, ww := ww, pp := S.pp, tt := S.tt } v H1 rt) : wR S v H1 rt := by
  cases hb : S.tt with
  | false =>
    unfold wR at h
    simp only [hb] at h
    obtain ⟨G', d, x, q⟩ := h
    exact wR_false hb ⟨G', d, R.ext.up x, q⟩
  | true =>
    unfold wR at h
    simp only [hb] at h
    obtain ⟨G', pt, v0, v1, d0, d1, x, e0, fp, q⟩ := h
    exact wR_true hb ⟨G', pt, v0, v1, d0, d1, R.ext.up x, e0, fp, q⟩
theorem tr_lift {S : Sit} {X' : Cx} {kk : S.nm.K = X'.K} {ww : S.nm.w = X'.w} {ex : TX} {G G1 H : Hp} {σ : L2.St} {ρ : Env} {E : DE} {body : List Stmt} {σ1 : L2.St} {H1 : Hp} (R : S.Rel G H σ ρ) (sg : Same G G1) (h : WSs X' body (lift { X := X', nm := S.nm, G0 := G, B := S.B, ex := ex, kk := kk, ww := ww, pp := S.pp, tt := S.tt } G1 E) σ1 H1) : WSs X' body (lift S G E) σ1 H1 :=
  h.mono (fun _ _ ⟨G', ρ', R', s', q⟩ => ⟨G', ρ', R.up R', sg.trans s', q⟩) (fun _ _ q => wR_up R q) (fun _ _ ⟨G', ρ', R', s', q⟩ => ⟨G', ρ', R.up R', sg.trans s', q⟩) fun _ _ ⟨G', ρ', R', s', q⟩ => ⟨G', ρ', R.up R', sg.trans s', q⟩
def Exm (Γ : Gm) (C c : Str) : Prop := PySem.W.exmOne Γ.K (.ref (Γ.nm.ad C)) (.ref (Γ.nm.ad c)) = some true
def dTry (Γ : Gm) (c : Str) (tb : TX → TDS) (ts : TDS) : TDS := fun E ρ => tb (fun C ρ1 => Exm Γ C c ∧ ts E ρ1) E ρ
def dTryAs (Γ : Gm) (c : Str) (i : Nat) (tb : TX → TDS) (ts : TDS) : TDS := fun E ρ =>
  tb (fun C ρ1 => Exm Γ C c ∧ Nx (fun ρ2 => ts ⟨fun ρ3 => Nx E.nx (put ρ3 i none), E.rt, fun ρ3 => Nx E.bk (put ρ3 i none), fun ρ3 => Nx E.ct (put ρ3 i none)⟩ ρ2) (put ρ1 i (some (.exc C)))) E ρ
section
variable {S : Sit} {Γ : Gm} {c x n : Str} {i : Nat} {body suite : List Stmt} {first : Stmt} {np pos pos2 : Pos} {tb : TX → TDS} {ts : TDS}
theorem js_try_only (c : Str) (st : S.X.stack = S.X.env :: S.X.outer) (fr : S.X.env.frame = some S.X.env.locals) (nc : Names S.X x (.ref (S.nm.ad c)))
    (hb : ∀ (G : Hp) (pn : List (Addr × Obj)) (xe : Value → Shared → Prop) (ex : TX), JX (S.tr G pn xe ex) → PassesOwn (model S.X.prog S.X.w) S.X.A S.X.env xe → JSs (S.tr G pn xe ex) body (tb ex))
    (hs : ∀ (G : Hp) (a : Addr) (pn : List (Addr × Obj)), JSs (S.suite G a pn) (first :: suite) ts) (hG : S.gm = Γ := by rfl) :
    JS S (.Try body [.ExceptHandler (some (.Name x np)) none (first :: suite) pos2] [] [] pos) (dTry Γ c tb ts) := by
  subst hG
  refine ⟨fun G H σ ρ E R h => WS.of (ps_try_only (tb := fun W D σ1 H1 => ∀ pn xe, Takes (S.X.tr pn xe) W → PassesOwn (model S.X.prog S.X.w) S.X.A S.X.env xe → WSs (S.X.tr pn xe) body D σ1 H1) (ts := fun a cls d D σ1 H1 => ∀ pn, WSs (S.X.suite a pn) (first :: suite) D σ1 H1) st fr nc takes0
    (fun W pn xe tk po => ⟨fun pins s σ1 H1 D I q => q pn xe tk po pins s I⟩) fun a oe cls d pn _ _ => ⟨fun pins s σ1 H1 D I q => q _ pins s I⟩) ?_⟩
  intro pn xe tk po
  have jx : JX (S.tr G pn xe fun C ρ1 => Exm S.gm C c ∧ ts E ρ1) := ⟨_, tk, fun G1 H1 σ1 ρ1 C R1 ⟨e, q⟩ => ⟨true, e, fun _ a na pn1 => tr_lift R R1.ext.g ((hs G a pn1).run G1 H1 σ1 ρ1 E R1 q), fun z => nomatch z⟩⟩
  exact tr_lift R (Same.refl G) ((hb G pn xe _ jx po).run G H σ ρ E R.low h)
/-- what was caught is known where its name is set -/
theorem Rel.caught {nm : Nm} {pp : Pin} {G0 B G H : Hp} {σ : L2.St} {ρ : Env} (R : DD.Rel nm G0 B pp G H σ ρ) {a : Addr} {C : Str} (i : Nat) (na : H a = none) (np : npb pp i = true) :
    DD.Rel nm G0 B pp (upd G a (XO (nm.ad C) a)) (upd H a (XO (nm.ad C) a)) (σ.set i (some (.ref a))) (ρ.set i (some (.exc C))) := by
  have gp : G a = none := R.gh.free na
  have sg : Same G (upd G a (XO (nm.ad C) a)) := same_upd gp
  refine R.set i ⟨sg, same_upd na, fun b o e => ?_, fun b e n => ?_⟩ (.of (.exc upd_same)) rfl np
  · by_cases hb : b = a
    · subst hb; rw [upd_same] at e ⊢; exact e
    · rw [upd_ne hb] at e ⊢; exact R.gh _ _ e
  · rw [upd_ne (fun z => n (by rw [z]; exact na))]; exact e
/-- a name is let go -/
theorem Rel.drop {nm : Nm} {pp : Pin} {G0 B G H : Hp} {σ : L2.St} {ρ : Env} (R : DD.Rel nm G0 B pp G H σ ρ) (i : Nat) (np : npb pp i = true) : DD.Rel nm G0 B pp G H (σ.set i none) (ρ.set i none) := by
  have key : ∀ (j : Nat) (d : D), (ρ.set i none)[j]? = some (some d) → j ≠ i ∧ ρ[j]? = some (some d) := fun j d e => by
    by_cases h : i = j
    · subst h
      by_cases hi : i < ρ.length
      · rw [List.getElem?_set_self hi] at e; cases e
      · rw [List.getElem?_eq_none (by simpa using hi)] at e; cases e
    · rw [List.getElem?_set_ne h] at e
      exact ⟨Ne.symm h, e⟩
  refine ⟨R.ext, by simp [R.len], fun j d e => ?_, fun j k l l' p hj hk hjk e1 e2 => ?_, fun j q e => by rw [List.getElem?_set_ne (npb_ne np e).symm]; exact R.pin j q e⟩
  · obtain ⟨h1, h2⟩ := key j d e
    obtain ⟨v, g1, g2, g3⟩ := R.slot j d h2
    exact ⟨v, by rw [List.getElem?_set_ne (Ne.symm h1)]; exact g1, g2, g3⟩
  · obtain ⟨h1, h2⟩ := key j _ hj
    obtain ⟨h3, h4⟩ := key k _ hk
    rw [List.getElem?_set_ne (Ne.symm h1)] at e1
    rw [List.getElem?_set_ne (Ne.symm h3)] at e2
    exact R.apart j k l l' p h2 h4 hjk e1 e2
theorem js_try_as (c : Str) (nd : S.X.N.Nodup) (hi : S.X.N[i]? = some n) (hk : S.X.env.kindOf n = some .local) (st : S.X.stack = S.X.env :: S.X.outer) (fr : S.X.env.frame = some S.X.env.locals) (nc : Names S.X x (.ref (S.nm.ad c)))
    (hb : ∀ (G : Hp) (pn : List (Addr × Obj)) (xe : Value → Shared → Prop) (ex : TX), JX (S.tr G pn xe ex) → PassesOwn (model S.X.prog S.X.w) S.X.A S.X.env xe → JSs (S.tr G pn xe ex) body (tb ex))
    (hs : ∀ (G : Hp) (a : Addr) (pn : List (Addr × Obj)), JSs (S.suite G a pn) (first :: suite) ts) (hG : S.gm = Γ := by rfl) (npp : npb S.pp i = true := by rfl) :
    JS S (.Try body [.ExceptHandler (some (.Name x np)) (some n) (first :: suite) pos2] [] [] pos) (dTryAs Γ c i tb ts) := by
  subst hG
  refine ⟨fun G H σ ρ E R h => WS.of (ps_try_know (tb := fun W D σ1 H1 => ∀ pn xe, Takes (S.X.tr pn xe) W → PassesOwn (model S.X.prog S.X.w) S.X.A S.X.env xe → WSs (S.X.tr pn xe) body D σ1 H1) (ts := fun D σ1 H1 => ∀ a pn, WSs (S.X.suite a pn) (first :: suite) D σ1 H1) st fr nd hi hk nc
    (fun W pn xe tk po => ⟨fun pins s σ1 H1 D I q => q pn xe tk po pins s I⟩) fun a pn => ⟨fun pins s σ1 H1 D I q => q _ _ pins s I⟩) ?_⟩
  intro pn xe tk po
  have jx : JX (S.tr G pn xe fun C ρ1 => Exm S.gm C c ∧ Nx (fun ρ2 => ts ⟨fun ρ3 => Nx E.nx (put ρ3 i none), E.rt, fun ρ3 => Nx E.bk (put ρ3 i none), fun ρ3 => Nx E.ct (put ρ3 i none)⟩ ρ2) (put ρ1 i (some (.exc C)))) :=
    ⟨_, tk, fun G1 H1 σ1 ρ1 C R1 ⟨e, q⟩ => ⟨_, rfl, rfl, e, fun a na a2 pn1 => by
      have R2 := Rel.caught (C := C) R1 i na npp
      have r := (hs G a2 pn1).run _ _ _ _ _ R2 q.getS
      refine (tr_lift R R2.ext.g r).mono (fun σ5 H5 ⟨G', ρ', R', s', q⟩ => ?_) (fun _ _ q => q) (fun σ5 H5 ⟨G', ρ', R', s', q⟩ => ?_) (fun σ5 H5 ⟨G', ρ', R', s', q⟩ => ?_)
      · exact ⟨G', _, R'.drop i npp, s', q.getS⟩
      · exact ⟨G', _, R'.drop i npp, s', q.getS⟩
      · exact ⟨G', _, R'.drop i npp, s', q.getS⟩⟩⟩
  exact tr_lift R (Same.refl G) ((hb G pn xe _ jx po).run G H σ ρ E R.low h)
end
end DD

set_option Elab.async false
set_option linter.all false
set_option maxRecDepth 100000
set_option maxHeartbeats 1000000
namespace DD
open PySem PySem.Spec PyProof.Rows L2
section
variable {S : Sit} {a b c e : Expr} {es : List Expr} {pos : Pos} {τa τb τc : TD} {st : Stmt} {sts : List Stmt} {t u : TDS}

/-! ### x[k] += e, x a list of ints of one's own -/
def rGetI (K : PySem.W.Frag) : V → V → Hp → VK → Prop := fun o i H Q => ∃ p xs n v, o = .ref p ∧ i = .int n ∧ SqL K H p xs ∧ L2.atI xs n = some v ∧ Q v H
theorem get_item {X : Cx} : PGet X (rGetI X.K) := by
  rintro pins s σ H o i ov iv Q I ro ri ⟨p, xs, n, v, rfl, rfl, hq, he, q⟩
  obtain rfl : ov = Value.ref p := ro
  obtain ⟨t, rfl⟩ := ri
  obtain ⟨its, r, pl, hz⟩ := I.list hq
  have big := line63
  have len := r.length
  unfold L2.atI at he
  cases ej : ixN xs.length n with
  | none => rw [ej] at he; cases he
  | some j =>
    rw [ej] at he
    obtain ⟨w, ew, rw'⟩ := r.get he
    obtain ⟨-, h2, h3, h4⟩ := ixN_seq ej
    have res : EP X pins σ Q w s := ⟨v, H, I, rw', q⟩
    unfold ixN at ej
    by_cases h0 : 0 ≤ n
    · rw [if_pos h0, if_pos h4] at ej
      obtain rfl := Option.some.inj ej
      exact wpAny_getItem_list pl.isList h0 (by omega) (by simpa using ew) res
    · rw [if_neg h0, if_pos h3] at ej
      obtain rfl := Option.some.inj ej
      exact wpAny_getItem_list_neg pl.isList (by omega) (by rw [List.size_toArray]; omega) (by omega) (by rw [List.size_toArray, ← len]; simpa using ew) res
def dAugIx (i : Nat) (g : Int → Int → Int) (τk τe : TD) : TDS := fun E ρ => match ρ[i]? with
  | some (some (.own l)) => τk ρ fun k => match k with
    | .int n => ∃ j z, ixN l.length n = some j ∧ l[j]? = some (.int z) ∧ τe ρ fun d => match d with
      | .int y => Nx E.nx (put ρ i (some (.own (l.set j (.int (g z y))))))
      | _ => False
    | _ => False
  | _ => False
theorem js_augIx (i : Nat) {x : Str} {k : Expr} {px tpos : Pos} {op : Operator} {g : Int → Int → Int} (ho : PE S.X (.Name x px) (tVar i)) (hk : JE S k τb) (he : JE S e τa) (hp : PIp S.X op (ipI g))
    (ha : ∀ ov iv new, augStore k ov iv new = (do holding [new, ov, iv] (setItem ov iv new); release [new, ov, iv] []; pure .next) := by intros; rfl) : JS S (.AugAssign (.Subscript (.Name x px) k tpos) op e pos) (dAugIx i g τb τa) := by
  refine ⟨fun G H σ ρ E R h => WS.of (ps_augS ho pe_w get_item pe_w hp set_list ha) ?_⟩
  unfold dAugIx at h
  split at h
  · rename_i l el
    obtain ⟨p, vs, e1, e2, e3, e4, e5⟩ := R.ownAt el
    refine ⟨.ref p, e1, (hk.run G H σ ρ _ R h).mono fun kv H1 ⟨G1, kd, x1, r1, q1⟩ => ?_⟩
    cases kd with
    | int n =>
      obtain ⟨j, z, hj, hz, q1⟩ := q1
      cases repV_int r1
      have p1 : H1 p = some (.lst vs) := x1.h _ _ e2
      obtain ⟨v, hv, rv⟩ := (e5.mono x1.g).get hz
      cases rv
      have hj2 : ixN vs.length n = some j := by rw [e5.length]; exact hj
      refine ⟨p, vs, n, .int z, rfl, rfl, .inl (.inl p1), by unfold L2.atI; rw [hj2]; exact hv, ?_⟩
      refine (he.run G1 H1 σ ρ _ (R.go x1) q1).mono fun yv H2 ⟨G2, yd, x2, r2, q2⟩ => ?_
      cases yd with
      | int y =>
        cases repV_int r2
        have z2 := x1.trans (Ext.from x1.h x2)
        have rl := e5.mono z2.g
        exact ⟨z, y, rfl, rfl, p, vs, n, j, rfl, rfl, z2.h _ _ e2, hj2, G2, _, (R.go z2).mutate el e1 (rl.set j (.int _)), z2.g, q2.getS⟩
      | _ => exact q2.elim
    | _ => exact q1.elim
  · exact h.elim

/-! ### all, int of a truth, insert -/
def cAll : RDs := fun ds Q => ∃ ns : List Bool, (ds = [.lst (blsD ns)] ∨ ds = [.bor (blsD ns)]) ∧ Q (.bl (ns.all id))
theorem k_all (hc : S.X.calm = true) : DCall S (.builtin "all") cAll := .of fun H0 G H xs ds Q s0 gh r h => by
  obtain ⟨ns, e, h⟩ := h
  have kk := S.kk
  have ex : ∃ d, ds = [d] ∧ DD.seqD d = some (blsD ns) := by rcases e with e | e <;> exact ⟨_, e, rfl⟩
  obtain ⟨d, rfl, ed⟩ := ex
  obtain ⟨v, rfl, rv, _⟩ := r.one
  obtain ⟨p, vs, rfl, hp, ra⟩ := rv.seqD gh ed
  refine ⟨_, cr_all hc, p, ns, rfl, ?_, G, _, Ext.refl gh, .of (.bl _), h⟩
  rw [← kk, ← reps_bls ra]
  exact hp
def cIntB : RDs := fun ds Q => match ds with
  | [.bl k] => Q (.int (if k then 1 else 0))
  | _ => False
theorem k_intB : DCall S (.type "int") cIntB := .of fun H0 G H xs ds Q s0 gh r h => by
  match ds, r, h with
  | [.bl k], r, h =>
    obtain ⟨v, rfl, rv, _⟩ := r.one
    cases repV_bl rv
    exact ⟨_, call_int1, .inr ⟨k, rfl, G, _, Ext.refl gh, .of (.int _), h⟩⟩
def mInsert : RM := fun l ds K => match ds with
  | [.int i, d] => isBor d = false ∧ l.length < sizeLine ∧ (0 ≤ i ∧ i < 2 ^ 63) ∧ K (l.take i.toNat ++ [d] ++ l.drop i.toNat)
  | _ => False
theorem m_insert : DMut S "list.insert" mInsert := by
  intro G H p vs ws l ds K hp gh rl rw h
  match ds, rw, h with
  | [.int i, d], .cons (v := iv) ri ni (.cons (v := v) rd nd .nil), h =>
    obtain ⟨nb, hl, hi, k⟩ := h
    cases repV_int ri
    have r1 := (RepA.cons rd nd .nil).reps (by simp [nb])
    exact ⟨_, vs.take i.toNat ++ [v] ++ vs.drop i.toNat, l.take i.toNat ++ [d] ++ l.drop i.toNat, mt_insert, ((rl.take _).append r1).append (rl.drop _), k, fun Q q => ⟨p, vs, i, v, rfl, rfl, hp, by rw [rl.length]; exact hl, hi.1, hi.2, q _⟩⟩

/-! ### xs[a:b:c], c from 1 on: some of the things -/
def eSl3 (τ : TD) (tl th : TDo) : TD := fun ρ Q => τ ρ fun d => tl ρ fun _ => th ρ fun _ => match seqD d with
  | some l => ∀ l' : List D, (∀ x ∈ l', x ∈ l) → l'.length ≤ l.length → Q (.own l')
  | none => False
theorem picks {nm : Nm} {G : Hp} {vs : List V} {l : List D} {its : List Value} (r : Reps nm G vs l) (rv : Vals vs its) : ∀ js : List Nat,
    ∃ (ws : List V) (l' : List D), Vals ws (js.filterMap fun j => its.toArray[j]?) ∧ Reps nm G ws l' ∧ ∀ x ∈ l', x ∈ l
  | [] => ⟨[], [], .nil, .nil, fun x h => by cases h⟩
  | j :: js => by
    obtain ⟨ws, l', h1, h2, h3⟩ := picks r rv js
    rw [List.filterMap_cons]
    cases e : its.toArray[j]? with
    | none => exact ⟨ws, l', h1, h2, h3⟩
    | some u =>
      have e' : its[j]? = some u := by simpa using e
      have hlt : j < vs.length := by
        have := (List.getElem?_eq_some_iff.mp e').1
        rw [rv.length]
        exact this
      obtain ⟨u', g1, g2⟩ := rv.get (List.getElem?_eq_getElem hlt)
      rw [e'] at g1
      cases g1
      obtain ⟨d, g3, g4⟩ := r.getV (List.getElem?_eq_getElem hlt)
      refine ⟨vs[j] :: ws, d :: l', .cons g2 h1, .cons g4 h2, fun x hx => ?_⟩
      rcases List.mem_cons.mp hx with rfl | hx
      · exact List.mem_of_getElem? g3
      · exact h3 x hx
theorem je_slice3 {lo hi : Option Expr} {c : Int} {j : Nat} {pc : Pos} {tl th : TDo} {p2 : Pos} (hc : 0 < c) (ha : JE S a τa) (hl : JO S lo tl) (hh : JO S hi th) : JE S (.Subscript a (.Slice lo hi (some (.Constant (.int c) j pc)) p2) pos) (eSl3 τa tl th) := by
  refine ⟨fun G H σ ρ Q R h => fun pins s I => ?_⟩
  refine Subscript_ (thn (ha.run G H σ ρ _ R h pins s I) fun v s1 ⟨x, H1, I1, r1, G1, d, x1, rd, q1⟩ => ?_)
  refine wpAny_Slice (thn (hl.run G1 H1 σ ρ _ (R.go x1) q1 pins s1 I1) fun vl s2 ⟨lo1, H2, I2, pl, G2, x2, q2⟩ => ?_)
  have y2 := x1.trans (Ext.from x1.h x2)
  refine thn (hh.run G2 H2 σ ρ _ (R.go y2) q2 pins s2 I2) fun vu s3 ⟨hi1, H3, I3, pu, G3, x3, q3⟩ => ?_
  have y3 := y2.trans (Ext.from y2.h x3)
  have hst : PO S.X (some (.Constant (.int c) j pc)) (tPart (tC (.int c))) := po_some pe_int
  refine thn (hst.run pins s3 σ H3 (fun o H4 => o = some c ∧ H4 = H3) I3 ⟨c, rfl, rfl, rfl⟩) fun vs s4 ⟨o, H4, I4, ps, eo, e4⟩ => ?_
  subst eo e4
  have rd3 := (rd.ext x2).ext x3
  cases ed : DD.seqD d with
  | none => rw [ed] at q3; exact q3.elim
  | some l =>
    rw [ed] at q3
    have kk := S.kk
    obtain ⟨p, ws, rfl, hp, ra⟩ := rd3.seqD y3.gh ed
    obtain rfl : v = Value.ref p := r1
    have I5 : Inv S.X pins σ H4 { s4 with heap := s4.heap.push { cls := .type "slice", data := .fields #[vl, vu, vs] } } := I4.kept (t' := s4.toks) fun b ob q => Heap.get?_push_of_some _ q
    obtain ⟨its, r, ht, hz⟩ := I5.list (by rw [← kk]; exact hp)
    show wpAny (model S.X.prog S.X.w) S.X.A (subscriptTail a (.Slice lo hi (some (.Constant (.int c) j pc)) p2) (.ref p) (.ref s4.heap.objs.size)) _ S.X.xe { s4 with heap := s4.heap.push { cls := .type "slice", data := .fields #[vl, vu, vs] } }
    refine tail_any (ops := [.ref p, .ref s4.heap.objs.size]) ht.isList.typeIs (PySem.slot_list_getitem.lookup) ?_ (by with_unfolding_all rfl)
    refine wpAny_getItem_list_slice ht.isList (Heap.IsSliceOf.new _ vl vu vs) pl pu ps (fun z => by injection z with z; omega) ?_ (by rw [List.size_toArray, ← r.length]; exact hz)
    have sz := slicePick_size_le its.toArray lo1 hi1 (some c)
    obtain ⟨ns, l', g1, g2, g3⟩ : ∃ (ns : List V) (l' : List D), Vals ns (slicePick its.toArray lo1 hi1 (some c)).toList ∧ Reps S.nm G3 ns l' ∧ ∀ x ∈ l', x ∈ l := by
      unfold slicePick
      exact picks ra r _
    have ln2 := g2.length
    have ln : ns.length = (slicePick its.toArray lo1 hi1 (some c)).size := g1.length.trans (by simp)
    rw [Array.length_toList] at ln
    have sz2 : its.toArray.size = ws.length := by rw [List.size_toArray, r.length]
    have sz4 : l'.length = (slicePick its.toArray lo1 hi1 (some c)).size := ln2.symm.trans ln
    have lw := ra.length
    have gp := I5.hok.fresh (Nat.le_refl _)
    obtain ⟨z1, z2⟩ := new_own (H0 := H) y3.h y3.gh gp g2
    refine ⟨.ref _, _, I5.laid (t' := s4.toks) (o := .lst ns) (fun b ob q => Heap.get?_push_of_some _ q) (Nat.le_refl _) ⟨by omega, _, 0, g1, ?_⟩, rfl, G3, _, y3.trans z1, z2, q3 l' g3 (by omega)⟩
    rw [Array.toArray_toList]
    exact Heap.get?_push_size _ rfl

/-! ### list(reversed(xs)) -/
end
section
variable {prog : Program} {w : World} {A : Around} {E : Value → Shared → Prop} {s : Shared}
theorem list_of_rev {it l : Addr} {items : Array Value} {Q : Value → Shared → Prop} (hh : A.handled = none) (hit : s.heap.IsRevIter it l ((items.size : Int) - 1)) (hl : s.heap.IsList l items) (hne : l ≠ it) (hn : items.size ≤ sizeLine)
    (hQ : ∀ (h' : Heap) (tk c : Nat) (acc : Array Value), (∀ b o, b ≠ it → s.heap.get? b = some o → h'.get? b = some o) → ItemsOf (fun i v => items[items.size - 1 - i]? = some v) acc items.size →
      h'.get? s.heap.objs.size = some { cls := .type "list", dict := none, data := .seq acc c, slots := #[] } → Q (.ref s.heap.objs.size) { s with heap := h', toks := tk }) :
    wpAny (model prog w) A (call (.type "list") [.ref it]) Q E s := by
  have W := (Walks.listRev (prog := prog) (w := w) (A := A.in1.in1) hh it l hne items).toS
  obtain ⟨oi, hoi, _⟩ := id hit
  obtain ⟨ol, hol, _⟩ := id hl
  have n1 : s.heap.objs.size ≠ it := Nat.ne_of_gt (Heap.lt_size hoi)
  have n2 : s.heap.objs.size ≠ l := Nat.ne_of_gt (Heap.lt_size hol)
  have nf : s.heap.objs.size ∉ [it, l] := by simp [n1, n2]
  refine callType_codes (Q₁ := fun obj t => obj = .ref s.heap.objs.size ∧ t = { s with heap := s.heap.push { cls := .type "list", data := .seq #[] } }) F.called_list (F.typeCall_list_1 _) F.entry_list_init (code_list_new _ ⟨rfl, rfl⟩) fun obj t ⟨e1, e2⟩ => ?_
  subst e1 e2
  have at0 : (s.heap.push { cls := .type "list", data := .seq #[] }).get? s.heap.objs.size = some { cls := .type "list", data := .seq #[] } := Heap.get?_push_size _ rfl
  refine ⟨⟨_, at0, rfl⟩, F.args_list_init_2 _ _, ?_⟩
  show wpAny (model prog w) A.in1.in1 (do let old ← Builtin.List.listItems (.ref s.heap.objs.size); Builtin.List.listUpdate (.ref s.heap.objs.size) (fun _ => #[]); letGo old.toList.reverse; Builtin.List.listExtendWith (.ref s.heap.objs.size) (.ref it) .none) _ _ _
  refine wpAny_bind ?_
  unfold Builtin.List.listItems
  refine wpAny_bind (wpAny_seqItems at0 rfl (wpAny_pure ?_))
  show wpAny (model prog w) A.in1.in1 (updateSeq s.heap.objs.size (fun _ => #[]) >>= fun _ => letGo (#[] : Array Value).toList.reverse >>= fun _ => Builtin.List.listExtendWith (.ref s.heap.objs.size) (.ref it) .none) _ _ _
  refine wpAny_bind (wpAny_updateSeq at0 rfl (wpAny_bind (wpAny_letGo ?_)))
  have at1 := Heap.get?_update_self (Obj.mapSeq (fun _ => (#[] : Array Value))) at0 rfl
  obtain ⟨h1, hh1⟩ : ∃ h1, h1 = (s.heap.push { cls := .type "list", data := .seq #[] }).update s.heap.objs.size (Obj.mapSeq (fun _ => (#[] : Array Value))) := ⟨_, rfl⟩
  have k1 : ∀ b o, s.heap.get? b = some o → h1.get? b = some o := fun b o e => by
    rw [hh1]
    exact (Heap.get?_update_other _ _ (Nat.ne_of_gt (Heap.lt_size e))).trans (Heap.get?_push_of_some _ e)
  rw [← hh1] at at1 ⊢
  have rit : h1.IsRevIter it l ((items.size : Int) - 1) := hit.at fun o e => k1 _ _ e
  have rl : h1.IsList l items := by
    obtain ⟨o, e, r⟩ := hl
    exact ⟨o, k1 _ _ e, r⟩
  have ty : ({ s with heap := h1 } : Shared).TypeIs (.ref it) "list_reverseiterator" := Heap.IsRevIter.typeIs (s := { s with heap := h1 }) rit
  unfold Builtin.List.listExtendWith
  refine wpAny_bind (wpAny_typeOf ty ?_)
  rw [if_neg (by simp [Builtin.List.listSameRef, n1])]
  refine wpAny_bind (wpAny_pyIter_revIter (s := { s with heap := h1 }) rit (wpAny_bind (wpAny_holding ?_)))
  unfold Builtin.List.listLengthHint
  refine wpAny_bind (wpAny_specialOf ty RT.nolen_lri ?_)
  show wpAny (model prog w) A.in1.in1 (specialOf (Value.ref it) (Str.ofString "__length_hint__") >>= _) _ _ _
  refine wpAny_bind (wpAny_specialOf ty RT.hint_lri ?_)
  generalize hid : ("list_reverseiterator.__length_hint__" : String) = id0
  wp_delta
  rw [show splitId id0 = some ("list_reverseiterator", "__length_hint__") from by subst hid; decide +kernel]
  subst hid
  refine wpAny_bind (wpAny_isInstance (b := true) ty (by rw [isSubtype_type]; kernel_rfl) (wpAny_pure ?_))
  rw [if_neg (by decide)]
  have e0 : ((items.size : Nat) : Int) - 1 - ((0 : Nat) : Int) = (items.size : Int) - 1 := by omega
  refine wpAny_pure ⟨plainId_quiet F.plain_extend_loop _, codeAny_extend_loopS W hn _ nf _ items.size 0 _ _ _ rfl (Nat.zero_le _) ⟨Nat.zero_le _, by rw [e0]; exact rit, rl⟩ at1 (ItemsOf.nil _) fun s' acc c hm hS hacc => ?_⟩
  rw [Moved.eq_with hm]
  refine ⟨rfl, hQ s'.heap s'.toks c acc (fun b o hb e => hm.heap b o (fun hmem => ?_) (k1 b o e)) hacc hS⟩
  rcases List.mem_cons.mp hmem with e' | hmem
  · exact absurd (Heap.lt_size e) (by rw [e']; exact Nat.lt_irrefl _)
  · exact hb (List.mem_singleton.mp hmem)
end
section
variable {S : Sit} {e : Expr} {τ : TD}
def eRevL (τ : TD) : TD := fun ρ Q => τ ρ fun d => match seqD d with
  | some l => Q (.own l.reverse)
  | none => False
theorem je_listRev {p p2 pos pos2 : Pos} (hc : S.X.calm = true) (hg : Gl S.X "list") (hm : S.X.mg "list" = none) (hg2 : Gl S.X "reversed") (hm2 : S.X.mg "reversed" = none) (he : JE S e τ)
    (hs : starEach [e] S.X.env = (false, eval e S.X.env) :: starEach [] S.X.env := by rfl)
    (hs2 : starEach [.Call (.Name "reversed" p2) [e] [] pos2] S.X.env = (false, eval (.Call (.Name "reversed" p2) [e] [] pos2) S.X.env) :: starEach [] S.X.env := by rfl) :
    JE S (.Call (.Name "list" p) [.Call (.Name "reversed" p2) [e] [] pos2] [] pos) (eRevL τ) := by
  refine ⟨fun G H σ ρ Q R h => fun pins s I => ?_⟩
  refine Call_ (ld_blt I hg hm boot_list (PyProof.Rows.callWith_type1 (args_cons (Call_ (ld_blt I hg2 hm2 PyProof.Rows.boot_reversed (PyProof.Rows.callWith_type1 (args_cons (thn (he.run G H σ ρ _ R h pins s I) fun u s1 ⟨v, H1, I1, r1, G1, d, x1, rd, q1⟩ => args_nil ?_) hs) hs rfl))) hs2) hs2 rfl))
  cases ed : DD.seqD d with
  | none => rw [ed] at q1; exact q1.elim
  | some l =>
    rw [ed] at q1
    have kk := S.kk
    obtain ⟨a, xs, rfl, hq, ra⟩ := rd.seqD x1.gh ed
    obtain rfl : u = Value.ref a := r1
    obtain ⟨its, rv, pl, hz⟩ := I1.list (by rw [← kk]; exact hq)
    refine call_reversed_list pl.isList (args_nil ?_)
    have I2 : Inv S.X pins σ H1 { s1 with heap := s1.heap.push (revObj a ((its.toArray.size : Int) - 1)) } := I1.kept (t' := s1.toks) fun b o e => Heap.get?_push_of_some _ e
    have fp := I1.fpOk (H' := H1) (b := s1.heap.objs.size) (Nat.le_refl _) (I1.hok.fresh (Nat.le_refl _))
    have hl := pl.isList
    obtain ⟨ol, hol, _⟩ := id hl
    have hne : a ≠ s1.heap.objs.size := Nat.ne_of_lt (Heap.lt_size hol)
    have hn : its.toArray.size ≤ sizeLine := by rw [List.size_toArray, ← rv.length]; exact hz
    refine list_of_rev (s := { s1 with heap := s1.heap.push (revObj a ((its.toArray.size : Int) - 1)) }) (I1.ok.hd hc) ⟨_, Heap.get?_push_size _ rfl, rfl, rfl⟩ (hl.push _) hne hn fun h' tk c acc hk hi hS => ?_
    have vr := RT.vals_rev rv hi
    have nw : H1 (s1.heap.push (revObj a ((its.toArray.size : Int) - 1))).objs.size = none := I2.hok.fresh (Nat.le_refl _)
    obtain ⟨z1, z2⟩ := new_own (nm := S.nm) (H0 := H) x1.h x1.gh nw ra.reverse
    have I3 := I2.turnedNew (t' := tk) (ch := [s1.heap.objs.size]) (h' := h') (T := (s1.heap.push (revObj a ((its.toArray.size : Int) - 1))).objs.size) (ob := .lst xs.reverse) (fun b o hb e => hk b o (fun z => hb (by rw [z]; exact List.mem_cons_self)) e) (fun b hb => by rw [List.mem_singleton.mp hb]; exact fp) (Nat.le_refl _)
      ⟨by rw [List.length_reverse]; exact hz, acc.toList, c, vr, by rw [Array.toArray_toList]; exact hS⟩
    exact ⟨.ref _, _, I3, rfl, G1, _, x1.trans z1, z2, q1⟩
end
end DD

set_option Elab.async false
set_option linter.all false
set_option maxRecDepth 100000
set_option maxHeartbeats 1000000
namespace DD

/-! ### numbers, componentwise -/
theorem Num.ext' {a b : Num} (hp : a.isP = b.isP) (hx : a.x = b.x) (hy : a.y = b.y) : a = b := by
  cases a <;> cases b <;> simp_all [Num.isP, Num.x, Num.y]
theorem Num.add_isP (a b : Num) : (a.add b).isP = (a.isP || b.isP) := by cases a <;> cases b <;> rfl
theorem Num.add_x (a b : Num) : (a.add b).x = a.x + b.x := by cases a <;> cases b <;> rfl
theorem Num.add_y (a b : Num) : (a.add b).y = a.y + b.y := by cases a <;> cases b <;> simp [Num.add, Num.y]
theorem Num.mul_isP (a b : Num) : (a.mul b).isP = (a.isP || b.isP) := by cases a <;> cases b <;> rfl
theorem Num.mul_x (a b : Num) : (a.mul b).x = a.x * b.x - a.y * b.y := by cases a <;> cases b <;> simp [Num.mul, Num.x, Num.y]
theorem Num.mul_y (a b : Num) : (a.mul b).y = a.x * b.y + a.y * b.x := by cases a <;> cases b <;> simp [Num.mul, Num.x, Num.y]
theorem Num.y0 {a : Num} (h : a.isP = false) : a.y = 0 := by cases a <;> first | rfl | cases h
theorem Num.eq_i {a : Num} (h : a.isP = false) : a = .i a.x := by cases a <;> first | rfl | cases h
theorem Num.eq_p {a : Num} (h : a.isP = true) : a = .p a.x a.y := by cases a <;> first | rfl | cases h
theorem Num.add_assoc (a b c : Num) : (a.add b).add c = a.add (b.add c) := by
  apply Num.ext' <;> simp only [Num.add_isP, Num.add_x, Num.add_y, Bool.or_assoc] <;> omega
theorem Num.add_comm (a b : Num) : a.add b = b.add a := by
  apply Num.ext' <;> simp only [Num.add_isP, Num.add_x, Num.add_y, Bool.or_comm] <;> omega
theorem Num.mul_assoc (a b c : Num) : (a.mul b).mul c = a.mul (b.mul c) := by
  apply Num.ext' <;> simp only [Num.mul_isP, Num.mul_x, Num.mul_y, Bool.or_assoc] <;> grind
theorem Num.add_mul (a b c : Num) : (a.add b).mul c = (a.mul c).add (b.mul c) := by
  rw [Num.mul_comm, Num.mul_add, Num.mul_comm a c, Num.mul_comm b c]

namespace WayM
theorem nought_isP (w : WayM) : w.nought.isP = w.isPairs := by cases w <;> rfl
theorem nought_x (w : WayM) : w.nought.x = 0 := by cases w <;> rfl
theorem nought_y (w : WayM) : w.nought.y = 0 := by cases w <;> rfl
theorem add_nought {w : WayM} {a : Num} (h : a.isP = w.isPairs) : a.add w.nought = a := by
  apply Num.ext' <;> simp [Num.add_isP, Num.add_x, Num.add_y, nought_isP, nought_x, nought_y, h]
theorem nought_add {w : WayM} {a : Num} (h : a.isP = w.isPairs) : w.nought.add a = a := by rw [Num.add_comm, add_nought h]
theorem ratio_isP {w : WayM} (hr : w.hasRatio = true) (k : Int) : (w.ratio k).isP = w.isPairs := by cases w <;> first | rfl | cases hr
/-- the sum of things times weights, from place k on -/
def wsum (w : WayM) : Nat → List Num → Num
  | _, [] => w.nought
  | k, d :: ds => ((w.weight k).mul d).add (wsum w (k + 1) ds)
def worth (w : WayM) (ds : List Num) : Num := w.wsum 0 ds
@[irreducible] def val (w : WayM) (row : List Int) : Num := w.worth (row.map Num.i)
theorem val_eq (w : WayM) (row : List Int) : w.val row = w.worth (row.map Num.i) := by unfold val; rfl
/-- by ratios -/
def hor (w : WayM) : Nat → List Num → Num
  | _, [] => w.nought
  | k, d :: ds => d.add ((w.ratio k).mul (hor w (k + 1) ds))
/-- a thing of a row fits the way: in Pairs anything, else a whole number -/
def fits (w : WayM) (a : Num) : Prop := w.isPairs = false → a.isP = false
theorem wsum_isP (w : WayM) : ∀ (k : Nat) (ds : List Num), (∀ d ∈ ds, w.fits d) → (w.wsum k ds).isP = w.isPairs
  | k, [], _ => nought_isP w
  | k, d :: ds, h => by
    have ih := wsum_isP w (k + 1) ds (fun x hx => h x (List.mem_cons_of_mem _ hx))
    have h1 := h d List.mem_cons_self
    show (((w.weight k).mul d).add (wsum w (k + 1) ds)).isP = _
    rw [Num.add_isP, Num.mul_isP, ih, weight_isP]
    cases e : w.isPairs with
    | true => rfl
    | false => rw [h1 e]; rfl
theorem hor_isP (w : WayM) (hr : w.hasRatio = true) : ∀ (k : Nat) (ds : List Num), (∀ d ∈ ds, w.fits d) → (w.hor k ds).isP = w.isPairs
  | k, [], _ => nought_isP w
  | k, d :: ds, h => by
    have ih := hor_isP w hr (k + 1) ds (fun x hx => h x (List.mem_cons_of_mem _ hx))
    have h1 := h d List.mem_cons_self
    show (d.add ((w.ratio k).mul (hor w (k + 1) ds))).isP = _
    rw [Num.add_isP, Num.mul_isP, ih, ratio_isP hr]
    cases e : w.isPairs with
    | true => simp
    | false => rw [h1 e]; rfl
theorem isFall_hasRatio (w : WayM) : w.isFall = !w.hasRatio := by cases w <;> rfl
theorem wsum_hor {w : WayM} (hr : w.hasRatio = true) : ∀ (k : Nat) (ds : List Num), (∀ d ∈ ds, w.fits d) → w.wsum k ds = (w.weight k).mul (w.hor k ds)
  | k, [], _ => by
    show w.nought = (w.weight k).mul w.nought
    apply Num.ext' <;> simp [Num.mul_isP, Num.mul_x, Num.mul_y, nought_isP, nought_x, nought_y, weight_isP]
  | k, d :: ds, h => by
    have ih := wsum_hor hr (k + 1) ds (fun x hx => h x (List.mem_cons_of_mem _ hx))
    show ((w.weight k).mul d).add (wsum w (k + 1) ds) = (w.weight k).mul (d.add ((w.ratio k).mul (hor w (k + 1) ds)))
    rw [ih, weight_succ (by rw [isFall_hasRatio, hr]; rfl), Num.mul_add, Num.mul_assoc]
theorem one_mul {w : WayM} {a : Num} (h : a.isP = w.isPairs) : (w.weight 0).mul a = a := by
  have e : (w.weight 0).x = 1 ∧ (w.weight 0).y = 0 := by cases w <;> exact ⟨rfl, rfl⟩
  apply Num.ext' <;> simp [Num.mul_isP, Num.mul_x, Num.mul_y, e.1, e.2, weight_isP, h]
theorem worth_hor {w : WayM} (hr : w.hasRatio = true) {ds : List Num} (h : ∀ d ∈ ds, w.fits d) : w.worth ds = w.hor 0 ds := by
  unfold worth
  rw [wsum_hor hr 0 ds h, one_mul (hor_isP w hr 0 ds h)]
theorem fits_i (w : WayM) (n : Int) : w.fits (.i n) := fun _ => rfl
theorem fits_row (w : WayM) (row : List Int) : ∀ d ∈ row.map Num.i, w.fits d := fun d hd => by
  obtain ⟨n, _, rfl⟩ := List.mem_map.mp hd
  exact fits_i w n
theorem val_isP (w : WayM) (row : List Int) : (w.val row).isP = w.isPairs := by rw [val_eq]; exact wsum_isP w 0 _ (fits_row w row)

/-! ### splitting -/
/-- as a number of the way -/
def lift (w : WayM) (a : Num) : Num := if w.isPairs = true then .p a.x a.y else a
theorem lift_x (w : WayM) (a : Num) : (w.lift a).x = a.x := by unfold lift; split <;> rfl
theorem lift_y (w : WayM) (a : Num) : (w.lift a).y = a.y := by unfold lift; split <;> rfl
theorem lift_isP {w : WayM} {a : Num} (h : w.fits a) : (w.lift a).isP = w.isPairs := by
  unfold lift
  cases e : w.isPairs with
  | true => rfl
  | false => exact h e
theorem lift_self {w : WayM} {a : Num} (h : a.isP = w.isPairs) : w.lift a = a := by
  unfold lift
  split
  · rename_i e
    rw [e] at h
    exact (Num.eq_p h).symm
  · rfl
theorem split_eq {w : WayM} (hr : w.hasRatio = true) {a : Num} (h : w.fits a) (k : Int) : w.lift a = (Num.i (w.fig a k)).add ((w.ratio k).mul (w.carry a k)) := by
  apply Num.ext'
  · rw [lift_isP h, Num.add_isP, Num.mul_isP, ratio_isP hr, carry_isP]
    simp [Num.isP]
  · rw [lift_x, Num.add_x, Num.mul_x]
    cases e : w.isPairs with
    | false =>
      have := split_int hr e a k
      rw [Num.y0 (show (w.ratio k).isP = false by rw [ratio_isP hr, e])]
      simp only [Num.x] at *
      rw [Int.zero_mul, Int.mul_comm]
      omega
    | true =>
      cases w with
      | pairs m =>
        have := (split_pair m a k).1
        simp only [ratio, Num.x, Num.y] at *
        grind
      | _ => cases e
  · rw [lift_y, Num.add_y, Num.mul_y]
    cases e : w.isPairs with
    | false =>
      rw [Num.y0 (show (w.ratio k).isP = false by rw [ratio_isP hr, e]), Num.y0 (show (w.carry a k).isP = false by rw [carry_isP, e]), Num.y0 (h e)]
      simp [Num.y]
    | true =>
      cases w with
      | pairs m =>
        have := (split_pair m a k).2
        simp only [ratio, Num.x, Num.y] at *
        grind
      | _ => cases e
/-- the only way to split -/
theorem split_only {w : WayM} (hok : w.ok) (hr : w.hasRatio = true) {f : Int} {c : Num} {k : Nat} (h1 : w.low k ≤ f) (h2 : f ≤ w.high k) (hc : c.isP = w.isPairs) :
    w.fig ((Num.i f).add ((w.ratio k).mul c)) k = f ∧ w.carry ((Num.i f).add ((w.ratio k).mul c)) k = c := by
  cases w with
  | fall m => cases hr
  | pairs m =>
    have e1 : ((Num.i f).add (((pairs m).ratio k).mul c)).x = f - m * c.x - c.y := by
      rw [Num.add_x, Num.mul_x]; simp only [ratio, Num.x, Num.y]; grind
    have e2 : ((Num.i f).add (((pairs m).ratio k).mul c)).y = c.x - m * c.y := by
      rw [Num.add_y, Num.mul_y]; simp only [ratio, Num.x, Num.y]; grind
    have e3 : f - m * c.x - c.y + m * (c.x - m * c.y) = f + (m * m + 1) * (0 - c.y) := by grind
    have p := sq_pos m
    simp only [low, high] at h1 h2
    have e4 : (f + (m * m + 1) * (0 - c.y)) % (m * m + 1) = f := by
      rw [Int.add_mul_emod_self_left]
      exact Int.emod_eq_of_lt h1 (by omega)
    have e5 : (f + (m * m + 1) * (0 - c.y)) / (m * m + 1) = 0 - c.y := by
      rw [Int.add_mul_ediv_left _ _ (by omega), Int.ediv_eq_zero_of_lt h1 (by omega)]
      omega
    simp only [fig, carry]
    rw [e1, e2, e3, e4, e5]
    refine ⟨rfl, ?_⟩
    have hp : c.isP = true := hc
    rw [Num.eq_p hp]
    simp only [Num.x, Num.y]
    congr 1 <;> grind
  | plain b =>
    obtain ⟨n, rfl⟩ : ∃ n, c = .i n := ⟨_, Num.eq_i hc⟩
    simp only [low, high, ok] at h1 h2 hok
    show (f + b * n - 0) % b + 0 = f ∧ Num.i ((f + b * n - 0) / b) = .i n
    rw [Int.sub_zero, Int.add_mul_emod_self_left, Int.emod_eq_of_lt h1 (by omega), Int.add_mul_ediv_left _ _ (by omega), Int.ediv_eq_zero_of_lt h1 (by omega)]
    exact ⟨by omega, by rw [Int.zero_add]⟩
  | below b =>
    obtain ⟨n, rfl⟩ : ∃ n, c = .i n := ⟨_, Num.eq_i hc⟩
    simp only [low, high, ok] at h1 h2 hok
    show (f + (0 - b) * n - 0) % b + 0 = f ∧ Num.i (0 - (f + (0 - b) * n) / b) = .i n
    rw [show f + (0 - b) * n = f + b * (0 - n) by grind]
    rw [Int.sub_zero, Int.add_mul_emod_self_left, Int.emod_eq_of_lt h1 (by omega), Int.add_mul_ediv_left _ _ (by omega), Int.ediv_eq_zero_of_lt h1 (by omega)]
    exact ⟨by omega, by congr 1; omega⟩
  | bal b =>
    obtain ⟨n, rfl⟩ : ∃ n, c = .i n := ⟨_, Num.eq_i hc⟩
    simp only [low, high, ok] at h1 h2 hok
    show (f + (2 * b + 1) * n - (0 - b)) % (2 * b + 1) + (0 - b) = f ∧ Num.i ((f + (2 * b + 1) * n - (0 - b)) / (2 * b + 1)) = .i n
    rw [show f + (2 * b + 1) * n - (0 - b) = (f + b) + (2 * b + 1) * n by omega]
    rw [Int.add_mul_emod_self_left, Int.emod_eq_of_lt (by omega) (by omega), Int.add_mul_ediv_left _ _ (by omega), Int.ediv_eq_zero_of_lt (by omega) (by omega)]
    exact ⟨by omega, by rw [Int.zero_add]⟩
  | grow b =>
    obtain ⟨n, rfl⟩ : ∃ n, c = .i n := ⟨_, Num.eq_i hc⟩
    simp only [low, high, ok] at h1 h2 hok
    show (f + (b + k) * n - 0) % (b + k) + 0 = f ∧ Num.i ((f + (b + k) * n - 0) / (b + k)) = .i n
    rw [Int.sub_zero, Int.add_mul_emod_self_left, Int.emod_eq_of_lt h1 (by omega), Int.add_mul_ediv_left _ _ (by omega), Int.ediv_eq_zero_of_lt h1 (by omega)]
    exact ⟨by omega, by rw [Int.zero_add]⟩

/-! ### the carries come to an end -/
def Ends (w : WayM) : Nat → Nat → Num → Prop
  | 0, _, z => z = w.nought
  | n + 1, k, z => Ends w n (k + 1) (w.carry z k)
theorem low_high0 {w : WayM} (h : w.ok) (k : Nat) : w.low k ≤ 0 ∧ 0 ≤ w.high k := by
  cases w <;> simp only [ok, low, high] at * <;> first | omega | skip
  have := sq_pos ‹Int›
  omega
theorem carry_nought {w : WayM} (h : w.ok) (hr : w.hasRatio = true) (k : Nat) : w.carry w.nought k = w.nought ∧ w.fig w.nought k = 0 := by
  have := split_only (c := w.nought) h hr (low_high0 h k).1 (low_high0 h k).2 (nought_isP w)
  have e : (Num.i 0).add ((w.ratio k).mul w.nought) = w.nought := by
    apply Num.ext'
    · rw [Num.add_isP, Num.mul_isP, ratio_isP hr, nought_isP]; simp [Num.isP]
    · rw [Num.add_x, Num.mul_x, nought_x, nought_y]; simp [Num.x]
    · rw [Num.add_y, Num.mul_y, nought_x, nought_y]; simp [Num.y]
  rw [e] at this
  exact ⟨this.2, this.1⟩
theorem ends_nought {w : WayM} (h : w.ok) (hr : w.hasRatio = true) : ∀ n k, Ends w n k w.nought
  | 0, _ => rfl
  | n + 1, k => by
    show Ends w n (k + 1) (w.carry w.nought k)
    rw [(carry_nought h hr k).1]
    exact ends_nought h hr n (k + 1)
theorem Ends.mono {w : WayM} (h : w.ok) (hr : w.hasRatio = true) : ∀ {n m k : Nat} {z : Num}, Ends w n k z → n ≤ m → Ends w m k z
  | 0, m, k, z, e, _ => by
    have e : z = w.nought := e
    rw [e]; exact ends_nought h hr m k
  | n + 1, 0, k, z, e, l => by omega
  | n + 1, m + 1, k, z, e, l => Ends.mono h hr (n := n) (m := m) (k := k + 1) e (by omega)
theorem half_lt {x : Int} {n : Nat} (h : 0 ≤ x) (h2 : x < 2 ^ (n + 1)) {b : Int} (hb : 2 ≤ b) : 0 ≤ x / b ∧ x / b < 2 ^ n := by
  refine ⟨Int.ediv_nonneg h (by omega), ?_⟩
  have : x < 2 ^ n * 2 := by rw [Int.pow_succ] at h2; exact h2
  refine Int.ediv_lt_of_lt_mul (by omega) ?_
  have p : (0 : Int) < 2 ^ n := Int.pow_pos (by omega)
  have := Int.mul_le_mul_of_nonneg_left hb (Int.le_of_lt p)
  omega
theorem ends_plain {b : Int} (hb : 2 ≤ b) : ∀ (n k : Nat) (x : Int), 0 ≤ x → x < 2 ^ n → Ends (.plain b) n k (.i x)
  | 0, k, x, h, h2 => by
    have : x < 1 := h2
    show Num.i x = .i 0
    rw [show x = 0 by omega]
  | n + 1, k, x, h, h2 => by
    have q := half_lt h h2 hb
    show Ends (.plain b) n (k + 1) (.i ((x - 0) / b))
    rw [Int.sub_zero]
    exact ends_plain hb n (k + 1) _ q.1 q.2
theorem ends_grow {b : Int} (hb : 2 ≤ b) : ∀ (n k : Nat) (x : Int), 0 ≤ x → x < 2 ^ n → Ends (.grow b) n k (.i x)
  | 0, k, x, h, h2 => by
    have : x < 1 := h2
    show Num.i x = .i 0
    rw [show x = 0 by omega]
  | n + 1, k, x, h, h2 => by
    have q := half_lt h h2 (b := b + k) (by omega)
    show Ends (.grow b) n (k + 1) (.i ((x - 0) / (b + k)))
    rw [Int.sub_zero]
    exact ends_grow hb n (k + 1) _ q.1 q.2
theorem sq_nonneg (x : Int) : 0 ≤ x * x := by
  rcases Int.le_total 0 x with h | h
  · exact Int.mul_nonneg h h
  · have := Int.mul_nonneg (show 0 ≤ -x by omega) (show 0 ≤ -x by omega)
    rwa [Int.neg_mul_neg] at this
theorem le_mul1 {a b : Int} (ha : 0 ≤ a) (hb : 1 ≤ b) : a ≤ b * a := by
  have := Int.mul_le_mul_of_nonneg_right hb ha
  omega
theorem ends_bal {h : Int} (hb : 1 ≤ h) : ∀ (n k : Nat) (x : Int), -(2 ^ n) < x → x < 2 ^ n → Ends (.bal h) n k (.i x)
  | 0, k, x, h1, h2 => by
    have h1 : (-1 : Int) < x := h1
    have : x < 1 := h2
    show Num.i x = .i 0
    rw [show x = 0 by omega]
  | n + 1, k, x, h1, h2 => by
    show Ends (.bal h) n (k + 1) (.i ((x - (0 - h)) / (2 * h + 1)))
    have e := Int.mul_ediv_add_emod (x - (0 - h)) (2 * h + 1)
    have e1 := Int.emod_nonneg (x - (0 - h)) (show 2 * h + 1 ≠ 0 by omega)
    have e2 := Int.emod_lt_of_pos (x - (0 - h)) (show 0 < 2 * h + 1 by omega)
    have p : (0 : Int) < 2 ^ n := Int.pow_pos (by omega)
    rw [Int.pow_succ] at h1 h2
    generalize (x - (0 - h)) / (2 * h + 1) = q at *
    have e3 : (2 * h + 1) * q = 2 * (h * q) + q := by grind
    have l1 : q < 2 ^ n := by
      by_cases hq : q < 2 ^ n
      · exact hq
      · have hq : 2 ^ n ≤ q := by omega
        have : h * (2 ^ n) ≤ h * q := Int.mul_le_mul_of_nonneg_left hq (by omega)
        have : 2 ^ n ≤ h * 2 ^ n := le_mul1 (by omega) hb
        have : h * 1 ≤ h * 2 ^ n := Int.mul_le_mul_of_nonneg_left (by omega) (by omega)
        omega
    have l2 : -(2 ^ n) < q := by
      by_cases hq : -(2 ^ n) < q
      · exact hq
      · have hq : 2 ^ n ≤ -q := by omega
        have : h * (2 ^ n) ≤ h * (-q) := Int.mul_le_mul_of_nonneg_left hq (by omega)
        have : 2 ^ n ≤ h * 2 ^ n := le_mul1 (by omega) hb
        have : h * 1 ≤ h * 2 ^ n := Int.mul_le_mul_of_nonneg_left (by omega) (by omega)
        have : h * (-q) = -(h * q) := Int.mul_neg ..
        omega
    exact ends_bal hb n (k + 1) _ l2 l1
theorem ends_below {b : Int} (hb : 2 ≤ b) (hb2 : b ≤ 60) : ∀ (n k : Nat) (x : Int), -(2 ^ n) ≤ x → x ≤ 2 ^ n → Ends (.below b) (n + 2) k (.i x)
  | 0, k, x, h1, h2 => by
    have h1 : (-1 : Int) ≤ x := h1
    have h2 : x ≤ 1 := h2
    show Num.i (0 - (0 - x / b) / b) = .i 0
    have : x = -1 ∨ x = 0 ∨ x = 1 := by omega
    have d0 : (0 : Int) / b = 0 := Int.zero_ediv b
    have d1 : (1 : Int) / b = 0 := Int.ediv_eq_zero_of_lt (by omega) (by omega)
    have dm : (-1 : Int) / b = -1 := by
      have e : (-1 : Int) = (b - 1) + b * (-1) := by grind
      rw [e, Int.add_mul_ediv_left _ _ (by omega), Int.ediv_eq_zero_of_lt (by omega) (by omega)]
      omega
    rcases this with rfl | rfl | rfl
    · rw [dm, show (0 : Int) - -1 = 1 by rfl, d1]; rfl
    · rw [d0, show (0 : Int) - 0 = 0 by rfl, d0]; rfl
    · rw [d1, show (0 : Int) - 0 = 0 by rfl, d0]; rfl
  | n + 1, k, x, h1, h2 => by
    show Ends (.below b) (n + 2) (k + 1) (.i (0 - x / b))
    have e := Int.mul_ediv_add_emod x b
    have e1 := Int.emod_nonneg x (show b ≠ 0 by omega)
    have e2 := Int.emod_lt_of_pos x (show 0 < b by omega)
    have p : (0 : Int) < 2 ^ n := Int.pow_pos (by omega)
    rw [Int.pow_succ] at h1 h2
    generalize x / b = q at *
    have l1 : q ≤ 2 ^ n := by
      by_cases hq : q ≤ 2 ^ n
      · exact hq
      · have : b * (2 ^ n + 1) ≤ b * q := Int.mul_le_mul_of_nonneg_left (by omega) (by omega)
        have : 2 * (2 ^ n + 1) ≤ b * (2 ^ n + 1) := Int.mul_le_mul_of_nonneg_right hb (by omega)
        omega
    have l2 : -(2 ^ n) ≤ q := by
      by_cases hq : -(2 ^ n) ≤ q
      · exact hq
      · have a1 : b * (2 ^ n + 1) ≤ b * (-q) := Int.mul_le_mul_of_nonneg_left (by omega) (by omega)
        have a2 : b * (2 ^ n + 1) = b * 2 ^ n + b := by grind
        have a3 : 2 * 2 ^ n ≤ b * 2 ^ n := Int.mul_le_mul_of_nonneg_right hb (by omega)
        have a4 : b * (-q) = -(b * q) := Int.mul_neg ..
        omega
    exact ends_below hb hb2 n (k + 1) _ (by omega) (by omega)
end WayM
end DD

set_option Elab.async false
set_option linter.all false
set_option maxRecDepth 100000
set_option maxHeartbeats 1000000
namespace DD
namespace WayM
/-- Pairs: near nought all end soon -/
def endsB (m : Int) : Nat → Int → Int → Bool
  | 0, x, y => x == 0 && y == 0
  | n + 1, x, y => (x == 0 && y == 0) || endsB m n (y - m * ((x + m * y) / (m * m + 1))) (0 - (x + m * y) / (m * m + 1))
theorem endsB_ok {m : Int} (hm : 1 ≤ m ∧ m ≤ 9) : ∀ (n k : Nat) (x y : Int), endsB m n x y = true → Ends (.pairs m) n k (.p x y)
  | 0, k, x, y, h => by
    simp [endsB] at h
    rw [h.1, h.2]; rfl
  | n + 1, k, x, y, h => by
    simp only [endsB, Bool.or_eq_true, Bool.and_eq_true, beq_iff_eq] at h
    rcases h with ⟨rfl, rfl⟩ | h
    · exact ends_nought (w := .pairs m) hm rfl (n + 1) k
    · exact endsB_ok hm n (k + 1) _ _ h
def nearB (m : Nat) : Bool := (List.range 37).all fun i => (List.range 37).all fun j =>
  (decide (4 * m * m + 10 ≤ (i - 18) * (i - 18) + (18 - i) * (18 - i) + (j - 18) * (j - 18) + (18 - j) * (18 - j))) || endsB m 30 ((i : Int) - 18) ((j : Int) - 18)
theorem near_all : ((List.range 9).all fun m => nearB (m + 1)) = true := by decide +kernel

theorem sq_bound {x : Int} {b : Int} (h : x * x < b * b) (hb : 0 ≤ b) : -b < x ∧ x < b := by
  constructor
  · by_cases h1 : -b < x
    · exact h1
    · have : b * b ≤ (-x) * (-x) := Int.mul_le_mul (by omega) (by omega) hb (by omega)
      rw [Int.neg_mul_neg] at this
      omega
  · by_cases h1 : x < b
    · exact h1
    · have : b * b ≤ x * x := Int.mul_le_mul (by omega) (by omega) hb (by omega)
      omega
theorem near_one {m : Int} (hm : 1 ≤ m ∧ m ≤ 9) {x y : Int} (h : x * x + y * y < 4 * (m * m) + 10) (k : Nat) : Ends (.pairs m) 30 k (.p x y) := by
  have q := near_all
  rw [List.all_eq_true] at q
  have qm := q (m - 1).toNat (List.mem_range.mpr (by omega))
  unfold nearB at qm
  rw [List.all_eq_true] at qm
  have hx0 : 0 ≤ x * x := sq_nonneg x
  have hy0 : 0 ≤ y * y := sq_nonneg y
  have hm2 : m * m ≤ 81 := Int.mul_le_mul (c := 9) (d := 9) hm.2 hm.2 (by omega) (by omega)
  have bx := sq_bound (x := x) (b := 19) (by omega) (by omega)
  have hy := sq_bound (x := y) (b := 19) (by omega) (by omega)
  have qi := qm (x + 18).toNat (List.mem_range.mpr (by omega))
  rw [List.all_eq_true] at qi
  have qj := qi (y + 18).toNat (List.mem_range.mpr (by omega))
  rw [Bool.or_eq_true] at qj
  have sq : ∀ z : Int, -19 < z → z < 19 → (((((z + 18).toNat - 18) * ((z + 18).toNat - 18) + (18 - (z + 18).toNat) * (18 - (z + 18).toNat) : Nat) : Nat) : Int) = z * z := fun z h1 h2 => by
    rcases Int.le_total 0 z with h | h
    · have e1 : (z + 18).toNat - 18 = z.toNat := by omega
      have e2 : 18 - (z + 18).toNat = 0 := by omega
      rw [e1, e2]
      push_cast
      rw [Int.toNat_of_nonneg h]
      omega
    · have e1 : (z + 18).toNat - 18 = 0 := by omega
      have e2 : 18 - (z + 18).toNat = (-z).toNat := by omega
      rw [e1, e2]
      push_cast
      rw [Int.toNat_of_nonneg (by omega), Int.neg_mul_neg]
      omega
  have em : (m - 1).toNat + 1 = m.toNat := by omega
  rcases qj with qj | qj
  · exfalso
    have qj := of_decide_eq_true qj
    rw [em] at qj
    have sx := sq x bx.1 bx.2
    have sy := sq y hy.1 hy.2
    have e4 : ((4 * m.toNat * m.toNat : Nat) : Int) = 4 * (m * m) := by
      push_cast
      rw [Int.toNat_of_nonneg (by omega)]
      grind
    omega
  · have e1 : (((m - 1).toNat + 1 : Nat) : Int) = m := by omega
    have e2 : ((x + 18).toNat : Int) - 18 = x := by omega
    have e3 : ((y + 18).toNat : Int) - 18 = y := by omega
    rw [e1, e2, e3] at qj
    exact endsB_ok hm 30 k x y qj
theorem shrink {m x y u v : Int} (hm : 1 ≤ m ∧ m ≤ 9) {f : Int} (hf : 0 ≤ f ∧ f ≤ m * m) (ex : x = f - m * u - v) (ey : y = u - m * v) (hN : 4 * (m * m) + 10 ≤ x * x + y * y) : 16 * (u * u + v * v) ≤ 15 * (x * x + y * y) := by
  have e : (u * u + v * v) * (m * m + 1) = (x - f) * (x - f) + y * y := by subst ex ey; grind
  have h1 : 0 ≤ (x + 2 * f) * (x + 2 * f) := sq_nonneg _
  have h2 : 2 * ((x - f) * (x - f)) ≤ 3 * (x * x) + 6 * (f * f) := by grind
  have h3 : f * f ≤ (m * m) * (m * m) := Int.mul_le_mul hf.2 hf.2 hf.1 (sq_nonneg m)
  have hy0 : 0 ≤ y * y := sq_nonneg y
  generalize u * u + v * v = A at *
  generalize x * x = B at *
  generalize y * y = C at *
  generalize (x - f) * (x - f) = G at *
  generalize f * f = F at *
  have h4 : 2 * (A * (m * m + 1)) ≤ 3 * (B + C) + 6 * ((m * m) * (m * m)) := by omega
  have cs : m = 1 ∨ m = 2 ∨ m = 3 ∨ m = 4 ∨ m = 5 ∨ m = 6 ∨ m = 7 ∨ m = 8 ∨ m = 9 := by omega
  rcases cs with rfl | rfl | rfl | rfl | rfl | rfl | rfl | rfl | rfl <;> omega
theorem ends_pairs {m : Int} (hm : 1 ≤ m ∧ m ≤ 9) : ∀ (j k : Nat) (x y : Int), (x * x + y * y) * 15 ^ j < (4 * (m * m) + 10) * 16 ^ j → Ends (.pairs m) (j + 30) k (.p x y)
  | 0, k, x, y, h => near_one hm (by simpa using h) k
  | j + 1, k, x, y, h => by
    by_cases hN : x * x + y * y < 4 * (m * m) + 10
    · exact Ends.mono (w := .pairs m) hm rfl (near_one hm hN k) (by omega)
    · have sp := split_pair m (.p x y) k
      have fr := fig_range (w := .pairs m) hm rfl (.p x y) (k := k) (by omega)
      obtain ⟨u, v, ec⟩ : ∃ u v, (pairs m).carry (.p x y) k = .p u v := ⟨_, _, rfl⟩
      show Ends (.pairs m) (j + 30) (k + 1) ((pairs m).carry (.p x y) k)
      rw [ec] at sp ⊢
      have s : 16 * (u * u + v * v) ≤ 15 * (x * x + y * y) := shrink hm (show 0 ≤ (pairs m).fig (.p x y) k ∧ (pairs m).fig (.p x y) k ≤ m * m from fr) sp.1 sp.2 (by omega)
      refine ends_pairs hm j (k + 1) u v ?_
      rw [Int.pow_succ, Int.pow_succ] at h
      have p : (0 : Int) < 15 ^ j := Int.pow_pos (by omega)
      have a1 := Int.mul_le_mul_of_nonneg_right s (Int.le_of_lt p)
      have e1 : 16 * (u * u + v * v) * 15 ^ j = 16 * ((u * u + v * v) * 15 ^ j) := Int.mul_assoc ..
      have e2 : (x * x + y * y) * (15 ^ j * 15) = 15 * (x * x + y * y) * 15 ^ j := by grind
      have e3 : (4 * (m * m) + 10) * (16 ^ j * 16) = 16 * ((4 * (m * m) + 10) * 16 ^ j) := by grind
      omega
theorem pow_15_16 : ∀ j : Nat, (15 : Int) ^ (11 * j) * 2 ^ j ≤ 16 ^ (11 * j)
  | 0 => by decide
  | j + 1 => by
    have ih := pow_15_16 j
    have e1 : (15 : Int) ^ (11 * (j + 1)) = 15 ^ (11 * j) * 15 ^ 11 := by rw [← Int.pow_add]; congr 1
    have e2 : (16 : Int) ^ (11 * (j + 1)) = 16 ^ (11 * j) * 16 ^ 11 := by rw [← Int.pow_add]; congr 1
    have e4 : (2 : Int) ^ (j + 1) = 2 ^ j * 2 := Int.pow_succ ..
    rw [e1, e2, e4]
    have p : (0 : Int) < 16 ^ (11 * j) := Int.pow_pos (by omega)
    have e3 : (15 : Int) ^ (11 * j) * 15 ^ 11 * (2 ^ j * 2) = (15 ^ (11 * j) * 2 ^ j) * (15 ^ 11 * 2) := by grind
    rw [e3]
    have c : (15 : Int) ^ 11 * 2 ≤ 16 ^ 11 := by decide
    exact Int.mul_le_mul ih c (by decide) (Int.le_of_lt p)
theorem natAbs_sq {x : Int} {n : Nat} (h : x.natAbs < 2 ^ n) : x * x < 2 ^ (2 * n) := by
  have e : (2 : Int) ^ (2 * n) = 2 ^ n * 2 ^ n := by rw [← Int.pow_add]; congr 1; omega
  have e2 : x * x = (x.natAbs : Int) * (x.natAbs : Int) := (Int.natAbs_mul_self).symm
  rw [e, e2]
  have h' : (x.natAbs : Int) < 2 ^ n := by
    have : ((x.natAbs : Nat) : Int) < ((2 ^ n : Nat) : Int) := by exact_mod_cast h
    simpa using this
  have p : (0 : Int) < 2 ^ n := Int.pow_pos (by omega)
  have a := Int.mul_le_mul (Int.le_of_lt h') (Int.le_refl (x.natAbs : Int)) (by omega) (Int.le_of_lt p)
  have b := Int.mul_lt_mul_of_pos_left h' p
  omega
/-- the ways of numbers from 0 on -/
def pos : WayM → Bool
  | .plain _ => true | .grow _ => true | .fall _ => true | _ => false
theorem has_pos {w : WayM} (h : w.pos = true) (z : Num) : w.has z = (!z.isP && decide (0 ≤ z.x)) := by cases w <;> first | rfl | cases h
theorem has_x {w : WayM} (h : w.pos = true) {z : Num} (hh : w.has z = true) : 0 ≤ z.x := by
  rw [has_pos h, Bool.and_eq_true] at hh
  exact of_decide_eq_true hh.2
theorem has_isP {w : WayM} {z : Num} (hh : w.has z = true) : z.isP = w.isPairs := by
  cases w <;> cases z <;> first | rfl | (cases hh; done)
theorem ends_lt {w : WayM} (h : w.ok) (hr : w.hasRatio = true) {z : Num} (hz : z.isP = w.isPairs) (hh : w.has z = true) {n : Nat} (l : z.lt n) (k : Nat) : Ends w (22 * n + 50) k z := by
  have lx : -(2 ^ n) < z.x ∧ z.x < 2 ^ n := by
    have h1 := l.1
    have e : ((2 ^ n : Nat) : Int) = 2 ^ n := by simp
    omega
  cases w with
  | fall m => cases hr
  | plain b =>
    have hh : 0 ≤ z.x := has_x (w := .plain b) rfl hh
    rw [Num.eq_i hz]
    exact Ends.mono (w := .plain b) h rfl (ends_plain h.1 n k _ hh lx.2) (by omega)
  | grow b =>
    have hh : 0 ≤ z.x := has_x (w := .grow b) rfl hh
    rw [Num.eq_i hz]
    exact Ends.mono (w := .grow b) h rfl (ends_grow h.1 n k _ hh lx.2) (by omega)
  | bal b =>
    rw [Num.eq_i hz]
    exact Ends.mono (w := .bal b) h rfl (ends_bal h.1 n k _ lx.1 lx.2) (by omega)
  | below b =>
    rw [Num.eq_i hz]
    exact Ends.mono (w := .below b) h rfl (ends_below h.1 h.2 n k _ (Int.le_of_lt lx.1) (Int.le_of_lt lx.2)) (by omega)
  | pairs m =>
    rw [Num.eq_p hz]
    refine Ends.mono (w := .pairs m) h rfl (ends_pairs h (11 * (2 * n + 1)) k _ _ ?_) (by omega)
    have a1 := natAbs_sq l.1
    have a2 := natAbs_sq l.2
    have e : (2 : Int) ^ (2 * n + 1) = 2 ^ (2 * n) * 2 := Int.pow_succ ..
    have p15 : (0 : Int) < 15 ^ (11 * (2 * n + 1)) := Int.pow_pos (by omega)
    have p16 : (0 : Int) < 16 ^ (11 * (2 * n + 1)) := Int.pow_pos (by omega)
    have q := pow_15_16 (2 * n + 1)
    have s1 := Int.mul_lt_mul_of_pos_right (show z.x * z.x + z.y * z.y < 2 ^ (2 * n + 1) by omega) p15
    have c1 : 2 ^ (2 * n + 1) * 15 ^ (11 * (2 * n + 1)) = (15 : Int) ^ (11 * (2 * n + 1)) * 2 ^ (2 * n + 1) := Int.mul_comm ..
    have m0 : 0 ≤ m * m := sq_nonneg m
    have s2 : 1 * 16 ^ (11 * (2 * n + 1)) ≤ (4 * (m * m) + 10) * 16 ^ (11 * (2 * n + 1)) := Int.mul_le_mul_of_nonneg_right (by omega) (Int.le_of_lt p16)
    omega
end WayM
end DD

set_option Elab.async false
set_option linter.all false
set_option maxRecDepth 100000
set_option maxHeartbeats 1000000
namespace DD
/-! ### zeros at the end -/
theorem strip_ex : ∀ (l : List Int), ∃ (r : List Int) (n : Nat), l = r ++ List.replicate n 0 ∧ r.getLast? ≠ some 0 ∧ r.length ≤ l.length
  | [] => ⟨[], 0, rfl, by simp, Nat.le_refl _⟩
  | a :: l => by
    obtain ⟨r, n, e, h, hl⟩ := strip_ex l
    cases r with
    | nil =>
      by_cases ha : a = 0
      · refine ⟨[], n + 1, ?_, by simp, by simp⟩
        rw [e, ha]
        simp [List.replicate_succ]
      · exact ⟨[a], n, by rw [e]; rfl, by simpa using ha, by simp⟩
    | cons b r =>
      refine ⟨a :: b :: r, n, by rw [e]; rfl, ?_, by simpa using hl⟩
      rw [List.getLast?_cons_cons]
      exact h
theorem strip_only : ∀ {r s : List Int} {a b : Nat}, r ++ List.replicate a 0 = s ++ List.replicate b 0 → r.getLast? ≠ some 0 → s.getLast? ≠ some 0 → r = s := by
  have key : ∀ (s : List Int) (a b : Nat), List.replicate a (0 : Int) = s ++ List.replicate b 0 → s.getLast? ≠ some 0 → s = [] := fun s a b e h => by
    cases hs : s.getLast? with
    | none => simpa using hs
    | some x =>
      exfalso
      have hm : x ∈ s := List.mem_of_getLast? hs
      have : x ∈ List.replicate a (0 : Int) := by rw [e]; exact List.mem_append_left _ hm
      have := List.eq_of_mem_replicate this
      exact h (by rw [hs, this])
  intro r
  induction r with
  | nil =>
    intro s a b e h1 h2
    exact (key s a b (by simpa using e) h2).symm
  | cons x r ih =>
    intro s a b e h1 h2
    cases s with
    | nil => exact key (x :: r) b a (by simpa using e.symm) h1
    | cons y s =>
      rw [List.cons_append, List.cons_append] at e
      injection e with e1 e2
      have g1 : r.getLast? ≠ some 0 := by
        cases r with
        | nil => simp
        | cons z r => rw [List.getLast?_cons_cons] at h1; exact h1
      have g2 : s.getLast? ≠ some 0 := by
        cases s with
        | nil => simp
        | cons z s => rw [List.getLast?_cons_cons] at h2; exact h2
      rw [e1, ih e2 g1 g2]
namespace WayM
/-! ### writings -/
structure isW (w : WayM) (row : List Int) : Prop where
  fig : ∀ (k : Nat) (f : Int), row[k]? = some f → w.low k ≤ f ∧ f ≤ w.high k
  last : row.getLast? ≠ some 0
  fall : w.isFall = true → ∀ k : Nat, row[k + 1]? = some w.v → row[k]? = some 0
/-- figures from place k on -/
def FigK (w : WayM) : Nat → List Int → Prop
  | _, [] => True
  | k, f :: fs => (w.low k ≤ f ∧ f ≤ w.high k) ∧ FigK w (k + 1) fs
theorem figK_iff {w : WayM} : ∀ {k : Nat} {row : List Int}, FigK w k row ↔ ∀ (i : Nat) (f : Int), row[i]? = some f → w.low (k + i : Nat) ≤ f ∧ f ≤ w.high (k + i : Nat)
  | k, [] => ⟨fun _ i f h => by simp at h, fun _ => trivial⟩
  | k, f :: fs => by
    refine ⟨fun h i g hg => ?_, fun h => ⟨by simpa using h 0 f rfl, figK_iff.mpr fun i g hg => ?_⟩⟩
    · cases i with
      | zero => simp at hg; subst hg; simpa using h.1
      | succ i =>
        have := figK_iff.mp h.2 i g (by simpa using hg)
        rwa [show k + 1 + i = k + (i + 1) by omega] at this
    · have := h (i + 1) g (by simpa using hg)
      rwa [show k + (i + 1) = k + 1 + i by omega] at this
theorem isW.figK {w : WayM} {row : List Int} (h : isW w row) : FigK w 0 row := figK_iff.mpr fun i f e => by simpa using h.fig i f e
theorem figK_zeros {w : WayM} (h : w.ok) : ∀ (k n : Nat), FigK w k (List.replicate n 0)
  | k, 0 => trivial
  | k, n + 1 => ⟨low_high0 h k, figK_zeros h (k + 1) n⟩
theorem figK_app {w : WayM} : ∀ {k : Nat} {r s : List Int}, FigK w k r → FigK w (k + r.length) s → FigK w k (r ++ s)
  | k, [], s, _, h => h
  | k, f :: r, s, h, h2 => ⟨h.1, figK_app h.2 (by rw [show k + 1 + r.length = k + (f :: r).length by simp; omega]; exact h2)⟩
/-- a figures' row by ratios -/
def horI (w : WayM) (k : Nat) (row : List Int) : Num := w.hor k (row.map Num.i)
theorem horI_cons (w : WayM) (k : Nat) (f : Int) (fs : List Int) : w.horI k (f :: fs) = (Num.i f).add ((w.ratio k).mul (w.horI (k + 1) fs)) := rfl
theorem horI_isP {w : WayM} (hr : w.hasRatio = true) (k : Nat) (row : List Int) : (w.horI k row).isP = w.isPairs := hor_isP w hr k _ (fits_row w row)
theorem zero_ratio {w : WayM} (hr : w.hasRatio = true) (k : Int) : (Num.i 0).add ((w.ratio k).mul w.nought) = w.nought := by
  apply Num.ext'
  · rw [Num.add_isP, Num.mul_isP, ratio_isP hr, nought_isP]; simp [Num.isP]
  · rw [Num.add_x, Num.mul_x, nought_x, nought_y]; simp [Num.x]
  · rw [Num.add_y, Num.mul_y, nought_x, nought_y]; simp [Num.y]
theorem horI_zeros {w : WayM} (hr : w.hasRatio = true) : ∀ (k n : Nat), w.horI k (List.replicate n 0) = w.nought
  | k, 0 => rfl
  | k, n + 1 => by
    rw [List.replicate_succ, horI_cons, horI_zeros hr (k + 1) n, zero_ratio hr]
theorem horI_pad {w : WayM} (hr : w.hasRatio = true) : ∀ (k : Nat) (row : List Int) (n : Nat), w.horI k (row ++ List.replicate n 0) = w.horI k row
  | k, [], n => horI_zeros hr k n
  | k, f :: fs, n => by rw [List.cons_append, horI_cons, horI_cons, horI_pad hr (k + 1) fs n]
theorem val_horI {w : WayM} (hr : w.hasRatio = true) (row : List Int) : w.val row = w.horI 0 row := by rw [val_eq]; exact worth_hor hr (fits_row w row)
theorem horI_inj {w : WayM} (h : w.ok) (hr : w.hasRatio = true) : ∀ (k : Nat) (r s : List Int), r.length = s.length → FigK w k r → FigK w k s → w.horI k r = w.horI k s → r = s
  | k, [], [], _, _, _, _ => rfl
  | k, [], _ :: _, hl, _, _, _ => by simp at hl
  | k, _ :: _, [], hl, _, _, _ => by simp at hl
  | k, f :: r, g :: s, hl, h1, h2, e => by
    rw [horI_cons, horI_cons] at e
    have a := split_only h hr h1.1.1 h1.1.2 (horI_isP hr (k + 1) r)
    have b := split_only h hr h2.1.1 h2.1.2 (horI_isP hr (k + 1) s)
    rw [e] at a
    rw [← a.1, b.1, horI_inj h hr (k + 1) r s (by simpa using hl) h1.2 h2.2 (a.2.symm.trans b.2)]
theorem getLast_cons {f : Int} {fs : List Int} (h : fs.getLast? ≠ some 0) (h2 : fs = [] → f ≠ 0) : (f :: fs).getLast? ≠ some 0 := by
  cases fs with
  | nil => simpa using h2 rfl
  | cons a l => rw [List.getLast?_cons_cons]; exact h
theorem exists_hor {w : WayM} (h : w.ok) (hr : w.hasRatio = true) : ∀ (n k : Nat) (z : Num), z.isP = w.isPairs → Ends w n k z → ∃ row : List Int, FigK w k row ∧ row.getLast? ≠ some 0 ∧ row.length ≤ n ∧ w.horI k row = z
  | 0, k, z, hz, e => ⟨[], trivial, by simp, Nat.le_refl _, (show z = w.nought from e).symm⟩
  | n + 1, k, z, hz, e => by
    obtain ⟨row, h1, h2, h3, h4⟩ := exists_hor h hr n (k + 1) (w.carry z k) (carry_isP w z k) e
    have s := split_eq (a := z) hr (fun q => by rw [hz]; exact q) k
    rw [lift_self hz] at s
    have fr := fig_range h hr z (k := k) (by omega)
    by_cases hh : row = [] ∧ w.fig z k = 0
    · obtain ⟨rfl, e2⟩ := hh
      refine ⟨[], trivial, by simp, by simp, ?_⟩
      rw [s, e2, ← h4]
      exact (zero_ratio hr k).symm
    · refine ⟨w.fig z k :: row, ⟨fr, h1⟩, getLast_cons h2 (fun e1 e2 => hh ⟨e1, e2⟩), by simpa using h3, ?_⟩
      rw [horI_cons, h4]
      exact s.symm

/-! ### Falling -/
def fv (m : Int) : Nat → List Int → Int
  | _, [] => 0
  | k, d :: ds => (fallW m k).1 * d + fv m (k + 1) ds
theorem fv_app (m : Int) : ∀ (k : Nat) (a b : List Int), fv m k (a ++ b) = fv m k a + fv m (k + a.length) b
  | k, [], b => by simp [fv]
  | k, d :: a, b => by
    rw [List.cons_append]
    show (fallW m k).1 * d + fv m (k + 1) (a ++ b) = (fallW m k).1 * d + fv m (k + 1) a + fv m (k + (d :: a).length) b
    rw [fv_app m (k + 1) a b, show k + 1 + a.length = k + (d :: a).length by simp; omega]
    omega
theorem fv_zeros (m : Int) : ∀ (k n : Nat), fv m k (List.replicate n 0) = 0
  | k, 0 => rfl
  | k, n + 1 => by rw [List.replicate_succ]; show (fallW m k).1 * 0 + fv m (k + 1) _ = 0; rw [fv_zeros m (k + 1) n]; omega
theorem wsum_fv (m : Int) : ∀ (k : Nat) (row : List Int), (WayM.fall m).wsum k (row.map Num.i) = .i (fv m k row)
  | k, [] => rfl
  | k, d :: ds => by
    show (((WayM.fall m).weight k).mul (.i d)).add ((WayM.fall m).wsum (k + 1) (ds.map Num.i)) = _
    rw [wsum_fv m (k + 1) ds, weight_fall]
    rfl
theorem val_fall (m : Int) (row : List Int) : (WayM.fall m).val row = .i (fv m 0 row) := by rw [val_eq]; exact wsum_fv m 0 row
/-- legal, 0s at the end let -/
structure Leg (m : Int) (row : List Int) : Prop where
  fig : ∀ (k : Nat) (f : Int), row[k]? = some f → 0 ≤ f ∧ f ≤ m
  fall : ∀ k : Nat, row[k + 1]? = some m → row[k]? = some 0
theorem Leg.pre {m : Int} {a b : List Int} (h : Leg m (a ++ b)) : Leg m a := by
  have key : ∀ (k : Nat) (f : Int), a[k]? = some f → (a ++ b)[k]? = some f := fun k f e => by
    rw [List.getElem?_append_left (List.getElem?_eq_some_iff.mp e).1]; exact e
  refine ⟨fun k f e => h.fig k f (key k f e), fun k e => ?_⟩
  have hk := (List.getElem?_eq_some_iff.mp e).1
  have := h.fall k (key _ _ e)
  rwa [List.getElem?_append_left (by omega)] at this
theorem fall_pos {m : Int} (hm : 1 ≤ m ∧ m ≤ 9) (k : Nat) : 1 ≤ (fallW m k).1 ∧ 1 ≤ (fallW m k).2 ∧ (fallW m k).2 ≤ (fallW m k).1 := ⟨(fallW_lt hm k).1, (fallW_lt hm k).2.1, (fallW_lt hm k).2.2.2⟩
theorem concat_of {l : List Int} {n : Nat} (h : l.length = n + 1) : ∃ a d, l = a ++ [d] ∧ a.length = n := by
  have hn : l ≠ [] := fun z => by subst z; simp at h
  exact ⟨l.dropLast, l.getLast hn, (List.dropLast_concat_getLast hn).symm, by rw [List.length_dropLast, h]; omega⟩
theorem leg_lt {m : Int} (hm : 1 ≤ m ∧ m ≤ 9) : ∀ (n : Nat) (row : List Int), row.length ≤ n → Leg m row → 0 ≤ fv m 0 row ∧ fv m 0 row < (fallW m row.length).1 := by
  intro n
  induction n with
  | zero =>
    intro row hl h
    have hz : row.length = 0 := Nat.le_zero.mp hl
    have : row = [] := List.length_eq_zero_iff.mp hz
    subst this
    show (0 : Int) ≤ 0 ∧ (0 : Int) < 1
    omega
  | succ n ih =>
    intro row hl h
    rcases Nat.lt_or_ge row.length (n + 1) with h1 | h1
    · exact ih row (by omega) h
    obtain ⟨a, d, rfl, ha⟩ := concat_of (l := row) (n := n) (by omega)
    have ia := ih a (by omega) h.pre
    have e : fv m 0 (a ++ [d]) = fv m 0 a + (fallW m n).1 * d := by
      rw [fv_app, Nat.zero_add, ha]
      show _ + ((fallW m n).1 * d + 0) = _
      omega
    have fd := h.fig n d (by rw [List.getElem?_append_right (by omega), ha]; simp)
    have ew : (fallW m (a ++ [d]).length).1 = m * (fallW m n).1 + (fallW m n).2 := by
      rw [List.length_append, ha]; rfl
    have p := fall_pos hm n
    rw [e, ew]
    rw [ha] at ia
    have hW : 0 ≤ (fallW m n).1 := by omega
    by_cases hd : d = m
    · subst hd
      refine ⟨by have := Int.mul_nonneg hW fd.1; omega, ?_⟩
      have c : (fallW d n).1 * d = d * (fallW d n).1 := Int.mul_comm ..
      cases n with
      | zero =>
        have : a = [] := List.length_eq_zero_iff.mp ha
        subst this
        have : fv d 0 [] = 0 := rfl
        omega
      | succ n =>
        obtain ⟨b, e0, rfl, hb⟩ := concat_of ha
        have z := h.fall n (by rw [List.getElem?_append_right (by omega), ha]; simp)
        have z0 : e0 = 0 := by
          rw [List.append_assoc, List.getElem?_append_right (by omega), hb] at z
          simpa using z
        subst z0
        have ib := ih b (by omega) h.pre.pre
        rw [hb] at ib
        have e2 : fv d 0 (b ++ [0]) = fv d 0 b := by
          rw [fv_app]
          show _ + ((fallW d _).1 * 0 + 0) = _
          omega
        rw [e2]
        show fv d 0 b + (fallW d (n + 1)).1 * d < d * (fallW d (n + 1)).1 + (fallW d n).1
        have c' : (fallW d (n + 1)).1 * d = d * (fallW d (n + 1)).1 := Int.mul_comm ..
        omega
    · have h1 := Int.mul_nonneg hW fd.1
      have h2 : (fallW m n).1 * (d + 1) ≤ (fallW m n).1 * m := Int.mul_le_mul_of_nonneg_left (by omega) hW
      have h3 : (fallW m n).1 * (d + 1) = (fallW m n).1 * d + (fallW m n).1 := by grind
      have h4 : (fallW m n).1 * m = m * (fallW m n).1 := Int.mul_comm ..
      omega
theorem leg_inj {m : Int} (hm : 1 ≤ m ∧ m ≤ 9) : ∀ (n : Nat) (r s : List Int), r.length = n → s.length = n → Leg m r → Leg m s → fv m 0 r = fv m 0 s → r = s
  | 0, r, s, h1, h2, _, _, _ => by rw [List.length_eq_zero_iff.mp h1, List.length_eq_zero_iff.mp h2]
  | n + 1, r, s, h1, h2, l1, l2, e => by
    obtain ⟨a, d, rfl, ha⟩ := concat_of h1
    obtain ⟨b, f, rfl, hb⟩ := concat_of h2
    have e1 : ∀ (c : List Int) (x : Int), c.length = n → fv m 0 (c ++ [x]) = fv m 0 c + (fallW m n).1 * x := fun c x hc => by
      rw [fv_app, Nat.zero_add, hc]
      show _ + ((fallW m n).1 * x + 0) = _
      omega
    rw [e1 a d ha, e1 b f hb] at e
    have ia := leg_lt hm n a (by omega) l1.pre
    have ib := leg_lt hm n b (by omega) l2.pre
    rw [ha] at ia
    rw [hb] at ib
    have p := fall_pos hm n
    have hdf : d = f := by
      rcases Int.lt_trichotomy d f with h | h | h
      · have : (fallW m n).1 * (d + 1) ≤ (fallW m n).1 * f := Int.mul_le_mul_of_nonneg_left (by omega) (by omega)
        have : (fallW m n).1 * (d + 1) = (fallW m n).1 * d + (fallW m n).1 := by grind
        omega
      · exact h
      · have : (fallW m n).1 * (f + 1) ≤ (fallW m n).1 * d := Int.mul_le_mul_of_nonneg_left (by omega) (by omega)
        have : (fallW m n).1 * (f + 1) = (fallW m n).1 * f + (fallW m n).1 := by grind
        omega
    subst hdf
    rw [leg_inj hm n a b ha hb l1.pre l2.pre (by omega)]
theorem leg_zeros {m : Int} (hm : 1 ≤ m) {r : List Int} (h : Leg m r) (n : Nat) : Leg m (r ++ List.replicate n 0) := by
  have z : ∀ (k : Nat) (f : Int), ¬ k < r.length → (r ++ List.replicate n 0)[k]? = some f → f = 0 := fun k f hk e => by
    rw [List.getElem?_append_right (by omega)] at e
    exact List.eq_of_mem_replicate (List.mem_of_getElem? e)
  refine ⟨fun k f e => ?_, fun k e => ?_⟩
  · by_cases hk : k < r.length
    · rw [List.getElem?_append_left hk] at e; exact h.fig k f e
    · have := z k f hk e; omega
  · by_cases hk : k + 1 < r.length
    · rw [List.getElem?_append_left hk] at e
      rw [List.getElem?_append_left (by omega)]
      exact h.fall k e
    · have := z (k + 1) m hk e; omega
theorem leg_ex {m : Int} (hm : 1 ≤ m ∧ m ≤ 9) : ∀ (n : Nat) (z : Int), 0 ≤ z → z < (fallW m n).1 → ∃ row : List Int, row.length = n ∧ Leg m row ∧ fv m 0 row = z := by
  have base0 : ∀ z : Int, 0 ≤ z → z < (fallW m 0).1 → ∃ row : List Int, row.length = 0 ∧ Leg m row ∧ fv m 0 row = z := fun z h1 h2 => by
    have h2 : z < 1 := h2
    exact ⟨[], rfl, ⟨fun k f e => by simp at e, fun k e => by simp at e⟩, by show (0 : Int) = z; omega⟩
  have snoc : ∀ (n : Nat) (a : List Int) (d : Int), a.length = n → Leg m a → 0 ≤ d → d < m → Leg m (a ++ [d]) := fun n a d ha h h1 h2 => by
    have g : ∀ (k : Nat) (f : Int), (a ++ [d])[k]? = some f → a[k]? = some f ∨ (k = n ∧ f = d) := fun k f e => by
      by_cases hk : k < a.length
      · rw [List.getElem?_append_left hk] at e; exact .inl e
      · rw [List.getElem?_append_right (by omega)] at e
        have hk2 : k - a.length = 0 := by
          by_cases hz : k - a.length = 0
          · exact hz
          · rw [List.getElem?_eq_none (by simp; omega)] at e; cases e
        rw [hk2] at e
        exact .inr ⟨by omega, by simpa using e.symm⟩
    refine ⟨fun k f e => ?_, fun k e => ?_⟩
    · rcases g k f e with q | ⟨_, q⟩
      · exact h.fig k f q
      · omega
    · rcases g (k + 1) m e with q | ⟨_, q⟩
      · have := h.fall k q
        rw [List.getElem?_append_left (List.getElem?_eq_some_iff.mp this).1]
        exact this
      · omega
  have one : ∀ z : Int, 0 ≤ z → z < (fallW m 1).1 → ∃ row : List Int, row.length = 1 ∧ Leg m row ∧ fv m 0 row = z := fun z h1 h2 => by
    have h2 : z < m * 1 + 1 := h2
    refine ⟨[z], rfl, ⟨fun k f e => ?_, fun k e => by simp at e⟩, by show 1 * z + 0 = z; omega⟩
    cases k with
    | zero => simp at e; omega
    | succ k => simp at e
  have two : ∀ n, (∀ z : Int, 0 ≤ z → z < (fallW m n).1 → ∃ row : List Int, row.length = n ∧ Leg m row ∧ fv m 0 row = z) ∧ (∀ z : Int, 0 ≤ z → z < (fallW m (n + 1)).1 → ∃ row : List Int, row.length = n + 1 ∧ Leg m row ∧ fv m 0 row = z) := by
    intro n
    induction n with
    | zero => exact ⟨base0, one⟩
    | succ n ih =>
      refine ⟨ih.2, fun z h1 h2 => ?_⟩
      have h2 : z < m * (fallW m (n + 1)).1 + (fallW m n).1 := h2
      have p := fall_pos hm (n + 1)
      have p0 := fall_pos hm n
      have e := Int.mul_ediv_add_emod z (fallW m (n + 1)).1
      have e1 := Int.emod_nonneg z (show (fallW m (n + 1)).1 ≠ 0 by omega)
      have e2 := Int.emod_lt_of_pos z (show 0 < (fallW m (n + 1)).1 by omega)
      have d0 : 0 ≤ z / (fallW m (n + 1)).1 := Int.ediv_nonneg h1 (by omega)
      generalize hq : z / (fallW m (n + 1)).1 = q at *
      generalize hrr : z % (fallW m (n + 1)).1 = r at *
      have le : (fallW m n).1 ≤ (fallW m (n + 1)).1 := p.2.2
      have app : ∀ (a : List Int) (x : Int), a.length = n + 1 → fv m 0 (a ++ [x]) = fv m 0 a + (fallW m (n + 1)).1 * x := fun a x ha => by
        rw [fv_app, Nat.zero_add, ha]
        show _ + ((fallW m (n + 1)).1 * x + 0) = _
        omega
      by_cases hd : q < m
      · obtain ⟨a, a1, a2, a3⟩ := ih.2 r e1 e2
        refine ⟨a ++ [q], by simp [a1], snoc (n + 1) a q a1 a2 d0 hd, ?_⟩
        rw [app a q a1, a3]
        omega
      · have hqm : q = m := by
          by_cases hqq : q = m
          · exact hqq
          · exfalso
            have : (fallW m (n + 1)).1 * (m + 1) ≤ (fallW m (n + 1)).1 * q := Int.mul_le_mul_of_nonneg_left (by omega) (by omega)
            have : (fallW m (n + 1)).1 * (m + 1) = m * (fallW m (n + 1)).1 + (fallW m (n + 1)).1 := by grind
            omega
        subst hqm
        have c : (fallW q (n + 1)).1 * q = q * (fallW q (n + 1)).1 := Int.mul_comm ..
        obtain ⟨a, a1, a2, a3⟩ := ih.1 r e1 (by omega)
        have l0 : Leg q (a ++ [0]) := snoc n a 0 a1 a2 (Int.le_refl _) (by omega)
        have f0 : fv q 0 (a ++ [0]) = r := by
          rw [fv_app, a3]
          show _ + ((fallW q _).1 * 0 + 0) = _
          omega
        refine ⟨(a ++ [0]) ++ [q], by simp [a1], ⟨fun k f ek => ?_, fun k ek => ?_⟩, by rw [app _ _ (by simp [a1]), f0]; omega⟩
        · by_cases hk : k < (a ++ [0]).length
          · rw [List.getElem?_append_left hk] at ek; exact l0.fig k f ek
          · rw [List.getElem?_append_right (by omega)] at ek
            have := List.mem_of_getElem? ek
            simp at this
            omega
        · by_cases hk : k + 1 < (a ++ [0]).length
          · rw [List.getElem?_append_left hk] at ek
            rw [List.getElem?_append_left (by omega)]
            exact l0.fall k ek
          · have hk2 : k = n := by
              by_cases hz : k + 1 - (a ++ [0]).length = 0
              · simp [a1] at hz hk; omega
              · rw [List.getElem?_append_right (by omega), List.getElem?_eq_none (by simp at hz ⊢; omega)] at ek; cases ek
            subst hk2
            rw [List.append_assoc, List.getElem?_append_right (by omega), a1]
            simp
  exact fun n => (two n).1
theorem fall_grow {m : Int} (hm : 1 ≤ m ∧ m ≤ 9) : ∀ n : Nat, (2 : Int) ^ n ≤ (fallW m (2 * n)).1
  | 0 => Int.le_refl 1
  | n + 1 => by
    have ih := fall_grow hm n
    have p := fall_pos hm (2 * n)
    rw [Int.pow_succ, show 2 * (n + 1) = 2 * n + 1 + 1 by omega]
    show 2 ^ n * 2 ≤ m * (fallW m (2 * n + 1)).1 + (fallW m (2 * n)).1
    have p1 := fall_pos hm (2 * n + 1)
    have : (fallW m (2 * n)).1 ≤ (fallW m (2 * n + 1)).1 := p1.2.2
    have := Int.mul_le_mul_of_nonneg_right hm.1 (show 0 ≤ (fallW m (2 * n + 1)).1 by omega)
    omega
theorem isW_fall {m : Int} {row : List Int} : isW (.fall m) row ↔ Leg m row ∧ row.getLast? ≠ some 0 :=
  ⟨fun h => ⟨⟨h.fig, h.fall rfl⟩, h.last⟩, fun h => ⟨h.1.fig, h.2, fun _ => h.1.fall⟩⟩

/-! ### each number has one writing -/
theorem writ_ex {w : WayM} (h : w.ok) {z : Num} (hh : w.has z = true) {n : Nat} (l : z.lt n) : ∃ row : List Int, isW w row ∧ w.val row = z ∧ row.length ≤ 22 * n + 50 := by
  cases hr : w.hasRatio with
  | true =>
    obtain ⟨row, h1, h2, h3, h4⟩ := exists_hor h hr _ 0 z (has_isP hh) (ends_lt h hr (has_isP hh) hh l 0)
    refine ⟨row, ⟨fun k f e => by simpa using figK_iff.mp h1 k f e, h2, fun hf => ?_⟩, by rw [val_horI hr, h4], h3⟩
    rw [isFall_hasRatio, hr] at hf
    cases hf
  | false =>
    cases w with
    | fall m =>
      have hx := has_x (w := .fall m) rfl hh
      have lx := l.1
      have e : ((2 ^ n : Nat) : Int) = 2 ^ n := by simp
      have g := fall_grow h n
      obtain ⟨row, h1, h2, h3⟩ := leg_ex h (2 * n) z.x hx (by omega)
      obtain ⟨r, k, rfl, e2, e3⟩ := strip_ex row
      refine ⟨r, isW_fall.mpr ⟨h2.pre, e2⟩, ?_, by omega⟩
      rw [val_fall]
      rw [fv_app, fv_zeros, Int.add_zero] at h3
      rw [h3]
      exact (Num.eq_i (has_isP hh)).symm
    | _ => cases hr
theorem writ_only {w : WayM} (h : w.ok) {r s : List Int} (hr : isW w r) (hs : isW w s) (e : w.val r = w.val s) : r = s := by
  cases hw : w.hasRatio with
  | true =>
    rw [val_horI hw, val_horI hw] at e
    have e2 : w.horI 0 (r ++ List.replicate s.length 0) = w.horI 0 (s ++ List.replicate r.length 0) := by rw [horI_pad hw, horI_pad hw, e]
    have q := horI_inj h hw 0 _ _ (by simp [Nat.add_comm]) (figK_app hr.figK (figK_zeros h _ _)) (figK_app hs.figK (figK_zeros h _ _)) e2
    exact strip_only q hr.last hs.last
  | false =>
    cases w with
    | fall m =>
      rw [val_fall, val_fall] at e
      injection e with e
      have a := isW_fall.mp hr
      have b := isW_fall.mp hs
      have q := leg_inj h (r.length + s.length) (r ++ List.replicate s.length 0) (s ++ List.replicate r.length 0) (by simp) (by simp [Nat.add_comm]) (leg_zeros h.1 a.1 _) (leg_zeros h.1 b.1 _) (by rw [fv_app, fv_app, fv_zeros, fv_zeros]; omega)
      exact strip_only q a.2 b.2
    | _ => cases hw
end WayM
end DD

set_option Elab.async false
set_option linter.all false
set_option maxRecDepth 100000
set_option maxHeartbeats 1000000
namespace DD
namespace WayM
/-! ### sums by parts -/
theorem wsum_one (w : WayM) (k : Nat) {d : Num} (h : w.fits d) : w.wsum k [d] = (w.weight k).mul d := by
  show ((w.weight k).mul d).add w.nought = _
  refine add_nought ?_
  rw [Num.mul_isP, weight_isP]
  cases e : w.isPairs with
  | true => rfl
  | false => rw [h e]; rfl
theorem wsum_app (w : WayM) : ∀ (k : Nat) (a b : List Num), (∀ d ∈ a ++ b, w.fits d) → w.wsum k (a ++ b) = (w.wsum k a).add (w.wsum (k + a.length) b)
  | k, [], b, h => (nought_add (wsum_isP w k b h)).symm
  | k, d :: a, b, h => by
    have ih := wsum_app w (k + 1) a b fun x hx => h x (List.mem_cons_of_mem _ hx)
    show ((w.weight k).mul d).add (w.wsum (k + 1) (a ++ b)) = (((w.weight k).mul d).add (w.wsum (k + 1) a)).add (w.wsum (k + (d :: a).length) b)
    rw [ih, Num.add_assoc, show k + 1 + a.length = k + (d :: a).length by simp; omega]
theorem worth_snoc (w : WayM) {a : List Num} {d : Num} (h : ∀ x ∈ a ++ [d], w.fits x) : w.worth (a ++ [d]) = (w.worth a).add ((w.weight a.length).mul d) := by
  unfold worth
  rw [wsum_app w 0 a [d] h, Nat.zero_add, wsum_one w _ (h d (by simp))]
theorem worth_nil (w : WayM) : w.worth [] = w.nought := rfl
theorem val_nil (w : WayM) : w.val [] = w.nought := by rw [val_eq]; rfl
theorem take_snoc {α : Type} {l : List α} {i : Nat} {x : α} (h : l[i]? = some x) : l.take (i + 1) = l.take i ++ [x] := by
  rw [List.take_add_one, h]; rfl
theorem worth_take {w : WayM} {ds : List Num} (h : ∀ x ∈ ds, w.fits x) {i : Nat} {d : Num} (e : ds[i]? = some d) : w.worth (ds.take (i + 1)) = (w.worth (ds.take i)).add ((w.weight i).mul d) := by
  have hi := (List.getElem?_eq_some_iff.mp e).1
  rw [take_snoc e, worth_snoc]
  · rw [List.length_take, Nat.min_eq_left (by omega)]
  · intro x hx
    rw [← take_snoc e] at hx
    exact h x (List.mem_of_mem_take hx)
theorem val_take {w : WayM} {row : List Int} {i : Nat} {x : Int} (e : row[i]? = some x) : w.val (row.take (i + 1)) = (w.val (row.take i)).add ((w.weight i).mul (.i x)) := by
  rw [val_eq, val_eq, List.map_take, List.map_take]
  exact worth_take (fits_row w row) (by rw [List.getElem?_map, e]; rfl)

/-! ### sizes -/
theorem nought_lt (w : WayM) (n : Nat) : w.nought.lt n := by
  have p : 0 < 2 ^ n := Nat.pow_pos (by decide)
  exact ⟨by rw [nought_x]; exact p, by rw [nought_y]; exact p⟩
theorem wsum_lt {w : WayM} (h : w.ok) {b : Nat} : ∀ (ds : List Num) (k : Nat), k + ds.length ≤ 20000 → (∀ d ∈ ds, d.lt b) → (w.wsum k ds).lt (17 * (k + ds.length) + b + 5 + ds.length)
  | [], k, _, _ => nought_lt w _
  | d :: ds, k, hl, hd => by
    have hl' : k + 1 + ds.length ≤ 20000 := by simp at hl; omega
    have ih := wsum_lt h ds (k + 1) hl' fun x hx => hd x (List.mem_cons_of_mem _ hx)
    have a := Num.lt_mul (weight_lt h k (by omega)) (hd d List.mem_cons_self)
    have n : 17 * k + 4 + b + 1 ≤ 17 * (k + 1 + ds.length) + b + 5 + ds.length := by omega
    have s := Num.lt_add (Num.lt_mono a n) ih
    exact Num.lt_mono s (by simp; omega)
theorem val_lt {w : WayM} (h : w.ok) {b : Nat} {row : List Int} (hl : row.length ≤ 20000) (hb : ∀ x ∈ row, x.natAbs < 2 ^ b) : (w.val row).lt (18 * row.length + b + 5) := by
  rw [val_eq]
  have := wsum_lt (w := w) h (b := b) (row.map Num.i) 0 (by simpa using hl) fun d hd => by
    obtain ⟨n, hn, rfl⟩ := List.mem_map.mp hd
    exact ⟨hb n hn, Nat.pow_pos (by decide)⟩
  exact Num.lt_mono this (by simp; omega)
theorem fig_lt {w : WayM} (h : w.ok) {k : Nat} (hk : k ≤ 20000) {f : Int} (h1 : w.low k ≤ f) (h2 : f ≤ w.high k) : f.natAbs < 2 ^ 16 := by
  cases w with
  | pairs m =>
    simp only [ok, low, high] at *
    have : m * m ≤ 9 * 9 := Int.mul_le_mul h.2 h.2 (by omega) (by omega)
    omega
  | _ => simp only [ok, low, high] at * <;> omega
theorem isW.lt {w : WayM} (h : w.ok) {row : List Int} (hw : isW w row) (hl : row.length ≤ 20000) : ∀ x ∈ row, x.natAbs < 2 ^ 16 := fun x hx => by
  obtain ⟨k, hk⟩ := List.mem_iff_getElem?.mp hx
  have := (List.getElem?_eq_some_iff.mp hk).1
  have f := hw.fig k x hk
  exact fig_lt h (by omega) f.1 f.2
theorem horI_lt {w : WayM} (h : w.ok) : ∀ (row : List Int) (k : Nat), k + row.length ≤ 20000 → FigK w k row → (w.horI k row).lt (18 * row.length + 17)
  | [], k, _, _ => nought_lt w _
  | f :: fs, k, hl, hf => by
    have hl' : k + 1 + fs.length ≤ 20000 := by simp at hl; omega
    have ih := horI_lt h fs (k + 1) hl' hf.2
    rw [horI_cons]
    have a := Num.lt_mul (ratio_lt h (k := k) (by omega)) ih
    have b : (Num.i f).lt (16 + (18 * fs.length + 17) + 1) := ⟨Nat.lt_of_lt_of_le (fig_lt h (by omega) hf.1.1 hf.1.2) (Nat.pow_le_pow_right (by decide) (by omega)), Nat.pow_pos (by decide)⟩
    exact Num.lt_mono (Num.lt_add b a) (by simp; omega)

/-! ### the figures of a number, one by one -/
theorem horI_ne {w : WayM} (h : w.ok) (hr : w.hasRatio = true) {k : Nat} {fs : List Int} (hf : FigK w k fs) (hl : fs.getLast? ≠ some 0) (hn : fs ≠ []) : w.horI k fs ≠ w.nought := fun e => by
  rw [← horI_zeros hr k fs.length] at e
  have := horI_inj h hr k fs _ (by simp) hf (figK_zeros h k _) e
  rw [this] at hl
  cases fs with
  | nil => exact hn rfl
  | cons a l => exact hl (by simp [List.getLast?_replicate])
theorem isW.drop {w : WayM} {row : List Int} (h : isW w row) : ∀ (i : Nat), FigK w i (row.drop i) ∧ (row.drop i).getLast? ≠ some 0 := fun i => by
  refine ⟨figK_iff.mpr fun j f e => ?_, fun e => ?_⟩
  · rw [List.getElem?_drop] at e
    exact h.fig _ f e
  · rw [List.getLast?_drop] at e
    split at e
    · cases e
    · exact h.last e
theorem is_nought {w : WayM} {z : Num} (hz : z.isP = w.isPairs) : (z.x = 0 ∧ z.y = 0) ↔ z = w.nought := by
  refine ⟨fun h => Num.ext' (by rw [hz, nought_isP]) (by rw [nought_x, h.1]) (by rw [nought_y, h.2]), fun h => ?_⟩
  rw [h, nought_x, nought_y]
  exact ⟨rfl, rfl⟩
theorem fig_drop {w : WayM} (h : w.ok) (hr : w.hasRatio = true) {row : List Int} (hw : isW w row) {i : Nat} (hi : i < row.length) :
    w.fig (w.horI i (row.drop i)) i = row[i] ∧ w.carry (w.horI i (row.drop i)) i = w.horI (i + 1) (row.drop (i + 1)) := by
  rw [List.drop_eq_getElem_cons hi, horI_cons]
  have f := hw.fig i row[i] (List.getElem?_eq_getElem hi)
  exact split_only h hr f.1 f.2 (horI_isP hr _ _)
/-- Falling: how long a writing is -/
theorem fall_len {m : Int} (hm : 1 ≤ m ∧ m ≤ 9) {row : List Int} (hw : isW (.fall m) row) : fv m 0 row < (fallW m row.length).1 ∧ ∀ i, i < row.length → (fallW m i).1 ≤ fv m 0 row := by
  have a := isW_fall.mp hw
  refine ⟨(leg_lt hm _ row (Nat.le_refl _) a.1).2, fun i hi => ?_⟩
  obtain ⟨b, d, rfl, hb⟩ := concat_of (l := row) (n := row.length - 1) (by omega)
  have d0 : 1 ≤ d := by
    have f := a.1.fig (row := b ++ [d]) b.length d (by simp)
    have : d ≠ 0 := fun z => by subst z; exact a.2 (by simp)
    omega
  have nb := (leg_lt hm _ b (Nat.le_refl _) a.1.pre).1
  have e : fv m 0 (b ++ [d]) = fv m 0 b + (fallW m b.length).1 * d := by
    rw [fv_app, Nat.zero_add]
    show _ + ((fallW m b.length).1 * d + 0) = _
    omega
  rw [e]
  have mono : ∀ j k : Nat, (fallW m j).1 ≤ (fallW m (j + k)).1 := fun j k => by
    induction k with
    | zero => exact Int.le_refl _
    | succ k ih => exact Int.le_trans ih (fall_pos hm (j + k + 1)).2.2
  have hi2 : i ≤ b.length := by simp at hi; omega
  have q := mono i (b.length - i)
  rw [show i + (b.length - i) = b.length by omega] at q
  have p := fall_pos hm b.length
  have := Int.mul_le_mul_of_nonneg_left d0 (show 0 ≤ (fallW m b.length).1 by omega)
  omega
theorem leg_take {m : Int} {row : List Int} (h : Leg m row) (i : Nat) : Leg m (row.take i) := by
  have := h
  rw [← List.take_append_drop i row] at this
  exact this.pre
theorem fall_digit {m : Int} (hm : 1 ≤ m ∧ m ≤ 9) {row : List Int} (h : Leg m row) {i : Nat} (hi : i < row.length) :
    fv m 0 (row.take (i + 1)) / (fallW m i).1 = row[i] ∧ fv m 0 (row.take (i + 1)) % (fallW m i).1 = fv m 0 (row.take i) := by
  have e : fv m 0 (row.take (i + 1)) = fv m 0 (row.take i) + (fallW m i).1 * row[i] := by
    rw [take_snoc (List.getElem?_eq_getElem hi), fv_app, Nat.zero_add, List.length_take, Nat.min_eq_left (by omega)]
    show _ + ((fallW m i).1 * row[i] + 0) = _
    omega
  have b := leg_lt hm _ (row.take i) (Nat.le_refl _) (leg_take h i)
  rw [List.length_take, Nat.min_eq_left (by omega)] at b
  have p := fall_pos hm i
  rw [e, Int.add_mul_ediv_left _ _ (by omega), Int.ediv_eq_zero_of_lt b.1 b.2, Int.add_mul_emod_self_left, Int.emod_eq_of_lt b.1 b.2]
  exact ⟨by omega, rfl⟩
end WayM
end DD

set_option Elab.async false
set_option linter.all false
set_option maxRecDepth 100000
set_option maxHeartbeats 1000000
namespace DD
/-! ### where two rows part -/
def at0 (r : List Int) (k : Nat) : Int := (r[k]?).getD 0
/-- the highest place beneath n at which they have unlike things -/
def lastDiff (a b : List Int) : Nat → Option Nat
  | 0 => none
  | n + 1 => if at0 a n = at0 b n then lastDiff a b n else some n
theorem lastDiff_comm (a b : List Int) : ∀ n, lastDiff a b n = lastDiff b a n
  | 0 => rfl
  | n + 1 => by
    unfold lastDiff
    rw [lastDiff_comm a b n]
    by_cases h : at0 a n = at0 b n
    · rw [if_pos h, if_pos h.symm]
    · rw [if_neg h, if_neg (Ne.symm h)]
theorem lastDiff_none (a b : List Int) : ∀ n, lastDiff a b n = none ↔ ∀ k, k < n → at0 a k = at0 b k
  | 0 => ⟨fun _ k h => by omega, fun _ => rfl⟩
  | n + 1 => by
    unfold lastDiff
    by_cases h : at0 a n = at0 b n
    · rw [if_pos h, lastDiff_none a b n]
      refine ⟨fun q k hk => ?_, fun q k hk => q k (by omega)⟩
      rcases Nat.lt_succ_iff_lt_or_eq.mp hk with hk | rfl
      · exact q k hk
      · exact h
    · rw [if_neg h]
      exact ⟨fun z => (by cases z), fun q => absurd (q n (Nat.lt_succ_self n)) h⟩
theorem lastDiff_some (a b : List Int) : ∀ n k, lastDiff a b n = some k → k < n ∧ at0 a k ≠ at0 b k ∧ ∀ j, k < j → j < n → at0 a j = at0 b j
  | 0, k, h => by cases h
  | n + 1, k, h => by
    unfold lastDiff at h
    by_cases e : at0 a n = at0 b n
    · rw [if_pos e] at h
      obtain ⟨h1, h2, h3⟩ := lastDiff_some a b n k h
      refine ⟨by omega, h2, fun j a1 a2 => ?_⟩
      rcases Nat.lt_succ_iff_lt_or_eq.mp a2 with hj | rfl
      · exact h3 j a1 hj
      · exact e
    · rw [if_neg e] at h
      cases h
      exact ⟨Nat.lt_succ_self n, e, fun j a1 a2 => by omega⟩
theorem lastDiff_low (a b : List Int) : ∀ n m, n ≤ m → (∀ k, n ≤ k → k < m → at0 a k = at0 b k) → lastDiff a b m = lastDiff a b n
  | n, 0, h, _ => by rw [show n = 0 by omega]
  | n, m + 1, h, q => by
    by_cases e : n = m + 1
    · rw [e]
    · show (if at0 a m = at0 b m then lastDiff a b m else some m) = _
      rw [if_pos (q m (by omega) (Nat.lt_succ_self m))]
      exact lastDiff_low a b n m (by omega) fun k h1 h2 => q k h1 (by omega)
end DD

set_option Elab.async false
set_option linter.all false
set_option maxRecDepth 100000
set_option maxHeartbeats 1000000
namespace DD
open PySem PySem.Spec PyProof.Rows L2
theorem val_take0 (w : WayM) (row : List Int) : some w.nought.d = some (w.val (row.take 0)).d := by rw [List.take_zero, WayM.val_nil]
theorem isi_way {LC : List Str} {Γ : Gm} {C2 : Str} {w : WayM} {Q : D → Prop} {b : Bool} (h : IsT LC Γ C2) (hw : w.cls ∈ LC) (e : decide (C2 = "Way" ∨ w.cls = C2) = b) (q : Q (.bl b)) : rIsiD Γ (.own C2) w.d Q := ⟨(h w hw).1, _, (h w hw).2, by rw [e]; exact q⟩
def WayM.isGrow : WayM → Bool
  | .grow _ => true
  | _ => false
def WayM.isBelow : WayM → Bool
  | .below _ => true
  | _ => false
theorem is_pairs (w : WayM) : decide (("Pairs" : Str) = "Way" ∨ w.cls = "Pairs") = w.isPairs := by
  cases w with
  | plain x => show decide (("Pairs" : Str) = "Way" ∨ ("Plain" : Str) = "Pairs") = false; decide
  | below x => show decide (("Pairs" : Str) = "Way" ∨ ("Below" : Str) = "Pairs") = false; decide
  | bal x => show decide (("Pairs" : Str) = "Way" ∨ ("Balanced" : Str) = "Pairs") = false; decide
  | grow x => show decide (("Pairs" : Str) = "Way" ∨ ("Growing" : Str) = "Pairs") = false; decide
  | fall x => show decide (("Pairs" : Str) = "Way" ∨ ("Falling" : Str) = "Pairs") = false; decide
  | pairs x => show decide (("Pairs" : Str) = "Way" ∨ ("Pairs" : Str) = "Pairs") = true; decide
theorem is_fall (w : WayM) : decide (("Falling" : Str) = "Way" ∨ w.cls = "Falling") = w.isFall := by
  cases w with
  | plain x => show decide (("Falling" : Str) = "Way" ∨ ("Plain" : Str) = "Falling") = false; decide
  | below x => show decide (("Falling" : Str) = "Way" ∨ ("Below" : Str) = "Falling") = false; decide
  | bal x => show decide (("Falling" : Str) = "Way" ∨ ("Balanced" : Str) = "Falling") = false; decide
  | grow x => show decide (("Falling" : Str) = "Way" ∨ ("Growing" : Str) = "Falling") = false; decide
  | fall x => show decide (("Falling" : Str) = "Way" ∨ ("Falling" : Str) = "Falling") = true; decide
  | pairs x => show decide (("Falling" : Str) = "Way" ∨ ("Pairs" : Str) = "Falling") = false; decide
theorem is_grow (w : WayM) : decide (("Growing" : Str) = "Way" ∨ w.cls = "Growing") = w.isGrow := by
  cases w with
  | plain x => show decide (("Growing" : Str) = "Way" ∨ ("Plain" : Str) = "Growing") = false; decide
  | below x => show decide (("Growing" : Str) = "Way" ∨ ("Below" : Str) = "Growing") = false; decide
  | bal x => show decide (("Growing" : Str) = "Way" ∨ ("Balanced" : Str) = "Growing") = false; decide
  | grow x => show decide (("Growing" : Str) = "Way" ∨ ("Growing" : Str) = "Growing") = true; decide
  | fall x => show decide (("Growing" : Str) = "Way" ∨ ("Falling" : Str) = "Growing") = false; decide
  | pairs x => show decide (("Growing" : Str) = "Way" ∨ ("Pairs" : Str) = "Growing") = false; decide
theorem is_below (w : WayM) : decide (("Below" : Str) = "Way" ∨ w.cls = "Below") = w.isBelow := by
  cases w with
  | plain x => show decide (("Below" : Str) = "Way" ∨ ("Plain" : Str) = "Below") = false; decide
  | below x => show decide (("Below" : Str) = "Way" ∨ ("Below" : Str) = "Below") = true; decide
  | bal x => show decide (("Below" : Str) = "Way" ∨ ("Balanced" : Str) = "Below") = false; decide
  | grow x => show decide (("Below" : Str) = "Way" ∨ ("Growing" : Str) = "Below") = false; decide
  | fall x => show decide (("Below" : Str) = "Way" ∨ ("Falling" : Str) = "Below") = false; decide
  | pairs x => show decide (("Below" : Str) = "Way" ∨ ("Pairs" : Str) = "Below") = false; decide
/-! ### rows of ints -/
theorem ints_at {row : List Int} {i : Nat} {x : Int} (h : row[i]? = some x) : (intsD row)[i]? = some (.int x) := by
  unfold intsD
  rw [List.getElem?_map, h]; rfl
theorem at_ints {row : List Int} {i : Nat} {d : D} (h : (intsD row)[i]? = some d) : ∃ x, row[i]? = some x ∧ d = .int x := by
  unfold intsD at h
  rw [List.getElem?_map] at h
  cases e : row[i]? with
  | none => rw [e] at h; cases h
  | some x => rw [e] at h; cases h; exact ⟨x, rfl, rfl⟩
theorem enum_at : ∀ (l : List D) (n i : Nat) (d : D), (enumD n l)[i]? = some d → ∃ x, l[i]? = some x ∧ d = .tup [.int ((n + i : Nat) : Int), x]
  | [], _, _, _, h => by simp [enumD] at h
  | y :: l, n, 0, _, h => by simp [enumD] at h; exact ⟨y, rfl, by rw [← h]; rfl⟩
  | _ :: l, n, i + 1, d, h => by
    obtain ⟨x, h1, h2⟩ := enum_at l (n + 1) i d (by simpa [enumD] using h)
    exact ⟨x, by simpa using h1, by rw [h2, show n + 1 + i = n + (i + 1) by omega]⟩
theorem enum_ints {row : List Int} {i : Nat} {d : D} (h : (enumD 0 (intsD row))[i]? = some d) : ∃ x, row[i]? = some x ∧ d = .tup [.int (i : Int), .int x] := by
  obtain ⟨y, h1, h2⟩ := enum_at _ _ _ _ h
  obtain ⟨x, h3, h4⟩ := at_ints h1
  subst h4
  rw [Nat.zero_add] at h2
  exact ⟨x, h3, h2⟩
theorem ints_get {row : List Int} {i : Nat} (h : i < row.length) : ∃ x, row[i]? = some x := ⟨row[i], List.getElem?_eq_getElem h⟩
theorem ix_lsti {row : List Int} {j : Int} {i : Nat} {x : Int} {Q : D → Prop} (ej : j = i) (h : row[i]? = some x) (q : Q (.int x)) : rIxD (.lst (intsD row)) (.int j) Q := ix_lst (atI_nat ej (ints_at h)) q
theorem ix_owni {row : List Int} {j : Int} {i : Nat} {x : Int} {Q : D → Prop} (ej : j = i) (h : row[i]? = some x) (q : Q (.int x)) : rIxD (.own (intsD row)) (.int j) Q := ix_own (atI_nat ej (ints_at h)) q
theorem ix_bori {row : List Int} {j : Int} {i : Nat} {x : Int} {Q : D → Prop} (ej : j = i) (h : row[i]? = some x) (q : Q (.int x)) : rIxD (.bor (intsD row)) (.int j) Q := ix_bor (atI_nat ej (ints_at h)) q
theorem ints_last {row : List Int} {x : Int} (h : row.getLast? = some x) : (intsD row).getLast? = some (.int x) := by
  unfold intsD
  rw [List.getLast?_map, h]; rfl
theorem ix_lstz {row : List Int} {x : Int} {Q : D → Prop} (h : row.getLast? = some x) (q : Q (.int x)) : rIxD (.lst (intsD row)) (.int (-1)) Q := ix_lst (atI_last (ints_last h)) q
theorem ix_ownz {row : List Int} {x : Int} {Q : D → Prop} (h : row.getLast? = some x) (q : Q (.int x)) : rIxD (.own (intsD row)) (.int (-1)) Q := ix_own (atI_last (ints_last h)) q
theorem ix_borz {row : List Int} {x : Int} {Q : D → Prop} (h : row.getLast? = some x) (q : Q (.int x)) : rIxD (.bor (intsD row)) (.int (-1)) Q := ix_bor (atI_last (ints_last h)) q
theorem len_ints (row : List Int) : ((intsD row).length : Int) = row.length := by rw [ints_len]
theorem cut_ints (row : List Int) (lo hi : Option Int) : ∃ r2 : List Int, cutD (intsD row) lo hi = intsD r2 ∧ r2.length ≤ row.length ∧ ∀ x ∈ r2, x ∈ row := by
  refine ⟨(row.drop (HT.sIx row.length 0 lo)).take (HT.sIx row.length row.length hi - HT.sIx row.length 0 lo), ?_, ?_, fun x hx => List.mem_of_mem_drop (List.mem_of_mem_take hx)⟩
  · unfold cutD intsD
    rw [List.length_map, List.map_take, List.map_drop]
  · rw [List.length_take, List.length_drop]
    omega

/-! ### equal data -/
mutual
def plainD : Nat → D → Bool
  | _, .non => true
  | _, .bl _ => true
  | _, .int _ => true
  | _, .str x => (PyData.str x).canLay0
  | n, .tup l => plainDs n l
  | n, .lst l => plainDs n l
  | n, .own l => plainDs n l
  | n, .bor l => plainDs n l
  | n, .scr l => plainDs n l
  | _, .ins _ _ _ => false
  | _, .exc _ => false
  | _, .dct _ _ => false
def plainDs : Nat → List D → Bool
  | _, [] => true
  | 0, _ :: _ => false
  | n + 1, d :: ds => plainD n d && plainDs (n + 1) ds
end
mutual
theorem plain_toP : ∀ (d : D) (n : Nat), plainD n d = true → ∃ p, toP d = some p ∧ p.canLay0 = true ∧ p.depth ≤ n + 1
  | .non, n, _ => ⟨_, rfl, rfl, Nat.zero_le _⟩
  | .bl _, n, _ => ⟨_, rfl, rfl, Nat.zero_le _⟩
  | .int _, n, _ => ⟨_, rfl, rfl, Nat.zero_le _⟩
  | .str x, n, h => ⟨.str x, rfl, h, Nat.zero_le _⟩
  | .tup l, n, h => by
    obtain ⟨ps, h1, h2, h3⟩ := plain_toPs l n h
    exact ⟨.tuple ps, by unfold toP; rw [h1], h2, by show PyData.depthAll ps + 1 ≤ n + 1; omega⟩
  | .lst l, n, h => by
    obtain ⟨ps, h1, h2, h3⟩ := plain_toPs l n h
    exact ⟨.list ps, by unfold toP; rw [h1], h2, by show PyData.depthAll ps + 1 ≤ n + 1; omega⟩
  | .own l, n, h => by
    obtain ⟨ps, h1, h2, h3⟩ := plain_toPs l n h
    exact ⟨.list ps, by unfold toP; rw [h1], h2, by show PyData.depthAll ps + 1 ≤ n + 1; omega⟩
  | .bor l, n, h => by
    obtain ⟨ps, h1, h2, h3⟩ := plain_toPs l n h
    exact ⟨.list ps, by unfold toP; rw [h1], h2, by show PyData.depthAll ps + 1 ≤ n + 1; omega⟩
  | .scr l, n, h => by
    obtain ⟨ps, h1, h2, h3⟩ := plain_toPs l n h
    exact ⟨.list ps, by unfold toP; rw [h1], h2, by show PyData.depthAll ps + 1 ≤ n + 1; omega⟩
  | .ins _ _ _, _, h => by cases h
  | .exc _, _, h => by cases h
  | .dct _ _, _, h => by cases h
theorem plain_toPs : ∀ (l : List D) (n : Nat), plainDs n l = true → ∃ ps, toPs l = some ps ∧ PyData.canLayAll0 ps = true ∧ PyData.depthAll ps ≤ n
  | [], n, _ => ⟨[], rfl, rfl, Nat.zero_le _⟩
  | d :: l, 0, h => by cases h
  | d :: l, n + 1, h => by
    have h' : (plainD n d && plainDs (n + 1) l) = true := h
    rw [Bool.and_eq_true] at h'
    obtain ⟨p, h1, h2, h3⟩ := plain_toP d n h'.1
    obtain ⟨ps, g1, g2, g3⟩ := plain_toPs l (n + 1) h'.2
    refine ⟨p :: ps, by unfold toPs; rw [h1, g1], by show (p.canLay0 && PyData.canLayAll0 ps) = true; rw [h2, g2]; rfl, ?_⟩
    show max p.depth (PyData.depthAll ps) ≤ n + 1
    omega
end
theorem rEq_same {d e : D} (n : Nat) {neg : Bool} {Q : D → Prop} (hp : plainD n d = true) (eq : toP e = toP d) (q : Q (.bl (!neg))) (hn : n ≤ 60 := by decide) (ns : (isScal d && isScal e) = false := by rfl) : rEq neg d e Q := by
  obtain ⟨p, h1, h2, h3⟩ := plain_toP d n hp
  have sh : SeqAt.shaped p = true := by
    unfold SeqAt.shaped
    rw [h2, decide_eq_true (by omega)]; rfl
  have e2 : toP e = some p := eq.trans h1
  refine rEq_deep ns ⟨p, h1, sh⟩ ⟨p, e2, sh⟩ ?_
  have : eqD d e = true := by
    unfold eqD
    rw [h1, e2]
    exact SeqAt.eqv_refl p h2
  rw [this]
  cases neg <;> exact q
theorem plain_ints (n : Nat) (r : List Int) : plainDs (n + 1) (intsD r) = true := by
  induction r with
  | nil => rfl
  | cons a r ih => show (plainD n (.int a) && plainDs (n + 1) (intsD r)) = true; rw [ih]; rfl
theorem plain_num (n : Nat) (a : Num) : plainD (n + 1) a.d = true := by cases a <;> rfl
/-- rows that are the same -/
theorem rEq_rowT {d e : D} {r : List Int} {neg : Bool} {Q : D → Prop} (hd : lstT d = some (intsD r)) (he : lstT e = some (intsD r)) (q : Q (.bl (!neg))) : rEq neg d e Q := by
  have k : ∀ x : D, lstT x = some (intsD r) → toP x = toP (.lst (intsD r)) ∧ isScal x = false ∧ plainD 1 x = true := fun x hx => by
    cases x <;> first | (cases hx; exact ⟨rfl, rfl, plain_ints 0 r⟩) | cases hx
  obtain ⟨a1, a2, a3⟩ := k d hd
  obtain ⟨b1, b2, _⟩ := k e he
  exact rEq_same 1 a3 (b1.trans a1.symm) q (by decide) (by rw [a2]; rfl)

/-! ### comprehensions -/
theorem lc_ints {i : Nat} {τ : TD} {ρ : Env} (A : D → Prop) (p : Int → Prop) (step : ∀ (d : D) (K : D → Prop), A d → (∀ x : Int, p x → K (.int x)) → Nx (fun ρ1 => τ ρ1 K) (put ρ i (some d))) :
    ∀ (ds : List D) (Q : List D → Prop), (∀ d ∈ ds, A d) → (∀ row : List Int, row.length = ds.length → (∀ x ∈ row, p x) → Q (intsD row)) → lcR i dTrue τ ds ρ Q
  | [], Q, _, done => done [] rfl (fun x h => by cases h)
  | d :: ds, Q, ha, done => by
    have ih := lc_ints A p step ds
    unfold lcR
    refine .of ?_
    have := (step d (fun y => isBor y = false ∧ lcR i dTrue τ ds ρ fun ys => Q (frzO y :: ys)) (ha d List.mem_cons_self) fun x hx => ⟨rfl, ih _ (fun d hd => ha d (List.mem_cons_of_mem _ hd)) fun row hl hr => ?_⟩).get
    · exact ⟨fun _ => this, fun z => nomatch z⟩
    · exact done (x :: row) (by simp [hl]) fun y hy => by
        rcases List.mem_cons.mp hy with rfl | hy
        · exact hx
        · exact hr y hy
theorem lc_map {α : Type} {i : Nat} {τ : TD} {ρ : Env} (f : α → D) (g : α → D) (p : α → Prop) (nb : ∀ x, isBor (g x) = false ∧ frzO (g x) = g x) (step : ∀ (x : α) (K : D → Prop), p x → K (g x) → Nx (fun ρ1 => τ ρ1 K) (put ρ i (some (f x)))) :
    ∀ (xs : List α) (Q : List D → Prop), (∀ x ∈ xs, p x) → Q (xs.map g) → lcR i dTrue τ (xs.map f) ρ Q
  | [], Q, _, done => done
  | x :: xs, Q, ha, done => by
    have ih := lc_map f g p nb step xs
    show lcR i dTrue τ (f x :: xs.map f) ρ Q
    unfold lcR
    refine .of ?_
    have := (step x (fun y => isBor y = false ∧ lcR i dTrue τ (xs.map f) ρ fun ys => Q (frzO y :: ys)) (ha x List.mem_cons_self) ⟨(nb x).1, ih _ (fun d hd => ha d (List.mem_cons_of_mem _ hd)) (by rw [(nb x).2]; exact done)⟩).get
    exact ⟨fun _ => this, fun z => nomatch z⟩

/-! ### a list of one's own is let go ahead of a statement -/
def dFrzN (i : Nat) (t : TDS) : TDS := fun E ρ => match ρ[i]? with
  | some (some (.own l)) => Nx (t E) (put ρ i (some (.lst l)))
  | _ => t E ρ
theorem js_frzN {S : Sit} {st : Stmt} {t : TDS} (i : Nat) (h : JS S st t) : JS S st (dFrzN i t) := by
  refine ⟨fun G H σ ρ E R q => (js_frz i h).run G H σ ρ E R ?_⟩
  show t E (frzAt i ρ)
  unfold dFrzN at q
  unfold frzAt
  split at q
  · rename_i l e
    first
      | exact q.getS
      | (rw [e]; exact q.getS)
  · rename_i hn
    first
      | exact q
      | (split
         · rename_i l e
           exact absurd e (hn l)
         · exact q)

/-- a call within a comprehension -/
theorem je_callb {S : Sit} {e : Expr} {es : List Expr} {pos p : Pos} {t : TDs} {M : MD} {k n : Nat} {x : Str} {Γ : Gm} (F : Cal Γ k x n M) (h : JA' S (e :: es) t) (hg : Gl S.X x := by rfl) (hdb : (x == ("__debug__" : Str)) = false := by decide)
    (he : starEach (e :: es) S.X.env = (false, eval e S.X.env) :: starEach es S.X.env := by rfl) (hpl : (backTo pos (starEach es S.X.env)).any (·.1) = false := by rfl) (hG : S.gm = Γ := by rfl) (jx : JX S := by exact jx_blk) (hr : Room k S.X.A := by assumption) (hex : S.ex = fun _ _ => False := by rfl) :
    JE S (.Call (.Name x p) (e :: es) [] pos) (eCall (fun _ _ => False) M t) := by
  rw [← hex]
  exact je_call jx F hr hg h hdb he hpl hG
theorem je_callBb {S : Sit} {e : Expr} {es : List Expr} {pos p : Pos} {t : TDs} {x : Str} {id : String} {r : RDs} {Γ : Gm} (hc : DCall S (.builtin id) r) (hm : Γ.mg x = none) (hv : bootBuiltins x = some (.builtin id)) (h : JA' S (e :: es) t) (hg : Gl S.X x := by rfl) (hn : x ≠ "__name__" := by decide) (hdb : (x == ("__debug__" : Str)) = false := by decide)
    (he : starEach (e :: es) S.X.env = (false, eval e S.X.env) :: starEach es S.X.env := by rfl) (hpl : (backTo pos (starEach es S.X.env)).any (·.1) = false := by rfl) (hG : S.gm = Γ := by rfl) : JE S (.Call (.Name x p) (e :: es) [] pos) (eCB r t) := by
  subst hG
  exact je_callB hc hg hm hv h hn hdb he hpl
theorem je_callTyb {S : Sit} {e : Expr} {es : List Expr} {pos p : Pos} {t : TDs} {x : Str} {id : String} {r : RDs} {Γ : Gm} (hc : DCall S (.type id) r) (hm : Γ.mg x = none) (hv : bootBuiltins x = some (.type id)) (h : JA' S (e :: es) t) (hg : Gl S.X x := by rfl) (hn : x ≠ "__name__" := by decide) (hdb : (x == ("__debug__" : Str)) = false := by decide)
    (he : starEach (e :: es) S.X.env = (false, eval e S.X.env) :: starEach es S.X.env := by rfl) (hpl : (backTo pos (starEach es S.X.env)).any (·.1) = false := by rfl) (hG : S.gm = Γ := by rfl) : JE S (.Call (.Name x p) (e :: es) [] pos) (eCB r t) := by
  subst hG
  exact je_callTy hc hg hm hv h hn hdb he hpl
end DD

set_option Elab.async false
set_option linter.all false
set_option maxRecDepth 100000
set_option maxHeartbeats 1000000
namespace DD
open PySem PySem.Spec PyProof.Rows L2
theorem intsD_app (a b : List Int) : intsD (a ++ b) = intsD a ++ intsD b := List.map_append
theorem zeros_split : ∀ (n : Nat) (r : List Int), (∃ s, r = s ++ List.replicate (n + 1) 0) → ∃ s, r = s ++ List.replicate n 0 ++ [0] := fun n r ⟨s, e⟩ => ⟨s, by rw [e, List.replicate_succ', List.append_assoc]⟩
/-- while len(x) > 0 and x[-1] == 0: x.pop() -/
theorem while_strip {i : Nat} {r : List Int} {ρ : Env} {E : DE} (hi : ρ[i]? = some (some (.own (intsD r)))) (done : ∀ (s : List Int) (n : Nat), r = s ++ List.replicate n 0 → s.getLast? ≠ some 0 → Nx E.nx (put ρ i (some (.own (intsD s))))) :
    dWhile (dAnd (dTest (eOp (rInt0 fun i j => .bl (decide (j < i))) (eCB cLen (aCons (eVar i) aNil)) (eC (.int 0)))) (dTest (eOp (DD.rEq false) (eOp DD.rIxD (eVar i) (eNeg (eC (.int 1)))) (eC (.int 0))))) (dMut i mPop aNil) E ρ := by
  have lt : i < ρ.length := (List.getElem?_eq_some_iff.mp hi).1
  refine ⟨fun n ρ2 => ∃ (s : List Int) (m : Nat), n = s.length ∧ r = s ++ List.replicate m 0 ∧ ρ2 = ρ.set i (some (.own (intsD s))), ⟨r.length, ρ, Weak.refl _, r, 0, rfl, by simp, ?_⟩, ?_⟩
  · apply List.ext_getElem?
    intro j
    by_cases hj : i = j
    · subst hj
      rw [List.getElem?_set_self lt, hi]
    · rw [List.getElem?_set_ne hj]
  · rintro n _ ⟨s, m, rfl, er, rfl⟩
    have out : s.getLast? ≠ some 0 → E.nx (ρ.set i (some (.own (intsD s)))) := fun h => (done s m er h).getS
    have hl := ints_len s
    unfold dAnd dTest eOp eCB aCons aNil eVar dMut
    simp only [List.getElem?_set_self lt, borO, frzO, rInt0, cLen, seqD, eC, eNeg]
    cases hs : s.getLast? with
    | none =>
      have e0 : s = [] := by simpa using hs
      refine ⟨fun z => absurd (of_decide_eq_true z) (by rw [hl, e0]; simp), fun _ => ⟨(fun z => nomatch z), fun _ => out (by rw [hs]; simp)⟩⟩
    | some x =>
      have pos : 0 < s.length := by
        cases s with
        | nil => cases hs
        | cons a l => simp
      refine ⟨fun _ => ix_borz hs (rEq_i0 ⟨fun z => ?_, fun z => out ?_⟩), fun z => by rw [decide_eq_true (show (0 : Int) < ((intsD s).length : Int) by omega)] at z; cases z⟩
      · have hx : x = 0 := of_decide_eq_true z
        subst hx
        have e1 : s = s.dropLast ++ [0] := by
          have hn : s ≠ [] := fun z => by subst z; cases hs
          have := (List.dropLast_concat_getLast hn).symm
          rw [List.getLast?_eq_some_getLast hn] at hs
          rw [Option.some.inj hs] at this
          exact this
        have e2 : (intsD s).dropLast = intsD s.dropLast := by unfold intsD; rw [List.map_dropLast]
        show intsD s ≠ [] ∧ Nx _ (put _ i (some (.own (intsD s).dropLast)))
        refine ⟨fun q => ?_, .of ⟨s.dropLast.length, _, by rw [List.length_dropLast]; omega, Weak.refl _, s.dropLast, m + 1, rfl, ?_, ?_⟩⟩
        · rw [q] at hl; simp at hl; omega
        · rw [er, List.replicate_succ]
          conv => lhs; rw [e1]
          simp
        · rw [put_eq, List.set_set, e2]
      · rw [hs]
        intro q
        rw [Option.some.inj q] at z
        simp at z

/-! ### classes of the text: which stands under which -/
theorem kitCls_of {K : PySem.W.Frag} {t : Value} {C : Addr} {b : Bool} (h1 : PySem.W.isClsIn K C = true) (h2 : PySem.W.typeIn K (.ref C) = some (.type "type")) (h3 : PySem.W.subIn K t (.ref C) = some b) : PySem.W.kitCls K t (.ref C) = some b := by
  unfold PySem.W.kitCls
  unfold PySem.W.isClsIn at h1
  dsimp only
  rw [h1, h2, if_pos (by decide)]
  exact h3
theorem kitOne_of {K : PySem.W.Frag} {Dd C : Addr} {b : Bool} (h1 : PySem.W.isClsIn K C = true) (h2 : PySem.W.typeIn K (.ref C) = some (.type "type")) (h3 : PySem.W.subIn K (.ref Dd) (.ref C) = some b) (hs : PySem.W.subIn K (.ref C) (.ref C) = some true) : PySem.W.kitOne K (.ref Dd) (.ref C) = some b := by
  unfold PySem.W.kitOne
  by_cases e : Dd = C
  · subst e
    rw [hs] at h3
    rw [if_pos (by simp)]
    exact h3
  · rw [if_neg (by simpa using e)]
    exact kitCls_of h1 h2 h3
theorem kitVE_of {K : PySem.W.Frag} {Dd : Addr} (h : PySem.W.subIn K (.ref Dd) (.type "ValueError") = some true) : PySem.W.kitOne K (.ref Dd) (.type "ValueError") = some true := by
  unfold PySem.W.kitOne
  rw [if_neg (show ¬ ((Value.ref Dd == Value.type "ValueError") = true) from fun h => by have := beq_iff_eq.mp h; cases this)]
  unfold PySem.W.kitCls
  dsimp only
  rw [if_pos (by decide +kernel)]
  exact h
theorem exmOne_of {K : PySem.W.Frag} {Dd C : Addr} (h1 : PySem.W.isClsIn K C = true) (h2 : PySem.W.typeIn K (.ref C) = some (.type "type")) (h0 : PySem.W.subIn K (.ref C) (.type "BaseException") = some true) (h3 : PySem.W.subIn K (.ref Dd) (.ref C) = some true) : PySem.W.exmOne K (.ref Dd) (.ref C) = some true := by
  unfold PySem.W.exmOne
  rw [h0, if_pos (by decide)]
  exact kitCls_of h1 h2 h3

theorem rep_ints (z : Int) : ∀ k : Nat, (List.replicate k [D.int z]).flatten = intsD (List.replicate k z)
  | 0 => rfl
  | k + 1 => by
    rw [List.replicate_succ, List.replicate_succ, List.flatten_cons, rep_ints z k]
    rfl
theorem rep_ints' (z : Int) (k : Nat) : (List.replicate k [frzO (D.int z)]).flatten = intsD (List.replicate k z) := rep_ints z k
theorem set_ints (l : List Int) (j : Nat) (x : Int) : (intsD l).set j (D.int x) = intsD (l.set j x) := (List.map_set ..).symm
theorem set_ints' (l : List Int) (j : Nat) (x : Int) : (intsD l).set j (frzO (D.int x)) = intsD (l.set j x) := set_ints l j x
theorem noLsts_ints (r : List Int) : noLsts (intsD r) = true := by
  induction r with
  | nil => rfl
  | cons a r ih => show (noLst (.int a) && noLsts (intsD r)) = true; rw [ih]; rfl
theorem ok_ints (r : List Int) : retOk (.own (intsD r)) = true := noLsts_ints r
end DD

set_option Elab.async false
set_option linter.all false
set_option maxRecDepth 100000
set_option maxHeartbeats 1000000
namespace DD
namespace WayM
/-! ### the highest place where writings part says which is the greater -/
def vx (w : WayM) (a : List Int) (k : Nat) : Int := (w.val (a.take k)).x
theorem vx_succ {w : WayM} (a : List Int) (k : Nat) : w.vx a (k + 1) = w.vx a k + (w.weight k).x * at0 a k := by
  unfold vx at0
  cases e : a[k]? with
  | none =>
    have := List.getElem?_eq_none_iff.mp e
    rw [List.take_of_length_le (by omega), List.take_of_length_le (by omega)]
    simp
  | some x =>
    rw [val_take e, Num.add_x, Num.mul_x]
    simp [Num.x, Num.y]
theorem vx_all {w : WayM} {a : List Int} {n : Nat} (h : a.length ≤ n) : w.vx a n = (w.val a).x := by
  unfold vx
  rw [List.take_of_length_le h]
theorem at0_fig {w : WayM} (h : w.ok) {a : List Int} (ha : isW w a) (k : Nat) : w.low k ≤ at0 a k ∧ at0 a k ≤ w.high k := by
  unfold at0
  cases e : a[k]? with
  | none => exact low_high0 h k
  | some x => exact ha.fig k x e
theorem ratio_abs {w : WayM} (h : w.ok) (hr : w.hasRatio = true) (hp : w.isPairs = false) (k : Nat) : ((w.ratio k).x.natAbs : Int) = w.high k - w.low k + 1 := by
  cases w <;> simp only [ok, ratio, high, low, Num.x, isPairs, hasRatio] at * <;> first | omega | (cases hp; done) | (cases hr; done)
theorem weight_ne {w : WayM} (h : w.ok) (hp : w.isPairs = false) : ∀ k : Nat, 0 < (w.weight k).x.natAbs
  | 0 => by cases w <;> first | (show 0 < Int.natAbs 1; decide) | cases hp
  | k + 1 => by
    have ih := weight_ne h hp k
    cases hf : w.isFall with
    | true =>
      obtain ⟨m, rfl⟩ : ∃ m, w = .fall m := by cases w <;> first | exact ⟨_, rfl⟩ | cases hf
      rw [weight_fall]
      have := (fallW_lt h (k + 1)).1
      simp only [Num.x]
      omega
    | false =>
      rw [weight_succ hf, Num.mul_x]
      have y0 : (w.weight k).y = 0 := Num.y0 (by rw [weight_isP, hp])
      have hr : w.hasRatio = true := by rw [isFall_hasRatio] at hf; simpa using hf
      have r := ratio_abs h hr hp k
      have lh := low_high0 h k
      rw [y0, Int.zero_mul, Int.sub_zero, Int.natAbs_mul]
      exact Nat.mul_pos ih (by omega)
theorem gap {w : WayM} (h : w.ok) (hp : w.isPairs = false) {a b : List Int} (ha : isW w a) (hb : isW w b) : ∀ k : Nat, (w.vx a k - w.vx b k).natAbs < (w.weight k).x.natAbs := by
  cases hf : w.isFall with
  | true =>
    obtain ⟨m, rfl⟩ : ∃ m, w = .fall m := by cases w <;> first | exact ⟨_, rfl⟩ | cases hf
    intro k
    have one : ∀ r, isW (.fall m) r → 0 ≤ (WayM.fall m).vx r k ∧ (WayM.fall m).vx r k < (fallW m k).1 := fun r hr => by
      unfold vx
      rw [val_fall]
      have l := leg_lt h _ (r.take k) (Nat.le_refl _) (leg_take (isW_fall.mp hr).1 k)
      have mono : ∀ j k : Nat, (fallW m j).1 ≤ (fallW m (j + k)).1 := fun j k => by
        induction k with
        | zero => exact Int.le_refl _
        | succ k ih => exact Int.le_trans ih (fall_pos h (j + k + 1)).2.2
      have q := mono (r.take k).length (k - (r.take k).length)
      have lt : (r.take k).length ≤ k := by rw [List.length_take]; omega
      rw [show (r.take k).length + (k - (r.take k).length) = k by omega] at q
      exact ⟨l.1, Int.lt_of_lt_of_le l.2 q⟩
    have a1 := one a ha
    have b1 := one b hb
    rw [weight_fall]
    simp only [Num.x]
    omega
  | false =>
    have hr : w.hasRatio = true := by rw [isFall_hasRatio] at hf; simpa using hf
    intro k
    induction k with
    | zero =>
      show ((w.val (a.take 0)).x - (w.val (b.take 0)).x).natAbs < _
      have := weight_ne h hp 0
      simp only [List.take_zero, Int.sub_self, Int.natAbs_zero]
      exact this
    | succ k ih =>
      rw [vx_succ, vx_succ, weight_succ hf, Num.mul_x, Num.y0 (a := w.weight k) (by rw [weight_isP, hp]), Int.zero_mul, Int.sub_zero, Int.natAbs_mul]
      have fa := at0_fig h ha k
      have fb := at0_fig h hb k
      have r := ratio_abs h hr hp k
      have d : (at0 a k - at0 b k).natAbs + 1 ≤ (w.ratio k).x.natAbs := by omega
      have e : w.vx a k + (w.weight k).x * at0 a k - (w.vx b k + (w.weight k).x * at0 b k) = (w.vx a k - w.vx b k) + (w.weight k).x * (at0 a k - at0 b k) := by rw [Int.mul_sub]; omega
      rw [e]
      have t := Int.natAbs_add_le (w.vx a k - w.vx b k) ((w.weight k).x * (at0 a k - at0 b k))
      rw [Int.natAbs_mul] at t
      have m := Nat.mul_le_mul_left (w.weight k).x.natAbs d
      rw [Nat.mul_add] at m
      omega
theorem same_high {w : WayM} {a b : List Int} {k : Nat} : ∀ n, k < n → (∀ j, k < j → j < n → at0 a j = at0 b j) → w.vx a n - w.vx b n = w.vx a (k + 1) - w.vx b (k + 1)
  | 0, h, _ => by omega
  | n + 1, h, q => by
    by_cases e : k = n
    · rw [e]
    · rw [vx_succ a n, vx_succ b n, q n (by omega) (by omega), ← same_high n (by omega) fun j h1 h2 => q j h1 (by omega)]
      omega
/-- which is greater -/
theorem order_at {w : WayM} (h : w.ok) (hp : w.isPairs = false) {a b : List Int} (ha : isW w a) (hb : isW w b) {n k : Nat} (la : a.length ≤ n) (lb : b.length ≤ n) (e : lastDiff a b n = some k) :
    (0 < (w.weight k).x → (at0 a k < at0 b k → (w.val a).x < (w.val b).x) ∧ (at0 b k < at0 a k → (w.val b).x < (w.val a).x)) ∧
    ((w.weight k).x < 0 → (at0 a k < at0 b k → (w.val b).x < (w.val a).x) ∧ (at0 b k < at0 a k → (w.val a).x < (w.val b).x)) := by
  obtain ⟨h1, h2, h3⟩ := lastDiff_some a b n k e
  have s := same_high (w := w) n h1 h3
  rw [vx_all la, vx_all lb, vx_succ, vx_succ] at s
  have g := gap h hp ha hb k
  have q : ∀ d : Int, d = at0 a k - at0 b k → (w.val a).x - (w.val b).x = (w.vx a k - w.vx b k) + (w.weight k).x * d := fun d e => by rw [s, e, Int.mul_sub]; omega
  have q := q _ rfl
  have up : ∀ d : Int, 0 < d → 0 < (w.weight k).x → (w.weight k).x ≤ (w.weight k).x * d := fun d h1 h2 => by
    have := Int.mul_le_mul_of_nonneg_left (show (1 : Int) ≤ d by omega) (Int.le_of_lt h2)
    omega
  have un : ∀ d : Int, d < 0 → 0 < (w.weight k).x → (w.weight k).x * d ≤ - (w.weight k).x := fun d h1 h2 => by
    have := Int.mul_le_mul_of_nonneg_left (show d ≤ -1 by omega) (Int.le_of_lt h2)
    omega
  have dp : ∀ d : Int, 0 < d → (w.weight k).x < 0 → (w.weight k).x * d ≤ (w.weight k).x := fun d h1 h2 => by
    have := Int.mul_le_mul_of_nonpos_left (Int.le_of_lt h2) (show (1 : Int) ≤ d by omega)
    omega
  have dn : ∀ d : Int, d < 0 → (w.weight k).x < 0 → - (w.weight k).x ≤ (w.weight k).x * d := fun d h1 h2 => by
    have := Int.mul_le_mul_of_nonpos_left (Int.le_of_lt h2) (show d ≤ (-1 : Int) by omega)
    omega
  refine ⟨fun hw => ⟨fun z => ?_, fun z => ?_⟩, fun hw => ⟨fun z => ?_, fun z => ?_⟩⟩
  · have := un (at0 a k - at0 b k) (by omega) hw; omega
  · have := up (at0 a k - at0 b k) (by omega) hw; omega
  · have := dn (at0 a k - at0 b k) (by omega) hw; omega
  · have := dp (at0 a k - at0 b k) (by omega) hw; omega
theorem order_same {w : WayM} {a b : List Int} {n : Nat} (la : a.length ≤ n) (lb : b.length ≤ n) (e : lastDiff a b n = none) : (w.val a).x = (w.val b).x := by
  have q := (lastDiff_none a b n).mp e
  rw [← vx_all la, ← vx_all lb]
  have : ∀ m, m ≤ n → w.vx a m = w.vx b m := fun m => by
    induction m with
    | zero => intro _; rfl
    | succ m ih => intro hm; rw [vx_succ, vx_succ, q m (by omega), ih (by omega)]
  exact this n (Nat.le_refl _)
def bel : WayM → Bool
  | .below _ => true
  | _ => false
theorem weight_sign {w : WayM} (h : w.ok) (hp : w.isPairs = false) : ∀ k : Nat, if w.bel = true ∧ k % 2 = 1 then (w.weight k).x < 0 else 0 < (w.weight k).x
  | 0 => by
    rw [if_neg (by omega)]
    cases w <;> first | (show (0 : Int) < 1; decide) | cases hp
  | k + 1 => by
    have ih := weight_sign h hp k
    cases hf : w.isFall with
    | true =>
      obtain ⟨m, rfl⟩ : ∃ m, w = .fall m := by cases w <;> first | exact ⟨_, rfl⟩ | cases hf
      rw [if_neg (by simp [bel]), weight_fall]
      exact (fallW_lt h (k + 1)).1
    | false =>
      rw [weight_succ hf, Num.mul_x, Num.y0 (a := w.weight k) (by rw [weight_isP, hp]), Int.zero_mul, Int.sub_zero]
      have hk : ¬ ((k + 1) % 2 = 1 ∧ k % 2 = 1) := by omega
      cases w with
      | below b =>
        simp only [ok] at h
        simp only [ratio, Num.x]
        by_cases hk : k % 2 = 1
        · rw [if_pos ⟨rfl, hk⟩] at ih
          rw [if_neg (by omega)]
          exact Int.mul_pos_of_neg_of_neg ih (by omega)
        · rw [if_neg (by omega)] at ih
          rw [if_pos ⟨rfl, by omega⟩]
          exact Int.mul_neg_of_pos_of_neg ih (by omega)
      | pairs m => cases hp
      | fall m => cases hf
      | plain b =>
        rw [if_neg (by simp [bel])] at ih ⊢
        simp only [ok] at h
        simp only [ratio, Num.x]
        exact Int.mul_pos ih (by omega)
      | bal b =>
        rw [if_neg (by simp [bel])] at ih ⊢
        simp only [ok] at h
        simp only [ratio, Num.x]
        exact Int.mul_pos ih (by omega)
      | grow b =>
        rw [if_neg (by simp [bel])] at ih ⊢
        simp only [ok] at h
        simp only [ratio, Num.x]
        exact Int.mul_pos ih (by omega)
end WayM
end DD

set_option Elab.async false
set_option linter.all false
set_option maxRecDepth 100000
set_option maxHeartbeats 1000000
namespace DD
open PySem PySem.Spec PyProof.Rows L2
/-! ### rows of ints: more -/
theorem ixN_int {n : Nat} {z : Int} (h : 0 ≤ z ∧ z < n) : L2.ixN n z = some z.toNat := by
  unfold L2.ixN
  rw [if_pos h.1, if_pos h.2]
theorem rep_own {x k : Int} {Q : D → Prop} (h : 0 ≤ k ∧ k ≤ 100000) (q : Q (.own (intsD (List.replicate k.toNat x)))) : rMul (.own [frzO (.int x)]) (.int k) Q := by
  unfold rMul
  show (-(2 ^ 63) ≤ k ∧ k < 2 ^ 63) ∧ 1 * k.toNat ≤ sizeLine ∧ _
  refine ⟨by omega, Nat.le_of_lt (size_lt (by omega)), ?_⟩
  rw [rep_ints' x k.toNat]
  exact q
theorem add_ints {d e : D} {a b : List Int} {Q : D → Prop} (hd : lstT d = some (intsD a)) (he : lstT e = some (intsD b)) (h : a.length + b.length ≤ 1000000) (q : Q (.own (intsD (a ++ b)))) : rAdd d e Q := by
  have key : (intsD a).length + (intsD b).length ≤ sizeLine ∧ Q (.own (intsD a ++ intsD b)) := ⟨by rw [ints_len, ints_len]; exact Nat.le_of_lt (size_lt (by omega)), by rw [← intsD_app]; exact q⟩
  cases d <;> first | (cases hd; done) | skip
  all_goals (cases e <;> first | (cases he; done) | skip)
  all_goals (cases hd; cases he; exact key)
theorem set_own (l : List Int) (j : Nat) (x : Int) : some (some (D.own ((intsD l).set j (frzO (.int x))))) = some (some (D.own (intsD (l.set j x)))) := by rw [set_ints']
end DD

set_option Elab.async false
set_option linter.all false
set_option maxRecDepth 100000
set_option maxHeartbeats 1000000
namespace DD
/-- the thing of a row of totals at a place, 0 behind its end -/
def thing (ds : List Num) (k : Nat) : Num := ds[k]?.getD (.i 0)
namespace WayM
/-! ### rows of totals settled -/
def carryAt (w : WayM) (ds : List Num) : Nat → Num
  | 0 => w.nought
  | k + 1 => w.carry ((carryAt w ds k).add (thing ds k)) k
def figAt (w : WayM) (ds : List Num) (k : Nat) : Int := w.fig ((w.carryAt ds k).add (thing ds k)) k
theorem carryAt_isP (w : WayM) (ds : List Num) : ∀ k, (w.carryAt ds k).isP = w.isPairs
  | 0 => nought_isP w
  | k + 1 => carry_isP w _ _
theorem thing_fits {w : WayM} {ds : List Num} (h : ∀ d ∈ ds, w.fits d) (k : Nat) : w.fits (thing ds k) := by
  unfold thing
  cases e : ds[k]? with
  | none => exact fits_i w 0
  | some d => exact h d (List.mem_of_getElem? e)
theorem thing_out {ds : List Num} {k : Nat} (h : ds.length ≤ k) : thing ds k = .i 0 := by
  unfold thing
  rw [List.getElem?_eq_none h]; rfl
theorem sum_isP {w : WayM} {a b : Num} (ha : a.isP = w.isPairs) (hb : w.fits b) : (a.add b).isP = w.isPairs := by
  rw [Num.add_isP, ha]
  cases e : w.isPairs with
  | true => rfl
  | false => rw [hb e]; rfl
/-- what is left of the row from place k on, by ratios -/
def left (w : WayM) (ds : List Num) (k : Nat) : Num := w.hor k (ds.drop k)
theorem left_isP {w : WayM} (hr : w.hasRatio = true) {ds : List Num} (h : ∀ d ∈ ds, w.fits d) (k : Nat) : (w.left ds k).isP = w.isPairs := hor_isP w hr k _ fun d hd => h d (List.mem_of_mem_drop hd)
theorem left_eq {w : WayM} (hr : w.hasRatio = true) {ds : List Num} (k : Nat) : w.left ds k = (thing ds k).add ((w.ratio k).mul (w.left ds (k + 1))) := by
  unfold left
  by_cases hk : k < ds.length
  · rw [List.drop_eq_getElem_cons hk]
    unfold thing
    rw [List.getElem?_eq_getElem hk]; rfl
  · rw [thing_out (by omega), List.drop_of_length_le (by omega), List.drop_of_length_le (by omega)]
    exact (zero_ratio hr k).symm
theorem left_out {w : WayM} {ds : List Num} {k : Nat} (h : ds.length ≤ k) : w.left ds k = w.nought := by
  unfold left
  rw [List.drop_of_length_le h]; rfl
/-- the carry and what is left -/
def due (w : WayM) (ds : List Num) (k : Nat) : Num := (w.carryAt ds k).add (w.left ds k)
theorem due_isP {w : WayM} (hr : w.hasRatio = true) {ds : List Num} (h : ∀ d ∈ ds, w.fits d) (k : Nat) : (w.due ds k).isP = w.isPairs := by
  unfold due
  rw [Num.add_isP, carryAt_isP, left_isP hr h, Bool.or_self]
theorem due_zero {w : WayM} (hr : w.hasRatio = true) {ds : List Num} (h : ∀ d ∈ ds, w.fits d) : w.due ds 0 = w.worth ds := by
  rw [worth_hor hr h]
  exact nought_add (left_isP hr h 0)
theorem due_out {w : WayM} {ds : List Num} {k : Nat} (h : ds.length ≤ k) : w.due ds k = w.carryAt ds k := by
  unfold due
  rw [left_out h, add_nought (carryAt_isP w ds k)]
theorem due_eq {w : WayM} (hr : w.hasRatio = true) {ds : List Num} (h : ∀ d ∈ ds, w.fits d) (k : Nat) : w.due ds k = (Num.i (w.figAt ds k)).add ((w.ratio k).mul (w.due ds (k + 1))) := by
  have sp := sum_isP (carryAt_isP w ds k) (thing_fits h k)
  have e := split_eq hr (w := w) (a := (w.carryAt ds k).add (thing ds k)) (fun q => sp.trans q) k
  rw [lift_self sp] at e
  unfold due
  rw [left_eq hr k, ← Num.add_assoc, e, Num.add_assoc]
  rw [show w.carry ((w.carryAt ds k).add (thing ds k)) k = w.carryAt ds (k + 1) from rfl, ← Num.mul_add]
  rfl
theorem figAt_range {w : WayM} (ok : w.ok) (hr : w.hasRatio = true) (ds : List Num) (k : Nat) : w.low k ≤ w.figAt ds k ∧ w.figAt ds k ≤ w.high k := fig_range ok hr _ (by omega)
def figs (w : WayM) (ds : List Num) (k m : Nat) : List Int := (List.range m).map fun j => w.figAt ds (k + j)
theorem figs_succ (w : WayM) (ds : List Num) (k m : Nat) : w.figs ds k (m + 1) = w.figAt ds k :: w.figs ds (k + 1) m := by
  unfold figs
  rw [List.range_succ_eq_map, List.map_cons, List.map_map]
  refine congrArg (_ :: ·) (List.map_congr_left fun j _ => ?_)
  show w.figAt ds (k + (j + 1)) = _
  rw [show k + (j + 1) = k + 1 + j by omega]
theorem figs_snoc (w : WayM) (ds : List Num) (m : Nat) : w.figs ds 0 (m + 1) = w.figs ds 0 m ++ [w.figAt ds m] := by
  unfold figs
  rw [List.range_succ, List.map_append]
  simp
theorem figs_length (w : WayM) (ds : List Num) (k m : Nat) : (w.figs ds k m).length = m := by unfold figs; simp
theorem figs_hor {w : WayM} (hr : w.hasRatio = true) {ds : List Num} (h : ∀ d ∈ ds, w.fits d) : ∀ (m k : Nat), w.due ds (k + m) = w.nought → w.horI k (w.figs ds k m) = w.due ds k
  | 0, k, e => e.symm
  | m + 1, k, e => by
    rw [figs_succ, horI_cons, figs_hor hr h m (k + 1) (by rw [show k + 1 + m = k + (m + 1) by omega]; exact e), ← due_eq hr h k]
theorem figs_figK {w : WayM} (ok : w.ok) (hr : w.hasRatio = true) (ds : List Num) (m : Nat) : FigK w 0 (w.figs ds 0 m) := figK_iff.mpr fun i f e => by
  unfold figs at e
  rw [List.getElem?_map] at e
  cases hi : (List.range m)[i]? with
  | none => rw [hi] at e; cases e
  | some j =>
    rw [hi] at e
    have : j = i := by
      have := (List.getElem?_eq_some_iff.mp hi).2
      rw [List.getElem_range] at this
      exact this.symm
    subst this
    cases e
    exact figAt_range ok hr ds (0 + j)
/-- the figures, without the 0s at their end, are the writing of what the row is worth -/
theorem settle_writ {w : WayM} (ok : w.ok) (hr : w.hasRatio = true) {ds : List Num} (h : ∀ d ∈ ds, w.fits d) {m : Nat} (hm : ds.length ≤ m) (e : w.carryAt ds m = w.nought) {r : List Int} {n : Nat} (er : w.figs ds 0 m = r ++ List.replicate n 0) (hl : r.getLast? ≠ some 0) :
    isW w r ∧ w.val r = w.worth ds := by
  have e2 := figs_hor hr h m 0 (by rw [Nat.zero_add, due_out hm]; exact e)
  rw [due_zero hr h, er, horI_pad hr] at e2
  refine ⟨⟨fun k f ek => ?_, hl, fun z => ?_⟩, by rw [val_horI hr]; exact e2⟩
  · have := figs_figK ok hr ds m
    rw [er] at this
    have := figK_iff.mp this k f (by rw [List.getElem?_append_left (List.getElem?_eq_some_iff.mp ek).1]; exact ek)
    simpa using this
  · rw [isFall_hasRatio, hr] at z; cases z
/-- whether there is such a number is the same all along -/
theorem due_has {w : WayM} (ok : w.ok) (hr : w.hasRatio = true) {ds : List Num} (h : ∀ d ∈ ds, w.fits d) : ∀ k, w.has (w.due ds k) = w.has (w.worth ds)
  | 0 => by rw [due_zero hr h]
  | k + 1 => by
    rw [← due_has ok hr h k]
    have e := due_eq hr h k
    have p0 := due_isP hr h k
    have p1 := due_isP hr h (k + 1)
    have f := figAt_range ok hr ds k
    cases hp : w.pos with
    | false =>
      have key : ∀ a : Num, a.isP = w.isPairs → w.has a = true := fun a ha => by cases w <;> first | (cases hp; done) | (cases a <;> first | rfl | cases ha)
      rw [key _ p0, key _ p1]
    | true =>
      have np : w.isPairs = false := by cases w <;> first | rfl | cases hp
      rw [np] at p0 p1
      rw [has_pos hp, has_pos hp, p0, p1]
      have ex : (w.due ds k).x = w.figAt ds k + (w.ratio k).x * (w.due ds (k + 1)).x := by
        rw [e, Num.add_x, Num.mul_x, Num.y0 p1]
        simp [Num.x]
      have rr : 0 < (w.ratio k).x ∧ w.low k = 0 ∧ w.high k = (w.ratio k).x - 1 := by
        clear e p0 p1 f ex
        cases w with
        | plain b => simp only [WayM.ok] at ok; exact ⟨by show 0 < b; omega, rfl, rfl⟩
        | grow b => simp only [WayM.ok] at ok; exact ⟨by show 0 < b + (k : Int); omega, rfl, rfl⟩
        | fall b => cases hr
        | _ => cases hp
      obtain ⟨r0, l0, h0⟩ := rr
      rw [l0, h0] at f
      have iff : 0 ≤ (w.due ds (k + 1)).x ↔ 0 ≤ (w.due ds k).x := by
        rw [ex]
        constructor
        · intro q
          have := Int.mul_nonneg (Int.le_of_lt r0) q
          omega
        · intro q
          by_cases hn : 0 ≤ (w.due ds (k + 1)).x
          · exact hn
          · have := Int.mul_le_mul_of_nonneg_left (show (w.due ds (k + 1)).x ≤ -1 by omega) (Int.le_of_lt r0)
            omega
      have : decide (0 ≤ (w.due ds (k + 1)).x) = decide (0 ≤ (w.due ds k).x) := decide_eq_decide.mpr iff
      rw [this]

/-! ### sizes -/
theorem two_pow_int (n : Nat) : ((2 ^ n : Nat) : Int) = 2 ^ n := by simp
theorem carry_lt {w : WayM} (ok : w.ok) {a : Num} {n : Nat} (hn : 6 ≤ n) (h : a.lt n) (k : Nat) : (w.carry a k).lt (n + 1) := by
  have p64 : 2 ^ 6 ≤ 2 ^ n := Nat.pow_le_pow_right (by decide) hn
  have ps : 2 ^ (n + 1) = 2 * 2 ^ n := by rw [Nat.pow_succ]; omega
  obtain ⟨hx, hy⟩ := h
  rw [Num.lt, ps]
  revert hx hy p64
  generalize 2 ^ n = p
  intro hx hy p64
  have div0 : ∀ (x b : Int), 0 < b → -(p : Int) ≤ x → x ≤ p → -(p : Int) ≤ x / b ∧ x / b ≤ p := fun x b hb h1 h2 => by
    have e := Int.mul_ediv_add_emod x b
    have m1 := Int.emod_nonneg x (show b ≠ 0 by omega)
    have m2 := Int.emod_lt_of_pos x hb
    constructor
    · by_cases hq : -(p : Int) ≤ x / b
      · exact hq
      · have := Int.mul_le_mul_of_nonneg_left (show x / b ≤ -(p : Int) - 1 by omega) (Int.le_of_lt hb)
        have e3 : b * (-(p : Int) - 1) = -(b * p) - b := by grind
        have : (p : Int) ≤ b * p := le_mul1 (by omega) (by omega)
        omega
    · by_cases hq : x / b ≤ p
      · exact hq
      · have := Int.mul_le_mul_of_nonneg_left (show (p : Int) + 1 ≤ x / b by omega) (Int.le_of_lt hb)
        have e3 : b * ((p : Int) + 1) = b * p + b := by grind
        have : (p : Int) ≤ b * p := le_mul1 (by omega) (by omega)
        omega
  cases w with
  | fall m =>
    simp only [WayM.ok] at ok
    show Int.natAbs ((a.x - 0) / 1) < 2 * p ∧ Int.natAbs 0 < 2 * p
    rw [Int.ediv_one]
    omega
  | plain b =>
    simp only [WayM.ok] at ok
    have := div0 (a.x - 0) b (by omega) (by omega) (by omega)
    show Int.natAbs ((a.x - 0) / b) < 2 * p ∧ Int.natAbs 0 < 2 * p
    omega
  | below b =>
    simp only [WayM.ok] at ok
    have := div0 a.x b (by omega) (by omega) (by omega)
    show Int.natAbs (0 - a.x / b) < 2 * p ∧ Int.natAbs 0 < 2 * p
    omega
  | grow b =>
    simp only [WayM.ok] at ok
    have := div0 (a.x - 0) (b + k) (by omega) (by omega) (by omega)
    show Int.natAbs ((a.x - 0) / (b + (k : Int))) < 2 * p ∧ Int.natAbs 0 < 2 * p
    omega
  | bal b =>
    simp only [WayM.ok] at ok
    show Int.natAbs ((a.x - (0 - b)) / (2 * b + 1)) < 2 * p ∧ Int.natAbs 0 < 2 * p
    have e := Int.mul_ediv_add_emod (a.x - (0 - b)) (2 * b + 1)
    have m1 := Int.emod_nonneg (a.x - (0 - b)) (show 2 * b + 1 ≠ 0 by omega)
    have m2 := Int.emod_lt_of_pos (a.x - (0 - b)) (show 0 < 2 * b + 1 by omega)
    revert e m1 m2
    generalize (a.x - (0 - b)) / (2 * b + 1) = q
    intro e m1 m2
    have : -(p : Int) ≤ q ∧ q ≤ p := by
      constructor
      · by_cases hq : -(p : Int) ≤ q
        · exact hq
        · have := Int.mul_le_mul_of_nonneg_left (show q ≤ -(p : Int) - 1 by omega) (show 0 ≤ 2 * b + 1 by omega)
          have e3 : (2 * b + 1) * (-(p : Int) - 1) = -(2 * (b * p)) - p - 2 * b - 1 := by grind
          have : (p : Int) ≤ b * p := le_mul1 (by omega) (by omega)
          omega
      · by_cases hq : q ≤ p
        · exact hq
        · have := Int.mul_le_mul_of_nonneg_left (show (p : Int) + 1 ≤ q by omega) (show 0 ≤ 2 * b + 1 by omega)
          have e3 : (2 * b + 1) * ((p : Int) + 1) = 2 * (b * p) + p + 2 * b + 1 := by grind
          have : (p : Int) ≤ b * p := le_mul1 (by omega) (by omega)
          omega
    omega
  | pairs m =>
    simp only [WayM.ok] at ok
    show Int.natAbs (a.y - m * ((a.x + m * a.y) / (m * m + 1))) < 2 * p ∧ Int.natAbs (0 - (a.x + m * a.y) / (m * m + 1)) < 2 * p
    have e := Int.mul_ediv_add_emod (a.x + m * a.y) (m * m + 1)
    have m1 := Int.emod_nonneg (a.x + m * a.y) (show m * m + 1 ≠ 0 by have := sq_pos m; omega)
    have m2 := Int.emod_lt_of_pos (a.x + m * a.y) (sq_pos m)
    revert e m1 m2
    generalize (a.x + m * a.y) / (m * m + 1) = q
    intro e m1 m2
    have cs : m = 1 ∨ m = 2 ∨ m = 3 ∨ m = 4 ∨ m = 5 ∨ m = 6 ∨ m = 7 ∨ m = 8 ∨ m = 9 := by omega
    rcases cs with rfl | rfl | rfl | rfl | rfl | rfl | rfl | rfl | rfl <;> omega
theorem carryAt_lt {w : WayM} (ok : w.ok) {ds : List Num} {b : Nat} (hb : ∀ d ∈ ds, d.lt b) : ∀ k, (w.carryAt ds k).lt (b + 2 * k + 6)
  | 0 => nought_lt w _
  | k + 1 => by
    have ih := carryAt_lt ok hb k
    have ht : (thing ds k).lt (b + 2 * k + 6) := by
      unfold thing
      cases e : ds[k]? with
      | none => exact ⟨Nat.pow_pos (by decide), Nat.pow_pos (by decide)⟩
      | some d => exact Num.lt_mono (hb d (List.mem_of_getElem? e)) (by omega)
    exact carry_lt ok (by omega) (Num.lt_add ih ht) k
theorem total_lt {w : WayM} (ok : w.ok) {ds : List Num} {b : Nat} (hb : ∀ d ∈ ds, d.lt b) (k : Nat) : ((w.carryAt ds k).add (thing ds k)).lt (b + 2 * k + 7) := by
  have ht : (thing ds k).lt (b + 2 * k + 6) := by
    unfold thing
    cases e : ds[k]? with
    | none => exact ⟨Nat.pow_pos (by decide), Nat.pow_pos (by decide)⟩
    | some d => exact Num.lt_mono (hb d (List.mem_of_getElem? e)) (by omega)
  exact Num.lt_add (carryAt_lt ok hb k) ht

/-! ### the settling ends -/
theorem ends_at {w : WayM} {ds : List Num} : ∀ (n k : Nat), ds.length ≤ k → Ends w n k (w.carryAt ds k) → w.carryAt ds (k + n) = w.nought
  | 0, k, _, e => e
  | n + 1, k, hk, e => by
    have e1 : w.carryAt ds (k + 1) = w.carry (w.carryAt ds k) k := by
      show w.carry ((w.carryAt ds k).add (thing ds k)) k = _
      rw [thing_out hk]
      congr 1
      apply Num.ext'
      · rw [Num.add_isP]; simp [Num.isP]
      · rw [Num.add_x]; simp [Num.x]
      · rw [Num.add_y]; simp [Num.y]
    have := ends_at (w := w) (ds := ds) n (k + 1) (by omega) (by rw [e1]; exact e)
    rw [show k + (n + 1) = k + 1 + n by omega]
    exact this
theorem first_end {w : WayM} {ds : List Num} : ∀ (n k : Nat), w.carryAt ds (k + n) = w.nought → ∃ m, k ≤ m ∧ m ≤ k + n ∧ w.carryAt ds m = w.nought ∧ ∀ j, k ≤ j → j < m → w.carryAt ds j ≠ w.nought
  | 0, k, e => ⟨k, Nat.le_refl _, Nat.le_refl _, e, fun j h1 h2 => absurd h2 (by omega)⟩
  | n + 1, k, e => by
    by_cases h : w.carryAt ds k = w.nought
    · exact ⟨k, Nat.le_refl _, by omega, h, fun j h1 h2 => absurd h2 (by omega)⟩
    · obtain ⟨m, h1, h2, h3, h4⟩ := first_end (ds := ds) n (k + 1) (by rw [show k + 1 + n = k + (n + 1) by omega]; exact e)
      exact ⟨m, by omega, by omega, h3, fun j g1 g2 => by
        by_cases hj : j = k
        · rw [hj]; exact h
        · exact h4 j (by omega) g2⟩
/-- where the row is settled: the place m behind which nothing is carried -/
theorem settles {w : WayM} (ok : w.ok) (hr : w.hasRatio = true) {ds : List Num} (h : ∀ d ∈ ds, w.fits d) {b : Nat} (hb : ∀ d ∈ ds, d.lt b) (hh : w.has (w.worth ds) = true) :
    ∃ m, ds.length ≤ m ∧ m ≤ 22 * b + 45 * ds.length + 182 ∧ w.carryAt ds m = w.nought ∧ ∀ j, ds.length ≤ j → j < m → w.carryAt ds j ≠ w.nought := by
  have c := carryAt_lt ok hb ds.length
  have hc : w.has (w.carryAt ds ds.length) = true := by rw [← due_out (Nat.le_refl ds.length), due_has ok hr h, hh]
  have e := ends_at _ _ (Nat.le_refl ds.length) (ends_lt ok hr (carryAt_isP w ds _) hc c ds.length)
  obtain ⟨m, h1, h2, h3, h4⟩ := first_end _ _ e
  exact ⟨m, h1, by omega, h3, h4⟩
end WayM
end DD

set_option Elab.async false
set_option linter.all false
set_option maxRecDepth 100000
set_option maxHeartbeats 1000000
namespace DD
open PySem PySem.Spec PyProof.Rows L2
/-! ### calls within a try's suite: where an exception goes is told -/
theorem je_callT {S : Sit} {e : Expr} {es : List Expr} {pos p : Pos} {t : TDs} {M : MD} {k n : Nat} {x : Str} {Γ : Gm} (ex : TX) (jx : JX S) (F : Cal Γ k x n M) (hr : Room k S.X.A) (hg : Gl S.X x) (h : JA' S (e :: es) t) (hdb : (x == ("__debug__" : Str)) = false := by decide)
    (he : starEach (e :: es) S.X.env = (false, eval e S.X.env) :: starEach es S.X.env := by rfl) (hpl : (backTo pos (starEach es S.X.env)).any (·.1) = false := by rfl) (hG : S.gm = Γ := by rfl) (hex : S.ex = ex := by rfl) :
    JE S (.Call (.Name x p) (e :: es) [] pos) (eCall ex M t) := by
  rw [← hex]
  exact je_call jx F hr hg h hdb he hpl hG
theorem je_methT {S : Sit} {e : Expr} {es : List Expr} {m : Str} {apos pos : Pos} {t : TDs} {k : Nat} (Γ : Gm) (ex : TX) (n : Nat) (jx : JX S) (hr : Room k S.X.A) {i : Nat} {y : Str} {py : Pos} {pl : Sem Bool} (ho : PE S.X (.Name y py) (tVar i)) (h : JA' S (e :: es) t)
    (hst : starEach (e :: es) S.X.env = (false, eval e S.X.env) :: starEach es S.X.env := by rfl) (hpl : (backTo pos (starEach es S.X.env)).any (·.1) = false := by rfl)
    (ht : eval (.Call (.Attribute (.Name y py) m apos) (e :: es) [] pos) S.X.env = (do
      let ov ← eval (.Name y py) S.X.env
      standAt apos.atName
      let (f, first) ← holding [ov] (getMethod ov m pl)
      callWith pos f first (backTo pos (starEach (e :: es) S.X.env)) (backToKw pos (keywordEach [] S.X.env))) := by rfl) (hG : S.gm = Γ := by rfl) (hex : S.ex = ex := by rfl) :
    JE S (.Call (.Attribute (.Name y py) m apos) (e :: es) [] pos) (eMeth Γ ex k i m n t) := by
  rw [← hex]
  exact je_meth Γ n jx hr ho h hst hpl ht hG
theorem je_makeT {S : Sit} {e : Expr} {pos p : Pos} {t : TDs} {k : Nat} {C fld : Str} {lo hi : Int} {Γ : Gm} (ex : TX) (jx : JX S) (F : CalC Γ k C fld lo hi) (hr : Room (k + 1) S.X.A) (hg : Gl S.X C) (h : JA' S [e] t) (hdb : (C == ("__debug__" : Str)) = false := by decide)
    (he : starEach [e] S.X.env = (false, eval e S.X.env) :: starEach [] S.X.env := by rfl) (hpl : (backTo pos (starEach [] S.X.env)).any (·.1) = false := by rfl) (hG : S.gm = Γ := by rfl) (hex : S.ex = ex := by rfl) :
    JE S (.Call (.Name C p) [e] [] pos) (eCall ex (M_mk C fld lo hi) t) := by
  rw [← hex]
  exact je_make jx F hr hg h hdb he hpl hG
/-! ### texts that are not the same; a comprehension's ints by place -/
theorem rEq_sF {i j : Str} {Q : D → Prop} (h : i ≠ j) (q : Q (.bl false)) : rEq false (.str i) (.str j) Q := rEq_s0 (by rw [decide_eq_false h]; exact q)
theorem lc_intsAt {i : Nat} {τ : TD} {ρ : Env} (p : Nat → Int → Prop) :
    ∀ (ds : List D) (k0 : Nat) (Q : List D → Prop), (∀ (j : Nat) (d : D) (K : D → Prop), ds[j]? = some d → (∀ x : Int, p (k0 + j) x → K (.int x)) → Nx (fun ρ1 => τ ρ1 K) (put ρ i (some d))) → (∀ row : List Int, row.length = ds.length → (∀ (j : Nat) (x : Int), row[j]? = some x → p (k0 + j) x) → Q (intsD row)) → lcR i dTrue τ ds ρ Q
  | [], k0, Q, _, done => done [] rfl (fun j x h => by simp at h)
  | d :: ds, k0, Q, step, done => by
    unfold lcR
    refine .of ?_
    have := (step 0 d (fun y => isBor y = false ∧ lcR i dTrue τ ds ρ fun ys => Q (frzO y :: ys)) rfl fun x hx => ⟨rfl, lc_intsAt p ds (k0 + 1) _ (fun j d K e hK => step (j + 1) d K e (fun x hx => hK x (by rw [show k0 + 1 + j = k0 + (j + 1) by omega]; exact hx))) fun row hl hr => ?_⟩).get
    · exact ⟨fun _ => this, fun z => nomatch z⟩
    · exact done (x :: row) (by simp [hl]) fun j y hy => by
        cases j with
        | zero => cases hy; exact hx
        | succ j =>
          have := hr j y hy
          rw [show k0 + 1 + j = k0 + (j + 1) by omega] at this
          exact this
/-- a loop whose state is one of many -/
theorem for_ex {α : Type} {g : TDG} {tb : TDS} {E : DE} {items : List D} (enc : α → Env) (A : Nat → α → Prop) {a0 : α} (h0 : A 0 a0) (step : ∀ (i : Nat) (d : D) (a : α) (N : Env → Prop), items[i]? = some d → A i a → (∀ a' ρ', A (i + 1) a' → Weak ρ' (enc a') → N ρ') → g d (enc a) fun ρ2 => tb { nx := N, rt := E.rt, bk := E.nx, ct := N } ρ2)
    (done : ∀ a, A items.length a → E.nx (enc a)) : forR g tb E items (enc a0) := by
  refine for_inv (fun ds ρ => ∃ i a, i ≤ items.length ∧ ds = items.drop i ∧ ρ = enc a ∧ A i a) (fun d rest ρ N h hn => ?_) (fun ρ h => ?_) items (enc a0) ⟨0, a0, Nat.zero_le _, rfl, rfl, h0⟩
  · obtain ⟨i, a, hi, e, rfl, ha⟩ := h
    have hl : i < items.length := by
      by_cases hl : i < items.length
      · exact hl
      · rw [List.drop_eq_nil_of_le (Nat.le_of_not_lt hl)] at e; cases e
    rw [List.drop_eq_getElem_cons hl] at e
    injection e with e1 e2
    refine step i d a N (by rw [List.getElem?_eq_getElem hl, e1]) ha fun a' ρ' ha' w => hn ρ' _ w ⟨i + 1, a', hl, e2, rfl, ha'⟩
  · obtain ⟨i, a, hi, e, rfl, ha⟩ := h
    have : i = items.length := by
      have := congrArg List.length e
      simp at this
      omega
    subst this
    exact done a ha
theorem for_exR {α : Type} {g : TDG} {tb : TDS} {E : DE} {lo : Int} {n : Nat} (enc : α → Env) (A : Nat → α → Prop) {a0 : α} (h0 : A 0 a0) (step : ∀ (i : Nat) (a : α) (N : Env → Prop), i < n → A i a → (∀ a' ρ', A (i + 1) a' → Weak ρ' (enc a') → N ρ') → g (.int (lo + (i : Nat))) (enc a) fun ρ2 => tb { nx := N, rt := E.rt, bk := E.nx, ct := N } ρ2)
    (done : ∀ a, A n a → E.nx (enc a)) : forR g tb E (rangeD lo n) (enc a0) := by
  refine for_ex enc A h0 (fun i d a N e ha hN => ?_) (by rw [range_len]; exact done)
  have hi : i < n := by
    by_cases hi : i < n
    · exact hi
    · rw [List.getElem?_eq_none (by rw [range_len]; omega)] at e; cases e
  have : d = .int (lo + (i : Nat)) := by
    simp only [rangeD, List.getElem?_map, List.getElem?_range hi, Option.map_some] at e
    exact (Option.some.inj e).symm
  subst this
  exact step i a N hi ha hN
theorem ints_of_mem : ∀ {l : List D}, (∀ d ∈ l, ∃ c, d = .int c) → ∃ r : List Int, l = intsD r ∧ r.length = l.length
  | [], _ => ⟨[], rfl, rfl⟩
  | d :: l, h => by
    obtain ⟨r, e, hr⟩ := ints_of_mem (l := l) fun x hx => h x (List.mem_cons_of_mem _ hx)
    obtain ⟨c, rfl⟩ := h d List.mem_cons_self
    exact ⟨c :: r, by rw [e]; rfl, by simp [hr]⟩
theorem range_at {n j : Nat} {d : D} (h : (rangeD 0 n)[j]? = some d) : j < n ∧ d = .int (j : Int) := by
  have hj : j < n := by
    have := (List.getElem?_eq_some_iff.mp h).1
    rw [range_len] at this
    exact this
  refine ⟨hj, ?_⟩
  simp only [rangeD, List.getElem?_map, List.getElem?_range hj, Option.map_some] at h
  have := (Option.some.inj h).symm
  rw [Int.zero_add] at this
  exact this
end DD

set_option Elab.async false
set_option linter.all false
set_option maxRecDepth 100000
set_option maxHeartbeats 1000000
namespace DD
open PySem PySem.Spec PyProof.Rows L2
/-! ### [elt for x, y in xs if ..] -/
def lcRP (i j : Nat) (tt : TDt) (τ : TD) : List D → Env → (List D → Prop) → Prop
  | [], _, Q => Q []
  | d :: ds, ρ, Q => ∃ a b, d = .tup [a, b] ∧ Nx (fun ρ1 => Nx (fun ρ2 => tt ρ2 fun c => (c = true → τ ρ2 fun y => isBor y = false ∧ lcRP i j tt τ ds ρ fun ys => Q (frzO y :: ys)) ∧ (c = false → lcRP i j tt τ ds ρ Q)) (put ρ1 j (some b))) (put ρ i (some a))
def eLcP (ι : TDI) (i j : Nat) (tt : TDt) (τ : TD) : TD := fun ρ Q => ι ρ fun ds => ds.length < sizeLine ∧ lcRP i j tt τ ds ρ fun ys => Q (.own ys)
theorem set_two {σ : L2.St} {i j : Nat} (h : i ≠ j) (u v : Option V) : ((((σ.set j none).set i none).set i u).set j v) = ((σ.set i u).set j v) := by
  rw [List.set_set, List.set_comm (none : Option V) u (Ne.symm h), List.set_set]
section
variable {S : Sit}
theorem lcP_run {x y : Str} {px py pt : Pos} {kk : Nat} {elt iter : Expr} {ifs : List Expr} {scope : Scope} {i j : Nat} {ι : TDI} {tt : TDt} {τ : TD} (hij : i ≠ j) (hi : JI S (.Tuple [.Name x px, .Name y py] kk pt) iter ι)
    (ht : ∀ (s : Shared) (H : Hp) (C : Addr) (cl : List (Str × Addr)) (fp : List Addr), JTs (S.blk s H scope (compEnvC scope cl C S.X.env) fp) ifs tt)
    (he : ∀ (s : Shared) (H : Hp) (C : Addr) (cl : List (Str × Addr)) (fp : List Addr), JE (S.blk s H scope (compEnvC scope cl C S.X.env) fp) elt τ)
    {G H : Hp} {σ : L2.St} {ρ : Env} {Q : D → Prop} (R : S.Rel G H σ ρ) (h : eLcP ι i j tt τ ρ Q) (np : npb S.pp i = true) (np2 : npb S.pp j = true) :
    tLc (WI S.X (.Tuple [.Name x px, .Name y py] kk pt) iter) (L2.gTup S.X.K 2 (L2.gCons (gName i) (L2.gCons (gName j) L2.gNil))) (UT S.X scope ifs) (UE S.X scope elt) [i, j] σ H fun v H' => ∃ G' d, Ext H G H G' H' ∧ RepV S.nm H G' H' v d ∧ Q d := by
  refine fun pins s I => thn (hi.run G H σ ρ _ R h pins s I) fun v s1 h1 => thn h1 fun itv s2 h2 => ?_
  obtain ⟨it, fp, tn, J, H2, e1, e2, e3, e4, e5, G1, ds, x1, gv, hz, q⟩ := h2
  refine ⟨it, fp, tn, J, H2, e1, e2, e3, e4, e5, fun L hL => ?_⟩
  obtain ⟨n, Gp, Y, en, wk, hG, hY⟩ := gv
  subst en
  have gL : G1 L = none := x1.gh.free hL
  have bL : H L = none := x1.h.free hL
  refine lc_it wk (fun k H' => ∃ (G' : Hp) (acc : List V) (ys : List D), Same G1 G' ∧ Ext H G H G' H' ∧ G' L = none ∧ H' L = some (.lst acc) ∧ Reps S.nm G' acc ys ∧ ys.length ≤ k ∧ k ≤ ds.length ∧ lcRP i j tt τ (ds.drop k) ρ fun zs => Q (.own (ys ++ zs))) ?_ (fun k H' _ ⟨G', acc, ys, sg, x', _⟩ => hG H' (sg.trans x'.gh)) (fun k x H' H'' hk ⟨G', acc, ys, sg, x', nL, aL, ra, ly, lk, q⟩ y => ?_) (fun H' ⟨G', acc, ys, sg, x', nL, aL, ra, ly, lk, q⟩ => ?_)
  · exact ⟨G1, [], [], Same.refl G1, x1.trans (Ext.grow x1.gh (same_upd hL)), gL, upd_same, .nil, Nat.le_refl _, Nat.zero_le _, q⟩
  · obtain ⟨d, ed, hd⟩ := hY k x H' H'' (sg.trans x'.gh) hk y
    have e : ds.drop k = d :: ds.drop (k + 1) := by
      rw [List.drop_eq_getElem_cons hk]
      rw [List.getElem?_eq_getElem hk] at ed
      cases ed
      rfl
    rw [e] at q
    obtain ⟨a, b, rfl, q⟩ := q
    have q := Nx.getS (show Nx _ (put _ _ _) from q)
    have q := Nx.getS (show Nx _ (put _ _ _) from q)
    have R' : S.Rel G' H' σ ρ := R.go x'
    have st : ∃ G3, Ext H' G' H' G3 H'' ∧ RepV S.nm H' G3 H'' x (.tup [a, b]) := by
      rcases hd with ⟨eh, rx⟩ | ⟨T, a1, b1, da, db, ex, nT, eh, edt, ra1, rb1⟩
      · subst eh
        exact ⟨G', Ext.refl x'.gh, .of (Rep.mono sg _ _ rx)⟩
      · subst eh ex
        cases edt
        obtain ⟨G3, z1, z2⟩ := new_tup (nm := S.nm) (H0 := H') (Same.refl H') x'.gh nT (.cons (Rep.mono sg _ _ ra1) (.cons (Rep.mono sg _ _ rb1) .nil))
        exact ⟨G3, z1, z2⟩
    obtain ⟨G3, x3, r3⟩ := st
    have r3' : Rep S.nm G3 x (.tup [a, b]) := r3
    cases r3' with
    | tup ea rab =>
      cases rab with
      | cons rva rb1 =>
        cases rb1 with
        | cons rvb rn =>
          cases rn
          rename_i T va vb
          have nba : isBor a = false := by cases a <;> first | rfl | cases rva
          have nbb : isBor b = false := by cases b <;> first | rfl | cases rvb
          have R3 : S.Rel G3 H'' σ ρ := R'.go x3
          have R4 : S.Rel G3 H'' (σ.set i (some va)) (ρ.set i (some a)) := R3.set i (Ext.refl x3.gh) (.of rva) nba np
          have R5 : S.Rel G3 H'' ((σ.set i (some va)).set j (some vb)) ((ρ.set i (some a)).set j (some b)) := R4.set j (Ext.refl x3.gh) (.of rvb) nbb np2
          have y3 : Ext H G H G3 H'' := x'.trans (Ext.from x'.h x3)
          have L3 : H'' L = some (.lst acc) := x3.h _ _ aL
          have N3 : G3 L = none := x3.new L nL (by rw [aL]; exact fun z => by cases z)
          have es : ((wipe σ [i, j]).set i (some va)).set j (some vb) = (σ.set i (some va)).set j (some vb) := set_two hij _ _
          refine ⟨T, [va, vb], rfl, .inl (.inl (x3.gh _ _ ea)), rfl, va, [vb], rfl, vb, [], rfl, rfl, ?_, ?_⟩
          · show ((((wipe σ [i, j]).set i (some va)).set j (some vb)).set j none).set i none = (σ.set j none).set i none
            rw [es, List.set_set, List.set_comm (some va) none hij, List.set_set]
          · rw [es]
            intro s0 H0 C cl fp' pins' s' I'
            refine thn ((ht s0 H0 C cl fp').run G3 H'' _ _ _ R5 q pins' s' I') fun b s5 ⟨H5, I5, G5, x5, q5⟩ => ⟨H5, I5, ?_⟩
            have y5 : Ext H G H G5 H5 := y3.trans (Ext.from y3.h x5)
            have L5 : H5 L = some (.lst acc) := x5.h _ _ L3
            have N5 : G5 L = none := x5.new L N3 (by rw [L3]; exact fun z => by cases z)
            cases b with
            | false =>
              dsimp only
              rw [if_neg Bool.false_ne_true]
              exact ⟨G5, acc, ys, ((sg.trans x3.g).trans x5.g), y5, N5, L5, (ra.mono x3.g).mono x5.g, Nat.le_trans ly (Nat.le_succ k), hk, q5.2 rfl⟩
            | true =>
              dsimp only
              rw [if_pos rfl]
              intro s6 H6 C6 cl6 fp6
              refine ((he s6 H6 C6 cl6 fp6).run G5 H5 _ _ _ (R5.go x5) (q5.1 rfl)).mono fun yv H7 ⟨G7, dy, x7, r7, nb7, q7⟩ => ?_
              obtain ⟨G8, x8, r8⟩ := r7.freeze x7.gh nb7
              have z8 : Ext H5 G5 H5 G8 H7 := x7.trans x8
              have y8 : Ext H G H G8 H7 := y5.trans (Ext.from y5.h z8)
              have L8 : H7 L = some (.lst acc) := x7.h _ _ L5
              have N8 : G8 L = none := z8.new L N5 (by rw [L5]; exact fun z => by cases z)
              have ra8 := ((ra.mono x3.g).mono x5.g).mono z8.g
              refine ⟨acc, L8, ?_, ?_⟩
              · rw [ra.length]
                omega
              · have ef : frz dy = frzO dy := by
                  cases dy <;> first | rfl | cases nb7
                have eq1 : (fun zs => Q (D.own ((ys ++ [frzO dy]) ++ zs))) = fun zs => Q (D.own (ys ++ (frzO dy :: zs))) := by
                  funext zs
                  rw [List.append_assoc]
                  rfl
                refine ⟨G8, acc ++ [yv], ys ++ [frzO dy], ((sg.trans x3.g).trans x5.g).trans z8.g, ⟨y8.g, fun c o ec => ?_, fun c o ec => ?_, y8.new⟩, N8, upd_same, ra8.append (.cons (by rw [← ef]; exact r8) .nil), by simp; omega, hk, ?_⟩
                · rw [upd_ne (ne_of_none ec bL)]
                  exact y8.h _ _ ec
                · rw [upd_ne (ne_of_none ec N8)]
                  exact y8.gh _ _ ec
                · rw [eq1]
                  exact q7
  · rw [List.drop_length] at q
    have q' : Q (.own (ys ++ [])) := q
    rw [List.append_nil] at q'
    exact ⟨G', .own ys, x', ⟨L, acc, rfl, aL, nL, bL, ra⟩, q'⟩
theorem je_lcP {x y : Str} {px py pt pos : Pos} {kk : Nat} {elt iter : Expr} {ifs : List Expr} {scope : Scope} {i j : Nat} {ι : TDI} {tt : TDt} {τ : TD} (hij : i ≠ j) (hc : S.X.calm = true) (hN : S.X.N.Nodup) (hi : JI S (.Tuple [.Name x px, .Name y py] kk pt) iter ι) (ok : BlkOk S.X.N S.X.env.scope scope [(x, i), (y, j)])
    (hg : ∀ (s : Shared) (H : Hp) (C : Addr) (cl : List (Str × Addr)) (fp : List Addr), PG (S.X.blk s H scope (compEnvC scope cl C S.X.env) fp) (.Name x px) (gName i))
    (hg2 : ∀ (s : Shared) (H : Hp) (C : Addr) (cl : List (Str × Addr)) (fp : List Addr), PG (S.X.blk s H scope (compEnvC scope cl C S.X.env) fp) (.Name y py) (gName j))
    (ht : ∀ (s : Shared) (H : Hp) (C : Addr) (cl : List (Str × Addr)) (fp : List Addr), JTs (S.blk s H scope (compEnvC scope cl C S.X.env) fp) ifs tt)
    (he : ∀ (s : Shared) (H : Hp) (C : Addr) (cl : List (Str × Addr)) (fp : List Addr), JE (S.blk s H scope (compEnvC scope cl C S.X.env) fp) elt τ) (hs : ∀ x, foldedSetIterable iter S.X.env x = pure x := by intro _; rfl) (np : npb S.pp i = true := by rfl) (np2 : npb S.pp j = true := by rfl) :
    JE S (.ListComp elt [⟨.Tuple [.Name x px, .Name y py] kk pt, iter, ifs, 0⟩] scope pos) (eLcP ι i j tt τ) := by
  refine ⟨fun G H σ ρ Q R h => WX.of (pe_lc (own := [(x, i), (y, j)]) (tt := UT S.X scope ifs) (te := UE S.X scope elt) hc hN pi_w ok (fun s H C cl fp => pg_tup (X := S.X.blk s H scope (compEnvC scope cl C S.X.env) fp) hc (pgs_cons (hg s H C cl fp) (pgs_cons (hg2 s H C cl fp) pgs_nil))) (fun s H C cl fp => ⟨fun pins s' σ H Q I h => h s _ C cl fp pins s' I⟩) (fun s H C cl fp => ⟨fun pins s' σ H Q I h => h s _ C cl fp pins s' I⟩) hs) (lcP_run hij hi ht he R h np np2)⟩
end
theorem cut_take (row : List Int) {j : Int} {k : Nat} (e : j = k) : DD.cutD (intsD row) none (some j) = intsD (row.take k) := by
  subst e
  unfold DD.cutD
  rw [ints_len, HT.sIx_none, HT.sIx_nat, List.drop_zero, Nat.sub_zero]
  unfold intsD
  rw [← List.map_take]
  congr 1
  by_cases h : k ≤ row.length
  · rw [Nat.min_eq_left h]
  · rw [Nat.min_eq_right (by omega), List.take_length, List.take_of_length_le (by omega)]
theorem cut_drop (row : List Int) {j : Int} {k : Nat} (e : j = k) : DD.cutD (intsD row) (some j) none = intsD (row.drop k) := by
  subst e
  unfold DD.cutD
  rw [ints_len, HT.sIx_none, HT.sIx_nat]
  unfold intsD
  rw [← List.map_drop, ← List.map_take]
  congr 1
  by_cases h : k ≤ row.length
  · rw [Nat.min_eq_left h, List.take_of_length_le (by rw [List.length_drop]; omega)]
  · rw [Nat.min_eq_right (by omega), Nat.sub_self, List.take_zero, List.drop_of_length_le (by omega)]
theorem rEq_sN {i j : Str} {Q : D → Prop} (h : i ≠ j) (q : Q (.bl true)) : rEq true (.str i) (.str j) Q := rEq_s1 (by rw [decide_eq_false h]; exact q)
theorem rEq_sE {i j : Str} {Q : D → Prop} (h : i = j) (q : Q (.bl false)) : rEq true (.str i) (.str j) Q := rEq_s1 (by rw [decide_eq_true h]; exact q)
theorem rAdd_int {i j : Int} {Q : D → Prop} (q : Q (.int (i + j))) : DD.rAdd (.int i) (.int j) Q := q
theorem eOp_go {r : RD2} {τa τb : TD} {ρ : Env} {Q : D → Prop} (q : τa ρ fun d => τb ρ fun e => r d e Q) : eOp r τa τb ρ Q := q
theorem eVar_go {i : Nat} {ρ : Env} {d : D} {Q : D → Prop} (e : ρ[i]? = some (some d)) (q : Q (borO d)) : eVar i ρ Q := by
  unfold eVar
  rw [e]
  exact q
theorem eC_go {d : D} {ρ : Env} {Q : D → Prop} (q : Q d) : eC d ρ Q := q
theorem eSl_own {i : Nat} {tl th : TDo} {ρ : Env} {l : List D} {Q : D → Prop} (e : ρ[i]? = some (some (.own l))) (q : tl ρ fun lo => th ρ fun hi => Q (.own (DD.cutD l lo hi))) : eSl (eVar i) tl th ρ Q := by
  unfold eSl eVar
  rw [e]
  exact q
theorem eSl_lst {i : Nat} {tl th : TDo} {ρ : Env} {l : List D} {Q : D → Prop} (e : ρ[i]? = some (some (.lst l))) (q : tl ρ fun lo => th ρ fun hi => Q (.own (DD.cutD l lo hi))) : eSl (eVar i) tl th ρ Q := by
  unfold eSl eVar
  rw [e]
  exact q
theorem eSl_scr {i : Nat} {tl th : TDo} {ρ : Env} {l : List D} {Q : D → Prop} (e : ρ[i]? = some (some (.scr l))) (q : tl ρ fun lo => th ρ fun hi => Q (.own (DD.cutD l lo hi))) : eSl (eVar i) tl th ρ Q := by
  unfold eSl eVar
  rw [e]
  exact q
/-- the words of what is true -/
theorem lcP_words {i j : Nat} {ρ : Env} (hi : i < ρ.length) (hj : j < ρ.length) (hij : i ≠ j) : ∀ (l : List (Str × Bool)) (Q : List D → Prop), Q ((l.filter (·.2)).map fun p => .str p.1) → lcRP i j (dTest (eVar j)) (eVar i) (l.map fun p => .tup [.str p.1, .bl p.2]) ρ Q
  | [], Q, h => h
  | (x, b) :: l, Q, h => by
    refine ⟨_, _, rfl, .of (.of ?_)⟩
    have e1 : (put (put ρ i (some (D.str x))) j (some (D.bl b)))[j]? = some (some (D.bl b)) := by
      rw [put_eq, put_eq, List.getElem?_set_self (by simpa using hj)]
    have e2 : (put (put ρ i (some (D.str x))) j (some (D.bl b)))[i]? = some (some (D.str x)) := by
      rw [put_eq, put_eq, List.getElem?_set_ne (Ne.symm hij), List.getElem?_set_self hi]
    unfold dTest eVar
    rw [e1, e2]
    cases b with
    | true =>
      refine ⟨fun _ => ⟨rfl, lcP_words hi hj hij l _ ?_⟩, fun z => nomatch z⟩
      exact h
    | false =>
      refine ⟨(fun z => nomatch z), fun _ => lcP_words hi hj hij l _ ?_⟩
      exact h
end DD

set_option Elab.async false
set_option linter.all false
set_option maxRecDepth 100000
set_option maxHeartbeats 1000000
namespace DD
/-! ### heaps of Falling ways: steps -/
theorem at0_of {r : List Int} {k : Nat} {x : Int} (h : r[k]? = some x) : at0 r k = x := by unfold at0; rw [h]; rfl
theorem of_at0 {r : List Int} {k : Nat} (h : k < r.length) : r[k]? = some (at0 r k) := by
  unfold at0; rw [List.getElem?_eq_getElem h]; rfl
theorem at0_out {r : List Int} {k : Nat} (h : r.length ≤ k) : at0 r k = 0 := by unfold at0; rw [List.getElem?_eq_none h]; rfl
/-- a linear measure of a row -/
def lin (f : Nat → Int) : Nat → List Int → Int
  | _, [] => 0
  | k, d :: ds => f k * d + lin f (k + 1) ds
theorem lin_fv (m : Int) : ∀ (k : Nat) (r : List Int), lin (fun k => (WayM.fallW m k).1) k r = WayM.fv m k r
  | _, [] => rfl
  | k, d :: ds => by
    show _ + _ = _ + _
    rw [lin_fv m (k + 1) ds]
theorem lin_app (f : Nat → Int) : ∀ (k : Nat) (a b : List Int), lin f k (a ++ b) = lin f k a + lin f (k + a.length) b
  | k, [], b => by simp [lin]
  | k, d :: a, b => by
    rw [List.cons_append]
    show f k * d + lin f (k + 1) (a ++ b) = f k * d + lin f (k + 1) a + lin f (k + (d :: a).length) b
    rw [lin_app f (k + 1) a b, show k + 1 + a.length = k + (d :: a).length by simp; omega]
    omega
theorem lin_zeros (f : Nat → Int) : ∀ (k n : Nat), lin f k (List.replicate n 0) = 0
  | k, 0 => rfl
  | k, n + 1 => by rw [List.replicate_succ]; show f k * 0 + lin f (k + 1) _ = 0; rw [lin_zeros f (k + 1) n]; omega
theorem lin_set (f : Nat → Int) (x : Int) : ∀ (k : Nat) (r : List Int) (j : Nat), j < r.length → lin f k (r.set j x) = lin f k r + f (k + j) * (x - at0 r j)
  | _, [], j, h => absurd h (by simp)
  | k, d :: ds, 0, _ => by
    show f k * x + lin f (k + 1) ds = f k * d + lin f (k + 1) ds + f k * (x - d)
    rw [Int.mul_sub]
    omega
  | k, d :: ds, j + 1, h => by
    have ih := lin_set f x (k + 1) ds j (by simpa using h)
    show f k * d + lin f (k + 1) (ds.set j x) = f k * d + lin f (k + 1) ds + f (k + (j + 1)) * (x - at0 ds j)
    rw [ih, show k + 1 + j = k + (j + 1) by omega]
    omega
theorem lin_nonneg {f : Nat → Int} (hf : ∀ k, 0 ≤ f k) : ∀ (k : Nat) (r : List Int), (∀ x ∈ r, 0 ≤ x) → 0 ≤ lin f k r
  | _, [], _ => Int.le_refl _
  | k, d :: ds, h => by
    have := Int.mul_nonneg (hf k) (h d List.mem_cons_self)
    have := lin_nonneg hf (k + 1) ds fun x hx => h x (List.mem_cons_of_mem _ hx)
    show 0 ≤ f k * d + lin f (k + 1) ds
    omega
/-- x more at a place -/
def addAt (h : List Int) (j : Nat) (x : Int) : List Int := h.set j (at0 h j + x)
theorem addAt_len (h : List Int) (j : Nat) (x : Int) : (addAt h j x).length = h.length := List.length_set
theorem lin_addAt (f : Nat → Int) {h : List Int} {j : Nat} (x : Int) (hj : j < h.length) : lin f 0 (addAt h j x) = lin f 0 h + f j * x := by
  unfold addAt
  rw [lin_set f _ 0 h j hj, Nat.zero_add, show at0 h j + x - at0 h j = x by omega]
theorem at0_addAt {h : List Int} {j : Nat} (x : Int) (hj : j < h.length) (i : Nat) : at0 (addAt h j x) i = at0 h i + if i = j then x else 0 := by
  unfold addAt
  by_cases e : i = j
  · subst e
    rw [if_pos rfl]
    exact at0_of (List.getElem?_set_self hj)
  · rw [if_neg e]
    show ((h.set j _)[i]?).getD 0 = _
    rw [List.getElem?_set_ne (fun z => e z.symm)]
    show at0 h i = _
    omega
def padTo (n : Nat) (h : List Int) : List Int := h ++ List.replicate (n - h.length) 0
theorem padTo_len (n : Nat) (h : List Int) : (padTo n h).length = max h.length n := by
  unfold padTo; rw [List.length_append, List.length_replicate]; omega
theorem lin_padTo (f : Nat → Int) (n : Nat) (h : List Int) : lin f 0 (padTo n h) = lin f 0 h := by
  unfold padTo; rw [lin_app, lin_zeros]; omega
theorem at0_padTo (n : Nat) (h : List Int) (i : Nat) : at0 (padTo n h) i = at0 h i := by
  unfold padTo at0
  by_cases hi : i < h.length
  · rw [List.getElem?_append_left hi]
  · rw [List.getElem?_append_right (by omega), List.getElem?_eq_none (l := h) (by omega)]
    by_cases h2 : i - h.length < n - h.length
    · rw [List.getElem?_replicate, if_pos h2]; rfl
    · rw [List.getElem?_replicate, if_neg h2]
/-- what a step does, so often -/
def stepP (m : Int) (h : List Int) (up : Bool) (k : Nat) (o : Int) : List Int :=
  let h1 := addAt (padTo (k + 2) h) (k + 1) o
  if up then addAt (addAt h1 k (0 - m * o)) (k - 1) (0 - o)
  else if k = 1 then addAt (addAt h1 1 (0 - (m + 1) * o)) 0 (m * o)
  else if 1 < k then addAt (addAt (addAt h1 k (0 - (m + 1) * o)) (k - 1) ((m - 1) * o)) (k - 2) o
  else addAt h1 k (0 - (m + 1) * o)
theorem stepP_len (m : Int) (h : List Int) (up : Bool) (k : Nat) (o : Int) : (stepP m h up k o).length = max h.length (k + 2) := by
  unfold stepP
  simp only []
  split
  · rw [addAt_len, addAt_len, addAt_len, padTo_len]
  · split
    · rw [addAt_len, addAt_len, addAt_len, padTo_len]
    · split
      · rw [addAt_len, addAt_len, addAt_len, addAt_len, padTo_len]
      · rw [addAt_len, addAt_len, padTo_len]
/-- what a step may be -/
structure Can (m : Int) (h : List Int) (up : Bool) (k : Nat) (o : Int) : Prop where
  o1 : 1 ≤ o
  up1 : up = true → 1 ≤ k ∧ m * o ≤ at0 h k ∧ o ≤ at0 h (k - 1)
  pt1 : up = false → (m + 1) * o ≤ at0 h k
theorem lin_stepP (f : Nat → Int) (m : Int) (h : List Int) (up : Bool) (k : Nat) (o : Int) (hk : up = true → 1 ≤ k) :
    lin f 0 (stepP m h up k o) = lin f 0 h + o * (if up then f (k + 1) - m * f k - f (k - 1) else if k = 1 then f 2 - (m + 1) * f 1 + m * f 0 else if 1 < k then f (k + 1) - (m + 1) * f k + (m - 1) * f (k - 1) + f (k - 2) else f (k + 1) - (m + 1) * f k) := by
  have l0 : k + 1 < (padTo (k + 2) h).length := by rw [padTo_len]; omega
  have l1 : ∀ j, j ≤ k → j < (addAt (padTo (k + 2) h) (k + 1) o).length := fun j hj => by rw [addAt_len]; omega
  have e0 : lin f 0 (addAt (padTo (k + 2) h) (k + 1) o) = lin f 0 h + f (k + 1) * o := by rw [lin_addAt f o l0, lin_padTo]
  unfold stepP
  simp only []
  split
  · rw [lin_addAt f _ (by rw [addAt_len]; exact l1 _ (by omega)), lin_addAt f _ (l1 _ (by omega)), e0]
    grind
  · split
    · rename_i e
      subst e
      rw [lin_addAt f _ (by rw [addAt_len]; exact l1 _ (by omega)), lin_addAt f _ (l1 _ (by omega)), e0]
      grind
    · split
      · rw [lin_addAt f _ (by rw [addAt_len, addAt_len]; exact l1 _ (by omega)), lin_addAt f _ (by rw [addAt_len]; exact l1 _ (by omega)), lin_addAt f _ (l1 _ (by omega)), e0]
        grind
      · rw [lin_addAt f _ (l1 _ (by omega)), e0]
        grind
theorem stepP_fv {m : Int} (h : List Int) (up : Bool) (k : Nat) (o : Int) (hk : up = true → 1 ≤ k) : WayM.fv m 0 (stepP m h up k o) = WayM.fv m 0 h := by
  rw [← lin_fv, ← lin_fv, lin_stepP _ m h up k o hk]
  have z : (if up then (WayM.fallW m (k + 1)).1 - m * (WayM.fallW m k).1 - (WayM.fallW m (k - 1)).1 else if k = 1 then (WayM.fallW m 2).1 - (m + 1) * (WayM.fallW m 1).1 + m * (WayM.fallW m 0).1 else if 1 < k then (WayM.fallW m (k + 1)).1 - (m + 1) * (WayM.fallW m k).1 + (m - 1) * (WayM.fallW m (k - 1)).1 + (WayM.fallW m (k - 2)).1 else (WayM.fallW m (k + 1)).1 - (m + 1) * (WayM.fallW m k).1) = 0 := by
    split
    · rename_i u
      obtain ⟨j, rfl⟩ : ∃ j, k = j + 1 := ⟨k - 1, by have := hk u; omega⟩
      show m * (WayM.fallW m (j + 1)).1 + (WayM.fallW m j).1 - m * (WayM.fallW m (j + 1)).1 - (WayM.fallW m j).1 = 0
      omega
    · split
      · show m * (m * 1 + 1) + 1 - (m + 1) * (m * 1 + 1) + m * 1 = 0
        grind
      · split
        · obtain ⟨j, rfl⟩ : ∃ j, k = j + 2 := ⟨k - 2, by omega⟩
          show m * (WayM.fallW m (j + 2)).1 + (WayM.fallW m (j + 1)).1 - (m + 1) * (WayM.fallW m (j + 2)).1 + (m - 1) * (WayM.fallW m (j + 1)).1 + (WayM.fallW m j).1 = 0
          have : (WayM.fallW m (j + 2)).1 = m * (WayM.fallW m (j + 1)).1 + (WayM.fallW m j).1 := rfl
          grind
        · have : k = 0 := by omega
          subst this
          show m * 1 + 1 - (m + 1) * 1 = 0
          grind
  rw [z]
  omega
/-- what each step makes less -/
def phi (k : Nat) : Int := if k = 0 then 3 else k + 4
def mu (h : List Int) : Int := lin phi 0 h
theorem phi_pos (k : Nat) : 3 ≤ phi k := by unfold phi; split <;> omega
theorem stepP_mu {m : Int} (hm : 1 ≤ m) (h : List Int) (up : Bool) (k : Nat) {o : Int} (ho : 1 ≤ o) (hk : up = true → 1 ≤ k) : mu (stepP m h up k o) + o ≤ mu h := by
  unfold mu
  rw [lin_stepP phi m h up k o hk]
  have z : (if up then phi (k + 1) - m * phi k - phi (k - 1) else if k = 1 then phi 2 - (m + 1) * phi 1 + m * phi 0 else if 1 < k then phi (k + 1) - (m + 1) * phi k + (m - 1) * phi (k - 1) + phi (k - 2) else phi (k + 1) - (m + 1) * phi k) ≤ -1 := by
    have mk : ∀ x : Int, 0 ≤ x → x ≤ m * x := fun x hx => WayM.le_mul1 hx hm
    split
    · rename_i u
      have := hk u
      have hmk := mk (phi k) (by have := phi_pos k; omega)
      have ek : phi k = (k : Int) + 4 := if_neg (by omega)
      have ek1 : phi (k + 1) = (k : Int) + 5 := by unfold phi; rw [if_neg (by omega)]; omega
      rw [ek] at hmk ⊢
      rw [ek1]
      by_cases hk1 : k = 1
      · subst hk1
        show (1 : Int) + 5 - m * (1 + 4) - 3 ≤ -1
        omega
      · have ek0 : phi (k - 1) = (k : Int) + 3 := by unfold phi; rw [if_neg (by omega)]; omega
        rw [ek0]
        omega
    · split
      · show (6 : Int) - (m + 1) * 5 + m * 3 ≤ -1
        omega
      · split
        · obtain ⟨j, rfl⟩ : ∃ j, k = j + 2 := ⟨k - 2, by omega⟩
          by_cases hj : j = 0
          · subst hj
            show (7 : Int) - (m + 1) * 6 + (m - 1) * 5 + 3 ≤ -1
            omega
          · have e3 : phi (j + 2 + 1) = (j : Int) + 7 := by unfold phi; rw [if_neg (by omega)]; omega
            have e2 : phi (j + 2) = (j : Int) + 6 := by unfold phi; rw [if_neg (by omega)]; omega
            have e1 : phi (j + 2 - 1) = (j : Int) + 5 := by unfold phi; rw [if_neg (by omega)]; omega
            have e0 : phi (j + 2 - 2) = (j : Int) + 4 := by unfold phi; rw [if_neg (by omega)]; omega
            rw [e3, e2, e1, e0]
            have : (m + 1) * ((j : Int) + 6) = m * j + 6 * m + j + 6 := by grind
            have : (m - 1) * ((j : Int) + 5) = m * j + 5 * m - j - 5 := by grind
            omega
        · have : k = 0 := by omega
          subst this
          show (5 : Int) - (m + 1) * 3 ≤ -1
          omega
  have := Int.mul_le_mul_of_nonneg_left z (show 0 ≤ o by omega)
  omega
def PosL (h : List Int) : Prop := ∀ k, 0 ≤ at0 h k
theorem PosL.mem {h : List Int} (p : PosL h) : ∀ x ∈ h, 0 ≤ x := fun x hx => by
  obtain ⟨k, hk, e⟩ := List.mem_iff_getElem.mp hx
  have := p k
  rwa [at0_of (List.getElem?_eq_getElem hk), e] at this
theorem PosL.of {h : List Int} (p : ∀ x ∈ h, 0 ≤ x) : PosL h := fun k => by
  unfold at0
  cases e : h[k]? with
  | none => exact Int.le_refl _
  | some x => exact p x (List.mem_of_getElem? e)
theorem mu_nonneg {h : List Int} (p : PosL h) : 0 ≤ mu h := lin_nonneg (fun k => by have := phi_pos k; omega) 0 h p.mem
theorem stepP_pos {m : Int} (hm : 1 ≤ m) {h : List Int} {up : Bool} {k : Nat} {o : Int} (c : Can m h up k o) (p : PosL h) : PosL (stepP m h up k o) := fun i => by
  have l0 : k + 1 < (padTo (k + 2) h).length := by rw [padTo_len]; omega
  have l1 : ∀ j, j ≤ k → j < (addAt (padTo (k + 2) h) (k + 1) o).length := fun j hj => by rw [addAt_len]; omega
  have o1 := c.o1
  have pi := p i
  have mo := Int.mul_nonneg (show 0 ≤ m by omega) (show 0 ≤ o by omega)
  have mo1 := Int.mul_nonneg (show 0 ≤ m - 1 by omega) (show 0 ≤ o by omega)
  unfold stepP
  simp only []
  split
  · rename_i u
    obtain ⟨k1, h1, h2⟩ := c.up1 u
    rw [at0_addAt _ (by rw [addAt_len]; exact l1 _ (by omega)), at0_addAt _ (l1 _ (by omega)), at0_addAt _ l0, at0_padTo]
    by_cases e1 : i = k - 1
    · subst e1
      rw [if_pos rfl, if_neg (by omega), if_neg (by omega)]
      omega
    · by_cases e2 : i = k
      · subst e2
        rw [if_neg (by omega), if_pos rfl, if_neg e1]
        omega
      · rw [if_neg e1, if_neg e2]
        split <;> omega
  · rename_i u
    have h1 := c.pt1 (by simpa using u)
    split
    · rename_i e
      subst e
      rw [at0_addAt _ (by rw [addAt_len]; exact l1 _ (by omega)), at0_addAt _ (l1 _ (by omega)), at0_addAt _ l0, at0_padTo]
      by_cases e1 : i = 0
      · subst e1
        rw [if_neg (by omega), if_neg (by omega), if_pos rfl]
        omega
      · by_cases e2 : i = 1
        · subst e2
          rw [if_neg (by omega), if_pos rfl, if_neg (by omega)]
          omega
        · rw [if_neg e1, if_neg e2]
          split <;> omega
    · split
      · rw [at0_addAt _ (by rw [addAt_len, addAt_len]; exact l1 _ (by omega)), at0_addAt _ (by rw [addAt_len]; exact l1 _ (by omega)), at0_addAt _ (l1 _ (by omega)), at0_addAt _ l0, at0_padTo]
        by_cases e1 : i = k
        · subst e1
          rw [if_neg (by omega), if_pos rfl, if_neg (by omega), if_neg (by omega)]
          omega
        · rw [if_neg e1]
          split <;> split <;> split <;> omega
      · rw [at0_addAt _ (l1 _ (by omega)), at0_addAt _ l0, at0_padTo]
        by_cases e1 : i = k
        · subst e1
          rw [if_neg (by omega), if_pos rfl]
          omega
        · rw [if_neg e1]
          split <;> omega
/-- the next step, from the highest place down -/
def nextFrom (m : Int) (h : List Int) : Nat → Option (Bool × Nat × Int)
  | 0 => none
  | n + 1 => if m < at0 h n then some (false, n, at0 h n / (m + 1)) else if 0 < n ∧ at0 h n = m ∧ 0 < at0 h (n - 1) then some (true, n, 1) else nextFrom m h n
def nextP (m : Int) (h : List Int) : Option (Bool × Nat × Int) := nextFrom m h h.length
theorem nextFrom_some {m : Int} (hm : 1 ≤ m) {h : List Int} : ∀ {n : Nat} {u : Bool} {k : Nat} {o : Int}, nextFrom m h n = some (u, k, o) → Can m h u k o ∧ k < n
  | 0, _, _, _, e => by cases e
  | n + 1, u, k, o, e => by
    unfold nextFrom at e
    split at e
    · rename_i h1
      cases e
      have q := Int.mul_ediv_add_emod (at0 h n) (m + 1)
      have q2 := Int.emod_nonneg (at0 h n) (show m + 1 ≠ 0 by omega)
      have q3 := Int.emod_lt_of_pos (at0 h n) (show 0 < m + 1 by omega)
      refine ⟨⟨?_, (fun z => nomatch z), fun _ => by omega⟩, by omega⟩
      by_cases hq : 1 ≤ at0 h n / (m + 1)
      · exact hq
      · have := Int.mul_le_mul_of_nonneg_left (show at0 h n / (m + 1) ≤ 0 by omega) (show 0 ≤ m + 1 by omega)
        omega
    · split at e
      · rename_i h1 h2
        cases e
        exact ⟨⟨Int.le_refl _, fun _ => ⟨h2.1, by omega, by omega⟩, fun z => nomatch z⟩, by omega⟩
      · obtain ⟨c, hk⟩ := nextFrom_some hm e
        exact ⟨c, by omega⟩
theorem nextFrom_none {m : Int} {h : List Int} : ∀ {n : Nat}, nextFrom m h n = none → ∀ k, k < n → at0 h k ≤ m ∧ (0 < k → at0 h k = m → at0 h (k - 1) ≤ 0)
  | 0, _, k, hk => absurd hk (Nat.not_lt_zero k)
  | n + 1, e, k, hk => by
    unfold nextFrom at e
    split at e
    · cases e
    · rename_i h1
      split at e
      · cases e
      · rename_i h2
        rcases Nat.lt_succ_iff_lt_or_eq.mp hk with hk | rfl
        · exact nextFrom_none e k hk
        · refine ⟨by omega, fun g1 g2 => ?_⟩
          by_cases g3 : 0 < at0 h (k - 1)
          · exact absurd ⟨g1, g2, g3⟩ h2
          · omega
theorem nextP_leg {m : Int} {h : List Int} (p : PosL h) (e : nextP m h = none) : WayM.Leg m h := by
  have q := nextFrom_none e
  refine ⟨fun k f ek => ?_, fun k ek => ?_⟩
  · have hk := (List.getElem?_eq_some_iff.mp ek).1
    have := (q k hk).1
    have := p k
    rw [at0_of ek] at *
    omega
  · have hk := (List.getElem?_eq_some_iff.mp ek).1
    have := (q (k + 1) hk).2 (by omega) (at0_of ek)
    rw [Nat.add_sub_cancel] at this
    have := p k
    rw [of_at0 (by omega), show at0 h k = 0 by omega]
/-- the steps told and the heap behind them -/
def runF (m : Int) : Nat → List Int → List (Bool × Nat) × List Int
  | 0, h => ([], h)
  | n + 1, h => match nextP m h with
    | none => ([], h)
    | some (u, k, o) => (List.replicate o.toNat (u, k) ++ (runF m n (stepP m h u k o)).1, (runF m n (stepP m h u k o)).2)
theorem runF_none {m : Int} {h : List Int} (e : nextP m h = none) : ∀ n, runF m n h = ([], h)
  | 0 => rfl
  | n + 1 => by unfold runF; rw [e]
theorem mu_next {m : Int} {h : List Int} (hm : 1 ≤ m) (p : PosL h) {u : Bool} {k : Nat} {o : Int} (e : nextP m h = some (u, k, o)) : Can m h u k o ∧ k < h.length ∧ PosL (stepP m h u k o) ∧ mu (stepP m h u k o) + o ≤ mu h ∧ (stepP m h u k o).length ≤ h.length + 1 := by
  obtain ⟨c, hk⟩ := nextFrom_some hm e
  exact ⟨c, hk, stepP_pos hm c p, stepP_mu hm h u k c.o1 fun z => (c.up1 z).1, by rw [stepP_len]; omega⟩
theorem runF_ok {m : Int} (hm : 1 ≤ m) : ∀ (n : Nat) (h : List Int), PosL h → mu h ≤ n → PosL (runF m n h).2 ∧ nextP m (runF m n h).2 = none ∧ WayM.fv m 0 (runF m n h).2 = WayM.fv m 0 h ∧ ((runF m n h).1.length : Int) ≤ mu h ∧ ((runF m n h).2.length : Int) ≤ h.length + mu h
  | 0, h, p, l => by
    have l0 := mu_nonneg p
    refine ⟨p, ?_, rfl, by show (0 : Int) ≤ _; omega, by show (h.length : Int) ≤ _; omega⟩
    cases e : nextP m h with
    | none => exact e
    | some x =>
      obtain ⟨u, k, o⟩ := x
      obtain ⟨c, hk, p2, m2, _⟩ := mu_next hm p e
      have := mu_nonneg p2
      have := c.o1
      omega
  | n + 1, h, p, l => by
    cases e : nextP m h with
    | none =>
      rw [runF_none e]
      have l0 := mu_nonneg p
      exact ⟨p, e, rfl, by show (0 : Int) ≤ _; omega, by show (h.length : Int) ≤ _; omega⟩
    | some x =>
      obtain ⟨u, k, o⟩ := x
      obtain ⟨c, hk, p2, m2, l2⟩ := mu_next hm p e
      have o1 := c.o1
      have ih := runF_ok hm n (stepP m h u k o) p2 (by omega)
      unfold runF
      rw [e]
      refine ⟨ih.1, ih.2.1, ih.2.2.1.trans (stepP_fv h u k o fun z => (c.up1 z).1), ?_, ?_⟩
      · show ((List.replicate o.toNat (u, k) ++ (runF m n (stepP m h u k o)).1).length : Int) ≤ _
        rw [List.length_append, List.length_replicate]
        have := ih.2.2.2.1
        omega
      · have := ih.2.2.2.2
        show (((runF m n (stepP m h u k o)).2.length : Nat) : Int) ≤ _
        omega
/-- with more time the same -/
theorem runF_more {m : Int} (hm : 1 ≤ m) : ∀ (n : Nat) (h : List Int), PosL h → mu h ≤ n → ∀ n', n ≤ n' → runF m n' h = runF m n h
  | 0, h, p, l, n', _ => by
    have e : nextP m h = none := (runF_ok hm 0 h p l).2.1
    rw [runF_none e, runF_none e]
  | n + 1, h, p, l, n', hn => by
    cases e : nextP m h with
    | none => rw [runF_none e, runF_none e]
    | some x =>
      obtain ⟨u, k, o⟩ := x
      obtain ⟨c, hk, p2, m2, l2⟩ := mu_next hm p e
      have o1 := c.o1
      obtain ⟨q, rfl⟩ : ∃ q, n' = q + 1 := ⟨n' - 1, by omega⟩
      unfold runF
      rw [e]
      show (List.replicate o.toNat (u, k) ++ (runF m q (stepP m h u k o)).1, (runF m q (stepP m h u k o)).2) = (List.replicate o.toNat (u, k) ++ (runF m n (stepP m h u k o)).1, (runF m n (stepP m h u k o)).2)
      rw [runF_more hm n _ p2 (by omega) q (by omega)]
/-- the heap's end -/
def fallF (m : Int) (h : List Int) : List Int := (runF m (mu h).toNat h).2
def toldF (m : Int) (h : List Int) : List (Bool × Nat) := (runF m (mu h).toNat h).1
theorem runF_of {m : Int} (hm : 1 ≤ m) {h : List Int} (p : PosL h) {n : Nat} (l : mu h ≤ n) : runF m n h = (toldF m h, fallF m h) := by
  have l0 := mu_nonneg p
  exact runF_more hm (mu h).toNat h p (by omega) n (by omega)
theorem fallF_ok {m : Int} (hm : 1 ≤ m) {h : List Int} (p : PosL h) : WayM.Leg m (fallF m h) ∧ WayM.fv m 0 (fallF m h) = WayM.fv m 0 h ∧ ((toldF m h).length : Int) ≤ mu h ∧ ((fallF m h).length : Int) ≤ h.length + mu h := by
  have q := runF_ok hm (mu h).toNat h p (by have := mu_nonneg p; omega)
  exact ⟨nextP_leg q.1 q.2.1, q.2.2⟩
theorem fallF_step {m : Int} (hm : 1 ≤ m) {h : List Int} (p : PosL h) {u : Bool} {k : Nat} {o : Int} (e : nextP m h = some (u, k, o)) : fallF m (stepP m h u k o) = fallF m h ∧ toldF m h = List.replicate o.toNat (u, k) ++ toldF m (stepP m h u k o) := by
  obtain ⟨c, hk, p2, m2, l2⟩ := mu_next hm p e
  have l0 := mu_nonneg p
  have l1 := mu_nonneg p2
  have o1 := c.o1
  have e1 := runF_of hm p (n := (mu h).toNat) (by omega)
  obtain ⟨n, en⟩ : ∃ n, (mu h).toNat = n + 1 := ⟨(mu h).toNat - 1, by omega⟩
  rw [en] at e1
  unfold runF at e1
  rw [e] at e1
  simp only [] at e1
  rw [runF_of hm p2 (n := n) (by omega)] at e1
  have a := congrArg Prod.fst e1
  have b := congrArg Prod.snd e1
  exact ⟨b, a.symm⟩
theorem fallF_end {m : Int} {h : List Int} (e : nextP m h = none) : fallF m h = h ∧ toldF m h = [] := by
  unfold fallF toldF
  rw [runF_none e]
  exact ⟨rfl, rfl⟩
/-- a bound of the measure -/
theorem mu_le {b : Int} (hb : 0 ≤ b) {h : List Int} (hx : ∀ x ∈ h, x ≤ b) : mu h ≤ h.length * ((h.length + 4) * b) := by
  have key : ∀ (r : List Int) (k : Nat), (∀ x ∈ r, x ≤ b) → lin phi k r ≤ r.length * ((k + r.length + 4) * b) := by
    intro r
    induction r with
    | nil => intro k _; show (0 : Int) ≤ (0 : Nat) * _; simp
    | cons d ds ih =>
      intro k h
      have i2 := ih (k + 1) fun x hx => h x (List.mem_cons_of_mem _ hx)
      have hd := h d List.mem_cons_self
      show phi k * d + lin phi (k + 1) ds ≤ ((ds.length + 1 : Nat) : Int) * (((k : Int) + ((ds.length + 1 : Nat) : Int) + 4) * b)
      have p1 : phi k * d ≤ phi k * b := Int.mul_le_mul_of_nonneg_left hd (by have := phi_pos k; omega)
      have p2 : phi k * b ≤ ((k : Int) + ((ds.length + 1 : Nat) : Int) + 4) * b := Int.mul_le_mul_of_nonneg_right (by unfold phi; split <;> omega) hb
      have e : ((k + 1 : Nat) : Int) + ds.length + 4 = (k : Int) + ((ds.length + 1 : Nat) : Int) + 4 := by omega
      rw [e] at i2
      have : ((ds.length + 1 : Nat) : Int) * (((k : Int) + ((ds.length + 1 : Nat) : Int) + 4) * b) = (ds.length : Int) * (((k : Int) + ((ds.length + 1 : Nat) : Int) + 4) * b) + ((k : Int) + ((ds.length + 1 : Nat) : Int) + 4) * b := by
        rw [show ((ds.length + 1 : Nat) : Int) = (ds.length : Int) + 1 by omega, Int.add_mul, Int.one_mul]
      omega
  have := key h 0 hx
  simpa [mu] using this
end DD

set_option Elab.async false
set_option linter.all false
set_option maxRecDepth 100000
set_option maxHeartbeats 1000000
namespace DD
open PySem PySem.Spec PyProof.Rows L2
/-! ### lists of numbers and pairs -/
def numsD (ts : List Num) : List D := ts.map Num.d
theorem nums_len (ts : List Num) : (numsD ts).length = ts.length := List.length_map _
theorem nums_at {ts : List Num} {i : Nat} {x : Num} (h : ts[i]? = some x) : (numsD ts)[i]? = some x.d := by
  unfold numsD; rw [List.getElem?_map, h]; rfl
theorem nums_get {ts : List Num} {i : Nat} (h : i < ts.length) : ∃ x, ts[i]? = some x := ⟨ts[i], List.getElem?_eq_getElem h⟩
theorem numsD_app (a b : List Num) : numsD (a ++ b) = numsD a ++ numsD b := List.map_append
theorem nums_ints (r : List Int) : numsD (r.map Num.i) = intsD r := by unfold numsD intsD; rw [List.map_map]; rfl
theorem at_nums {ts : List Num} {i : Nat} {d : D} (h : (numsD ts)[i]? = some d) : ∃ x, ts[i]? = some x ∧ d = x.d := by
  unfold numsD at h
  rw [List.getElem?_map] at h
  cases e : ts[i]? with
  | none => rw [e] at h; cases h
  | some x => rw [e] at h; exact ⟨x, rfl, (Option.some.inj h).symm⟩
theorem nums_last {ts : List Num} {x : Num} (h : ts.getLast? = some x) : (numsD ts).getLast? = some x.d := by
  unfold numsD; rw [List.getLast?_map, h]; rfl
theorem ix_lstN {ts : List Num} {j : Int} {i : Nat} {x : Num} {Q : D → Prop} (ej : j = i) (h : ts[i]? = some x) (q : Q x.d) : rIxD (.lst (numsD ts)) (.int j) Q := ix_lst (atI_nat ej (nums_at h)) q
theorem ix_ownN {ts : List Num} {j : Int} {i : Nat} {x : Num} {Q : D → Prop} (ej : j = i) (h : ts[i]? = some x) (q : Q x.d) : rIxD (.own (numsD ts)) (.int j) Q := ix_own (atI_nat ej (nums_at h)) q
theorem ix_borN {ts : List Num} {j : Int} {i : Nat} {x : Num} {Q : D → Prop} (ej : j = i) (h : ts[i]? = some x) (q : Q x.d) : rIxD (.bor (numsD ts)) (.int j) Q := ix_bor (atI_nat ej (nums_at h)) q
theorem ix_lstNz {ts : List Num} {x : Num} {Q : D → Prop} (h : ts.getLast? = some x) (q : Q x.d) : rIxD (.lst (numsD ts)) (.int (-1)) Q := ix_lst (atI_last (nums_last h)) q
theorem ix_borNz {ts : List Num} {x : Num} {Q : D → Prop} (h : ts.getLast? = some x) (q : Q x.d) : rIxD (.bor (numsD ts)) (.int (-1)) Q := ix_bor (atI_last (nums_last h)) q
theorem cut_nums (ts : List Num) (lo hi : Option Int) : ∃ r : List Num, cutD (numsD ts) lo hi = numsD r ∧ r.length ≤ ts.length ∧ ∀ x ∈ r, x ∈ ts := by
  refine ⟨(ts.drop (HT.sIx (numsD ts).length 0 lo)).take (HT.sIx (numsD ts).length (numsD ts).length hi - HT.sIx (numsD ts).length 0 lo), ?_, ?_, fun x hx => List.mem_of_mem_drop (List.mem_of_mem_take hx)⟩
  · unfold DD.cutD numsD
    rw [List.map_take, List.map_drop]
  · rw [List.length_take, List.length_drop]; omega
theorem plain_nums (n : Nat) (r : List Num) : plainDs (n + 2) (numsD r) = true := by
  induction r with
  | nil => rfl
  | cons a r ih =>
    show (plainD (n + 1) a.d && plainDs (n + 2) (numsD r)) = true
    rw [ih, plain_num n a]; rfl
theorem noLsts_nums (r : List Num) : noLsts (numsD r) = true := by
  induction r with
  | nil => rfl
  | cons a r ih =>
    show (noLst a.d && noLsts (numsD r)) = true
    rw [ih]; cases a <;> rfl
theorem ok_nums (r : List Num) : retOk (.own (numsD r)) = true := noLsts_nums r
theorem toP_lst {d : D} {l : List D} (h : lstT d = some l) : toP d = toP (.lst l) := by
  cases d <;> first | (cases h; rfl) | cases h
/-- equal lists of numbers -/
theorem rEq_numsT {d e : D} {r : List Num} {neg : Bool} {Q : D → Prop} (hd : lstT d = some (numsD r)) (he : lstT e = some (numsD r)) (q : Q (.bl (!neg))) : rEq neg d e Q := by
  refine rEq_same 3 ?_ (by rw [toP_lst hd, toP_lst he]) q (by decide) ?_
  · have h3 : plainDs 3 (numsD r) = true := plain_nums 1 r
    cases d <;> first | (cases hd; exact h3) | cases hd
  · cases d <;> first | rfl | cases hd
/-- a comprehension that makes numbers -/
theorem lc_nums {i : Nat} {τ : TD} {ρ : Env} (A : D → Prop) (p : Num → Prop) (step : ∀ (d : D) (K : D → Prop), A d → (∀ x : Num, p x → K x.d) → Nx (fun ρ1 => τ ρ1 K) (put ρ i (some d))) :
    ∀ (ds : List D) (Q : List D → Prop), (∀ d ∈ ds, A d) → (∀ row : List Num, row.length = ds.length → (∀ x ∈ row, p x) → Q (numsD row)) → lcR i dTrue τ ds ρ Q
  | [], Q, _, done => done [] rfl (fun x h => by cases h)
  | d :: ds, Q, ha, done => by
    have ih := lc_nums A p step ds
    unfold lcR
    refine .of ?_
    have := (step d (fun y => isBor y = false ∧ lcR i dTrue τ ds ρ fun ys => Q (frzO y :: ys)) (ha d List.mem_cons_self) fun x hx => ⟨Num.nb x, ih _ (fun d hd => ha d (List.mem_cons_of_mem _ hd)) fun row hl hr => ?_⟩).get
    · exact ⟨fun _ => this, fun z => nomatch z⟩
    · rw [Num.n2]
      exact done (x :: row) (by simp [hl]) fun y hy => by
        rcases List.mem_cons.mp hy with rfl | hy
        · exact hx
        · exact hr y hy
end DD

set_option Elab.async false
set_option linter.all false
set_option maxRecDepth 100000
set_option maxHeartbeats 1000000
namespace DD
open PySem PySem.Spec PyProof.Rows L2
/-! ### defs that change an argument's list -/
def del (H : Hp) (p : Addr) : Hp := fun a => if a = p then none else H a
theorem del_same {H : Hp} {p : Addr} : del H p p = none := if_pos rfl
theorem del_ne {H : Hp} {p a : Addr} (h : a ≠ p) : del H p a = H a := if_neg h
theorem same_del {H : Hp} {p : Addr} : Same (del H p) H := fun b o e => by
  by_cases h : b = p
  · subst h; rw [del_same] at e; cases e
  · rw [del_ne h] at e; exact e
/-- the argument at i is a list of one's own, which is changed; the promise tells [what is given back, the list behind] -/
def spM (nm : Nm) (i : Nat) (M : MD) : Sp := fun vs H Q E => ∃ (G : Hp) (ds l : List D) (p : Addr) (ws : List V) (P : Out → Prop), Same G H ∧ vs.length = ds.length ∧
  vs[i]? = some (.ref p) ∧ ds[i]? = some (.own l) ∧ H p = some (.lst ws) ∧ G p = none ∧ Reps nm G ws l ∧ (∀ (j : Nat) (d : D), j ≠ i → ds[j]? = some d → ∃ v, vs[j]? = some v ∧ Rep nm G v d) ∧ M ds P ∧
  (∀ (G' H' : Hp) (v : V) (r : D) (l' : List D) (ws' : List V), Ext (del H p) G (del H p) G' H' → RepV nm (del H p) G' H' v r → flat1 r = true → H' p = some (.lst ws') → G' p = none → Reps nm G' ws' l' → P (.ret (.tup [r, .lst l'])) → Q v H') ∧
  (∀ (C : Str) (H' : Hp), Same (del H p) H' → P (.exn C) → E (.ref (nm.ad C)) none H')
def sitM (Γ : Gm) (N : List Str) (qual : Str) (sc : Scope) (f : Addr) (cdv : Value) (A : Around) (outer : List PySem.Env) (s : Shared) (H : Hp) (E : XK) (G0 : Hp) (P : Out → Prop) (i : Nat) (p : Addr) : Sit where
  X := cxOf (L2.CX Γ.P Γ.w) Γ.P Γ.w Γ.K Γ.mg Γ.base N qual sc f cdv A outer s H E
  nm := Γ.nm
  G0 := G0
  B := del H p
  ex := fun C _ => P (.exn C)
  kk := Γ.kk
  ww := Γ.ww
  pp := ⟨some (i, p), []⟩
theorem start_relM {nm : Nm} {G H : Hp} {N : List Str} {vs ws : List V} {ds l : List D} {i : Nat} {p : Addr} (gh : Same G H) (hl : vs.length = ds.length) (hi : vs[i]? = some (.ref p)) (hd : ds[i]? = some (.own l)) (hp : H p = some (.lst ws)) (gp : G p = none) (rs : Reps nm G ws l)
    (ho : ∀ (j : Nat) (d : D), j ≠ i → ds[j]? = some d → ∃ v, vs[j]? = some v ∧ Rep nm G v d) : DD.Rel nm G (del H p) ⟨some (i, p), []⟩ G H (L2.start N vs) (startD N ds) := by
  have at0 : ∀ (j : Nat) (d : D), (startD N ds)[j]? = some (some d) → ds[j]? = some d := fun j d e => by
    unfold startD at e
    by_cases hj : j < ds.length
    · rw [List.getElem?_append_left (by simpa using hj), List.getElem?_map] at e
      cases q : ds[j]? with
      | none => rw [q] at e; cases e
      | some d' => rw [q] at e; cases e; rfl
    · rw [List.getElem?_append_right (by simpa using hj), List.getElem?_replicate] at e
      split at e <;> cases e
  have vat : ∀ (j : Nat) (v : V), vs[j]? = some v → (L2.start N vs)[j]? = some (some v) := fun j v e => by
    unfold L2.start
    have hj := (List.getElem?_eq_some_iff.mp e).1
    rw [List.getElem?_append_left (by simpa using hj), List.getElem?_map, e]
    rfl
  have own : ∀ (j : Nat) (l2 : List D), (startD N ds)[j]? = some (some (.own l2)) → j = i := fun j l2 e => by
    by_cases h : j = i
    · exact h
    · obtain ⟨v, _, r⟩ := ho j _ h (at0 j _ e)
      cases r
  refine ⟨⟨Same.refl G, same_del, gh, fun _ e _ => e⟩, by simp [startD, L2.start, hl], fun j d e => ?_, fun j k l1 l2 q hj hk hjk => absurd ((own j _ hj).trans (own k _ hk).symm) hjk, fun j q e => ?_⟩
  · have ed := at0 j d e
    by_cases h : j = i
    · subst h
      rw [hd] at ed
      cases ed
      exact ⟨_, vat _ _ hi, ⟨p, ws, rfl, hp, gp, del_same, rs⟩, rfl⟩
    · obtain ⟨v, h1, h2⟩ := ho j d h ed
      refine ⟨v, vat _ _ h1, .of h2, ?_⟩
      cases d <;> first | rfl | cases h2
  · rcases e with e | e
    · cases e
      exact vat _ _ hi
    · cases e
theorem fnM {Γ : Gm} {x qual : Str} {st : Stmt} {f : Addr} {fd : FuncData} {N ps : List Str} {k : Nat} {M : MD} (i : Nat) (F : Fun Γ.K x qual st f fd) (Sc : FnScope N ps (defScope st)) (hl : ∀ ds P, M ds P → ds.length = ps.length) (hi : i < ps.length)
    (hb : ∀ (cdv : Value) (A : Around) (outer : List PySem.Env) (s : Shared) (H : Hp) (E : XK) (G0 : Hp) (ds : List D) (P : Out → Prop) (p : Addr),
      JX (sitM Γ N qual (defScope st) f cdv A outer s H E G0 P i p) → Room k (sitM Γ N qual (defScope st) f cdv A outer s H E G0 P i p).X.A → PassesOwn (model Γ.P Γ.w) (sitM Γ N qual (defScope st) f cdv A outer s H E G0 P i p).X.A (sitM Γ N qual (defScope st) f cdv A outer s H E G0 P i p).X.env (sitM Γ N qual (defScope st) f cdv A outer s H E G0 P i p).X.xe → M ds P →
      ∃ t, JSs (sitM Γ N qual (defScope st) f cdv A outer s H E G0 P i p) (defBody st) t ∧ Nx (fun ρ => t { nx := fun ρ2 => ∃ l, ρ2[i]? = some (some (.own l)) ∧ P (.ret (.tup [.non, .lst l])), rt := fun d => P (.ret d) } ρ) (startD N ds)) :
    FnOk Γ.P Γ.w Γ.K Γ.mg Γ.base (L2.CX Γ.P Γ.w) (k + 1) f fd ps (spM Γ.nm i M) := by
  refine F.okX Sc (fun vs H Q E h => ?_) fun cdv A outer s H vs Q E hr hsp => ?_
  · obtain ⟨G, ds, l, p, ws, P, _, hlen, _, _, _, _, _, _, m, _⟩ := h
    rw [hlen]
    exact hl ds P m
  · obtain ⟨G, ds, l, p, ws, P, gh, hlen, hi1, hd1, hp, gp, rs, ho, m, hret, hexn⟩ := hsp
    have jx : JX (sitM Γ N qual (defScope st) f cdv A outer s H E G P i p) :=
      ⟨fun cls d _ H' => E cls d H', takes_of rfl rfl rfl rfl, fun G' H' σ ρ C R p => hexn C H' R.bh p⟩
    obtain ⟨t, ht, hq⟩ := hb cdv A outer s H E G ds P p jx hr (passes_of rfl) m
    refine ⟨_, pss_w, (ht.run G H (L2.start N vs) (startD N ds) _ (start_relM gh hlen hi1 hd1 hp gp rs ho) hq.get).mono (fun σ' H' ⟨G', ρ', R', _, l', el, q⟩ => ?_) (fun v H' ⟨G', d, x, rv, nb, fl, vs2, l2, e1, e2, e3, q⟩ => ?_) (fun _ _ ⟨_, _, _, _, q⟩ => q.elim) (fun _ _ ⟨_, _, _, _, q⟩ => q.elim)⟩
    · obtain ⟨v, h1, ⟨p2, vs2, rfl, g1, g2, g3, g4⟩, _⟩ := R'.slot i _ el
      have := R'.pin i p (.inl rfl)
      rw [this] at h1
      cases h1
      exact hret G' H' .non .non l' vs2 R'.ext (.of .non) rfl g1 g2 g4 q
    · exact hret G' H' v d l2 vs2 x rv fl e1 e2 e3 q
section
variable {S : Sit} {e0 e : Expr} {es : List Expr} {pos p : Pos} {τ : TD} {t : TDs} {M : MD} {k n : Nat} {x m : Str} {s1 s2 sts : List Stmt}
/-- return e, the changed list in slot i -/
def dRetM (i : Nat) (τ : TD) : TDS := fun E ρ => match ρ[i]? with
  | some (some (.own l)) => τ ρ fun d => flat1 d = true ∧ E.rt (.tup [d, .lst l])
  | _ => False
theorem js_retM {i : Nat} {q : Addr} (he : JE S e τ) (hw : S.pp.o = some (i, q)) (ht : S.tt = false := by rfl) : JS S (.Return (some e) pos) (dRetM i τ) := by
  refine ⟨fun G H σ ρ E R h => WS.of (ps_ret pe_w) ?_⟩
  unfold dRetM at h
  split at h
  · rename_i l el
    refine (he.run G H σ ρ _ R h).mono fun v H1 ⟨G1, d, x1, r1, fl, q1⟩ => ?_
    have R1 := R.go x1
    obtain ⟨v1, h1, ⟨p2, vs2, rfl, g1, g2, g3, g4⟩, _⟩ := R1.slot i _ el
    have := R1.pin i q (.inl hw)
    rw [this] at h1
    cases h1
    refine wR_false ht ⟨G1, d, R1.ext, r1.from R.bh, ?_, ?_⟩
    · cases d <;> first | rfl | cases fl
    · show wRt S.nm S.pp G1 H1 d E.rt
      unfold wRt
      rw [hw]
      exact ⟨fl, vs2, l, g1, g2, g4, q1⟩
  · exact h.elim
/-- an expression that changes what is one's own -/
abbrev TDM := Env → (D → Env → Prop) → Prop
structure JEM (S : Sit) (e : Expr) (τ : TDM) : Prop where
  run : ∀ (G H : Hp) (σ : L2.St) (ρ : Env) (Q : D → Env → Prop), S.Rel G H σ ρ → τ ρ Q → WX S.X e σ H fun v H' => ∃ G' ρ' d, S.Rel G' H' σ ρ' ∧ Same G G' ∧ flat1 d = true ∧ Rep S.nm G' v d ∧ Q d ρ'
def dExprM (τ : TDM) : TDS := fun E ρ => τ ρ fun _ ρ' => E.nx ρ'
theorem js_exprM {τ : TDM} (he : JEM S e τ) (hs : swapsWith e none pos.line S.X.env = pure false := by rfl) : JS S (.Expr e pos) (dExprM τ) := by
  refine ⟨fun G H σ ρ E R h => WS.of (ps_expr pe_w hs) ((he.run G H σ ρ _ R h).mono fun v H1 ⟨G1, ρ1, d, R1, sg, _, _, q1⟩ => ?_)⟩
  exact ⟨G1, ρ1, R1, sg, q1⟩
def dIfM (τ : TDM) (t u : TDS) : TDS := fun E ρ => τ ρ fun d ρ' => match d with
  | .bl b => (b = true → t E ρ') ∧ (b = false → u E ρ')
  | _ => False
theorem js_ifM {τ : TDM} {t u : TDS} (hc : JEM S e τ) (h1 : JSs S s1 t) (h2 : JSs S s2 u) (he : ∀ whole, isTrue e S.X.env whole = (do let v ← whole; standAt e.pos; holding [v] (truthy v)) := by intro _; rfl) : JS S (.If e s1 s2 pos) (dIfM τ t u) := by
  refine ⟨fun G H σ ρ E R h => WS.of (ps_if (pt_val pe_w he) pss_w pss_w) ?_⟩
  refine (hc.run G H σ ρ _ R h).mono fun v H1 ⟨G1, ρ1, d, R1, sg, _, r1, q1⟩ => ?_
  cases d with
  | bl b =>
    cases r1
    refine ⟨b, rfl, ?_⟩
    cases b with
    | true => exact (h1.run G1 H1 σ ρ1 E R1 (q1.1 rfl)).lift sg
    | false => exact (h2.run G1 H1 σ ρ1 E R1 (q1.2 rfl)).lift sg
  | _ => exact q1.elim
structure CalM2 (Γ : Gm) (k : Nat) (x : Str) (n i : Nat) (M : MD) : Prop where
  ex : ∃ (f : Addr) (fd : FuncData) (ps : List Str), ps.length = n ∧ FnOk Γ.P Γ.w Γ.K Γ.mg Γ.base (L2.CX Γ.P Γ.w) k f fd ps (spM Γ.nm i M) ∧ Γ.mg x = some (.ref f) ∧ PySem.W.keepIn Γ.K (.ref f) = true ∧ Binds Γ.K fd ps []
theorem CalM2.mono {Γ : Gm} {j k : Nat} {x : Str} {n i : Nat} {M : MD} (h : CalM2 Γ j x n i M) (l : j ≤ k) : CalM2 Γ k x n i M := by
  obtain ⟨f, fd, ps, h1, h2, h3⟩ := h.ex
  exact ⟨f, fd, ps, h1, h2.mono l, h3⟩
/-- behind the call -/
theorem Rel.called {nm : Nm} {pp : Pin} {G0 B G H G' H' : Hp} {σ : L2.St} {ρ : Env} {l l' : List D} {ws' : List V} {p : Addr} {j : Nat} (R : DD.Rel nm G0 B pp G H σ ρ) (e : ρ[j]? = some (some (.own l))) (es : σ[j]? = some (some (.ref p)))
    (x : Ext (del H p) G (del H p) G' H') (hp : H' p = some (.lst ws')) (gp : G' p = none) (rs : Reps nm G' ws' l') : DD.Rel nm G0 B pp G' H' σ (ρ.set j (some (.own l'))) := by
  obtain ⟨v, h1, h2, h3⟩ := R.slot j _ e
  rw [es] at h1
  cases h1
  obtain ⟨p', vs, ep, g1, g2, g3, g4⟩ := h2
  cases ep
  have hi : j < ρ.length := by
    by_cases hi : j < ρ.length
    · exact hi
    · rw [List.getElem?_eq_none (by simpa using hi)] at e; cases e
  have dl : ∀ b, b ≠ p → ∀ o, H b = some o → H' b = some o := fun b hb o eb => x.h b o (by rw [del_ne hb]; exact eb)
  have nw : ∀ b, b ≠ p → G b = none → H b ≠ none → G' b = none := fun b hb h1 h2 => x.new b h1 (by rw [del_ne hb]; exact h2)
  refine ⟨⟨R.ext.g.trans x.g, fun b o eb => dl b (ne_of_none eb g3) o (R.bh b o eb), x.gh, fun a ea na => ?_⟩, by rw [List.length_set]; exact R.len, fun i d ei => ?_, fun i k l1 l2 q hj hk hjk e1 e2 => ?_, R.pin⟩
  · refine nw a (fun z => na (by rw [z]; exact g3)) (R.ext.new a ea na) ?_
    cases q : B a with
    | none => exact absurd q na
    | some o => rw [R.bh a o q]; exact fun z => by cases z
  · by_cases hij : j = i
    · subst hij
      rw [List.getElem?_set_self hi] at ei
      cases ei
      exact ⟨_, es, ⟨p, ws', rfl, hp, gp, g3, rs⟩, rfl⟩
    · rw [List.getElem?_set_ne hij] at ei
      obtain ⟨u, k1, k2, k3⟩ := R.slot i d ei
      refine ⟨u, k1, ?_, k3⟩
      cases d with
      | own l2 =>
        obtain ⟨p2, vs2, rfl, a1, a2, a3, a4⟩ := k2
        have np : p2 ≠ p := fun z => R.apart j i l l2 p e ei hij es (by rw [← z]; exact k1)
        exact ⟨p2, vs2, rfl, dl p2 np _ a1, nw p2 np a2 (by rw [a1]; exact fun z => by cases z), a3, a4.mono x.g⟩
      | bor l' => cases k3
      | _ => exact Rep.mono x.g _ _ k2
  · have nj : ∀ (m : Nat) (l2 : List D), (ρ.set j (some (D.own l')))[m]? = some (some (.own l2)) → ∃ l3, ρ[m]? = some (some (.own l3)) := fun m l2 em => by
      by_cases him : j = m
      · subst him; exact ⟨l, e⟩
      · rw [List.getElem?_set_ne him] at em; exact ⟨_, em⟩
    obtain ⟨l3, e3⟩ := nj i l1 hj
    obtain ⟨l4, e4⟩ := nj k l2 hk
    exact R.apart i k l3 l4 q e3 e4 hjk e1 e2
/-- behind an exception of the callee: nothing of the list is known -/
theorem Rel.lost {nm : Nm} {pp : Pin} {G0 B G H H' : Hp} {σ : L2.St} {ρ : Env} {l : List D} {p : Addr} {j : Nat} (R : DD.Rel nm G0 B pp G H σ ρ) (e : ρ[j]? = some (some (.own l))) (es : σ[j]? = some (some (.ref p)))
    (sm : Same (del H p) H') : DD.Rel nm G0 B pp G H' σ (ρ.set j none) := by
  obtain ⟨v, h1, h2, h3⟩ := R.slot j _ e
  rw [es] at h1
  cases h1
  obtain ⟨p', vs, ep, g1, g2, g3, g4⟩ := h2
  cases ep
  have dl : ∀ b, b ≠ p → ∀ o, H b = some o → H' b = some o := fun b hb o eb => sm b o (by rw [del_ne hb]; exact eb)
  have key : ∀ (i : Nat) (d : D), (ρ.set j none)[i]? = some (some d) → i ≠ j ∧ ρ[i]? = some (some d) := fun i d e => by
    by_cases h : j = i
    · subst h
      by_cases hi : j < ρ.length
      · rw [List.getElem?_set_self hi] at e; cases e
      · rw [List.getElem?_eq_none (by simpa using hi)] at e; cases e
    · rw [List.getElem?_set_ne h] at e
      exact ⟨Ne.symm h, e⟩
  refine ⟨⟨R.ext.g, fun b o eb => dl b (ne_of_none eb g3) o (R.bh b o eb), fun b o eb => dl b (ne_of_none eb g2) o (R.gh b o eb), R.ext.new⟩, by rw [List.length_set]; exact R.len, fun i d ei => ?_, fun i k l1 l2 q hj hk hjk e1 e2 => R.apart i k l1 l2 q (key i _ hj).2 (key k _ hk).2 hjk e1 e2, R.pin⟩
  obtain ⟨hij, ei⟩ := key i d ei
  obtain ⟨u, k1, k2, k3⟩ := R.slot i d ei
  refine ⟨u, k1, ?_, k3⟩
  cases d with
  | own l2 =>
    obtain ⟨p2, vs2, rfl, a1, a2, a3, a4⟩ := k2
    have np : p2 ≠ p := fun z => R.apart j i l l2 p e ei (Ne.symm hij) es (by rw [← z]; exact k1)
    exact ⟨p2, vs2, rfl, dl p2 np _ a1, a2, a3, a4⟩
  | bor l' => cases k3
  | _ => exact k2
def oCallM (ex : TX) (ρ : Env) (j : Nat) (ds : List D) (M : MD) (Q : D → Env → Prop) : Prop := M ds fun out => match out with
  | .ret (.tup [r, .lst l']) => Nx (fun ρ' => Q r ρ') (put ρ j (some (.own l')))
  | .ret _ => False
  | .exn C => ex C (ρ.set j none)
/-- f(e0, x, ..): the list in slot j is changed -/
def eCallM (ex : TX) (M : MD) (j : Nat) (τ : TD) (t : TDs) : TDM := fun ρ Q => τ ρ fun d0 => match ρ[j]? with
  | some (some (.own l)) => t ρ fun ds => (frzO d0 :: ds).any isBor = false ∧ oCallM ex ρ j (frzO d0 :: .own l :: ds) M Q
  | _ => False
theorem je_callM {Γ : Gm} (jx : JX S) (F : CalM2 Γ k x n 1 M) (hr : Room k S.X.A) (hg : Gl S.X x) (j : Nat) {y : Str} {py : Pos} (h0 : JE S e0 τ) (ho : PE S.X (.Name y py) (tVar j)) (h : JA' S es t) (hdb : (x == ("__debug__" : Str)) = false := by decide)
    (he : starEach (e0 :: .Name y py :: es) S.X.env = (false, eval e0 S.X.env) :: starEach (.Name y py :: es) S.X.env := by rfl) (he2 : starEach (.Name y py :: es) S.X.env = (false, eval (.Name y py) S.X.env) :: starEach es S.X.env := by rfl) (hpl : (backTo pos (starEach (.Name y py :: es) S.X.env)).any (·.1) = false := by rfl) (hG : S.gm = Γ := by rfl) :
    JEM S (.Call (.Name x p) (e0 :: .Name y py :: es) [] pos) (eCallM S.ex M j τ t) := by
  subst hG
  obtain ⟨W, tk, hW⟩ := jx
  obtain ⟨f, fd, ps, _, F, hm, hk, hb⟩ := F.ex
  refine ⟨fun G H σ ρ Q R q => WX.of (pe_callS F hr hg hm hk hb (fun σ => passAt tk σ) (pa_cons pe_w (pa_cons ho pa_w he2) he) hdb he hpl) ?_⟩
  refine (h0.run G H σ ρ _ R q).mono fun v0 H1 ⟨G1, d0, x1, r1, q1⟩ => ?_
  cases el : ρ[j]? with
  | none => rw [el] at q1; exact q1.elim
  | some o =>
    cases o with
    | none => rw [el] at q1; exact q1.elim
    | some d =>
      cases d with
      | own l =>
        rw [el] at q1
        obtain ⟨G1', x1', r1'⟩ := r1.frzO x1.gh
        have y1 := x1.trans x1'
        have R1 := R.go y1
        obtain ⟨v1, es1, _⟩ := R1.slot j _ el
        refine ⟨v1, es1, ?_⟩
        refine (h.run G1' H1 σ ρ _ R1 q1).mono fun vs H2 ⟨G2, ds, x2, ra, nb, q2⟩ => ?_
        have R2 := R1.go x2
        obtain ⟨v2, es2, ⟨p2, ws, e2, g1, g2, g3, g4⟩, _⟩ := R2.slot j _ el
        rw [es1] at es2
        cases es2
        cases e2
        rw [List.any_cons, Bool.or_eq_false_iff] at nb
        have rs := ra.reps nb.2
        have r0 : Rep S.nm G2 v0 (frzO d0) := by
          have r3 : RepV S.nm H2 G2 H2 v0 (frzO d0) := repV_noOwn (r1'.ext x2) (isOwn_frzO d0)
          have n1 := isOwn_frzO d0
          have n2 := nb.1
          revert r3 n1 n2
          generalize frzO d0 = z
          intro r3 n1 n2
          cases z <;> first | exact r3 | (cases n1; done) | (cases n2; done)
        show ∃ (G : Hp) (ds l : List D) (p : Addr) (ws : List V) (P : Out → Prop), _
        refine ⟨G2, frzO d0 :: .own l :: ds, l, p2, ws, _, R2.gh, by simp [rs.length], rfl, rfl, g1, g2, g4, fun i d hi ei => ?_, q2, fun G' H' v r l' ws' z1 z2 z3 z4 z5 z6 z7 => ?_, fun C H' sm pe => ?_⟩
        · match i, hi, ei with
          | 0, _, ei => cases ei; exact ⟨v0, rfl, r0⟩
          | 1, hi, _ => exact absurd rfl hi
          | i + 2, _, ei =>
            obtain ⟨v, h1, h2⟩ := rs.get (i := i) (by simpa using ei)
            exact ⟨v, by simpa using h1, h2⟩
        · have R3 := R2.called el es1 z1 z4 z5 z6
          refine ⟨G', _, r, R3, (x1.g.trans x1'.g).trans (x2.g.trans z1.g), z3, ?_, Nx.getS z7⟩
          cases r <;> first | exact z2 | cases z3
        · exact hW G2 H' σ _ C (R2.lost el es1 sm) pe
      | _ => rw [el] at q1; exact q1.elim
end
end DD

set_option Elab.async false
set_option linter.all false
set_option maxRecDepth 100000
set_option maxHeartbeats 1000000
namespace DD
/-! ### steps told, walked one by one -/
def dl (m : Int) (u : Bool) (k i : Nat) : Int :=
  (if i = k + 1 then 1 else 0) + (if u = true then (if i = k then 0 - m else 0) + (if i = k - 1 then 0 - 1 else 0)
    else (if i = k then 0 - (m + 1) else 0) + (if k = 1 then (if i = 0 then m else 0) else if 1 < k then (if i = k - 1 then m - 1 else 0) + (if i = k - 2 then 1 else 0) else 0))
theorem at0_stepP {m : Int} {h : List Int} {u : Bool} {k : Nat} {o : Int} (hu : u = true → 1 ≤ k) (i : Nat) : at0 (stepP m h u k o) i = at0 h i + o * dl m u k i := by
  have l0 : k + 1 < (padTo (k + 2) h).length := by rw [padTo_len]; omega
  have l1 : ∀ j, j ≤ k → j < (addAt (padTo (k + 2) h) (k + 1) o).length := fun j hj => by rw [addAt_len]; omega
  unfold stepP dl
  simp only []
  cases u with
  | true =>
    have hu := hu rfl
    rw [if_pos rfl, if_pos rfl, at0_addAt _ (by rw [addAt_len]; exact l1 _ (by omega)), at0_addAt _ (l1 _ (by omega)), at0_addAt _ l0, at0_padTo]
    split <;> split <;> split <;> first | omega | grind
  | false =>
    simp only [Bool.false_eq_true, if_false]
    by_cases h1 : k = 1
    · rw [if_pos h1, if_pos h1, at0_addAt _ (by rw [addAt_len]; exact l1 _ (by omega)), at0_addAt _ (l1 _ (by omega)), at0_addAt _ l0, at0_padTo]
      subst h1
      split <;> split <;> split <;> first | omega | grind
    · rw [if_neg h1, if_neg h1]
      by_cases h2 : 1 < k
      · rw [if_pos h2, if_pos h2, at0_addAt _ (by rw [addAt_len, addAt_len]; exact l1 _ (by omega)), at0_addAt _ (by rw [addAt_len]; exact l1 _ (by omega)), at0_addAt _ (l1 _ (by omega)), at0_addAt _ l0, at0_padTo]
        split <;> split <;> split <;> split <;> first | omega | grind
      · rw [if_neg h2, if_neg h2, at0_addAt _ (l1 _ (by omega)), at0_addAt _ l0, at0_padTo]
        split <;> split <;> first | omega | grind
def CanF (m : Int) (F : Nat → Int) (p : Bool × Nat) : Prop := (p.1 = true → 1 ≤ p.2 ∧ m ≤ F p.2 ∧ 1 ≤ F (p.2 - 1)) ∧ (p.1 = false → m + 1 ≤ F p.2)
def goT (m : Int) (F : Nat → Int) (p : Bool × Nat) (n : Int) : Nat → Int := fun i => F i + n * dl m p.1 p.2 i
def okT (m : Int) : (Nat → Int) → List (Bool × Nat) → Prop
  | _, [] => True
  | F, p :: T => CanF m F p ∧ okT m (goT m F p 1) T
def endT (m : Int) : (Nat → Int) → List (Bool × Nat) → Nat → Int
  | F, [] => F
  | F, p :: T => endT m (goT m F p 1) T
theorem goT_add (m : Int) (F : Nat → Int) (p : Bool × Nat) (a b : Int) : goT m (goT m F p a) p b = goT m F p (a + b) := by
  funext i
  unfold goT
  rw [Int.add_mul]
  omega
theorem goT_zero (m : Int) (F : Nat → Int) (p : Bool × Nat) : goT m F p 0 = F := by
  funext i; unfold goT; omega
theorem okT_rep {m : Int} {p : Bool × Nat} {T : List (Bool × Nat)} : ∀ (n : Nat) (F : Nat → Int), (∀ j : Nat, j < n → CanF m (goT m F p j) p) → okT m (goT m F p n) T → okT m F (List.replicate n p ++ T)
  | 0, F, _, h => by rw [show ((0 : Nat) : Int) = 0 from rfl, goT_zero] at h; exact h
  | n + 1, F, hc, h => by
    rw [List.replicate_succ]
    refine ⟨?_, okT_rep n _ (fun j hj => ?_) ?_⟩
    · have := hc 0 (by omega)
      rwa [show ((0 : Nat) : Int) = 0 from rfl, goT_zero] at this
    · have := hc (j + 1) (by omega)
      rw [goT_add]
      rwa [show (1 : Int) + (j : Int) = ((j + 1 : Nat) : Int) by omega]
    · rw [goT_add]
      rwa [show (1 : Int) + (n : Int) = ((n + 1 : Nat) : Int) by omega]
theorem endT_rep {m : Int} {p : Bool × Nat} {T : List (Bool × Nat)} : ∀ (n : Nat) (F : Nat → Int), endT m F (List.replicate n p ++ T) = endT m (goT m F p n) T
  | 0, F => by rw [show ((0 : Nat) : Int) = 0 from rfl, goT_zero]; rfl
  | n + 1, F => by
    rw [List.replicate_succ]
    show endT m (goT m F p 1) (List.replicate n p ++ T) = _
    rw [endT_rep n, goT_add, show (1 : Int) + (n : Int) = ((n + 1 : Nat) : Int) by omega]
theorem at0_step {m : Int} {h : List Int} {u : Bool} {k : Nat} {o : Int} (hu : u = true → 1 ≤ k) : at0 (stepP m h u k o) = goT m (at0 h) (u, k) o := by
  funext i; exact at0_stepP hu i
theorem can_go {m : Int} (hm : 1 ≤ m) {h : List Int} {u : Bool} {k : Nat} {o : Int} (c : Can m h u k o) {j : Nat} (hj : (j : Int) < o) : CanF m (goT m (at0 h) (u, k) j) (u, k) := by
  constructor
  · intro hu
    have hu : u = true := hu
    subst hu
    obtain ⟨k1, h1, h2⟩ := c.up1 rfl
    refine ⟨k1, ?_, ?_⟩
    · show m ≤ at0 h k + (j : Int) * dl m true k k
      have : dl m true k k = 0 - m := by unfold dl; rw [if_neg (by omega), if_pos rfl, if_pos rfl, if_neg (by omega)]; omega
      rw [this]
      have := Int.mul_le_mul_of_nonneg_left (show (j : Int) + 1 ≤ o by omega) (show 0 ≤ m by omega)
      have e : (j : Int) * (0 - m) = 0 - m * j := by rw [Int.mul_sub, Int.mul_comm (j : Int) m]; omega
      have e2 : m * ((j : Int) + 1) = m * j + m := by rw [Int.mul_add]; omega
      omega
    · show 1 ≤ at0 h (k - 1) + (j : Int) * dl m true k (k - 1)
      have : dl m true k (k - 1) = 0 - 1 := by unfold dl; rw [if_neg (by omega), if_pos rfl, if_neg (by omega), if_pos rfl]; omega
      rw [this]
      omega
  · intro hu
    have hu : u = false := hu
    subst hu
    have h1 := c.pt1 rfl
    show m + 1 ≤ at0 h k + (j : Int) * dl m false k k
    have : dl m false k k = 0 - (m + 1) := by
      unfold dl
      rw [if_neg (by omega), if_neg (by decide), if_pos rfl]
      by_cases h1 : k = 1
      · rw [if_pos h1, if_neg (by omega)]; omega
      · rw [if_neg h1]
        by_cases h2 : 1 < k
        · rw [if_pos h2, if_neg (by omega), if_neg (by omega)]; omega
        · rw [if_neg h2]; omega
    rw [this]
    have := Int.mul_le_mul_of_nonneg_left (show (j : Int) + 1 ≤ o by omega) (show 0 ≤ m + 1 by omega)
    have e : (j : Int) * (0 - (m + 1)) = 0 - (m + 1) * j := by rw [Int.mul_sub, Int.mul_comm (j : Int) (m + 1)]; omega
    have e2 : (m + 1) * ((j : Int) + 1) = (m + 1) * j + (m + 1) := by rw [Int.mul_add]; omega
    omega
theorem run_okT {m : Int} (hm : 1 ≤ m) : ∀ (n : Nat) (h : List Int), PosL h → mu h ≤ n → okT m (at0 h) (runF m n h).1 ∧ endT m (at0 h) (runF m n h).1 = at0 (runF m n h).2
  | 0, h, p, l => ⟨trivial, rfl⟩
  | n + 1, h, p, l => by
    cases e : nextP m h with
    | none => rw [runF_none e]; exact ⟨trivial, rfl⟩
    | some x =>
      obtain ⟨u, k, o⟩ := x
      obtain ⟨c, hk, p2, m2, l2⟩ := mu_next hm p e
      have o1 := c.o1
      have ih := run_okT hm n (stepP m h u k o) p2 (by omega)
      rw [at0_step fun z => (c.up1 z).1] at ih
      unfold runF
      rw [e]
      have eo : ((o.toNat : Nat) : Int) = o := by omega
      refine ⟨okT_rep o.toNat _ (fun j hj => can_go hm c (by omega)) (by rw [eo]; exact ih.1), ?_⟩
      show endT m (at0 h) (List.replicate o.toNat (u, k) ++ (runF m n (stepP m h u k o)).1) = _
      rw [endT_rep, eo]
      exact ih.2
theorem told_ok {m : Int} (hm : 1 ≤ m) {h : List Int} (p : PosL h) : okT m (at0 h) (toldF m h) ∧ endT m (at0 h) (toldF m h) = at0 (fallF m h) := run_okT hm _ h p (by have := mu_nonneg p; omega)
theorem okT_at {m : Int} : ∀ {T : List (Bool × Nat)} {F : Nat → Int} {i : Nat} {p : Bool × Nat}, okT m F T → T[i]? = some p → CanF m (endT m F (T.take i)) p ∧ endT m F (T.take (i + 1)) = goT m (endT m F (T.take i)) p 1
  | [], _, _, _, _, e => by simp at e
  | q :: T, F, 0, p, h, e => by
    simp at e
    subst e
    exact ⟨h.1, rfl⟩
  | q :: T, F, i + 1, p, h, e => okT_at (T := T) (F := goT m F q 1) (i := i) h.2 (by simpa using e)
theorem goT_pos {m : Int} (hm : 1 ≤ m) {F : Nat → Int} {p : Bool × Nat} (c : CanF m F p) (hF : ∀ i, 0 ≤ F i) : ∀ i, 0 ≤ goT m F p 1 i := fun i => by
  obtain ⟨u, k⟩ := p
  have fi := hF i
  unfold goT dl
  simp only []
  cases u with
  | true =>
    obtain ⟨k1, h1, h2⟩ := c.1 rfl
    have h1 : m ≤ F k := h1
    have h2 : 1 ≤ F (k - 1) := h2
    rw [if_pos rfl]
    by_cases e1 : i = k
    · subst e1; rw [if_neg (by omega), if_pos rfl, if_neg (by omega)]; omega
    · by_cases e2 : i = k - 1
      · subst e2; rw [if_neg (by omega), if_neg (by omega), if_pos rfl]; omega
      · rw [if_neg e1, if_neg e2]; split <;> omega
  | false =>
    have h1 : m + 1 ≤ F k := c.2 rfl
    simp only [Bool.false_eq_true, if_false]
    by_cases e1 : i = k
    · rw [if_neg (show ¬ i = k + 1 by omega), if_pos e1]
      subst e1
      by_cases h3 : i = 1
      · rw [if_pos h3, if_neg (by omega)]; omega
      · rw [if_neg h3]
        by_cases h2 : 1 < i
        · rw [if_pos h2, if_neg (by omega), if_neg (by omega)]; omega
        · rw [if_neg h2]; omega
    · rw [if_neg e1]
      split <;> split <;> (try split) <;> (try split) <;> (try split) <;> omega
theorem at0_zeros {s : List Int} {n : Nat} : at0 (s ++ List.replicate n 0) = at0 s := by
  funext i
  unfold at0
  by_cases hi : i < s.length
  · rw [List.getElem?_append_left hi]
  · rw [List.getElem?_append_right (by omega), List.getElem?_eq_none (l := s) (by omega), List.getElem?_replicate]
    split <;> rfl
/-- a row is known by its things, the 0s at its end left out -/
theorem at0_only : ∀ {r s : List Int}, r.getLast? ≠ some 0 → s.getLast? ≠ some 0 → at0 r = at0 s → r = s := by
  have key : ∀ {r s : List Int}, r.getLast? ≠ some 0 → at0 r = at0 s → r.length ≤ s.length := fun {r s} hr e => by
    apply Classical.byContradiction
    intro hn
    obtain ⟨x, hx⟩ : ∃ x, r.getLast? = some x := by
      cases q : r.getLast? with
      | none => have : r = [] := by simpa using q
                rw [this] at hn; simp at hn
      | some x => exact ⟨x, rfl⟩
    have h1 : at0 r (r.length - 1) = x := by
      rw [List.getLast?_eq_getElem?] at hx
      exact at0_of hx
    rw [e, at0_out (by omega)] at h1
    exact hr (by rw [hx, ← h1])
  intro r s hr hs e
  have l1 := key hr e
  have l2 := key hs e.symm
  refine List.ext_getElem? fun i => ?_
  by_cases hi : i < r.length
  · rw [of_at0 hi, of_at0 (by omega), e]
  · rw [List.getElem?_eq_none (by omega), List.getElem?_eq_none (by omega)]
theorem leg_of_at0 {m : Int} (hm : 1 ≤ m) {r s : List Int} (h : WayM.Leg m s) (e : at0 r = at0 s) : WayM.Leg m r := by
  have low : ∀ i, 0 ≤ at0 s i ∧ at0 s i ≤ m := fun i => by
    by_cases hi : i < s.length
    · exact h.fig i _ (of_at0 hi)
    · rw [at0_out (by omega)]; omega
  refine ⟨fun k f ek => ?_, fun k ek => ?_⟩
  · have := low k
    rw [← e, at0_of ek] at this
    exact this
  · have hk := (List.getElem?_eq_some_iff.mp ek).1
    have h1 : at0 s (k + 1) = m := by rw [← e]; exact at0_of ek
    have hs : k + 1 < s.length := by
      apply Classical.byContradiction
      intro hn
      rw [at0_out (by omega)] at h1
      omega
    have h2 := at0_of (h.fall k (by rw [of_at0 hs, h1]))
    rw [of_at0 (by omega), e, h2]
theorem fv_of_at0 {m : Int} {r s : List Int} (e : at0 r = at0 s) : WayM.fv m 0 r = WayM.fv m 0 s := by
  have key : ∀ (n : Nat) (r : List Int), r.length ≤ n → WayM.fv m 0 r = WayM.fv m 0 (r ++ List.replicate (n - r.length) 0) := fun n r _ => by
    rw [WayM.fv_app, WayM.fv_zeros]; omega
  have n1 := key (max r.length s.length) r (by omega)
  have n2 := key (max r.length s.length) s (by omega)
  rw [n1, n2]
  congr 1
  refine List.ext_getElem (by simp; omega) fun i h1 h2 => ?_
  have e1 : at0 (r ++ List.replicate (max r.length s.length - r.length) 0) i = at0 (s ++ List.replicate (max r.length s.length - s.length) 0) i := by rw [at0_zeros, at0_zeros, e]
  rwa [at0_of (List.getElem?_eq_getElem h1), at0_of (List.getElem?_eq_getElem h2)] at e1
theorem posL_at0 {r : List Int} {F : Nat → Int} (e : at0 r = F) (h : ∀ i, 0 ≤ F i) : PosL r := fun i => by rw [e]; exact h i
end DD

set_option Elab.async false
set_option linter.all false
set_option maxRecDepth 100000
set_option maxHeartbeats 1000000
namespace DD
open PySem PySem.Spec PyProof.Rows L2
theorem inD_ints (k : Int) (l : List Int) : inD (.int k) (intsD l) = decide (k ∈ l) := by
  unfold inD intsD
  rw [List.any_map]
  induction l with
  | nil => rfl
  | cons a l ih =>
    rw [List.any_cons, ih]
    show ((a == k) || decide (k ∈ l)) = decide (k ∈ a :: l)
    by_cases h : a = k
    · subst h; simp
    · have h2 : ¬ k = a := fun z => h z.symm
      simp [h, h2]
theorem flats_ints (l : List Int) : (intsD l).all flatB = true := by
  unfold intsD
  rw [List.all_map]
  induction l with
  | nil => rfl
  | cons a l ih => rw [List.all_cons, ih]; rfl
theorem rIn_ints {k : Int} {l : List Int} {Q : D → Prop} (q : Q (.bl (decide (k ∈ l)))) : rIn false (.int k) (.tup (intsD l)) Q :=
  ⟨rfl, flats_ints l, by rw [inD_ints]; exact q⟩
theorem ts_zeros (w : WayM) {ts : List Num} (h : ∀ d ∈ ts, w.fits d) : ∀ n : Nat, w.worth (ts ++ List.replicate n (.i 0)) = w.worth ts
  | 0 => by rw [List.replicate_zero, List.append_nil]
  | n + 1 => by
    rw [List.replicate_succ', ← List.append_assoc]
    have hf : ∀ d ∈ ts ++ List.replicate n (Num.i 0), w.fits d := fun d hd => by
      rcases List.mem_append.mp hd with hd | hd
      · exact h d hd
      · rw [List.eq_of_mem_replicate hd]; exact WayM.fits_i w 0
    have hf2 : ∀ d ∈ (ts ++ List.replicate n (Num.i 0)) ++ [Num.i 0], w.fits d := fun d hd => by
      rcases List.mem_append.mp hd with hd | hd
      · exact hf d hd
      · rw [List.mem_singleton.mp hd]; exact WayM.fits_i w 0
    rw [WayM.worth_snoc w hf2, ts_zeros w h n]
    have ip := weight_isP w (ts ++ List.replicate n (Num.i 0)).length
    have wp : (w.worth ts).isP = w.isPairs := WayM.wsum_isP w 0 ts h
    apply Num.ext'
    · rw [Num.add_isP, Num.mul_isP, wp, ip]; simp [Num.isP]
    · rw [Num.add_x, Num.mul_x]; simp [Num.x, Num.y]
    · rw [Num.add_y, Num.mul_y]; simp [Num.x, Num.y]
theorem add_nums {d e : D} {a b : List Num} {Q : D → Prop} (hd : lstT d = some (numsD a)) (he : lstT e = some (numsD b)) (h : a.length + b.length ≤ 1000000) (q : Q (.own (numsD (a ++ b)))) : rAdd d e Q := by
  have s : (numsD a).length + (numsD b).length ≤ sizeLine := by rw [nums_len, nums_len]; exact size_small (by omega)
  rw [numsD_app] at q
  cases d <;> first | (cases hd; done) | skip
  all_goals (cases e <;> first | (cases he; done) | skip)
  all_goals (cases hd; cases he; exact ⟨s, q⟩)
theorem worth_isP {w : WayM} {ts : List Num} (h : ∀ d ∈ ts, w.fits d) : (w.worth ts).isP = w.isPairs := WayM.wsum_isP w 0 ts h
theorem eNeg_int {i : Int} {ρ : Env} {Q : D → Prop} (q : Q (.int (-i))) : eNeg (eC (.int i)) ρ Q := q
theorem eVar_int {i : Nat} {ρ : Env} {z : Int} {Q : D → Prop} (e : ρ[i]? = some (some (.int z))) (q : Q (.int z)) : eVar i ρ Q := by
  unfold eVar; rw [e]; exact q
theorem dSeq_go {t u : TDS} {E : DE} {ρ : Env} (q : t { E with nx := u E } ρ) : dSeq t u E ρ := q
theorem dFrzN_own {i : Nat} {t : TDS} {E : DE} {ρ : Env} {l : List D} (e : ρ[i]? = some (some (.own l))) (q : Nx (t E) (put ρ i (some (.lst l)))) : dFrzN i t E ρ := by
  unfold dFrzN; rw [e]; exact q
theorem dFrzN_lst {i : Nat} {t : TDS} {E : DE} {ρ : Env} {l : List D} (e : ρ[i]? = some (some (.lst l))) (q : t E ρ) : dFrzN i t E ρ := by
  unfold dFrzN; rw [e]; exact q
theorem for_exD {α : Type} {g : TDG} {tb : TDS} {E : DE} {top : Int} {n : Nat} (enc : α → Env) (A : Nat → α → Prop) {a0 : α} (h0 : A 0 a0) (step : ∀ (i : Nat) (a : α) (N : Env → Prop), i < n → A i a → (∀ a' ρ', A (i + 1) a' → Weak ρ' (enc a') → N ρ') → g (.int (top - (i : Nat))) (enc a) fun ρ2 => tb { nx := N, rt := E.rt, bk := E.nx, ct := N } ρ2)
    (done : ∀ a, A n a → E.nx (enc a)) : forR g tb E (downD top n) (enc a0) := by
  refine for_ex enc A h0 (fun i d a N e ha hN => ?_) (by rw [down_len]; exact done)
  have hi : i < n := by
    by_cases hi : i < n
    · exact hi
    · rw [List.getElem?_eq_none (by rw [down_len]; omega)] at e; cases e
  have : d = .int (top - (i : Nat)) := by
    simp only [downD, List.getElem?_map, List.getElem?_range hi, Option.map_some] at e
    exact (Option.some.inj e).symm
  subst this
  exact step i a N hi ha hN
theorem cut_ints2 (row : List Int) {a b : Int} (h : 0 ≤ a ∧ a ≤ b) : ∃ r2 : List Int, cutD (intsD row) (some a) (some b) = intsD r2 ∧ r2.length ≤ row.length ∧ (r2.length : Int) ≤ b - a ∧ ∀ x ∈ r2, x ∈ row := by
  obtain ⟨r2, e, l, m⟩ := cut_ints row (some a) (some b)
  refine ⟨r2, e, l, ?_, m⟩
  have e2 := congrArg List.length e
  rw [ints_len] at e2
  rw [← e2]
  unfold DD.cutD
  rw [List.length_take, List.length_drop]
  obtain ⟨i, rfl⟩ : ∃ i : Nat, a = i := ⟨a.toNat, by omega⟩
  obtain ⟨j, rfl⟩ : ∃ j : Nat, b = j := ⟨b.toNat, by omega⟩
  rw [HT.sIx_nat, HT.sIx_nat]
  omega
/-- what stands behind the first statement, on whatever way: K -/
def dJoin (t u : TDS) : TDS := fun E ρ => ∃ K : Env → Prop, (∀ ρ', K ρ' → u E ρ') ∧ t { E with nx := fun ρ' => ∃ ρ'', Weak ρ' ρ'' ∧ K ρ'' } ρ
theorem jss_join {S : Sit} {st : Stmt} {sts : List Stmt} {t u : TDS} (h1 : JS S st t) (h2 : JSs S sts u) : JSs S (st :: sts) (dJoin t u) := by
  refine ⟨fun G H σ ρ E R ⟨K, hK, h⟩ => WSs.of (pss_cons ps_w pss_w) ?_⟩
  refine (h1.run G H σ ρ _ R h).mono (fun σ' H' ⟨G', ρ', R', sg, ρ2, w, q⟩ => ?_) (fun _ _ q => q) (fun _ _ q => q) fun _ _ q => q
  exact (h2.run G' H' σ' ρ2 E (R'.weak w) (hK ρ2 q)).lift sg
theorem toPs_ints : ∀ r : List Int, toPs (intsD r) = some (r.map PyData.int)
  | [] => rfl
  | a :: r => by
    have ih := toPs_ints r
    show toPs (.int a :: intsD r) = _
    simp [toPs, toP, ih]
theorem eqvAll_ints : ∀ r s : List Int, PyData.eqvAll (r.map PyData.int) (s.map PyData.int) = decide (r = s)
  | [], [] => rfl
  | [], _ :: _ => rfl
  | _ :: _, [] => rfl
  | a :: r, b :: s => by
    have ih := eqvAll_ints r s
    simp [PyData.eqvAll, PyData.eqv, ih]
    by_cases h : a = b <;> simp [h]
theorem rEq_rows {d e : D} {r s : List Int} {neg : Bool} {Q : D → Prop} (hd : lstT d = some (intsD r)) (he : lstT e = some (intsD s)) (q : Q (.bl (if neg then !decide (r = s) else decide (r = s)))) : rEq neg d e Q := by
  have k : ∀ (x : D) (r : List Int), lstT x = some (intsD r) → toP x = some (.list (r.map PyData.int)) ∧ isScal x = false ∧ plainD 1 x = true := fun x r hx => by
    have e1 : toP (.lst (intsD r)) = some (.list (r.map PyData.int)) := by simp [toP, toPs_ints]
    cases x <;> first | (cases hx; exact ⟨e1, rfl, plain_ints 0 r⟩) | cases hx
  have sh : ∀ (x : D), plainD 1 x = true → shapedD x := fun x hx => by
    obtain ⟨p, h1, h2, h3⟩ := plain_toP x 1 hx
    refine ⟨p, h1, ?_⟩
    unfold SeqAt.shaped
    rw [h2, decide_eq_true (by omega)]; rfl
  obtain ⟨a1, a2, a3⟩ := k d r hd
  obtain ⟨b1, b2, b3⟩ := k e s he
  refine rEq_deep (by rw [a2]; rfl) (sh d a3) (sh e b3) ?_
  have : eqD d e = decide (r = s) := by
    unfold eqD
    rw [a1, b1]
    show PyData.eqv (.list _) (.list _) = _
    simp [PyData.eqv, eqvAll_ints]
  rw [this]
  exact q
theorem aCons_go {τ : TD} {t : TDs} {ρ : Env} {Q : List D → Prop} (q : τ ρ fun d => t ρ fun ds => Q (frzO d :: ds)) : aCons τ t ρ Q := q
theorem flatten_rep (x : D) : ∀ n : Nat, (List.replicate n [x]).flatten = List.replicate n x
  | 0 => rfl
  | n + 1 => by rw [List.replicate_succ, List.flatten_cons, flatten_rep x n]; rfl
theorem rep_D {x : D} {k : Int} {Q : D → Prop} (h : 0 ≤ k ∧ k ≤ 5000000) (q : Q (.own (List.replicate k.toNat x))) : rMul (.own [x]) (.int k) Q := by
  show (-(2 ^ 63) ≤ k ∧ k < 2 ^ 63) ∧ ([x] : List D).length * k.toNat ≤ sizeLine ∧ Q (.own (List.replicate k.toNat [x]).flatten)
  refine ⟨⟨by omega, by omega⟩, size_small (by simp; omega), ?_⟩
  rw [flatten_rep]; exact q
/-- [.. for x, y in zip(..)]: of two rows -/
theorem lcP_ints {i j : Nat} {τ : TD} {ρ : Env} (f : Int → Int → Int) (p : Int → Prop) (step : ∀ (x y : Int) (K : D → Prop), p y → K (.int (f x y)) → Nx (fun ρ1 => Nx (fun ρ2 => τ ρ2 K) (put ρ1 j (some (.int y)))) (put ρ i (some (.int x)))) :
    ∀ (a b : List Int) (Q : List D → Prop), (∀ y ∈ b, p y) → Q (intsD (List.zipWith f a b)) → lcRP i j dTrue τ (zipD (intsD a) (intsD b)) ρ Q
  | [], _, Q, _, h => h
  | _ :: _, [], Q, _, h => h
  | x :: a, y :: b, Q, hp, h => by
    have ih := lcP_ints f p step a b
    show lcRP i j dTrue τ (D.tup [.int x, .int y] :: zipD (intsD a) (intsD b)) ρ Q
    refine ⟨_, _, rfl, ?_⟩
    have q := (step x y (fun z => isBor z = false ∧ lcRP i j dTrue τ (zipD (intsD a) (intsD b)) ρ fun ys => Q (frzO z :: ys)) (hp y List.mem_cons_self) ⟨rfl, ih _ (fun z hz => hp z (List.mem_cons_of_mem _ hz)) h⟩).get.get
    exact .of (.of ⟨fun _ => q, fun z => nomatch z⟩)
theorem brbTd {b : Bool} {A B : Prop} (h : b = true) (a : A) : (b = true → A) ∧ (b = false → B) := brbT h a
theorem set_nums (l : List Num) (j : Nat) (x : Int) : (numsD l).set j (frzO (D.int x)) = numsD (l.set j (.i x)) := by
  unfold numsD; rw [List.map_set]; rfl
namespace WayM
theorem has_nonneg {w : WayM} (h : w.ok) (hr : w.hasRatio = true) (hp : w.pos = true) : ∀ (row : List Int) (k : Nat), FigK w k row → 0 ≤ (w.horI k row).x
  | [], k, _ => by cases w <;> exact Int.le_refl _
  | f :: fs, k, hf => by
    have ih := has_nonneg h hr hp fs (k + 1) hf.2
    have hnp : w.isPairs = false := by cases w <;> first | rfl | cases hp
    have ip := horI_isP hr (k + 1) fs
    rw [hnp] at ip
    rw [horI_cons, Num.add_x, Num.mul_x, Num.y0 ip]
    have rr : 0 ≤ (w.ratio k).x ∧ w.low k = 0 := by
      clear ih ip
      cases w with
      | plain b => simp only [WayM.ok] at h; exact ⟨by show 0 ≤ b; omega, rfl⟩
      | grow b => simp only [WayM.ok] at h; exact ⟨by show 0 ≤ b + (k : Int); omega, rfl⟩
      | fall b => cases hr
      | _ => cases hp
    have f0 := hf.1.1
    rw [rr.2] at f0
    have := Int.mul_nonneg rr.1 ih
    show 0 ≤ f + ((w.ratio k).x * (w.horI (k + 1) fs).x - (w.ratio k).y * 0)
    omega
theorem isW_has {w : WayM} (h : w.ok) {row : List Int} (hw : isW w row) : w.has (w.val row) = true := by
  have vp := val_isP w row
  cases hp : w.pos with
  | false =>
    revert vp
    generalize val w row = z
    intro vp
    cases w <;> first | (cases hp; done) | (cases z <;> first | rfl | cases vp)
  | true =>
    have hnp : w.isPairs = false := by cases w <;> first | rfl | cases hp
    rw [has_pos hp, vp, hnp]
    cases hr : w.hasRatio with
    | true =>
      have := has_nonneg h hr hp row 0 hw.figK
      rw [← val_horI hr] at this
      rw [decide_eq_true this]; rfl
    | false =>
      obtain ⟨m, rfl⟩ : ∃ m, w = .fall m := by cases w <;> first | exact ⟨_, rfl⟩ | cases hr
      have := (leg_lt h _ _ (Nat.le_refl _) (isW_fall.mp hw).1).1
      rw [val_fall]
      show (!false && decide (0 ≤ fv m 0 row)) = true
      rw [decide_eq_true this]; rfl
end WayM
end DD

set_option Elab.async false
set_option linter.all false
set_option maxRecDepth 100000
set_option maxHeartbeats 1000000
namespace DD
open PySem PySem.Spec PyProof.Rows L2
/-! ### defs to which a new list is given away -/
def spG (nm : Nm) (i : Nat) (M : MD) : Sp := fun vs H Q E => ∃ (G : Hp) (ds l : List D) (p : Addr) (ws : List V) (P : Out → Prop), Same G H ∧ vs.length = ds.length ∧
  vs[i]? = some (.ref p) ∧ ds[i]? = some (.own l) ∧ H p = some (.lst ws) ∧ G p = none ∧ Reps nm G ws l ∧ (∀ (j : Nat) (d : D), j ≠ i → ds[j]? = some d → ∃ v, vs[j]? = some v ∧ Rep nm G v d) ∧ M ds P ∧
  (∀ (G' H' : Hp) (v : V) (r : D), Ext (del H p) G (del H p) G' H' → RepV nm (del H p) G' H' v r → isBor r = false → P (.ret r) → Q v H') ∧
  (∀ (C : Str) (H' : Hp), Same (del H p) H' → P (.exn C) → E (.ref (nm.ad C)) none H')
def sitG (Γ : Gm) (N : List Str) (qual : Str) (sc : Scope) (f : Addr) (cdv : Value) (A : Around) (outer : List PySem.Env) (s : Shared) (H : Hp) (E : XK) (G0 : Hp) (P : Out → Prop) (p : Addr) : Sit where
  X := cxOf (L2.CX Γ.P Γ.w) Γ.P Γ.w Γ.K Γ.mg Γ.base N qual sc f cdv A outer s H E
  nm := Γ.nm
  G0 := G0
  B := del H p
  ex := fun C _ => P (.exn C)
  kk := Γ.kk
  ww := Γ.ww
theorem Rel.unpin {nm : Nm} {pp : Pin} {G0 B G H : Hp} {σ : L2.St} {ρ : Env} (R : DD.Rel nm G0 B pp G H σ ρ) : DD.Rel nm G0 B {} G H σ ρ := ⟨R.ext, R.len, R.slot, R.apart, fun _ _ z => by rcases z with z | z <;> cases z⟩
theorem fnG {Γ : Gm} {x qual : Str} {st : Stmt} {f : Addr} {fd : FuncData} {N ps : List Str} {k : Nat} {M : MD} (i : Nat) (F : Fun Γ.K x qual st f fd) (Sc : FnScope N ps (defScope st)) (hl : ∀ ds P, M ds P → ds.length = ps.length) (hi : i < ps.length)
    (hb : ∀ (cdv : Value) (A : Around) (outer : List PySem.Env) (s : Shared) (H : Hp) (E : XK) (G0 : Hp) (ds : List D) (P : Out → Prop) (p : Addr),
      JX (sitG Γ N qual (defScope st) f cdv A outer s H E G0 P p) → Room k (sitG Γ N qual (defScope st) f cdv A outer s H E G0 P p).X.A → PassesOwn (model Γ.P Γ.w) (sitG Γ N qual (defScope st) f cdv A outer s H E G0 P p).X.A (sitG Γ N qual (defScope st) f cdv A outer s H E G0 P p).X.env (sitG Γ N qual (defScope st) f cdv A outer s H E G0 P p).X.xe → M ds P →
      ∃ t, JSs (sitG Γ N qual (defScope st) f cdv A outer s H E G0 P p) (defBody st) t ∧ Nx (fun ρ => t { nx := fun _ => P (.ret .non), rt := fun d => P (.ret d) } ρ) (startD N ds)) :
    FnOk Γ.P Γ.w Γ.K Γ.mg Γ.base (L2.CX Γ.P Γ.w) (k + 1) f fd ps (spG Γ.nm i M) := by
  refine F.okX Sc (fun vs H Q E h => ?_) fun cdv A outer s H vs Q E hr hsp => ?_
  · obtain ⟨G, ds, l, p, ws, P, _, hlen, _, _, _, _, _, _, m, _⟩ := h
    rw [hlen]
    exact hl ds P m
  · obtain ⟨G, ds, l, p, ws, P, gh, hlen, hi1, hd1, hp, gp, rs, ho, m, hret, hexn⟩ := hsp
    have jx : JX (sitG Γ N qual (defScope st) f cdv A outer s H E G P p) :=
      ⟨fun cls d _ H' => E cls d H', takes_of rfl rfl rfl rfl, fun G' H' σ ρ C R p => hexn C H' R.bh p⟩
    obtain ⟨t, ht, hq⟩ := hb cdv A outer s H E G ds P p jx hr (passes_of rfl) m
    refine ⟨_, pss_w, (ht.run G H (L2.start N vs) (startD N ds) _ (start_relM gh hlen hi1 hd1 hp gp rs ho).unpin hq.get).mono (fun σ' H' ⟨G', ρ', R', _, q⟩ => ?_) (fun v H' ⟨G', d, x, rv, nb, q⟩ => ?_) (fun _ _ ⟨_, _, _, _, q⟩ => q.elim) (fun _ _ ⟨_, _, _, _, q⟩ => q.elim)⟩
    · exact hret G' H' .non .non R'.ext (.of .non) rfl q
    · exact hret G' H' v d x rv nb q
structure CalG (Γ : Gm) (k : Nat) (x : Str) (n i : Nat) (M : MD) : Prop where
  ex : ∃ (f : Addr) (fd : FuncData) (ps : List Str), ps.length = n ∧ FnOk Γ.P Γ.w Γ.K Γ.mg Γ.base (L2.CX Γ.P Γ.w) k f fd ps (spG Γ.nm i M) ∧ Γ.mg x = some (.ref f) ∧ PySem.W.keepIn Γ.K (.ref f) = true ∧ Binds Γ.K fd ps []
theorem CalG.mono {Γ : Gm} {j k : Nat} {x : Str} {n i : Nat} {M : MD} (h : CalG Γ j x n i M) (l : j ≤ k) : CalG Γ k x n i M := by
  obtain ⟨f, fd, ps, h1, h2, h3⟩ := h.ex
  exact ⟨f, fd, ps, h1, h2.mono l, h3⟩
section
variable {S : Sit} {e0 e1 : Expr} {es : List Expr} {pos p : Pos} {τ τ1 : TD} {t : TDs} {M : MD} {k n : Nat} {x : Str}
def oCallG (ex : TX) (ρ : Env) (ds : List D) (M : MD) (Q : D → Prop) : Prop := M ds fun out => match out with
  | .ret r => Q r
  | .exn C => ex C ρ
/-- f(e0, e1, ..): e1 a new list, given away -/
def eCallG (ex : TX) (M : MD) (τ τ1 : TD) (t : TDs) : TD := fun ρ Q => τ ρ fun d0 => τ1 ρ fun d1 => match d1 with
  | .own l => t ρ fun ds => (frzO d0 :: ds).any isBor = false ∧ oCallG ex ρ (frzO d0 :: .own l :: ds) M fun r => isBor r = false → Q r
  | _ => False
theorem je_callG {Γ : Gm} (jx : JX S) (F : CalG Γ k x n 1 M) (hr : Room k S.X.A) (hg : Gl S.X x) (h0 : JE S e0 τ) (h1 : JE S e1 τ1) (h : JA' S es t) (hdb : (x == ("__debug__" : Str)) = false := by decide)
    (he : starEach (e0 :: e1 :: es) S.X.env = (false, eval e0 S.X.env) :: starEach (e1 :: es) S.X.env := by rfl) (he2 : starEach (e1 :: es) S.X.env = (false, eval e1 S.X.env) :: starEach es S.X.env := by rfl) (hpl : (backTo pos (starEach (e1 :: es) S.X.env)).any (·.1) = false := by rfl) (hG : S.gm = Γ := by rfl) :
    JE S (.Call (.Name x p) (e0 :: e1 :: es) [] pos) (eCallG S.ex M τ τ1 t) := by
  subst hG
  obtain ⟨W, tk, hW⟩ := jx
  obtain ⟨f, fd, ps, _, F, hm, hk, hb⟩ := F.ex
  refine ⟨fun G H σ ρ Q R q => WX.of (pe_callS F hr hg hm hk hb (fun σ => passAt tk σ) (pa_cons pe_w (pa_cons pe_w pa_w he2) he) hdb he hpl) ?_⟩
  refine (h0.run G H σ ρ _ R q).mono fun v0 H1 ⟨G1, d0, x1, r1, q1⟩ => ?_
  obtain ⟨G1', x1', r1'⟩ := r1.frzO x1.gh
  have y1 := x1.trans x1'
  have R1 := R.go y1
  refine (h1.run G1' H1 σ ρ _ R1 q1).mono fun v1 H2 ⟨G2, d1, x2, r2, q2⟩ => ?_
  have y2 := y1.trans (Ext.from y1.h x2)
  cases d1 with
  | own l =>
    obtain ⟨p2, ws, rfl, g1, g2, g3, g4⟩ := r2
    refine (h.run G2 H2 σ ρ _ (R.go y2) q2).mono fun vs H3 ⟨G3, ds, x3, ra, nb, q3⟩ => ?_
    have y3 := y2.trans (Ext.from y2.h x3)
    rw [List.any_cons, Bool.or_eq_false_iff] at nb
    have rs := ra.reps nb.2
    have r0 : Rep S.nm G3 v0 (frzO d0) := by
      have r3 : RepV S.nm H3 G3 H3 v0 (frzO d0) := repV_noOwn ((repV_noOwn (H1 := H2) ((repV_noOwn (H1 := H1) r1' (isOwn_frzO d0)).ext x2) (isOwn_frzO d0)).ext x3) (isOwn_frzO d0)
      have n1 := isOwn_frzO d0
      have n2 := nb.1
      revert r3 n1 n2
      generalize frzO d0 = z
      intro r3 n1 n2
      cases z <;> first | exact r3 | (cases n1; done) | (cases n2; done)
    have g1' : H3 p2 = some (.lst ws) := x3.h _ _ g1
    have g2' : G3 p2 = none := x3.new p2 g2 (by rw [g1]; exact fun z => by cases z)
    have hp : H p2 = none := y1.h.free g3
    have sm : ∀ {H' : Hp}, Same (del H3 p2) H' → Same H H' := fun {H'} s b o eb => s b o (by rw [del_ne (ne_of_none eb hp)]; exact y3.h b o eb)
    show ∃ (G : Hp) (ds l : List D) (p : Addr) (ws : List V) (P : Out → Prop), _
    refine ⟨G3, frzO d0 :: .own l :: ds, l, p2, ws, _, y3.gh, by simp [rs.length], rfl, rfl, g1', g2', g4.mono x3.g, fun i d hi ei => ?_, q3, fun G' H' v r z1 z2 z3 z4 => ?_, fun C H' s pe => ?_⟩
    · match i, hi, ei with
      | 0, _, ei => cases ei; exact ⟨v0, rfl, r0⟩
      | 1, hi, _ => exact absurd rfl hi
      | i + 2, _, ei =>
        obtain ⟨v, h1, h2⟩ := rs.get (i := i) (by simpa using ei)
        exact ⟨v, by simpa using h1, h2⟩
    · refine ⟨G', r, ⟨y3.g.trans z1.g, sm z1.h, z1.gh, fun a ea na => ?_⟩, ?_, z4 z3⟩
      · refine z1.new a (y3.new a ea na) ?_
        rw [del_ne (fun z => na (by rw [z]; exact hp))]
        cases q : H a with
        | none => exact absurd q na
        | some o => rw [y3.h a o q]; exact fun z => by cases z
      · cases r with
        | own l2 =>
          obtain ⟨p4, ws4, rfl, a1, a2, a3, a4⟩ := z2
          refine ⟨p4, ws4, rfl, a1, a2, ?_, a4⟩
          by_cases hpp : p4 = p2
          · rw [hpp]; exact hp
          · rw [del_ne hpp] at a3
            exact y3.h.free a3
        | bor l2 => cases z3
        | _ => exact z2
    · exact hW G H' σ ρ C (R.go (Ext.grow R.gh (sm s))) pe
  | _ => exact q2.elim
end
end DD

set_option Elab.async false
set_option linter.all false
set_option maxRecDepth 100000
set_option maxHeartbeats 1000000
namespace DD
/-! ### rows thing by thing -/
def tbt (a b : List Int) (o : Int) : List Int := (List.range (max a.length b.length)).map fun i => at0 a i + o * at0 b i
theorem tbt_len (a b : List Int) (o : Int) : (tbt a b o).length = max a.length b.length := by unfold tbt; rw [List.length_map, List.length_range]
theorem tbt_at (a b : List Int) (o : Int) (i : Nat) : at0 (tbt a b o) i = at0 a i + o * at0 b i := by
  by_cases hi : i < max a.length b.length
  · refine at0_of ?_
    unfold tbt
    rw [List.getElem?_map, List.getElem?_range hi]; rfl
  · rw [at0_out (by rw [tbt_len]; omega), at0_out (r := a) (by omega), at0_out (r := b) (by omega)]
    omega
namespace WayM
/-- the second part of a row's worth up to a place -/
def vy (w : WayM) (a : List Int) (k : Nat) : Int := (w.val (a.take k)).y
theorem vy_succ {w : WayM} (a : List Int) (k : Nat) : w.vy a (k + 1) = w.vy a k + (w.weight k).y * at0 a k := by
  unfold vy
  by_cases hk : k < a.length
  · have hx := of_at0 hk
    rw [val_take hx, Num.add_y, Num.mul_y]
    simp [Num.x, Num.y]
  · rw [List.take_of_length_le (by omega), List.take_of_length_le (by omega), at0_out (by omega)]
    omega
theorem vy_all {w : WayM} {a : List Int} {n : Nat} (h : a.length ≤ n) : w.vy a n = (w.val a).y := by unfold vy; rw [List.take_of_length_le h]
theorem vx_lin {w : WayM} {a b c : List Int} {o : Int} (h : ∀ i, at0 c i = at0 a i + o * at0 b i) : ∀ k, w.vx c k = w.vx a k + o * w.vx b k ∧ w.vy c k = w.vy a k + o * w.vy b k
  | 0 => by
    have e : ∀ r : List Int, w.vx r 0 = 0 ∧ w.vy r 0 = 0 := fun r => by
      unfold vx vy
      rw [List.take_zero, val_nil, nought_x, nought_y]; exact ⟨rfl, rfl⟩
    rw [(e c).1, (e a).1, (e b).1, (e c).2, (e a).2, (e b).2]
    omega
  | k + 1 => by
    have ih := vx_lin (w := w) h k
    rw [vx_succ, vx_succ, vx_succ, vy_succ, vy_succ, vy_succ, ih.1, ih.2, h k]
    constructor <;> grind
theorem val_lin {w : WayM} {a b c : List Int} {o : Int} (h : ∀ i, at0 c i = at0 a i + o * at0 b i) : (w.val c).x = (w.val a).x + o * (w.val b).x ∧ (w.val c).y = (w.val a).y + o * (w.val b).y := by
  have l := vx_lin (w := w) h (max a.length (max b.length c.length))
  rwa [vx_all (by omega), vx_all (by omega), vx_all (by omega), vy_all (by omega), vy_all (by omega), vy_all (by omega)] at l
/-- a whole number of times -/
def _root_.DD.Num.sc (z : Num) (o : Int) : Num := (Num.i o).mul z
theorem sc_isP (z : Num) (o : Int) : (z.sc o).isP = z.isP := by unfold Num.sc; rw [Num.mul_isP]; simp [Num.isP]
theorem sc_x (z : Num) (o : Int) : (z.sc o).x = o * z.x := by unfold Num.sc; rw [Num.mul_x]; simp [Num.x, Num.y]
theorem sc_y (z : Num) (o : Int) : (z.sc o).y = o * z.y := by unfold Num.sc; rw [Num.mul_y]; simp [Num.x, Num.y]
theorem val_tbt (w : WayM) (a b : List Int) (o : Int) : w.val (tbt a b o) = (w.val a).add ((w.val b).sc o) := by
  have l := val_lin (w := w) (tbt_at a b o)
  apply Num.ext'
  · rw [val_isP, Num.add_isP, sc_isP, val_isP, val_isP]; simp
  · rw [l.1, Num.add_x, sc_x]
  · rw [l.2, Num.add_y, sc_y]
theorem has_add {w : WayM} {a b : Num} (ha : w.has a = true) (hb : w.has b = true) : w.has (a.add b) = true := by
  cases hp : w.pos with
  | true =>
    have h1 := has_x hp ha
    have h2 := has_x hp hb
    have np : w.isPairs = false := by cases w <;> first | rfl | cases hp
    have p1 := (has_isP ha).trans np
    have p2 := (has_isP hb).trans np
    rw [has_pos hp, Num.add_isP, p1, p2, Num.add_x, decide_eq_true (by omega)]; rfl
  | false =>
    have p1 := has_isP ha
    have p2 := has_isP hb
    have p3 : (a.add b).isP = w.isPairs := by rw [Num.add_isP, p1, p2, Bool.or_self]
    revert p3
    generalize a.add b = z
    intro p3
    cases w <;> first | (cases hp; done) | (cases z <;> first | rfl | cases p3)
end WayM
theorem tbt_posL {a b : List Int} {o : Int} (ha : PosL a) (hb : PosL b) (ho : 0 ≤ o) : PosL (tbt a b o) := fun i => by
  rw [tbt_at]
  have := ha i
  have := Int.mul_nonneg ho (hb i)
  omega
theorem tbt_le {a b : List Int} {o c d : Int} (ha : ∀ i, at0 a i ≤ c) (hb : ∀ i, at0 b i ≤ d) (ho : 0 ≤ o) : ∀ x ∈ tbt a b o, x ≤ c + o * d := fun x hx => by
  obtain ⟨i, hi, e⟩ := List.mem_iff_getElem.mp hx
  have e2 := at0_of (List.getElem?_eq_getElem hi)
  rw [e, tbt_at] at e2
  have := ha i
  have := Int.mul_le_mul_of_nonneg_left (hb i) ho
  omega
theorem at0_abs {a : List Int} {n : Nat} (h : ∀ x ∈ a, x.natAbs < 2 ^ n) (i : Nat) : (at0 a i).natAbs < 2 ^ n := by
  by_cases hi : i < a.length
  · exact h _ (List.mem_of_getElem? (of_at0 hi))
  · rw [at0_out (by omega)]; exact Nat.pow_pos (by decide)
theorem tbt_lt {a b : List Int} {o : Int} {n m k : Nat} (ha : ∀ x ∈ a, x.natAbs < 2 ^ n) (hb : ∀ x ∈ b, x.natAbs < 2 ^ m) (ho : o.natAbs < 2 ^ k) : ∀ x ∈ tbt a b o, x.natAbs < 2 ^ (max n (m + k) + 1) := fun x hx => by
  obtain ⟨i, hi, e⟩ := List.mem_iff_getElem.mp hx
  have e2 := at0_of (List.getElem?_eq_getElem hi)
  rw [e, tbt_at] at e2
  have h1 := at0_abs ha i
  have h2 := at0_abs hb i
  have h3 : (o * at0 b i).natAbs < 2 ^ (m + k) := by
    rw [Int.natAbs_mul]
    exact pow_add_le (by omega) ho h2
  have p1 : 2 ^ n ≤ 2 ^ (max n (m + k)) := Nat.pow_le_pow_right (by decide) (by omega)
  have p2 : 2 ^ (m + k) ≤ 2 ^ (max n (m + k)) := Nat.pow_le_pow_right (by decide) (by omega)
  rw [← e2, Nat.pow_succ]
  omega
theorem leg_at {m : Int} (hm : 1 ≤ m) {r : List Int} (h : WayM.Leg m r) (i : Nat) : 0 ≤ at0 r i ∧ at0 r i ≤ m := by
  by_cases hi : i < r.length
  · exact h.fig i _ (of_at0 hi)
  · rw [at0_out (by omega)]; omega
end DD

set_option Elab.async false
set_option linter.all false
set_option maxRecDepth 100000
set_option maxHeartbeats 1000000
namespace DD
open PySem PySem.Spec PyProof.Rows L2
/-! ### range(a, b, 2) -/
def twoD (lo : Int) (n : Nat) : List D := (List.range n).map fun i => .int (lo + (i : Nat) * 2)
theorem two_len (lo : Int) (n : Nat) : (twoD lo n).length = n := by simp [twoD]
theorem two_at {lo : Int} {n j : Nat} {d : D} (h : (twoD lo n)[j]? = some d) : j < n ∧ d = .int (lo + (j : Nat) * 2) := by
  have hj : j < n := by
    have := (List.getElem?_eq_some_iff.mp h).1
    rwa [two_len] at this
  refine ⟨hj, ?_⟩
  simp only [twoD, List.getElem?_map, List.getElem?_range hj, Option.map_some] at h
  exact (Option.some.inj h).symm
theorem gives_two {nm : Nm} {G : Hp} {lo : Int} {n : Nat} : Gives nm G (Itc lo 2 n) (twoD lo n) := by
  refine ⟨n, fun _ => True, YFn fun i => .int (lo + (i : Nat) * 2), by simp [twoD], walk_rangeC, fun _ _ => trivial, fun i x H2 H3 s hi ⟨e1, e2⟩ => ?_⟩
  subst e2
  refine ⟨.int (lo + (i : Nat) * 2), ?_, .inl ⟨e1, .int _⟩⟩
  simp only [twoD, List.getElem?_map, List.getElem?_range hi, Option.map_some]
def twoN (m n : Int) : Nat := if m < n then ((n - m - 1) / 2 + 1).toNat else 0
theorem rg_two {m n : Int} (h : -(2 ^ 60) ≤ m ∧ m < 2 ^ 60 ∧ -(2 ^ 60) ≤ n ∧ n < 2 ^ 60) : RgC m n 2 (twoN m n) := by
  have e : Builtin.Range.rangeSize m n 2 = (twoN m n : Int) := by
    unfold Builtin.Range.rangeSize twoN
    rw [if_pos (by decide)]
    split <;> omega
  refine ⟨by decide, by decide, ?_, e⟩
  unfold Builtin.Range.small
  rw [e]
  have hb : 0 ≤ (twoN m n : Int) ∧ (twoN m n : Int) ≤ 2 ^ 61 + 2 ∧ (m < n → (twoN m n : Int) * 2 ≤ n - m + 1) ∧ (¬ m < n → (twoN m n : Int) = 0) := by
    unfold twoN
    split <;> omega
  clear e
  generalize (twoN m n : Int) = k at *
  simp only [Builtin.Range.rangeFitsLong, Bool.and_eq_true, Bool.or_eq_true, decide_eq_true_eq, beq_iff_eq]
  rw [if_pos (by decide), Bool.and_eq_true, decide_eq_true_eq, decide_eq_true_eq]
  omega
section
variable {S : Sit} {a b c : Expr} {pos : Pos}
def iTwo (t : TDs) : TDI := fun ρ Q => t ρ fun ds => match ds with
  | [.int m, .int n, .int c] => c = 2 ∧ (-(2 ^ 60) ≤ m ∧ m < 2 ^ 60 ∧ -(2 ^ 60) ≤ n ∧ n < 2 ^ 60) ∧ Q (twoD m (twoN m n))
  | _ => False
theorem ji_two {tg : Expr} {t : TDs} {p : Pos} (hg : Gl S.X "range") (hm : S.X.mg "range" = none) (ha : JA' S [a, b, c] t)
    (hs : starEach [a, b, c] S.X.env = (false, eval a S.X.env) :: starEach [b, c] S.X.env := by rfl) (hs2 : (backTo pos (starEach [b, c] S.X.env)).any (·.1) = false := by rfl) :
    JI S tg (.Call (.Name "range" p) [a, b, c] [] pos) (iTwo t) := by
  refine ⟨fun G H σ ρ Q R h => fun pins s I => (pi_range3 hg hm pa_w hs hs2).run pins s σ H _ I ((ha.run G H σ ρ _ R h).mono fun vs H1 ⟨G1, ds, x1, r1, q1⟩ => ?_)⟩
  match ds, r1, q1 with
  | [.int m, .int n, .int k], r1, q1 =>
    cases repA_int3 r1
    obtain ⟨e, b, q⟩ := q1
    subst e
    exact ⟨m, n, 2, _, rfl, rg_two b, G1, _, x1, gives_two, q⟩
end
end DD

set_option Elab.async false
set_option linter.all false
set_option maxRecDepth 100000
set_option maxHeartbeats 1000000
namespace DD
/-! ### products -/
theorem Num.zero_add (z : Num) : (Num.i 0).add z = z := by
  cases z <;> simp [Num.add, Num.x, Num.y]
theorem Num.mul_lt {a b : Num} {n m : Nat} (ha : a.lt n) (hb : b.lt m) : (a.mul b).lt (n + m + 1) := by
  have key : ∀ p q : Int, p.natAbs < 2 ^ n → q.natAbs < 2 ^ m → (p * q).natAbs < 2 ^ (n + m) := fun p q hp hq => by
    rw [Int.natAbs_mul, Nat.pow_add]
    exact Nat.mul_lt_mul'' hp hq
  have h1 := key _ _ ha.1 hb.1
  have h2 := key _ _ ha.2 hb.2
  have h3 := key _ _ ha.1 hb.2
  have h4 := key _ _ ha.2 hb.1
  have e : 2 ^ (n + m + 1) = 2 ^ (n + m) * 2 := Nat.pow_succ ..
  refine ⟨?_, ?_⟩
  · rw [Num.mul_x]; omega
  · rw [Num.mul_y]; omega
namespace WayM
theorem shrink2 {m x y u v : Int} (hm : 1 ≤ m ∧ m ≤ 9) {f : Int} (hf : 0 ≤ f ∧ f ≤ m * m) (ex : x = f - m * u - v) (ey : y = u - m * v) (hN : 4 * (m * m) + 20 ≤ x * x + y * y) : 4 * (u * u + v * v) ≤ 3 * (x * x + y * y) := by
  have e : (u * u + v * v) * (m * m + 1) = (x - f) * (x - f) + y * y := by subst ex ey; grind
  have h3 : f * f ≤ (m * m) * (m * m) := Int.mul_le_mul hf.2 hf.2 hf.1 (sq_nonneg m)
  have h5 : 0 ≤ (m * x + 4 * f) * (m * x + 4 * f) := sq_nonneg _
  have hy0 : 0 ≤ y * y := sq_nonneg y
  have hx0 : 0 ≤ x * x := sq_nonneg x
  have cs : m = 1 ∨ m = 2 ∨ m = 3 ∨ m = 4 ∨ m = 5 ∨ m = 6 ∨ m = 7 ∨ m = 8 ∨ m = 9 := by omega
  have h2 : (x - f) * (x - f) = x * x - 2 * (x * f) + f * f := by grind
  have h6 : (m * x + 4 * f) * (m * x + 4 * f) = (m * m) * (x * x) + 8 * m * (x * f) + 16 * (f * f) := by grind
  rw [h2] at e
  rw [h6] at h5
  clear h2 h6
  generalize u * u + v * v = A at *
  generalize x * x = B at *
  generalize y * y = C at *
  generalize x * f = G at *
  generalize f * f = F at *
  rcases cs with rfl | rfl | rfl | rfl | rfl | rfl | rfl | rfl | rfl <;> omega
theorem ends_pairs2 {m : Int} (hm : 1 ≤ m ∧ m ≤ 9) : ∀ (j k : Nat) (x y : Int), (x * x + y * y) * 3 ^ j < (4 * (m * m) + 20) * 4 ^ j → Ends (.pairs m) (j + 39) k (.p x y)
  | 0, k, x, y, h => by
    have h : x * x + y * y < 4 * (m * m) + 20 := by simpa using h
    refine ends_pairs hm 9 k x y ?_
    generalize x * x + y * y = N at *
    have cs : m = 1 ∨ m = 2 ∨ m = 3 ∨ m = 4 ∨ m = 5 ∨ m = 6 ∨ m = 7 ∨ m = 8 ∨ m = 9 := by omega
    rcases cs with rfl | rfl | rfl | rfl | rfl | rfl | rfl | rfl | rfl <;> omega
  | j + 1, k, x, y, h => by
    by_cases hN : x * x + y * y < 4 * (m * m) + 20
    · exact Ends.mono (w := .pairs m) hm rfl (ends_pairs2 hm 0 k x y (by simpa using hN)) (by omega)
    · have sp := split_pair m (.p x y) k
      have fr := fig_range (w := .pairs m) hm rfl (.p x y) (k := k) (by omega)
      obtain ⟨u, v, ec⟩ : ∃ u v, (pairs m).carry (.p x y) k = .p u v := ⟨_, _, rfl⟩
      show Ends (.pairs m) (j + 39) (k + 1) ((pairs m).carry (.p x y) k)
      rw [ec] at sp ⊢
      have s : 4 * (u * u + v * v) ≤ 3 * (x * x + y * y) := shrink2 hm (show 0 ≤ (pairs m).fig (.p x y) k ∧ (pairs m).fig (.p x y) k ≤ m * m from fr) sp.1 sp.2 (by omega)
      refine ends_pairs2 hm j (k + 1) u v ?_
      rw [Int.pow_succ, Int.pow_succ] at h
      have p : (0 : Int) < 3 ^ j := Int.pow_pos (by omega)
      have a1 := Int.mul_le_mul_of_nonneg_right s (Int.le_of_lt p)
      have e1 : 4 * (u * u + v * v) * 3 ^ j = 4 * ((u * u + v * v) * 3 ^ j) := Int.mul_assoc ..
      have e2 : (x * x + y * y) * (3 ^ j * 3) = 3 * (x * x + y * y) * 3 ^ j := by grind
      have e3 : (4 * (m * m) + 20) * (4 ^ j * 4) = 4 * ((4 * (m * m) + 20) * 4 ^ j) := by grind
      omega
theorem pow_3_4 : ∀ j : Nat, (3 : Int) ^ (3 * j) * 2 ^ j ≤ 4 ^ (3 * j)
  | 0 => by decide
  | j + 1 => by
    have ih := pow_3_4 j
    have e1 : (3 : Int) ^ (3 * (j + 1)) = 3 ^ (3 * j) * 3 ^ 3 := by rw [← Int.pow_add]; congr 1
    have e2 : (4 : Int) ^ (3 * (j + 1)) = 4 ^ (3 * j) * 4 ^ 3 := by rw [← Int.pow_add]; congr 1
    have e4 : (2 : Int) ^ (j + 1) = 2 ^ j * 2 := Int.pow_succ ..
    rw [e1, e2, e4]
    have p : (0 : Int) < 4 ^ (3 * j) := Int.pow_pos (by omega)
    have e3 : (3 : Int) ^ (3 * j) * 3 ^ 3 * (2 ^ j * 2) = (3 ^ (3 * j) * 2 ^ j) * (3 ^ 3 * 2) := by grind
    rw [e3]
    exact Int.mul_le_mul ih (by decide) (by decide) (Int.le_of_lt p)
theorem ends_lt2 {w : WayM} (h : w.ok) (hr : w.hasRatio = true) {z : Num} (hz : z.isP = w.isPairs) (hh : w.has z = true) {n : Nat} (l : z.lt n) (k : Nat) : Ends w (6 * n + 45) k z := by
  have lx : -(2 ^ n) < z.x ∧ z.x < 2 ^ n := by
    have h1 := l.1
    have e : ((2 ^ n : Nat) : Int) = 2 ^ n := by simp
    omega
  cases w with
  | fall m => cases hr
  | plain b =>
    have hh : 0 ≤ z.x := has_x (w := .plain b) rfl hh
    rw [Num.eq_i hz]
    exact Ends.mono (w := .plain b) h rfl (ends_plain h.1 n k _ hh lx.2) (by omega)
  | grow b =>
    have hh : 0 ≤ z.x := has_x (w := .grow b) rfl hh
    rw [Num.eq_i hz]
    exact Ends.mono (w := .grow b) h rfl (ends_grow h.1 n k _ hh lx.2) (by omega)
  | bal b =>
    rw [Num.eq_i hz]
    exact Ends.mono (w := .bal b) h rfl (ends_bal h.1 n k _ lx.1 lx.2) (by omega)
  | below b =>
    rw [Num.eq_i hz]
    exact Ends.mono (w := .below b) h rfl (ends_below h.1 h.2 n k _ (Int.le_of_lt lx.1) (Int.le_of_lt lx.2)) (by omega)
  | pairs m =>
    rw [Num.eq_p hz]
    refine Ends.mono (w := .pairs m) h rfl (ends_pairs2 h (3 * (2 * n + 1)) k _ _ ?_) (by omega)
    have a1 := natAbs_sq l.1
    have a2 := natAbs_sq l.2
    have e : (2 : Int) ^ (2 * n + 1) = 2 ^ (2 * n) * 2 := Int.pow_succ ..
    have p15 : (0 : Int) < 3 ^ (3 * (2 * n + 1)) := Int.pow_pos (by omega)
    have p16 : (0 : Int) < 4 ^ (3 * (2 * n + 1)) := Int.pow_pos (by omega)
    have q := pow_3_4 (2 * n + 1)
    have s1 := Int.mul_lt_mul_of_pos_right (show z.x * z.x + z.y * z.y < 2 ^ (2 * n + 1) by omega) p15
    have c1 : 2 ^ (2 * n + 1) * 3 ^ (3 * (2 * n + 1)) = (3 : Int) ^ (3 * (2 * n + 1)) * 2 ^ (2 * n + 1) := Int.mul_comm ..
    have m0 : 0 ≤ m * m := sq_nonneg m
    have s2 : 1 * 4 ^ (3 * (2 * n + 1)) ≤ (4 * (m * m) + 20) * 4 ^ (3 * (2 * n + 1)) := Int.mul_le_mul_of_nonneg_right (by omega) (Int.le_of_lt p16)
    omega
/-- how long a writing is, by its number -/
theorem len_val {w : WayM} (ok : w.ok) {r : List Int} (h : w.isW r) (hr : w.hasRatio = true) (hh : w.has (w.val r) = true) {n : Nat} (l : (w.val r).lt n) : r.length ≤ 6 * n + 45 := by
  obtain ⟨row, h1, h2, h3, h4⟩ := exists_hor ok hr _ 0 _ (has_isP hh) (ends_lt2 ok hr (has_isP hh) hh l 0)
  have hw : w.isW row := ⟨fun k f e => by simpa using figK_iff.mp h1 k f e, h2, fun hf => by rw [isFall_hasRatio, hr] at hf; cases hf⟩
  rw [writ_only ok h hw (by rw [val_horI hr row, h4])]
  exact h3
theorem fallW_mono {m : Int} (hm : 1 ≤ m ∧ m ≤ 9) {j k : Nat} (h : j ≤ k) : (fallW m j).1 ≤ (fallW m k).1 := by
  obtain ⟨d, rfl⟩ : ∃ d, k = j + d := ⟨k - j, by omega⟩
  clear h
  induction d with
  | zero => exact Int.le_refl _
  | succ d ih => exact Int.le_trans ih (fall_pos hm (j + d + 1)).2.2
theorem fallW_two (m : Int) (k : Nat) : (fallW m (k + 2)).1 = m * (fallW m (k + 1)).1 + (fallW m k).1 := rfl
theorem fallW_mul {m : Int} (hm : 1 ≤ m ∧ m ≤ 9) (i : Nat) : ∀ j : Nat, (fallW m i).1 * (fallW m j).1 ≤ (fallW m (i + j + 1)).1
  | 0 => by
    show (fallW m i).1 * 1 ≤ _
    have := fallW_mono hm (show i ≤ i + 0 + 1 by omega)
    omega
  | 1 => by
    show (fallW m i).1 * (m * 1 + 1) ≤ (fallW m (i + 2)).1
    rw [fallW_two]
    have := fallW_mono hm (show i ≤ i + 1 by omega)
    have := Int.mul_le_mul_of_nonneg_left this (show 0 ≤ m by omega)
    have e : (fallW m i).1 * (m * 1 + 1) = m * (fallW m i).1 + (fallW m i).1 := by rw [Int.mul_one, Int.mul_add, Int.mul_one, Int.mul_comm]
    omega
  | j + 2 => by
    have a := fallW_mul hm i (j + 1)
    have b := fallW_mul hm i j
    have e1 := fallW_two m j
    have e2 := fallW_two m (i + j + 1)
    rw [show i + (j + 2) + 1 = i + j + 1 + 2 by omega, e1, e2, Int.mul_add, ← Int.mul_assoc, Int.mul_comm _ m, Int.mul_assoc]
    have := Int.mul_le_mul_of_nonneg_left a (show 0 ≤ m by omega)
    rw [show i + (j + 1) + 1 = i + j + 1 + 1 by omega] at this
    omega
/-- a Falling writing below a weight is no longer than its place -/
theorem fall_short {m : Int} (hm : 1 ≤ m ∧ m ≤ 9) {r : List Int} (h : isW (.fall m) r) {n : Nat} (l : fv m 0 r < (fallW m n).1) : r.length ≤ n := by
  by_cases c : r.length ≤ n
  · exact c
  · have := (fall_len hm h).2 n (by omega)
    omega
theorem fall_prod_len {m : Int} (hm : 1 ≤ m ∧ m ≤ 9) {a b r : List Int} (ha : isW (.fall m) a) (hb : isW (.fall m) b) (hr : isW (.fall m) r) (e : fv m 0 r = fv m 0 a * fv m 0 b) (na : 0 ≤ fv m 0 a) (nb : 0 ≤ fv m 0 b) : r.length ≤ a.length + b.length + 1 := by
  have h1 := (fall_len hm ha).1
  have h2 := (fall_len hm hb).1
  have h3 := fallW_mul hm a.length b.length
  have p := fall_pos hm b.length
  refine fall_short hm hr ?_
  rw [e]
  have h4 := Int.mul_le_mul_of_nonneg_left (Int.le_of_lt h2) na
  have h5 := Int.mul_lt_mul_of_pos_right h1 (show 0 < (fallW m b.length).1 by omega)
  omega
/-- weight times a writing -/
theorem fall_row_len {m : Int} (hm : 1 ≤ m ∧ m ≤ 9) {a r : List Int} (ha : isW (.fall m) a) (hr : isW (.fall m) r) {j : Nat} (e : fv m 0 r = fv m 0 a * (fallW m j).1) : r.length ≤ a.length + j + 1 := by
  have h1 := (fall_len hm ha).1
  have h3 := fallW_mul hm a.length j
  have p := fall_pos hm j
  refine fall_short hm hr ?_
  rw [e]
  have h5 := Int.mul_lt_mul_of_pos_right h1 (show 0 < (fallW m j).1 by omega)
  omega
/-- one ratio at all places -/
def one (w : WayM) : Bool := match w with
  | .grow _ | .fall _ => false
  | _ => true
theorem one_ratio {w : WayM} (h : w.one = true) (k : Int) : w.ratio k = w.ratio 0 := by cases w <;> first | rfl | cases h
theorem one_hasRatio {w : WayM} (h : w.one = true) : w.hasRatio = true := by cases w <;> first | rfl | cases h
theorem horI_one {w : WayM} (h : w.one = true) : ∀ (row : List Int) (k : Nat), w.horI k row = w.horI 0 row
  | [], k => rfl
  | f :: fs, k => by
    rw [horI_cons, horI_cons, one_ratio h, horI_one h fs (k + 1), horI_one h fs (0 + 1)]
    rfl
theorem val_cons0 {w : WayM} (h : w.one = true) (row : List Int) : w.val (0 :: row) = (w.ratio 0).mul (w.val row) := by
  have hr := one_hasRatio h
  rw [val_horI hr, val_horI hr, horI_cons, horI_one h]
  exact Num.zero_add _
end WayM
end DD

set_option linter.all false
set_option maxRecDepth 100000
namespace DD
open WayM
/-! ### a weight taken from a Falling writing -/
theorem fv_set {m : Int} {h : List Int} {j : Nat} {x : Int} (hx : h[j]? = some x) (y : Int) : fv m 0 (h.set j y) = fv m 0 h + (fallW m j).1 * (y - x) := by
  have e : h.set j y = addAt h j (y - x) := by unfold addAt; rw [at0_of hx]; congr 1; omega
  rw [e, ← lin_fv, ← lin_fv]
  exact lin_addAt _ _ (List.getElem?_eq_some_iff.mp hx).1
theorem leg_set {m : Int} {r : List Int} {j : Nat} {y : Int} (h : Leg m r) (hy : 0 ≤ y ∧ y ≤ m) (h1 : y = m → ∀ i, j = i + 1 → r[i]? = some 0) (h2 : r[j + 1]? = some m → y = 0) : Leg m (r.set j y) := by
  refine ⟨fun k f e => ?_, fun k e => ?_⟩
  · by_cases hk : j = k
    · subst hk
      have hl : j < r.length := by
        have := (List.getElem?_eq_some_iff.mp e).1
        rwa [List.length_set] at this
      rw [List.getElem?_set_self hl] at e
      cases e
      exact hy
    · rw [List.getElem?_set_ne hk] at e
      exact h.fig k f e
  · have hl : k + 1 < r.length := by
      have := (List.getElem?_eq_some_iff.mp e).1
      rwa [List.length_set] at this
    by_cases hk : j = k + 1
    · subst hk
      rw [List.getElem?_set_self hl] at e
      rw [List.getElem?_set_ne (by omega)]
      exact h1 (Option.some.inj e) k rfl
    · rw [List.getElem?_set_ne hk] at e
      by_cases hk2 : j = k
      · subst hk2
        rw [List.getElem?_set_self (by omega), h2 e]
      · rw [List.getElem?_set_ne hk2]
        exact h.fall k e
/-- a weight is still to be taken: the one of place h; nothing between -/
structure TakeSt (m : Int) (place : Nat) (l : List Int) (r : List Int) (h : Nat) : Prop where
  len : r.length = l.length
  val : fv m 0 r + (fallW m h).1 = fv m 0 l
  leg : Leg m r
  zero : ∀ j, place ≤ j → j < h → r[j]? = some 0
  here : r[h]? ≠ some m
  ph : place ≤ h ∧ h < l.length
theorem take_one {m : Int} {l : List Int} {k : Nat} {x : Int} (hl : Leg m l) (hx : l[k]? = some x) (hp : 0 < x) : Leg m (l.set k (x - 1)) ∧ fv m 0 (l.set k (x - 1)) + (fallW m k).1 = fv m 0 l := by
  have f := hl.fig k x hx
  refine ⟨leg_set hl (by omega) (fun z => absurd z (by omega)) fun e => ?_, ?_⟩
  · have := hl.fall k e
    rw [hx] at this
    have := Option.some.inj this
    omega
  · rw [fv_set hx, show x - 1 - x = -1 by omega]
    omega
theorem take_start {m : Int} {l : List Int} {place k : Nat} {x : Int} (hl : Leg m l) (hk : place < k) (hx : l[k]? = some x) (hp : x ≠ 0) (hz : ∀ j, place ≤ j → j < k → l[j]? = some 0) : TakeSt m place l (l.set k (x - 1)) k := by
  have f := hl.fig k x hx
  have lk := (List.getElem?_eq_some_iff.mp hx).1
  have t := take_one hl hx (by omega)
  refine ⟨List.length_set, t.2, t.1, fun j h1 h2 => ?_, ?_, by omega, lk⟩
  · rw [List.getElem?_set_ne (by omega)]; exact hz j h1 h2
  · rw [List.getElem?_set_self lk]
    intro e
    have := Option.some.inj e
    omega
theorem take_step {m : Int} (hm : 1 ≤ m ∧ m ≤ 9) {l r : List Int} {place h : Nat} (s : TakeSt m place l r h) (hh : place + 1 < h) : TakeSt m place l (r.set (h - 1) m) (h - 2) := by
  obtain ⟨h0, rfl⟩ : ∃ h0, h = h0 + 2 := ⟨h - 2, by omega⟩
  have e1 : h0 + 2 - 1 = h0 + 1 := by omega
  have e2 : h0 + 2 - 2 = h0 := by omega
  rw [e1, e2]
  have z1 := s.zero (h0 + 1) (by omega) (by omega)
  have z0 := s.zero h0 (by omega) (by omega)
  have ph := s.ph
  refine ⟨by rw [List.length_set]; exact s.len, ?_, leg_set s.leg (by omega) (fun _ i e => by cases e; exact z0) (fun e => absurd e s.here), fun j j1 j2 => ?_, ?_, by omega, by omega⟩
  · rw [fv_set z1]
    have v := s.val
    have t := fallW_two m h0
    rw [t] at v
    grind
  · rw [List.getElem?_set_ne (by omega)]; exact s.zero j j1 (by omega)
  · rw [List.getElem?_set_ne (by omega), z0]
    intro e
    have := Option.some.inj e
    omega
/-- the last one: place itself -/
theorem take_end {m : Int} {l r : List Int} {place : Nat} (s : TakeSt m place l r place) : Leg m r ∧ r.length = l.length ∧ fv m 0 r + (fallW m place).1 = fv m 0 l := ⟨s.leg, s.len, s.val⟩
/-- one above, place 0 -/
theorem take_end0 {m : Int} (hm : 1 ≤ m ∧ m ≤ 9) {l r : List Int} (s : TakeSt m 0 l r 1) : Leg m (r.set 0 m) ∧ (r.set 0 m).length = l.length ∧ fv m 0 (r.set 0 m) + (fallW m 0).1 = fv m 0 l := by
  have z0 := s.zero 0 (by omega) (by omega)
  refine ⟨leg_set s.leg (by omega) (fun _ i e => by cases e) fun e => absurd e s.here, by rw [List.length_set]; exact s.len, ?_⟩
  rw [fv_set z0]
  have v := s.val
  have e1 : (fallW m 1).1 = m * (fallW m 0).1 + (fallW m 0).2 := rfl
  have e2 : (fallW m 0).1 = 1 := rfl
  have e3 : (fallW m 0).2 = 1 := rfl
  rw [e1, e2, e3] at v
  rw [e2]
  omega
/-- one above, place from 1 on -/
theorem take_end1 {m : Int} (hm : 1 ≤ m ∧ m ≤ 9) {l r : List Int} {p : Nat} {x : Int} (s : TakeSt m (p + 1) l r (p + 2)) (hx : r[p]? = some x) :
    PosL ((r.set (p + 1) (m - 1)).set p (x + 1)) ∧ (∀ y ∈ (r.set (p + 1) (m - 1)).set p (x + 1), y ≤ m + 1) ∧ ((r.set (p + 1) (m - 1)).set p (x + 1)).length = l.length ∧ fv m 0 ((r.set (p + 1) (m - 1)).set p (x + 1)) + (fallW m (p + 1)).1 = fv m 0 l := by
  have z1 := s.zero (p + 1) (by omega) (by omega)
  have f := s.leg.fig p x hx
  have all : ∀ y ∈ (r.set (p + 1) (m - 1)).set p (x + 1), 0 ≤ y ∧ y ≤ m + 1 := fun y hy => by
    rcases List.mem_or_eq_of_mem_set hy with hy | rfl
    · rcases List.mem_or_eq_of_mem_set hy with hy | rfl
      · obtain ⟨i, hi, e⟩ := List.mem_iff_getElem.mp hy
        have := s.leg.fig i y (by rw [List.getElem?_eq_getElem hi, e])
        omega
      · omega
    · omega
  refine ⟨PosL.of fun y hy => (all y hy).1, fun y hy => (all y hy).2, by rw [List.length_set, List.length_set]; exact s.len, ?_⟩
  rw [fv_set (x := x) (by rw [List.getElem?_set_ne (by omega)]; exact hx), fv_set z1]
  have v := s.val
  have t := fallW_two m p
  rw [t] at v
  grind
theorem fv_at0 {m : Int} {r s : List Int} (e : at0 r = at0 s) : fv m 0 r = fv m 0 s := fv_of_at0 e
/-- nothing at a place and above: worth less than its weight -/
theorem take_less {m : Int} (hm : 1 ≤ m ∧ m ≤ 9) {l : List Int} {k : Nat} (hl : Leg m l) (hz : ∀ j x, k ≤ j → l[j]? = some x → x = 0) : fv m 0 l < (fallW m k).1 := by
  have e : at0 l = at0 (l.take k) := by
    funext i
    by_cases hi : i < l.length
    · have hx : l[i]? = some l[i] := List.getElem?_eq_getElem hi
      by_cases hk : i < k
      · rw [at0_of hx, at0_of (x := l[i]) (by rw [List.getElem?_take, if_pos hk]; exact hx)]
      · rw [at0_of hx, at0_out (r := l.take k) (by rw [List.length_take]; omega), hz i _ (by omega) hx]
    · rw [at0_out (r := l) (by omega), at0_out (r := l.take k) (by rw [List.length_take]; omega)]
  have lt : Leg m (l.take k) := Leg.pre (b := l.drop k) (by rw [List.take_append_drop]; exact hl)
  have h1 := (leg_lt hm _ _ (Nat.le_refl _) lt).2
  have h2 := fallW_mono hm (j := (l.take k).length) (k := k) (by rw [List.length_take]; omega)
  rw [fv_at0 e]
  omega
theorem fv_take {m : Int} {l : List Int} {k : Nat} {x : Int} (h : l[k]? = some x) : fv m 0 (l.take (k + 1)) = fv m 0 (l.take k) + (fallW m k).1 * x := by
  have hk := (List.getElem?_eq_some_iff.mp h).1
  rw [WayM.take_snoc h, fv_app, List.length_take, show 0 + min k l.length = k by omega]
  show _ + ((fallW m k).1 * x + 0) = _
  omega
theorem leg_take {m : Int} {l : List Int} (h : Leg m l) (k : Nat) : Leg m (l.take k) := Leg.pre (b := l.drop k) (by rw [List.take_append_drop]; exact h)
theorem leg_nonneg {m : Int} (hm : 1 ≤ m ∧ m ≤ 9) {l : List Int} (h : Leg m l) : 0 ≤ fv m 0 l := (leg_lt hm _ _ (Nat.le_refl _) h).1
theorem leg_pos {m : Int} {l : List Int} (h : Leg m l) : PosL l := PosL.of fun y hy => by
  obtain ⟨i, hi, e⟩ := List.mem_iff_getElem.mp hy
  exact (h.fig i y (by rw [List.getElem?_eq_getElem hi, e])).1
theorem mu_small {m : Int} (hm : 1 ≤ m ∧ m ≤ 9) {l : List Int} (hp : ∀ y ∈ l, y ≤ m + 1) (hl : l.length ≤ 200) : (l.length : Int) + mu l ≤ 1000000 := by
  have h1 := mu_le (b := 10) (by decide) (fun x hx => by have := hp x hx; omega : ∀ x ∈ l, x ≤ 10)
  have h2 : (l.length : Int) ≤ 200 := by omega
  have h3 : ((l.length : Int) + 4) * 10 ≤ 204 * 10 := by omega
  have h4 := Int.mul_le_mul_of_nonneg_left h3 (show (0 : Int) ≤ l.length by omega)
  have h5 := Int.mul_le_mul_of_nonneg_right h2 (show (0 : Int) ≤ 204 * 10 by decide)
  omega
/-! ### shares -/
theorem share_step {w : WayM} (hr : w.hasRatio = true) (hP : w.isPairs = false) {row q : List Int} {p : Nat} {x n rest : Int} (hx : row[p]? = some x) (e : (w.horI (p + 1) (row.drop (p + 1))).x = n * (w.horI (p + 1) q).x + rest) :
    (w.horI p (row.drop p)).x = n * (w.horI p (((rest * (w.ratio p).x + x) / n) :: q)).x + (rest * (w.ratio p).x + x) % n := by
  have hp := (List.getElem?_eq_some_iff.mp hx).1
  have e0 : row[p] = x := (List.getElem?_eq_some_iff.mp hx).2
  have y1 : (w.horI (p + 1) (row.drop (p + 1))).y = 0 := Num.y0 ((horI_isP hr _ _).trans hP)
  have y2 : (w.horI (p + 1) q).y = 0 := Num.y0 ((horI_isP hr _ _).trans hP)
  rw [List.drop_eq_getElem_cons hp, e0, horI_cons, horI_cons, Num.add_x, Num.add_x, Num.mul_x, Num.mul_x, y1, y2, e]
  have d := Int.mul_ediv_add_emod (rest * (w.ratio p).x + x) n
  have ex : (Num.i x).x = x := rfl
  have eo : ∀ o : Int, (Num.i o).x = o := fun _ => rfl
  rw [ex, eo]
  generalize (w.ratio p).x = R at *
  generalize (w.horI (p + 1) q).x = H at *
  generalize (rest * R + x) / n = o at *
  generalize (rest * R + x) % n = s at *
  grind
theorem share_bound {R x n rest : Int} (hn : 1 ≤ n) (h : 0 ≤ rest ∧ rest < n) (hR : R.natAbs < 2 ^ 16) (hx : x.natAbs < 2 ^ 16) : ((rest * R + x) / n).natAbs < 2 ^ 17 := by
  have hR2 : -65536 < R ∧ R < 65536 := by omega
  have a1 := Int.mul_le_mul_of_nonneg_left (show R ≤ 65535 by omega) h.1
  have a2 := Int.mul_le_mul_of_nonneg_left (show -65535 ≤ R by omega) h.1
  have u : (rest * R + x) / n < 131072 := Int.ediv_lt_of_lt_mul (by omega) (by omega)
  have l : -131071 ≤ (rest * R + x) / n := Int.le_ediv_of_mul_le (by omega) (by omega)
  omega
theorem share_nonneg {R x n rest : Int} (hn : 1 ≤ n) (h : 0 ≤ rest) (hR : 0 ≤ R) (hx : 0 ≤ x) : 0 ≤ (rest * R + x) / n := by
  have := Int.mul_nonneg h hR
  exact Int.ediv_nonneg (by omega) (by omega)
theorem pos_ratio {w : WayM} (ok : w.ok) (h : w.pos = true) (hF : w.isFall = false) (k : Nat) : 0 ≤ (w.ratio k).x := by
  cases w <;> first | (cases h; done) | (cases hF; done) | (simp only [WayM.ok] at ok; simp only [ratio, Num.x]; omega)
theorem pos_horI {w : WayM} (ok : w.ok) (h : w.pos = true) (hF : w.isFall = false) : ∀ (r : List Int) (k : Nat), (∀ x ∈ r, 0 ≤ x) → 0 ≤ (w.horI k r).x
  | [], k, _ => by cases w <;> exact Int.le_refl _
  | f :: fs, k, hf => by
    have hr : w.hasRatio = true := by rw [isFall_hasRatio] at hF; simpa using hF
    have hP : w.isPairs = false := by cases w <;> first | rfl | cases h
    have ih := pos_horI ok h hF fs (k + 1) fun x hx => hf x (List.mem_cons_of_mem _ hx)
    have y2 : (w.horI (k + 1) fs).y = 0 := Num.y0 ((horI_isP hr _ _).trans hP)
    have f0 := hf f List.mem_cons_self
    rw [horI_cons, Num.add_x, Num.mul_x, y2]
    have := Int.mul_nonneg (pos_ratio ok h hF k) ih
    simp only [Num.x] at *
    omega
theorem has_ints {w : WayM} (hP : w.isPairs = false) {z : Num} (hz : z.isP = false) (h : w.pos = true → 0 ≤ z.x) : w.has z = true := by
  cases hp : w.pos with
  | true => rw [has_pos hp, hz, decide_eq_true (h hp)]; rfl
  | false => cases w <;> first | (cases hp; done) | (cases hP; done) | (cases z <;> first | rfl | cases hz)
/-- Falling: what is left at a place comes to the two beneath -/
theorem fall_share {m : Int} {row q : List Int} {p : Nat} {x n here beneath : Int} (hx : row[p + 1]? = some x)
    (e : fv m 0 (row.take (p + 2)) + here * (fallW m (p + 1)).1 + beneath * (fallW m (p + 1)).2 + n * fv m (p + 2) q = fv m 0 row) :
    fv m 0 (row.take (p + 1)) + (beneath + m * ((here + x) % n)) * (fallW m p).1 + ((here + x) % n) * (fallW m p).2 + n * fv m (p + 1) (((here + x) / n) :: q) = fv m 0 row := by
  have tk := fv_take (m := m) hx
  have e1 : (fallW m (p + 1)).1 = m * (fallW m p).1 + (fallW m p).2 := rfl
  have e2 : (fallW m (p + 1)).2 = (fallW m p).1 := rfl
  have e3 : fv m (p + 1) (((here + x) / n) :: q) = (fallW m (p + 1)).1 * ((here + x) / n) + fv m (p + 2) q := rfl
  have d := Int.mul_ediv_add_emod (here + x) n
  have e4 : fv m 0 (row.take (p + 2)) = fv m 0 (row.take (p + 1)) + (fallW m (p + 1)).1 * x := tk
  rw [e4, e1, e2] at e
  rw [e3, e1]
  generalize (here + x) / n = o at *
  generalize (here + x) % n = s at *
  generalize (fallW m p).1 = W at *
  generalize (fallW m p).2 = U at *
  generalize fv m (p + 2) q = F at *
  generalize fv m 0 (row.take (p + 1)) = T at *
  clear e1 e2 e3 e4 tk hx
  rw [← e]
  have hxx : x = n * o + s - here := by omega
  subst hxx
  grind
end DD

set_option linter.all false
set_option maxRecDepth 100000
namespace DD
namespace WayM
theorem mul_nought {w : WayM} {a : Num} (h : a.isP = w.isPairs) : a.mul w.nought = w.nought := by
  apply Num.ext'
  · rw [Num.mul_isP, nought_isP, h]; simp
  · rw [Num.mul_x, nought_x, nought_y]; omega
  · rw [Num.mul_y, nought_x, nought_y]; omega
theorem pos_isP {w : WayM} (h : w.pos = true) : w.isPairs = false := by cases w <;> first | rfl | cases h
theorem pos_low {w : WayM} (h : w.pos = true) (k : Int) : w.low k = 0 := by cases w <;> first | rfl | cases h
theorem weight_nonneg {w : WayM} (ok : w.ok) (h : w.pos = true) : ∀ k : Nat, 0 ≤ (w.weight k).x
  | 0 => by cases w <;> first | exact (by decide : (0 : Int) ≤ 1) | cases h
  | k + 1 => by
    cases hF : w.isFall with
    | true =>
      obtain ⟨m, rfl⟩ : ∃ m, w = .fall m := by cases w <;> first | exact ⟨_, rfl⟩ | cases hF
      rw [weight_fall]
      have := (fall_pos ok (k + 1)).1
      show 0 ≤ (fallW m (k + 1)).1
      omega
    | false =>
      rw [weight_succ hF]
      have ih := weight_nonneg ok h k
      have wp : (w.weight k).y = 0 := Num.y0 ((weight_isP w k).trans (pos_isP h))
      rw [Num.mul_x, wp]
      have : 0 ≤ (w.ratio k).x := pos_ratio ok h hF k
      have := Int.mul_nonneg ih this
      omega
theorem pos_prefix {w : WayM} (ok : w.ok) (h : w.pos = true) {b : List Int} (hb : w.isW b) (i : Nat) : ∀ k : Nat, (w.val (b.take i)).x ≤ (w.val (b.take (i + k))).x
  | 0 => Int.le_refl _
  | k + 1 => by
    have ih := pos_prefix ok h hb i k
    by_cases hk : i + k < b.length
    · have e : b[i + k]? = some b[i + k] := List.getElem?_eq_getElem hk
      have hf := hb.fig (i + k) _ e
      rw [pos_low h] at hf
      have vt := val_take (w := w) e
      have := Int.mul_nonneg (weight_nonneg ok h (i + k)) hf.1
      have wy : (w.weight (i + k)).y = 0 := Num.y0 ((weight_isP w (i + k)).trans (pos_isP h))
      rw [show i + (k + 1) = i + k + 1 from rfl, vt, Num.add_x, Num.mul_x, wy]
      simp only [Num.x] at *
      omega
    · rw [List.take_of_length_le (show b.length ≤ i + (k + 1) by omega)]
      rw [List.take_of_length_le (show b.length ≤ i + k by omega)] at ih
      exact ih
theorem pos_take {w : WayM} (ok : w.ok) (h : w.pos = true) {b : List Int} (hb : w.isW b) (i : Nat) : 0 ≤ (w.val (b.take i)).x ∧ (w.val (b.take i)).x ≤ (w.val b).x := by
  have h0 := pos_prefix ok h hb 0 i
  have h1 := pos_prefix ok h hb i b.length
  rw [List.take_of_length_le (show b.length ≤ i + b.length by omega)] at h1
  rw [List.take_zero, val_nil, nought_x, Nat.zero_add] at h0
  exact ⟨h0, h1⟩
/-- the way has what is worth a product's begin -/
theorem has_prod {w : WayM} (ok : w.ok) {a b : List Int} (ha : w.isW a) (hb : w.isW b) (i : Nat) : w.has ((w.val a).mul (w.val (b.take i))) = true := by
  have pa := val_isP w a
  have pb := val_isP w (b.take i)
  have p3 : ((w.val a).mul (w.val (b.take i))).isP = w.isPairs := by rw [Num.mul_isP, pa, pb, Bool.or_self]
  cases hp : w.pos with
  | true =>
    have h1 := pos_take ok hp ha a.length
    rw [List.take_length] at h1
    have h2 := pos_take ok hp hb i
    have y0 : (w.val a).y = 0 := Num.y0 (pa.trans (pos_isP hp))
    have := Int.mul_nonneg h1.1 h2.1
    rw [has_pos hp, p3, pos_isP hp, Num.mul_x, y0, decide_eq_true (by omega)]; rfl
  | false =>
    revert p3
    generalize (w.val a).mul (w.val (b.take i)) = z
    intro p3
    cases w <;> first | (cases hp; done) | (cases z <;> first | rfl | cases p3)
theorem fall_part_len {m : Int} (hm : 1 ≤ m ∧ m ≤ 9) {a b r : List Int} (ha : isW (.fall m) a) (hb : isW (.fall m) b) (hr : isW (.fall m) r) {i : Nat} (e : (fall m).val r = ((fall m).val a).mul ((fall m).val (b.take i))) : r.length ≤ a.length + b.length + 1 := by
  have h0 := pos_take (w := .fall m) hm rfl ha a.length
  have h9 := pos_take (w := .fall m) hm rfl hb i
  rw [List.take_length, val_fall] at h0
  rw [val_fall, val_fall] at h9
  rw [val_fall, val_fall, val_fall] at e
  have e2 : fv m 0 r = fv m 0 a * fv m 0 (b.take i) := Num.i.inj e
  simp only [Num.x] at h0 h9
  have h1 := (fall_len hm ha).1
  have h2 := (fall_len hm hb).1
  have h3 := fallW_mul hm a.length b.length
  have p := fall_pos hm b.length
  refine fall_short hm hr ?_
  rw [e2]
  have h4 := Int.mul_le_mul_of_nonneg_left (show fv m 0 (b.take i) ≤ (fallW m b.length).1 by omega) h0.1
  have h5 := Int.mul_lt_mul_of_pos_right h1 (show 0 < (fallW m b.length).1 by omega)
  omega
end WayM
end DD

set_option Elab.async false
set_option linter.all false
set_option maxRecDepth 100000
set_option maxHeartbeats 1000000
namespace DD
open PySem PySem.Spec PyProof.Rows L2
/-! ### defs that answer with a new tuple of two, whose second thing may be a list of one's own -/
def spTu (nm : Nm) (M : MD) : Sp := fun vs H Q E => ∃ (G : Hp) (ds : List D) (P : Out → Prop), Same G H ∧ Reps nm G vs ds ∧ M ds P ∧
  (∀ (G' H' : Hp) (pt : Addr) (v0 v1 : V) (d0 d1 : D), Ext H G H G' H' → H pt = none → H' pt = some (.tup [v0, v1]) → (RepV nm H G' H' v0 d0 ∧ isBor d0 = false) → RepV nm H G' H' v1 d1 → isBor d1 = false → P (.ret (.tup [d0, d1])) → Q (.ref pt) H') ∧
  (∀ (C : Str) (H' : Hp), Same H H' → P (.exn C) → E (.ref (nm.ad C)) none H')
def sitT (Γ : Gm) (N : List Str) (qual : Str) (sc : Scope) (f : Addr) (cdv : Value) (A : Around) (outer : List PySem.Env) (s : Shared) (H : Hp) (E : XK) (G0 : Hp) (P : Out → Prop) : Sit where
  X := cxOf (L2.CX Γ.P Γ.w) Γ.P Γ.w Γ.K Γ.mg Γ.base N qual sc f cdv A outer s H E
  nm := Γ.nm
  G0 := G0
  B := H
  ex := fun C _ => P (.exn C)
  kk := Γ.kk
  ww := Γ.ww
  tt := true
theorem fnT {Γ : Gm} {x qual : Str} {st : Stmt} {f : Addr} {fd : FuncData} {N ps : List Str} {k : Nat} {M : MD} (F : Fun Γ.K x qual st f fd) (Sc : FnScope N ps (defScope st)) (hl : ∀ ds P, M ds P → ds.length = ps.length)
    (hb : ∀ (cdv : Value) (A : Around) (outer : List PySem.Env) (s : Shared) (H : Hp) (E : XK) (G0 : Hp) (ds : List D) (P : Out → Prop),
      JX (sitT Γ N qual (defScope st) f cdv A outer s H E G0 P) → Room k (sitT Γ N qual (defScope st) f cdv A outer s H E G0 P).X.A → PassesOwn (model Γ.P Γ.w) (sitT Γ N qual (defScope st) f cdv A outer s H E G0 P).X.A (sitT Γ N qual (defScope st) f cdv A outer s H E G0 P).X.env (sitT Γ N qual (defScope st) f cdv A outer s H E G0 P).X.xe → M ds P →
      ∃ t, JSs (sitT Γ N qual (defScope st) f cdv A outer s H E G0 P) (defBody st) t ∧ Nx (fun ρ => t { nx := fun _ => False, rt := fun d => P (.ret d) } ρ) (startD N ds)) :
    FnOk Γ.P Γ.w Γ.K Γ.mg Γ.base (L2.CX Γ.P Γ.w) (k + 1) f fd ps (spTu Γ.nm M) := by
  refine F.okX Sc (fun vs H Q E h => ?_) fun cdv A outer s H vs Q E hr hsp => ?_
  · obtain ⟨G, ds, P, _, r, m, _⟩ := h
    rw [r.length]
    exact hl ds P m
  · obtain ⟨G, ds, P, gh, r, m, hret, hexn⟩ := hsp
    have jx : JX (sitT Γ N qual (defScope st) f cdv A outer s H E G P) :=
      ⟨fun cls d _ H' => E cls d H', takes_of rfl rfl rfl rfl, fun G' H' σ ρ C R p => hexn C H' R.bh p⟩
    obtain ⟨t, ht, hq⟩ := hb cdv A outer s H E G ds P jx hr (passes_of rfl) m
    refine ⟨_, pss_w, (ht.run G H (L2.start N vs) (startD N ds) _ (start_rel gh r) hq.get).mono (fun _ _ ⟨_, _, _, _, q⟩ => q.elim) (fun v H' q0 => ?_) (fun _ _ ⟨_, _, _, _, q⟩ => q.elim) (fun _ _ ⟨_, _, _, _, q⟩ => q.elim)⟩
    obtain ⟨G', pt, v0, v1, d0, d1, x, rfl, fpt, ept, r0, r1, nb, q⟩ := q0
    exact hret G' H' pt v0 v1 d0 d1 x fpt ept r0 r1 nb q
structure CalT (Γ : Gm) (k : Nat) (x : Str) (n : Nat) (M : MD) : Prop where
  ex : ∃ (f : Addr) (fd : FuncData) (ps : List Str), ps.length = n ∧ FnOk Γ.P Γ.w Γ.K Γ.mg Γ.base (L2.CX Γ.P Γ.w) k f fd ps (spTu Γ.nm M) ∧ Γ.mg x = some (.ref f) ∧ PySem.W.keepIn Γ.K (.ref f) = true ∧ Binds Γ.K fd ps []
theorem CalT.mono {Γ : Gm} {j k : Nat} {x : Str} {n : Nat} {M : MD} (h : CalT Γ j x n M) (l : j ≤ k) : CalT Γ k x n M := by
  obtain ⟨f, fd, ps, h1, h2, h3⟩ := h.ex
  exact ⟨f, fd, ps, h1, h2.mono l, h3⟩
section
variable {S : Sit} {e0 e1 e : Expr} {es : List Expr} {pos p : Pos} {τ0 τ1 : TD} {t : TDs} {M : MD} {k n : Nat} {x : Str}
/-- what stands in a new tuple, which is not frozen -/
theorem tup_ends {nm : Nm} {G H : Hp} {p : Addr} {o : HO} {v1 : V} {d1 : D} {B : Hp} (hp : H p = none) (r1 : RepV nm B G H v1 d1) (nb : isBor d1 = false) :
    RepV nm B G (upd H p o) v1 d1 := by
  cases d1 with
  | own l =>
    obtain ⟨q, vs, rfl, a1, a2, a3, a4⟩ := r1
    exact ⟨q, vs, rfl, by rw [upd_ne (ne_of_none a1 hp)]; exact a1, a2, a3, a4⟩
  | bor l => cases nb
  | _ => exact r1
theorem Ext.tup {B G0 G H : Hp} {p : Addr} {vs : List V} (x : Ext B G0 B G H) (hp : H p = none) : Ext B G0 B G (upd H p (.tup vs)) :=
  ⟨x.g, x.h.trans (same_upd hp), x.gh.trans (same_upd hp), x.new⟩
/-- return (e0, e1) -/
def dRetT (τ0 τ1 : TD) : TDS := fun E ρ => τ0 ρ fun d0 => τ1 ρ fun d1 => isBor d0 = false ∧ isBor d1 = false ∧ E.rt (.tup [frzO d0, d1])
theorem js_retT {kt : Nat} {pt : Pos} (h0 : JE S e0 τ0) (h1 : JE S e1 τ1) (ht : S.tt = true := by rfl) (he : starEach (e0 :: [e1]) S.X.env = (false, eval e0 S.X.env) :: starEach [e1] S.X.env := by rfl) (he2 : starEach [e1] S.X.env = (false, eval e1 S.X.env) :: starEach [] S.X.env := by rfl) :
    JS S (.Return (some (.Tuple [e0, e1] kt pt)) pos) (dRetT τ0 τ1) := by
  refine ⟨fun G H σ ρ E R h => WS.of (ps_ret (pe_tup (pa_cons pe_w (pa_cons pe_w pa_nil he2) he))) ?_⟩
  refine (h0.run G H σ ρ _ R h).mono fun v0 H1 ⟨G1, d0, x1, r1, q1⟩ => ?_
  obtain ⟨G1', x1', r1'⟩ := r1.frzO x1.gh
  have y1 := x1.trans x1'
  have R1 := R.go y1
  refine (h1.run G1' H1 σ ρ _ R1 q1).mono fun v1 H2 ⟨G2, d1, x2, r2, b0, b1, q2⟩ => ?_
  have R2 := R1.go x2
  refine ⟨by show 2 ≤ sizeLine; decide, fun p hp => wR_true ht ⟨G2, p, v0, v1, frzO d0, d1, R2.ext.tup hp, rfl, R2.bh.free hp, upd_same, ⟨?_, by cases d0 <;> first | rfl | cases b0⟩, tup_ends hp (r2.from R1.bh) b1, b1, q2⟩⟩
  have r3 : RepV S.nm H2 G2 H2 v0 (frzO d0) := repV_noOwn (r1'.ext x2) (isOwn_frzO d0)
  have n1 := isOwn_frzO d0
  have n2 : isBor (frzO d0) = false := by cases d0 <;> first | rfl | cases b0
  revert r3 n1 n2
  generalize frzO d0 = z
  intro r3 n1 n2
  refine .of ?_
  cases z <;> first | exact r3 | (cases n1; done) | (cases n2; done)
/-- return (e0, x) -/
def dRetTv (τ0 : TD) (i : Nat) : TDS := fun E ρ => τ0 ρ fun d0 => match ρ[i]? with
  | some (some d1) => isBor d0 = false ∧ E.rt (.tup [frzO d0, d1])
  | _ => False
theorem js_retTv {kt : Nat} {pt py : Pos} {y : Str} (i : Nat) (h0 : JE S e0 τ0) (ho : PE S.X (.Name y py) (tVar i)) (ht : S.tt = true := by rfl) (he : starEach (e0 :: [.Name y py]) S.X.env = (false, eval e0 S.X.env) :: starEach [.Name y py] S.X.env := by rfl) (he2 : starEach [.Name y py] S.X.env = (false, eval (.Name y py) S.X.env) :: starEach [] S.X.env := by rfl) :
    JS S (.Return (some (.Tuple [e0, .Name y py] kt pt)) pos) (dRetTv τ0 i) := by
  refine ⟨fun G H σ ρ E R h => WS.of (ps_ret (pe_tup (pa_cons pe_w (pa_cons ho pa_nil he2) he))) ?_⟩
  refine (h0.run G H σ ρ _ R h).mono fun v0 H1 ⟨G1, d0, x1, r1, q1⟩ => ?_
  obtain ⟨G1', x1', r1'⟩ := r1.frzO x1.gh
  have R1 := R.go (x1.trans x1')
  split at q1
  · rename_i d1 el
    obtain ⟨b0, q1⟩ := q1
    obtain ⟨v1, es1, r2, b1⟩ := R1.slot i _ el
    refine ⟨v1, es1, by show 2 ≤ sizeLine; decide, fun p hp => wR_true ht ⟨G1', p, v0, v1, frzO d0, d1, R1.ext.tup hp, rfl, R1.bh.free hp, upd_same, ⟨?_, by cases d0 <;> first | rfl | cases b0⟩, tup_ends hp r2 b1, b1, q1⟩⟩
    have r3 : RepV S.nm H1 G1' H1 v0 (frzO d0) := repV_noOwn r1' (isOwn_frzO d0)
    have n1 := isOwn_frzO d0
    have n2 : isBor (frzO d0) = false := by cases d0 <;> first | rfl | cases b0
    revert r3 n1 n2
    generalize frzO d0 = z
    intro r3 n1 n2
    refine .of ?_
    cases z <;> first | exact r3 | (cases n1; done) | (cases n2; done)
  · exact q1.elim
theorem two_frz {G H : Hp} {σ : L2.St} {ρ : Env} {j i : Nat} {v0 v1 : V} {d0 d1 : D} (R : S.Rel G H σ ρ) (e0 : ρ[j]? = some (some d0)) (e1 : ρ[i]? = some (some d1)) (es0 : σ[j]? = some (some v0)) (es1 : σ[i]? = some (some v1))
    (r0 : RepV S.nm S.B G H v0 d0) (r1 : RepV S.nm S.B G H v1 d1) (b0 : isBor d0 = false) (b1 : isBor d1 = false) (hji : j ≠ i) : ∃ G1, Ext S.B S.G0 S.B G1 H ∧ Rep S.nm G1 v0 (frz d0) ∧ RepV S.nm S.B G1 H v1 d1 := by
  cases d0 with
  | own l0 =>
    obtain ⟨p0, vs0, rfl, c1, c2, c3, c4⟩ := r0
    have sm : Same G (upd G p0 (.lst vs0)) := same_upd c2
    refine ⟨upd G p0 (.lst vs0), ⟨R.ext.g.trans sm, R.bh, fun b o eb => ?_, fun a ea na => ?_⟩, .lst upd_same (c4.mono sm), ?_⟩
    · by_cases hb : b = p0
      · subst hb; rw [upd_same] at eb; cases eb; exact c1
      · rw [upd_ne hb] at eb; exact R.gh _ _ eb
    · rw [upd_ne (fun z => na (by rw [z]; exact c3))]; exact R.ext.new a ea na
    · cases d1 with
      | own l =>
        obtain ⟨q, vs, rfl, a1, a2, a3, a4⟩ := r1
        have hq : q ≠ p0 := fun z => R.apart j i _ _ p0 e0 e1 hji es0 (by rw [← z]; exact es1)
        exact ⟨q, vs, rfl, a1, by rw [upd_ne hq]; exact a2, a3, a4.mono sm⟩
      | bor l => cases b1
      | _ => exact Rep.mono sm _ _ r1
  | bor l => cases b0
  | _ => exact ⟨G, R.ext, r0, r1⟩
/-- return (x, y) -/
def dRetTvv (j i : Nat) : TDS := fun E ρ => match ρ[j]? with
  | some (some d0) => match ρ[i]? with
    | some (some d1) => j ≠ i ∧ E.rt (.tup [frz d0, d1])
    | _ => False
  | _ => False
theorem js_retTvv {kt : Nat} {pt px py : Pos} {x y : Str} (j i : Nat) (hx : PE S.X (.Name x px) (tVar j)) (ho : PE S.X (.Name y py) (tVar i)) (ht : S.tt = true := by rfl) (he : starEach (.Name x px :: [.Name y py]) S.X.env = (false, eval (.Name x px) S.X.env) :: starEach [.Name y py] S.X.env := by rfl) (he2 : starEach [.Name y py] S.X.env = (false, eval (.Name y py) S.X.env) :: starEach [] S.X.env := by rfl) :
    JS S (.Return (some (.Tuple [.Name x px, .Name y py] kt pt)) pos) (dRetTvv j i) := by
  refine ⟨fun G H σ ρ E R h => WS.of (ps_ret (pe_tup (pa_cons hx (pa_cons ho pa_nil he2) he))) ?_⟩
  unfold dRetTvv at h
  split at h
  · rename_i d0 e0
    split at h
    · rename_i d1 e1
      obtain ⟨hji, q1⟩ := h
      obtain ⟨v0, es0, r0, b0⟩ := R.slot j _ e0
      obtain ⟨v1, es1, r1, b1⟩ := R.slot i _ e1
      obtain ⟨G1, x2, f0, r2⟩ := two_frz R e0 e1 es0 es1 r0 r1 b0 b1 hji
      exact ⟨v0, es0, v1, es1, by show 2 ≤ sizeLine; decide, fun p hp => wR_true ht ⟨G1, p, v0, v1, frz d0, d1, x2.tup hp, rfl, R.bh.free hp, upd_same, ⟨.of f0, by cases d0 <;> first | rfl | (cases f0) | cases b0⟩, tup_ends hp r2 b1, b1, q1⟩⟩
    · exact h.elim
  · exact h.elim
def oCallT (ex : TX) (ρ : Env) (ds : List D) (M : MD) (Q : D → D → Prop) : Prop := M ds fun out => match out with
  | .ret (.tup [d0, d1]) => Q d0 d1
  | .ret _ => False
  | .exn C => ex C ρ
def dAsgT (ex : TX) (M : MD) (t : TDs) (i j : Nat) : TDS := fun E ρ => t ρ fun ds => ds.any isBor = false ∧ oCallT ex ρ ds M fun d0 d1 => isOwn d0 = false ∧ Nx (fun ρ1 => Nx E.nx (put ρ1 i (some d0))) (put ρ j (some d1))
theorem js_asgT {Γ : Gm} {i j : Nat} {y z : Str} {py pz pt pc : Pos} {kt : Nat} (jx : JX S) (F : CalT Γ k x n M) (hr : Room k S.X.A) (hg : Gl S.X x) (hc : S.X.calm = true) (hN : S.X.N.Nodup) (hi : S.X.N[i]? = some y) (hj : S.X.N[j]? = some z) (hij : i ≠ j)
    (hx : Loc S.X.env.scope y) (hy : Loc S.X.env.scope z) (h : JA' S (e :: es) t) (hdb : (x == ("__debug__" : Str)) = false := by decide)
    (hfx : S.X.fn y = true ∨ S.X.env.scope.names.lookup y = some .local := by first | exact .inl rfl | exact .inr rfl | assumption) (hfy : S.X.fn z = true ∨ S.X.env.scope.names.lookup z = some .local := by first | exact .inl rfl | exact .inr rfl | assumption)
    (he : starEach (e :: es) S.X.env = (false, eval e S.X.env) :: starEach es S.X.env := by rfl) (hpl : (backTo pc (starEach es S.X.env)).any (·.1) = false := by rfl) (hG : S.gm = Γ := by rfl)
    (hs : swapsWithSole [.Tuple [.Name y py, .Name z pz] kt pt] (.Call (.Name x p) (e :: es) [] pc) pos.line S.X.env = pure false := by rfl) (hw : swappedStores [.Tuple [.Name y py, .Name z pz] kt pt] (.Call (.Name x p) (e :: es) [] pc) S.X.env = pure none := by rfl)
    (h1 : (assignEach [.Tuple [.Name y py, .Name z pz] kt pt] S.X.env).map (·.2) = [assign (.Tuple [.Name y py, .Name z pz] kt pt) S.X.env] := by rfl)
    (hn : (assignEach [.Name y py, .Name z pz] S.X.env).length = 2 := by rfl) (hst : (assignEach [.Name y py, .Name z pz] S.X.env).findIdx? (·.1) = none := by rfl)
    (hs1 : (assignEach (.Name y py :: [.Name z pz]) S.X.env).map (·.2) = assign (.Name y py) S.X.env :: (assignEach [.Name z pz] S.X.env).map (·.2) := by rfl) (hs2 : (assignEach (.Name z pz :: []) S.X.env).map (·.2) = assign (.Name z pz) S.X.env :: (assignEach [] S.X.env).map (·.2) := by rfl)
    (np : npb S.pp i = true := by rfl) (np2 : npb S.pp j = true := by rfl) :
    JS S (.Assign [.Tuple [.Name y py, .Name z pz] kt pt] (.Call (.Name x p) (e :: es) [] pc) pos) (dAsgT S.ex M t i j) := by
  subst hG
  obtain ⟨W, tk, hW⟩ := jx
  obtain ⟨f, fd, ps, _, F, hm, hk, hb⟩ := F.ex
  refine ⟨fun G H σ ρ E R q => WS.of (ps_asg (pe_callS F hr hg hm hk hb (fun σ => passAt tk σ) pa_w hdb he hpl) (pg_tup hc (pgs_cons (pg_name hN hi hx hfx) (pgs_cons (pg_name hN hj hy hfy) pgs_nil hs2) hs1) hn hst) hs hw h1) ?_⟩
  refine (h.run G H σ ρ _ R q).mono fun vs H1 ⟨G1, ds, x1, r1, nb, q1⟩ => ?_
  have R1 := R.go x1
  refine ⟨G1, ds, _, x1.gh, r1.reps nb, q1, fun G' H' a v0 v1 d0 d1 x2 fpt ept r0 rv1 nb1 pr => ?_, fun C H' sm pe => hW G1 H' σ ρ C (R1.go (Ext.grow R1.gh sm)) pe⟩
  have Rj := R1.set j x2 rv1 nb1 np2
  obtain ⟨r0, nb0⟩ := r0
  obtain ⟨no, pr⟩ := pr
  have R2 := Rj.set i (Ext.refl x2.gh) (repV_noOwn r0 no) nb0 np
  refine ⟨a, [v0, v1], rfl, .inl (.inl ept), rfl, v0, [v1], rfl, v1, [], rfl, rfl, G', _, ?_, x1.g.trans x2.g, pr.getS.getS⟩
  rw [List.set_comm _ _ hij]
  exact R2
/-- f(..)[1], f(..)[0] -/
def eIxT (ex : TX) (M : MD) (t : TDs) (m : Nat) : TD := fun ρ Q => t ρ fun ds => ds.any isBor = false ∧ oCallT ex ρ ds M fun d0 d1 => match m with
  | 0 => Q d0
  | _ => Q d1
theorem je_ixT {Γ : Gm} {e2 : Expr} {pc : Pos} (m : Nat) (hm2 : m < 2) (jx : JX S) (F : CalT Γ k x n M) (hr : Room k S.X.A) (hg : Gl S.X x) (h : JA' S (e :: es) t) (hi : JE S e2 (eC (.int m))) (hdb : (x == ("__debug__" : Str)) = false := by decide)
    (he : starEach (e :: es) S.X.env = (false, eval e S.X.env) :: starEach es S.X.env := by rfl) (hpl : (backTo pc (starEach es S.X.env)).any (·.1) = false := by rfl) (hG : S.gm = Γ := by rfl) (hs : PlainIx e2 := by exact fun _ _ => rfl) :
    JE S (.Subscript (.Call (.Name x p) (e :: es) [] pc) e2 pos) (eIxT S.ex M t m) := by
  subst hG
  obtain ⟨W, tk, hW⟩ := jx
  obtain ⟨f, fd, ps, _, F, hm, hk, hb⟩ := F.ex
  refine ⟨fun G H σ ρ Q R q => WX.of (pe_ix (L2.ix_list.or (L2.ix_tup.or L2.ix_str)) (pe_callS F hr hg hm hk hb (fun σ => passAt tk σ) pa_w hdb he hpl) pe_w hs) ?_⟩
  refine (h.run G H σ ρ _ R q).mono fun vs H1 ⟨G1, ds, x1, r1, nb, q1⟩ => ?_
  have R1 := R.go x1
  refine ⟨G1, ds, _, x1.gh, r1.reps nb, q1, fun G' H' a v0 v1 d0 d1 x2 fpt ept r0 rv1 nb1 pr => ?_, fun C H' sm pe => hW G1 H' σ ρ C (R1.go (Ext.grow R1.gh sm)) pe⟩
  have R2 := R1.go x2
  refine (hi.run G' H' σ ρ (fun d => d = .int m) R2 rfl).mono fun w H3 ⟨G3, dm, x3, r3, em⟩ => ?_
  subst em
  cases repV_int r3
  have y3 := (x1.trans (Ext.from x1.h x2)).trans (Ext.from (x1.h.trans x2.h) x3)
  have rv := (rv1.ext (Ext.refl x2.gh)).from x1.h
  have e3 : H3 a = some (.tup [v0, v1]) := x3.h _ _ ept
  match m, hm2 with
  | 0, _ => exact .inr (.inl ⟨a, _, _, v0, rfl, rfl, .inl (.inl e3), rfl, G3, d0, y3, (r0.1.ext x3).from x1.h, pr⟩)
  | 1, _ => exact .inr (.inl ⟨a, _, _, v1, rfl, rfl, .inl (.inl e3), rfl, G3, d1, y3, (rv1.ext x3).from x1.h, pr⟩)
/-- f(..) as a tuple among others -/
def eCallF (ex : TX) (M : MD) (t : TDs) : TD := fun ρ Q => t ρ fun ds => ds.any isBor = false ∧ oCallT ex ρ ds M fun d0 d1 => isOwn d0 = false ∧ Q (.tup [d0, frz d1])
theorem je_callF {Γ : Gm} (jx : JX S) (F : CalT Γ k x n M) (hr : Room k S.X.A) (hg : Gl S.X x) (h : JA' S (e :: es) t) (hdb : (x == ("__debug__" : Str)) = false := by decide)
    (he : starEach (e :: es) S.X.env = (false, eval e S.X.env) :: starEach es S.X.env := by rfl) (hpl : (backTo pos (starEach es S.X.env)).any (·.1) = false := by rfl) (hG : S.gm = Γ := by rfl) :
    JE S (.Call (.Name x p) (e :: es) [] pos) (eCallF S.ex M t) := by
  subst hG
  obtain ⟨W, tk, hW⟩ := jx
  obtain ⟨f, fd, ps, _, F, hm, hk, hb⟩ := F.ex
  refine ⟨fun G H σ ρ Q R q => WX.of (pe_callS F hr hg hm hk hb (fun σ => passAt tk σ) pa_w hdb he hpl) ?_⟩
  refine (h.run G H σ ρ _ R q).mono fun vs H1 ⟨G1, ds, x1, r1, nb, q1⟩ => ?_
  have R1 := R.go x1
  refine ⟨G1, ds, _, x1.gh, r1.reps nb, q1, fun G' H' a v0 v1 d0 d1 x2 fpt ept r0 rv1 nb1 pr => ?_, fun C H' sm pe => hW G1 H' σ ρ C (R1.go (Ext.grow R1.gh sm)) pe⟩
  obtain ⟨r0, nb0⟩ := r0
  obtain ⟨no, pr⟩ := pr
  have r0 : Rep S.nm G' v0 d0 := by
    cases d0 <;> first | exact r0 | (cases no; done) | (cases nb0; done)
  obtain ⟨G2, x3, r3⟩ := rv1.freeze x2.gh nb1
  have hpt : H a = none := x1.h.free fpt
  have ga : ∀ o, G2 a = some o → o = .tup [v0, v1] := fun o e => by
    have := x3.gh _ _ e
    rw [ept] at this
    exact (Option.some.inj this).symm
  have sm : Same G2 (upd G2 a (.tup [v0, v1])) := fun b o e => by
    by_cases hb : b = a
    · subst hb; rw [upd_same, ga o e]
    · rw [upd_ne hb]; exact e
  refine ⟨upd G2 a (.tup [v0, v1]), .tup [d0, frz d1], ⟨(x1.g.trans x2.g).trans (x3.g.trans sm), x1.h.trans x2.h, fun b o e => ?_, fun b eb nb => ?_⟩, .of (.tup upd_same (.cons (Rep.mono (x3.g.trans sm) _ _ r0) (.cons (Rep.mono sm _ _ r3) .nil))), pr⟩
  · by_cases hb : b = a
    · subst hb; rw [upd_same] at e; cases e; exact ept
    · rw [upd_ne hb] at e; exact x3.gh _ _ e
  · have hba : b ≠ a := fun z => nb (by rw [z]; exact hpt)
    rw [upd_ne hba]
    have n1 : H1 b ≠ none := by
      cases q : H b with
      | none => exact absurd q nb
      | some o => rw [x1.h b o q]; exact fun z => by cases z
    exact x3.new b (x2.new b (x1.new b eb nb) n1) n1
/-- return (e0, x), what e0 gives one's own, x a number -/
def dRetTo (τ0 : TD) (i : Nat) : TDS := fun E ρ => τ0 ρ fun d0 => match ρ[i]? with
  | some (some d1) => isBor d0 = false ∧ E.rt (.tup [d0, d1])
  | _ => False
theorem js_retTo {kt : Nat} {pt py : Pos} {y : Str} (i : Nat) (h0 : JE S e0 τ0) (ho : PE S.X (.Name y py) (tVar i)) (ht : S.tt = true := by rfl) (he : starEach (e0 :: [.Name y py]) S.X.env = (false, eval e0 S.X.env) :: starEach [.Name y py] S.X.env := by rfl) (he2 : starEach [.Name y py] S.X.env = (false, eval (.Name y py) S.X.env) :: starEach [] S.X.env := by rfl) :
    JS S (.Return (some (.Tuple [e0, .Name y py] kt pt)) pos) (dRetTo τ0 i) := by
  refine ⟨fun G H σ ρ E R h => WS.of (ps_ret (pe_tup (pa_cons pe_w (pa_cons ho pa_nil he2) he))) ?_⟩
  refine (h0.run G H σ ρ _ R h).mono fun v0 H1 ⟨G1, d0, x1, r1, q1⟩ => ?_
  have R1 := R.go x1
  split at q1
  · rename_i d1 el
    obtain ⟨b0, q1⟩ := q1
    obtain ⟨v1, es1, r2, b1⟩ := R1.slot i _ el
    exact ⟨v1, es1, by show 2 ≤ sizeLine; decide, fun p hp => wR_true ht ⟨G1, p, v0, v1, d0, d1, R1.ext.tup hp, rfl, R1.bh.free hp, upd_same, ⟨tup_ends hp (r1.from R.bh) b0, b0⟩, tup_ends hp r2 b1, b1, q1⟩⟩
  · exact q1.elim
/-- return f(..), f such a def -/
def dRetTc (ex : TX) (M : MD) (t : TDs) : TDS := fun E ρ => t ρ fun ds => ds.any isBor = false ∧ oCallT ex ρ ds M fun d0 d1 => E.rt (.tup [d0, d1])
theorem js_retTc {Γ : Gm} {pc : Pos} (jx : JX S) (F : CalT Γ k x n M) (hr : Room k S.X.A) (hg : Gl S.X x) (h : JA' S (e :: es) t) (ht : S.tt = true := by rfl) (hdb : (x == ("__debug__" : Str)) = false := by decide)
    (he : starEach (e :: es) S.X.env = (false, eval e S.X.env) :: starEach es S.X.env := by rfl) (hpl : (backTo pc (starEach es S.X.env)).any (·.1) = false := by rfl) (hG : S.gm = Γ := by rfl) :
    JS S (.Return (some (.Call (.Name x p) (e :: es) [] pc)) pos) (dRetTc S.ex M t) := by
  subst hG
  obtain ⟨W, tk, hW⟩ := jx
  obtain ⟨f, fd, ps, _, F, hm, hk, hb⟩ := F.ex
  refine ⟨fun G H σ ρ E R q => WS.of (ps_ret (pe_callS F hr hg hm hk hb (fun σ => passAt tk σ) pa_w hdb he hpl)) ?_⟩
  refine (h.run G H σ ρ _ R q).mono fun vs H1 ⟨G1, ds, x1, r1, nb, q1⟩ => ?_
  have R1 := R.go x1
  refine ⟨G1, ds, _, x1.gh, r1.reps nb, q1, fun G' H' a v0 v1 d0 d1 x2 fpt ept r0 rv1 nb1 pr => ?_, fun C H' sm pe => hW G1 H' σ ρ C (R1.go (Ext.grow R1.gh sm)) pe⟩
  exact wR_true ht ⟨G', a, v0, v1, d0, d1, (R1.go x2).ext, rfl, R1.bh.free fpt, ept, ⟨r0.1.from R1.bh, r0.2⟩, rv1.from R1.bh, nb1, pr⟩
end
end DD

set_option Elab.async false
set_option linter.all false
set_option maxRecDepth 100000
set_option maxHeartbeats 1000000
namespace DD
open PySem PySem.Spec PyProof.Rows L2
/-! ### range(a, b, 3); a, b, .. = a list -/
def thrD (lo : Int) (n : Nat) : List D := (List.range n).map fun i => .int (lo + (i : Nat) * 3)
theorem thr_len (lo : Int) (n : Nat) : (thrD lo n).length = n := by simp [thrD]
theorem thr_at {lo : Int} {n j : Nat} {d : D} (h : (thrD lo n)[j]? = some d) : j < n ∧ d = .int (lo + (j : Nat) * 3) := by
  have hj : j < n := by
    have := (List.getElem?_eq_some_iff.mp h).1
    rwa [thr_len] at this
  refine ⟨hj, ?_⟩
  simp only [thrD, List.getElem?_map, List.getElem?_range hj, Option.map_some] at h
  exact (Option.some.inj h).symm
theorem gives_thr {nm : Nm} {G : Hp} {lo : Int} {n : Nat} : Gives nm G (Itc lo 3 n) (thrD lo n) := by
  refine ⟨n, fun _ => True, YFn fun i => .int (lo + (i : Nat) * 3), by simp [thrD], walk_rangeC, fun _ _ => trivial, fun i x H2 H3 s hi ⟨e1, e2⟩ => ?_⟩
  subst e2
  refine ⟨.int (lo + (i : Nat) * 3), ?_, .inl ⟨e1, .int _⟩⟩
  simp only [thrD, List.getElem?_map, List.getElem?_range hi, Option.map_some]
def thrN (m n : Int) : Nat := if m < n then ((n - m - 1) / 3 + 1).toNat else 0
theorem rg_thr {m n : Int} (h : -(2 ^ 60) ≤ m ∧ m < 2 ^ 60 ∧ -(2 ^ 60) ≤ n ∧ n < 2 ^ 60) : RgC m n 3 (thrN m n) := by
  have e : Builtin.Range.rangeSize m n 3 = (thrN m n : Int) := by
    unfold Builtin.Range.rangeSize thrN
    rw [if_pos (by decide)]
    split <;> omega
  refine ⟨by decide, by decide, ?_, e⟩
  unfold Builtin.Range.small
  rw [e]
  have hb : 0 ≤ (thrN m n : Int) ∧ (thrN m n : Int) ≤ 2 ^ 61 + 2 ∧ (m < n → (thrN m n : Int) * 3 ≤ n - m + 2) ∧ (¬ m < n → (thrN m n : Int) = 0) := by
    unfold thrN
    split <;> omega
  clear e
  generalize (thrN m n : Int) = k at *
  simp only [Builtin.Range.rangeFitsLong, Bool.and_eq_true, Bool.or_eq_true, decide_eq_true_eq, beq_iff_eq]
  rw [if_pos (by decide), Bool.and_eq_true, decide_eq_true_eq, decide_eq_true_eq]
  omega
section
variable {S : Sit} {a b c : Expr} {es : List Expr} {pos : Pos}
def iThr (t : TDs) : TDI := fun ρ Q => t ρ fun ds => match ds with
  | [.int m, .int n, .int c] => c = 3 ∧ (-(2 ^ 60) ≤ m ∧ m < 2 ^ 60 ∧ -(2 ^ 60) ≤ n ∧ n < 2 ^ 60) ∧ Q (thrD m (thrN m n))
  | _ => False
theorem ji_thr {tg : Expr} {t : TDs} {p : Pos} (hg : Gl S.X "range") (hm : S.X.mg "range" = none) (ha : JA' S [a, b, c] t)
    (hs : starEach [a, b, c] S.X.env = (false, eval a S.X.env) :: starEach [b, c] S.X.env := by rfl) (hs2 : (backTo pos (starEach [b, c] S.X.env)).any (·.1) = false := by rfl) :
    JI S tg (.Call (.Name "range" p) [a, b, c] [] pos) (iThr t) := by
  refine ⟨fun G H σ ρ Q R h => fun pins s I => (pi_range3 hg hm pa_w hs hs2).run pins s σ H _ I ((ha.run G H σ ρ _ R h).mono fun vs H1 ⟨G1, ds, x1, r1, q1⟩ => ?_)⟩
  match ds, r1, q1 with
  | [.int m, .int n, .int k], r1, q1 =>
    cases repA_int3 r1
    obtain ⟨e, b, q⟩ := q1
    subst e
    exact ⟨m, n, 3, _, rfl, rg_thr b, G1, _, x1, gives_thr, q⟩
/-- a, b, .. = a list -/
theorem jg_lst {k : Nat} {t : TDGs} {n : Nat} (hc : S.X.calm = true) (h : JGs S es t)
    (hn : (assignEach es S.X.env).length = n := by rfl) (hst : (assignEach es S.X.env).findIdx? (·.1) = none := by rfl) : JG S (.Tuple es k pos) (fun d ρ Q => match DD.seqD d with
  | some ds => ds.length = n ∧ t ds ρ Q
  | none => False) := by
  refine ⟨fun G0 H0 G H σ ρ v d Q R x0 r h' => ?_⟩
  cases e : DD.seqD d with
  | none => rw [e] at h'; exact h'.elim
  | some ds =>
    rw [e] at h'
    have kk := S.kk
    obtain ⟨p, vs, rfl, hp, ra⟩ := r.seqD x0.gh e
    intro pins s u I rv
    refine (L2.pg_lst hc pgs_w hn hst).run pins s σ H _ u _ I rv ⟨p, vs, rfl, by rw [← kk]; exact hp, ra.length.trans h'.1, ?_⟩
    exact h.run G H σ ρ _ ds Q (R.go x0) ra h'.2
end
end DD

set_option Elab.async false
set_option linter.all false
set_option maxRecDepth 100000
set_option maxHeartbeats 1000000
namespace DD
open PySem PySem.Spec PyProof.Rows L2
/-! ### texts: their signs, split -/
theorem gives_signs {nm : Nm} {G : Hp} {z : Str} : Gives nm G (Its z) (signs z) := by
  refine ⟨z.cps.size, fun _ => True, fun i H v H' => H' = H ∧ ∃ c, z.cps[i]? = some c ∧ v = .str ⟨#[c]⟩, by simp [signs], walk_str, fun _ _ => trivial, fun i x H2 H3 s hi ⟨e1, c, e2, e3⟩ => ?_⟩
  subst e3
  refine ⟨.str ⟨#[c]⟩, ?_, .inl ⟨e1, .str _⟩⟩
  unfold signs
  rw [List.getElem?_map, Array.getElem?_toList, e2]; rfl
def newStrs (ys : List Str) : List D := ys.map D.str
theorem reps_strs {nm : Nm} {G : Hp} : ∀ ys : List Str, Reps nm G (ys.map V.str) (newStrs ys)
  | [] => .nil
  | y :: ys => .cons (.str y) (reps_strs ys)
section
variable {S : Sit} {o e : Expr} {pos apos : Pos} {τo τe : TD}
/-- for c in a text -/
def iStrD (τ : TD) : TDI := fun ρ Q => τ ρ fun d => match d with
  | .str z => Q (signs z)
  | _ => False
theorem ji_str {tg : Expr} (he : JE S e τe) : JI S tg e (iStrD τe) := by
  refine ⟨fun G H σ ρ Q R h => fun pins s I => (pi_str pe_w).run pins s σ H _ I ((he.run G H σ ρ _ R h).mono fun v H1 ⟨G1, d, x1, r1, q1⟩ => ?_)⟩
  cases d with
  | str z =>
    cases repV_str r1
    exact ⟨z, rfl, G1, _, x1, gives_signs, q1⟩
  | _ => exact q1.elim
/-- x.split(sep) -/
def eSplit (τo τe : TD) : TD := fun ρ Q => τo ρ fun d => match d with
  | .str a => τe ρ fun f => match f with
    | .str b => (b.length == 0) = false ∧ a.length + 2 ≤ sizeLine ∧ Q (.own (newStrs (Txt.split a b)))
    | _ => False
  | _ => False
theorem je_split (ho : JE S o τo) (he : JE S e τe) (hs : starEach [e] S.X.env = [(false, eval e S.X.env)] := by rfl) (hbase : attributeBase o "split" S.X.env (eval o S.X.env) = eval o S.X.env := by rfl) (hline : (apos.endLine == pos.line) = true := by rfl) :
    JE S (.Call (.Attribute o "split" apos) [e] [] pos) (eSplit τo τe) := by
  refine ⟨fun G H σ ρ Q R h => WX.of (pe_m1 F.slot_str_split F.type_str_split mt_split pe_w pe_w hs hbase hline) ?_⟩
  refine (ho.run G H σ ρ _ R h).mono fun v H1 ⟨G1, d, x1, r1, q1⟩ => ?_
  cases d with
  | str a =>
    cases repV_str r1
    refine ⟨⟨a, rfl⟩, (he.run G1 H1 σ ρ _ (R.go x1) q1).mono fun u H2 ⟨G2, f, x2, r2, q2⟩ => ?_⟩
    cases f with
    | str b =>
      cases repV_str r2
      refine ⟨a, b, rfl, rfl, q2.1, q2.2.1, fun p hp => ?_⟩
      have y2 := x1.trans (Ext.from x1.h x2)
      obtain ⟨z1, z2⟩ := new_own (H0 := H) y2.h y2.gh hp (reps_strs (Txt.split a b))
      exact ⟨G2, _, y2.trans z1, z2, q2.2.2⟩
    | _ => exact q2.elim
  | _ => exact q1.elim
end
/-! ### a text times a number -/
def rMulS : RD2 := fun d e Q => match d, e with
  | .str z, .int n => MulOk z n ∧ Q (.str (Txt.mul z n))
  | _, _ => False
theorem o_mulS {S : Sit} : DOp S (binaryOp .Mult) rMulS := .of fun H0 G H x y d e Q s0 gh rx ry h => by
  unfold rMulS at h
  split at h
  · rename_i z n
    cases repV_str rx
    cases repV_int ry
    refine ⟨fun x y H Q => ∃ (z : Str) (n : Int), x = .str z ∧ y = .int n ∧ MulOk z n ∧ Q (.str (Txt.mul z n)) H, ?_, z, n, rfl, rfl, h.1, G, _, Ext.refl gh, .of (.str _), h.2⟩
    intro pins s σ H x y v u Q I rx ry h
    obtain ⟨z, n, rfl, rfl, hc, q⟩ := h
    obtain ⟨t, rfl⟩ := rx
    obtain ⟨t', rfl⟩ := ry
    exact SB.mul hc fun t' k => ⟨.str (Txt.mul z n), H, I.tok _, ⟨_, rfl⟩, q⟩
  · exact h.elim
end DD

set_option Elab.async false
set_option linter.all false
set_option maxRecDepth 100000
set_option maxHeartbeats 1000000
namespace DD
open PySem PySem.Spec PyProof.Rows L2 TL
open PySem.Builtin PySem.Builtin.Str
/-! ### texts: rstrip by signs, upper, join -/
section
variable {S : Sit} {o e : Expr} {pos apos : Pos} {τo τe : TD}
/-- x.rstrip(signs) -/
def eRstrip (τo τe : TD) : TD := fun ρ Q => τo ρ fun d => match d with
  | .str a => τe ρ fun f => match f with
    | .str b => a.length ≤ sizeLine ∧ Q (.str (Txt.rstripChars a b))
    | _ => False
  | _ => False
theorem je_rstrip (ho : JE S o τo) (he : JE S e τe) (hs : starEach [e] S.X.env = [(false, eval e S.X.env)] := by rfl) (hbase : attributeBase o "rstrip" S.X.env (eval o S.X.env) = eval o S.X.env := by rfl) (hline : (apos.endLine == pos.line) = true := by rfl) :
    JE S (.Call (.Attribute o "rstrip" apos) [e] [] pos) (eRstrip τo τe) := by
  refine ⟨fun G H σ ρ Q R h => WX.of (pe_m1 F.slot_str_rstrip F.type_str_rstrip mt_rstripChars pe_w pe_w hs hbase hline) ?_⟩
  refine (ho.run G H σ ρ _ R h).mono fun v H1 ⟨G1, d, x1, r1, q1⟩ => ?_
  cases d with
  | str a =>
    cases repV_str r1
    refine ⟨⟨a, rfl⟩, (he.run G1 H1 σ ρ _ (R.go x1) q1).mono fun u H2 ⟨G2, f, x2, r2, q2⟩ => ?_⟩
    cases f with
    | str b =>
      cases repV_str r2
      exact ⟨a, b, rfl, rfl, q2.1, G2, _, x1.trans (Ext.from x1.h x2), .of (.str _), q2.2⟩
    | _ => exact q2.elim
  | _ => exact q1.elim
/-- x.upper() -/
def eUpper (τo : TD) : TD := fun ρ Q => τo ρ fun d => match d with
  | .str a => a.length ≤ 5592405 ∧ Q (.str (Txt.upper a))
  | _ => False
theorem je_upper (ho : JE S o τo) (hbase : attributeBase o "upper" S.X.env (eval o S.X.env) = eval o S.X.env := by rfl) (hline : (apos.endLine == pos.line) = true := by rfl) :
    JE S (.Call (.Attribute o "upper" apos) [] [] pos) (eUpper τo) := by
  refine ⟨fun G H σ ρ Q R h => WX.of (pe_m0 F.slot_str_upper F.type_str_upper mt_upper pe_w hbase hline) ?_⟩
  refine (ho.run G H σ ρ _ R h).mono fun v H1 ⟨G1, d, x1, r1, q1⟩ => ?_
  cases d with
  | str a =>
    cases repV_str r1
    exact ⟨⟨a, rfl⟩, a, rfl, rfl, q1.1, G1, _, x1, .of (.str _), q1.2⟩
  | _ => exact q1.elim
theorem reps_newStrs {nm : Nm} {G : Hp} : ∀ {ys : List Str} {vs : List V}, Reps nm G vs (newStrs ys) → vs = ys.map V.str
  | [], _, .nil => rfl
  | y :: ys, _, .cons r q => by
    cases r
    rw [reps_newStrs q]
    rfl
/-- sep.join(a new list of texts) -/
def eJoin (τo τe : TD) : TD := fun ρ Q => τo ρ fun d => match d with
  | .str a => τe ρ fun f => ∃ ys : List Str, f = .own (newStrs ys) ∧ (ys.map (·.length)).sum + ys.length * a.length ≤ 16777216 ∧ Q (.str (Txt.join a ys))
  | _ => False
theorem je_join (ho : JE S o τo) (he : JE S e τe) (hs : starEach [e] S.X.env = [(false, eval e S.X.env)] := by rfl) (hbase : attributeBase o "join" S.X.env (eval o S.X.env) = eval o S.X.env := by rfl) (hline : (apos.endLine == pos.line) = true := by rfl) :
    JE S (.Call (.Attribute o "join" apos) [e] [] pos) (eJoin τo τe) := by
  refine ⟨fun G H σ ρ Q R h => WX.of (pe_m1 F.slot_str_join F.type_str_join mt_join pe_w pe_w hs hbase hline) ?_⟩
  refine (ho.run G H σ ρ _ R h).mono fun v H1 ⟨G1, d, x1, r1, q1⟩ => ?_
  cases d with
  | str a =>
    cases repV_str r1
    refine ⟨⟨a, rfl⟩, (he.run G1 H1 σ ρ _ (R.go x1) q1).mono fun u H2 ⟨G2, f, x2, r2, q2⟩ => ?_⟩
    obtain ⟨ys, rfl, hz, q⟩ := q2
    obtain ⟨p, vs, rfl, hp, ra⟩ := r2.seqD x2.gh rfl
    have kk := S.kk
    refine ⟨a, p, ys, rfl, rfl, .inl (by rw [← kk, ← reps_newStrs ra]; exact hp), hz, G2, _, x1.trans (Ext.from x1.h x2), .of (.str _), q⟩
  | _ => exact q1.elim
end
/-! ### signs: what stands behind the last one that is no figure -/
def isF (c : Nat) : Prop := 48 ≤ c ∧ c ≤ 57
theorem figS : ("0123456789" : Str).cps = #[48, 49, 50, 51, 52, 53, 54, 55, 56, 57] := by decide +kernel
theorem fig_has (c : Nat) : ("0123456789" : Str).cps.contains c = true ↔ isF c := by
  rw [figS]
  simp [isF]
  omega
theorem tail_uniq {A B C D : List Nat} (h : A ++ B = C ++ D) (hB : ∀ c ∈ B, isF c) (hD : ∀ c ∈ D, isF c) (hA : ∀ c, A.getLast? = some c → ¬ isF c) (hC : ∀ c, C.getLast? = some c → ¬ isF c) : A = C ∧ B = D := by
  rcases List.append_eq_append_iff.mp h with ⟨X, e1, e2⟩ | ⟨X, e1, e2⟩
  · cases hX : X.getLast? with
    | none =>
      have : X = [] := List.getLast?_eq_none_iff.mp hX
      subst this
      simp at e1 e2
      exact ⟨e1.symm, e2⟩
    | some c =>
      exact absurd (hB c (by rw [e2]; exact List.mem_append_left _ (List.mem_of_getLast? hX))) (hC c (by rw [e1, List.getLast?_append, hX]; rfl))
  · cases hX : X.getLast? with
    | none =>
      have : X = [] := List.getLast?_eq_none_iff.mp hX
      subst this
      simp at e1 e2
      exact ⟨e1, e2.symm⟩
    | some c =>
      exact absurd (hD c (by rw [e2]; exact List.mem_append_left _ (List.mem_of_getLast? hX))) (hA c (by rw [e1, List.getLast?_append, hX]; rfl))
theorem rs_spec (t : Str) : ∃ B, t.cps.toList = (Txt.rstripChars t "0123456789").cps.toList ++ B ∧ (∀ c ∈ B, isF c) ∧ (∀ c, (Txt.rstripChars t "0123456789").cps.toList.getLast? = some c → ¬ isF c) := by
  have e : Txt.rstripChars t "0123456789" = strSub t 0 (stripHi ("0123456789" : Str).cps.contains true t 0) := by
    unfold Txt.rstripChars
    rw [stripBy_eq]
    rfl
  obtain ⟨_, h1, h2, h3⟩ := hi_facts ("0123456789" : Str).cps.contains t 0 (Nat.zero_le _)
  revert e h1 h2 h3
  generalize stripHi ("0123456789" : Str).cps.contains true t 0 = hi
  intro e h1 h2 h3
  have hl : t.cps.toList.length = t.length := Array.length_toList
  have e2 : (Txt.rstripChars t "0123456789").cps.toList = t.cps.toList.take hi := by
    rw [e]
    show (t.cps.extract 0 hi).toList = _
    simp
  rw [e2]
  refine ⟨t.cps.toList.drop hi, (List.take_append_drop hi _).symm, fun c hc => ?_, fun c hc => ?_⟩
  · obtain ⟨j, hj, ej⟩ := List.mem_iff_getElem.mp hc
    rw [List.getElem_drop] at ej
    rw [List.length_drop, hl] at hj
    have := h2 (hi + j) (by omega) (by omega)
    rw [← getD_list] at this
    rw [List.getD_eq_getElem?_getD, List.getElem?_eq_getElem (by rw [hl]; omega), ej] at this
    exact (fig_has c).mp this
  · rcases h3 with h3 | h3
    · rw [h3] at hc; simp at hc
    · intro hf
      rw [← getD_list] at h3
      have hp : 0 < hi := by
        cases hi with
        | zero => simp at hc
        | succ n => omega
      rw [List.getLast?_eq_getElem?, List.length_take, hl, Nat.min_eq_left h1, List.getElem?_take_of_lt (by omega)] at hc
      rw [List.getD_eq_getElem?_getD, hc] at h3
      exact absurd ((fig_has c).mpr hf) (by rw [show (some c).getD 0 = c from rfl] at h3; rw [h3]; decide)
/-- a text told by its signs -/
theorem str_ext {s t : Str} (h : s.cps.toList = t.cps.toList) : s = t := by
  cases s with
  | mk a =>
    cases t with
    | mk b =>
      have : a = b := by
        cases a; cases b
        simpa using h
      rw [this]
theorem cut_from (t : Str) (n : Nat) : (cutS t (some (n : Int)) none).cps.toList = t.cps.toList.drop n := by
  unfold cutS
  show (List.take (HT.sIx t.length t.length none - HT.sIx t.length 0 (some ((n : Nat) : Int))) (List.drop (HT.sIx t.length 0 (some ((n : Nat) : Int))) t.cps.toList)).toArray.toList = _
  rw [HT.sIx_none, HT.sIx_nat]
  have hl : t.length = t.cps.toList.length := Array.length_toList.symm
  rw [hl]
  simp only [List.toList_toArray]
  by_cases h : n ≤ t.cps.toList.length
  · rw [Nat.min_eq_left h, List.take_of_length_le (by simp)]
  · rw [Nat.min_eq_right (by omega), List.drop_eq_nil_of_le (Nat.le_refl _), List.drop_eq_nil_of_le (by omega)]
    simp
/-- canonical figures are the text of their number -/
theorem numL_of {cs : List Nat} (h : ∀ c ∈ cs, isF c) (h1 : cs ≠ []) (h0 : cs.head? ≠ some 48 ∨ cs = [48]) : cs = numL (NumText.digitsVal cs) := by
  unfold numL
  have e : Nat.toDigits 10 (NumText.digitsVal cs) = cs.map Char.ofNat := by
    cases cs with
    | nil => exact absurd rfl h1
    | cons c r =>
      refine NumText.toDigits_digitsVal r.length (c :: r) rfl h ?_
      rcases h0 with h0 | h0
      · right
        refine ⟨c, r, rfl, ?_⟩
        have := (h c List.mem_cons_self).1
        by_cases hc : c = 48
        · subst hc; exact absurd rfl h0
        · omega
      · left
        injection h0 with _ h0
        rw [h0]; rfl
  rw [e, List.map_map]
  refine (List.map_id'' (f := fun c => c) (fun c => rfl) cs).symm.trans ?_
  · refine List.map_congr_left fun c hc => ?_
    have := h c hc
    have key : ∀ k : Nat, k < 10 → (Char.ofNat (48 + k)).toNat = 48 + k := by decide
    have := key (c - 48) (by unfold isF at this; omega)
    rw [show 48 + (c - 48) = c by unfold isF at *; omega] at this
    exact this.symm
theorem numL_head : ∀ {n : Nat}, 0 < n → (numL n).head? ≠ some 48 := fun {n} => by
  induction n using Nat.strongRecOn with
  | _ n ih =>
    intro h
    by_cases h10 : n < 10
    · rw [numL_lt h10]
      intro e
      injection e with e
      omega
    · rw [numL_step (by omega)]
      have := ih (n / 10) (by omega) (by omega)
      cases hn : numL (n / 10) with
      | nil => exact absurd hn (numL_ne _)
      | cons c r =>
        rw [hn] at this
        exact this
/-! ### a call without arguments -/
section
variable {S : Sit} {pos p : Pos} {M : MD} {k n : Nat} {x : Str}
theorem pe_callS0 {X : Cx} {CX : CXT} {k : Nat} {f : Addr} {fd : FuncData} {ps : List Str} {sp : Sp} {E : L2.St → XK} (F : FnOk X.prog X.w X.K X.mg X.base CX k f fd ps sp) (hr : L2.Room k X.A) (hg : Gl X x) (hm : X.mg x = some (.ref f)) (hk : PySem.W.keepIn X.K (.ref f) = true) (hb : Binds X.K fd ps []) (hx : ∀ σ, PassesAt CX X σ (E σ))
    (hdb : (x == ("__debug__" : Str)) = false := by decide) : PE X (.Call (.Name x p) [] [] pos) (fun σ H Q => sp [] H Q (E σ)) := by
  refine ⟨fun pins s σ H Q I h => ?_⟩
  refine wpAny_Call_Name_kw (ld_glob I hg hm ?_ hdb)
  exact PySem.W.callWith_K0 I.kIn hk (run_fnS (us := []) (vs := []) F hr hb (hx σ) I .nil h)
theorem je_call0 {Γ : Gm} (jx : JX S) (F : Cal Γ k x n M) (hr : L2.Room k S.X.A) (hg : Gl S.X x) (hdb : (x == ("__debug__" : Str)) = false := by decide) (hG : S.gm = Γ := by rfl) : JE S (.Call (.Name x p) [] [] pos) (eCall S.ex M aNil) := by
  subst hG
  obtain ⟨W, tk, hW⟩ := jx
  obtain ⟨f, fd, ps, _, F, hm, hk, hb⟩ := F.ex
  refine ⟨fun G H σ ρ Q R q => WX.of (pe_callS0 F hr hg hm hk hb (fun σ => passAt tk σ) hdb) ?_⟩
  exact sp_of hW R (Same.refl H) .nil q
end
/-! ### sorted(a list of ints) -/
def cSorted : RDs := fun ds Q => ∃ (ns : List Int) (d : D), ds = [d] ∧ DD.seqD d = some (intsD ns) ∧ ∀ ns' : List Int, ns'.Perm ns → ns'.Pairwise (· ≤ ·) → Q (.own (intsD ns'))
theorem k_sorted {S : Sit} : DCall S (.builtin "sorted") cSorted := .of fun H0 G H xs ds Q s0 gh r h => by
  obtain ⟨ns, d, rfl, ed, h⟩ := h
  have kk := S.kk
  obtain ⟨v, rfl, rv, _⟩ := r.one
  obtain ⟨p, vs, rfl, hp, ra⟩ := rv.seqD gh ed
  refine ⟨_, cr_sortedI, p, ns, rfl, ?_, fun ns' p' h1 h2 hq => ?_⟩
  · rw [← kk, ← reps_ints ra]; exact hp
  · obtain ⟨z1, z2⟩ := new_own s0 gh hq (ints_reps (ns := ns'))
    exact ⟨G, _, z1, z2, h _ h1 h2⟩
/-- while x != [] and x[-1] == 0: x.pop() -/
theorem while_strip2 {i : Nat} {r : List Int} {ρ : Env} {E : DE} (hi : ρ[i]? = some (some (.own (intsD r)))) (done : ∀ (s : List Int) (n : Nat), r = s ++ List.replicate n 0 → s.getLast? ≠ some 0 → Nx E.nx (put ρ i (some (.own (intsD s))))) :
    dWhile (dAnd (dTest (eOp (DD.rEq true) (eVar i) (eLst aNil))) (dTest (eOp (DD.rEq false) (eOp DD.rIxD (eVar i) (eNeg (eC (.int 1)))) (eC (.int 0))))) (dMut i mPop aNil) E ρ := by
  have lt : i < ρ.length := (List.getElem?_eq_some_iff.mp hi).1
  refine ⟨fun n ρ2 => ∃ (s : List Int) (m : Nat), n = s.length ∧ r = s ++ List.replicate m 0 ∧ ρ2 = ρ.set i (some (.own (intsD s))), ⟨r.length, ρ, Weak.refl _, r, 0, rfl, by simp, ?_⟩, ?_⟩
  · apply List.ext_getElem?
    intro j
    by_cases hj : i = j
    · subst hj
      rw [List.getElem?_set_self lt, hi]
    · rw [List.getElem?_set_ne hj]
  · rintro n _ ⟨s, m, rfl, er, rfl⟩
    have out : s.getLast? ≠ some 0 → E.nx (ρ.set i (some (.own (intsD s)))) := fun h => (done s m er h).getS
    have hl := ints_len s
    unfold dAnd dTest eOp eVar dMut eLst
    simp only [List.getElem?_set_self lt, borO, frzO, aNil, eC, eNeg]
    refine ⟨rfl, Nat.zero_le _, ?_⟩
    refine rEq_rows (r := s) (s := []) rfl rfl ?_
    cases hs : s.getLast? with
    | none =>
      have e0 : s = [] := by simpa using hs
      rw [if_pos rfl, decide_eq_true e0]
      exact ⟨(fun z => nomatch z), fun _ => ⟨(fun z => nomatch z), fun _ => out (by rw [hs]; simp)⟩⟩
    | some x =>
      have ne : s ≠ [] := fun z => by rw [z] at hs; cases hs
      rw [if_pos rfl, decide_eq_false ne]
      refine ⟨fun _ => ix_borz hs (rEq_i0 ⟨fun z => ?_, fun z => out ?_⟩), fun z => nomatch z⟩
      · have hx : x = 0 := of_decide_eq_true z
        subst hx
        have e1 : s = s.dropLast ++ [0] := by
          have := (List.dropLast_concat_getLast ne).symm
          rw [List.getLast?_eq_some_getLast ne] at hs
          rw [Option.some.inj hs] at this
          exact this
        have e2 : (intsD s).dropLast = intsD s.dropLast := by unfold intsD; rw [List.map_dropLast]
        have pos : 0 < s.length := List.length_pos_iff.mpr ne
        show intsD s ≠ [] ∧ Nx _ (put _ i (some (.own (intsD s).dropLast)))
        refine ⟨fun q => ?_, .of ⟨s.dropLast.length, _, by rw [List.length_dropLast]; omega, Weak.refl _, s.dropLast, m + 1, rfl, ?_, ?_⟩⟩
        · rw [q] at hl; simp at hl; omega
        · rw [er, List.replicate_succ]
          conv => lhs; rw [e1]
          simp
        · rw [put_eq, List.set_set, e2]
      · rw [hs]
        intro q
        rw [Option.some.inj q] at z
        simp at z
end DD

set_option Elab.async false
set_option linter.all false
set_option maxRecDepth 100000
set_option maxHeartbeats 2000000
namespace DD
open PySem PySem.Spec PyProof.Rows L2
/-! ### a list of one's own within a tuple that a call gave: known as frozen, then changed -/
def sitQ (Γ : Gm) (N : List Str) (qual : Str) (sc : Scope) (f : Addr) (cdv : Value) (A : Around) (outer : List PySem.Env) (s : Shared) (H : Hp) (E : XK) (G0 : Hp) (P : Out → Prop) (k0 : Nat) (q : Addr) : Sit where
  X := cxOf (L2.CX Γ.P Γ.w) Γ.P Γ.w Γ.K Γ.mg Γ.base N qual sc f cdv A outer s H E
  nm := Γ.nm
  G0 := G0
  B := H
  ex := fun C _ => P (.exn C)
  kk := Γ.kk
  ww := Γ.ww
  pp := ⟨none, [(k0, q)]⟩
theorem fnQ {Γ : Gm} {x qual : Str} {st : Stmt} {f : Addr} {fd : FuncData} {N ps : List Str} {k : Nat} {M : MD} (k0 : Nat) (F : Fun Γ.K x qual st f fd) (Sc : FnScope N ps (defScope st)) (hl : ∀ ds P, M ds P → ds.length = ps.length) (hk0 : ∀ ds P, M ds P → ∃ l, ds[k0]? = some (.lst l))
    (hb : ∀ (cdv : Value) (A : Around) (outer : List PySem.Env) (s : Shared) (H : Hp) (E : XK) (G0 : Hp) (ds : List D) (P : Out → Prop) (q : Addr), H q ≠ none → Same G0 H →
      JX (sitQ Γ N qual (defScope st) f cdv A outer s H E G0 P k0 q) → Room k (sitQ Γ N qual (defScope st) f cdv A outer s H E G0 P k0 q).X.A → PassesOwn (model Γ.P Γ.w) (sitQ Γ N qual (defScope st) f cdv A outer s H E G0 P k0 q).X.A (sitQ Γ N qual (defScope st) f cdv A outer s H E G0 P k0 q).X.env (sitQ Γ N qual (defScope st) f cdv A outer s H E G0 P k0 q).X.xe → M ds P →
      ∃ t, JSs (sitQ Γ N qual (defScope st) f cdv A outer s H E G0 P k0 q) (defBody st) t ∧ Nx (fun ρ => t { nx := fun _ => P (.ret .non), rt := fun d => P (.ret d) } ρ) (startD N ds)) :
    FnOk Γ.P Γ.w Γ.K Γ.mg Γ.base (L2.CX Γ.P Γ.w) (k + 1) f fd ps (spD Γ.nm M) := by
  refine F.okX Sc (fun vs H Q E h => ?_) fun cdv A outer s H vs Q E hr hsp => ?_
  · obtain ⟨G, ds, P, _, r, m, _⟩ := h
    rw [r.length]
    exact hl ds P m
  · obtain ⟨G, ds, P, gh, r, m, hret, hexn⟩ := hsp
    obtain ⟨l, el⟩ := hk0 ds P m
    obtain ⟨v, ev, rv⟩ := r.get el
    obtain ⟨q, rfl, hq1⟩ : ∃ q, v = .ref q ∧ G q ≠ none := by
      cases rv with
      | lst e _ => exact ⟨_, rfl, by rw [e]; exact fun z => by cases z⟩
    have hq2 : H q ≠ none := by
      cases e : G q with
      | none => exact absurd e hq1
      | some o => rw [gh q o e]; exact fun z => by cases z
    have jx : JX (sitQ Γ N qual (defScope st) f cdv A outer s H E G P k0 q) :=
      ⟨fun cls d _ H' => E cls d H', takes_of rfl rfl rfl rfl, fun G' H' σ ρ C R p => hexn C H' R.bh p⟩
    obtain ⟨t, ht, hq⟩ := hb cdv A outer s H E G ds P q hq2 gh jx hr (passes_of rfl) m
    have R0 := start_rel (N := N) gh r
    have R1 : DD.Rel Γ.nm G H ⟨none, [(k0, q)]⟩ G H (L2.start N vs) (startD N ds) := ⟨R0.ext, R0.len, R0.slot, R0.apart, fun i p z => by
      rcases z with z | z
      · cases z
      · rw [List.mem_singleton] at z
        cases z
        unfold L2.start
        have hj := (List.getElem?_eq_some_iff.mp ev).1
        rw [List.getElem?_append_left (by simpa using hj), List.getElem?_map, ev]
        rfl⟩
    refine ⟨_, pss_w, (ht.run G H (L2.start N vs) (startD N ds) _ R1 hq.get).mono (fun σ' H' ⟨G', ρ', R', _, q⟩ => ?_) (fun v H' ⟨G', d, x, rv, nb, q⟩ => ?_) (fun _ _ ⟨_, _, _, _, q⟩ => q.elim) (fun _ _ ⟨_, _, _, _, q⟩ => q.elim)⟩
    · exact hret G' H' .non .non R'.ext (.of .non) rfl q
    · exact hret G' H' v d x rv nb q
abbrev Sit.at (S : Sit) (G : Hp) (l : List (Nat × Addr)) : Sit := { S with G0 := G, pp := ⟨none, l⟩ }
/-- what holds of the ground G at which a tail begins -/
structure AtOk (S : Sit) (G : Hp) (l : List (Nat × Addr)) : Prop where
  ext : ∃ H, Ext S.B S.G0 S.B G H
  sub : ∀ z ∈ S.pp.l, z ∈ l
  no : S.pp.o = none
  ft : S.tt = false
section
variable {S : Sit} {G : Hp} {l : List (Nat × Addr)}
theorem Rel.at_up (k : AtOk S G l) {G' H' : Hp} {σ : L2.St} {ρ : Env} (R : (S.at G l).Rel G' H' σ ρ) : S.Rel G' H' σ ρ := by
  obtain ⟨Hx, hx⟩ := k.ext
  exact ⟨Ext.up hx R.ext, R.len, R.slot, R.apart, fun i p z => R.pin i p (.inr (by
    rcases z with z | z
    · rw [k.no] at z; cases z
    · exact k.sub _ z))⟩
theorem wR_at (k : AtOk S G l) {v : V} {H : Hp} {rt : D → Prop} (h : wR (S.at G l) v H rt) : wR S v H rt := by
  obtain ⟨Hx, hx⟩ := k.ext
  unfold wR at h
  rw [show (S.at G l).tt = false from k.ft] at h
  obtain ⟨G', d, x, r, nb, w⟩ := h
  exact wR_false k.ft ⟨G', d, Ext.up hx x, r, nb, wRt_none k.no w⟩
theorem jx_at (k : AtOk S G l) (jx : JX S) : JX (S.at G l) := by
  obtain ⟨W, tk, hW⟩ := jx
  exact ⟨W, tk, fun G' H' σ ρ C R p => hW G' H' σ ρ C (Rel.at_up k R) p⟩
/-- the ends of a tail that always gives back -/
def liftW (S : Sit) (E : DE) : Ends where
  nx := fun _ _ => False
  rt := fun v H => wR S v H E.rt
  bk := fun _ _ => False
  ct := fun _ _ => False
structure JSx (S' S : Sit) (sts : List Stmt) (u : TDS) : Prop where
  run : ∀ (G H : Hp) (σ : L2.St) (ρ : Env) (E : DE), S'.Rel G H σ ρ → u E ρ → WSs S'.X sts (liftW S E) σ H
def dSeqX (t u : TDS) : TDS := fun E ρ => t { nx := u E, rt := E.rt } ρ
theorem jx_cons {st : Stmt} {sts : List Stmt} {t u : TDS} (k : AtOk S G l) (h1 : JS (S.at G l) st t) (h2 : JSx (S.at G l) S sts u) : JSx (S.at G l) S (st :: sts) (dSeqX t u) := by
  refine ⟨fun G' H σ ρ E R h => WSs.of (pss_cons ps_w pss_w) ?_⟩
  exact (h1.run G' H σ ρ _ R h).mono (fun σ' H' ⟨G1, ρ', R', _, q⟩ => h2.run G1 H' σ' ρ' E R' q) (fun _ _ q => wR_at k q) (fun _ _ ⟨_, _, _, _, q⟩ => q.elim) (fun _ _ ⟨_, _, _, _, q⟩ => q.elim)
end
/-- what may stand in a slot where the tuple's list is changed -/
inductive ThOk : D → Prop where
  | non : ThOk .non
  | bl (b : Bool) : ThOk (.bl b)
  | int (i : Int) : ThOk (.int i)
  | str (x : Str) : ThOk (.str x)
  | own (r : List Int) : ThOk (.own (intsD r))
  | ins (C : Str) (ns : List Str) (r : List Int) : ThOk (.ins C ns (intsD r))
def less (G : Hp) (p a : Addr) : Hp := fun b => if b = p ∨ b = a then none else G b
theorem less_ne {G : Hp} {p a b : Addr} (h1 : b ≠ p) (h2 : b ≠ a) : less G p a b = G b := if_neg (by simp [h1, h2])
theorem less_p {G : Hp} {p a : Addr} : less G p a p = none := if_pos (.inl rfl)
theorem less_a {G : Hp} {p a : Addr} : less G p a a = none := if_pos (.inr rfl)
theorem less_some {G : Hp} {p a b : Addr} {o : HO} (h : less G p a b = some o) : G b = some o ∧ b ≠ p ∧ b ≠ a := by
  unfold less at h
  split at h
  · cases h
  · rename_i z
    exact ⟨h, fun e => z (.inl e), fun e => z (.inr e)⟩
def dThaw (j k : Nat) (f : RM) (t : TDs) (v : TDS) : TDS := fun E ρ => ∃ (l row : List Int) (z : Int), ρ[j]? = some (some (.tup [.lst (intsD l), .int z])) ∧ ρ[k]? = some (some (.lst (intsD row))) ∧ (∀ (i : Nat) (d : D), i ≠ j → i ≠ k → ρ[i]? = some (some d) → ThOk d) ∧
  t ρ fun ds => f (intsD l) ds fun _ => Nx (fun ρ1 => v { nx := fun _ => False, rt := E.rt } ρ1) (ρ.set j none)
/-- x[0].append(..) -/
theorem jx_thaw {S : Sit} {G4 : Hp} {j k : Nat} {a p q : Addr} {v1 : V} {ws0 : List V} {x : Str} {name : Str} {id : String} {f : RM} {px pc0 psx apos cpos pos : Pos} {kc : Nat} {e : Expr} {es : List Expr} {t : TDs} {rest : List Stmt} {v : TDS}
    (hok : AtOk S G4 [(j, a), (k, q)]) (hGB : Same S.G0 S.B) (hl : S.pp.l = [(k, q)]) (ga : G4 a = some (.tup [.ref p, v1])) (gp : G4 p = some (.lst ws0)) (bp : S.B p = none) (ba : S.B a = none) (bq : S.B q ≠ none)
    (slot : Slot "list" name id) (hty : typeOf (.builtin id) = pure (.type "method_descriptor")) (hf : DMut (S.at G4 [(j, a), (k, q)]) id f) (ho : PE S.X (.Name x px) (tVar j)) (ha : JA' (S.at G4 [(j, a), (k, q)]) (e :: es) t)
    (hrest : ∀ G2 : Hp, AtOk S G2 [(k, q)] → JSs (S.at G2 [(k, q)]) rest v)
    (hbase : attributeBase (.Subscript (.Name x px) (.Constant (.int 0) kc pc0) psx) name S.X.env (eval (.Subscript (.Name x px) (.Constant (.int 0) kc pc0) psx) S.X.env) = eval (.Subscript (.Name x px) (.Constant (.int 0) kc pc0) psx) S.X.env := by rfl)
    (hfew : ((backTo cpos (starEach (e :: es) S.X.env)).all (fun x => !x.1) && (backToKw cpos (keywordEach [] S.X.env)).all (fun x => x.1.isSome)
      && decide ((e :: es).length + ([] : List Keyword).length + (if ([] : List Keyword).isEmpty then 0 else 1) < 30)) = true := by rfl)
    (hline : (apos.endLine == cpos.line) = true := by rfl) (hst : starEach (e :: es) S.X.env = (false, eval e S.X.env) :: starEach es S.X.env := by rfl) (hplain : (backTo cpos (starEach es S.X.env)).any (·.1) = false := by rfl)
    (hs : swapsWith (.Call (.Attribute (.Subscript (.Name x px) (.Constant (.int 0) kc pc0) psx) name apos) (e :: es) [] cpos) none pos.line S.X.env = pure false := by rfl) :
    JSx (S.at G4 [(j, a), (k, q)]) S (.Expr (.Call (.Attribute (.Subscript (.Name x px) (.Constant (.int 0) kc pc0) psx) name apos) (e :: es) [] cpos) pos :: rest) (dThaw j k f t v) := by
  refine ⟨fun G H σ ρ E R h => WSs.of (pss_cons (ps_expr (pe_bm PySem.F.plainAttrs_list slot hty mt_sem (pe_ix L2.ix_tup ho pe_int (fun _ _ => rfl)) pa_w hbase hfew hline hst hplain) hs) pss_w) ?_⟩
  obtain ⟨l, row, z, ej, ek, hoth, h⟩ := h
  have kk := S.kk
  have sj := R.pin j a (.inr (by simp))
  have ga' : G a = some (.tup [.ref p, v1]) := R.ext.g _ _ ga
  have gp' : G p = some (.lst ws0) := R.ext.g _ _ gp
  have hp' : H p = some (.lst ws0) := R.gh _ _ gp'
  have rl : Reps S.nm G ws0 (intsD l) := by
    obtain ⟨u, h1, h2, _⟩ := R.slot j _ ej
    rw [sj] at h1
    cases h1
    have h2 : Rep S.nm G (.ref a) (.tup [.lst (intsD l), .int z]) := h2
    cases h2 with
    | tup e1 r =>
      rw [ga'] at e1
      cases e1
      cases r with
      | cons r0 _ =>
        cases r0 with
        | lst e2 r2 =>
          rw [gp'] at e2
          cases e2
          exact r2
  refine ⟨.ref a, sj, a, [.ref p, v1], 0, .ref p, rfl, rfl, .inl (.inl (R.gh _ _ ga')), rfl, .inl ⟨rfl, ws0, .inl (.inl hp')⟩, (ha.run G H σ ρ _ R h).mono fun ws H1 ⟨G1, ds, x1, r1, q1⟩ => ?_⟩
  have R1 := R.go x1
  obtain ⟨r, vs', l', h1, h2, h3, h4⟩ := hf G1 H1 p ws0 ws (intsD l) ds _ (x1.h _ _ hp') x1.gh (rl.mono x1.g) r1 q1
  intro pins s σ' u us I rx rs
  refine h1 pins s σ' H1 (.ref p) ws u us _ I rx rs (h4 _ fun w => ?_)
  have ga1 : G1 a = some (.tup [.ref p, v1]) := x1.g _ _ ga'
  have gp1 : G1 p = some (.lst ws0) := x1.g _ _ gp'
  have R2 : (S.at (less G4 p a) [(k, q)]).Rel (less G1 p a) (upd H1 p (.lst vs')) σ (ρ.set j none) := by
    refine ⟨⟨fun b o eb => ?_, fun b o eb => ?_, fun b o eb => ?_, fun b eb nb => ?_⟩, by rw [List.length_set]; exact R1.len, fun i d ei => ?_, fun i i' l1 l2 p2 hi hi' hne e1 e2 => ?_, fun i p2 zz => ?_⟩
    · obtain ⟨e1, e2, e3⟩ := less_some eb
      rw [less_ne e2 e3]
      exact R1.ext.g _ _ e1
    · rw [upd_ne (fun zz => by rw [zz, bp] at eb; cases eb)]
      exact R1.ext.h _ _ eb
    · obtain ⟨e1, e2, e3⟩ := less_some eb
      rw [upd_ne e2]
      exact R1.gh _ _ e1
    · by_cases c1 : b = p
      · rw [c1]; exact less_p
      · by_cases c2 : b = a
        · rw [c2]; exact less_a
        · have eb : less G4 p a b = none := eb
          rw [less_ne c1 c2] at eb ⊢
          exact R1.ext.new b eb nb
    · by_cases hij : j = i
      · subst hij
        by_cases hjl : j < ρ.length
        · rw [List.getElem?_set_self hjl] at ei; cases ei
        · rw [List.getElem?_eq_none (by simpa using hjl)] at ei; cases ei
      · rw [List.getElem?_set_ne hij] at ei
        obtain ⟨u2, k1, k2, k3⟩ := R1.slot i d ei
        by_cases hik : i = k
        · subst hik
          rw [ek] at ei
          cases ei
          have sk := R1.pin i q (.inr (by simp))
          rw [sk] at k1
          cases k1
          refine ⟨_, sk, .of ?_, rfl⟩
          have k2 : Rep S.nm G1 (.ref q) (.lst (intsD row)) := k2
          cases k2 with
          | lst e1 r2 =>
            rw [reps_ints r2] at e1
            refine .lst (vs := row.map V.int) ?_ ints_reps
            rw [less_ne (fun zz => bq (by rw [zz]; exact bp)) (fun zz => bq (by rw [zz]; exact ba))]
            exact e1
        · refine ⟨u2, k1, ?_, k3⟩
          have tk := hoth i d (fun zz => hij zz.symm) hik ei
          cases tk with
          | non => cases k2; exact .of .non
          | bl b => cases k2; exact .of (.bl b)
          | int n => cases k2; exact .of (.int n)
          | str n => cases k2; exact .of (.str n)
          | own rr =>
            obtain ⟨p2, vs2, rfl, a1, a2, a3, a4⟩ := k2
            have np : p2 ≠ p := fun zz => by rw [zz, gp1] at a2; cases a2
            have na : p2 ≠ a := fun zz => by rw [zz, ga1] at a2; cases a2
            refine ⟨p2, vs2, rfl, by rw [upd_ne np]; exact a1, by rw [less_ne np na]; exact a2, a3, ?_⟩
            rw [reps_ints a4]
            exact ints_reps
          | ins C ns rr =>
            have k2 : Rep S.nm G1 u2 (.ins C ns (intsD rr)) := k2
            refine .of ?_
            cases k2 with
            | ins e1 r2 =>
              rename_i b dx vs2
              have np : b ≠ p := fun zz => by rw [zz, gp1] at e1; cases e1
              have na : b ≠ a := fun zz => by rw [zz, ga1] at e1; cases e1
              rw [reps_ints r2] at e1
              refine Rep.ins (dx := dx) (vs := rr.map V.int) ?_ ints_reps
              show less G1 p a b = _
              rw [less_ne np na]
              exact e1
    · have hi2 : ρ[i]? = some (some (.own l1)) := by
        by_cases hij : j = i
        · subst hij
          by_cases hjl : j < ρ.length
          · rw [List.getElem?_set_self hjl] at hi; cases hi
          · rw [List.getElem?_eq_none (by simpa using hjl)] at hi; cases hi
        · rw [List.getElem?_set_ne hij] at hi; exact hi
      have hi3 : ρ[i']? = some (some (.own l2)) := by
        by_cases hij : j = i'
        · subst hij
          by_cases hjl : j < ρ.length
          · rw [List.getElem?_set_self hjl] at hi'; cases hi'
          · rw [List.getElem?_eq_none (by simpa using hjl)] at hi'; cases hi'
        · rw [List.getElem?_set_ne hij] at hi'; exact hi'
      exact R1.apart i i' l1 l2 p2 hi2 hi3 hne e1 e2
    · rcases zz with zz | zz
      · cases zz
      · rw [List.mem_singleton] at zz
        cases zz
        exact R1.pin k q (.inr (by simp))
  have ok2 : AtOk S (less G4 p a) [(k, q)] := by
    obtain ⟨Hx, hx⟩ := hok.ext
    refine ⟨⟨upd H1 p (.lst vs'), fun b o eb => ?_, R2.ext.h, R2.ext.g.trans R2.ext.gh, fun b eb nb => ?_⟩, fun zz hz => by rw [hl] at hz; exact hz, hok.no, hok.ft⟩
    · have c1 : b ≠ p := fun zz => by rw [zz] at eb; have := hGB _ _ eb; rw [bp] at this; cases this
      have c2 : b ≠ a := fun zz => by rw [zz] at eb; have := hGB _ _ eb; rw [ba] at this; cases this
      rw [less_ne c1 c2]
      exact hx.g _ _ eb
    · by_cases c1 : b = p
      · rw [c1]; exact less_p
      · by_cases c2 : b = a
        · rw [c2]; exact less_a
        · rw [less_ne c1 c2]
          exact hx.new b eb nb
  exact ((hrest _ ok2).run _ _ σ _ _ R2 h3.get).mono (fun _ _ ⟨_, _, _, _, q⟩ => q.elim) (fun _ _ q => wR_at ok2 q) (fun _ _ ⟨_, _, _, _, q⟩ => q.elim) fun _ _ ⟨_, _, _, _, q⟩ => q.elim
/-- x = f(..), f answers with a tuple of a new list and a number: both are known as frozen till the list is changed -/
def dOpen (ex : TX) (M : MD) (t : TDs) (j : Nat) (u : TDS) : TDS := fun E ρ => j < ρ.length ∧ t ρ fun ds => oCallT ex ρ (ds.map frz) M fun d0 d1 => ∃ (l : List Int) (z : Int), d0 = .own (intsD l) ∧ d1 = .int z ∧ Nx (fun ρ1 => u E ρ1) (put ρ j (some (.tup [.lst (intsD l), .int z])))
theorem js_open {S : Sit} {Γ : Gm} {j k0 k n : Nat} {q : Addr} {x y : Str} {p py pc pos : Pos} {e : Expr} {es : List Expr} {sts : List Stmt} {M : MD} {t : TDs} {u : TDS} (jx : JX S) (F : CalT Γ k x n M) (hr : Room k S.X.A) (hg : Gl S.X x) (hl : S.pp.l = [(k0, q)]) (hno : S.pp.o = none) (hft : S.tt = false) (hjk : j ≠ k0)
    (hN : S.X.N.Nodup) (hi : S.X.N[j]? = some y) (hy : Loc S.X.env.scope y) (h : JA' S (e :: es) t)
    (htail : ∀ (G4 : Hp) (a p : Addr) (v1 : V) (ws0 : List V), AtOk S G4 [(j, a), (k0, q)] → G4 a = some (.tup [.ref p, v1]) → G4 p = some (.lst ws0) → S.B p = none → S.B a = none → JX (S.at G4 [(j, a), (k0, q)]) → JSx (S.at G4 [(j, a), (k0, q)]) S sts u)
    (hdb : (x == ("__debug__" : Str)) = false := by decide) (he : starEach (e :: es) S.X.env = (false, eval e S.X.env) :: starEach es S.X.env := by rfl) (hpl : (backTo pc (starEach es S.X.env)).any (·.1) = false := by rfl) (hG : S.gm = Γ := by rfl)
    (hs : swapsWith (.Call (.Name x p) (e :: es) [] pc) (some (.Name y py)) pos.line S.X.env = pure false := by rfl) (hf : S.X.fn y = true ∨ S.X.env.scope.names.lookup y = some .local := by first | exact .inl rfl | exact .inr rfl | assumption) :
    JSs S (.Assign [.Name y py] (.Call (.Name x p) (e :: es) [] pc) pos :: sts) (dOpen S.ex M t j u) := by
  have jx0 := jx
  subst hG
  obtain ⟨W, tk, hW⟩ := jx
  obtain ⟨f, fd, ps, _, F, hm, hk, hb⟩ := F.ex
  refine ⟨fun G H σ ρ E R ⟨hj, h0⟩ => WSs.of (pss_cons (ps_set hN hi hy (pe_callS F hr hg hm hk hb (fun σ => passAt tk σ) pa_w hdb he hpl) hs hf) pss_w) ?_⟩
  refine (h.run G H σ ρ _ R h0).mono fun vs H1 ⟨G1, ds, x1, r1, q1⟩ => ?_
  have R1 := R.go x1
  obtain ⟨GL, s1, t1, rs, fr, fe⟩ := r1.lend R1.gh
  refine ⟨GL, _, _, t1, rs, q1, fun GM H' a v0 v1 d0 d1 x20 fpt ept r00 rv10 nb1 pr => ?_, fun C H' sm pe => hW G1 H' σ ρ C (R1.go (Ext.grow R1.gh sm)) pe⟩
  obtain ⟨l, z, rfl, rfl, pr⟩ := pr
  obtain ⟨G', x2, r0⟩ := unlend (Same.refl H1) s1 t1 fr x20 r00.1 (ok_ints l)
  have rv1 : RepV S.nm H1 G' H' v1 (.int z) := by
    cases repV_int rv10
    exact .of (.int z)
  obtain ⟨p', ws, rfl, a1, a2, a3, a4⟩ := r0
  have r0 : RepV S.nm H1 G' H' (.ref p') (.own (intsD l)) := ⟨p', ws, rfl, a1, a2, a3, a4⟩
  obtain ⟨G3, x3, r3⟩ := r0.freeze x2.gh rfl
  have r3 : Rep S.nm G3 (.ref p') (.lst (intsD l)) := r3
  obtain ⟨ws0, g3⟩ : ∃ ws0, G3 p' = some (.lst ws0) := by
    cases r3 with
    | lst e _ => exact ⟨_, e⟩
  have ri : Rep S.nm G3 v1 (.int z) := by
    cases repV_int rv1
    exact .int z
  have ga : ∀ o, G3 a = some o → o = .tup [.ref p', v1] := fun o e => by
    have := x3.gh _ _ e
    rw [ept] at this
    exact (Option.some.inj this).symm
  have sm : Same G3 (upd G3 a (.tup [.ref p', v1])) := fun b o e => by
    by_cases hb : b = a
    · subst hb; rw [upd_same, ga o e]
    · rw [upd_ne hb]; exact e
  have hpt : H1 a = none := fpt
  have y4 : Ext H1 G1 H1 (upd G3 a (.tup [.ref p', v1])) H' := by
    refine ⟨x2.g.trans (x3.g.trans sm), x2.h, fun b o e => ?_, fun b eb nb => ?_⟩
    · by_cases hb : b = a
      · subst hb; rw [upd_same] at e; cases e; exact ept
      · rw [upd_ne hb] at e; exact x3.gh _ _ e
    · have hba : b ≠ a := fun zz => nb (by rw [zz]; exact hpt)
      rw [upd_ne hba]
      exact x3.new b (x2.new b eb nb) nb
  have rt : Rep S.nm (upd G3 a (.tup [.ref p', v1])) (.ref a) (.tup [.lst (intsD l), .int z]) := .tup upd_same (.cons (Rep.mono sm _ _ r3) (.cons (Rep.mono sm _ _ ri) .nil))
  have np : npb S.pp j = true := by
    unfold npb
    rw [hno, hl]
    show (true && (k0 != j && true)) = true
    simp only [Bool.true_and, Bool.and_true, bne_iff_ne, ne_eq]
    exact fun zz => hjk zz.symm
  have R4 : S.Rel (upd G3 a (.tup [.ref p', v1])) H' (σ.set j (some (.ref a))) (ρ.set j (some (.tup [.lst (intsD l), .int z]))) := R1.set j y4 (.of rt) rfl np
  have free : ∀ b, H1 b = none → S.B b = none := fun b e => by
    cases q : S.B b with
    | none => rfl
    | some o => rw [R1.bh _ _ q] at e; cases e
  have ok4 : AtOk S (upd G3 a (.tup [.ref p', v1])) [(j, a), (k0, q)] := ⟨⟨H', R4.ext⟩, fun zz hz => by rw [hl] at hz; exact List.mem_cons_of_mem _ hz, hno, hft⟩
  have hpa : p' ≠ a := fun zz => by rw [zz, ept] at a1; cases a1
  have R5 : (S.at (upd G3 a (.tup [.ref p', v1])) [(j, a), (k0, q)]).Rel (upd G3 a (.tup [.ref p', v1])) H' (σ.set j (some (.ref a))) (ρ.set j (some (.tup [.lst (intsD l), .int z]))) := by
    refine ⟨⟨Same.refl _, R4.ext.h, R4.gh, fun _ e _ => e⟩, R4.len, R4.slot, R4.apart, fun i b zz => ?_⟩
    rcases zz with zz | zz
    · cases zz
    · rcases List.mem_cons.mp zz with zz | zz
      · cases zz
        rw [List.getElem?_set_self (by rw [← R.len]; exact hj)]
      · exact R4.pin i b (.inr (by rw [hl]; exact zz))
  have tail := htail _ a p' v1 ws0 ok4 upd_same (by rw [upd_ne hpa]; exact g3) (free _ a3) (free _ fpt) (jx_at ok4 jx0)
  exact (tail.run _ _ _ _ E R5 pr.getS).mono (fun _ _ z => z.elim) (fun _ _ q => q) (fun _ _ z => z.elim) fun _ _ z => z.elim
/-- f(..)[0], f answers with a tuple of a new list and a number -/
def eIxO (ex : TX) (M : MD) (t : TDs) : TD := fun ρ Q => t ρ fun ds => oCallT ex ρ (ds.map frz) M fun d0 d1 => ∃ l : List Int, d0 = .own (intsD l) ∧ Q (.own (intsD l))
theorem je_ixO {S : Sit} (ex : TX) {Γ : Gm} {k n : Nat} {x : Str} {p pc pos : Pos} {e e2 : Expr} {es : List Expr} {M : MD} {t : TDs} (jx : JX S) (F : CalT Γ k x n M) (hr : Room k S.X.A) (hg : Gl S.X x) (h : JA' S (e :: es) t) (hi : JE S e2 (eC (.int 0))) (hdb : (x == ("__debug__" : Str)) = false := by decide)
    (he : starEach (e :: es) S.X.env = (false, eval e S.X.env) :: starEach es S.X.env := by rfl) (hpl : (backTo pc (starEach es S.X.env)).any (·.1) = false := by rfl) (hG : S.gm = Γ := by rfl) (hs : PlainIx e2 := by exact fun _ _ => rfl) (hex : S.ex = ex := by rfl) :
    JE S (.Subscript (.Call (.Name x p) (e :: es) [] pc) e2 pos) (eIxO ex M t) := by
  subst hG
  subst hex
  obtain ⟨W, tk, hW⟩ := jx
  obtain ⟨f, fd, ps, _, F, hm, hk, hb⟩ := F.ex
  refine ⟨fun G H σ ρ Q R q => WX.of (pe_ix (L2.ix_list.or (L2.ix_tup.or L2.ix_str)) (pe_callS F hr hg hm hk hb (fun σ => passAt tk σ) pa_w hdb he hpl) pe_w hs) ?_⟩
  refine (h.run G H σ ρ _ R q).mono fun vs H1 ⟨G1, ds, x1, r1, q1⟩ => ?_
  have R1 := R.go x1
  obtain ⟨GL, s1, t1, rs, fr, fe⟩ := r1.lend R1.gh
  refine ⟨GL, _, _, t1, rs, q1, fun GM H' a v0 v1 d0 d1 x20 fpt ept r00 rv10 nb1 pr => ?_, fun C H' sm pe => hW G1 H' σ ρ C (R1.go (Ext.grow R1.gh sm)) pe⟩
  obtain ⟨l, rfl, pr⟩ := pr
  obtain ⟨G', x2, r0⟩ := unlend (Same.refl H1) s1 t1 fr x20 r00.1 (ok_ints l)
  have R2 := R1.go x2
  refine (hi.run G' H' σ ρ (fun d => d = .int 0) R2 rfl).mono fun w H3 ⟨G3, dm, x3, r3, em⟩ => ?_
  subst em
  cases repV_int r3
  have y3 := (x1.trans (Ext.from x1.h x2)).trans (Ext.from (x1.h.trans x2.h) x3)
  have e3 : H3 a = some (.tup [v0, v1]) := x3.h _ _ ept
  exact .inr (.inl ⟨a, _, _, v0, rfl, rfl, .inl (.inl e3), rfl, G3, _, y3, (r0.ext x3).from x1.h, pr⟩)
end DD

set_option Elab.async false
set_option linter.all false
set_option maxRecDepth 100000
set_option maxHeartbeats 2000000
namespace DD
open PySem PySem.Spec PyProof.Rows L2
/-! ### two lists of ints, which is less -/
def ltI (r s : List Int) : Bool := PySem.SeqAt.firstLt (fun j => r.getD j 0 == s.getD j 0) (fun j => decide (r.getD j 0 < s.getD j 0)) (decide (r.length < s.length)) (List.range (min r.length s.length))
def rLtL : RD2 := fun d e Q => ∃ r s : List Int, DD.seqD d = some (intsD r) ∧ DD.seqD e = some (intsD s) ∧ Q (.bl (ltI r s))
theorem ints_vals : ∀ {ns : List Int} {its : List Value}, Vals (ns.map V.int) its → its.length = ns.length ∧ ∀ j (h : j < its.length), ∃ t, its[j] = .int (ns.getD j 0) t
  | [], _, .nil => ⟨rfl, fun j h => absurd h (Nat.not_lt_zero j)⟩
  | n :: ns, _, .cons r q => by
    obtain ⟨h1, h2⟩ := ints_vals q
    refine ⟨by simp [h1], fun j h => ?_⟩
    obtain ⟨t, e⟩ := r
    cases j with
    | zero => exact ⟨t, e⟩
    | succ j => exact h2 j (by simpa using h)
theorem o_ltR {S : Sit} (hu : S.X.A.units + 64 < cLine) : DOp S (compareOp .Lt) rLtL := .of fun H0 G H x y d e Q s0 gh rx ry h => by
  obtain ⟨r, s, ed, ee, h⟩ := h
  obtain ⟨p, vs, rfl, hp, ra⟩ := rx.seqD gh ed
  obtain ⟨q, us, rfl, hq, rb⟩ := ry.seqD gh ee
  have kk := S.kk
  refine ⟨fun x y H Q => ∃ p q, x = .ref p ∧ y = .ref q ∧ SqL S.nm.K H p (r.map V.int) ∧ SqL S.nm.K H q (s.map V.int) ∧ Q (.bl (ltI r s)) H, ?_, p, q, rfl, rfl, by rw [← reps_ints ra]; exact hp, by rw [← reps_ints rb]; exact hq, G, _, Ext.refl gh, .of (.bl _), h⟩
  intro pins s' σ H x y v u Q I rx ry h
  obtain ⟨p, q, rfl, rfl, h1, h2, q'⟩ := h
  cases rx
  cases ry
  rw [kk] at h1 h2
  obtain ⟨its, rv, hl, hz⟩ := I.list h1
  obtain ⟨its2, rv2, hl2, hz2⟩ := I.list h2
  obtain ⟨a1, a2⟩ := ints_vals rv
  obtain ⟨b1, b2⟩ := ints_vals rv2
  have k := PySem.SeqAt.RcLt.lists (A := S.X.A) (s := s') (e := fun j => r.getD j 0 == s.getD j 0) (r := fun j => decide (r.getD j 0 < s.getD j 0)) hl.isList hl2.isList (by omega) (fun j g1 g2 => by
    obtain ⟨t, e1⟩ := a2 j (by simpa using g1)
    obtain ⟨t2, e2⟩ := b2 j (by simpa using g2)
    rw [show its.toArray[j] = its[j]'(by simpa using g1) by simp, show its2.toArray[j] = its2[j]'(by simpa using g2) by simp, e1, e2]
    exact PySem.SeqAt.EqAt.int_int _ _ _ _) fun j g1 g2 _ => by
    obtain ⟨t, e1⟩ := a2 j (by simpa using g1)
    obtain ⟨t2, e2⟩ := b2 j (by simpa using g2)
    rw [show its.toArray[j] = its[j]'(by simpa using g1) by simp, show its2.toArray[j] = its2[j]'(by simpa using g2) by simp, e1, e2]
    exact fun prog w E Q h => PyProof.Rows.lt_int h
  refine k S.X.prog S.X.w S.X.xe _ ?_
  rw [List.size_toArray, List.size_toArray, a1, b1]
  exact ⟨.bl (ltI r s), H, I, rfl, q'⟩
end DD

set_option Elab.async false
set_option linter.all false
set_option maxRecDepth 100000
set_option maxHeartbeats 2000000
namespace DD
open PySem PySem.Spec PyProof.Rows L2
/-! ### less than noughts -/
theorem firstLt_map (e r : Nat → Bool) (f : Bool) : ∀ l : List Nat, PySem.SeqAt.firstLt e r f (l.map Nat.succ) = PySem.SeqAt.firstLt (fun j => e (j + 1)) (fun j => r (j + 1)) f l
  | [] => rfl
  | j :: t => by
    show (if e (j + 1) = true then PySem.SeqAt.firstLt e r f (t.map Nat.succ) else r (j + 1)) = _
    rw [firstLt_map e r f t]; rfl
theorem ltI_cons (x y : Int) (r s : List Int) (h : r.length = s.length) : ltI (x :: r) (y :: s) = if x = y then ltI r s else decide (x < y) := by
  unfold ltI
  rw [show min (x :: r).length (y :: s).length = min r.length s.length + 1 by simp [h], List.range_succ_eq_map]
  show (if (x == y) = true then PySem.SeqAt.firstLt _ _ _ ((List.range (min r.length s.length)).map Nat.succ) else decide (x < y)) = _
  rw [firstLt_map]
  by_cases e : x = y
  · rw [if_pos e, if_pos (by simp [e])]
    simp
  · rw [if_neg e, if_neg (by simp [e])]
theorem ltI_nil : ltI [] [] = false := rfl
namespace WayM
theorem plain_weight {b : Int} (hb : 2 ≤ b) (k : Nat) : 1 ≤ ((plain b).weight k).x ∧ ((plain b).weight (k + 1)).x = ((plain b).weight k).x * b := by
  have s : ∀ k, ((plain b).weight (k + 1)).x = ((plain b).weight k).x * b := fun k => by
    rw [weight_succ rfl, Num.mul_x, Num.y0 (a := (plain b).weight k) (by rw [weight_isP]; rfl), Int.zero_mul, Int.sub_zero]; rfl
  refine ⟨?_, s k⟩
  induction k with
  | zero => exact Int.le_refl _
  | succ k ih =>
    rw [s k]
    have := Int.mul_le_mul_of_nonneg_left (show (1 : Int) ≤ b by omega) (show 0 ≤ ((plain b).weight k).x by omega)
    omega
theorem plain_sign {b : Int} (hb : 2 ≤ b) {t : List Int} (h : ∀ x ∈ t, -(b - 1) ≤ x ∧ x ≤ b - 1) : ∀ i : Nat, i ≤ t.length →
    (-(((plain b).weight i).x - 1) ≤ ((plain b).val (t.take i)).x ∧ ((plain b).val (t.take i)).x ≤ ((plain b).weight i).x - 1) ∧ ltI (t.take i).reverse (List.replicate i 0) = decide (((plain b).val (t.take i)).x < 0)
  | 0, _ => by
    rw [List.take_zero, val_nil]
    exact ⟨⟨by show -((1 : Int) - 1) ≤ 0; decide, by show (0 : Int) ≤ 1 - 1; decide⟩, rfl⟩
  | i + 1, hi => by
    obtain ⟨⟨l, u⟩, e⟩ := plain_sign hb h i (by omega)
    have hx : t[i]? = some t[i] := List.getElem?_eq_getElem (by omega)
    have hm := h t[i] (List.getElem_mem _)
    obtain ⟨w1, w2⟩ := plain_weight hb i
    have vt := val_take (w := plain b) hx
    have vx : ((plain b).val (t.take (i + 1))).x = ((plain b).val (t.take i)).x + ((plain b).weight i).x * t[i] := by
      rw [vt, Num.add_x, Num.mul_x]; simp [Num.x, Num.y]
    rw [vx, w2, List.take_succ_eq_append_getElem (by omega), List.reverse_append, List.reverse_singleton, List.replicate_succ]
    show _ ∧ ltI (t[i] :: (t.take i).reverse) (0 :: List.replicate i 0) = _
    rw [ltI_cons _ _ _ _ (by simp; omega), e]
    generalize ((plain b).weight i).x = W at *
    generalize ((plain b).val (t.take i)).x = V at *
    generalize t[i] = x at *
    have h1 := Int.mul_le_mul_of_nonneg_left hm.2 (show 0 ≤ W by omega)
    have h2 := Int.mul_le_mul_of_nonneg_left hm.1 (show 0 ≤ W by omega)
    rw [Int.mul_sub, Int.mul_one] at h1
    rw [Int.mul_neg, Int.mul_sub, Int.mul_one] at h2
    refine ⟨⟨by omega, by omega⟩, ?_⟩
    by_cases x0 : x = 0
    · rw [if_pos x0, x0, Int.mul_zero, Int.add_zero]
    · rw [if_neg x0]
      by_cases xn : x < 0
      · have := Int.mul_le_mul_of_nonneg_left (show x ≤ -1 by omega) (show 0 ≤ W by omega)
        rw [decide_eq_true xn, decide_eq_true (show V + W * x < 0 by omega)]
      · have := Int.mul_le_mul_of_nonneg_left (show 1 ≤ x by omega) (show 0 ≤ W by omega)
        rw [decide_eq_false xn, decide_eq_false (show ¬ V + W * x < 0 by omega)]
theorem plain_less {b : Int} (hb : 2 ≤ b) {t : List Int} (h : ∀ x ∈ t, -(b - 1) ≤ x ∧ x ≤ b - 1) : ltI t.reverse (List.replicate t.length 0) = decide (((plain b).val t).x < 0) := by
  have := (plain_sign hb h t.length (Nat.le_refl _)).2
  rwa [List.take_length] at this
/-! ### a product's row -/
theorem mul_assoc3 (r W v : Num) (h1 : W.isP = v.isP) (h2 : r.isP = v.isP) : r.mul (W.mul v) = (W.mul r).mul v := by
  apply Num.ext'
  · rw [Num.mul_isP, Num.mul_isP, Num.mul_isP, Num.mul_isP, h1, h2]; simp
  · simp only [Num.mul_x, Num.mul_y]; grind
  · simp only [Num.mul_x, Num.mul_y]; grind
def shiftL (i : Nat) (b : List Int) : List Int := List.replicate i 0 ++ b
theorem val_shift {w : WayM} (h : w.one = true) (b : List Int) : ∀ i : Nat, w.val (shiftL i b) = (w.weight i).mul (w.val b)
  | 0 => by
    have vp := val_isP w b
    show w.val b = _
    have e : w.weight 0 = if w.isPairs then .p 1 0 else .i 1 := by cases w <;> rfl
    rw [e]
    cases hP : w.isPairs with
    | true => rw [hP] at vp; rw [Num.eq_p vp]; simp [Num.mul, Num.x, Num.y]
    | false => rw [hP] at vp; rw [Num.eq_i vp]; simp [Num.mul, Num.x, Num.y]
  | i + 1 => by
    have ih := val_shift h b i
    have hF : w.isFall = false := by cases w <;> first | rfl | cases h
    show w.val (0 :: shiftL i b) = _
    rw [val_cons0 h, ih, weight_succ hF, one_ratio h (i : Int)]
    have rP : (w.ratio 0).isP = w.isPairs := by cases w <;> first | rfl | cases h
    exact mul_assoc3 (w.ratio 0) (w.weight i) (w.val b) (by rw [weight_isP, val_isP]) (by rw [rP, val_isP])
theorem at0_shift (i : Nat) (b : List Int) (k : Nat) : at0 (shiftL i b) k = if k < i then 0 else at0 b (k - i) := by
  unfold shiftL at0
  by_cases h : k < i
  · rw [if_pos h, List.getElem?_append_left (by simpa using h), List.getElem?_replicate, if_pos h]; rfl
  · rw [if_neg h, List.getElem?_append_right (by simp; omega)]; simp
theorem at0_takes (b : List Int) (j k : Nat) : at0 (b.take j) k = if k < j then at0 b k else 0 := by
  unfold at0
  by_cases h : k < j
  · rw [if_pos h, List.getElem?_take_of_lt h]
  · rw [if_neg h, List.getElem?_eq_none (by simp; omega)]; rfl
/-- a row more of the product -/
theorem prod_row {w : WayM} (h : w.one = true) {a b T T' : List Int} {i : Nat} {x : Int} (hx : a[i]? = some x) (hv : w.val T = (w.val (a.take i)).mul (w.val b)) (ht : ∀ k, at0 T' k = at0 T k + x * at0 (shiftL i b) k) : w.val T' = (w.val (a.take (i + 1))).mul (w.val b) := by
  have l := val_lin (w := w) ht
  have vs := val_shift h b i
  have vt := val_take (w := w) hx
  rw [hv, vs] at l
  rw [vt]
  apply Num.ext'
  · rw [val_isP, Num.mul_isP, Num.add_isP, Num.mul_isP, weight_isP, val_isP, val_isP]; simp [Num.isP]
  · rw [l.1]; simp only [Num.mul_x, Num.mul_y, Num.add_x, Num.add_y, show (Num.i x).x = x from rfl, show (Num.i x).y = 0 from rfl]; grind
  · rw [l.2]; simp only [Num.mul_x, Num.mul_y, Num.add_x, Num.add_y, show (Num.i x).x = x from rfl, show (Num.i x).y = 0 from rfl]; grind
end WayM
end DD

set_option Elab.async false
set_option linter.all false
set_option maxRecDepth 100000
set_option maxHeartbeats 2000000
namespace DD
open PySem PySem.Spec PyProof.Rows L2
/-! ### a list's pop as a value -/
section
variable {S : Sit} {e e0 e1 : Expr} {es : List Expr} {pos p : Pos} {τ : TD} {τm : TDM} {t : TDs} {M : MD} {k n : Nat} {x : Str}
theorem rep_flat1 {nm : Nm} {G : Hp} {v : V} {d : D} (r : Rep nm G v d) : flat1 d = true := by cases d <;> first | rfl | cases r
theorem flat_bor {d : D} (h : flat1 d = true) : isBor d = false ∧ isOwn d = false := by cases d <;> first | exact ⟨rfl, rfl⟩ | cases h
theorem flat1_rep {nm : Nm} {H0 G H : Hp} {v : V} {d : D} (h : flat1 d = true) (r : RepV nm H0 G H v d) : Rep nm G v d := by cases d <;> first | exact r | cases h
def ePopM (i : Nat) : TDM := fun ρ Q => match ρ[i]? with
  | some (some (.own l)) => ∃ y, l.getLast? = some y ∧ Nx (fun ρ' => Q y ρ') (put ρ i (some (.own l.dropLast)))
  | _ => False
theorem je_popM (i : Nat) {name : Str} {px apos cpos : Pos} (slot : Slot "list" name "list.pop") (hty : typeOf (.builtin "list.pop") = pure (.type "method_descriptor")) (ho : PE S.X (.Name x px) (tVar i))
    (hbase : attributeBase (.Name x px) name S.X.env (eval (.Name x px) S.X.env) = eval (.Name x px) S.X.env := by rfl) (hline : (apos.endLine == cpos.line) = true := by rfl) :
    JEM S (.Call (.Attribute (.Name x px) name apos) [] [] cpos) (ePopM i) := by
  refine ⟨fun G H σ ρ Q R h => WX.of (pe_bm0 PySem.F.plainAttrs_list slot hty mt_pop ho hbase hline) ?_⟩
  unfold ePopM at h
  split at h
  · rename_i l el
    obtain ⟨y, hy, q⟩ := h
    obtain ⟨p, vs, e1, e2, e3, e4, e5⟩ := R.ownAt el
    rw [List.getLast?_eq_getElem?] at hy
    obtain ⟨v, hv, rv⟩ := e5.get hy
    exact ⟨.ref p, e1, .inl ⟨rfl, vs, .inl (.inl e2)⟩, p, vs, v, rfl, rfl, e2, by rw [e5.length]; exact hv, G, _, y, R.mutate el e1 e5.dropLast, Same.refl G, rep_flat1 rv, rv, q.getS⟩
  · exact h.elim
def dSetM (i : Nat) (τ : TDM) : TDS := fun E ρ => τ ρ fun d ρ' => Nx E.nx (put ρ' i (some d))
theorem js_setM {i : Nat} {pos' : Pos} (hN : S.X.N.Nodup) (hi : S.X.N[i]? = some x) (hx : Loc S.X.env.scope x) (he : JEM S e τm) (hs : swapsWith e (some (.Name x pos')) pos.line S.X.env = pure false := by rfl) (hf : S.X.fn x = true ∨ S.X.env.scope.names.lookup x = some .local := by first | exact .inl rfl | exact .inr rfl | assumption) (np : npb S.pp i = true := by rfl) :
    JS S (.Assign [.Name x pos'] e pos) (dSetM i τm) := by
  refine ⟨fun G H σ ρ E R h => WS.of (ps_set hN hi hx pe_w hs hf) ((he.run G H σ ρ _ R h).mono fun v H1 ⟨G1, ρ1, d, R1, sg, fl, r1, q1⟩ => ?_)⟩
  exact ⟨G1, _, R1.set i (Ext.refl R1.gh) (RepV.of r1) (flat_bor fl).1 np, sg, q1.getS⟩
def eCallP (ex : TX) (M : MD) (τ : TD) (τm : TDM) (t : TDs) : TDM := fun ρ Q => τ ρ fun d0 => isBor (frzO d0) = false ∧ τm ρ fun d1 ρ1 => t ρ1 fun ds => oCall ex ρ1 (frzO d0 :: d1 :: ds) M fun r => flat1 r = true ∧ Q r ρ1
theorem je_callP {Γ : Gm} (jx : JX S) (F : Cal Γ k x n M) (hr : Room k S.X.A) (hg : Gl S.X x) (h0 : JE S e0 τ) (h1 : JEM S e1 τm) (h : JA' S es t) (hdb : (x == ("__debug__" : Str)) = false := by decide)
    (he : starEach (e0 :: e1 :: es) S.X.env = (false, eval e0 S.X.env) :: starEach (e1 :: es) S.X.env := by rfl) (he2 : starEach (e1 :: es) S.X.env = (false, eval e1 S.X.env) :: starEach es S.X.env := by rfl) (hpl : (backTo pos (starEach (e1 :: es) S.X.env)).any (·.1) = false := by rfl) (hG : S.gm = Γ := by rfl) :
    JEM S (.Call (.Name x p) (e0 :: e1 :: es) [] pos) (eCallP S.ex M τ τm t) := by
  subst hG
  obtain ⟨W, tk, hW⟩ := jx
  obtain ⟨f, fd, ps, _, F, hm, hk, hb⟩ := F.ex
  refine ⟨fun G H σ ρ Q R q => WX.of (pe_callS F hr hg hm hk hb (fun σ => passAt tk σ) (pa_cons pe_w (pa_cons pe_w pa_w he2) he) hdb he hpl) ?_⟩
  refine (h0.run G H σ ρ _ R q).mono fun v0 H1 ⟨G1, d0, x1, r1, nb, q1⟩ => ?_
  obtain ⟨G1', x1', r1'⟩ := r1.frzO x1.gh
  have xx := x1.trans x1'
  have R1 := R.go xx
  have f0 : flat1 (frzO d0) = true := by
    have n1 := isOwn_frzO d0
    revert n1 nb
    generalize frzO d0 = z
    intro nb n1
    cases z with
    | own l => cases n1
    | bor l => cases nb
    | _ => rfl
  have rep0 : Rep S.nm G1' v0 (frzO d0) := flat1_rep f0 r1'
  refine (h1.run G1' H1 σ ρ _ R1 q1).mono fun v1 H2 ⟨G2, ρ1, d1, R2, sg2, fl1, rv1, q2⟩ => ?_
  refine (h.run G2 H2 σ ρ1 _ R2 q2).mono fun vs H3 ⟨G3, ds, x3, ra, q3⟩ => ?_
  have R3 := R2.go x3
  have ra2 : RepA S.nm G3 H3 (v0 :: v1 :: vs) (frzO d0 :: d1 :: ds) := .cons (RepV.of ((rep0.mono sg2).mono x3.g)) (flat_bor f0).2 (.cons (RepV.of (rv1.mono x3.g)) (flat_bor fl1).2 ra)
  have z := sp_of hW R3 (Same.refl H3) ra2 q3
  obtain ⟨G4, ds2, P2, a1, a2, a3, a4, a5⟩ := z
  refine ⟨G4, ds2, P2, a1, a2, a3, fun G' H' v r y1 y2 y3 y4 => ?_, a5⟩
  obtain ⟨G5, d, x5, r5, fl5, q5⟩ := a4 G' H' v r y1 y2 y3 y4
  exact ⟨G5, ρ1, d, R3.go x5, (xx.g.trans sg2).trans (x3.g.trans x5.g), fl5, flat1_rep fl5 r5, q5⟩
end
end DD

set_option Elab.async false
set_option linter.all false
set_option maxRecDepth 100000
set_option maxHeartbeats 2000000
namespace DD
open PySem PySem.Spec PyProof.Rows L2
section
variable {S : Sit} {e v1 v2 v3 : Expr} {es : List Expr} {pos p : Pos} {τ τ1 τ2 τ3 : TD} {k n : Nat}
/-! ### {"a": x, "b": y, "c": z}[k] -/
def pick3 (k1 k2 k3 : Str) (d1 d2 d3 : D) (d : D) (Q : D → Prop) : Prop := match d with
  | .str x => (x = k1 ∧ Q d1) ∨ (x = k2 ∧ Q d2) ∨ (x = k3 ∧ Q d3)
  | _ => False
def eDisp3 (k1 k2 k3 : Str) (τ1 τ2 τ3 τ : TD) : TD := fun ρ Q => τ1 ρ fun d1 => flat1 d1 = true ∧ τ2 ρ fun d2 => flat1 d2 = true ∧ τ3 ρ fun d3 => flat1 d3 = true ∧ τ ρ fun d => pick3 k1 k2 k3 d1 d2 d3 d Q
theorem disp_at {k1 k2 k3 : Str} (h12 : k1 ≠ k2) (h13 : k1 ≠ k3) (h23 : k2 ≠ k3) (x y z : V) :
    mergeK [] [(.inr k1, x), (.inr k2, y), (.inr k3, z)] = [((.inr k1 : Key), x), (.inr k2, y), (.inr k3, z)] := by
  have n12 : (Sum.inr k1 : Key) ≠ .inr k2 := fun z => h12 (Sum.inr.inj z)
  have n13 : (Sum.inr k1 : Key) ≠ .inr k3 := fun z => h13 (Sum.inr.inj z)
  have n23 : (Sum.inr k2 : Key) ≠ .inr k3 := fun z => h23 (Sum.inr.inj z)
  simp [mergeK, putK, n12, n13, n23]
theorem je_disp3 {k1 k2 k3 : Str} {j1 j2 j3} {p1 p2 p3 dp : Pos} (hu : S.X.A.units + 64 < cLine) (h1 : JE S v1 τ1) (h2 : JE S v2 τ2) (h3 : JE S v3 τ3) (he : JE S e τ) (h12 : k1 ≠ k2 := by decide) (h13 : k1 ≠ k3 := by decide) (h23 : k2 ≠ k3 := by decide) (hs : NoSl e := by intro _ _; rfl) :
    JE S (.Subscript (.Dict [some (.Constant (.str k1) j1 p1), some (.Constant (.str k2) j2 p2), some (.Constant (.str k3) j3 p3)] [v1, v2, v3] dp) e pos) (eDisp3 k1 k2 k3 τ1 τ2 τ3 τ) := by
  refine ⟨fun G H σ ρ Q R h => WX.of (pe_dget (by omega) (pe_disp (pps_cons pe_str pe_w (pps_cons pe_str pe_w (pps_cons pe_str pe_w pps_nil))) rfl rfl (by simp) (by simp)) pe_w hs) ?_⟩
  intro pq hq
  have x0 : Ext H G H G (upd H pq (.dK [])) := Ext.grow R.gh (same_upd hq)
  have gq : G pq = none := R.gh.free hq
  refine (h1.run G _ σ ρ _ (R.go x0) h).mono fun a1 H1 ⟨G1, d1, x1, r1, f1, q1⟩ => ?_
  have e1 : H1 pq = some (.dK []) := x1.h _ _ upd_same
  have g1 : G1 pq = none := x1.new pq gq (by rw [upd_same]; exact fun z => by cases z)
  have y1 := x0.trans (Ext.from x0.h x1)
  refine (h2.run G1 _ σ ρ _ (R.go y1) q1).mono fun a2 H2 ⟨G2, d2, x2, r2, f2, q2⟩ => ?_
  have e2 : H2 pq = some (.dK []) := x2.h _ _ e1
  have g2 : G2 pq = none := x2.new pq g1 (by rw [e1]; exact fun z => by cases z)
  have y2 := y1.trans (Ext.from y1.h x2)
  refine (h3.run G2 _ σ ρ _ (R.go y2) q2).mono fun a3 H3 ⟨G3, d3, x3, r3, f3, q3⟩ => ?_
  have e3 : H3 pq = some (.dK []) := x3.h _ _ e2
  have g3 : G3 pq = none := x3.new pq g2 (by rw [e2]; exact fun z => by cases z)
  have y3 := y2.trans (Ext.from y2.h x3)
  refine ⟨e3, [(.inr k1, a1), (.inr k2, a2), (.inr k3, a3)], rfl, by simp, ?_⟩
  rw [disp_at h12 h13 h23]
  have y4 : Ext H G H G3 (upd H3 pq (.dK [((.inr k1 : Key), a1), (.inr k2, a2), (.inr k3, a3)])) :=
    ⟨y3.g, fun b o eb => by rw [upd_ne (ne_of_none eb hq)]; exact y3.h _ _ eb, fun b o eb => by rw [upd_ne (ne_of_none eb g3)]; exact y3.gh _ _ eb, y3.new⟩
  refine (he.run G3 _ σ ρ _ (R.go y4) q3).mono fun w H4 ⟨G4, d, x4, r4, q4⟩ => ?_
  have e4 := x4.h _ _ (upd_same (H := H3) (a := pq) (o := .dK [((.inr k1 : Key), a1), (.inr k2, a2), (.inr k3, a3)]))
  have y5 := y4.trans (Ext.from y4.h x4)
  have rd1 : Rep S.nm G4 a1 d1 := Rep.mono ((x2.g.trans x3.g).trans x4.g) _ _ (flat1_rep f1 r1)
  have rd2 : Rep S.nm G4 a2 d2 := Rep.mono (x3.g.trans x4.g) _ _ (flat1_rep f2 r2)
  have rd3 : Rep S.nm G4 a3 d3 := Rep.mono x4.g _ _ (flat1_rep f3 r3)
  have n12 : (Sum.inr k1 : Key) ≠ .inr k2 := fun z => h12 (Sum.inr.inj z)
  have n13 : (Sum.inr k1 : Key) ≠ .inr k3 := fun z => h13 (Sum.inr.inj z)
  have n23 : (Sum.inr k2 : Key) ≠ .inr k3 := fun z => h23 (Sum.inr.inj z)
  cases d with
  | str x =>
    cases repV_str r4
    have e4' : Rd H4 pq (.dK [((.inr k1 : Key), a1), (.inr k2, a2), (.inr k3, a3)]) := .inl e4
    rcases q4 with ⟨rfl, q⟩ | ⟨rfl, q⟩ | ⟨rfl, q⟩
    · exact ⟨pq, a1, rfl, .inl ⟨_, .inr x, e4', rfl, (valV_pos (p := ((.inr x : Key), a1)) rfl).symm⟩, G4, d1, y5, .of rd1, q⟩
    · exact ⟨pq, a2, rfl, .inl ⟨_, .inr x, e4', rfl, ((valV_neg (p := ((.inr k1 : Key), a1)) n12).trans (valV_pos (p := ((.inr x : Key), a2)) rfl)).symm⟩, G4, d2, y5, .of rd2, q⟩
    · exact ⟨pq, a3, rfl, .inl ⟨_, .inr x, e4', rfl, ((valV_neg (p := ((.inr k1 : Key), a1)) n13).trans ((valV_neg (p := ((.inr k2 : Key), a2)) n23).trans (valV_pos (p := ((.inr x : Key), a3)) rfl))).symm⟩, G4, d3, y5, .of rd3, q⟩
  | _ => exact q4.elim
/-! ### f"..": texts and whole numbers -/
def strOf : D → Option Str
  | .str x => some x
  | .int i => some (toString i)
  | _ => none
inductive JF (S : Sit) : List Expr → List TD → Prop where
  | nil : JF S [] []
  | cst {x : Str} {j} {pos : Pos} {es : List Expr} {ts : List TD} (r : JF S es ts) : JF S (.Constant (.str x) j pos :: es) (eC (.str x) :: ts)
  | fmt {e : Expr} {pos : Pos} {τ : TD} {es : List Expr} {ts : List TD} (h : JE S e τ) (r : JF S es ts) : JF S (.FormattedValue e (-1) none pos :: es) (τ :: ts)
def eFj : List TD → Str → TD
  | [], acc => fun _ Q => Q (.str acc)
  | τ :: ts, acc => fun ρ Q => τ ρ fun d => match d with
    | .str x => x.length ≤ sizeLine ∧ (acc ++ x).length ≤ sizeLine ∧ eFj ts (acc ++ x) ρ Q
    | .int i => i.natAbs.log2 < 1920 ∧ (acc ++ toString i).length ≤ sizeLine ∧ eFj ts (acc ++ toString i) ρ Q
    | _ => False
theorem JF.run (h : JF S es ts) : ∃ us, PJ S.X es us ∧ ∀ (G H : Hp) (σ : L2.St) (ρ : Env) (acc : Str) (Q : D → Prop) (K : Str → Hp → Prop), S.Rel G H σ ρ → eFj ts acc ρ Q → (∀ (out : Str) (G' H' : Hp), Ext H G H G' H' → Q (.str out) → K out H') → tJs us acc σ H K := by
  induction h with
  | nil => exact ⟨[], .nil, fun G H σ ρ acc Q K R q k => k _ _ _ (Ext.refl R.gh) q⟩
  | @cst x j pos es ts r ih =>
    obtain ⟨us, hp, hr⟩ := ih
    exact ⟨_, .cons pe_str hp, fun G H σ ρ acc Q K R q k => ⟨x, rfl, q.2.1, hr G H σ ρ _ Q K R q.2.2 k⟩⟩
  | @fmt e pos τ es ts h r ih =>
    obtain ⟨us, hp, hr⟩ := ih
    refine ⟨_, .cons (pe_fmt pe_w) hp, fun G H σ ρ acc Q K R q k => ?_⟩
    refine (h.run G H σ ρ _ R q).mono fun v H1 ⟨G1, d, x1, r1, q1⟩ => ?_
    have fin : ∀ y : Str, eFj ts (acc ++ y) ρ Q → tJs us (acc ++ y) σ H1 K := fun y q =>
      hr G1 H1 σ ρ (acc ++ y) Q K (R.go x1) q fun out G' H' x2 q2 => k out G' H' (x1.trans (Ext.from x1.h x2)) q2
    cases d with
    | str x =>
      cases repV_str r1
      exact .inl ⟨x, rfl, q1.1, x, rfl, q1.2.1, fin x q1.2.2⟩
    | int i =>
      cases repV_int r1
      exact .inr ⟨i, rfl, q1.1, _, rfl, q1.2.1, fin _ q1.2.2⟩
    | _ => exact q1.elim
theorem je_fstr {a b : Expr} {ta tb : TD} {ts : List TD} (h : JF S (a :: b :: es) (ta :: tb :: ts)) : JE S (.JoinedStr (a :: b :: es) pos) (eFj (ta :: tb :: ts) Str.empty) := by
  obtain ⟨us, hp, hr⟩ := h.run
  cases hp with
  | cons h1 hp =>
    cases hp with
    | cons h2 hp => exact ⟨fun G H σ ρ Q R q => WX.of (pe_joined (.cons h1 (.cons h2 hp))) (hr G H σ ρ _ Q _ R q fun out G' H' x q => ⟨G', _, x, .of (.str _), q⟩)⟩
end
end DD

set_option Elab.async false
set_option linter.all false
set_option maxRecDepth 100000
set_option maxHeartbeats 2000000
namespace DD
open PySem PySem.Spec PyProof.Rows L2
/-! ### dicts whose keys are tuples: in the heap -/
section
variable {P : Program} {w : World} {H : Hp} {h : Heap}
mutual
theorem kr_is (ok : HOk P w H h) : ∀ (k : NestedKey) (v : V) (u : Value), KR H k v → RelV v u → NestedIs h k u
  | _, _, u, .num i, r => by obtain ⟨t, rfl⟩ := r; exact .int i t
  | _, _, u, .text x, r => by obtain ⟨t, rfl⟩ := r; exact .text x t
  | _, _, u, .tup e q, r => by
    obtain rfl : u = Value.ref _ := r
    obtain ⟨_, its, rv, o, h1, hc, n, hd⟩ := ok _ _ e
    exact .tup h1 hc hd (by simpa using krs_is ok _ _ _ q rv)
theorem krs_is (ok : HOk P w H h) : ∀ (ks : List NestedKey) (vs : List V) (us : List Value), KRs H ks vs → Vals vs us → NestedAll h ks us
  | _, _, us, .nil, r => by cases r; exact .nil
  | _, _, us, .cons e q, r => by
    cases r with
    | cons r1 r2 => exact .cons (kr_is ok _ _ _ e r1) (krs_is ok _ _ _ q r2)
end
theorem KRs.all {G : Hp} : ∀ {es : List Ent}, KRs G (es.map (·.1)) (es.map fun e => .ref e.2.1) → ∀ e ∈ es, KR G e.1 (.ref e.2.1)
  | [], _, _, h => by cases h
  | x :: es, .cons r q, e, h => by
    rcases List.mem_cons.mp h with rfl | h
    · exact r
    · exact KRs.all q e h
theorem KRs.append {G : Hp} : ∀ {ks ms : List NestedKey} {vs us : List V}, KRs G ks vs → KRs G ms us → KRs G (ks ++ ms) (vs ++ us)
  | _, _, _, _, .nil, q => q
  | _, _, _, _, .cons r t, q => .cons r (KRs.append t q)
abbrev KEnt := NestedKey × Addr × Value
abbrev ERel : Ent → KEnt → Prop := fun x y => x.1 = y.1 ∧ x.2.1 = y.2.1 ∧ RelV x.2.2 y.2.2
theorem erel_keys : ∀ {es : List Ent} {ys : List KEnt}, Paired ERel es ys → ys.map (·.1) = es.map (·.1)
  | _, _, .nil => rfl
  | _, _, .cons r t => by rw [List.map_cons, List.map_cons, r.1, erel_keys t]
theorem erel_mem : ∀ {es : List Ent} {ys : List KEnt}, Paired ERel es ys → ∀ y ∈ ys, ∃ e ∈ es, ERel e y
  | _, _, .nil, _, h => by cases h
  | _, _, .cons (a := a) (b := b) r t, y, h => by
    rcases List.mem_cons.mp h with rfl | h
    · exact ⟨_, List.mem_cons_self, r⟩
    · obtain ⟨e, h1, h2⟩ := erel_mem t y h
      exact ⟨e, List.mem_cons_of_mem _ h1, h2⟩
def valE (es : List Ent) (k : NestedKey) : Option V := (es.find? fun e => decide (e.1 = k)).map (·.2.2)
theorem erel_val (k : NestedKey) : ∀ {es : List Ent} {ys : List KEnt}, Paired ERel es ys → RelO (valE es k) ((atKey ys k).map (·.2))
  | _, _, .nil => trivial
  | _, _, .cons (a := a) (b := b) r t => by
    have ih := erel_val k t
    unfold valE atKey at ih ⊢
    rw [List.find?_cons, List.find?_cons]
    by_cases h : a.1 = k
    · have h2 : b.1 = k := r.1.symm.trans h
      rw [decide_eq_true h, decide_eq_true h2]
      exact r.2.2
    · have h2 : ¬ b.1 = k := fun z => h (r.1.trans z)
      rw [decide_eq_false h, decide_eq_false h2]
      exact ih
theorem dxo_at {p : Addr} {es : List Ent} (ok : HOk P w H h) (e : H p = some (DXO w p es)) (kr : KRs H (es.map (·.1)) (es.map fun e => .ref e.2.1)) :
    ∃ ys, Paired ERel es ys ∧ h.DictOfH (nestedKind P w) p ys ∧ (p == sysModules) = false ∧ es.length ≤ sizeLine := by
  obtain ⟨⟨hs, nd, hl, dp, ys, rl, o, ds, ep, h1, h2, h3, h4⟩, _, _⟩ := ok _ _ e
  refine ⟨ys, rl, ⟨o, ds, ep, h1, h2, h3, h4, fun y hy => ?_, by rw [erel_keys rl]; exact nd⟩, beq_eq_false_iff_ne.mpr hs, hl⟩
  obtain ⟨x, hx, r1, r2, _⟩ := erel_mem rl y hy
  refine ⟨?_, by rw [← r1]; exact dp x hx⟩
  rw [← r1, ← r2]
  exact kr_is ok _ _ _ (kr.all x hx) rfl
def putE (k : NestedKey) (v : V) (x : Ent) : Ent := if x.1 = k then (x.1, x.2.1, v) else x
def storeE (es : List Ent) (k : NestedKey) (a : Addr) (v : V) : List Ent := if (valE es k).isSome then es.map (putE k v) else es ++ [(k, a, v)]
theorem valE_none {k : NestedKey} : ∀ {es : List Ent}, valE es k = none → k ∉ es.map (·.1)
  | [], _, h => by cases h
  | x :: es, e, h => by
    unfold valE at e
    rw [List.find?_cons] at e
    by_cases hx : x.1 = k
    · rw [decide_eq_true hx] at e; cases e
    · rw [decide_eq_false hx] at e
      rcases List.mem_cons.mp h with z | z
      · exact hx z.symm
      · exact valE_none (es := es) e z
theorem putE_key (k : NestedKey) (v : V) (x : Ent) : (putE k v x).1 = x.1 ∧ (putE k v x).2.1 = x.2.1 := by unfold putE; split <;> exact ⟨rfl, rfl⟩
theorem storeE_keys (es : List Ent) (k : NestedKey) (a : Addr) (v : V) : (storeE es k a v).map (·.1) = if (valE es k).isSome then es.map (·.1) else es.map (·.1) ++ [k] := by
  unfold storeE
  split
  · rw [List.map_map]; exact List.map_congr_left fun x _ => (putE_key k v x).1
  · rw [List.map_append]; rfl
theorem storeE_len (es : List Ent) (k : NestedKey) (a : Addr) (v : V) : (storeE es k a v).length ≤ es.length + 1 := by
  unfold storeE
  split
  · rw [List.length_map]; omega
  · rw [List.length_append]; simp
theorem storeE_at {k : NestedKey} {a : Addr} {v : V} (x : NestedKey) (es : List Ent) : valE (storeE es k a v) x = if x = k then some v else valE es x := by
  have h1 : ∀ es : List Ent, (valE es k).isSome → valE (es.map (putE k v)) x = if x = k then some v else valE es x := by
    intro es
    induction es with
    | nil => intro z; cases z
    | cons y es ih =>
      intro z
      unfold valE at z ih ⊢
      rw [List.map_cons, List.find?_cons, List.find?_cons]
      rw [List.find?_cons] at z
      rw [(putE_key k v y).1]
      by_cases hk : y.1 = k
      · by_cases hx : y.1 = x
        · have hxk : x = k := hx.symm.trans hk
          rw [decide_eq_true hx, if_pos hxk]
          show some (putE k v y).2.2 = some v
          unfold putE; rw [if_pos hk]
        · have hxk : ¬ x = k := fun q => hx (hk.trans q.symm)
          rw [decide_eq_false hx, if_neg hxk]
          -- the rest
          clear z ih
          induction es with
          | nil => rfl
          | cons u es ih2 =>
            rw [List.map_cons, List.find?_cons, List.find?_cons, (putE_key k v u).1]
            by_cases hu : u.1 = x
            · rw [decide_eq_true hu]
              show some (putE k v u).2.2 = some u.2.2
              unfold putE; rw [if_neg (fun q => hxk (hu.symm.trans q))]
            · rw [decide_eq_false hu]; exact ih2
      · rw [decide_eq_false hk] at z
        by_cases hx : y.1 = x
        · have hxk : ¬ x = k := fun q => hk (hx.trans q)
          rw [decide_eq_true hx, if_neg hxk]
          show some (putE k v y).2.2 = some y.2.2
          unfold putE; rw [if_neg hk]
        · rw [decide_eq_false hx]
          exact ih z
  unfold storeE
  split
  · rename_i z; exact h1 es z
  · rename_i z
    have hn := valE_none (es := es) (k := k) (by cases q : valE es k with | none => rfl | some _ => rw [q] at z; exact absurd rfl z)
    unfold valE
    rw [List.find?_append]
    by_cases hx : x = k
    · subst hx
      have : es.find? (fun e => decide (e.1 = x)) = none := by
        rw [List.find?_eq_none]
        intro e he q
        exact hn (List.mem_map.mpr ⟨e, he, of_decide_eq_true q⟩)
      rw [this, if_pos rfl]
      simp
    · rw [if_neg hx]
      cases es.find? (fun e => decide (e.1 = x)) with
      | some y => rfl
      | none =>
        simp [Ne.symm hx]
theorem erel_store {es : List Ent} {ys : List KEnt} {k : NestedKey} {a : Addr} {v : V} {u : Value} (r : Paired ERel es ys) (rv : RelV v u) : Paired ERel (storeE es k a v) (storedH ys k a u) := by
  have iso : (valE es k).isSome = (atKey ys k).isSome := by
    have := erel_val k r
    revert this
    cases valE es k <;> cases h : atKey ys k <;> simp [RelO]
  unfold storeE storedH
  rw [iso]
  split
  · rename_i z
    clear iso z
    induction r with
    | nil => exact .nil
    | cons r t ih =>
      rename_i x y es ys
      rw [List.map_cons, List.map_cons]
      refine .cons ?_ ih
      unfold putE putAt
      by_cases hk : x.1 = k
      · rw [if_pos hk, if_pos (r.1.symm.trans hk)]; exact ⟨r.1, r.2.1, rv⟩
      · rw [if_neg hk, if_neg (fun z => hk (r.1.trans z))]; exact r
  · rename_i z
    clear iso z
    induction r with
    | nil => exact .cons ⟨rfl, rfl, rv⟩ .nil
    | cons r t ih => exact .cons r ih
theorem krs_store {G : Hp} {es : List Ent} {k : NestedKey} {a : Addr} {v : V} (kr : KRs G (es.map (·.1)) (es.map fun e => .ref e.2.1)) (hk : KR G k (.ref a)) : KRs G ((storeE es k a v).map (·.1)) ((storeE es k a v).map fun e => .ref e.2.1) := by
  unfold storeE
  split
  · rw [List.map_map, List.map_map]
    rw [show ((fun x : Ent => x.1) ∘ putE k v) = fun x => x.1 from funext fun x => (putE_key k v x).1, show ((fun e : Ent => V.ref e.2.1) ∘ putE k v) = fun e => V.ref e.2.1 from funext fun x => congrArg V.ref (putE_key k v x).2]
    exact kr
  · rw [List.map_append, List.map_append]
    exact kr.append (.cons hk .nil)
end
section
variable {X : Cx} {pins : List (Addr × Obj)} {σ : L2.St} {H : Hp} {s : Shared} {A : Around} {E : Value → Shared → Prop} {p ka : Addr} {es : List Ent} {k : NestedKey} {v : V}
theorem room_key {P : Program} {w : World} (hu : A.units + 64 < cLine) : (nestedKind P w).room A.in1 := by
  show A.units + 1 + 8 < cLine
  omega
theorem dxo_get {Q : Value → Shared → Prop} (hu : A.units + 64 < cLine) (I : Inv X pins σ H s) (e : H p = some (DXO X.w p es)) (kr : KRs H (es.map (·.1)) (es.map fun e => .ref e.2.1)) (hk : KR H k (.ref ka)) (hd : k.depth ≤ 8) (hv : valE es k = some v)
    (h : ∀ w' s', Inv X pins σ H s' → RelV v w' → Q w' s') : wpAny (model X.prog X.w) A (getItem (.ref p) (.ref ka)) Q E s := by
  obtain ⟨ys, rl, dd, _, _⟩ := dxo_at I.hok e kr
  have rv := erel_val k rl
  rw [hv] at rv
  cases hy : atKey ys k with
  | none => rw [hy] at rv; exact rv.elim
  | some q =>
    rw [hy] at rv
    exact wpAny_getItem_heap (room_key hu) ⟨kr_is I.hok _ _ _ hk rfl, hd⟩ dd hy (h q.2 _ (I.tok _) rv)
theorem dxo_notIn {Q : Value → Shared → Prop} (hu : A.units + 64 < cLine) (I : Inv X pins σ H s) (e : H p = some (DXO X.w p es)) (kr : KRs H (es.map (·.1)) (es.map fun e => .ref e.2.1)) (hk : KR H k (.ref ka)) (hd : k.depth ≤ 8)
    (h : ∀ s', Inv X pins σ H s' → Q (.bool (!(valE es k).isSome)) s') : wpAny (model X.prog X.w) A (compareOp .NotIn (.ref ka) (.ref p)) Q E s := by
  obtain ⟨ys, rl, dd, hp, _⟩ := dxo_at I.hok e kr
  have iso : (valE es k).isSome = (atKey ys k).isSome := by
    have := erel_val k rl
    revert this
    cases valE es k <;> cases h : atKey ys k <;> simp [RelO]
  refine wpAny_notIn_heap (room_key hu) ⟨kr_is I.hok _ _ _ hk rfl, hd⟩ hp dd ?_
  rw [← iso]
  exact h _ (I.tok _)
theorem dxo_set {u : Value} {Q : Unit → Shared → Prop} (hu : A.units + 64 < cLine) (I : Inv X pins σ H s) (e : H p = some (DXO X.w p es)) (kr : KRs H (es.map (·.1)) (es.map fun e => .ref e.2.1)) (hk : KR H k (.ref ka)) (hd : k.depth ≤ 8) (hl : es.length < sizeLine) (rv : RelV v u)
    (h : ∀ s', Inv X pins σ (upd H p (DXO X.w p (storeE es k ka v))) s' → Q () s') : wpAny (model X.prog X.w) A (setItem (.ref p) (.ref ka) u) Q E s := by
  obtain ⟨ys, rl, dd, hp, _⟩ := dxo_at I.hok e kr
  obtain ⟨⟨_, _, _, dp, _⟩, _, _⟩ := I.hok _ _ e
  have yl : ys.length = es.length := by
    have := congrArg List.length (erel_keys rl)
    simpa using this
  refine wpAny_setItem_heap (hsz := by rw [yl]; omega) (room_key hu) ⟨kr_is I.hok _ _ _ hk rfl, hd⟩ dd fun h' dd' hs => h _ ?_
  have he : ∃ q, h'.get? p = some q := let ⟨q, _, _, hq, _⟩ := dd'; ⟨q, hq⟩
  refine d_write I (by rw [e]; exact True.intro) hs he ⟨⟨beq_eq_false_iff_ne.mp hp, ?_, ?_, ?_, _, erel_store rl rv, ?_⟩, he, ?_⟩
  · obtain ⟨_, _, _, _, _, _, _, _, nd⟩ := dd'
    rw [erel_keys (erel_store (k := k) (a := ka) rl rv)] at nd
    exact nd
  · have := storeE_len es k ka v; omega
  · intro x hx
    have hm : x.1 ∈ (storeE es k ka v).map (·.1) := List.mem_map_of_mem hx
    rw [storeE_keys] at hm
    have key : ∀ y ∈ es.map (·.1), NestedKey.depth y ≤ 8 := fun y hy => by obtain ⟨z, hz, rfl⟩ := List.mem_map.mp hy; exact dp z hz
    split at hm
    · exact key _ hm
    · rcases List.mem_append.mp hm with hm | hm
      · exact key _ hm
      · rw [List.mem_singleton.mp hm]; exact hd
  · obtain ⟨o, ds, ep, h1, h2, h3, h4, _, _⟩ := dd'
    exact ⟨o, ds, ep, h1, h2, h3, h4⟩
  · rintro h1 h2 ⟨a1, a2, a3, a4, ys, a5, o, ds, ep, b1, b2⟩ kk
    exact ⟨a1, a2, a3, a4, ys, a5, o, ds, ep, kk _ b1, b2⟩
/-- {} -/
theorem pe_dnewX {pos : Pos} : PE X (.Dict [] [] pos) (fun _ H Q => ∀ p, H p = none → Q (.ref p) (upd H p (DXO X.w p []))) := ⟨fun pins s σ H Q I h =>
  wpAny_Dict_empty ⟨.ref s.heap.objs.size, _, I.laid (a := s.heap.objs.size) (o := DXO X.w s.heap.objs.size []) (t' := s.toks) (fun _ _ q => Heap.get?_push_of_some _ q) (Nat.le_refl _)
    ⟨⟨fun z => by have := I.big; rw [z] at this; exact absurd this (Nat.lt_irrefl _), List.nodup_nil, Nat.zero_le _, (fun _ z => by cases z), [], .nil, _, #[], 0, Heap.get?_push_size _ rfl, ⟨rfl, rfl, rfl⟩, rfl, rfl⟩, ⟨_, Heap.get?_push_size _ rfl⟩,
      fun h1 h2 ⟨a1, a2, a3, a4, ys, a5, o, ds, ep, b1, b2⟩ kk => ⟨a1, a2, a3, a4, ys, a5, o, ds, ep, kk _ b1, b2⟩⟩, rfl, h _ (I.hok.fresh (Nat.le_refl _))⟩⟩
end
end DD

set_option Elab.async false
set_option linter.all false
set_option maxRecDepth 100000
set_option maxHeartbeats 2000000
namespace DD
open PySem PySem.Spec PyProof.Rows L2
/-! ### things of one's own beside the names: they stand at the addresses ps -/
/-- the situation while they stay as they are -/
abbrev Sit.atH (S : Sit) (ps : List Addr) (G H : Hp) : Sit := { S with G0 := G, B := fun b => if b ∈ ps then H b else S.B b }
structure XS (S : Sit) (ps : List Addr) (G H : Hp) (σ : L2.St) (ρ : Env) : Prop where
  r : S.Rel G H σ ρ
  own : ∀ p ∈ ps, G p = none ∧ S.B p = none ∧ H p ≠ none
  ap : ∀ (i : Nat) (l : List D) (p : Addr), ρ[i]? = some (some (.own l)) → σ[i]? = some (some (.ref p)) → p ∉ ps
section
variable {S : Sit} {ps : List Addr} {G H G' H' : Hp} {σ σ' : L2.St} {ρ ρ' : Env}
theorem XS.at (x : XS S ps G H σ ρ) : (S.atH ps G H).Rel G H σ ρ := by
  refine ⟨⟨Same.refl G, fun b o e => ?_, x.r.gh, fun a e _ => e⟩, x.r.len, fun i d e => ?_, x.r.apart, x.r.pin⟩
  · have e : (if b ∈ ps then H b else S.B b) = some o := e
    split at e
    · exact e
    · exact x.r.bh _ _ e
  · obtain ⟨v, h1, h2, h3⟩ := x.r.slot i d e
    refine ⟨v, h1, ?_, h3⟩
    cases d with
    | own l =>
      obtain ⟨p, vs, rfl, g1, g2, g3, q⟩ := h2
      refine ⟨p, vs, rfl, g1, g2, ?_, q⟩
      show (if p ∈ ps then H p else S.B p) = none
      rw [if_neg (x.ap i l p e h1)]
      exact g3
    | bor l => cases h3
    | _ => exact h2
theorem repV_low {nm : Nm} {v : V} {d : D} {B1 B2 : Hp} (h : ∀ p, B1 p = none → B2 p = none) (r : RepV nm B1 G H v d) : RepV nm B2 G H v d := by
  cases d with
  | own l =>
    obtain ⟨p, vs, rfl, g1, g2, g3, q⟩ := r
    exact ⟨p, vs, rfl, g1, g2, h p g3, q⟩
  | _ => exact r
theorem XS.low (x : XS S ps G H σ ρ) : ∀ p, (S.atH ps G H).B p = none → S.B p = none := fun p e => by
  have e : (if p ∈ ps then H p else S.B p) = none := e
  split at e
  · exact (x.own p ‹_›).2.1
  · exact e
theorem XS.ext (x : XS S ps G H σ ρ) (R : Ext (S.atH ps G H).B G (S.atH ps G H).B G' H') : Ext S.B S.G0 S.B G' H' := by
  refine ⟨x.r.ext.g.trans R.g, fun b o e => ?_, R.gh, fun a ea na => ?_⟩
  · refine R.h b o ?_
    show (if b ∈ ps then H b else S.B b) = some o
    rw [if_neg (fun hb => by rw [(x.own b hb).2.1] at e; cases e)]
    exact e
  · refine R.new a (x.r.ext.new a ea na) ?_
    show (if a ∈ ps then H a else S.B a) ≠ none
    split
    · exact (x.own a ‹_›).2.2
    · exact na
theorem XS.kept (x : XS S ps G H σ ρ) (R : Ext (S.atH ps G H).B G (S.atH ps G H).B G' H') : ∀ p ∈ ps, H' p = H p ∧ G' p = none := fun p hp => by
  obtain ⟨h1, h2, h3⟩ := x.own p hp
  refine ⟨?_, R.new p h1 ?_⟩
  · cases e : H p with
    | none => exact absurd e h3
    | some o => exact R.h p o (show (if p ∈ ps then H p else S.B p) = some o by rw [if_pos hp]; exact e)
  · show (if p ∈ ps then H p else S.B p) ≠ none
    rw [if_pos hp]; exact h3
theorem XS.back (x : XS S ps G H σ ρ) (R : (S.atH ps G H).Rel G' H' σ' ρ') : XS S ps G' H' σ' ρ' := by
  have kp := x.kept R.ext
  refine ⟨⟨x.ext R.ext, R.len, fun i d e => ?_, R.apart, R.pin⟩, fun p hp => ?_, fun i l p e es hp => ?_⟩
  · obtain ⟨v, h1, h2, h3⟩ := R.slot i d e
    exact ⟨v, h1, repV_low x.low h2, h3⟩
  · exact ⟨(kp p hp).2, (x.own p hp).2.1, by rw [(kp p hp).1]; exact (x.own p hp).2.2⟩
  · obtain ⟨v, h1, ⟨p', vs, rfl, g1, g2, g3, q⟩, _⟩ := R.slot i _ e
    rw [h1] at es
    cases es
    have g3 : (if p ∈ ps then H p else S.B p) = none := g3
    rw [if_pos hp] at g3
    exact (x.own p hp).2.2 g3
theorem XS.go (x : XS S ps G H σ ρ) (e : Ext H G H G' H') : XS S ps G' H' σ ρ := x.back (x.at.go e)
theorem XS.weak (x : XS S ps G H σ ρ) (w : Weak ρ ρ') : XS S ps G H σ ρ' := ⟨x.r.weak w, x.own, fun i l p e es => x.ap i l p (w.2 _ _ e) es⟩
/-- one of them is changed -/
theorem XS.put (x : XS S ps G H σ ρ) {p : Addr} (hp : p ∈ ps) (o : HO) : XS S ps G (upd H p o) σ ρ := by
  obtain ⟨h1, h2, h3⟩ := x.own p hp
  refine ⟨⟨⟨x.r.ext.g, fun b u e => ?_, fun b u e => ?_, x.r.ext.new⟩, x.r.len, fun i d e => ?_, x.r.apart, x.r.pin⟩, fun q hq => ⟨(x.own q hq).1, (x.own q hq).2.1, ?_⟩, x.ap⟩
  · rw [upd_ne (ne_of_none e h2)]; exact x.r.bh _ _ e
  · rw [upd_ne (ne_of_none e h1)]; exact x.r.gh _ _ e
  · obtain ⟨v, k1, k2, k3⟩ := x.r.slot i d e
    refine ⟨v, k1, ?_, k3⟩
    cases d with
    | own l =>
      obtain ⟨q, vs, rfl, g1, g2, g3, r⟩ := k2
      have nq : q ≠ p := fun z => x.ap i l q e k1 (by rw [z]; exact hp)
      exact ⟨q, vs, rfl, by rw [upd_ne nq]; exact g1, g2, g3, r⟩
    | bor l => cases k3
    | _ => exact k2
  · by_cases hq2 : q = p
    · subst hq2; rw [upd_same]; exact fun z => by cases z
    · rw [upd_ne hq2]; exact (x.own q hq).2.2
end
/-- what stands there -/
structure Part (ps : List Addr) (α : Type) where
  W : α → Hp → Hp → Prop
  mono : ∀ (a : α) (G H G' H' : Hp), W a G H → Same G G' → (∀ p ∈ ps, H' p = H p) → W a G' H'
/-- what is known while they stay as they are -/
def Now {ps : List Addr} {α : Type} (T : Part ps α) (a : α) (G H : Hp) : Prop := T.W a G H ∧ ∀ p ∈ ps, G p = none
structure DEX (α : Type) where
  nx : α → Env → Prop
  rt : D → Prop
  bk : α → Env → Prop := fun _ _ => False
  ct : α → Env → Prop := fun _ _ => False
abbrev TDX (α : Type) := DEX α → α → Env → Prop
def liftX {ps : List Addr} {α : Type} (S : Sit) (T : Part ps α) (Gs : Hp) (E : DEX α) : Ends where
  nx := fun σ H => ∃ G ρ a, XS S ps G H σ ρ ∧ T.W a G H ∧ Same Gs G ∧ E.nx a ρ
  rt := fun v H => wR S v H E.rt
  bk := fun σ H => ∃ G ρ a, XS S ps G H σ ρ ∧ T.W a G H ∧ Same Gs G ∧ E.bk a ρ
  ct := fun σ H => ∃ G ρ a, XS S ps G H σ ρ ∧ T.W a G H ∧ Same Gs G ∧ E.ct a ρ
structure JSX {ps : List Addr} {α : Type} (S : Sit) (T : Part ps α) (st : Stmt) (τ : TDX α) : Prop where
  run : ∀ (G H : Hp) (σ : L2.St) (ρ : Env) (a : α) (E : DEX α), XS S ps G H σ ρ → T.W a G H → τ E a ρ → WS S.X st (liftX S T G E) σ H
structure JSXs {ps : List Addr} {α : Type} (S : Sit) (T : Part ps α) (st : List Stmt) (τ : TDX α) : Prop where
  run : ∀ (G H : Hp) (σ : L2.St) (ρ : Env) (a : α) (E : DEX α), XS S ps G H σ ρ → T.W a G H → τ E a ρ → WSs S.X st (liftX S T G E) σ H
section
variable {S : Sit} {ps : List Addr} {α : Type} {T : Part ps α} {G H G' H' G1 : Hp} {σ σ' : L2.St} {ρ ρ' : Env} {st : Stmt} {sts s1 s2 : List Stmt} {t u : TDX α} {c e : Expr} {pos : Pos}
theorem WS.liftX {E : DEX α} (sg : Same G G1) (h : WS S.X st (liftX S T G1 E) σ H) : WS S.X st (liftX S T G E) σ H :=
  h.mono (fun _ _ ⟨G', ρ', a, R', w, s', q⟩ => ⟨G', ρ', a, R', w, sg.trans s', q⟩) (fun _ _ q => q) (fun _ _ ⟨G', ρ', a, R', w, s', q⟩ => ⟨G', ρ', a, R', w, sg.trans s', q⟩) fun _ _ ⟨G', ρ', a, R', w, s', q⟩ => ⟨G', ρ', a, R', w, sg.trans s', q⟩
theorem WSs.liftX {E : DEX α} (sg : Same G G1) (h : WSs S.X sts (liftX S T G1 E) σ H) : WSs S.X sts (liftX S T G E) σ H :=
  h.mono (fun _ _ ⟨G', ρ', a, R', w, s', q⟩ => ⟨G', ρ', a, R', w, sg.trans s', q⟩) (fun _ _ q => q) (fun _ _ ⟨G', ρ', a, R', w, s', q⟩ => ⟨G', ρ', a, R', w, sg.trans s', q⟩) fun _ _ ⟨G', ρ', a, R', w, s', q⟩ => ⟨G', ρ', a, R', w, sg.trans s', q⟩
theorem jx_atH (jx : JX S) (x : XS S ps G H σ ρ) : JX (S.atH ps G H) := by
  obtain ⟨W, tk, hW⟩ := jx
  exact ⟨W, tk, fun G' H' σ' ρ' C R q => hW G' H' σ' ρ' C (x.back R).r q⟩
theorem wR_atH {v : V} {rt : D → Prop} (x : XS S ps G H σ ρ) (h : wR (S.atH ps G H) v H' rt) : wR S v H' rt := by
  cases hb : S.tt with
  | false =>
    unfold wR at h
    simp only [hb] at h
    obtain ⟨G', d, e, r, nb, q⟩ := h
    exact wR_false hb ⟨G', d, x.ext e, repV_low x.low r, nb, q⟩
  | true =>
    unfold wR at h
    simp only [hb] at h
    obtain ⟨G', pt, v0, v1, d0, d1, e, ev, e0, fp, ⟨r0, n0⟩, r1, n1, q⟩ := h
    exact wR_true hb ⟨G', pt, v0, v1, d0, d1, x.ext e, ev, x.low _ e0, fp, ⟨repV_low x.low r0, n0⟩, repV_low x.low r1, n1, q⟩
/-- a statement that leaves them as they are -/
def xDat (τ : α → TDS) : TDX α := fun E a ρ => τ a { nx := E.nx a, rt := E.rt, bk := E.bk a, ct := E.ct a } ρ
theorem jx_data {τ : α → TDS} (jx : JX S) (h : ∀ (a : α) (G H : Hp), Now T a G H → JX (S.atH ps G H) → JS (S.atH ps G H) st (τ a)) : JSX S T st (xDat τ) := by
  refine ⟨fun G H σ ρ a E x w q => ?_⟩
  refine ((h a G H ⟨w, fun p hp => (x.own p hp).1⟩ (jx_atH jx x)).run G H σ ρ _ x.at q).mono (fun σ' H' ⟨G', ρ', R, sg, q⟩ => ?_) (fun _ _ q => wR_atH x q) (fun σ' H' ⟨G', ρ', R, sg, q⟩ => ?_) (fun σ' H' ⟨G', ρ', R, sg, q⟩ => ?_) <;>
  exact ⟨G', ρ', a, x.back R, T.mono a G H G' H' w sg fun p hp => (x.kept R.ext p hp).1, sg, q⟩
def xNext : TDX α := fun E a ρ => E.nx a ρ
def xSeq (t u : TDX α) : TDX α := fun E a ρ => t { E with nx := u E } a ρ
theorem jxs_nil : JSXs S T [] xNext := ⟨fun G H σ ρ a E x w q => WSs.of pss_nil ⟨G, ρ, a, x, w, Same.refl G, q⟩⟩
theorem jxs_cons (h1 : JSX S T st t) (h2 : JSXs S T sts u) : JSXs S T (st :: sts) (xSeq t u) := by
  refine ⟨fun G H σ ρ a E x w q => WSs.of (pss_cons ps_w pss_w) ?_⟩
  refine (h1.run G H σ ρ a _ x w q).mono (fun σ' H' ⟨G', ρ', a', x', w', sg, q⟩ => ?_) (fun _ _ q => q) (fun _ _ q => q) fun _ _ q => q
  exact (h2.run G' H' σ' ρ' a' E x' w' q).liftX sg
theorem jxs_one (h1 : JSX S T st t) : JSXs S T [st] t := ⟨fun G H σ ρ a E x w q => WSs.of (pss_one ps_w) (h1.run G H σ ρ a E x w q)⟩
theorem XS.now {a : α} (x : XS S ps G H σ ρ) (w : T.W a G H) : Now T a G H := ⟨w, fun p hp => (x.own p hp).1⟩
theorem T_ext (x : XS S ps G H σ ρ) {a : α} (w : T.W a G H) (e : Ext H G H G' H') : T.W a G' H' := T.mono a G H G' H' w e.g fun p hp => (x.kept (x.at.go e).ext p hp).1
/-- if -/
def xIf (tc : α → TDt) (t u : TDX α) : TDX α := fun E a ρ => tc a ρ fun b => (b = true → t E a ρ) ∧ (b = false → u E a ρ)
theorem jx_if {tc : α → TDt} (jx : JX S) (hc : ∀ (a : α) (G H : Hp), Now T a G H → JX (S.atH ps G H) → JT (S.atH ps G H) c (tc a)) (h1 : JSXs S T s1 t) (h2 : JSXs S T s2 u) : JSX S T (.If c s1 s2 pos) (xIf tc t u) := by
  refine ⟨fun G H σ ρ a E x w q => WS.of (ps_if pt_w pss_w pss_w) (((hc a G H (x.now w) (jx_atH jx x)).run G H σ ρ _ x.at q).mono fun b H1 ⟨G1, x1, q1⟩ => ?_)⟩
  have w1 := T_ext x w x1
  cases b with
  | true => exact (h1.run G1 H1 σ ρ a E (x.go x1) w1 (q1.1 rfl)).liftX x1.g
  | false => exact (h2.run G1 H1 σ ρ a E (x.go x1) w1 (q1.2 rfl)).liftX x1.g
/-- while -/
def xWhile (tc : α → TDt) (tb : TDX α) : TDX α := fun E a ρ => ∃ Iv : Nat → α → Env → Prop, (∃ n ρ', Weak ρ ρ' ∧ Iv n a ρ') ∧ ∀ n a ρ, Iv n a ρ →
  tc a ρ fun b => (b = true → tb { E with nx := fun a' ρ' => ∃ m ρ'', m < n ∧ Weak ρ' ρ'' ∧ Iv m a' ρ'', ct := fun a' ρ' => ∃ m ρ'', m < n ∧ Weak ρ' ρ'' ∧ Iv m a' ρ'', bk := E.nx } a ρ) ∧ (b = false → E.nx a ρ)
theorem jx_while {tc : α → TDt} (jx : JX S) (hp : PassesOwn (model S.X.prog S.X.w) S.X.A S.X.env S.X.xe) (hc : ∀ (a : α) (G H : Hp), Now T a G H → JX (S.atH ps G H) → JT (S.atH ps G H) c (tc a)) (hb : JSXs S T sts t) : JSX S T (.While c sts [] pos) (xWhile tc t) := by
  refine ⟨fun G H σ ρ a E x w h => WS.of (ps_while hp pt_w pss_w) ?_⟩
  obtain ⟨Iv, ⟨n, ρ', wk, i0⟩, turn⟩ := h
  refine ⟨fun n σ H => ∃ G' ρ a, XS S ps G' H σ ρ ∧ T.W a G' H ∧ Same G G' ∧ Iv n a ρ, ⟨n, G, ρ', a, x.weak wk, w, Same.refl G, i0⟩, fun m σ H ⟨G', ρ, a, x, w, sg, iv⟩ => ?_⟩
  refine ((hc a G' H (x.now w) (jx_atH jx x)).run G' H σ ρ _ x.at (turn m a ρ iv)).mono fun b H1 ⟨G1, x1, q1⟩ => ?_
  have w1 := T_ext x w x1
  cases b with
  | false =>
    rw [if_neg Bool.false_ne_true]
    exact ⟨G1, ρ, a, x.go x1, w1, sg.trans x1.g, q1.2 rfl⟩
  | true =>
    rw [if_pos rfl]
    refine ⟨fun σ' H' => ∃ G' ρ' a', XS S ps G' H' σ' ρ' ∧ T.W a' G' H' ∧ Same G G' ∧ ∃ k ρ'', k < m ∧ Weak ρ' ρ'' ∧ Iv k a' ρ'', fun σ' H' ⟨G', ρ', a', x', w', sg', k, ρ'', hk, wk', i'⟩ => ⟨k, hk, G', ρ'', a', x'.weak wk', w', sg', i'⟩, ?_⟩
    exact (hb.run G1 H1 σ ρ a _ (x.go x1) w1 (q1.1 rfl)).liftX (sg.trans x1.g)
/-- for -/
def forX (g : TDG) (tb : TDX α) (E : DEX α) : List D → α → Env → Prop
  | [], a, ρ => E.nx a ρ
  | d :: ds, a, ρ => g d ρ fun ρ2 => tb { E with nx := fun a' ρ' => ∃ ρ'', Weak ρ' ρ'' ∧ forX g tb E ds a' ρ'', ct := fun a' ρ' => ∃ ρ'', Weak ρ' ρ'' ∧ forX g tb E ds a' ρ'', bk := E.nx } a ρ2
def xFor (ι : α → TDI) (g : TDG) (tb : TDX α) : TDX α := fun E a ρ => ι a ρ fun ds => ∃ ρ', Weak ρ ρ' ∧ forX g tb E ds a ρ'
theorem jx_for {tg iter : Expr} {ι : α → TDI} {g : TDG} (jx : JX S) (hp : PassesOwn (model S.X.prog S.X.w) S.X.A S.X.env S.X.xe) (hc : S.X.calm = true) (hi : ∀ (a : α) (G H : Hp), Now T a G H → JX (S.atH ps G H) → JI (S.atH ps G H) tg iter (ι a)) (hg : ∀ (a : α) (G H : Hp), Now T a G H → JX (S.atH ps G H) → JG (S.atH ps G H) tg g) (hb : JSXs S T sts t)
    (hs : ∀ x, foldedSetIterable iter S.X.env x = pure x := by intro _; rfl) : JSX S T (.For tg iter sts [] pos) (xFor ι g t) := by
  refine ⟨fun G H σ ρ a E x w h => WS.of (ps_for hp hc pi_w pg_w pss_w hs) ?_⟩
  refine fun pins s I => thn ((hi a G H (x.now w) (jx_atH jx x)).run G H σ ρ _ x.at h pins s I) fun v s1 h1 => thn h1 fun itv s2 h2 => ?_
  obtain ⟨it, fp, tn, J, H2, e1, e2, e3, e4, e5, G1, ds, x1, gv, ρ', wk, q⟩ := h2
  refine ⟨it, fp, tn, J, H2, e1, e2, e3, e4, e5, ?_⟩
  obtain ⟨n, Gp, Y, en, wlk, hG, hY⟩ := gv
  have R1 := (x.go x1).weak wk
  have w1 := T_ext x w x1
  subst en
  refine for_it wlk (fun i σ H => ∃ G ρ a, XS S ps G H σ ρ ∧ T.W a G H ∧ Same G1 G ∧ forX g t E (ds.drop i) a ρ) ⟨G1, ρ', a, R1, w1, Same.refl G1, q⟩ (fun i σ H _ ⟨G, ρ, a, R, w, sg, _⟩ => hG H (sg.trans R.r.gh)) (fun i x σ H H' hi ⟨G2, ρ, a, R, w, sg, q⟩ y => ?_) fun σ H ⟨G2, ρ, a, R, w, sg, q⟩ => ?_
  · obtain ⟨d, ed, hd⟩ := hY i x H H' (sg.trans R.r.gh) hi y
    have e : ds.drop i = d :: ds.drop (i + 1) := by
      rw [List.drop_eq_getElem_cons hi]
      rw [List.getElem?_eq_getElem hi] at ed
      cases ed
      rfl
    rw [e] at q
    have q' : g d ρ fun ρ2 => t { E with nx := fun a' ρ' => ∃ ρ'', Weak ρ' ρ'' ∧ forX g t E (ds.drop (i + 1)) a' ρ'', ct := fun a' ρ' => ∃ ρ'', Weak ρ' ρ'' ∧ forX g t E (ds.drop (i + 1)) a' ρ'', bk := E.nx } a ρ2 := q
    have st : ∃ G', Ext H G2 H G' H' ∧ RepV S.nm H G' H' x d := by
      rcases hd with ⟨eh, rx⟩ | ⟨T, a, b, da, db, ex, nT, eh, edt, ra, rb⟩
      · subst eh
        exact ⟨G2, Ext.refl R.r.gh, .of (Rep.mono sg _ _ rx)⟩
      · subst eh ex edt
        have gT : G2 T = none := R.r.gh.free nT
        have sm : Same G2 (upd G2 T (.tup [a, b])) := same_upd gT
        refine ⟨upd G2 T (.tup [a, b]), ⟨sm, same_upd nT, fun c o eo => ?_, fun c ec nc => ?_⟩, .of (.tup upd_same (.cons ((Rep.mono sg _ _ ra).mono sm) (.cons ((Rep.mono sg _ _ rb).mono sm) .nil)))⟩
        · by_cases hb : c = T
          · subst hb; rw [upd_same] at eo ⊢; exact eo
          · rw [upd_ne hb] at eo ⊢; exact R.r.gh _ _ eo
        · rw [upd_ne (fun z => nc (by rw [z]; exact nT))]; exact ec
    obtain ⟨G', x', r'⟩ := st
    refine ((hg a G2 H (R.now w) (jx_atH jx R)).run G2 H G' H' σ ρ x d _ R.at x' r' q').mono fun σ2 H2 ⟨G3, ρ2, R2, sg2, q2⟩ => ?_
    have R3 := R.back R2
    have sg23 : Same G2 G3 := x'.g.trans sg2
    have w3 : T.W a G3 H2 := T.mono a G2 H G3 H2 w sg23 fun p hp => (R.kept R2.ext p hp).1
    have sg3 : Same G1 G3 := (sg.trans x'.g).trans sg2
    refine (hb.run G3 H2 σ2 ρ2 a _ R3 w3 q2).mono (fun _ _ ⟨G4, ρ4, a4, R4, w4, sg4, ρ5, w5, q4⟩ => ?_) (fun _ _ q => q) (fun _ _ ⟨G4, ρ4, a4, R4, w4, sg4, q4⟩ => ?_) (fun _ _ ⟨G4, ρ4, a4, R4, w4, sg4, ρ5, w5, q4⟩ => ?_)
    · exact ⟨G4, ρ5, a4, R4.weak w5, w4, sg3.trans sg4, q4⟩
    · exact ⟨G4, ρ4, a4, R4, w4, x1.g.trans (sg3.trans sg4), q4⟩
    · exact ⟨G4, ρ5, a4, R4.weak w5, w4, sg3.trans sg4, q4⟩
  · rw [List.drop_length] at q
    exact ⟨G2, ρ, a, R, w, x1.g.trans sg, q⟩
end
end DD

set_option Elab.async false
set_option linter.all false
set_option maxRecDepth 100000
set_option maxHeartbeats 2000000
namespace DD
open PySem PySem.Spec PyProof.Rows L2
/-! ### keys by data -/
mutual
def keyOf : D → Option NestedKey
  | .int i => some (.num i)
  | .str x => some (.text x)
  | .tup l => match keysOf l with
    | some ks => some (.tup ks)
    | none => none
  | _ => none
def keysOf : List D → Option (List NestedKey)
  | [] => some []
  | d :: ds => match keyOf d, keysOf ds with
    | some k, some ks => some (k :: ks)
    | _, _ => none
end
section
variable {nm : Nm} {G H : Hp}
mutual
theorem kr_rep : ∀ (d : D) (v : V) (k : NestedKey), Rep nm G v d → keyOf d = some k → KR G k v
  | .int i, _, _, r, e => by cases r; cases e; exact .num i
  | .str x, _, _, r, e => by cases r; cases e; exact .text x
  | .tup l, _, k, r, e => by
    cases r with
    | tup h q =>
      unfold keyOf at e
      cases ek : keysOf l with
      | none => rw [ek] at e; cases e
      | some ks =>
        rw [ek] at e
        cases e
        exact .tup h (krs_rep l _ ks q ek)
  | .non, _, _, _, e => by cases e
  | .bl _, _, _, _, e => by cases e
  | .lst _, _, _, _, e => by cases e
  | .scr _, _, _, _, e => by cases e
  | .own _, _, _, _, e => by cases e
  | .bor _, _, _, _, e => by cases e
  | .ins _ _ _, _, _, _, e => by cases e
  | .exc _, _, _, _, e => by cases e
  | .dct _ _, _, _, _, e => by cases e
theorem krs_rep : ∀ (ds : List D) (vs : List V) (ks : List NestedKey), Reps nm G vs ds → keysOf ds = some ks → KRs G ks vs
  | [], _, _, r, e => by cases r; cases e; exact .nil
  | d :: ds, _, _, r, e => by
    cases r with
    | cons r q =>
      unfold keysOf at e
      cases e1 : keyOf d with
      | none => rw [e1] at e; cases e
      | some k =>
        cases e2 : keysOf ds with
        | none => rw [e1, e2] at e; cases e
        | some ks =>
          rw [e1, e2] at e
          cases e
          exact .cons (kr_rep d _ k r e1) (krs_rep ds _ ks q e2)
end
theorem key_flat {d : D} {k : NestedKey} (h : keyOf d = some k) : flat1 d = true := by cases d <;> first | rfl | cases h
theorem key_tup {d : D} {ks : List NestedKey} (h : keyOf d = some (.tup ks)) {v : V} (r : Rep nm G v d) : ∃ a, v = .ref a := by
  cases d with
  | tup l => cases r; exact ⟨_, rfl⟩
  | int i => cases h
  | str x => cases h
  | _ => cases h
theorem key_num {d : D} {i : Int} (h : keyOf d = some (.num i)) : d = .int i := by
  cases d with
  | int j => cases h; rfl
  | tup l =>
    unfold keyOf at h
    cases e : keysOf l with
    | none => rw [e] at h; cases h
    | some ks => rw [e] at h; cases h
  | str x => cases h
  | _ => cases h
/-! ### what a dict gives -/
def lookE : List NestedKey → List D → NestedKey → Option D
  | k :: ks, d :: ds, x => if k = x then some d else lookE ks ds x
  | _, _, _ => none
structure DC where
  F : NestedKey → Option D
  n : Nat
def DicAt (nm : Nm) (p : Addr) (c : DC) (G H : Hp) : Prop := ∃ (es : List Ent) (ds : List D), H p = some (DXO nm.w p es) ∧ KRs G (es.map (·.1)) (es.map fun e => .ref e.2.1) ∧ Reps nm G (es.map (·.2.2)) ds ∧ es.length ≤ c.n ∧ ∀ k, c.F k = lookE (es.map (·.1)) ds k
theorem DicAt.mono {p : Addr} {c : DC} {G' H' : Hp} (h : DicAt nm p c G H) (s : Same G G') (e : H' p = H p) : DicAt nm p c G' H' := by
  obtain ⟨es, ds, h1, h2, h3, h4, h5⟩ := h
  exact ⟨es, ds, e.trans h1, KRs.mono s _ _ h2, h3.mono s, h4, h5⟩
theorem look_val : ∀ {es : List Ent} {ds : List D} {k : NestedKey} {d : D}, Reps nm G (es.map (·.2.2)) ds → lookE (es.map (·.1)) ds k = some d → ∃ v, valE es k = some v ∧ Rep nm G v d
  | [], _, _, _, _, h => by cases h
  | x :: es, d0 :: ds, k, d, .cons r q, h => by
    unfold valE
    rw [List.find?_cons]
    have h : (if x.1 = k then some d0 else lookE (es.map (·.1)) ds k) = some d := h
    by_cases hx : x.1 = k
    · rw [if_pos hx] at h
      cases h
      rw [decide_eq_true hx]
      exact ⟨x.2.2, rfl, r⟩
    · rw [if_neg hx] at h
      rw [decide_eq_false hx]
      exact look_val (es := es) q h
theorem look_none : ∀ {es : List Ent} {ds : List D} {k : NestedKey}, Reps nm G (es.map (·.2.2)) ds → ((lookE (es.map (·.1)) ds k).isSome = (valE es k).isSome)
  | [], _, _, _ => by cases ‹List D› <;> rfl
  | x :: es, d0 :: ds, k, .cons r q => by
    unfold valE
    rw [List.find?_cons]
    show (if x.1 = k then some d0 else lookE (es.map (·.1)) ds k).isSome = _
    by_cases hx : x.1 = k
    · rw [if_pos hx, decide_eq_true hx]; rfl
    · rw [if_neg hx, decide_eq_false hx]
      exact look_none (es := es) q
/-- the data behind a store -/
def storeD (ks : List NestedKey) (ds : List D) (k : NestedKey) (d : D) : List D := if (lookE ks ds k).isSome then (ks.zip ds).map (fun x => if x.1 = k then d else x.2) else ds ++ [d]
theorem store_reps {k : NestedKey} {a : Addr} {v : V} {d : D} {es : List Ent} {ds : List D} (r : Reps nm G (es.map (·.2.2)) ds) (rv : Rep nm G v d) : Reps nm G ((storeE es k a v).map (·.2.2)) (storeD (es.map (·.1)) ds k d) := by
  unfold storeE storeD
  rw [look_none r]
  split
  · rename_i z
    clear z
    induction es generalizing ds with
    | nil => cases r; exact .nil
    | cons x es ih =>
      cases r with
      | cons r q =>
        rename_i d0 ds
        show Reps nm G ((putE k v x).2.2 :: (es.map (putE k v)).map (·.2.2)) ((if x.1 = k then d else d0) :: ((es.map (·.1)).zip ds).map _)
        refine .cons ?_ (ih q)
        unfold putE
        by_cases hx : x.1 = k
        · rw [if_pos hx, if_pos hx]; exact rv
        · rw [if_neg hx, if_neg hx]; exact r
  · rw [List.map_append]
    exact r.append (.cons rv .nil)
theorem store_look {k : NestedKey} {d : D} (x : NestedKey) : ∀ {ks : List NestedKey} {ds : List D}, ks.length = ds.length → lookE (if (lookE ks ds k).isSome then ks else ks ++ [k]) (storeD ks ds k d) x = if x = k then some d else lookE ks ds x := by
  have main : ∀ (ks : List NestedKey) (ds : List D), lookE ks ((ks.zip ds).map (fun y => if y.1 = k then d else y.2)) x = if x = k then (if (lookE ks ds k).isSome then some d else none) else lookE ks ds x := by
    intro ks
    induction ks with
    | nil => intro ds; cases ds <;> (show none = _; split <;> rfl)
    | cons y ks ih =>
      intro ds
      cases ds with
      | nil => show none = _; split <;> rfl
      | cons e ds =>
        show (if y = x then some (if y = k then d else e) else lookE ks ((ks.zip ds).map _) x) = if x = k then (if (if y = k then some e else lookE ks ds k).isSome then some d else none) else if y = x then some e else lookE ks ds x
        rw [ih ds]
        by_cases h1 : y = x
        · subst h1
          rw [if_pos rfl, if_pos rfl]
          by_cases h2 : y = k
          · subst h2; simp
          · rw [if_neg h2, if_neg h2]
        · rw [if_neg h1, if_neg h1]
          by_cases h2 : x = k
          · subst h2
            rw [if_pos rfl, if_pos rfl, if_neg h1]
          · rw [if_neg h2, if_neg h2]
  have app : ∀ (ks : List NestedKey) (ds : List D), ks.length = ds.length → (lookE ks ds k).isSome = false → lookE (ks ++ [k]) (ds ++ [d]) x = if x = k then some d else lookE ks ds x := by
    intro ks
    induction ks with
    | nil =>
      intro ds hl _
      cases ds with
      | nil =>
        show (if k = x then some d else none) = if x = k then some d else none
        by_cases h : x = k
        · rw [if_pos h, if_pos h.symm]
        · rw [if_neg h, if_neg (Ne.symm h)]
      | cons _ _ => cases hl
    | cons y ks ih =>
      intro ds hl hn
      cases ds with
      | nil => cases hl
      | cons e ds =>
        have hn : (if y = k then some e else lookE ks ds k).isSome = false := hn
        have hyk : ¬ y = k := fun z => by rw [if_pos z] at hn; cases hn
        rw [if_neg hyk] at hn
        show (if y = x then some e else lookE (ks ++ [k]) (ds ++ [d]) x) = if x = k then some d else if y = x then some e else lookE ks ds x
        rw [ih ds (by simpa using hl) hn]
        by_cases h1 : y = x
        · subst h1; rw [if_pos rfl, if_neg hyk, if_pos rfl]
        · rw [if_neg h1, if_neg h1]
  intro ks ds hl
  unfold storeD
  cases h : (lookE ks ds k).isSome with
  | true =>
    rw [if_pos rfl, if_pos rfl, main ks ds, h]
    rfl
  | false =>
    rw [if_neg (by decide), if_neg (by decide)]
    exact app ks ds hl h
theorem DicAt.store {p : Addr} {c : DC} {k : NestedKey} {a : Addr} {v : V} {d : D} {es : List Ent} {ds : List D} (h2 : KRs G (es.map (·.1)) (es.map fun e => .ref e.2.1)) (h3 : Reps nm G (es.map (·.2.2)) ds) (h4 : es.length ≤ c.n) (h5 : ∀ k, c.F k = lookE (es.map (·.1)) ds k)
    (hk : KR G k (.ref a)) (rv : Rep nm G v d) : DicAt nm p ⟨fun x => if x = k then some d else c.F x, c.n + 1⟩ G (upd H p (DXO nm.w p (storeE es k a v))) := by
  refine ⟨_, storeD (es.map (·.1)) ds k d, upd_same, krs_store h2 hk, store_reps h3 rv, ?_, fun x => ?_⟩
  · have := storeE_len es k a v
    show _ ≤ c.n + 1
    omega
  · have hl : (es.map (·.1)).length = ds.length := by
      have := h3.length
      simpa using this
    rw [storeE_keys, ← look_none (k := k) h3, store_look x hl]
    show (if x = k then some d else c.F x) = _
    rw [h5]
end
end DD

set_option Elab.async false
set_option linter.all false
set_option maxRecDepth 100000
set_option maxHeartbeats 2000000
namespace DD
open PySem PySem.Spec PyProof.Rows L2
/-- keys seen: tuples (b), or whole numbers -/
structure SC where
  M : NestedKey → Bool
  n : Nat
def SeenAt (nm : Nm) (p : Addr) (b : Bool) (c : SC) (G H : Hp) : Prop := match b with
  | true => ∃ F : DC, DicAt nm p F G H ∧ F.n = c.n ∧ ∀ k, c.M k = (F.F k).isSome
  | false => ∃ kvs : List (Key × V), H p = some (.dK kvs) ∧ kvs.length ≤ c.n ∧ ∀ i : Int, c.M (.num i) = (valV kvs (.inl i)).isSome
theorem SeenAt.mono {nm : Nm} {p : Addr} {b : Bool} {c : SC} {G H G' H' : Hp} (h : SeenAt nm p b c G H) (s : Same G G') (e : H' p = H p) : SeenAt nm p b c G' H' := by
  cases b with
  | true =>
    obtain ⟨F, h1, h2⟩ := h
    exact ⟨F, h1.mono s e, h2⟩
  | false =>
    obtain ⟨kvs, h1, h2⟩ := h
    exact ⟨kvs, e.trans h1, h2⟩
/-- a key fit for such a dict -/
def KeyB (b : Bool) (k : NestedKey) : Prop := match b with
  | true => ∃ ks, k = .tup ks ∧ k.depth ≤ 8
  | false => ∃ i, k = .num i
section
variable {S : Sit} {o k e : Expr} {pos px spos : Pos} {τ : TD} {i : Nat} {x : Str} {p : Addr} {c : DC} {b : Bool}
theorem at_now {nm : Nm} {c : DC} {G0 B G H : Hp} (h : DicAt nm p c G0 B) (s : Same G0 G) (r : Same B H) : DicAt nm p c G H := by
  obtain ⟨es, ds, h1, h2⟩ := h
  exact DicAt.mono ⟨es, ds, h1, h2⟩ s (by rw [r _ _ h1, h1])
theorem seen_now {nm : Nm} {c : SC} {G0 B G H : Hp} (h : SeenAt nm p b c G0 B) (s : Same G0 G) (r : Same B H) : SeenAt nm p b c G H := by
  cases b with
  | true =>
    obtain ⟨F, h1, h2⟩ := h
    exact ⟨F, at_now h1 s r, h2⟩
  | false =>
    obtain ⟨kvs, h1, h2⟩ := h
    exact ⟨kvs, r _ _ h1, h2⟩
/-- an expression whose value is the thing at p -/
def JOb (S : Sit) (o : Expr) (p : Addr) : Prop := ∀ (G H : Hp) (σ : L2.St) (ρ : Env), S.Rel G H σ ρ → WX S.X o σ H fun v H' => H' = H ∧ v = .ref p
theorem jo_name (hp : S.pp.o = some (i, p) ∨ (i, p) ∈ S.pp.l) (hN : S.X.N[i]? = some x) (hv : Vis S.X.env.scope x) (hd : (x == ("__debug__" : Str)) = false := by decide) (hcd : (x == ("__classdict__" : Str)) = false := by decide) : JOb S (.Name x px) p :=
  fun G H σ ρ R => WX.of (pe_var hN hv hd hcd) ⟨.ref p, R.pin i p hp, rfl, rfl⟩
def eDix (F : NestedKey → Option D) (τ : TD) : TD := fun ρ Q => τ ρ fun d => ∃ ks y, keyOf d = some (.tup ks) ∧ NestedKey.depth (.tup ks) ≤ 8 ∧ F (.tup ks) = some y ∧ Q y
theorem je_dix (hu : S.X.A.units + 64 < cLine) (jo : JOb S o p) (hW : DicAt S.nm p c S.G0 S.B) (hk : JE S k τ) (hs : NoSl k := by intro _ _; rfl) : JE S (.Subscript o k pos) (eDix c.F τ) := by
  refine ⟨fun G H σ ρ Q R h => fun pins s I => subD_of PySem.F.slot_dict_getitem.lookup hs (thn (jo G H σ ρ R pins s I) fun u s1 ⟨y, H1, I1, ry, eH, ey⟩ => ?_)⟩
  subst eH ey
  obtain rfl : u = Value.ref p := ry
  refine thn (hk.run G H1 σ ρ _ R h pins s1 I1) fun iv s2 ⟨kv, H2, I2, rk, G2, d, x2, r2, ks, y, ek, dp, ef, q⟩ => ?_
  obtain ⟨es, ds, d1, d2, d3, d4, d5⟩ := at_now hW (R.ext.g.trans x2.g) (R.bh.trans x2.h)
  have rd := flat1_rep (key_flat ek) r2
  obtain ⟨ka, rfl⟩ := key_tup ek rd
  obtain rfl : iv = Value.ref ka := rk
  rw [d5] at ef
  obtain ⟨v, hv, rv⟩ := look_val d3 ef
  have d1 : H2 p = some (DXO S.X.w p es) := by rw [← S.ww]; exact d1
  have kH := KRs.mono x2.gh _ _ d2
  obtain ⟨_, _, dd, _, _⟩ := dxo_at I2.hok d1 kH
  exact ⟨dd.typeIs, dxo_get hu I2 d1 kH (KR.mono x2.gh _ _ (kr_rep _ _ _ rd ek)) dp hv fun w' s3 I3 rw' => ⟨v, H2, I3, rw', G2, y, x2, .of rv, q⟩⟩
/-- a frozen one -/
def eDixF (τo τ : TD) : TD := fun ρ Q => τo ρ fun t => match t with
  | .dct ks ds => τ ρ fun d => ∃ k y, keyOf d = some (.tup k) ∧ NestedKey.depth (.tup k) ≤ 8 ∧ lookE ks ds (.tup k) = some y ∧ Q y
  | _ => False
theorem je_dixF {τo : TD} (hu : S.X.A.units + 64 < cLine) (ho : JE S o τo) (hk : JE S k τ) (hs : NoSl k := by intro _ _; rfl) : JE S (.Subscript o k pos) (eDixF τo τ) := by
  refine ⟨fun G H σ ρ Q R h => fun pins s I => subD_of PySem.F.slot_dict_getitem.lookup hs (thn (ho.run G H σ ρ _ R h pins s I) fun u s1 ⟨y, H1, I1, ry, G1, t, x1, r1, q1⟩ => ?_)⟩
  cases t with
  | dct ks ds =>
    have r1 : Rep S.nm G1 y (.dct ks ds) := r1
    cases r1 with
    | @dct p es _ _ e1 e2 e3 e4 =>
      subst e2
      obtain rfl : u = Value.ref p := ry
      refine thn (hk.run G1 H1 σ ρ _ (R.go x1) q1 pins s1 I1) fun iv s2 ⟨kv, H2, I2, rk, G2, d, x2, r2, k, y, ek, dp, ef, q⟩ => ?_
      have rd := flat1_rep (key_flat ek) r2
      obtain ⟨ka, rfl⟩ := key_tup ek rd
      obtain rfl : iv = Value.ref ka := rk
      obtain ⟨v, hv, rv⟩ := look_val (e4.mono x2.g) ef
      have d1 : H2 p = some (DXO S.X.w p es) := by rw [← S.ww]; exact x2.gh _ _ (x2.g _ _ e1)
      have kH := KRs.mono x2.gh _ _ (KRs.mono x2.g _ _ e3)
      obtain ⟨_, _, dd, _, _⟩ := dxo_at I2.hok d1 kH
      exact ⟨dd.typeIs, dxo_get hu I2 d1 kH (KR.mono x2.gh _ _ (kr_rep _ _ _ rd ek)) dp hv fun w' s3 I3 rw' => ⟨v, H2, I3, rw', G2, y, x1.trans (Ext.from x1.h x2), .of rv, q⟩⟩
  | _ => exact q1.elim
def eNotSeen (b : Bool) (M : NestedKey → Bool) (τ : TD) : TDt := fun ρ Q => τ ρ fun d => ∃ k, keyOf d = some k ∧ KeyB b k ∧ Q (!M k)
theorem jt_notseen {c : SC} (hu : S.X.A.units + 64 < cLine) (jo : JOb S o p) (hW : SeenAt S.nm p b c S.G0 S.B) (he : JE S e τ) (hm : behindInMarks .NotIn o = false := by rfl) : JT S (.Compare e [.NotIn] [o] pos) (eNotSeen b c.M τ) := by
  refine ⟨fun G H σ ρ Q R h => WT.of (pt_cmpR op_sem pe_w pe_w hm) ?_⟩
  refine (he.run G H σ ρ _ R h).mono fun kv H1 ⟨G1, d, x1, r1, key, ek, kb, q⟩ => ?_
  refine (jo G1 H1 σ ρ (R.go x1)).mono fun y H2 ⟨eH, ey⟩ => ?_
  subst eH ey
  intro pins s σ' v u I rv ru
  obtain rfl : u = Value.ref p := ru
  have rd := flat1_rep (key_flat ek) r1
  have sn := seen_now hW (R.ext.g.trans x1.g) (R.bh.trans x1.h)
  cases b with
  | true =>
    obtain ⟨ks, rfl, dp⟩ := kb
    obtain ⟨F, ⟨es, ds, d1, d2, d3, d4, d5⟩, _, hM⟩ := sn
    obtain ⟨ka, rfl⟩ := key_tup ek rd
    obtain rfl : v = Value.ref ka := rv
    have d1 : H2 p = some (DXO S.X.w p es) := by rw [← S.ww]; exact d1
    refine dxo_notIn hu I d1 (KRs.mono x1.gh _ _ d2) (KR.mono x1.gh _ _ (kr_rep _ _ _ rd ek)) dp fun s2 I2 => ⟨.bl _, H2, I2, rfl, _, rfl, G1, x1, ?_⟩
    rw [← look_none d3, ← d5, ← hM]
    exact q
  | false =>
    obtain ⟨j, rfl⟩ := kb
    obtain ⟨kvs, d1, d2, d3⟩ := sn
    obtain rfl := key_num ek
    cases repV_int r1
    refine d_notIn (by omega) I (DGet.k (k := .inl j) d1) rv fun s2 I2 => ⟨.bl _, H2, I2, rfl, _, rfl, G1, x1, ?_⟩
    rw [← d3]
    exact q
end
section
variable {S : Sit} {ps : List Addr} {α : Type} {T : Part ps α} {o k e : Expr} {pos px spos : Pos} {p : Addr} {b : Bool}
/-- d[k] = e -/
def xPut (τe τk : α → TD) (g : α → DC) (f : α → DC → α) : TDX α := fun E a ρ => τe a ρ fun d => isBor d = false ∧ τk a ρ fun kd => ∃ ks, keyOf kd = some (.tup ks) ∧ NestedKey.depth (.tup ks) ≤ 8 ∧ (g a).n < sizeLine ∧
  E.nx (f a ⟨fun y => if y = .tup ks then some (frzO d) else (g a).F y, (g a).n + 1⟩) ρ
theorem jx_put {τe τk : α → TD} {g : α → DC} {f : α → DC → α} (jx : JX S) (hu : S.X.A.units + 64 < cLine) (hp : p ∈ ps) (jo : JOb S o p) (hg : ∀ a G H, T.W a G H → DicAt S.nm p (g a) G H) (hf : ∀ a G H c es, T.W a G H → DicAt S.nm p c G (upd H p (DXO S.nm.w p es)) → T.W (f a c) G (upd H p (DXO S.nm.w p es)))
    (he : ∀ (a : α) (G H : Hp), Now T a G H → JX (S.atH ps G H) → JE (S.atH ps G H) e (τe a)) (hk : ∀ (a : α) (G H : Hp), Now T a G H → JX (S.atH ps G H) → JE (S.atH ps G H) k (τk a)) (hs : swapsWith e (some (.Subscript o k spos)) pos.line S.X.env = pure false := by rfl) :
    JSX S T (.Assign [.Subscript o k spos] e pos) (xPut τe τk g f) := by
  refine ⟨fun G H σ ρ a E x w q => fun pins s I => wpAny_Assign_Subscript (thn ((he a G H (x.now w) (jx_atH jx x)).run G H σ ρ _ x.at q pins s I) fun r s1 ⟨v, H1, I1, rv, G1, d, x1, r1, nb, q1⟩ => ?_) hs⟩
  obtain ⟨G1', x1', r1'⟩ := r1.frzO x1.gh
  have y1 := x1.trans x1'
  have X1 := x.go y1
  have w1 := T_ext x w y1
  refine thn (jo G1' H1 σ ρ X1.r pins s1 I1) fun u s2 ⟨y, H2, I2, ry, eH, ey⟩ => ?_
  subst eH ey
  obtain rfl : u = Value.ref p := ry
  refine thn ((hk a G1' H2 (X1.now w1) (jx_atH jx X1)).run G1' H2 σ ρ _ X1.at q1 pins s2 I2) fun iv s3 ⟨kv, H3, I3, rk, G3, kd, x3, r3, ks, ek, dp, hn, q3⟩ => ?_
  have X3 := X1.go x3
  have w3 := T_ext X1 w1 x3
  obtain ⟨es, ds, d1, d2, d3, d4, d5⟩ := hg a G3 H3 w3
  have rd := flat1_rep (key_flat ek) r3
  obtain ⟨ka, rfl⟩ := key_tup ek rd
  obtain rfl : iv = Value.ref ka := rk
  have kr := kr_rep _ _ _ rd ek
  have rvd : Rep S.nm G3 v (frzO d) := by
    have z := r1'.ext x3
    cases hd : frzO d with
    | own l2 => exact absurd hd frzO_own
    | bor l2 =>
      cases d <;> simp [frzO] at hd
      cases nb
    | _ => rw [hd] at z; exact z
  have d1' : H3 p = some (DXO S.X.w p es) := by rw [← S.ww]; exact d1
  refine dxo_set hu I3 d1' (KRs.mono x3.gh _ _ d2) (KR.mono x3.gh _ _ kr) dp (by omega) rv fun s4 I4 => ?_
  have I4 : Inv S.X pins σ (upd H3 p (DXO S.nm.w p (storeE es (.tup ks) ka v))) s4 := by rw [S.ww]; exact I4
  exact ⟨σ, _, I4, G3, ρ, _, X3.put hp _, hf a G3 H3 _ _ w3 (DicAt.store (c := g a) d2 d3 d4 d5 kr rvd), y1.g.trans x3.g, q3⟩
/-- seen[k] = True -/
def xSeen (b : Bool) (τk : α → TD) (g : α → SC) (f : α → SC → α) : TDX α := fun E a ρ => τk a ρ fun kd => ∃ k, keyOf kd = some k ∧ KeyB b k ∧ (g a).n < sizeLine ∧ E.nx (f a ⟨fun y => if y = k then true else (g a).M y, (g a).n + 1⟩) ρ
theorem jx_seen {τk : α → TD} {g : α → SC} {f : α → SC → α} {j} {cp : Pos} (jx : JX S) (hu : S.X.A.units + 64 < cLine) (hp : p ∈ ps) (jo : JOb S o p) (hg : ∀ a G H, T.W a G H → SeenAt S.nm p b (g a) G H) (hf : ∀ a G H c o, T.W a G H → SeenAt S.nm p b c G (upd H p o) → T.W (f a c) G (upd H p o))
    (hk : ∀ (a : α) (G H : Hp), Now T a G H → JX (S.atH ps G H) → JE (S.atH ps G H) k (τk a)) (hs : swapsWith (.Constant (.bool true) j cp) (some (.Subscript o k spos)) pos.line S.X.env = pure false := by rfl) :
    JSX S T (.Assign [.Subscript o k spos] (.Constant (.bool true) j cp) pos) (xSeen b τk g f) := by
  refine ⟨fun G H σ ρ a E x w q => fun pins s I => wpAny_Assign_Subscript (thn (pe_bl.run pins s σ H (fun v H' => v = .bl true ∧ H' = H) I ⟨rfl, rfl⟩) fun r s1 ⟨v, H1, I1, rv, ev, eH1⟩ => ?_) hs⟩
  subst ev eH1
  refine thn (jo G H1 σ ρ x.r pins s1 I1) fun u s2 ⟨y, H2, I2, ry, eH, ey⟩ => ?_
  subst eH ey
  obtain rfl : u = Value.ref p := ry
  refine thn ((hk a G H2 (x.now w) (jx_atH jx x)).run G H2 σ ρ _ x.at q pins s2 I2) fun iv s3 ⟨kv, H3, I3, rk, G3, kd, x3, r3, key, ek, kb, hn, q3⟩ => ?_
  have X3 := x.go x3
  have w3 := T_ext x w x3
  have rd := flat1_rep (key_flat ek) r3
  have sn := hg a G3 H3 w3
  have kr := kr_rep _ _ _ rd ek
  cases b with
  | true =>
    obtain ⟨ks, rfl, dp⟩ := kb
    obtain ⟨F, ⟨es, ds, d1, d2, d3, d4, d5⟩, en, hM⟩ := sn
    obtain ⟨ka, rfl⟩ := key_tup ek rd
    obtain rfl : iv = Value.ref ka := rk
    have d1' : H3 p = some (DXO S.X.w p es) := by rw [← S.ww]; exact d1
    refine dxo_set hu I3 d1' (KRs.mono x3.gh _ _ d2) (KR.mono x3.gh _ _ kr) dp (by omega) rv fun s4 I4 => ?_
    have I4 : Inv S.X pins σ (upd H3 p (DXO S.nm.w p (storeE es (.tup ks) ka (.bl true)))) s4 := by rw [S.ww]; exact I4
    refine ⟨σ, _, I4, G3, ρ, _, X3.put hp _, hf a G3 H3 _ _ w3 ⟨_, DicAt.store (c := F) d2 d3 d4 d5 kr (.bl true), congrArg (· + 1) en, fun y => ?_⟩, x3.g, q3⟩
    show (if y = NestedKey.tup ks then true else (g a).M y) = (if y = NestedKey.tup ks then some (D.bl true) else F.F y).isSome
    by_cases hy : y = NestedKey.tup ks
    · rw [if_pos hy, if_pos hy]; rfl
    · rw [if_neg hy, if_neg hy, hM]
  | false =>
    obtain ⟨i, rfl⟩ := kb
    obtain ⟨kvs, d1, d2, d3⟩ := sn
    obtain rfl := key_num ek
    cases repV_int r3
    refine d_setItem (by omega) I3 (DPut.k (k := .inl i) (v := .bl true) d1 (by omega)) rk rv fun s4 I4 => ?_
    refine ⟨σ, _, I4, G3, ρ, _, X3.put hp _, hf a G3 H3 _ _ w3 ⟨_, upd_same, ?_, fun y => ?_⟩, x3.g, q3⟩
    · have := length_putK kvs (.inl i) (.bl true)
      show _ ≤ (g a).n + 1
      omega
    · show (if NestedKey.num y = .num i then true else (g a).M (.num y)) = _
      by_cases hy : y = i
      · subst hy; rw [if_pos rfl, valV_put, if_pos rfl]; rfl
      · rw [if_neg (fun z => hy (NestedKey.num.inj z)), valV_put, if_neg (fun z => hy (Sum.inl.inj z)), d3]
end
end DD

set_option Elab.async false
set_option linter.all false
set_option maxRecDepth 100000
set_option maxHeartbeats 2000000
namespace DD
open PySem PySem.Spec PyProof.Rows L2
/-! ### {k: v}, k a tuple -/
section
variable {X : Cx} {pos : Pos} {k v : Expr} {tk tv : TE}
theorem pe_disp1 (hu : X.A.units + 64 < cLine) (hk : PE X k tk) (hv : PE X v tv) : PE X (.Dict [some k] [v] pos) (fun σ H Q => ∀ p, H p = none → tk σ (upd H p (DXO X.w p [])) fun x H1 => tv σ H1 fun y H2 =>
    ∃ ka key, x = .ref ka ∧ H2 p = some (DXO X.w p []) ∧ KR H2 key (.ref ka) ∧ key.depth ≤ 8 ∧ Q (.ref p) (upd H2 p (DXO X.w p [(key, ka, y)]))) := by
  refine ⟨fun pins s σ H Q I q => ?_⟩
  have hn := I.hok.fresh (Nat.le_refl s.heap.objs.size)
  have e0 : ∀ h : Heap, h.objs.size = s.heap.objs.size → True := fun _ _ => trivial
  have new : ObjOk X.prog X.w (upd H s.heap.objs.size (DXO X.w s.heap.objs.size [])) (s.heap.push { cls := .type "dict", data := .dict #[] }) s.heap.objs.size (DXO X.w s.heap.objs.size []) :=
    ⟨⟨fun z => by have := I.big; rw [z] at this; exact absurd this (Nat.lt_irrefl _), List.nodup_nil, Nat.zero_le _, (fun _ z => by cases z), [], .nil, _, #[], 0, Heap.get?_push_size _ rfl, ⟨rfl, rfl, rfl⟩, rfl, rfl⟩, ⟨_, Heap.get?_push_size _ rfl⟩,
      fun h1 h2 ⟨a1, a2, a3, a4, ys, a5, o, ds, ep, b1, b2⟩ kk => ⟨a1, a2, a3, a4, ys, a5, o, ds, ep, kk _ b1, b2⟩⟩
  have I1 := I.laid (a := s.heap.objs.size) (t' := s.toks) (fun _ _ q => Heap.get?_push_of_some _ q) (Nat.le_refl _) new
  have rm : (nestedKind X.prog X.w).room X.A := by show X.A.units + 8 < cLine; omega
  have hl := pairTrees_length [some k] [v] X.env pos rfl rfl
  rw [arm_eval_Dict, zip_pairTrees [some k] [v] X.env pos rfl rfl, dictDisplay_pairs (pairTrees [some k] [v] X.env pos) (by intro z; rw [z] at hl; cases hl) (by rw [hl]; show 1 < 17; decide)]
  refine wpAny_bind (wpAny_standAt (wpAny_bind (wpAny_subDictH (knd := nestedKind X.prog X.w) (Q := fun d s' => wpAny (model X.prog X.w) X.A (pure (Value.ref d)) (EP X pins σ Q) X.xe s') rm (by rw [hl]; show 1 ≤ 15; decide) ?_)))
  refine pairTrees_cons_walk (thn (hk.run pins _ σ _ _ I1 (q _ hn)) fun u s1 ⟨x, H1, I1, rx, q1⟩ => thn (hv.run pins s1 σ H1 _ I1 q1) fun w2 s2 ⟨y, H2, I2, ry, ka, key, ex, e, kr, dp, q2⟩ => pairTrees_nil_walk ?_)
  subst ex
  obtain rfl : u = Value.ref ka := rx
  obtain ⟨ys, rl, dd, hp, _⟩ := dxo_at I2.hok e .nil
  cases rl
  refine ⟨[(key, ka, w2)], ⟨rfl, rfl, ⟨kr_is I2.hok _ _ _ kr rfl, dp⟩, trivial⟩, dd, fun h' tk' dd' hs => wpAny_pure ⟨.ref s.heap.objs.size, _, ?_, rfl, q2⟩⟩
  have he : ∃ q, h'.get? s.heap.objs.size = some q := let ⟨q, _, _, hq, _⟩ := dd'; ⟨q, hq⟩
  refine d_write I2 (by rw [e]; exact True.intro) hs he ⟨⟨beq_eq_false_iff_ne.mp hp, by simp, (by show 1 ≤ sizeLine; rw [sizeLine_eq]; decide), fun e he => ?_, [(key, ka, w2)], .cons ⟨rfl, rfl, ry⟩ .nil, ?_⟩, he, ?_⟩
  · rw [List.mem_singleton.mp he]; exact dp
  · obtain ⟨o, ds, ep, h1, h2, h3, h4, _, _⟩ := dd'
    exact ⟨o, ds, ep, h1, h2, h3, h4⟩
  · rintro h1 h2 ⟨a1, a2, a3, a4, ys, a5, o, ds, ep, b1, b2⟩ kk
    exact ⟨a1, a2, a3, a4, ys, a5, o, ds, ep, kk _ b1, b2⟩
end
/-! ### a dict begins -/
abbrev Sit.pin1 (S : Sit) (i : Nat) (p : Addr) : Sit := { S with pp := { S.pp with l := (i, p) :: S.pp.l } }
def Part.none : Part [] Unit := ⟨fun _ _ _ => True, fun _ _ _ _ _ _ _ _ => trivial⟩
def Part.seen {ps : List Addr} {α : Type} (T : Part ps α) (nm : Nm) (p : Addr) (b : Bool) : Part (p :: ps) (α × SC) :=
  ⟨fun a G H => T.W a.1 G H ∧ SeenAt nm p b a.2 G H, fun a G H G' H' w s e => ⟨T.mono _ G H G' H' w.1 s fun q hq => e q (List.mem_cons_of_mem _ hq), w.2.mono s (e p List.mem_cons_self)⟩⟩
def Part.dic {ps : List Addr} {α : Type} (T : Part ps α) (nm : Nm) (p : Addr) : Part (p :: ps) (α × DC) :=
  ⟨fun a G H => T.W a.1 G H ∧ DicAt nm p a.2 G H, fun a G H G' H' w s e => ⟨T.mono _ G H G' H' w.1 s fun q hq => e q (List.mem_cons_of_mem _ hq), w.2.mono s (e p List.mem_cons_self)⟩⟩
section
variable {S : Sit} {ps : List Addr} {α β : Type} {T : Part ps α} {G H G' H' : Hp} {σ σ' : L2.St} {ρ ρ' : Env} {st : Stmt} {sts : List Stmt} {i : Nat} {x : Str} {p : Addr} {k e : Expr} {pos px dp : Pos} {b : Bool}
theorem rel_unpin (R : (S.pin1 i p).Rel G H σ ρ) : S.Rel G H σ ρ := ⟨R.ext, R.len, R.slot, R.apart, fun j q e => R.pin j q (by
  rcases e with e | e
  · exact .inl e
  · exact .inr (List.mem_cons_of_mem _ e))⟩
theorem jx_pin (jx : JX S) : JX (S.pin1 i p) := by
  obtain ⟨W, tk, hW⟩ := jx
  exact ⟨W, tk, fun G' H' σ' ρ' C R q => hW G' H' σ' ρ' C (rel_unpin R) q⟩
theorem XS.unpin (X : XS (S.pin1 i p) (p :: ps) G H σ ρ) : XS S ps G H σ ρ := ⟨rel_unpin X.r, fun q hq => X.own q (List.mem_cons_of_mem _ hq), fun j l q e es hq => X.ap j l q e es (List.mem_cons_of_mem _ hq)⟩
/-- a new thing of one's own at p, in slot i -/
theorem XS.begin (X : XS S ps G H σ ρ) {o : HO} (np : npb S.pp i = true) (hp : H p = none) (hi : i < ρ.length) : XS (S.pin1 i p) (p :: ps) G (upd H p o) (σ.set i (some (.ref p))) (ρ.set i none) := by
  have gp : G p = none := X.r.gh.free hp
  have bp : S.B p = none := X.r.bh.free hp
  have npp : p ∉ ps := fun z => (X.own p z).2.2 hp
  have key : ∀ (j : Nat) (d : D), (ρ.set i none)[j]? = some (some d) → j ≠ i ∧ ρ[j]? = some (some d) := fun j d e => by
    by_cases h : i = j
    · subst h
      rw [List.getElem?_set_self hi] at e; cases e
    · rw [List.getElem?_set_ne h] at e
      exact ⟨Ne.symm h, e⟩
  refine ⟨⟨⟨X.r.ext.g, fun c u e => ?_, fun c u e => ?_, X.r.ext.new⟩, by simp [X.r.len], fun j d e => ?_, fun j l l1 l2 q hj hl hjl e1 e2 => ?_, fun j q e => ?_⟩, fun q hq => ?_, fun j l q e es hq => ?_⟩
  · rw [upd_ne (ne_of_none e bp)]; exact X.r.bh _ _ e
  · rw [upd_ne (ne_of_none e gp)]; exact X.r.gh _ _ e
  · obtain ⟨h1, h2⟩ := key j d e
    obtain ⟨v, k1, k2, k3⟩ := X.r.slot j d h2
    refine ⟨v, by rw [List.getElem?_set_ne (Ne.symm h1)]; exact k1, ?_, k3⟩
    cases d with
    | own l =>
      obtain ⟨q, vs, rfl, g1, g2, g3, r⟩ := k2
      exact ⟨q, vs, rfl, by rw [upd_ne (ne_of_none g1 hp)]; exact g1, g2, g3, r⟩
    | bor l => cases k3
    | _ => exact k2
  · obtain ⟨h1, h2⟩ := key j _ hj
    obtain ⟨h3, h4⟩ := key l _ hl
    rw [List.getElem?_set_ne (Ne.symm h1)] at e1
    rw [List.getElem?_set_ne (Ne.symm h3)] at e2
    exact X.r.apart j l l1 l2 q h2 h4 hjl e1 e2
  · have other : (S.pp.o = some (j, q) ∨ (j, q) ∈ S.pp.l) → (σ.set i (some (V.ref p)))[j]? = some (some (.ref q)) := fun e => by
      rw [List.getElem?_set_ne (npb_ne np e).symm]
      exact X.r.pin j q e
    rcases e with e | e
    · exact other (.inl e)
    · rcases List.mem_cons.mp e with e | e
      · cases e
        rw [List.getElem?_set_self (by rw [← X.r.len]; exact hi)]
      · exact other (.inr e)
  · rcases List.mem_cons.mp hq with rfl | hq
    · exact ⟨gp, bp, by rw [upd_same]; exact fun z => by cases z⟩
    · exact ⟨(X.own q hq).1, (X.own q hq).2.1, by rw [upd_ne (fun z => npp (by rw [← z]; exact hq))]; exact (X.own q hq).2.2⟩
  · obtain ⟨h1, h2⟩ := key j _ e
    rw [List.getElem?_set_ne (Ne.symm h1)] at es
    rcases List.mem_cons.mp hq with rfl | hq
    · obtain ⟨v, k1, ⟨q2, vs, rfl, g1, _⟩, _⟩ := X.r.slot j _ h2
      rw [k1] at es
      cases es
      rw [hp] at g1
      cases g1
    · exact X.ap j l q h2 es hq
def xDrop (E : DEX α) : DEX (α × β) := { nx := fun a ρ => E.nx a.1 ρ, rt := E.rt, bk := fun a ρ => E.bk a.1 ρ, ct := fun a ρ => E.ct a.1 ρ }
theorem drop_lift {T' : Part (p :: ps) (α × β)} (hT : ∀ a G H, T'.W a G H → T.W a.1 G H) {E : DEX α} {G1 : Hp} (sg : Same G G1) (h : WSs S.X sts (liftX (S.pin1 i p) T' G1 (xDrop E)) σ H) : WSs S.X sts (liftX S T G E) σ H :=
  h.mono (fun _ _ ⟨G', ρ', a, X, w, s', q⟩ => ⟨G', ρ', a.1, X.unpin, hT _ _ _ w, sg.trans s', q⟩) (fun _ _ q => q) (fun _ _ ⟨G', ρ', a, X, w, s', q⟩ => ⟨G', ρ', a.1, X.unpin, hT _ _ _ w, sg.trans s', q⟩) fun _ _ ⟨G', ρ', a, X, w, s', q⟩ => ⟨G', ρ', a.1, X.unpin, hT _ _ _ w, sg.trans s', q⟩
/-- d = {} -/
theorem jxs_beginD {u : TDX (α × DC)} (hN : S.X.N.Nodup) (hi : S.X.N[i]? = some x) (hx : Loc S.X.env.scope x) (h : ∀ p, p ∉ ps → S.B p = none → JSXs (S.pin1 i p) (T.dic S.nm p) sts u) (hs : swapsWith (.Dict [] [] dp) (some (.Name x px)) pos.line S.X.env = pure false := by rfl) (hf : S.X.fn x = true ∨ S.X.env.scope.names.lookup x = some .local := by first | exact .inl rfl | exact .inr rfl | assumption) (np : npb S.pp i = true := by rfl) :
    JSXs S T (.Assign [.Name x px] (.Dict [] [] dp) pos :: sts) (fun E a ρ => i < ρ.length ∧ Nx (fun ρ' => u (xDrop E) (a, ⟨fun _ => none, 0⟩) ρ') (put ρ i none)) := by
  refine ⟨fun G H σ ρ a E X w q => WSs.of (pss_cons (ps_set hN hi hx pe_dnewX hs hf) pss_w) ?_⟩
  intro p hp
  have npp : p ∉ ps := fun z => (X.own p z).2.2 hp
  have X1 := X.begin (o := DXO S.X.w p []) np hp q.1
  have w1 : T.W a G (upd H p (DXO S.X.w p [])) := T.mono a G H G _ w (Same.refl G) fun y hy => upd_ne fun z => npp (by rw [← z]; exact hy)
  exact drop_lift (T' := T.dic S.nm p) (fun _ _ _ w => w.1) (Same.refl G) ((h p npp (X.r.bh.free hp)).run G _ _ _ (a, ⟨fun _ => none, 0⟩) (xDrop E) X1 ⟨w1, [], [], by rw [S.ww]; exact upd_same, .nil, .nil, Nat.le_refl _, fun _ => rfl⟩ q.2.getS)
/-- d = {k: True} -/
theorem jxs_beginS {τk : α → TD} {u : TDX (α × SC)} {j} {cp : Pos} (b : Bool) (jx : JX S) (hu : S.X.A.units + 64 < cLine) (hN : S.X.N.Nodup) (hi : S.X.N[i]? = some x) (hx : Loc S.X.env.scope x) (hk : ∀ (a : α) (G H : Hp), Now T a G H → JX (S.atH ps G H) → JE (S.atH ps G H) k (τk a)) (h : ∀ p, p ∉ ps → S.B p = none → JSXs (S.pin1 i p) (T.seen S.nm p b) sts u)
    (hs : swapsWith (.Dict [some k] [.Constant (.bool true) j cp] dp) (some (.Name x px)) pos.line S.X.env = pure false := by rfl) (hf : S.X.fn x = true ∨ S.X.env.scope.names.lookup x = some .local := by first | exact .inl rfl | exact .inr rfl | assumption) (np : npb S.pp i = true := by rfl) :
    JSXs S T (.Assign [.Name x px] (.Dict [some k] [.Constant (.bool true) j cp] dp) pos :: sts) (fun E a ρ => i < ρ.length ∧ τk a ρ fun d => ∃ key, keyOf d = some key ∧ KeyB b key ∧ Nx (fun ρ' => u (xDrop E) (a, ⟨fun y => decide (y = key), 1⟩) ρ') (put ρ i none)) := by
  refine ⟨fun G H σ ρ a E X w q => ?_⟩
  have fin : ∀ (p : Addr) (H1 : Hp) (G1 : Hp) (o o2 : HO) (key : NestedKey), H p = none → Ext (upd H p o) G (upd H p o) G1 H1 → SeenAt S.nm p b ⟨fun y => decide (y = key), 1⟩ G1 (upd H1 p o2) → Nx (fun ρ' => u (xDrop E) (a, ⟨fun y => decide (y = key), 1⟩) ρ') (put ρ i none) →
      WSs S.X sts (liftX S T G E) (σ.set i (some (.ref p))) (upd H1 p o2) := fun p H1 G1 o o2 key hp x1 sn q2 => by
    have npp : p ∉ ps := fun z => (X.own p z).2.2 hp
    have X1 := X.begin (o := o) np hp q.1
    have X2 := (X1.go x1).put List.mem_cons_self o2
    have w1 : T.W a G (upd H p o) := T.mono a G H G _ w (Same.refl G) fun y hy => upd_ne fun z => npp (by rw [← z]; exact hy)
    have e1 : ∀ y ∈ ps, H1 y = (upd H p o) y := fun y hy => by
      cases e : (upd H p o) y with
      | none =>
        rw [upd_ne fun z => npp (by rw [← z]; exact hy)] at e
        exact absurd e (X.own y hy).2.2
      | some u => exact x1.h _ _ e
    have w2 : T.W a G1 H1 := T.mono a G _ G1 H1 w1 x1.g e1
    have w3 : T.W a G1 (upd H1 p o2) := T.mono a G1 H1 G1 _ w2 (Same.refl G1) fun y hy => upd_ne fun z => npp (by rw [← z]; exact hy)
    exact drop_lift (T' := T.seen S.nm p b) (fun _ _ _ w => w.1) x1.g ((h p npp (X.r.bh.free hp)).run G1 _ _ _ (a, ⟨fun y => decide (y = key), 1⟩) (xDrop E) X2 ⟨w3, sn⟩ q2.getS)
  have jx' := jx_atH jx X
  cases b with
  | true =>
    refine WSs.of (pss_cons (ps_set hN hi hx (pe_disp1 hu pe_w pe_bl) hs hf) pss_w) ?_
    intro p hp
    have x0 : Ext H G H G (upd H p (DXO S.X.w p [])) := Ext.grow X.r.gh (same_upd hp)
    refine ((hk a G H (X.now w) jx').run G (upd H p (DXO S.X.w p [])) σ ρ _ (X.at.go x0) q.2).mono fun kv H1 ⟨G1, d, x1, r1, key, ek, ⟨ks, ekey, dp⟩, q2⟩ => ?_
    subst ekey
    have rd := flat1_rep (key_flat ek) r1
    obtain ⟨ka, rfl⟩ := key_tup ek rd
    have kr := kr_rep _ _ _ rd ek
    refine ⟨ka, .tup ks, rfl, x1.h _ _ upd_same, KR.mono x1.gh _ _ kr, dp, ?_⟩
    refine fin p H1 G1 _ _ _ hp x1 ⟨⟨fun y => if NestedKey.tup ks = y then some (.bl true) else none, 1⟩, ⟨[(.tup ks, ka, .bl true)], [.bl true], by rw [S.ww]; exact upd_same, .cons kr .nil, .cons (.bl true) .nil, Nat.le_refl _, fun y => rfl⟩, rfl, fun y => ?_⟩ q2
    show decide (y = NestedKey.tup ks) = (if NestedKey.tup ks = y then some (D.bl true) else none).isSome
    by_cases hy : y = NestedKey.tup ks
    · rw [decide_eq_true hy, if_pos hy.symm]; rfl
    · rw [decide_eq_false hy, if_neg (Ne.symm hy)]; rfl
  | false =>
    refine WSs.of (pss_cons (ps_set hN hi hx (pe_disp (pps_cons pe_w pe_bl pps_nil) rfl rfl (by simp) (by simp)) hs hf) pss_w) ?_
    intro p hp
    have x0 : Ext H G H G (upd H p (.dK [])) := Ext.grow X.r.gh (same_upd hp)
    refine ((hk a G H (X.now w) jx').run G (upd H p (.dK [])) σ ρ _ (X.at.go x0) q.2).mono fun kv H1 ⟨G1, d, x1, r1, key, ek, ⟨z, ekey⟩, q2⟩ => ?_
    subst ekey
    obtain rfl := key_num ek
    cases repV_int r1
    refine ⟨x1.h _ _ upd_same, [(.inl z, .bl true)], rfl, by simp, ?_⟩
    refine fin p H1 G1 _ _ _ hp x1 ⟨[(.inl z, .bl true)], upd_same, Nat.le_refl _, fun y => ?_⟩ q2
    show decide (NestedKey.num y = .num z) = _
    by_cases hy : y = z
    · subst hy; rw [decide_eq_true rfl, valV_pos rfl]; rfl
    · rw [decide_eq_false (fun q => hy (NestedKey.num.inj q)), valV_neg (fun q => hy (Sum.inl.inj q).symm)]; rfl
/-- from the layer into it -/
theorem jss_enter {τ : TDX Unit} (h : JSXs S Part.none sts τ) : JSs S sts (fun E ρ => τ { nx := fun _ => E.nx, rt := E.rt, bk := fun _ => E.bk, ct := fun _ => E.ct } () ρ) := by
  refine ⟨fun G H σ ρ E R q => ?_⟩
  refine (h.run G H σ ρ () _ ⟨R, fun _ z => (by cases z), fun _ _ _ _ _ z => (by cases z)⟩ trivial q).mono (fun _ _ ⟨G', ρ', a, X, w, sg, q⟩ => ⟨G', ρ', X.r, sg, q⟩) (fun _ _ q => q) (fun _ _ ⟨G', ρ', a, X, w, sg, q⟩ => ⟨G', ρ', X.r, sg, q⟩) fun _ _ ⟨G', ρ', a, X, w, sg, q⟩ => ⟨G', ρ', X.r, sg, q⟩
end
end DD

set_option Elab.async false
set_option linter.all false
set_option maxRecDepth 100000
set_option maxHeartbeats 2000000
namespace DD
open PySem PySem.Spec PyProof.Rows L2
/-! ### an instance under way: its fields -/
section
variable {S : Sit} {o e e0 : Expr} {es : List Expr} {pos px apos cpos p : Pos} {τ τo : TD} {t : TDs} {k n i : Nat} {x m f : Str} {a : Addr}
/-- the instance at a, its attributes -/
structure SelfAt (S : Sit) (i : Nat) (a : Addr) (fs : List (Str × V)) (C : Str) : Prop where
  pin : (i, a) ∈ S.pp.l
  at_ : ∃ dx, S.B a = some (.ins (S.nm.ad C) dx fs)
theorem jo_self {fs : List (Str × V)} {C : Str} {v : V} {q : Addr} (h : SelfAt S i a fs C) (hf : FldOk S.X.K S.nm C f) (hl : fs.lookup f = some (.ref q)) (hN : S.X.N[i]? = some x) (hv : Vis S.X.env.scope x) (hd : (x == ("__debug__" : Str)) = false := by decide) (hcd : (x == ("__classdict__" : Str)) = false := by decide)
    (hb : attributeBase (.Name x px) f S.X.env (eval (.Name x px) S.X.env) = eval (.Name x px) S.X.env := by rfl) : JOb S (.Attribute (.Name x px) f pos) q := fun G H σ ρ R => by
  obtain ⟨dx, hB⟩ := h.at_
  exact WX.of (pe_fld (pe_var hN hv hd hcd) hb) ⟨.ref a, R.pin i a (.inr h.pin), a, S.nm.ad C, dx, fs, .ref q, rfl, R.bh _ _ hB, hf.1, hf.2, hl, rfl, rfl⟩
theorem je_selfF {fs : List (Str × V)} {C : Str} {v : V} {d : D} (h : SelfAt S i a fs C) (hf : FldOk S.X.K S.nm C f) (hl : fs.lookup f = some v) (r : Rep S.nm S.G0 v d) (hN : S.X.N[i]? = some x) (hv : Vis S.X.env.scope x) (hd : (x == ("__debug__" : Str)) = false := by decide) (hcd : (x == ("__classdict__" : Str)) = false := by decide)
    (hb : attributeBase (.Name x px) f S.X.env (eval (.Name x px) S.X.env) = eval (.Name x px) S.X.env := by rfl) : JE S (.Attribute (.Name x px) f pos) (eC d) := ⟨fun G H σ ρ Q R q => by
  obtain ⟨dx, hB⟩ := h.at_
  exact WX.of (pe_fld (pe_var hN hv hd hcd) hb) ⟨.ref a, R.pin i a (.inr h.pin), a, S.nm.ad C, dx, fs, v, rfl, R.bh _ _ hB, hf.1, hf.2, hl, G, d, Ext.refl R.gh, .of (Rep.mono R.ext.g _ _ r), q⟩⟩
/-- a list of one's own among them, lent -/
theorem je_selfL {fs : List (Str × V)} {C : Str} {q : Addr} {l : List D} {vs : List V} (h : SelfAt S i a fs C) (hf : FldOk S.X.K S.nm C f) (hl : fs.lookup f = some (.ref q)) (hq : S.B q = some (.lst vs)) (gq : S.G0 q = none) (r : Reps S.nm S.G0 vs l) (hN : S.X.N[i]? = some x) (hv : Vis S.X.env.scope x) (hd : (x == ("__debug__" : Str)) = false := by decide) (hcd : (x == ("__classdict__" : Str)) = false := by decide)
    (hb : attributeBase (.Name x px) f S.X.env (eval (.Name x px) S.X.env) = eval (.Name x px) S.X.env := by rfl) : JE S (.Attribute (.Name x px) f pos) (eC (.bor l)) := ⟨fun G H σ ρ Q R k => by
  obtain ⟨dx, hB⟩ := h.at_
  exact WX.of (pe_fld (pe_var hN hv hd hcd) hb) ⟨.ref a, R.pin i a (.inr h.pin), a, S.nm.ad C, dx, fs, .ref q, rfl, R.bh _ _ hB, hf.1, hf.2, hl, G, .bor l, Ext.refl R.gh, ⟨q, vs, rfl, R.bh _ _ hq, R.ext.new q gq (by rw [hq]; exact fun z => by cases z), r.mono R.ext.g⟩, k⟩⟩
/-- a method of what an expression gives -/
def eMethE (Γ : Gm) (ex : TX) (k : Nat) (m : Str) (n : Nat) (τo : TD) (t : TDs) : TD := fun ρ Q => τo ρ fun d => match d with
  | .ins C ns fs => ∃ M, m ∉ ns ∧ CalM Γ k C m n M ∧ t ρ fun ds => oCall ex ρ (.ins C ns fs :: ds) M Q
  | _ => False
theorem je_methE (Γ : Gm) (n : Nat) (jx : JX S) (hr : Room k S.X.A) {pl : Sem Bool} (C : Str) (ns : List Str) (M : MD) (hmn : m ∉ ns) (F : CalM Γ k C m n M) (ho : JE S o τo) (h : JA' S (e :: es) t)
    (hst : starEach (e :: es) S.X.env = (false, eval e S.X.env) :: starEach es S.X.env := by rfl) (hpl : (backTo pos (starEach es S.X.env)).any (·.1) = false := by rfl)
    (ht : eval (.Call (.Attribute o m apos) (e :: es) [] pos) S.X.env = (do
      let ov ← eval o S.X.env
      standAt apos.atName
      let (f, first) ← holding [ov] (getMethod ov m pl)
      callWith pos f first (backTo pos (starEach (e :: es) S.X.env)) (backToKw pos (keywordEach [] S.X.env))) := by rfl) (hG : S.gm = Γ := by rfl) :
    JE S (.Call (.Attribute o m apos) (e :: es) [] pos) (fun ρ Q => τo ρ fun d => ∃ fs, d = .ins C ns fs ∧ t ρ fun ds => oCall S.ex ρ (.ins C ns fs :: ds) M Q) := by
  subst hG
  obtain ⟨W, tk, hW⟩ := jx
  obtain ⟨f, fd, ps, _, F, hc, hm, hb⟩ := F.ex
  refine ⟨fun G H σ ρ Q R q => WX.of (pe_methS pe_w hc hm F hr hb (fun σ => passAt tk σ) pa_w hst hpl ht) ?_⟩
  refine (ho.run G H σ ρ _ R q).mono fun v H0 ⟨G0, d, x0, r0, fs, ed, q⟩ => ?_
  subst ed
  have r0 : Rep S.nm G0 v (.ins C ns fs) := r0
  cases r0 with
  | ins ea ra =>
    refine ⟨_, _, _, rfl, x0.gh _ _ ea, lookup_zip_none hmn, ?_⟩
    refine (h.run G0 H0 σ ρ _ (R.go x0) q).mono fun vs H1 ⟨G1, ds, x1, r1, q1⟩ => ?_
    have z := sp_of hW ((R.go x0).go x1) x1.h (.cons (.of (.ins (x1.g _ _ ea) (ra.mono x1.g))) rfl r1) q1
    obtain ⟨G2, ds2, P2, a1, a2, a3, a4, a5⟩ := z
    refine ⟨G2, ds2, P2, a1, a2, a3, fun G' H' v r y1 y2 y3 y4 => ?_, a5⟩
    obtain ⟨G3, d, x3, r3, q3⟩ := a4 G' H' v r y1 y2 y3 y4
    exact ⟨G3, d, x0.trans (Ext.from x0.h (x1.trans x3)), r3.from x0.h, q3⟩
end
section
variable {S : Sit} {ps : List Addr} {α : Type} {T : Part ps α} {o e : Expr} {pos apos cpos : Pos} {p : Addr}
/-- o.append(e), the list at p -/
def xApp (τ : α → TD) (g : α → List D) (f : α → D → α) : TDX α := fun E a ρ => τ a ρ fun d => isBor d = false ∧ isOwn d = false ∧ (g a).length < sizeLine ∧ E.nx (f a d) ρ
theorem jx_app {τ : α → TD} {g : α → List D} {f : α → D → α} (jx : JX S) (hp : p ∈ ps) (jo : JOb S o p) (hg : ∀ a G H, T.W a G H → ∃ vs, H p = some (.lst vs) ∧ Reps S.nm G vs (g a)) (hf : ∀ a G H d vs, T.W a G H → Reps S.nm G vs (g a ++ [d]) → T.W (f a d) G (upd H p (.lst vs)))
    (he : ∀ (a : α) (G H : Hp), Now T a G H → JX (S.atH ps G H) → JE (S.atH ps G H) e (τ a))
    (hbase : attributeBase o "append" S.X.env (eval o S.X.env) = eval o S.X.env := by rfl)
    (hfew : ((backTo cpos (starEach [e] S.X.env)).all (fun x => !x.1) && (backToKw cpos (keywordEach [] S.X.env)).all (fun x => x.1.isSome)
      && decide (([e] : List Expr).length + ([] : List Keyword).length + (if ([] : List Keyword).isEmpty then 0 else 1) < 30)) = true := by rfl)
    (hline : (apos.endLine == cpos.line) = true := by rfl) (hst : starEach [e] S.X.env = (false, eval e S.X.env) :: starEach [] S.X.env := by rfl) (hplain : (backTo cpos (starEach [] S.X.env)).any (·.1) = false := by rfl)
    (hs : swapsWith (.Call (.Attribute o "append" apos) [e] [] cpos) none pos.line S.X.env = pure false := by rfl) : JSX S T (.Expr (.Call (.Attribute o "append" apos) [e] [] cpos) pos) (xApp τ g f) := by
  refine ⟨fun G H σ ρ a E x w q => WS.of (ps_expr (pe_bm PySem.F.plainAttrs_list PySem.F.slot_list_append PySem.F.type_list_append mt_append pe_w (pa_cons pe_w pa_nil hst) hbase hfew hline hst hplain) hs) ?_⟩
  refine (jo G H σ ρ x.r).mono fun y H1 ⟨eH, ey⟩ => ?_
  subst eH ey
  obtain ⟨vs0, hp0, _⟩ := hg a G H1 w
  refine ⟨.inl ⟨rfl, vs0, .inl (.inl hp0)⟩, ?_⟩
  refine ((he a G H1 (x.now w) (jx_atH jx x)).run G H1 σ ρ _ x.at q).mono fun v H2 ⟨G2, d, x2, r2, nb, no, hl, q2⟩ => ?_
  have X2 := x.go x2
  have w2 := T_ext x w x2
  obtain ⟨vs, hp2, rs⟩ := hg a G2 H2 w2
  have rd : Rep S.nm G2 v d := by
    cases d with
    | own l => cases no
    | bor l => cases nb
    | _ => exact r2
  exact ⟨p, vs, v, rfl, rfl, hp2, by rw [rs.length]; exact hl, G2, ρ, _, X2.put hp _, hf a G2 H2 d _ w2 (rs.append (.cons rd .nil)), x2.g, q2⟩
end
end DD

set_option Elab.async false
set_option linter.all false
set_option maxRecDepth 100000
set_option maxHeartbeats 2000000
namespace DD
open PySem PySem.Spec PyProof.Rows L2
/-! ### methods without arguments -/
section
variable {S : Sit} {o e : Expr} {pos px apos p : Pos} {τ : TD} {t : TDs} {k n i : Nat} {x m f y : Str} {a : Addr} {M : MD}
theorem pe_methS0 {X : Cx} {C f : Addr} {fd : FuncData} {ps : List Str} {sp : Sp} {CX : CXT} {E : L2.St → XK} {ta : TE} {pl : Sem Bool} (he : PE X o ta) (c : Cls X.K C) (hm : Meth X.K C m f) (F : FnOk X.prog X.w X.K X.mg X.base CX k f fd ps sp) (hr : Room k X.A) (hb : Binds X.K fd ps []) (hx : ∀ σ, PassesAt CX X σ (E σ))
    (ht : eval (.Call (.Attribute o m apos) [] [] pos) X.env = (do
      let ov ← eval o X.env
      standAt apos.atName
      let (f, first) ← holding [ov] (getMethod ov m pl)
      callWith pos f first (backTo pos (starEach [] X.env)) (backToKw pos (keywordEach [] X.env))) := by rfl) :
    PE X (.Call (.Attribute o m apos) [] [] pos) (fun σ H Q => ta σ H fun x H1 => ∃ a dx fs, x = .ref a ∧ H1 a = some (.ins C dx fs) ∧ fs.lookup m = none ∧ sp [x] H1 Q (E σ)) := by
  refine ⟨fun pins s σ H Q I h => ?_⟩
  refine PySem.W.methodCall_KW (pl := pl) (thn (he.run pins s σ H _ I h) fun u s1 ⟨x, H1, I1, rx, a, dx, fs, ex, ea, l, q⟩ => ?_) ht
  subst ex
  obtain rfl : u = Value.ref a := rx
  refine getmeth_ok I1 ea c hm l ?_
  exact PySem.W.callWith_K0 (first := [.ref a]) I1.kIn hm.kp (run_fnS (us := [.ref a]) (vs := [.ref a]) F hr hb (hx σ) I1 (.cons rfl .nil) q)
def eMeth0 (Γ : Gm) (ex : TX) (k : Nat) (i : Nat) (m : Str) : TD := fun ρ Q => ∃ C ns fs M, ρ[i]? = some (some (.ins C ns fs)) ∧ m ∉ ns ∧ CalM Γ k C m 1 M ∧ oCall ex ρ [.ins C ns fs] M Q
theorem je_meth0 (Γ : Gm) (jx : JX S) (hr : Room k S.X.A) {i : Nat} {y : Str} {py : Pos} {pl : Sem Bool} (ho : PE S.X (.Name y py) (tVar i))
    (ht : eval (.Call (.Attribute (.Name y py) m apos) [] [] pos) S.X.env = (do
      let ov ← eval (.Name y py) S.X.env
      standAt apos.atName
      let (f, first) ← holding [ov] (getMethod ov m pl)
      callWith pos f first (backTo pos (starEach [] S.X.env)) (backToKw pos (keywordEach [] S.X.env))) := by rfl) (hG : S.gm = Γ := by rfl) :
    JE S (.Call (.Attribute (.Name y py) m apos) [] [] pos) (eMeth0 Γ S.ex k i m) := by
  subst hG
  obtain ⟨W, tk, hW⟩ := jx
  refine ⟨fun G H σ ρ Q R q => ?_⟩
  obtain ⟨C, ns, fs, M, e0, hn, F, q⟩ := q
  obtain ⟨f, fd, ps, _, F, hc, hm, hb⟩ := F.ex
  refine WX.of (pe_methS0 ho hc hm F hr hb (fun σ => passAt tk σ) ht) ?_
  obtain ⟨v, h1, h2, _⟩ := R.slot i _ e0
  have h2' : Rep S.nm G v (.ins C ns fs) := h2
  refine ⟨v, h1, ?_⟩
  cases h2' with
  | ins ea ra =>
    refine ⟨_, _, _, rfl, R.gh _ _ ea, lookup_zip_none hn, ?_⟩
    exact sp_of hW R (Same.refl H) (.cons (.of (.ins ea ra)) rfl .nil) q
end
/-! ### an instance made by an __init__ of any kind: frozen behind it -/
def spMk (nm : Nm) (C : Str) (M : MD) : Sp := fun vs H Q E => ∃ (x dx : Addr) (us : List V) (ds : List D) (G : Hp) (P : Out → Prop), vs = .ref x :: us ∧ Same G H ∧ G x = none ∧ H x = some (.ins (nm.ad C) dx []) ∧ H dx = some (.own x) ∧ Reps nm G us ds ∧ M ds P ∧
  (∀ (G' H' : Hp) (r : D), Ext (del H x) G (del H x) G' H' → Rep nm G' (.ref x) r → P (.ret r) → Q .non H') ∧ (∀ (C' : Str) (H' : Hp), Same (del H x) H' → P (.exn C') → E (.ref (nm.ad C')) none H')
structure CalK (Γ : Gm) (k : Nat) (C : Str) (n : Nat) (M : MD) : Prop where
  ex : ∃ (f : Addr) (fd : FuncData) (ps : List Str), ps.length = n + 1 ∧ FnOk Γ.P Γ.w Γ.K Γ.mg Γ.base (L2.CX Γ.P Γ.w) k f fd ps (spMk Γ.nm C M) ∧ Mk Γ.K (Γ.nm.ad C) f ∧ Γ.mg C = some (.ref (Γ.nm.ad C)) ∧ Binds Γ.K fd ps []
theorem CalK.mono {Γ : Gm} {j k : Nat} {C : Str} {n : Nat} {M : MD} (h : CalK Γ j C n M) (l : j ≤ k) : CalK Γ k C n M := by
  obtain ⟨f, fd, ps, h0, h1, h2⟩ := h.ex
  exact ⟨f, fd, ps, h0, h1.mono l, h2⟩
section
variable {S : Sit} {e : Expr} {es : List Expr} {pos p : Pos} {t : TDs} {k n : Nat} {C : Str} {M : MD}
def eMkK (ex : TX) (M : MD) (t : TDs) : TD := fun ρ Q => t ρ fun ds => ds.any isBor = false ∧ M ds fun out => match out with
  | .ret r => flat1 r = true ∧ Q r
  | .exn C => ex C ρ
theorem je_makeK {Γ : Gm} (jx : JX S) (F : CalK Γ k C n M) (hr : Room (k + 1) S.X.A) (hg : Gl S.X C) (h : JA' S (e :: es) t) (hdb : (C == ("__debug__" : Str)) = false := by decide)
    (he : starEach (e :: es) S.X.env = (false, eval e S.X.env) :: starEach es S.X.env := by rfl) (hpl : (backTo pos (starEach es S.X.env)).any (·.1) = false := by rfl) (hG : S.gm = Γ := by rfl) : JE S (.Call (.Name C p) (e :: es) [] pos) (eMkK S.ex M t) := by
  subst hG
  obtain ⟨W, tk, hW⟩ := jx
  obtain ⟨f, fd, ps, _, F, M1, hm, hb⟩ := F.ex
  refine ⟨fun G H σ ρ Q R q => fun pins s I => ?_⟩
  refine wpAny_Call_Name_kw (ld_glob I hg hm ?_ hdb)
  refine PySem.W.callWith_K (h₀ := S.X.base) I.ok.mod.kin M1.kp (thn (h.run G H σ ρ _ R q pos pins s I) fun us s1 ⟨vs, H1, I1, r, q⟩ => ⟨I1.kIn, ?_⟩) he hpl
  obtain ⟨G1, ds, x1, ra, nb, q⟩ := q
  have rr := R.go x1
  have rs := ra.reps nb
  refine made_run (E := fun σ => WE W σ) M1 F hr hb (passAt tk σ) I1 r fun x dx hx hd hne => ?_
  have gx : G1 x = none := x1.gh.free hx
  have smI : Same H1 (upd (upd H1 dx (.own x)) x (.ins (S.nm.ad C) dx [])) := fun b o eb => by
    rw [upd_ne (ne_of_none eb hx), upd_ne (ne_of_none eb hd)]
    exact eb
  have smD : Same H1 (del (upd (upd H1 dx (.own x)) x (.ins (S.nm.ad C) dx [])) x) := fun b o eb => by
    rw [del_ne (ne_of_none eb hx)]
    exact smI b o eb
  refine ⟨x, dx, vs, ds, G1, _, rfl, x1.gh.trans smI, gx, upd_same, by rw [upd_ne hne]; exact upd_same, rs, q, fun G' H' d x2 rd pd => ⟨rfl, ?_⟩, fun C' H' sm px => ?_⟩
  · have y2 : Ext H1 G1 H1 G' H' := ⟨x2.g, smD.trans x2.h, x2.gh, fun a ea na => x2.new a ea (by
      cases e : H1 a with
      | none => exact absurd e na
      | some o => rw [smD a o e]; exact fun z => by cases z)⟩
    exact ⟨G', d, x1.trans (Ext.from x1.h y2), .of rd, pd.2⟩
  · exact hW G1 H' σ ρ C' (rr.go (Ext.grow x1.gh (smD.trans sm))) px
end
end DD

set_option Elab.async false
set_option linter.all false
set_option maxRecDepth 100000
set_option maxHeartbeats 2000000
namespace DD
open PySem PySem.Spec PyProof.Rows L2
/-! ### a method that fills a list and a dict of the instance under way -/
abbrev selfFs (ns : List Str) (ws : List V) (fl ft : Str) (pk pt : Addr) : List (Str × V) := ns.zip ws ++ [(fl, .ref pk), (ft, .ref pt)]
def del2 (H : Hp) (a b : Addr) : Hp := fun c => if c = a ∨ c = b then none else H c
def spFill (nm : Nm) (C : Str) (ns : List Str) (fl ft : Str) (MF : List D → List D → (List D → DC → Prop) → Prop) : Sp := fun vs H Q E =>
  ∃ (G : Hp) (x dx pk pt : Addr) (ws vk : List V) (ds l : List D) (K : List D → DC → Prop), vs = [.ref x] ∧ Same G H ∧ H x = some (.ins (nm.ad C) dx (selfFs ns ws fl ft pk pt)) ∧ (G pk = none ∧ G pt = none ∧ pk ≠ pt) ∧ Reps nm G ws ds ∧
    H pk = some (.lst vk) ∧ Reps nm G vk l ∧ H pt = some (DXO nm.w pt []) ∧ MF ds l K ∧
    ∀ (G' H' : Hp) (vk' : List V) (l' : List D) (c : DC), Ext (del2 H pk pt) G (del2 H pk pt) G' H' → H' pk = some (.lst vk') → G' pk = none → Reps nm G' vk' l' → DicAt nm pt c G' H' → G' pt = none → K l' c → Q .non H'
abbrev sitF (Γ : Gm) (N : List Str) (qual : Str) (sc : Scope) (f : Addr) (cdv : Value) (A : Around) (outer : List PySem.Env) (s : Shared) (H : Hp) (E : XK) (G0 : Hp) (x pk pt : Addr) : Sit where
  X := cxOf (L2.CX Γ.P Γ.w) Γ.P Γ.w Γ.K Γ.mg Γ.base N qual sc f cdv A outer s H E
  nm := Γ.nm
  G0 := G0
  B := del2 H pk pt
  ex := fun _ _ => False
  kk := Γ.kk
  ww := Γ.ww
  pp := ⟨none, [(0, x)]⟩
def partF (nm : Nm) (pk pt : Addr) (ws : List V) (ds : List D) : Part [pk, pt] (List D × DC) :=
  ⟨fun a G H => ((∃ vs, H pk = some (.lst vs) ∧ Reps nm G vs a.1) ∧ DicAt nm pt a.2 G H) ∧ Reps nm G ws ds, fun a G H G' H' w s e => by
    obtain ⟨⟨⟨vs, h1, h2⟩, h3⟩, h4⟩ := w
    exact ⟨⟨⟨vs, (e pk (by simp)).trans h1, h2.mono s⟩, h3.mono s (e pt (by simp))⟩, h4.mono s⟩⟩
theorem fnFill {Γ : Gm} {x qual : Str} {st : Stmt} {f : Addr} {fd : FuncData} {N : List Str} {k : Nat} {C : Str} {ns : List Str} {fl ft : Str} {MF : List D → List D → (List D → DC → Prop) → Prop} (F : Fun Γ.K x qual st f fd) (Sc : FnScope N ["self"] (defScope st)) (hN : 0 < N.length)
    (hb : ∀ (cdv : Value) (A : Around) (outer : List PySem.Env) (s : Shared) (H : Hp) (E : XK) (G : Hp) (y dy pk pt : Addr) (ws : List V) (ds l : List D) (K : List D → DC → Prop),
      let S := sitF Γ N qual (defScope st) f cdv A outer s H E G y pk pt
      pk ≠ pt → SelfAt S 0 y (selfFs ns ws fl ft pk pt) C → Reps Γ.nm G ws ds → JX S → Room k S.X.A → PassesOwn (model Γ.P Γ.w) S.X.A S.X.env S.X.xe → MF ds l K →
      ∃ t, JSXs S (partF Γ.nm pk pt ws ds) (defBody st) t ∧ t { nx := fun a _ => K a.1 a.2, rt := fun _ => False } (l, ⟨fun _ => none, 0⟩) (List.replicate N.length none)) :
    FnOk Γ.P Γ.w Γ.K Γ.mg Γ.base (L2.CX Γ.P Γ.w) (k + 1) f fd ["self"] (spFill Γ.nm C ns fl ft MF) := by
  refine F.okX Sc (fun vs H Q E h => ?_) fun cdv A outer s H vs Q E hr hsp => ?_
  · obtain ⟨_, _, _, _, _, _, _, _, _, _, rfl, _⟩ := h; rfl
  · obtain ⟨G, y, dy, pk, pt, ws, vk, ds, l, K, rfl, gh, hx, ⟨g1, g2, hne⟩, rws, hpk, rl, hpt, m, hret⟩ := hsp
    have jx : JX (sitF Γ N qual (defScope st) f cdv A outer s H E G y pk pt) := ⟨fun cls d _ H' => E cls d H', takes_of rfl rfl rfl rfl, fun _ _ _ _ _ _ z => z.elim⟩
    have yk : y ≠ pk ∧ y ≠ pt := ⟨fun z => (by rw [z, hpk] at hx; cases hx), fun z => (by rw [z, hpt] at hx; cases hx)⟩
    have hself : SelfAt (sitF Γ N qual (defScope st) f cdv A outer s H E G y pk pt) 0 y (selfFs ns ws fl ft pk pt) C := ⟨List.mem_cons_self, dy, by
      show del2 H pk pt y = _
      unfold del2
      rw [if_neg (fun z => z.elim yk.1 yk.2)]
      exact hx⟩
    obtain ⟨t, ht, hq⟩ := hb cdv A outer s H E G y dy pk pt ws ds l K hne hself rws jx hr (passes_of rfl) m
    have none_at : ∀ (i : Nat) (d : D), (List.replicate N.length (none : Option D))[i]? ≠ some (some d) := fun i d e => by
      rw [List.getElem?_replicate] at e
      split at e <;> cases e
    have dn : ∀ c u, (del2 H pk pt) c = some u → H c = some u := fun c u e => by
      unfold del2 at e
      split at e
      · cases e
      · exact e
    have X0 : XS (sitF Γ N qual (defScope st) f cdv A outer s H E G y pk pt) [pk, pt] G H (L2.start N [.ref y]) (List.replicate N.length none) := by
      refine ⟨⟨⟨Same.refl G, fun c u e => dn c u e, gh, fun _ e _ => e⟩, ?_, fun i d e => absurd e (none_at i d), fun i j l l' p e => absurd e (none_at i _), fun i q e => ?_⟩, fun q hq => ?_, fun i l q e => absurd e (none_at i _)⟩
      · simp [L2.start]; omega
      · rcases e with e | e
        · cases e
        · cases List.mem_singleton.mp e
          rfl
      · rcases List.mem_cons.mp hq with rfl | hq
        · exact ⟨g1, if_pos (.inl rfl), by rw [hpk]; exact fun z => by cases z⟩
        · rcases List.mem_cons.mp hq with rfl | hq
          · exact ⟨g2, if_pos (.inr rfl), by rw [hpt]; exact fun z => by cases z⟩
          · cases hq
    refine ⟨_, pss_w, (ht.run G H _ _ _ _ X0 ⟨⟨⟨vk, hpk, rl⟩, [], [], hpt, .nil, .nil, Nat.le_refl _, fun _ => rfl⟩, rws⟩ hq).mono (fun σ' H' ⟨G', ρ', a, X', ⟨⟨⟨vs', w1, w2⟩, w3⟩, _⟩, sg, q⟩ => ?_) (fun v H' ⟨G', d, x, rv, nb, q⟩ => q.elim) (fun _ _ ⟨_, _, _, _, _, _, q⟩ => q.elim) (fun _ _ ⟨_, _, _, _, _, _, q⟩ => q.elim)⟩
    exact hret G' H' vs' a.1 a.2 X'.r.ext w1 (X'.own pk (by simp)).1 w2 w3 (X'.own pt (by simp)).1 q
end DD

set_option Elab.async false
set_option linter.all false
set_option maxRecDepth 100000
set_option maxHeartbeats 1000000
namespace DD
instance : DecidableEq Num := fun a b => match a, b with
  | .i x, .i y => if h : x = y then .isTrue (by rw [h]) else .isFalse fun z => h (Num.i.inj z)
  | .p x y, .p u v => if h : x = u ∧ y = v then .isTrue (by rw [h.1, h.2]) else .isFalse fun z => h (Num.p.inj z)
  | .i _, .p _ _ => .isFalse fun z => by cases z
  | .p _ _, .i _ => .isFalse fun z => by cases z
namespace WayM
/-! ### machines, in plain words -/
def stepC (w : WayM) (c : Num) (t : Int) : Num := w.carry (c.add (.i t)) 0
def stepG (w : WayM) (c : Num) (t : Int) : Int := w.fig (c.add (.i t)) 0
def spanL (low high : Int) : List Int := (List.range (high + 1 - low).toNat).map fun (i : Nat) => low + (i : Int)
def grow1 (acc : List Num) (b : Num) : List Num := if b ∈ acc then acc else acc ++ [b]
def foundL (acc bs : List Num) : List Num := bs.foldl grow1 acc
def behinds (w : WayM) (ts : List Int) (cs : List Num) : List Num := cs.flatMap fun c => ts.map (w.stepC c)
theorem foundL_nil (acc : List Num) : foundL acc [] = acc := rfl
theorem foundL_cons (acc : List Num) (b : Num) (bs : List Num) : foundL acc (b :: bs) = foundL (grow1 acc b) bs := rfl
theorem foundL_app (acc xs ys : List Num) : foundL acc (xs ++ ys) = foundL (foundL acc xs) ys := List.foldl_append
theorem grow1_pre (acc : List Num) (b : Num) : ∃ more, grow1 acc b = acc ++ more := by
  unfold grow1; split
  · exact ⟨[], by simp⟩
  · exact ⟨[b], rfl⟩
/-- which ways have a machine, with which spans -/
def mach : WayM → Bool
  | .plain _ => true | .below _ => true | .bal _ => true | .pairs _ => true | _ => false
def far (w : WayM) : Int := match w with
  | .pairs m => min 60 (2 * (m * m))
  | _ => 60
def spanOk (w : WayM) (low high : Int) : Prop := (0 - w.far ≤ low ∧ low ≤ 0) ∧ 0 ≤ high ∧ high ≤ w.far
theorem mach_ratio {w : WayM} (h : w.mach = true) : w.hasRatio = true := by cases w <;> first | rfl | cases h
/-- the box of the carries -/
def inB (w : WayM) (c : Num) : Prop := c.isP = w.isPairs ∧ (-120 ≤ c.x ∧ c.x ≤ 120) ∧ (w.isPairs = true → c.x * c.x + c.y * c.y ≤ 400)
theorem abs20 {x : Int} (h : x * x ≤ 400) : -20 ≤ x ∧ x ≤ 20 := by
  have h2 : x.natAbs * x.natAbs ≤ 400 := by
    have := Int.natAbs_mul x x
    have h3 : 0 ≤ x * x := by rw [← Int.natAbs_mul_self' x]; exact Int.natCast_nonneg _
    omega
  have : x.natAbs ≤ 20 := by
    by_cases z : x.natAbs ≤ 20
    · exact z
    · have := Nat.mul_le_mul (show 21 ≤ x.natAbs by omega) (show 21 ≤ x.natAbs by omega)
      omega
  omega
theorem sq_nn (x : Int) : 0 ≤ x * x := by rw [← Int.natAbs_mul_self' x]; exact Int.natCast_nonneg _
theorem inB_y {w : WayM} {c : Num} (h : w.inB c) : -20 ≤ c.y ∧ c.y ≤ 20 := by
  cases hP : w.isPairs with
  | true =>
    have := h.2.2 hP
    have := sq_nn c.x
    exact abs20 (by omega)
  | false =>
    have := Num.y0 (h.1.trans hP)
    omega
theorem inB_nought (w : WayM) : w.inB w.nought := ⟨nought_isP w, by rw [nought_x]; omega, fun _ => by rw [nought_x, nought_y]; decide⟩
theorem mul_bound {x s X S : Int} (hx : -X ≤ x ∧ x ≤ X) (hs : -S ≤ s ∧ s ≤ S) : x * s ≤ X * S := by
  have h1 : (x * s).natAbs ≤ X.natAbs * S.natAbs := by
    rw [Int.natAbs_mul]
    exact Nat.mul_le_mul (by omega) (by omega)
  have h2 : X * S = ((X.natAbs * S.natAbs : Nat) : Int) := by
    rw [Int.natCast_mul]
    rw [show (X.natAbs : Int) = X by omega, show (S.natAbs : Int) = S by omega]
  omega
theorem step_int {x t f c r : Int} (hr : 2 ≤ r ∨ r ≤ -2) (hx : -120 ≤ x ∧ x ≤ 120) (ht : 0 - 60 ≤ t ∧ t ≤ 60) (f1 : -30 ≤ f) (f2 : f ≤ 59) (e : x + t = f + c * r) : (-120 ≤ c ∧ c ≤ 120) ∧ (false = true → c * c + 0 * 0 ≤ 400) := by
  refine ⟨?_, fun z => by cases z⟩
  have b : (c * r).natAbs ≤ 239 := by omega
  rw [Int.natAbs_mul] at b
  have := Nat.mul_le_mul_left c.natAbs (show 2 ≤ r.natAbs by omega)
  omega
theorem inB_step {w : WayM} (ok : w.ok) (hm : w.mach = true) {c : Num} (h : w.inB c) {t : Int} (ht : 0 - w.far ≤ t ∧ t ≤ w.far) : w.inB (w.stepC c t) := by
  refine ⟨carry_isP w _ _, ?_⟩
  obtain ⟨h1, h2, h3⟩ := h
  have fr := fig_range ok (mach_ratio hm) (c.add (.i t)) (k := 0) (by omega)
  cases w with
  | fall m => cases hm
  | grow m => cases hm
  | plain b =>
    have sp := split_int (w := .plain b) rfl rfl (c.add (.i t)) 0
    rw [Num.add_x] at sp
    exact step_int (r := b) (Or.inl ok.1) h2 ht (Int.le_trans (show -30 ≤ (0 : Int) by decide) fr.1) (Int.le_trans fr.2 (by have := ok.2; show b - 1 ≤ 59; omega)) sp
  | below b =>
    have sp := split_int (w := .below b) rfl rfl (c.add (.i t)) 0
    rw [Num.add_x] at sp
    exact step_int (r := 0 - b) (Or.inr (by have := ok.1; omega)) h2 ht (Int.le_trans (show -30 ≤ (0 : Int) by decide) fr.1) (Int.le_trans fr.2 (by have := ok.2; show b - 1 ≤ 59; omega)) sp
  | bal b =>
    have sp := split_int (w := .bal b) rfl rfl (c.add (.i t)) 0
    rw [Num.add_x] at sp
    exact step_int (r := 2 * b + 1) (Or.inl (by have := ok.1; omega)) h2 ht (Int.le_trans (by have := ok.2; show -30 ≤ 0 - b; omega) fr.1) (Int.le_trans fr.2 (by have := ok.2; show b ≤ 59; omega)) sp
  | pairs m =>
    have hc := h3 rfl
    obtain ⟨s1, s2⟩ := split_pair m (c.add (.i t)) 0
    rw [Num.add_x] at s1
    rw [Num.add_y] at s2
    have s2 : c.y + 0 = _ := s2
    have f1 : 0 ≤ stepG (.pairs m) c t := fr.1
    have f2 : stepG (.pairs m) c t ≤ m * m := fr.2
    have s1 : c.x + t = stepG (.pairs m) c t - m * (stepC (.pairs m) c t).x - (stepC (.pairs m) c t).y := s1
    have s2 : c.y + 0 = (stepC (.pairs m) c t).x - m * (stepC (.pairs m) c t).y := s2
    have ht : 0 - min 60 (2 * (m * m)) ≤ t ∧ t ≤ min 60 (2 * (m * m)) := ht
    have ok : 1 ≤ m ∧ m ≤ 9 := ok
    show (-120 ≤ (stepC (.pairs m) c t).x ∧ (stepC (.pairs m) c t).x ≤ 120) ∧ (_ → (stepC (.pairs m) c t).x * (stepC (.pairs m) c t).x + (stepC (.pairs m) c t).y * (stepC (.pairs m) c t).y ≤ 400)
    revert s1 s2 f1 f2
    generalize (stepC (.pairs m) c t).x = u
    generalize (stepC (.pairs m) c t).y = v
    generalize stepG (.pairs m) c t = f
    intro s1 s2 f1 f2
    have nn := sq_nn c.y
    have cx := abs20 (x := c.x) (by omega)
    have key : (m * m + 1) * (u * u + v * v) = (c.x + (t - f)) * (c.x + (t - f)) + c.y * c.y := by
      have e1 : c.x + (t - f) = - (m * u) - v := by omega
      have e2 : c.y = u - m * v := by omega
      rw [e1, e2]
      grind
    have fin : u * u + v * v ≤ 400 := by
      obtain ⟨S, eS⟩ : ∃ S, S = min 60 (2 * (m * m)) + m * m := ⟨_, rfl⟩
      have sb : -S ≤ t - f ∧ t - f ≤ S := by omega
      have p1 := mul_bound cx sb
      have p2 := mul_bound sb sb
      have e : (c.x + (t - f)) * (c.x + (t - f)) = c.x * c.x + 2 * (c.x * (t - f)) + (t - f) * (t - f) := by grind
      rw [e] at key
      have q0 : 0 ≤ u * u + v * v := by have := sq_nn u; have := sq_nn v; omega
      revert key p1 p2 q0
      generalize u * u + v * v = N
      generalize (t - f) * (t - f) = SS
      generalize c.x * (t - f) = XS
      intro key p1 p2 q0
      have m9 : m = 1 ∨ m = 2 ∨ m = 3 ∨ m = 4 ∨ m = 5 ∨ m = 6 ∨ m = 7 ∨ m = 8 ∨ m = 9 := by omega
      rcases m9 with rfl | rfl | rfl | rfl | rfl | rfl | rfl | rfl | rfl <;> (have eS : S = _ := eS; simp [Int.min_def] at eS; subst eS; simp at key p1 p2; omega)
    have := sq_nn v
    have := abs20 (x := u) (by omega)
    exact ⟨by omega, fun _ => fin⟩
/-! ### how many there can be -/
def idx (w : WayM) (c : Num) : Nat := if w.isPairs = true then ((c.x + 20) * 41 + (c.y + 20)).toNat else (c.x + 120).toNat
theorem idx_lt {w : WayM} {c : Num} (h : w.inB c) : w.idx c < 1681 := by
  unfold idx
  have hy := inB_y h
  split
  · rename_i hP
    have := h.2.2 hP
    have := sq_nn c.y
    have := abs20 (x := c.x) (by omega)
    omega
  · have := h.2.1
    omega
theorem idx_inj {w : WayM} {a b : Num} (ha : w.inB a) (hb : w.inB b) (e : w.idx a = w.idx b) : a = b := by
  unfold idx at e
  have ya := inB_y ha
  have yb := inB_y hb
  have e1 := ha.1
  have e2 := hb.1
  split at e
  · rename_i hP
    have := ha.2.2 hP
    have := hb.2.2 hP
    have := sq_nn a.y
    have := sq_nn b.y
    have := abs20 (x := a.x) (by omega)
    have := abs20 (x := b.x) (by omega)
    exact Num.ext' (e1.trans e2.symm) (by omega) (by omega)
  · rename_i hP
    have hP : w.isPairs = false := by simpa using hP
    have := ha.2.1
    have := hb.2.1
    exact Num.ext' (e1.trans e2.symm) (by omega) ((Num.y0 (e1.trans hP)).trans (Num.y0 (e2.trans hP)).symm)
theorem nodup_len : ∀ (l : List Nat) (U : List Nat), l.Nodup → (∀ x ∈ l, x ∈ U) → l.length ≤ U.length
  | [], _, _, _ => Nat.zero_le _
  | x :: l, U, nd, h => by
    rw [List.nodup_cons] at nd
    have hx := h x List.mem_cons_self
    have ih := nodup_len l (U.erase x) nd.2 fun y hy => (List.mem_erase_of_ne (fun z => nd.1 (by rw [← z]; exact hy))).mpr (h y (List.mem_cons_of_mem _ hy))
    rw [List.length_erase_of_mem hx] at ih
    have : 0 < U.length := List.length_pos_of_mem hx
    simp only [List.length_cons]
    omega
theorem few {w : WayM} {l : List Num} (nd : l.Nodup) (h : ∀ c ∈ l, w.inB c) : l.length ≤ 1681 := by
  have nd2 : (l.map w.idx).Nodup := by
    rw [List.Nodup, List.pairwise_map]
    exact List.Pairwise.imp_of_mem (fun ha hb hne e => hne (idx_inj (h _ ha) (h _ hb) e)) nd
  have := nodup_len (l.map w.idx) (List.range 1681) nd2 fun x hx => by
    obtain ⟨c, hc, rfl⟩ := List.mem_map.mp hx
    exact List.mem_range.mpr (idx_lt (h c hc))
  simpa using this
/-! ### what is found, and in which order -/
theorem grow1_mem {acc : List Num} {b c : Num} : c ∈ grow1 acc b ↔ c ∈ acc ∨ c = b := by
  unfold grow1; split
  · rename_i h
    constructor
    · exact Or.inl
    · rintro (q | rfl)
      · exact q
      · exact h
  · simp
theorem grow1_nodup {acc : List Num} {b : Num} (h : acc.Nodup) : (grow1 acc b).Nodup := by
  unfold grow1; split
  · exact h
  · rename_i hb
    rw [List.nodup_append]
    exact ⟨h, by simp, fun x hx y hy => by rw [List.mem_singleton.mp hy]; exact fun z => hb (z ▸ hx)⟩
theorem spanL_mem {low high t : Int} : t ∈ spanL low high ↔ low ≤ t ∧ t ≤ high := by
  unfold spanL
  simp only [List.mem_map, List.mem_range]
  constructor
  · rintro ⟨i, hi, rfl⟩; omega
  · rintro ⟨h1, h2⟩; exact ⟨(t - low).toNat, by omega, by omega⟩
/-- under way: the first at of known are done -/
structure Under (w : WayM) (low high : Int) (known : List Num) (at_ : Nat) : Prop where
  hd : known.head? = some w.nought
  inb : ∀ c ∈ known, w.inB c
  nd : known.Nodup
  clo : ∀ c ∈ known.take at_, ∀ t, low ≤ t → t ≤ high → w.stepC c t ∈ known
  ord : foundL [w.nought] (w.behinds (spanL low high) (known.take at_)) = known
/-- of the next one the first j totals are done as well -/
structure Under2 (w : WayM) (low high : Int) (known : List Num) (at_ : Nat) (c : Num) (j : Nat) : Prop where
  hd : known.head? = some w.nought
  inb : ∀ c ∈ known, w.inB c
  nd : known.Nodup
  cur : known[at_]? = some c
  clo : ∀ c ∈ known.take at_, ∀ t, low ≤ t → t ≤ high → w.stepC c t ∈ known
  clo2 : ∀ i : Nat, i < j → w.stepC c (low + (i : Int)) ∈ known
  ord : foundL [w.nought] (w.behinds (spanL low high) (known.take at_) ++ ((spanL low high).take j).map (w.stepC c)) = known
theorem under0 (w : WayM) (low high : Int) : Under w low high [w.nought] 0 := ⟨rfl, fun c h => by rw [List.mem_singleton.mp h]; exact inB_nought w, by simp, (fun c h => by cases h), rfl⟩
theorem Under.two {w : WayM} {low high : Int} {known : List Num} {at_ : Nat} (u : Under w low high known at_) {c : Num} (h : known[at_]? = some c) : Under2 w low high known at_ c 0 :=
  ⟨u.hd, u.inb, u.nd, h, u.clo, fun i z => absurd z (Nat.not_lt_zero i), by rw [List.take_zero, List.map_nil, List.append_nil]; exact u.ord⟩
theorem spanL_take {low high : Int} {j : Nat} (h : j < (high + 1 - low).toNat) : (spanL low high).take (j + 1) = (spanL low high).take j ++ [low + (j : Int)] := by
  have hl : j < (spanL low high).length := by simpa [spanL] using h
  rw [List.take_succ_eq_append_getElem hl]
  congr 2
  simp [spanL]
theorem Under2.next {w : WayM} {low high : Int} {known : List Num} {at_ : Nat} {c : Num} {j : Nat} (ok : w.ok) (hm : w.mach = true) (sp : w.spanOk low high) (u : Under2 w low high known at_ c j) (h : j < (high + 1 - low).toNat) : Under2 w low high (grow1 known (w.stepC c (low + (j : Int)))) at_ c (j + 1) := by
  obtain ⟨more, em⟩ := grow1_pre known (w.stepC c (low + (j : Int)))
  have hat : at_ < known.length := (List.getElem?_eq_some_iff.mp u.cur).1
  have tk : (grow1 known (w.stepC c (low + (j : Int)))).take at_ = known.take at_ := by rw [em, List.take_append_of_le_length (by omega)]
  have mem : ∀ x, x ∈ known → x ∈ grow1 known (w.stepC c (low + (j : Int))) := fun x hx => grow1_mem.mpr (Or.inl hx)
  have hc := u.inb c (List.mem_of_getElem? u.cur)
  obtain ⟨s1, s2⟩ := sp
  refine ⟨?_, fun x hx => ?_, grow1_nodup u.nd, ?_, fun x hx t h1 h2 => ?_, fun i hi => ?_, ?_⟩
  · rw [em]
    have := u.hd
    cases hk : known with
    | nil => rw [hk] at this; cases this
    | cons y ys => rw [hk] at this; exact this
  · rcases grow1_mem.mp hx with hx | rfl
    · exact u.inb x hx
    · exact inB_step ok hm hc (by omega)
  · rw [em, List.getElem?_append_left hat]; exact u.cur
  · rw [tk] at hx
    exact mem _ (u.clo x hx t h1 h2)
  · by_cases hij : i = j
    · subst hij; exact grow1_mem.mpr (Or.inr rfl)
    · exact mem _ (u.clo2 i (by omega))
  · rw [tk, spanL_take h, List.map_append, ← List.append_assoc, foundL_app, u.ord]
    rfl
theorem Under2.done {w : WayM} {low high : Int} {known : List Num} {at_ : Nat} {c : Num} (u : Under2 w low high known at_ c (high + 1 - low).toNat) : Under w low high known (at_ + 1) := by
  have hat := (List.getElem?_eq_some_iff.mp u.cur)
  have tk : known.take (at_ + 1) = known.take at_ ++ [c] := by rw [List.take_succ_eq_append_getElem hat.1, hat.2]
  refine ⟨u.hd, u.inb, u.nd, fun x hx t h1 h2 => ?_, ?_⟩
  · rw [tk] at hx
    rcases List.mem_append.mp hx with hx | hx
    · exact u.clo x hx t h1 h2
    · rw [List.mem_singleton.mp hx]
      have := u.clo2 (t - low).toNat (by omega)
      rwa [show low + ((t - low).toNat : Int) = t by omega] at this
  · have := u.ord
    have tl : (spanL low high).take (high + 1 - low).toNat = spanL low high := List.take_of_length_le (by simp [spanL])
    rw [tl] at this
    rw [tk]
    unfold behinds at this ⊢
    rw [List.flatMap_append]
    simpa using this
/-- a machine, whole -/
structure Mach (w : WayM) (low high : Int) (known : List Num) : Prop where
  ok : w.ok
  mc : w.mach = true
  sp : w.spanOk low high
  u : Under w low high known known.length
theorem Mach.few {w : WayM} {low high : Int} {known : List Num} (m : Mach w low high known) : known.length ≤ 1681 := WayM.few m.u.nd m.u.inb
theorem Mach.step {w : WayM} {low high : Int} {known : List Num} (m : Mach w low high known) {c : Num} (h : c ∈ known) {t : Int} (h1 : low ≤ t) (h2 : t ≤ high) : w.stepC c t ∈ known := m.u.clo c (by rw [List.take_length]; exact h) t h1 h2
theorem Mach.order {w : WayM} {low high : Int} {known : List Num} (m : Mach w low high known) : foundL [w.nought] (w.behinds (spanL low high) known) = known := by have := m.u.ord; rwa [List.take_length] at this
end WayM
end DD

set_option Elab.async false
set_option linter.all false
set_option maxRecDepth 100000
set_option maxHeartbeats 2000000
namespace DD
open PySem PySem.Spec PyProof.Rows L2
/-! ### loops with things of one's own beside the names -/
theorem forX_ind {α : Type} {g : TDG} {tb : TDX α} {E : DEX α} {ds : List D} (I : Nat → α → Env → Prop) (step : ∀ (i : Nat) (d : D) (a : α) (ρ : Env) (N : α → Env → Prop), ds[i]? = some d → I i a ρ → (∀ a' ρ' ρ'', I (i + 1) a' ρ'' → Weak ρ' ρ'' → N a' ρ') → g d ρ fun ρ2 => tb { E with nx := N, ct := N, bk := E.nx } a ρ2)
    (done : ∀ a ρ, I ds.length a ρ → E.nx a ρ) : ∀ (a : α) (ρ : Env), I 0 a ρ → forX g tb E ds a ρ := by
  have main : ∀ (n i : Nat), i + n = ds.length → ∀ a ρ, I i a ρ → forX g tb E (ds.drop i) a ρ := by
    intro n
    induction n with
    | zero =>
      intro i hi a ρ h
      rw [List.drop_of_length_le (by omega)]
      exact done a ρ (by rw [← hi]; exact h)
    | succ n ih =>
      intro i hi a ρ h
      have hl : i < ds.length := by omega
      rw [List.drop_eq_getElem_cons hl]
      exact step i _ a ρ _ (List.getElem?_eq_getElem hl) h fun a' ρ' ρ'' h' w => ⟨ρ'', w, ih (i + 1) (by omega) a' ρ'' h'⟩
  intro a ρ h
  exact main ds.length 0 (Nat.zero_add _) a ρ h
section
variable {α : Type} {t u : TDX α} {E : DEX α} {a : α} {ρ : Env}
theorem xSeq_go (q : t { E with nx := u E } a ρ) : xSeq t u E a ρ := q
theorem xDat_go {τ : α → TDS} (q : τ a { nx := E.nx a, rt := E.rt, bk := E.bk a, ct := E.ct a } ρ) : xDat τ E a ρ := q
end
/-! ### keys of machines -/
def ckey : Num → NestedKey
  | .i x => .num x
  | .p x y => .tup [.num x, .num y]
def ktab (c : Num) (t : Int) : NestedKey := .tup [ckey c, .num t]
theorem key_c (c : Num) : keyOf c.d = some (ckey c) := by cases c <;> rfl
theorem key_ct (c : Num) (t : Int) : keyOf (.tup [c.d, .int t]) = some (ktab c t) := by cases c <;> rfl
theorem ckey_inj {a b : Num} (h : ckey a = ckey b) : a = b := by
  cases a <;> cases b <;> first | (injection h with h; subst h; rfl) | (cases h; done) | (injection h with h; injection h with h1 h2; injection h1 with h1; injection h2 with h2 h3; injection h2 with h2; subst h1 h2; rfl)
theorem ktab_inj {a b : Num} {s t : Int} (h : ktab a s = ktab b t) : a = b ∧ s = t := by
  injection h with h
  injection h with h1 h2
  injection h2 with h2 h3
  injection h2 with h2
  exact ⟨ckey_inj h1, h2⟩
theorem ktab_depth (c : Num) (t : Int) : NestedKey.depth (.tup [ckey c, .num t]) ≤ 8 := by
  cases c <;> simp [ckey, NestedKey.depth, NestedKey.depthAll]
theorem keyB_c (c : Num) : KeyB c.isP (ckey c) := by
  cases c with
  | i x => exact ⟨x, rfl⟩
  | p x y => exact ⟨_, rfl, by show NestedKey.depth (.tup [.num x, .num y]) ≤ 8; simp [NestedKey.depth, NestedKey.depthAll]⟩
def tabV (w : WayM) (c : Num) (t : Int) : D := .tup [.int (w.stepG c t), (w.stepC c t).d]
def RowsOk (w : WayM) (F : NestedKey → Option D) (low high : Int) (cs : List Num) : Prop := ∀ c ∈ cs, ∀ t, low ≤ t → t ≤ high → F (ktab c t) = some (tabV w c t)
/-- a machine's data -/
def MachD (w : WayM) (low high : Int) (known : List Num) (ks : List NestedKey) (ds : List D) : Prop := w.Mach low high known ∧ RowsOk w (lookE ks ds) low high known
abbrev mFs : List Str := ["way", "least", "greatest", "known", "table"]
def machD (w : WayM) (low high : Int) (known : List Num) (ks : List NestedKey) (ds : List D) : D := .ins "Machine" mFs [w.d, .int low, .int high, .lst (numsD known), .dct ks ds]
end DD

set_option Elab.async false
set_option linter.all false
set_option maxRecDepth 100000
set_option maxHeartbeats 2000000
namespace DD
open PySem PySem.Spec PyProof.Rows L2
/-- a method under an own promise -/
structure CalF (Γ : Gm) (k : Nat) (C m : Str) (n : Nat) (sp : Sp) : Prop where
  ex : ∃ (f : Addr) (fd : FuncData) (ps : List Str), ps.length = n ∧ FnOk Γ.P Γ.w Γ.K Γ.mg Γ.base (L2.CX Γ.P Γ.w) k f fd ps sp ∧ Cls Γ.K (Γ.nm.ad C) ∧ Meth Γ.K (Γ.nm.ad C) m f ∧ Binds Γ.K fd ps []
theorem CalF.mono {Γ : Gm} {j k : Nat} {C m : Str} {n : Nat} {sp : Sp} (h : CalF Γ j C m n sp) (l : j ≤ k) : CalF Γ k C m n sp := by
  obtain ⟨f, fd, ps, h1, h2, h3⟩ := h.ex
  exact ⟨f, fd, ps, h1, h2.mono l, h3⟩
/-- in a try: the exceptions' wish named -/
theorem je_makeKT {S : Sit} {e : Expr} {es : List Expr} {pos p : Pos} {t : TDs} {k n : Nat} {C : Str} {M : MD} {Γ : Gm} (ex : TX) (jx : JX S) (F : CalK Γ k C n M) (hr : Room (k + 1) S.X.A) (hg : Gl S.X C) (h : JA' S (e :: es) t) (hdb : (C == ("__debug__" : Str)) = false := by decide)
    (he : starEach (e :: es) S.X.env = (false, eval e S.X.env) :: starEach es S.X.env := by rfl) (hpl : (backTo pos (starEach es S.X.env)).any (·.1) = false := by rfl) (hG : S.gm = Γ := by rfl) (hex : S.ex = ex := by rfl) :
    JE S (.Call (.Name C p) (e :: es) [] pos) (eMkK ex M t) := by
  rw [← hex]
  exact je_makeK jx F hr hg h hdb he hpl hG
theorem dicB {nm : Nm} {p : Addr} {c : DC} {G H B : Hp} {ps : List Addr} (h : DicAt nm p c G H) (hp : p ∈ ps) : DicAt nm p c G (fun b => if b ∈ ps then H b else B b) := h.mono (Same.refl G) (if_pos hp)
theorem seenB {nm : Nm} {p : Addr} {b : Bool} {c : SC} {G H B : Hp} {ps : List Addr} (h : SeenAt nm p b c G H) (hp : p ∈ ps) : SeenAt nm p b c G (fun b => if b ∈ ps then H b else B b) := h.mono (Same.refl G) (if_pos hp)
theorem SelfAt.atH {S : Sit} {i : Nat} {a : Addr} {fs : List (Str × V)} {C : Str} (h : SelfAt S i a fs C) {ps : List Addr} (hn : a ∉ ps) (G H : Hp) : SelfAt (S.atH ps G H) i a fs C := ⟨h.pin, by
  obtain ⟨dx, e⟩ := h.at_
  exact ⟨dx, (if_neg hn).trans e⟩⟩
theorem SelfAt.pin1 {S : Sit} {i j : Nat} {a p : Addr} {fs : List (Str × V)} {C : Str} (h : SelfAt S i a fs C) : SelfAt (S.pin1 j p) i a fs C := ⟨List.mem_cons_of_mem _ h.pin, h.at_⟩
theorem SelfAt.ne {S : Sit} {i : Nat} {a p : Addr} {fs : List (Str × V)} {C : Str} (h : SelfAt S i a fs C) (hp : S.B p = none) : a ≠ p := fun z => by
  obtain ⟨dx, e⟩ := h.at_
  rw [z, hp] at e
  cases e
/-- stores in a part made of parts -/
theorem dic_put {ps : List Addr} {α : Type} {T : Part ps α} {nm : Nm} {p : Addr} (hp : p ∉ ps) : ∀ (a : α × DC) (G H : Hp) (c : DC) (es : List Ent), (T.dic nm p).W a G H → DicAt nm p c G (upd H p (DXO nm.w p es)) → (T.dic nm p).W (a.1, c) G (upd H p (DXO nm.w p es)) :=
  fun a G H c es w d => ⟨T.mono _ G H G _ w.1 (Same.refl G) fun q hq => upd_ne fun z => hp (z ▸ hq), d⟩
theorem seen_put {ps : List Addr} {α : Type} {T : Part ps α} {nm : Nm} {p : Addr} {b : Bool} (hp : p ∉ ps) : ∀ (a : α × SC) (G H : Hp) (c : SC) (o : HO), (T.seen nm p b).W a G H → SeenAt nm p b c G (upd H p o) → (T.seen nm p b).W (a.1, c) G (upd H p o) :=
  fun a G H c o w d => ⟨T.mono _ G H G _ w.1 (Same.refl G) fun q hq => upd_ne fun z => hp (z ▸ hq), d⟩
section
variable {S : Sit} {ps : List Addr} {G H : Hp} {i : Nat} {a q : Addr} {fs : List (Str × V)} {C x f : Str} {l : List D} {px pos : Pos} {v : V} {d : D}
theorem je_selfLX (h : SelfAt S i a fs C) (hn : a ∉ ps) (hf : FldOk S.X.K S.nm C f) (hl : fs.lookup f = some (.ref q)) (hq : q ∈ ps) (w : ∃ vs, H q = some (.lst vs) ∧ Reps S.nm G vs l) (g : ∀ p ∈ ps, G p = none) (hN : S.X.N[i]? = some x) (hv : Vis S.X.env.scope x) (hd : (x == ("__debug__" : Str)) = false := by decide) (hcd : (x == ("__classdict__" : Str)) = false := by decide)
    (hb : attributeBase (.Name x px) f S.X.env (eval (.Name x px) S.X.env) = eval (.Name x px) S.X.env := by rfl) : JE (S.atH ps G H) (.Attribute (.Name x px) f pos) (eC (.bor l)) := by
  obtain ⟨vs, e, r⟩ := w
  exact je_selfL (vs := vs) (h.atH hn G H) hf hl ((if_pos hq).trans e) (g q hq) r hN hv hd hcd hb
theorem je_selfFX (h : SelfAt S i a fs C) (hn : a ∉ ps) (hf : FldOk S.X.K S.nm C f) (hl : fs.lookup f = some v) (r : Rep S.nm G v d) (hN : S.X.N[i]? = some x) (hv : Vis S.X.env.scope x) (hd : (x == ("__debug__" : Str)) = false := by decide) (hcd : (x == ("__classdict__" : Str)) = false := by decide)
    (hb : attributeBase (.Name x px) f S.X.env (eval (.Name x px) S.X.env) = eval (.Name x px) S.X.env := by rfl) : JE (S.atH ps G H) (.Attribute (.Name x px) f pos) (eC d) := je_selfF (h.atH hn G H) hf hl r hN hv hd hcd hb
end
theorem JS.weak {S : Sit} {st : Stmt} {τ τ' : TDS} (h : JS S st τ) (hw : ∀ E ρ, τ' E ρ → τ E ρ) : JS S st τ' := ⟨fun G H σ ρ E R q => h.run G H σ ρ E R (hw E ρ q)⟩
end DD

set_option Elab.async false
set_option linter.all false
set_option maxRecDepth 100000
set_option maxHeartbeats 2000000
namespace DD
open PySem PySem.Spec PyProof.Rows L2
/-! ### fill, in plain words -/
theorem add_isP (c : Num) (t : Int) : (c.add (.i t)).isP = c.isP := by cases c <;> rfl
structure FillI (w : WayM) (low high : Int) (known pre : List Num) (dc : DC) (sc : SC) (dn : Nat) : Prop where
  rows : RowsOk w dc.F low high pre
  n : dc.n = dn
  m : ∀ c, sc.M (ckey c) = decide (c ∈ known)
  sn : sc.n = known.length
abbrev spanN (low high : Int) : Nat := (high + 1 - low).toNat
def FillW (w : WayM) (low high : Int) (n : Nat) (a : (List D × DC) × SC) (ρ : Env) : Prop := ∃ (known : List Num) (at_ : Nat) (x3 x4 x5 x6 : Option D), a.1.1 = numsD known ∧ ρ = [none, none, some (.int at_), x3, x4, x5, x6] ∧ w.Under low high known at_ ∧
  FillI w low high known (known.take at_) a.1.2 a.2 (at_ * spanN low high) ∧ at_ ≤ known.length ∧ n + at_ = 1681
def FillF (w : WayM) (low high : Int) (at_ : Nat) (c : Num) (pre : List Num) (j : Nat) (a : (List D × DC) × SC) (ρ : Env) : Prop := ∃ (known : List Num) (x4 x5 x6 : Option D), a.1.1 = numsD known ∧ ρ = [none, none, some (.int at_), some c.d, x4, x5, x6] ∧ w.Under2 low high known at_ c j ∧
  FillI w low high known pre a.1.2 a.2 (at_ * spanN low high + j) ∧ known.take at_ = pre ∧ ∀ i : Nat, i < j → a.1.2.F (ktab c (low + (i : Int))) = some (tabV w c (low + (i : Int)))
def tSplit (w : WayM) : TDS := fun E ρ => ∃ (c : Num) (t : Int) (a2 x5 x6 : Option D), ρ = [none, none, a2, some c.d, some (.int t), x5, x6] ∧ w.inB c ∧ (-60 ≤ t ∧ t ≤ 60) ∧ E.nx [none, none, a2, some c.d, some (.int t), some (.int (w.stepG c t)), some (w.stepC c t).d]
section
variable {w : WayM} {low high : Int} {known pre : List Num} {dc : DC} {sc : SC} {dn : Nat} {c b : Num} {t : Int}
theorem RowsOk.store {F : NestedKey → Option D} (h : RowsOk w F low high pre) : RowsOk w (fun y => if y = ktab c t then some (tabV w c t) else F y) low high pre := fun c' hc t' h1 h2 => by
  show (if ktab c' t' = ktab c t then some (tabV w c t) else F (ktab c' t')) = _
  by_cases e : ktab c' t' = ktab c t
  · obtain ⟨rfl, rfl⟩ := ktab_inj e
    rw [if_pos rfl]
  · rw [if_neg e]; exact h c' hc t' h1 h2
theorem FillI.put (h : FillI w low high known pre dc sc dn) : FillI w low high known pre ⟨fun y => if y = ktab c t then some (tabV w c t) else dc.F y, dc.n + 1⟩ sc (dn + 1) := ⟨h.rows.store, congrArg (· + 1) h.n, h.m, h.sn⟩
theorem FillI.see (h : FillI w low high known pre dc sc dn) : FillI w low high (known ++ [b]) pre dc ⟨fun y => if y = ckey b then true else sc.M y, sc.n + 1⟩ dn := ⟨h.rows, h.n, fun c => by
  show (if ckey c = ckey b then true else sc.M (ckey c)) = _
  by_cases e : ckey c = ckey b
  · obtain rfl := ckey_inj e
    rw [if_pos rfl, decide_eq_true (by simp)]
  · have : c ≠ b := fun z => e (by rw [z])
    rw [if_neg e, h.m]
    by_cases hc : c ∈ known
    · rw [decide_eq_true hc, decide_eq_true (by simp [hc])]
    · rw [decide_eq_false hc, decide_eq_false (by simp [hc, this])], by simp [h.sn]⟩
theorem FillI.zero (w : WayM) (low high : Int) : FillI w low high [w.nought] [] ⟨fun _ => none, 0⟩ ⟨fun y => decide (y = ckey w.nought), 1⟩ 0 := ⟨fun c hc => (by cases hc), rfl, fun c => by
  show decide (ckey c = ckey w.nought) = _
  by_cases e : c = w.nought
  · subst e; rw [decide_eq_true rfl, decide_eq_true (by simp)]
  · rw [decide_eq_false fun z => e (ckey_inj z), decide_eq_false (by simp [e])], rfl⟩
theorem keyB_w {c : Num} (h : c.isP = w.isPairs) : KeyB w.isPairs (ckey c) := h ▸ keyB_c c
theorem far_60 (h : w.mach = true) : w.far ≤ 60 := by
  cases w <;> first | exact Int.le_refl _ | exact Int.min_le_left _ _ | cases h
theorem any_ic (i : Int) (a : Num) : [frzO (borO (.int i)), frzO (borO a.d)].any isBor = false := by cases a <;> rfl
theorem any_ci (i : Int) (a : Num) : [frzO (borO a.d), frzO (borO (.int i))].any isBor = false := by cases a <;> rfl
end
end DD

set_option Elab.async false
set_option linter.all false
set_option maxRecDepth 100000
set_option maxHeartbeats 2000000
namespace DD
open PySem PySem.Spec PyProof.Rows L2
/-! ### a machine's __init__, read -/
def tMeth0 (C : Addr) (m : Str) (sp : Sp) (E : L2.St → XK) (ta : TE) : TE := fun σ H Q => ta σ H fun x H1 => ∃ a dx fs, x = .ref a ∧ H1 a = some (.ins C dx fs) ∧ fs.lookup m = none ∧ sp [x] H1 Q (E σ)
def tNewX (w : World) : TE := fun _ H Q => ∀ p, H p = none → Q (.ref p) (upd H p (DXO w p []))
theorem mk_read {Γ : Gm} {x dx : Addr} {wv : V} {w : WayM} {low high : Int} {H G : Hp} {Q : VK} {E : XK} {W : L2.WX} {σ : L2.St} {P : Out → Prop} {My Ms Mn : MD} {MF : List D → List D → (List D → DC → Prop) → Prop}
    (hf : ∀ y ∈ mFs, FldOk Γ.K Γ.nm "Machine" y) (eW : ∀ c d H, W c d σ H = E c d H) (h0 : σ[0]? = some (some (.ref x))) (h1 : σ[1]? = some (some wv)) (h2 : σ[2]? = some (some (.int low))) (h3 : σ[3]? = some (some (.int high)))
    (gh : Same G H) (gx : G x = none) (hx : H x = some (.ins (Γ.nm.ad "Machine") dx [])) (rw_ : Rep Γ.nm G wv w.d)
    (hway : ∀ P' : Out → Prop, (w.mach = true → P' (.ret .non)) → (w.mach = false → P' (.exn "NoRatio")) → My [w.d] P')
    (hspan : ∀ P' : Out → Prop, (w.spanOk low high → P' (.ret .non)) → (¬ w.spanOk low high → P' (.exn "NoSpan")) → Ms [w.d, .int low, .int high] P')
    (hno : ∀ P' : Out → Prop, P' (.ret w.nought.d) → Mn [w.d] P')
    (hfill : w.mach = true → w.spanOk low high → MF [w.d, .int low, .int high] [w.nought.d] (fun l' c => ∃ known, l' = numsD known ∧ w.Mach low high known ∧ RowsOk w c.F low high known))
    (p0 : w.mach = false → P (.exn "NoRatio")) (p1 : w.mach = true → ¬ w.spanOk low high → P (.exn "NoSpan")) (p2 : w.mach = true → w.spanOk low high → ∀ known ks ds2, MachD w low high known ks ds2 → P (.ret (machD w low high known ks ds2)))
    (q1 : ∀ (G' H' : Hp) (r : D), Ext (del H x) G (del H x) G' H' → Rep Γ.nm G' (.ref x) r → P (.ret r) → Q .non H') (q2 : ∀ (C' : Str) (H' : Hp), Same (del H x) H' → P (.exn C') → E (.ref (Γ.nm.ad C')) none H') :
    tSeq (tDrop (tCallS (spD Γ.nm My) (WE W) (tCons (tVar 1) tNil))) (tSeq (tDrop (tCallS (spD Γ.nm Ms) (WE W) (tCons (tVar 1) (tCons (tVar 2) (tCons (tVar 3) tNil))))) (tSeq (sFld Γ.K (tVar 0) (tVar 1) "way") (tSeq (sFld Γ.K (tVar 0) (tVar 2) "least") (tSeq (sFld Γ.K (tVar 0) (tVar 3) "greatest")
      (tSeq (sFld Γ.K (tVar 0) (tLst (tCons (tCallS (spD Γ.nm Mn) (WE W) (tCons (tVar 1) tNil)) tNil)) "known") (tSeq (sFld Γ.K (tVar 0) (tNewX Γ.nm.w) "table") (tDrop (tMeth0 (Γ.nm.ad "Machine") "fill" (spFill Γ.nm "Machine" ["way", "least", "greatest"] "known" "table" MF) (WE W) (tVar 0)))))))))
      { nx := fun _ H' => Q .non H', rt := Q } σ H := by
  have smx : ∀ {H' : Hp}, Same H H' → Same (del H x) H' := fun s b o e => by
    by_cases hb : b = x
    · subst hb; unfold del at e; rw [if_pos rfl] at e; cases e
    · rw [del_ne hb] at e; exact s _ _ e
  have fx : ∀ (C' : Str) (H' : Hp), Same H H' → P (.exn C') → WE W σ (.ref (Γ.nm.ad C')) none H' := fun C' H' s p => by
    show W _ _ σ H'
    rw [eW]
    exact q2 C' H' (smx s) p
  -- the way
  refine ⟨wv, h1, G, [w.d], fun o => (o = .ret .non ∧ w.mach = true) ∨ (o = .exn "NoRatio" ∧ w.mach = false), gh, .cons rw_ .nil, hway _ (fun z => .inl ⟨rfl, z⟩) (fun z => .inr ⟨rfl, z⟩), fun G1 H1 v r x1 _ _ p => ?_, fun C' H' sm p => ?_⟩
  rotate_left
  · rcases p with ⟨p, _⟩ | ⟨p, z⟩
    · cases p
    · cases p; exact fx _ _ sm (p0 z)
  rcases p with ⟨_, hm⟩ | ⟨p, _⟩
  rotate_left
  · cases p
  -- the span
  refine ⟨wv, h1, .int low, h2, .int high, h3, G1, [w.d, .int low, .int high], fun o => (o = .ret .non ∧ w.spanOk low high) ∨ (o = .exn "NoSpan" ∧ ¬ w.spanOk low high), x1.gh, .cons (rw_.mono x1.g) (.cons (.int _) (.cons (.int _) .nil)), hspan _ (fun z => .inl ⟨rfl, z⟩) (fun z => .inr ⟨rfl, z⟩), fun G2 H2 v r x2 _ _ p => ?_, fun C' H' sm p => ?_⟩
  rotate_left
  · rcases p with ⟨p, _⟩ | ⟨p, z⟩
    · cases p
    · cases p; exact fx _ _ (x1.h.trans sm) (p1 hm z)
  rcases p with ⟨_, hs⟩ | ⟨p, _⟩
  rotate_left
  · cases p
  have g2 : ∀ a, G a = none → H a ≠ none → G2 a = none := fun a e n => x2.new a (x1.new a e n) (fun z => by
    cases q : H a with
    | none => exact n q
    | some o => rw [x1.h _ _ q] at z; cases z)
  have s2 : Same H H2 := x1.h.trans x2.h
  have hx2 := s2 _ _ hx
  have gx2 : G2 x = none := g2 x gx (by rw [hx]; exact fun z => by cases z)
  -- three attributes
  refine ⟨wv, h1, .ref x, h0, x, Γ.nm.ad "Machine", dx, _, rfl, hx2, (hf "way" (by simp)).1, (hf "way" (by simp)).2, by show 0 < 1000; decide, ?_⟩
  refine ⟨.int low, h2, .ref x, h0, x, Γ.nm.ad "Machine", dx, _, rfl, upd_same, (hf "least" (by simp)).1, (hf "least" (by simp)).2, by show 1 < 1000; decide, ?_⟩
  refine ⟨.int high, h3, .ref x, h0, x, Γ.nm.ad "Machine", dx, _, rfl, upd_same, (hf "greatest" (by simp)).1, (hf "greatest" (by simp)).2, by show 2 < 1000; decide, ?_⟩
  obtain ⟨H5, e5⟩ : ∃ H5, H5 = upd (upd (upd H2 x (.ins (Γ.nm.ad "Machine") dx (putF "way" wv []))) x (.ins (Γ.nm.ad "Machine") dx (putF "least" (.int low) (putF "way" wv [])))) x (.ins (Γ.nm.ad "Machine") dx (putF "greatest" (.int high) (putF "least" (.int low) (putF "way" wv [])))) := ⟨_, rfl⟩
  show tSeq _ _ _ σ (upd (upd (upd H2 x _) x _) x _)
  rw [← e5]
  have h5x : H5 x = some (.ins (Γ.nm.ad "Machine") dx [("way", wv), ("least", .int low), ("greatest", .int high)]) := by rw [e5]; exact upd_same
  have h5 : ∀ b, b ≠ x → H5 b = H2 b := fun b hb => by rw [e5, upd_ne hb, upd_ne hb, upd_ne hb]
  have gh5 : Same G2 H5 := fun b o e => by rw [h5 b (ne_of_none e gx2)]; exact x2.gh _ _ e
  clear e5
  -- known
  refine ⟨wv, h1, G2, [w.d], fun o => o = .ret w.nought.d, gh5, .cons ((rw_.mono x1.g).mono x2.g) .nil, hno _ rfl, fun G6 H6 nv r x6 rr nb p => ?_, fun C' H' sm p => by cases p⟩
  obtain rfl : r = w.nought.d := by injection p
  have rn : Rep Γ.nm G6 nv w.nought.d := by
    cases hn : w.nought with
    | i n => rw [hn] at rr; exact rr
    | p a b => rw [hn] at rr; exact rr
  refine ⟨(by rw [sizeLine_eq]; show 1 ≤ 16777216; decide), fun pk hk => ?_⟩
  have h6x := x6.h _ _ h5x
  have kx : pk ≠ x := fun z => by rw [z, h6x] at hk; cases hk
  refine ⟨.ref x, h0, x, Γ.nm.ad "Machine", dx, _, rfl, (by rw [upd_ne kx.symm]; exact h6x), (hf "known" (by simp)).1, (hf "known" (by simp)).2, by show 3 < 1000; decide, ?_⟩
  -- table
  intro pt ht
  have tx : pt ≠ x := fun z => by rw [z, upd_same] at ht; cases ht
  have tk : pt ≠ pk := fun z => by rw [z, upd_ne kx, upd_same] at ht; cases ht
  have ht6 : H6 pt = none := by rw [upd_ne tx, upd_ne tk] at ht; exact ht
  refine ⟨.ref x, h0, x, Γ.nm.ad "Machine", dx, _, rfl, (by rw [upd_ne tx.symm]; exact upd_same), (hf "table" (by simp)).1, (hf "table" (by simp)).2, by show 4 < 1000; decide, ?_⟩
  suffices key : ∀ H10 : Hp, H10 x = some (.ins (Γ.nm.ad "Machine") dx (selfFs ["way", "least", "greatest"] [wv, .int low, .int high] "known" "table" pk pt)) → H10 pk = some (.lst [nv]) → H10 pt = some (DXO Γ.nm.w pt []) → (∀ b, b ≠ x → b ≠ pk → b ≠ pt → H10 b = H6 b) →
      tMeth0 (Γ.nm.ad "Machine") "fill" (spFill Γ.nm "Machine" ["way", "least", "greatest"] "known" "table" MF) (WE W) (tVar 0) σ H10 fun _ H' => Q .non H' by
    refine key _ upd_same ?_ ?_ ?_
    · rw [upd_ne kx, upd_ne tk.symm, upd_ne kx, upd_same]
    · rw [upd_ne tx, upd_same]
    · intro b h1 h2 h3; rw [upd_ne h1, upd_ne h3, upd_ne h1, upd_ne h2]
  intro H10 hx10 hk10 ht10 ho10
  have gx6 : G6 x = none := x6.new x gx2 (by rw [h5x]; exact fun z => by cases z)
  have gk6 : G6 pk = none := x6.gh.free hk
  have gt6 : G6 pt = none := x6.gh.free ht6
  have gh10 : Same G6 H10 := fun b o e => by rw [ho10 b (ne_of_none e gx6) (ne_of_none e gk6) (ne_of_none e gt6)]; exact x6.gh _ _ e
  refine ⟨.ref x, h0, x, dx, _, rfl, hx10, (by rfl), G6, x, dx, pk, pt, [wv, .int low, .int high], [nv], [w.d, .int low, .int high], [w.nought.d], _, rfl, gh10, hx10, ⟨gk6, gt6, tk.symm⟩, .cons (((rw_.mono x1.g).mono x2.g).mono x6.g) (.cons (.int _) (.cons (.int _) .nil)), hk10, .cons rn .nil, ht10, hfill hm hs, ?_⟩
  intro G' H' vk' l' c xe hk' gk' rl dic gt' ⟨known, el, mc, ro⟩
  subst el
  obtain ⟨es, ds2, d1, d2, d3, d4, d5⟩ := dic
  have hdx : ∀ b, b ≠ pk → b ≠ pt → del2 H10 pk pt b = H10 b := fun b h1 h2 => if_neg (fun z => z.elim h1 h2)
  have hx' : H' x = some (.ins (Γ.nm.ad "Machine") dx (selfFs ["way", "least", "greatest"] [wv, .int low, .int high] "known" "table" pk pt)) := xe.h _ _ (by rw [hdx x kx.symm tx.symm]; exact hx10)
  have kpk : H pk = none := by
    cases q : H pk with
    | none => rfl
    | some o =>
      have : H6 pk = some o := x6.h _ _ (by rw [h5 pk kx]; exact s2 _ _ q)
      rw [hk] at this; cases this
  have kpt : H pt = none := by
    cases q : H pt with
    | none => rfl
    | some o =>
      have : H6 pt = some o := x6.h _ _ (by rw [h5 pt tx]; exact s2 _ _ q)
      rw [ht6] at this; cases this
  have gpk : G pk = none := gh.free kpk
  have gpt : G pt = none := gh.free kpt
  obtain ⟨GG, eg⟩ : ∃ GG, GG = upd (upd (upd G' pk (.lst vk')) pt (DXO Γ.nm.w pt es)) x (.ins (Γ.nm.ad "Machine") dx (selfFs ["way", "least", "greatest"] [wv, .int low, .int high] "known" "table" pk pt)) := ⟨_, rfl⟩
  have ggx : GG x = some (.ins (Γ.nm.ad "Machine") dx (selfFs ["way", "least", "greatest"] [wv, .int low, .int high] "known" "table" pk pt)) := by rw [eg]; exact upd_same
  have ggt : GG pt = some (DXO Γ.nm.w pt es) := by rw [eg, upd_ne tx]; exact upd_same
  have ggk : GG pk = some (.lst vk') := by rw [eg, upd_ne kx, upd_ne tk.symm]; exact upd_same
  have ggo : ∀ b, b ≠ x → b ≠ pk → b ≠ pt → GG b = G' b := fun b h1 h2 h3 => by rw [eg, upd_ne h1, upd_ne h3, upd_ne h2]
  clear eg
  have gx' : G' x = none := xe.new x gx6 (by rw [hdx x kx.symm tx.symm, hx10]; exact fun z => by cases z)
  have sG' : Same G' GG := fun b o e => by rw [ggo b (ne_of_none e gx') (ne_of_none e gk') (ne_of_none e gt')]; exact e
  have sG : Same G G' := ((x1.g.trans x2.g).trans x6.g).trans xe.g
  refine q1 GG H' (machD w low high known (es.map (·.1)) ds2) ⟨sG.trans sG', fun b o e => ?_, fun b o e => ?_, fun a ea na => ?_⟩ ?_ (p2 hm hs _ _ _ ⟨mc, fun c' hc t h1 h2 => by rw [← d5]; exact ro c' hc t h1 h2⟩)
  · by_cases hb : b = x
    · subst hb; unfold del at e; rw [if_pos rfl] at e; cases e
    · rw [del_ne hb] at e
      have bk : b ≠ pk := fun z => by rw [z, kpk] at e; cases e
      have bt : b ≠ pt := fun z => by rw [z, kpt] at e; cases e
      exact xe.h _ _ (by rw [hdx b bk bt, ho10 b hb bk bt]; exact x6.h _ _ (by rw [h5 b hb]; exact s2 _ _ e))
  · by_cases hb : b = x
    · subst hb; rw [ggx] at e; rw [← e]; exact hx'
    · by_cases bk : b = pk
      · subst bk; rw [ggk] at e; rw [← e]; exact hk'
      · by_cases bt : b = pt
        · subst bt; rw [ggt] at e; rw [← e]; exact d1
        · rw [ggo b hb bk bt] at e; exact xe.gh _ _ e
  · by_cases hb : a = x
    · subst hb; unfold del at na; rw [if_pos rfl] at na; exact absurd rfl na
    · rw [del_ne hb] at na
      have bk : a ≠ pk := fun z => na (by rw [z, kpk])
      have bt : a ≠ pt := fun z => na (by rw [z, kpt])
      rw [ggo a hb bk bt]
      have n2 : H2 a ≠ none := fun z => by
        cases q : H a with
        | none => exact na q
        | some o => rw [s2 _ _ q] at z; cases z
      have n6 : H6 a ≠ none := fun z => by
        cases q : H2 a with
        | none => exact n2 q
        | some o => rw [x6.h _ _ ((h5 a hb).trans q)] at z; cases z
      exact xe.new a (x6.new a (g2 a ea na) (by rw [h5 a hb]; exact n2)) (by rw [hdx a bk bt, ho10 a hb bk bt]; exact n6)
  · exact .ins (vs := [wv, .int low, .int high, .ref pk, .ref pt]) ggx (.cons ((rw_.mono sG).mono sG') (.cons (.int _) (.cons (.int _) (.cons (.lst ggk (rl.mono sG')) (.cons (.dct ggt rfl (KRs.mono sG' _ _ d2) (d3.mono sG')) .nil)))))
theorem pe_dnewXw {X : Cx} {w : World} {pos : Pos} (e : X.w = w) : PE X (.Dict [] [] pos) (tNewX w) := by
  subst e
  exact pe_dnewX
end DD

set_option Elab.async false
set_option linter.all false
set_option maxRecDepth 100000
set_option maxHeartbeats 2000000
namespace DD
open PySem PySem.Spec PyProof.Rows L2
/-! ### a machine's attributes, and what stands in its table -/
section
variable {Γ : Gm} {w : WayM} {low high : Int} {known : List Num} {ks : List NestedKey} {ds2 : List D} {ρ : Env} {i : Nat} {Q : D → Prop}
theorem fldM {f : Str} {x : D} (h : FldOk Γ.K Γ.nm "Machine" f) (e : fldOf mFs [w.d, .int low, .int high, .lst (numsD known), .dct ks ds2] f = some x) (hi : ρ[i]? = some (some (machD w low high known ks ds2))) (q : Q x) : eFld Γ (eVar i) f ρ Q := by
  unfold eFld eVar
  rw [hi]
  exact ⟨h, x, e, q⟩
theorem dixM {τ τo : TD} (ho : ∀ Q : D → Prop, Q (.dct ks ds2) → τo ρ Q) {c : Num} {t : Int} {y : D} (e : lookE ks ds2 (ktab c t) = some y) (hk : ∀ Q : D → Prop, Q (.tup [c.d, .int t]) → τ ρ Q) (q : Q y) : eDixF τo τ ρ Q :=
  ho _ (hk _ ⟨_, y, key_ct c t, ktab_depth c t, e, q⟩)
end
def rowD (w : WayM) (c : Num) (t : Int) : D := .tup [c.d, .int t, .int (w.stepG c t), (w.stepC c t).d]
def rowsM (w : WayM) (low high : Int) (known : List Num) : List D := known.flatMap fun c => (WayM.spanL low high).map (rowD w c)
theorem rowsM_len (w : WayM) (low high : Int) : ∀ cs : List Num, (rowsM w low high cs).length = cs.length * (high + 1 - low).toNat
  | [] => by simp [rowsM]
  | c :: cs => by
    have ih := rowsM_len w low high cs
    unfold rowsM at ih ⊢
    rw [List.flatMap_cons, List.length_append, ih, List.length_map, List.length_cons, Nat.succ_mul]
    simp [WayM.spanL]
    omega
theorem rowsM_snoc (w : WayM) (low high : Int) (cs : List Num) (c : Num) : rowsM w low high (cs ++ [c]) = rowsM w low high cs ++ (WayM.spanL low high).map (rowD w c) := by
  unfold rowsM
  rw [List.flatMap_append]
  simp
def carM (w : WayM) (c : Num) : List Int → Num
  | [] => c
  | t :: ts => carM w (w.stepC c t) ts
def figM (w : WayM) (c : Num) : List Int → List Int
  | [] => []
  | t :: ts => w.stepG c t :: figM w (w.stepC c t) ts
theorem carM_snoc (w : WayM) (t : Int) : ∀ (ts : List Int) (c : Num), carM w c (ts ++ [t]) = w.stepC (carM w c ts) t
  | [], c => rfl
  | s :: ts, c => carM_snoc w t ts (w.stepC c s)
theorem figM_snoc (w : WayM) (t : Int) : ∀ (ts : List Int) (c : Num), figM w c (ts ++ [t]) = figM w c ts ++ [w.stepG (carM w c ts) t]
  | [], c => rfl
  | s :: ts, c => congrArg (w.stepG c s :: ·) (figM_snoc w t ts (w.stepC c s))
theorem figM_len (w : WayM) : ∀ (ts : List Int) (c : Num), (figM w c ts).length = ts.length
  | [], c => rfl
  | s :: ts, c => congrArg (· + 1) (figM_len w ts (w.stepC c s))
theorem carM_in {w : WayM} {low high : Int} {known : List Num} (mc : w.Mach low high known) : ∀ (ts : List Int) (c : Num), c ∈ known → (∀ t ∈ ts, low ≤ t ∧ t ≤ high) → carM w c ts ∈ known
  | [], _, h, _ => h
  | t :: ts, c, h, hs => carM_in mc ts _ (mc.step h (hs t List.mem_cons_self).1 (hs t List.mem_cons_self).2) fun s z => hs s (List.mem_cons_of_mem _ z)
theorem nought_in {w : WayM} {low high : Int} {known : List Num} (mc : w.Mach low high known) : known[0]? = some w.nought := by
  have := mc.u.hd
  cases known with
  | nil => cases this
  | cons x l => exact this
theorem any_lc (l : List D) (a : Num) : [frzO (borO (.lst l)), frzO (borO a.d)].any isBor = false := by cases a <;> rfl
theorem intB_go {ρ : Env} {b : Bool} {K : D → Prop} (q : K (.int (if b then 1 else 0))) : aNil ρ (fun ds => cIntB (frzO (.bl b) :: ds) K) := q
theorem cut_one {x : Num} {l : List Num} : DD.cutD (numsD (x :: l)) none (some 1) = [x.d] := by
  unfold DD.cutD
  have e : (numsD (x :: l)).length = l.length + 1 := by rw [nums_len]; rfl
  rw [e]
  have e1 : HT.sIx (l.length + 1) 0 none = 0 := rfl
  have e2 : HT.sIx (l.length + 1) (l.length + 1) (some 1) = 1 := by
    unfold HT.sIx
    simp
  rw [e1, e2]
  rfl
theorem nought_pD {w : WayM} (h : w.isPairs = true) : w.nought.d = .tup [.int 0, .int 0] := by cases w <;> first | rfl | cases h
theorem nought_iD {w : WayM} (h : w.isPairs = false) : w.nought.d = .int 0 := by cases w <;> first | rfl | cases h
end DD

set_option Elab.async false
set_option linter.all false
set_option maxRecDepth 100000
set_option maxHeartbeats 2000000
namespace DD
open PySem PySem.Spec PyProof.Rows L2
/-! ### the rows of a machine, by pairs -/
def prs (low high : Int) (known : List Num) : List (Num × Int) := known.flatMap fun c => (WayM.spanL low high).map fun t => (c, t)
theorem rows_prs (w : WayM) (low high : Int) (known : List Num) : rowsM w low high known = (prs low high known).map fun x => rowD w x.1 x.2 := by
  unfold rowsM prs
  rw [List.map_flatMap]
  congr 1
  funext c
  rw [List.map_map]
  rfl
theorem beh_prs (w : WayM) (low high : Int) (known : List Num) : w.behinds (WayM.spanL low high) known = (prs low high known).map fun x => w.stepC x.1 x.2 := by
  unfold WayM.behinds prs
  rw [List.map_flatMap]
  congr 1
  funext c
  rw [List.map_map]
  rfl
theorem prs_mem {low high : Int} {known : List Num} {x : Num × Int} (h : x ∈ prs low high known) : x.1 ∈ known ∧ low ≤ x.2 ∧ x.2 ≤ high := by
  unfold prs at h
  obtain ⟨c, hc, h⟩ := List.mem_flatMap.mp h
  obtain ⟨t, ht, rfl⟩ := List.mem_map.mp h
  exact ⟨hc, WayM.spanL_mem.mp ht⟩
theorem prs_len {low high : Int} {known : List Num} : (prs low high known).length = known.length * (high + 1 - low).toNat := by
  have := rowsM_len (.plain 2) low high known
  rwa [rows_prs, List.length_map] at this
theorem row_at {w : WayM} {low high : Int} {known : List Num} {i : Nat} {d : D} (h : (rowsM w low high known)[i]? = some d) : ∃ c t, (prs low high known)[i]? = some (c, t) ∧ d = rowD w c t := by
  rw [rows_prs, List.getElem?_map] at h
  cases e : (prs low high known)[i]? with
  | none => rw [e] at h; cases h
  | some x => rw [e] at h; cases h; exact ⟨x.1, x.2, rfl, rfl⟩
/-- what is found in the first i rows -/
def foundAt (w : WayM) (low high : Int) (known : List Num) (i : Nat) : List Num := WayM.foundL [w.nought] (((prs low high known).take i).map fun x => w.stepC x.1 x.2)
theorem found_next {w : WayM} {low high : Int} {known : List Num} {i : Nat} {c : Num} {t : Int} (h : (prs low high known)[i]? = some (c, t)) : foundAt w low high known (i + 1) = WayM.grow1 (foundAt w low high known i) (w.stepC c t) := by
  unfold foundAt
  obtain ⟨hl, he⟩ := List.getElem?_eq_some_iff.mp h
  rw [List.take_succ_eq_append_getElem hl, he, List.map_append, WayM.foundL_app]
  rfl
theorem found_all {w : WayM} {low high : Int} {known : List Num} (mc : w.Mach low high known) : foundAt w low high known (prs low high known).length = known := by
  unfold foundAt
  rw [List.take_length, ← beh_prs]
  exact mc.order
theorem grow1_len (acc : List Num) (b : Num) : (WayM.grow1 acc b).length ≤ acc.length + 1 := by
  unfold WayM.grow1
  split <;> simp
theorem foundL_len : ∀ (bs acc : List Num), (WayM.foundL acc bs).length ≤ acc.length + bs.length
  | [], acc => Nat.le_refl _
  | b :: bs, acc => by
    rw [WayM.foundL_cons]
    have := foundL_len bs (WayM.grow1 acc b)
    have := grow1_len acc b
    simp only [List.length_cons]
    omega
theorem found_len (w : WayM) (low high : Int) (known : List Num) (i : Nat) : (foundAt w low high known i).length ≤ 1 + i := by
  have := foundL_len (((prs low high known).take i).map fun x => w.stepC x.1 x.2) [w.nought]
  rw [List.length_map, List.length_take] at this
  unfold foundAt
  simp only [List.length_cons, List.length_nil] at this
  omega
def FoundI (w : WayM) (low high : Int) (known : List Num) (x : D) (i : Nat) (a : Unit × SC) (ρ : Env) : Prop := ∃ x4 : Option D, ρ = [some x, some (.lst (rowsM w low high known)), some (.own (numsD (foundAt w low high known i))), none, x4] ∧
  (∀ c, a.2.M (ckey c) = decide (c ∈ foundAt w low high known i)) ∧ a.2.n = (foundAt w low high known i).length
theorem see_M {M : NestedKey → Bool} {found : List Num} {b : Num} (h : ∀ c, M (ckey c) = decide (c ∈ found)) (c : Num) : (if ckey c = ckey b then true else M (ckey c)) = decide (c ∈ found ++ [b]) := by
  by_cases e : ckey c = ckey b
  · obtain rfl := ckey_inj e
    rw [if_pos rfl, decide_eq_true (by simp)]
  · have : c ≠ b := fun z => e (by rw [z])
    rw [if_neg e, h]
    by_cases hc : c ∈ found
    · rw [decide_eq_true hc, decide_eq_true (by simp [hc])]
    · rw [decide_eq_false hc, decide_eq_false (by simp [hc, this])]
theorem see_M0 (w : WayM) (c : Num) : decide (ckey c = ckey w.nought) = decide (c ∈ [w.nought]) := by
  by_cases e : c = w.nought
  · subst e; rw [decide_eq_true rfl, decide_eq_true (by simp)]
  · rw [decide_eq_false fun z => e (ckey_inj z), decide_eq_false (by simp [e])]
theorem any_1 (a : Num) : [frzO a.d].any isBor = false := by cases a <;> rfl
theorem rowsM_at (w : WayM) (low high : Int) (j : Nat) (hj : j < (high + 1 - low).toNat) : ∀ (known : List Num) (i : Nat) (c : Num), known[i]? = some c → (rowsM w low high known)[i * (high + 1 - low).toNat + j]? = some (rowD w c (low + (j : Int)))
  | [], _, _, h => by simp at h
  | x :: l, 0, c, h => by
    have e : x = c := by simpa using h
    subst e
    have sl : ((WayM.spanL low high).map (rowD w x)).length = (high + 1 - low).toNat := by simp [WayM.spanL]
    show ((WayM.spanL low high).map (rowD w x) ++ rowsM w low high l)[0 * (high + 1 - low).toNat + j]? = _
    rw [Nat.zero_mul, Nat.zero_add, List.getElem?_append_left (by omega), List.getElem?_map]
    have : (WayM.spanL low high)[j]? = some (low + (j : Int)) := by
      unfold WayM.spanL
      rw [List.getElem?_map, List.getElem?_range hj]
      rfl
    rw [this]
    rfl
  | x :: l, i + 1, c, h => by
    have sl : ((WayM.spanL low high).map (rowD w x)).length = (high + 1 - low).toNat := by simp [WayM.spanL]
    have ih := rowsM_at w low high j hj l i c (by simpa using h)
    show ((WayM.spanL low high).map (rowD w x) ++ rowsM w low high l)[(i + 1) * (high + 1 - low).toNat + j]? = _
    rw [List.getElem?_append_right (by rw [sl, Nat.succ_mul]; omega), sl, Nat.succ_mul, show i * (high + 1 - low).toNat + (high + 1 - low).toNat + j - (high + 1 - low).toNat = i * (high + 1 - low).toNat + j by omega]
    exact ih
theorem any_gc (i : Int) (a : Num) : [frzO (.int i), frzO a.d].any isBor = false := by cases a <;> rfl
theorem any_cg (i : Int) (a : Num) : [frzO a.d, frzO (.int i)].any isBor = false := by cases a <;> rfl
/-- a table made of the first i rows -/
def RowsI (w : WayM) (low high : Int) (known : List Num) (F : NestedKey → Option D) (i : Nat) : Prop := ∀ (j : Nat) (c : Num) (t : Int), j < i → (prs low high known)[j]? = some (c, t) → F (ktab c t) = some (tabV w c t)
theorem RowsI.next {w : WayM} {low high : Int} {known : List Num} {F : NestedKey → Option D} {i : Nat} {c : Num} {t : Int} (h : RowsI w low high known F i) (hp : (prs low high known)[i]? = some (c, t)) : RowsI w low high known (fun y => if y = ktab c t then some (tabV w c t) else F y) (i + 1) := fun j c' t' hj hq => by
  show (if ktab c' t' = ktab c t then some (tabV w c t) else F (ktab c' t')) = _
  by_cases e : ktab c' t' = ktab c t
  · obtain ⟨rfl, rfl⟩ := ktab_inj e
    rw [if_pos rfl]
  · rw [if_neg e]
    refine h j c' t' ?_ hq
    by_cases hij : j = i
    · subst hij
      rw [hp] at hq
      cases hq
      exact absurd rfl e
    · omega
theorem RowsI.all {w : WayM} {low high : Int} {known : List Num} {F : NestedKey → Option D} (h : RowsI w low high known F (prs low high known).length) : RowsOk w F low high known := fun c hc t h1 h2 => by
  have hm : (c, t) ∈ prs low high known := by
    unfold prs
    exact List.mem_flatMap.mpr ⟨c, hc, List.mem_map.mpr ⟨t, WayM.spanL_mem.mpr ⟨h1, h2⟩, rfl⟩⟩
  obtain ⟨j, hj, e⟩ := List.getElem_of_mem hm
  exact h j c t hj (by rw [List.getElem?_eq_getElem hj, e])
end DD

set_option Elab.async false
set_option linter.all false
set_option maxRecDepth 100000
set_option maxHeartbeats 20000000
namespace My
open PySem PySem.Spec PyProof.Rows L2 DD
local macro_rules | `(tactic| walk_at "y") => `(tactic| (refine nx_set24 ?_))
local macro_rules | `(tactic| walk_at "y") => `(tactic| (refine nx_set23 ?_))
local macro_rules | `(tactic| walk_at "y") => `(tactic| (refine nx_set22 ?_))
local macro_rules | `(tactic| walk_at "y") => `(tactic| (refine nx_set21 ?_))
local macro_rules | `(tactic| walk_at "y") => `(tactic| (refine nx_set20 ?_))
local macro_rules | `(tactic| walk_at "y") => `(tactic| (refine nx_set19 ?_))
local macro_rules | `(tactic| walk_at "y") => `(tactic| (refine nx_set18 ?_))
local macro_rules | `(tactic| walk_at "y") => `(tactic| (refine nx_set17 ?_))
local macro_rules | `(tactic| walk_at "y") => `(tactic| (refine nx_set16 ?_))
local macro_rules | `(tactic| walk_at "y") => `(tactic| (refine nx_set15 ?_))
local macro_rules | `(tactic| walk_at "y") => `(tactic| (refine nx_set14 ?_))
local macro_rules | `(tactic| walk_at "y") => `(tactic| (refine nx_set13 ?_))
local macro_rules | `(tactic| walk_at "y") => `(tactic| (refine nx_set12 ?_))
local macro_rules | `(tactic| walk_at "y") => `(tactic| (refine nx_set11 ?_))
local macro_rules | `(tactic| walk_at "y") => `(tactic| (refine nx_set10 ?_))
local macro_rules | `(tactic| walk_at "y") => `(tactic| (refine nx_set9 ?_))
local macro_rules | `(tactic| walk_at "y") => `(tactic| (refine nx_set8 ?_))
local macro_rules | `(tactic| walk_at "y") => `(tactic| (refine nx_set7 ?_))
local macro_rules | `(tactic| walk_at "y") => `(tactic| (refine nx_set6 ?_))
local macro_rules | `(tactic| walk_at "y") => `(tactic| (refine nx_set5 ?_))
local macro_rules | `(tactic| walk_at "y") => `(tactic| (refine nx_set4 ?_))
local macro_rules | `(tactic| walk_at "y") => `(tactic| (refine nx_set3 ?_))
local macro_rules | `(tactic| walk_at "y") => `(tactic| (refine nx_set2 ?_))
local macro_rules | `(tactic| walk_at "y") => `(tactic| (refine nx_set1 ?_))
local macro_rules | `(tactic| walk_at "y") => `(tactic| (refine nx_set0 ?_))
local macro_rules | `(tactic| walk_at "y") => `(tactic| (refine nx_st3 ?_))
local macro_rules | `(tactic| walk_at "y") => `(tactic| (refine nx_st2 ?_))
local macro_rules | `(tactic| walk_at "y") => `(tactic| (refine nx_st1 ?_))
local macro_rules | `(tactic| walk_at "f") => `(tactic| first
  | exact ‹FlT _ _› (.plain 0) (by decide)
  | exact ‹FlT _ _› (.below 0) (by decide)
  | exact ‹FlT _ _› (.bal 0) (by decide)
  | exact ‹FlT _ _› (.grow 0) (by decide)
  | exact ‹FlT _ _› (.fall 0) (by decide)
  | exact ‹FlT _ _› (.pairs 0) (by decide))
local macro_rules | `(tactic| walk_at "h") => `(tactic| (refine brbF (by decide) ?_))
local macro_rules | `(tactic| walk_at "h") => `(tactic| (refine brbT (by decide) ?_))
local macro_rules | `(tactic| walk_at "h") => `(tactic| (refine And.intro (size_small (by show _ ≤ _; simp only [List.length_cons, List.length_nil]; decide)) ?_))
local macro_rules | `(tactic| walk_at "h") => `(tactic| (refine And.intro (by walk_at "f") (Exists.intro _ (And.intro fld_one ?_))))
local macro_rules | `(tactic| walk_at "h") => `(tactic| (refine And.intro (by show MulB _ _; (try simp only [WayM.v]); first | exact mulOk_right (by omega) (by omega) | exact mulOk_left (by omega) (by omega)) ?_))
local macro_rules | `(tactic| walk_at "h") => `(tactic| (refine And.intro (by show 0 ≤ _ ∧ _ ≤ 1000000 ∧ Int.natAbs _ < _; decide) ?_))
local macro_rules | `(tactic| walk_at "h") => `(tactic| (refine And.intro (by show MulB _ _; first | assumption | exact mulOk_right (by decide) (by decide) | exact mulOk_left (by decide) (by decide)) ?_))
local macro_rules | `(tactic| walk_at "h") => `(tactic| (refine And.intro (by show _ ≤ sizeLine; with_reducible assumption) ?_))
local macro_rules | `(tactic| walk_at "h") => `(tactic| (refine And.intro (by show _ < sizeLine; with_reducible assumption) ?_))
local macro_rules | `(tactic| walk_at "h") => `(tactic| (refine And.intro (by show (0 : Int) < _; first | decide | omega | exact len_pos) ?_))
local macro_rules | `(tactic| walk_at "h") => `(tactic| (refine Or.inr ⟨by show _ < (0 : Int); first | decide | omega, by show _ < 1073741824; first | decide | omega, ?_⟩))
local macro_rules | `(tactic| walk_at "h") => `(tactic| (refine Or.inl ⟨by show (0 : Int) < _; first | decide | omega, by show Nat.log2 _ < 9000; first | decide | exact log2_small (b := 2000) (by decide) (by decide) | exact log2_small (b := 64) (by omega) (by decide), ?_⟩))
local macro_rules | `(tactic| walk_at "h") => `(tactic| (refine And.intro (by first | exact Num.nb _ | exact Num.n3 _ | exact fun _ => Num.ok _ | exact fun _ => ok_tn _ _ | exact Num.n5 _ | exact Num.n6 _) ?_))
local macro_rules | `(tactic| walk_at "h") => `(tactic| (refine rEq_i1 ?_))
local macro_rules | `(tactic| walk_at "h") => `(tactic| (refine rEq_sF (by first | with_reducible assumption | decide) ?_))
local macro_rules | `(tactic| walk_at "h") => `(tactic| (refine rEq_sT (by first | rfl | decide) ?_))
local macro_rules | `(tactic| walk_at "h") => `(tactic| (refine rEq_sE (by first | rfl | decide) ?_))
local macro_rules | `(tactic| walk_at "h") => `(tactic| (refine rEq_sN (by first | with_reducible assumption | decide) ?_))
local macro_rules | `(tactic| walk_at "h") => `(tactic| (with_reducible refine eSl_scr (by with_unfolding_all rfl) ?_))
local macro_rules | `(tactic| walk_at "h") => `(tactic| (with_reducible refine eSl_lst (by with_unfolding_all rfl) ?_))
local macro_rules | `(tactic| walk_at "h") => `(tactic| (with_reducible refine eSl_own (by with_unfolding_all rfl) ?_))
local macro_rules | `(tactic| walk_at "h") => `(tactic| (with_reducible refine eNeg_int ?_))
local macro_rules | `(tactic| walk_at "h") => `(tactic| (with_reducible refine aCons_go ?_))
local macro_rules | `(tactic| walk_at "h") => `(tactic| (with_reducible refine eC_go ?_))
local macro_rules | `(tactic| walk_at "h") => `(tactic| (with_reducible refine eVar_go (by with_unfolding_all rfl) ?_))
local macro_rules | `(tactic| walk_at "h") => `(tactic| (with_reducible refine eVar_int (by with_unfolding_all rfl) ?_))
local macro_rules | `(tactic| walk_at "h") => `(tactic| (with_reducible refine eOp_go ?_))
local macro_rules | `(tactic| walk_at "h") => `(tactic| (with_reducible refine rAdd_int ?_))
local macro_rules | `(tactic| walk_at "h") => `(tactic| (refine rEq_i0 ?_))
local macro_rules | `(tactic| walk_at "h") => `(tactic| (refine brNF (by first | assumption | omega) ?_))
local macro_rules | `(tactic| walk_at "h") => `(tactic| (refine brNT (by first | assumption | omega) ?_))
local macro_rules | `(tactic| walk_at "h") => `(tactic| (refine brF (by first | assumption | omega) ?_))
local macro_rules | `(tactic| walk_at "h") => `(tactic| (refine brT (by first | assumption | omega) ?_))
local macro_rules | `(tactic| walk_at "h") => `(tactic| (refine And.intro rfl ?_))
local macro_rules | `(tactic| walk_at "h") => `(tactic| (refine fun (_ : false = false) => ?_))
local macro_rules | `(tactic| walk_at "h") => `(tactic| (refine fun (_ : true = true) => ?_))
local macro_rules | `(tactic| walk_at "h") => `(tactic| (refine And.intro ?_ tt_ff))
local macro_rules | `(tactic| walk_at "h") => `(tactic| (refine And.intro (fun _ => rfl) ?_))
local macro_rules | `(tactic| walk_at "h") => `(tactic| (refine And.intro (fun _ => ok_ints _) ?_))
local macro_rules | `(tactic| walk_at "h") => `(tactic| (refine And.intro (fun _ => Num.ok (WayM.val _ _)) ?_))
local macro_rules | `(tactic| walk_at "h") => `(tactic| (refine And.intro ff_tt ?_))
local macro_rules | `(tactic| walk_at "h") => `(tactic| (refine Nx.id ?_; walk_at "y"))
local macro_rules | `(tactic| walk_at "h") => `(tactic| (with_reducible refine dFrzN_lst (by with_unfolding_all rfl) ?_))
local macro_rules | `(tactic| walk_at "h") => `(tactic| (with_reducible refine dFrzN_own (by with_unfolding_all rfl) ?_))
local macro_rules | `(tactic| walk_at "h") => `(tactic| (with_reducible refine dSeq_go ?_))
local macro_rules | `(tactic| walk_at "g") => `(tactic| repeat walk_at "h")
local macro_rules | `(tactic| walk_at "x") => `(tactic| walk_at "y")
local macro_rules | `(tactic| walk_at "n") => `(tactic| first | rfl | (simp only [List.map, Num.n1, Num.n2, Num.frz]; first | done | rfl))
local macro_rules | `(tactic| walk_at "w") => `(tactic| (try simp only [Num.n1, Num.n2, Num.frz]); repeat (first | exact weak_nil | (refine weak_keep ?_) | (refine weak_drop ?_)))

def LC : List Str := ["Plain", "Below", "Balanced", "Growing", "Falling", "Pairs"]
def I_Way_low : List Str := ["Plain", "Below", "Growing", "Falling", "Pairs"]
def I_Way_ratio : List Str := ["Falling"]
def I_Way_split : List Str := ["Plain", "Below", "Balanced", "Growing"]
def topS (i : Nat) : Stmt := PySem.Challenge.pw_oddbases_k46_machine_rows.main.body.getD i (.Pass ⟨0, 0, 0, 0⟩)
abbrev st_is_pair : Stmt := topS 7
abbrev N_is_pair : List Str := ["thing"]
theorem sc_is_pair : FnScope N_is_pair ["thing"] (defScope st_is_pair) := ⟨rfl, rfl, rfl, by decide +kernel, rfl, by decide +kernel, by decide +kernel⟩
abbrev st_as_pair : Stmt := topS 8
abbrev N_as_pair : List Str := ["thing"]
theorem sc_as_pair : FnScope N_as_pair ["thing"] (defScope st_as_pair) := ⟨rfl, rfl, rfl, by decide +kernel, rfl, by decide +kernel, by decide +kernel⟩
abbrev st_added : Stmt := topS 9
abbrev N_added : List Str := ["one", "other", "a", "b", "c", "d"]
theorem sc_added : FnScope N_added ["one", "other"] (defScope st_added) := ⟨rfl, rfl, rfl, by decide +kernel, rfl, by decide +kernel, by decide +kernel⟩
abbrev st_multiplied : Stmt := topS 10
abbrev N_multiplied : List Str := ["one", "other", "a", "b", "c", "d"]
theorem sc_multiplied : FnScope N_multiplied ["one", "other"] (defScope st_multiplied) := ⟨rfl, rfl, rfl, by decide +kernel, rfl, by decide +kernel, by decide +kernel⟩
abbrev st_look_at : Stmt := topS 12
abbrev N_look_at : List Str := ["number", "least", "greatest"]
theorem sc_look_at : FnScope N_look_at ["number", "least", "greatest"] (defScope st_look_at) := ⟨rfl, rfl, rfl, by decide +kernel, rfl, by decide +kernel, by decide +kernel⟩
abbrev st_Way_low : Stmt := inClass (topS 13) 0
abbrev N_Way_low : List Str := ["self", "place"]
theorem sc_Way_low : FnScope N_Way_low ["self", "place"] (defScope st_Way_low) := ⟨rfl, rfl, rfl, by decide +kernel, rfl, by decide +kernel, by decide +kernel⟩
abbrev st_Balanced_low : Stmt := inClass (topS 16) 1
abbrev N_Balanced_low : List Str := ["self", "place"]
theorem sc_Balanced_low : FnScope N_Balanced_low ["self", "place"] (defScope st_Balanced_low) := ⟨rfl, rfl, rfl, by decide +kernel, rfl, by decide +kernel, by decide +kernel⟩
abbrev st_Plain_high : Stmt := inClass (topS 14) 1
abbrev N_Plain_high : List Str := ["self", "place"]
theorem sc_Plain_high : FnScope N_Plain_high ["self", "place"] (defScope st_Plain_high) := ⟨rfl, rfl, rfl, by decide +kernel, rfl, by decide +kernel, by decide +kernel⟩
abbrev st_Below_high : Stmt := inClass (topS 15) 1
abbrev N_Below_high : List Str := ["self", "place"]
theorem sc_Below_high : FnScope N_Below_high ["self", "place"] (defScope st_Below_high) := ⟨rfl, rfl, rfl, by decide +kernel, rfl, by decide +kernel, by decide +kernel⟩
abbrev st_Balanced_high : Stmt := inClass (topS 16) 2
abbrev N_Balanced_high : List Str := ["self", "place"]
theorem sc_Balanced_high : FnScope N_Balanced_high ["self", "place"] (defScope st_Balanced_high) := ⟨rfl, rfl, rfl, by decide +kernel, rfl, by decide +kernel, by decide +kernel⟩
abbrev st_Growing_high : Stmt := inClass (topS 17) 1
abbrev N_Growing_high : List Str := ["self", "place"]
theorem sc_Growing_high : FnScope N_Growing_high ["self", "place"] (defScope st_Growing_high) := ⟨rfl, rfl, rfl, by decide +kernel, rfl, by decide +kernel, by decide +kernel⟩
abbrev st_Falling_high : Stmt := inClass (topS 18) 1
abbrev N_Falling_high : List Str := ["self", "place"]
theorem sc_Falling_high : FnScope N_Falling_high ["self", "place"] (defScope st_Falling_high) := ⟨rfl, rfl, rfl, by decide +kernel, rfl, by decide +kernel, by decide +kernel⟩
abbrev st_Pairs_high : Stmt := inClass (topS 19) 1
abbrev N_Pairs_high : List Str := ["self", "place"]
theorem sc_Pairs_high : FnScope N_Pairs_high ["self", "place"] (defScope st_Pairs_high) := ⟨rfl, rfl, rfl, by decide +kernel, rfl, by decide +kernel, by decide +kernel⟩
abbrev st_Way_ratio : Stmt := inClass (topS 13) 2
abbrev N_Way_ratio : List Str := ["self", "place"]
theorem sc_Way_ratio : FnScope N_Way_ratio ["self", "place"] (defScope st_Way_ratio) := ⟨rfl, rfl, rfl, by decide +kernel, rfl, by decide +kernel, by decide +kernel⟩
abbrev st_Plain_ratio : Stmt := inClass (topS 14) 2
abbrev N_Plain_ratio : List Str := ["self", "place"]
theorem sc_Plain_ratio : FnScope N_Plain_ratio ["self", "place"] (defScope st_Plain_ratio) := ⟨rfl, rfl, rfl, by decide +kernel, rfl, by decide +kernel, by decide +kernel⟩
abbrev st_Below_ratio : Stmt := inClass (topS 15) 2
abbrev N_Below_ratio : List Str := ["self", "place"]
theorem sc_Below_ratio : FnScope N_Below_ratio ["self", "place"] (defScope st_Below_ratio) := ⟨rfl, rfl, rfl, by decide +kernel, rfl, by decide +kernel, by decide +kernel⟩
abbrev st_Balanced_ratio : Stmt := inClass (topS 16) 3
abbrev N_Balanced_ratio : List Str := ["self", "place"]
theorem sc_Balanced_ratio : FnScope N_Balanced_ratio ["self", "place"] (defScope st_Balanced_ratio) := ⟨rfl, rfl, rfl, by decide +kernel, rfl, by decide +kernel, by decide +kernel⟩
abbrev st_Growing_ratio : Stmt := inClass (topS 17) 2
abbrev N_Growing_ratio : List Str := ["self", "place"]
theorem sc_Growing_ratio : FnScope N_Growing_ratio ["self", "place"] (defScope st_Growing_ratio) := ⟨rfl, rfl, rfl, by decide +kernel, rfl, by decide +kernel, by decide +kernel⟩
abbrev st_Pairs_ratio : Stmt := inClass (topS 19) 2
abbrev N_Pairs_ratio : List Str := ["self", "place"]
theorem sc_Pairs_ratio : FnScope N_Pairs_ratio ["self", "place"] (defScope st_Pairs_ratio) := ⟨rfl, rfl, rfl, by decide +kernel, rfl, by decide +kernel, by decide +kernel⟩
abbrev st_Way_split : Stmt := inClass (topS 13) 4
abbrev N_Way_split : List Str := ["self", "total", "place", "low", "base", "figure"]
theorem sc_Way_split : FnScope N_Way_split ["self", "total", "place"] (defScope st_Way_split) := ⟨rfl, rfl, rfl, by decide +kernel, rfl, by decide +kernel, by decide +kernel⟩
abbrev st_Pairs_split : Stmt := inClass (topS 19) 4
abbrev N_Pairs_split : List Str := ["self", "total", "place", "size", "x", "y", "figure", "turned"]
theorem sc_Pairs_split : FnScope N_Pairs_split ["self", "total", "place"] (defScope st_Pairs_split) := ⟨rfl, rfl, rfl, by decide +kernel, rfl, by decide +kernel, by decide +kernel⟩
abbrev st_Falling_split : Stmt := inClass (topS 18) 3
abbrev N_Falling_split : List Str := ["self", "total", "place"]
theorem sc_Falling_split : FnScope N_Falling_split ["self", "total", "place"] (defScope st_Falling_split) := ⟨rfl, rfl, rfl, by decide +kernel, rfl, by decide +kernel, by decide +kernel⟩
abbrev st_nought : Stmt := topS 21
abbrev N_nought : List Str := ["way"]
theorem sc_nought : FnScope N_nought ["way"] (defScope st_nought) := ⟨rfl, rfl, rfl, by decide +kernel, rfl, by decide +kernel, by decide +kernel⟩
abbrev st_look_at_way : Stmt := topS 24
abbrev N_look_at_way : List Str := ["way"]
theorem sc_look_at_way : FnScope N_look_at_way ["way"] (defScope st_look_at_way) := ⟨rfl, rfl, rfl, by decide +kernel, rfl, by decide +kernel, by decide +kernel⟩
abbrev st_look_at_span : Stmt := topS 25
abbrev N_look_at_span : List Str := ["way", "low", "high", "farthest"]
theorem sc_look_at_span : FnScope N_look_at_span ["way", "low", "high"] (defScope st_look_at_span) := ⟨rfl, rfl, rfl, by decide +kernel, rfl, by decide +kernel, by decide +kernel⟩
abbrev st_Machine_fill : Stmt := inClass (topS 26) 1
abbrev N_Machine_fill : List Str := ["self", "seen", "at", "carry", "total", "figure", "behind"]
theorem sc_Machine_fill : FnScope N_Machine_fill ["self"] (defScope st_Machine_fill) := ⟨rfl, rfl, rfl, by decide +kernel, rfl, by decide +kernel, by decide +kernel⟩
abbrev st_Machine___init__ : Stmt := inClass (topS 26) 0
abbrev N_Machine___init__ : List Str := ["self", "way", "low", "high"]
theorem sc_Machine___init__ : FnScope N_Machine___init__ ["self", "way", "low", "high"] (defScope st_Machine___init__) := ⟨rfl, rfl, rfl, by decide +kernel, rfl, by decide +kernel, by decide +kernel⟩
abbrev st_Machine_carries : Stmt := inClass (topS 26) 2
abbrev N_Machine_carries : List Str := ["self"]
theorem sc_Machine_carries : FnScope N_Machine_carries ["self"] (defScope st_Machine_carries) := ⟨rfl, rfl, rfl, by decide +kernel, rfl, by decide +kernel, by decide +kernel⟩
abbrev st_Machine_rows : Stmt := inClass (topS 26) 3
abbrev N_Machine_rows : List Str := ["self", "found", "carry", "total"]
theorem sc_Machine_rows : FnScope N_Machine_rows ["self"] (defScope st_Machine_rows) := ⟨rfl, rfl, rfl, by decide +kernel, rfl, by decide +kernel, by decide +kernel⟩
abbrev st__law_cell_at : Stmt := topS 28
abbrev N__law_cell_at : List Str := ["_law_script", "_law_k"]
theorem sc__law_cell_at : FnScope N__law_cell_at ["_law_script", "_law_k"] (defScope st__law_cell_at) := ⟨rfl, rfl, rfl, by decide +kernel, rfl, by decide +kernel, by decide +kernel⟩
abbrev st__law_way : Stmt := topS 34
abbrev N__law_way : List Str := ["_law_name", "_law_number"]
theorem sc__law_way : FnScope N__law_way ["_law_name", "_law_number"] (defScope st__law_way) := ⟨rfl, rfl, rfl, by decide +kernel, rfl, by decide +kernel, by decide +kernel⟩
abbrev st__law_added : Stmt := topS 29
abbrev N__law_added : List Str := ["_law_one", "_law_other"]
theorem sc__law_added : FnScope N__law_added ["_law_one", "_law_other"] (defScope st__law_added) := ⟨rfl, rfl, rfl, by decide +kernel, rfl, by decide +kernel, by decide +kernel⟩
abbrev st__law_times : Stmt := topS 30
abbrev N__law_times : List Str := ["_law_name", "_law_number", "_law_carry"]
theorem sc__law_times : FnScope N__law_times ["_law_name", "_law_number", "_law_carry"] (defScope st__law_times) := ⟨rfl, rfl, rfl, by decide +kernel, rfl, by decide +kernel, by decide +kernel⟩
abbrev st__law_is_figure : Stmt := topS 31
abbrev N__law_is_figure : List Str := ["_law_name", "_law_number", "_law_figure"]
theorem sc__law_is_figure : FnScope N__law_is_figure ["_law_name", "_law_number", "_law_figure"] (defScope st__law_is_figure) := ⟨rfl, rfl, rfl, by decide +kernel, rfl, by decide +kernel, by decide +kernel⟩
abbrev st__law_nought : Stmt := topS 32
abbrev N__law_nought : List Str := ["_law_name"]
theorem sc__law_nought : FnScope N__law_nought ["_law_name"] (defScope st__law_nought) := ⟨rfl, rfl, rfl, by decide +kernel, rfl, by decide +kernel, by decide +kernel⟩
abbrev st__law_is_number : Stmt := topS 33
abbrev N__law_is_number : List Str := ["_law_name", "_law_thing"]
theorem sc__law_is_number : FnScope N__law_is_number ["_law_name", "_law_thing"] (defScope st__law_is_number) := ⟨rfl, rfl, rfl, by decide +kernel, rfl, by decide +kernel, by decide +kernel⟩
abbrev st__law_chosen : Stmt := topS 35
abbrev N__law_chosen : List Str := ["_law_cell", "_law_name", "_law_part"]
theorem sc__law_chosen : FnScope N__law_chosen ["_law_cell"] (defScope st__law_chosen) := ⟨rfl, rfl, rfl, by decide +kernel, rfl, by decide +kernel, by decide +kernel⟩
abbrev st__law_span : Stmt := topS 36
abbrev N__law_span : List Str := ["_law_name", "_law_number", "_law_cell", "_law_most"]
theorem sc__law_span : FnScope N__law_span ["_law_name", "_law_number", "_law_cell"] (defScope st__law_span) := ⟨rfl, rfl, rfl, by decide +kernel, rfl, by decide +kernel, by decide +kernel⟩
abbrev st__law_row : Stmt := topS 37
abbrev N__law_row : List Str := ["_law_name", "_law_number", "_law_row_here", "_law_carry", "_law_total"]
theorem sc__law_row : FnScope N__law_row ["_law_name", "_law_number", "_law_row_here", "_law_carry", "_law_total"] (defScope st__law_row) := ⟨rfl, rfl, rfl, by decide +kernel, rfl, by decide +kernel, by decide +kernel⟩
abbrev st__law_found : Stmt := topS 38
abbrev N__law_found : List Str := ["_law_name", "_law_rows", "_law_found_here", "_law_seen", "_law_row_here"]
theorem sc__law_found : FnScope N__law_found ["_law_name", "_law_rows"] (defScope st__law_found) := ⟨rfl, rfl, rfl, by decide +kernel, rfl, by decide +kernel, by decide +kernel⟩
abbrev st__law_walked : Stmt := topS 39
abbrev N__law_walked : List Str := ["_law_name", "_law_number", "_law_machine", "_law_low", "_law_high", "_law_known", "_law_rows", "_law_at", "_law_carry", "_law_total"]
theorem sc__law_walked : FnScope N__law_walked ["_law_name", "_law_number", "_law_machine", "_law_low", "_law_high"] (defScope st__law_walked) := ⟨rfl, rfl, rfl, by decide +kernel, rfl, by decide +kernel, by decide +kernel⟩
abbrev st_law : Stmt := topS 40
abbrev N_law : List Str := ["_law_script", "_law_name", "_law_number", "_law_low", "_law_high", "_law_machine", "_law_known", "_law_rows"]
theorem sc_law : FnScope N_law ["_law_script"] (defScope st_law) := ⟨rfl, rfl, rfl, by decide +kernel, rfl, by decide +kernel, by decide +kernel⟩
abbrev st_Plain___init__ : Stmt := inClass (topS 14) 0
abbrev N_Plain___init__ : List Str := ["self", "base"]
theorem sc_Plain___init__ : FnScope N_Plain___init__ ["self", "base"] (defScope st_Plain___init__) := ⟨rfl, rfl, rfl, by decide +kernel, rfl, by decide +kernel, by decide +kernel⟩
abbrev st_Below___init__ : Stmt := inClass (topS 15) 0
abbrev N_Below___init__ : List Str := ["self", "base"]
theorem sc_Below___init__ : FnScope N_Below___init__ ["self", "base"] (defScope st_Below___init__) := ⟨rfl, rfl, rfl, by decide +kernel, rfl, by decide +kernel, by decide +kernel⟩
abbrev st_Balanced___init__ : Stmt := inClass (topS 16) 0
abbrev N_Balanced___init__ : List Str := ["self", "half"]
theorem sc_Balanced___init__ : FnScope N_Balanced___init__ ["self", "half"] (defScope st_Balanced___init__) := ⟨rfl, rfl, rfl, by decide +kernel, rfl, by decide +kernel, by decide +kernel⟩
abbrev st_Growing___init__ : Stmt := inClass (topS 17) 0
abbrev N_Growing___init__ : List Str := ["self", "first"]
theorem sc_Growing___init__ : FnScope N_Growing___init__ ["self", "first"] (defScope st_Growing___init__) := ⟨rfl, rfl, rfl, by decide +kernel, rfl, by decide +kernel, by decide +kernel⟩
abbrev st_Falling___init__ : Stmt := inClass (topS 18) 0
abbrev N_Falling___init__ : List Str := ["self", "most"]
theorem sc_Falling___init__ : FnScope N_Falling___init__ ["self", "most"] (defScope st_Falling___init__) := ⟨rfl, rfl, rfl, by decide +kernel, rfl, by decide +kernel, by decide +kernel⟩
abbrev st_Pairs___init__ : Stmt := inClass (topS 19) 0
abbrev N_Pairs___init__ : List Str := ["self", "most"]
theorem sc_Pairs___init__ : FnScope N_Pairs___init__ ["self", "most"] (defScope st_Pairs___init__) := ⟨rfl, rfl, rfl, by decide +kernel, rfl, by decide +kernel, by decide +kernel⟩
structure Tx (Γ : Gm) : Prop where
  m_abs : Γ.mg "abs" = none
  m_bool : Γ.mg "bool" = none
  m_int : Γ.mg "int" = none
  m_isinstance : Γ.mg "isinstance" = none
  m_len : Γ.mg "len" = none
  m_list : Γ.mg "list" = none
  m_min : Γ.mg "min" = none
  m_range : Γ.mg "range" = none
  m_tuple : Γ.mg "tuple" = none
  g_Falling : Γ.mg "Falling" = some (.ref (Γ.nm.ad "Falling"))
  g_Growing : Γ.mg "Growing" = some (.ref (Γ.nm.ad "Growing"))
  g_Pairs : Γ.mg "Pairs" = some (.ref (Γ.nm.ad "Pairs"))
  is_Falling : IsT LC Γ "Falling"
  is_Growing : IsT LC Γ "Growing"
  is_Pairs : IsT LC Γ "Pairs"
  fk_way : FldOk Γ.K Γ.nm "Machine" "way"
  fk_least : FldOk Γ.K Γ.nm "Machine" "least"
  fk_greatest : FldOk Γ.K Γ.nm "Machine" "greatest"
  fk_known : FldOk Γ.K Γ.nm "Machine" "known"
  fk_table : FldOk Γ.K Γ.nm "Machine" "table"
  fl : FlT LC Γ
  x_NoRatio : ExK Γ "NoRatio"
  x_NoSpan : ExK Γ "NoSpan"
  x_NoWay : ExK Γ "NoWay"
  g_FARTHEST : ∃ t, Γ.mg "FARTHEST" = some (.int 60 t)
def AllMk : Prop := ∀ {w : World} {K : PySem.W.Frag} {h : Heap} {mg : Str → Option Value} {fa f0 f1 f2 f3 f4 f5 f6 f7 f8 f9 f10 f11 f12 f13 f14 f15 f16 f17 f18 f19 f20 f21 f22 f23 f24 f25 f26 f27 f28 f29 f30 f31 f32 f33 f34 f35 f36 f37 f38 f39 f40 f41 f42 f43 f44 f45 f46 f47 C_Plain C_Below C_Balanced C_Growing C_Falling C_Pairs C_Machine X_NoRatio X_NoSpan X_NoWay : Addr} (X : K.In h) (G : h.Ns mainGlobals mg) (hfa : mg "law" = some (.ref fa))
    {od0 an0 : Option Addr} {sl0 : Array (Option Value)} {oc0 kV0 dc0 pm0 cd0 ct0 : Value}
    {od1 an1 : Option Addr} {sl1 : Array (Option Value)} {oc1 kV1 dc1 pm1 cd1 ct1 : Value}
    {od2 an2 : Option Addr} {sl2 : Array (Option Value)} {oc2 kV2 dc2 pm2 cd2 ct2 : Value}
    {od3 an3 : Option Addr} {sl3 : Array (Option Value)} {oc3 kV3 dc3 pm3 cd3 ct3 : Value}
    {od4 an4 : Option Addr} {sl4 : Array (Option Value)} {oc4 kV4 dc4 pm4 cd4 ct4 : Value}
    {od5 an5 : Option Addr} {sl5 : Array (Option Value)} {oc5 kV5 dc5 pm5 cd5 ct5 : Value}
    {od6 an6 : Option Addr} {sl6 : Array (Option Value)} {oc6 kV6 dc6 pm6 cd6 ct6 : Value}
    {od7 an7 : Option Addr} {sl7 : Array (Option Value)} {oc7 kV7 dc7 pm7 cd7 ct7 : Value}
    {od8 an8 : Option Addr} {sl8 : Array (Option Value)} {oc8 kV8 dc8 pm8 cd8 ct8 : Value}
    {od9 an9 : Option Addr} {sl9 : Array (Option Value)} {oc9 kV9 dc9 pm9 cd9 ct9 : Value}
    {od10 an10 : Option Addr} {sl10 : Array (Option Value)} {oc10 kV10 dc10 pm10 cd10 ct10 : Value}
    {od11 an11 : Option Addr} {sl11 : Array (Option Value)} {oc11 kV11 dc11 pm11 cd11 ct11 : Value}
    {od12 an12 : Option Addr} {sl12 : Array (Option Value)} {oc12 kV12 dc12 pm12 cd12 ct12 : Value}
    {od13 an13 : Option Addr} {sl13 : Array (Option Value)} {oc13 kV13 dc13 pm13 cd13 ct13 : Value}
    {od14 an14 : Option Addr} {sl14 : Array (Option Value)} {oc14 kV14 dc14 pm14 cd14 ct14 : Value}
    {od15 an15 : Option Addr} {sl15 : Array (Option Value)} {oc15 kV15 dc15 pm15 cd15 ct15 : Value}
    {od16 an16 : Option Addr} {sl16 : Array (Option Value)} {oc16 kV16 dc16 pm16 cd16 ct16 : Value}
    {od17 an17 : Option Addr} {sl17 : Array (Option Value)} {oc17 kV17 dc17 pm17 cd17 ct17 : Value}
    {od18 an18 : Option Addr} {sl18 : Array (Option Value)} {oc18 kV18 dc18 pm18 cd18 ct18 : Value}
    {od19 an19 : Option Addr} {sl19 : Array (Option Value)} {oc19 kV19 dc19 pm19 cd19 ct19 : Value}
    {od20 an20 : Option Addr} {sl20 : Array (Option Value)} {oc20 kV20 dc20 pm20 cd20 ct20 : Value}
    {od21 an21 : Option Addr} {sl21 : Array (Option Value)} {oc21 kV21 dc21 pm21 cd21 ct21 : Value}
    {od22 an22 : Option Addr} {sl22 : Array (Option Value)} {oc22 kV22 dc22 pm22 cd22 ct22 : Value}
    {od23 an23 : Option Addr} {sl23 : Array (Option Value)} {oc23 kV23 dc23 pm23 cd23 ct23 : Value}
    {od24 an24 : Option Addr} {sl24 : Array (Option Value)} {oc24 kV24 dc24 pm24 cd24 ct24 : Value}
    {od25 an25 : Option Addr} {sl25 : Array (Option Value)} {oc25 kV25 dc25 pm25 cd25 ct25 : Value}
    {od26 an26 : Option Addr} {sl26 : Array (Option Value)} {oc26 kV26 dc26 pm26 cd26 ct26 : Value}
    {od27 an27 : Option Addr} {sl27 : Array (Option Value)} {oc27 kV27 dc27 pm27 cd27 ct27 : Value}
    {od28 an28 : Option Addr} {sl28 : Array (Option Value)} {oc28 kV28 dc28 pm28 cd28 ct28 : Value}
    {od29 an29 : Option Addr} {sl29 : Array (Option Value)} {oc29 kV29 dc29 pm29 cd29 ct29 : Value}
    {od30 an30 : Option Addr} {sl30 : Array (Option Value)} {oc30 kV30 dc30 pm30 cd30 ct30 : Value}
    {od31 an31 : Option Addr} {sl31 : Array (Option Value)} {oc31 kV31 dc31 pm31 cd31 ct31 : Value}
    {od32 an32 : Option Addr} {sl32 : Array (Option Value)} {oc32 kV32 dc32 pm32 cd32 ct32 : Value}
    {od33 an33 : Option Addr} {sl33 : Array (Option Value)} {oc33 kV33 dc33 pm33 cd33 ct33 : Value}
    {od34 an34 : Option Addr} {sl34 : Array (Option Value)} {oc34 kV34 dc34 pm34 cd34 ct34 : Value}
    {od35 an35 : Option Addr} {sl35 : Array (Option Value)} {oc35 kV35 dc35 pm35 cd35 ct35 : Value}
    {od36 an36 : Option Addr} {sl36 : Array (Option Value)} {oc36 kV36 dc36 pm36 cd36 ct36 : Value}
    {od37 an37 : Option Addr} {sl37 : Array (Option Value)} {oc37 kV37 dc37 pm37 cd37 ct37 : Value}
    {od38 an38 : Option Addr} {sl38 : Array (Option Value)} {oc38 kV38 dc38 pm38 cd38 ct38 : Value}
    {od39 an39 : Option Addr} {sl39 : Array (Option Value)} {oc39 kV39 dc39 pm39 cd39 ct39 : Value}
    {od40 an40 : Option Addr} {sl40 : Array (Option Value)} {oc40 kV40 dc40 pm40 cd40 ct40 : Value}
    {od41 an41 : Option Addr} {sl41 : Array (Option Value)} {oc41 kV41 dc41 pm41 cd41 ct41 : Value}
    {od42 an42 : Option Addr} {sl42 : Array (Option Value)} {oc42 kV42 dc42 pm42 cd42 ct42 : Value}
    {od43 an43 : Option Addr} {sl43 : Array (Option Value)} {oc43 kV43 dc43 pm43 cd43 ct43 : Value}
    {od44 an44 : Option Addr} {sl44 : Array (Option Value)} {oc44 kV44 dc44 pm44 cd44 ct44 : Value}
    {od45 an45 : Option Addr} {sl45 : Array (Option Value)} {oc45 kV45 dc45 pm45 cd45 ct45 : Value}
    {od46 an46 : Option Addr} {sl46 : Array (Option Value)} {oc46 kV46 dc46 pm46 cd46 ct46 : Value}
    {od47 an47 : Option Addr} {sl47 : Array (Option Value)} {oc47 kV47 dc47 pm47 cd47 ct47 : Value}
    {tk_FARTHEST : Tok}
    (ac_Plain : PySem.W.nsIn K mainGlobals "Plain" = some (some (.ref C_Plain)))
    (ac_Below : PySem.W.nsIn K mainGlobals "Below" = some (some (.ref C_Below)))
    (ac_Balanced : PySem.W.nsIn K mainGlobals "Balanced" = some (some (.ref C_Balanced)))
    (ac_Growing : PySem.W.nsIn K mainGlobals "Growing" = some (some (.ref C_Growing)))
    (ac_Falling : PySem.W.nsIn K mainGlobals "Falling" = some (some (.ref C_Falling)))
    (ac_Pairs : PySem.W.nsIn K mainGlobals "Pairs" = some (some (.ref C_Pairs)))
    (ac_Machine : PySem.W.nsIn K mainGlobals "Machine" = some (some (.ref C_Machine)))
    (p1_Plain : PySem.W.plainGet K C_Plain Str.empty = true)
    (p2_Plain : PySem.W.hasDictIn K C_Plain = true)
    (p3_Plain : PySem.W.plainOver K C_Plain = true)
    (p4_Plain : PySem.W.findIn K (.ref C_Plain) "__setattr__" = some (some (.builtin "object.__setattr__")))
    (na_Plain : PySem.W.findIn K (.ref C_Plain) "base" = some none)
    (p1_Below : PySem.W.plainGet K C_Below Str.empty = true)
    (p2_Below : PySem.W.hasDictIn K C_Below = true)
    (p3_Below : PySem.W.plainOver K C_Below = true)
    (p4_Below : PySem.W.findIn K (.ref C_Below) "__setattr__" = some (some (.builtin "object.__setattr__")))
    (na_Below : PySem.W.findIn K (.ref C_Below) "base" = some none)
    (p1_Balanced : PySem.W.plainGet K C_Balanced Str.empty = true)
    (p2_Balanced : PySem.W.hasDictIn K C_Balanced = true)
    (p3_Balanced : PySem.W.plainOver K C_Balanced = true)
    (p4_Balanced : PySem.W.findIn K (.ref C_Balanced) "__setattr__" = some (some (.builtin "object.__setattr__")))
    (na_Balanced : PySem.W.findIn K (.ref C_Balanced) "half" = some none)
    (p1_Growing : PySem.W.plainGet K C_Growing Str.empty = true)
    (p2_Growing : PySem.W.hasDictIn K C_Growing = true)
    (p3_Growing : PySem.W.plainOver K C_Growing = true)
    (p4_Growing : PySem.W.findIn K (.ref C_Growing) "__setattr__" = some (some (.builtin "object.__setattr__")))
    (na_Growing : PySem.W.findIn K (.ref C_Growing) "first" = some none)
    (p1_Falling : PySem.W.plainGet K C_Falling Str.empty = true)
    (p2_Falling : PySem.W.hasDictIn K C_Falling = true)
    (p3_Falling : PySem.W.plainOver K C_Falling = true)
    (p4_Falling : PySem.W.findIn K (.ref C_Falling) "__setattr__" = some (some (.builtin "object.__setattr__")))
    (na_Falling : PySem.W.findIn K (.ref C_Falling) "most" = some none)
    (p1_Pairs : PySem.W.plainGet K C_Pairs Str.empty = true)
    (p2_Pairs : PySem.W.hasDictIn K C_Pairs = true)
    (p3_Pairs : PySem.W.plainOver K C_Pairs = true)
    (p4_Pairs : PySem.W.findIn K (.ref C_Pairs) "__setattr__" = some (some (.builtin "object.__setattr__")))
    (na_Pairs : PySem.W.findIn K (.ref C_Pairs) "most" = some none)
    (p1_Machine : PySem.W.plainGet K C_Machine Str.empty = true)
    (p2_Machine : PySem.W.hasDictIn K C_Machine = true)
    (p3_Machine : PySem.W.plainOver K C_Machine = true)
    (p4_Machine : PySem.W.findIn K (.ref C_Machine) "__setattr__" = some (some (.builtin "object.__setattr__")))
    (na_Machine_way : PySem.W.findIn K (.ref C_Machine) "way" = some none)
    (na_Machine_least : PySem.W.findIn K (.ref C_Machine) "least" = some none)
    (na_Machine_greatest : PySem.W.findIn K (.ref C_Machine) "greatest" = some none)
    (na_Machine_known : PySem.W.findIn K (.ref C_Machine) "known" = some none)
    (na_Machine_table : PySem.W.findIn K (.ref C_Machine) "table" = some none)
    (fm_Machine_fill : PySem.W.findIn K (.ref C_Machine) "fill" = some (some (.ref f45)))
    (fn_Machine_fill : PySem.W.isFn K (.ref f45) = true)
    (fm_Machine_carries : PySem.W.findIn K (.ref C_Machine) "carries" = some (some (.ref f19)))
    (fn_Machine_carries : PySem.W.isFn K (.ref f19) = true)
    (fm_Machine_rows : PySem.W.findIn K (.ref C_Machine) "rows" = some (some (.ref f20)))
    (fn_Machine_rows : PySem.W.isFn K (.ref f20) = true)
    (cm_Plain : PySem.W.makesIn K C_Plain = true)
    (ci_Plain : PySem.W.findIn K (.ref C_Plain) "__init__" = some (some (.ref f34)))
    (cf_Plain : PySem.W.isFn K (.ref f34) = true)
    (ck_Plain : PySem.W.keepIn K (.ref C_Plain) = true)
    (cm_Below : PySem.W.makesIn K C_Below = true)
    (ci_Below : PySem.W.findIn K (.ref C_Below) "__init__" = some (some (.ref f35)))
    (cf_Below : PySem.W.isFn K (.ref f35) = true)
    (ck_Below : PySem.W.keepIn K (.ref C_Below) = true)
    (cm_Balanced : PySem.W.makesIn K C_Balanced = true)
    (ci_Balanced : PySem.W.findIn K (.ref C_Balanced) "__init__" = some (some (.ref f36)))
    (cf_Balanced : PySem.W.isFn K (.ref f36) = true)
    (ck_Balanced : PySem.W.keepIn K (.ref C_Balanced) = true)
    (cm_Growing : PySem.W.makesIn K C_Growing = true)
    (ci_Growing : PySem.W.findIn K (.ref C_Growing) "__init__" = some (some (.ref f37)))
    (cf_Growing : PySem.W.isFn K (.ref f37) = true)
    (ck_Growing : PySem.W.keepIn K (.ref C_Growing) = true)
    (cm_Falling : PySem.W.makesIn K C_Falling = true)
    (ci_Falling : PySem.W.findIn K (.ref C_Falling) "__init__" = some (some (.ref f38)))
    (cf_Falling : PySem.W.isFn K (.ref f38) = true)
    (ck_Falling : PySem.W.keepIn K (.ref C_Falling) = true)
    (cm_Pairs : PySem.W.makesIn K C_Pairs = true)
    (ci_Pairs : PySem.W.findIn K (.ref C_Pairs) "__init__" = some (some (.ref f39)))
    (cf_Pairs : PySem.W.isFn K (.ref f39) = true)
    (ck_Pairs : PySem.W.keepIn K (.ref C_Pairs) = true)
    (cm_Machine : PySem.W.makesIn K C_Machine = true)
    (ci_Machine : PySem.W.findIn K (.ref C_Machine) "__init__" = some (some (.ref f46)))
    (cf_Machine : PySem.W.isFn K (.ref f46) = true)
    (ck_Machine : PySem.W.keepIn K (.ref C_Machine) = true)
    (sp_ : PySem.W.specialIn K (.builtin "object.__class__") "__get__" = some (some (.builtin "getset_descriptor.__get__")))
    (tk_ : PySem.W.takesIn K (.builtin "object.__class__") = some true)
    (hc_Plain : PySem.W.findIn K (.ref C_Plain) "__class__" = some (some (.builtin "object.__class__")))
    (mo_Plain : PySem.W.mroIn K C_Plain (.type "object") = some true)
    (kt_Plain_Falling : PySem.W.subIn K (.ref C_Plain) (.ref C_Falling) = some false)
    (kt_Plain_Growing : PySem.W.subIn K (.ref C_Plain) (.ref C_Growing) = some false)
    (kt_Plain_Pairs : PySem.W.subIn K (.ref C_Plain) (.ref C_Pairs) = some false)
    (hc_Below : PySem.W.findIn K (.ref C_Below) "__class__" = some (some (.builtin "object.__class__")))
    (mo_Below : PySem.W.mroIn K C_Below (.type "object") = some true)
    (kt_Below_Falling : PySem.W.subIn K (.ref C_Below) (.ref C_Falling) = some false)
    (kt_Below_Growing : PySem.W.subIn K (.ref C_Below) (.ref C_Growing) = some false)
    (kt_Below_Pairs : PySem.W.subIn K (.ref C_Below) (.ref C_Pairs) = some false)
    (hc_Balanced : PySem.W.findIn K (.ref C_Balanced) "__class__" = some (some (.builtin "object.__class__")))
    (mo_Balanced : PySem.W.mroIn K C_Balanced (.type "object") = some true)
    (kt_Balanced_Falling : PySem.W.subIn K (.ref C_Balanced) (.ref C_Falling) = some false)
    (kt_Balanced_Growing : PySem.W.subIn K (.ref C_Balanced) (.ref C_Growing) = some false)
    (kt_Balanced_Pairs : PySem.W.subIn K (.ref C_Balanced) (.ref C_Pairs) = some false)
    (hc_Growing : PySem.W.findIn K (.ref C_Growing) "__class__" = some (some (.builtin "object.__class__")))
    (mo_Growing : PySem.W.mroIn K C_Growing (.type "object") = some true)
    (kt_Growing_Falling : PySem.W.subIn K (.ref C_Growing) (.ref C_Falling) = some false)
    (kt_Growing_Growing : PySem.W.subIn K (.ref C_Growing) (.ref C_Growing) = some true)
    (kt_Growing_Pairs : PySem.W.subIn K (.ref C_Growing) (.ref C_Pairs) = some false)
    (hc_Falling : PySem.W.findIn K (.ref C_Falling) "__class__" = some (some (.builtin "object.__class__")))
    (mo_Falling : PySem.W.mroIn K C_Falling (.type "object") = some true)
    (kt_Falling_Falling : PySem.W.subIn K (.ref C_Falling) (.ref C_Falling) = some true)
    (kt_Falling_Growing : PySem.W.subIn K (.ref C_Falling) (.ref C_Growing) = some false)
    (kt_Falling_Pairs : PySem.W.subIn K (.ref C_Falling) (.ref C_Pairs) = some false)
    (hc_Pairs : PySem.W.findIn K (.ref C_Pairs) "__class__" = some (some (.builtin "object.__class__")))
    (mo_Pairs : PySem.W.mroIn K C_Pairs (.type "object") = some true)
    (kt_Pairs_Falling : PySem.W.subIn K (.ref C_Pairs) (.ref C_Falling) = some false)
    (kt_Pairs_Growing : PySem.W.subIn K (.ref C_Pairs) (.ref C_Growing) = some false)
    (kt_Pairs_Pairs : PySem.W.subIn K (.ref C_Pairs) (.ref C_Pairs) = some true)
    (ci_w_Falling : PySem.W.isClsIn K C_Falling = true)
    (ct_w_Falling : PySem.W.typeIn K (.ref C_Falling) = some (.type "type"))
    (ci_w_Growing : PySem.W.isClsIn K C_Growing = true)
    (ct_w_Growing : PySem.W.typeIn K (.ref C_Growing) = some (.type "type"))
    (ci_w_Pairs : PySem.W.isClsIn K C_Pairs = true)
    (ct_w_Pairs : PySem.W.typeIn K (.ref C_Pairs) = some (.type "type"))
    (fm_Plain_low : PySem.W.findIn K (.ref C_Plain) "low" = some (some (.ref f2)))
    (fn_Plain_low : PySem.W.isFn K (.ref f2) = true)
    (fm_Below_low : PySem.W.findIn K (.ref C_Below) "low" = some (some (.ref f2)))
    (fn_Below_low : PySem.W.isFn K (.ref f2) = true)
    (fm_Balanced_low : PySem.W.findIn K (.ref C_Balanced) "low" = some (some (.ref f3)))
    (fn_Balanced_low : PySem.W.isFn K (.ref f3) = true)
    (fm_Growing_low : PySem.W.findIn K (.ref C_Growing) "low" = some (some (.ref f2)))
    (fn_Growing_low : PySem.W.isFn K (.ref f2) = true)
    (fm_Falling_low : PySem.W.findIn K (.ref C_Falling) "low" = some (some (.ref f2)))
    (fn_Falling_low : PySem.W.isFn K (.ref f2) = true)
    (fm_Pairs_low : PySem.W.findIn K (.ref C_Pairs) "low" = some (some (.ref f2)))
    (fn_Pairs_low : PySem.W.isFn K (.ref f2) = true)
    (fm_Plain_ratio : PySem.W.findIn K (.ref C_Plain) "ratio" = some (some (.ref f11)))
    (fn_Plain_ratio : PySem.W.isFn K (.ref f11) = true)
    (fm_Below_ratio : PySem.W.findIn K (.ref C_Below) "ratio" = some (some (.ref f12)))
    (fn_Below_ratio : PySem.W.isFn K (.ref f12) = true)
    (fm_Balanced_ratio : PySem.W.findIn K (.ref C_Balanced) "ratio" = some (some (.ref f13)))
    (fn_Balanced_ratio : PySem.W.isFn K (.ref f13) = true)
    (fm_Growing_ratio : PySem.W.findIn K (.ref C_Growing) "ratio" = some (some (.ref f14)))
    (fn_Growing_ratio : PySem.W.isFn K (.ref f14) = true)
    (fm_Falling_ratio : PySem.W.findIn K (.ref C_Falling) "ratio" = some (some (.ref f10)))
    (fn_Falling_ratio : PySem.W.isFn K (.ref f10) = true)
    (fm_Pairs_ratio : PySem.W.findIn K (.ref C_Pairs) "ratio" = some (some (.ref f15)))
    (fn_Pairs_ratio : PySem.W.isFn K (.ref f15) = true)
    (fm_Plain_high : PySem.W.findIn K (.ref C_Plain) "high" = some (some (.ref f4)))
    (fn_Plain_high : PySem.W.isFn K (.ref f4) = true)
    (fm_Below_high : PySem.W.findIn K (.ref C_Below) "high" = some (some (.ref f5)))
    (fn_Below_high : PySem.W.isFn K (.ref f5) = true)
    (fm_Balanced_high : PySem.W.findIn K (.ref C_Balanced) "high" = some (some (.ref f6)))
    (fn_Balanced_high : PySem.W.isFn K (.ref f6) = true)
    (fm_Growing_high : PySem.W.findIn K (.ref C_Growing) "high" = some (some (.ref f7)))
    (fn_Growing_high : PySem.W.isFn K (.ref f7) = true)
    (fm_Falling_high : PySem.W.findIn K (.ref C_Falling) "high" = some (some (.ref f8)))
    (fn_Falling_high : PySem.W.isFn K (.ref f8) = true)
    (fm_Pairs_high : PySem.W.findIn K (.ref C_Pairs) "high" = some (some (.ref f9)))
    (fn_Pairs_high : PySem.W.isFn K (.ref f9) = true)
    (fm_Plain_split : PySem.W.findIn K (.ref C_Plain) "split" = some (some (.ref f30)))
    (fn_Plain_split : PySem.W.isFn K (.ref f30) = true)
    (fm_Below_split : PySem.W.findIn K (.ref C_Below) "split" = some (some (.ref f30)))
    (fn_Below_split : PySem.W.isFn K (.ref f30) = true)
    (fm_Balanced_split : PySem.W.findIn K (.ref C_Balanced) "split" = some (some (.ref f30)))
    (fn_Balanced_split : PySem.W.isFn K (.ref f30) = true)
    (fm_Growing_split : PySem.W.findIn K (.ref C_Growing) "split" = some (some (.ref f30)))
    (fn_Growing_split : PySem.W.isFn K (.ref f30) = true)
    (fm_Falling_split : PySem.W.findIn K (.ref C_Falling) "split" = some (some (.ref f16)))
    (fn_Falling_split : PySem.W.isFn K (.ref f16) = true)
    (fm_Pairs_split : PySem.W.findIn K (.ref C_Pairs) "split" = some (some (.ref f43)))
    (fn_Pairs_split : PySem.W.isFn K (.ref f43) = true)
    (ae_NoRatio : PySem.W.nsIn K mainGlobals "NoRatio" = some (some (.ref X_NoRatio)))
    (ae_NoSpan : PySem.W.nsIn K mainGlobals "NoSpan" = some (some (.ref X_NoSpan)))
    (ae_NoWay : PySem.W.nsIn K mainGlobals "NoWay" = some (some (.ref X_NoWay)))
    (eq_NoRatio : PySem.W.excIn K X_NoRatio [.type "ValueError", .type "Exception", .type "BaseException", .type "object"] "ValueError.__new__" = true)
    (ek_NoRatio : PySem.W.keepIn K (.ref X_NoRatio) = true)
    (eb_NoRatio : PySem.W.subIn K (.ref X_NoRatio) (.type "BaseException") = some true)
    (et_NoRatio : PySem.W.typeIn K (.ref X_NoRatio) = some (.type "type"))
    (eq_NoSpan : PySem.W.excIn K X_NoSpan [.type "ValueError", .type "Exception", .type "BaseException", .type "object"] "ValueError.__new__" = true)
    (ek_NoSpan : PySem.W.keepIn K (.ref X_NoSpan) = true)
    (eb_NoSpan : PySem.W.subIn K (.ref X_NoSpan) (.type "BaseException") = some true)
    (et_NoSpan : PySem.W.typeIn K (.ref X_NoSpan) = some (.type "type"))
    (eq_NoWay : PySem.W.excIn K X_NoWay [.type "ValueError", .type "Exception", .type "BaseException", .type "object"] "ValueError.__new__" = true)
    (ek_NoWay : PySem.W.keepIn K (.ref X_NoWay) = true)
    (eb_NoWay : PySem.W.subIn K (.ref X_NoWay) (.type "BaseException") = some true)
    (et_NoWay : PySem.W.typeIn K (.ref X_NoWay) = some (.type "type"))
    (a0 : PySem.W.nsIn K mainGlobals "is_pair" = some (some (.ref f0)))
    (l0 : K.lookup f0 = some ⟨oc0, od0, .func (PySem.W.fnOf "is_pair" "is_pair" (defArgs st_is_pair) (defBody st_is_pair) (defScope st_is_pair) .none kV0 dc0 pm0 an0 cd0 ct0), sl0⟩)
    (c0 : PySem.W.codeIn K cd0 "is_pair" = true)
    (k0 : PySem.W.keepIn K (.ref f0) = true)
    (a1 : PySem.W.nsIn K mainGlobals "look_at" = some (some (.ref f1)))
    (l1 : K.lookup f1 = some ⟨oc1, od1, .func (PySem.W.fnOf "look_at" "look_at" (defArgs st_look_at) (defBody st_look_at) (defScope st_look_at) .none kV1 dc1 pm1 an1 cd1 ct1), sl1⟩)
    (c1 : PySem.W.codeIn K cd1 "look_at" = true)
    (k1 : PySem.W.keepIn K (.ref f1) = true)
    (l2 : K.lookup f2 = some ⟨oc2, od2, .func (PySem.W.fnOf "low" "Way.low" (defArgs st_Way_low) (defBody st_Way_low) (defScope st_Way_low) .none kV2 dc2 pm2 an2 cd2 ct2), sl2⟩)
    (c2 : PySem.W.codeIn K cd2 "Way.low" = true)
    (k2 : PySem.W.keepIn K (.ref f2) = true)
    (l3 : K.lookup f3 = some ⟨oc3, od3, .func (PySem.W.fnOf "low" "Balanced.low" (defArgs st_Balanced_low) (defBody st_Balanced_low) (defScope st_Balanced_low) .none kV3 dc3 pm3 an3 cd3 ct3), sl3⟩)
    (c3 : PySem.W.codeIn K cd3 "Balanced.low" = true)
    (k3 : PySem.W.keepIn K (.ref f3) = true)
    (l4 : K.lookup f4 = some ⟨oc4, od4, .func (PySem.W.fnOf "high" "Plain.high" (defArgs st_Plain_high) (defBody st_Plain_high) (defScope st_Plain_high) .none kV4 dc4 pm4 an4 cd4 ct4), sl4⟩)
    (c4 : PySem.W.codeIn K cd4 "Plain.high" = true)
    (k4 : PySem.W.keepIn K (.ref f4) = true)
    (l5 : K.lookup f5 = some ⟨oc5, od5, .func (PySem.W.fnOf "high" "Below.high" (defArgs st_Below_high) (defBody st_Below_high) (defScope st_Below_high) .none kV5 dc5 pm5 an5 cd5 ct5), sl5⟩)
    (c5 : PySem.W.codeIn K cd5 "Below.high" = true)
    (k5 : PySem.W.keepIn K (.ref f5) = true)
    (l6 : K.lookup f6 = some ⟨oc6, od6, .func (PySem.W.fnOf "high" "Balanced.high" (defArgs st_Balanced_high) (defBody st_Balanced_high) (defScope st_Balanced_high) .none kV6 dc6 pm6 an6 cd6 ct6), sl6⟩)
    (c6 : PySem.W.codeIn K cd6 "Balanced.high" = true)
    (k6 : PySem.W.keepIn K (.ref f6) = true)
    (l7 : K.lookup f7 = some ⟨oc7, od7, .func (PySem.W.fnOf "high" "Growing.high" (defArgs st_Growing_high) (defBody st_Growing_high) (defScope st_Growing_high) .none kV7 dc7 pm7 an7 cd7 ct7), sl7⟩)
    (c7 : PySem.W.codeIn K cd7 "Growing.high" = true)
    (k7 : PySem.W.keepIn K (.ref f7) = true)
    (l8 : K.lookup f8 = some ⟨oc8, od8, .func (PySem.W.fnOf "high" "Falling.high" (defArgs st_Falling_high) (defBody st_Falling_high) (defScope st_Falling_high) .none kV8 dc8 pm8 an8 cd8 ct8), sl8⟩)
    (c8 : PySem.W.codeIn K cd8 "Falling.high" = true)
    (k8 : PySem.W.keepIn K (.ref f8) = true)
    (l9 : K.lookup f9 = some ⟨oc9, od9, .func (PySem.W.fnOf "high" "Pairs.high" (defArgs st_Pairs_high) (defBody st_Pairs_high) (defScope st_Pairs_high) .none kV9 dc9 pm9 an9 cd9 ct9), sl9⟩)
    (c9 : PySem.W.codeIn K cd9 "Pairs.high" = true)
    (k9 : PySem.W.keepIn K (.ref f9) = true)
    (l10 : K.lookup f10 = some ⟨oc10, od10, .func (PySem.W.fnOf "ratio" "Way.ratio" (defArgs st_Way_ratio) (defBody st_Way_ratio) (defScope st_Way_ratio) .none kV10 dc10 pm10 an10 cd10 ct10), sl10⟩)
    (c10 : PySem.W.codeIn K cd10 "Way.ratio" = true)
    (k10 : PySem.W.keepIn K (.ref f10) = true)
    (l11 : K.lookup f11 = some ⟨oc11, od11, .func (PySem.W.fnOf "ratio" "Plain.ratio" (defArgs st_Plain_ratio) (defBody st_Plain_ratio) (defScope st_Plain_ratio) .none kV11 dc11 pm11 an11 cd11 ct11), sl11⟩)
    (c11 : PySem.W.codeIn K cd11 "Plain.ratio" = true)
    (k11 : PySem.W.keepIn K (.ref f11) = true)
    (l12 : K.lookup f12 = some ⟨oc12, od12, .func (PySem.W.fnOf "ratio" "Below.ratio" (defArgs st_Below_ratio) (defBody st_Below_ratio) (defScope st_Below_ratio) .none kV12 dc12 pm12 an12 cd12 ct12), sl12⟩)
    (c12 : PySem.W.codeIn K cd12 "Below.ratio" = true)
    (k12 : PySem.W.keepIn K (.ref f12) = true)
    (l13 : K.lookup f13 = some ⟨oc13, od13, .func (PySem.W.fnOf "ratio" "Balanced.ratio" (defArgs st_Balanced_ratio) (defBody st_Balanced_ratio) (defScope st_Balanced_ratio) .none kV13 dc13 pm13 an13 cd13 ct13), sl13⟩)
    (c13 : PySem.W.codeIn K cd13 "Balanced.ratio" = true)
    (k13 : PySem.W.keepIn K (.ref f13) = true)
    (l14 : K.lookup f14 = some ⟨oc14, od14, .func (PySem.W.fnOf "ratio" "Growing.ratio" (defArgs st_Growing_ratio) (defBody st_Growing_ratio) (defScope st_Growing_ratio) .none kV14 dc14 pm14 an14 cd14 ct14), sl14⟩)
    (c14 : PySem.W.codeIn K cd14 "Growing.ratio" = true)
    (k14 : PySem.W.keepIn K (.ref f14) = true)
    (l15 : K.lookup f15 = some ⟨oc15, od15, .func (PySem.W.fnOf "ratio" "Pairs.ratio" (defArgs st_Pairs_ratio) (defBody st_Pairs_ratio) (defScope st_Pairs_ratio) .none kV15 dc15 pm15 an15 cd15 ct15), sl15⟩)
    (c15 : PySem.W.codeIn K cd15 "Pairs.ratio" = true)
    (k15 : PySem.W.keepIn K (.ref f15) = true)
    (l16 : K.lookup f16 = some ⟨oc16, od16, .func (PySem.W.fnOf "split" "Falling.split" (defArgs st_Falling_split) (defBody st_Falling_split) (defScope st_Falling_split) .none kV16 dc16 pm16 an16 cd16 ct16), sl16⟩)
    (c16 : PySem.W.codeIn K cd16 "Falling.split" = true)
    (k16 : PySem.W.keepIn K (.ref f16) = true)
    (a17 : PySem.W.nsIn K mainGlobals "nought" = some (some (.ref f17)))
    (l17 : K.lookup f17 = some ⟨oc17, od17, .func (PySem.W.fnOf "nought" "nought" (defArgs st_nought) (defBody st_nought) (defScope st_nought) .none kV17 dc17 pm17 an17 cd17 ct17), sl17⟩)
    (c17 : PySem.W.codeIn K cd17 "nought" = true)
    (k17 : PySem.W.keepIn K (.ref f17) = true)
    (a18 : PySem.W.nsIn K mainGlobals "look_at_way" = some (some (.ref f18)))
    (l18 : K.lookup f18 = some ⟨oc18, od18, .func (PySem.W.fnOf "look_at_way" "look_at_way" (defArgs st_look_at_way) (defBody st_look_at_way) (defScope st_look_at_way) .none kV18 dc18 pm18 an18 cd18 ct18), sl18⟩)
    (c18 : PySem.W.codeIn K cd18 "look_at_way" = true)
    (k18 : PySem.W.keepIn K (.ref f18) = true)
    (l19 : K.lookup f19 = some ⟨oc19, od19, .func (PySem.W.fnOf "carries" "Machine.carries" (defArgs st_Machine_carries) (defBody st_Machine_carries) (defScope st_Machine_carries) .none kV19 dc19 pm19 an19 cd19 ct19), sl19⟩)
    (c19 : PySem.W.codeIn K cd19 "Machine.carries" = true)
    (k19 : PySem.W.keepIn K (.ref f19) = true)
    (l20 : K.lookup f20 = some ⟨oc20, od20, .func (PySem.W.fnOf "rows" "Machine.rows" (defArgs st_Machine_rows) (defBody st_Machine_rows) (defScope st_Machine_rows) .none kV20 dc20 pm20 an20 cd20 ct20), sl20⟩)
    (c20 : PySem.W.codeIn K cd20 "Machine.rows" = true)
    (k20 : PySem.W.keepIn K (.ref f20) = true)
    (a21 : PySem.W.nsIn K mainGlobals "_law_cell_at" = some (some (.ref f21)))
    (l21 : K.lookup f21 = some ⟨oc21, od21, .func (PySem.W.fnOf "_law_cell_at" "_law_cell_at" (defArgs st__law_cell_at) (defBody st__law_cell_at) (defScope st__law_cell_at) .none kV21 dc21 pm21 an21 cd21 ct21), sl21⟩)
    (c21 : PySem.W.codeIn K cd21 "_law_cell_at" = true)
    (k21 : PySem.W.keepIn K (.ref f21) = true)
    (a22 : PySem.W.nsIn K mainGlobals "_law_added" = some (some (.ref f22)))
    (l22 : K.lookup f22 = some ⟨oc22, od22, .func (PySem.W.fnOf "_law_added" "_law_added" (defArgs st__law_added) (defBody st__law_added) (defScope st__law_added) .none kV22 dc22 pm22 an22 cd22 ct22), sl22⟩)
    (c22 : PySem.W.codeIn K cd22 "_law_added" = true)
    (k22 : PySem.W.keepIn K (.ref f22) = true)
    (a23 : PySem.W.nsIn K mainGlobals "_law_times" = some (some (.ref f23)))
    (l23 : K.lookup f23 = some ⟨oc23, od23, .func (PySem.W.fnOf "_law_times" "_law_times" (defArgs st__law_times) (defBody st__law_times) (defScope st__law_times) .none kV23 dc23 pm23 an23 cd23 ct23), sl23⟩)
    (c23 : PySem.W.codeIn K cd23 "_law_times" = true)
    (k23 : PySem.W.keepIn K (.ref f23) = true)
    (a24 : PySem.W.nsIn K mainGlobals "_law_is_figure" = some (some (.ref f24)))
    (l24 : K.lookup f24 = some ⟨oc24, od24, .func (PySem.W.fnOf "_law_is_figure" "_law_is_figure" (defArgs st__law_is_figure) (defBody st__law_is_figure) (defScope st__law_is_figure) .none kV24 dc24 pm24 an24 cd24 ct24), sl24⟩)
    (c24 : PySem.W.codeIn K cd24 "_law_is_figure" = true)
    (k24 : PySem.W.keepIn K (.ref f24) = true)
    (a25 : PySem.W.nsIn K mainGlobals "_law_nought" = some (some (.ref f25)))
    (l25 : K.lookup f25 = some ⟨oc25, od25, .func (PySem.W.fnOf "_law_nought" "_law_nought" (defArgs st__law_nought) (defBody st__law_nought) (defScope st__law_nought) .none kV25 dc25 pm25 an25 cd25 ct25), sl25⟩)
    (c25 : PySem.W.codeIn K cd25 "_law_nought" = true)
    (k25 : PySem.W.keepIn K (.ref f25) = true)
    (a26 : PySem.W.nsIn K mainGlobals "_law_is_number" = some (some (.ref f26)))
    (l26 : K.lookup f26 = some ⟨oc26, od26, .func (PySem.W.fnOf "_law_is_number" "_law_is_number" (defArgs st__law_is_number) (defBody st__law_is_number) (defScope st__law_is_number) .none kV26 dc26 pm26 an26 cd26 ct26), sl26⟩)
    (c26 : PySem.W.codeIn K cd26 "_law_is_number" = true)
    (k26 : PySem.W.keepIn K (.ref f26) = true)
    (a27 : PySem.W.nsIn K mainGlobals "_law_chosen" = some (some (.ref f27)))
    (l27 : K.lookup f27 = some ⟨oc27, od27, .func (PySem.W.fnOf "_law_chosen" "_law_chosen" (defArgs st__law_chosen) (defBody st__law_chosen) (defScope st__law_chosen) .none kV27 dc27 pm27 an27 cd27 ct27), sl27⟩)
    (c27 : PySem.W.codeIn K cd27 "_law_chosen" = true)
    (k27 : PySem.W.keepIn K (.ref f27) = true)
    (a28 : PySem.W.nsIn K mainGlobals "_law_span" = some (some (.ref f28)))
    (l28 : K.lookup f28 = some ⟨oc28, od28, .func (PySem.W.fnOf "_law_span" "_law_span" (defArgs st__law_span) (defBody st__law_span) (defScope st__law_span) .none kV28 dc28 pm28 an28 cd28 ct28), sl28⟩)
    (c28 : PySem.W.codeIn K cd28 "_law_span" = true)
    (k28 : PySem.W.keepIn K (.ref f28) = true)
    (a29 : PySem.W.nsIn K mainGlobals "as_pair" = some (some (.ref f29)))
    (l29 : K.lookup f29 = some ⟨oc29, od29, .func (PySem.W.fnOf "as_pair" "as_pair" (defArgs st_as_pair) (defBody st_as_pair) (defScope st_as_pair) .none kV29 dc29 pm29 an29 cd29 ct29), sl29⟩)
    (c29 : PySem.W.codeIn K cd29 "as_pair" = true)
    (k29 : PySem.W.keepIn K (.ref f29) = true)
    (l30 : K.lookup f30 = some ⟨oc30, od30, .func (PySem.W.fnOf "split" "Way.split" (defArgs st_Way_split) (defBody st_Way_split) (defScope st_Way_split) .none kV30 dc30 pm30 an30 cd30 ct30), sl30⟩)
    (c30 : PySem.W.codeIn K cd30 "Way.split" = true)
    (k30 : PySem.W.keepIn K (.ref f30) = true)
    (a31 : PySem.W.nsIn K mainGlobals "look_at_span" = some (some (.ref f31)))
    (l31 : K.lookup f31 = some ⟨oc31, od31, .func (PySem.W.fnOf "look_at_span" "look_at_span" (defArgs st_look_at_span) (defBody st_look_at_span) (defScope st_look_at_span) .none kV31 dc31 pm31 an31 cd31 ct31), sl31⟩)
    (c31 : PySem.W.codeIn K cd31 "look_at_span" = true)
    (k31 : PySem.W.keepIn K (.ref f31) = true)
    (a32 : PySem.W.nsIn K mainGlobals "_law_row" = some (some (.ref f32)))
    (l32 : K.lookup f32 = some ⟨oc32, od32, .func (PySem.W.fnOf "_law_row" "_law_row" (defArgs st__law_row) (defBody st__law_row) (defScope st__law_row) .none kV32 dc32 pm32 an32 cd32 ct32), sl32⟩)
    (c32 : PySem.W.codeIn K cd32 "_law_row" = true)
    (k32 : PySem.W.keepIn K (.ref f32) = true)
    (a33 : PySem.W.nsIn K mainGlobals "_law_found" = some (some (.ref f33)))
    (l33 : K.lookup f33 = some ⟨oc33, od33, .func (PySem.W.fnOf "_law_found" "_law_found" (defArgs st__law_found) (defBody st__law_found) (defScope st__law_found) .none kV33 dc33 pm33 an33 cd33 ct33), sl33⟩)
    (c33 : PySem.W.codeIn K cd33 "_law_found" = true)
    (k33 : PySem.W.keepIn K (.ref f33) = true)
    (l34 : K.lookup f34 = some ⟨oc34, od34, .func (PySem.W.fnOf "__init__" "Plain.__init__" (defArgs st_Plain___init__) (defBody st_Plain___init__) (defScope st_Plain___init__) .none kV34 dc34 pm34 an34 cd34 ct34), sl34⟩)
    (c34 : PySem.W.codeIn K cd34 "Plain.__init__" = true)
    (k34 : PySem.W.keepIn K (.ref f34) = true)
    (l35 : K.lookup f35 = some ⟨oc35, od35, .func (PySem.W.fnOf "__init__" "Below.__init__" (defArgs st_Below___init__) (defBody st_Below___init__) (defScope st_Below___init__) .none kV35 dc35 pm35 an35 cd35 ct35), sl35⟩)
    (c35 : PySem.W.codeIn K cd35 "Below.__init__" = true)
    (k35 : PySem.W.keepIn K (.ref f35) = true)
    (l36 : K.lookup f36 = some ⟨oc36, od36, .func (PySem.W.fnOf "__init__" "Balanced.__init__" (defArgs st_Balanced___init__) (defBody st_Balanced___init__) (defScope st_Balanced___init__) .none kV36 dc36 pm36 an36 cd36 ct36), sl36⟩)
    (c36 : PySem.W.codeIn K cd36 "Balanced.__init__" = true)
    (k36 : PySem.W.keepIn K (.ref f36) = true)
    (l37 : K.lookup f37 = some ⟨oc37, od37, .func (PySem.W.fnOf "__init__" "Growing.__init__" (defArgs st_Growing___init__) (defBody st_Growing___init__) (defScope st_Growing___init__) .none kV37 dc37 pm37 an37 cd37 ct37), sl37⟩)
    (c37 : PySem.W.codeIn K cd37 "Growing.__init__" = true)
    (k37 : PySem.W.keepIn K (.ref f37) = true)
    (l38 : K.lookup f38 = some ⟨oc38, od38, .func (PySem.W.fnOf "__init__" "Falling.__init__" (defArgs st_Falling___init__) (defBody st_Falling___init__) (defScope st_Falling___init__) .none kV38 dc38 pm38 an38 cd38 ct38), sl38⟩)
    (c38 : PySem.W.codeIn K cd38 "Falling.__init__" = true)
    (k38 : PySem.W.keepIn K (.ref f38) = true)
    (l39 : K.lookup f39 = some ⟨oc39, od39, .func (PySem.W.fnOf "__init__" "Pairs.__init__" (defArgs st_Pairs___init__) (defBody st_Pairs___init__) (defScope st_Pairs___init__) .none kV39 dc39 pm39 an39 cd39 ct39), sl39⟩)
    (c39 : PySem.W.codeIn K cd39 "Pairs.__init__" = true)
    (k39 : PySem.W.keepIn K (.ref f39) = true)
    (a40 : PySem.W.nsIn K mainGlobals "added" = some (some (.ref f40)))
    (l40 : K.lookup f40 = some ⟨oc40, od40, .func (PySem.W.fnOf "added" "added" (defArgs st_added) (defBody st_added) (defScope st_added) .none kV40 dc40 pm40 an40 cd40 ct40), sl40⟩)
    (c40 : PySem.W.codeIn K cd40 "added" = true)
    (k40 : PySem.W.keepIn K (.ref f40) = true)
    (a41 : PySem.W.nsIn K mainGlobals "multiplied" = some (some (.ref f41)))
    (l41 : K.lookup f41 = some ⟨oc41, od41, .func (PySem.W.fnOf "multiplied" "multiplied" (defArgs st_multiplied) (defBody st_multiplied) (defScope st_multiplied) .none kV41 dc41 pm41 an41 cd41 ct41), sl41⟩)
    (c41 : PySem.W.codeIn K cd41 "multiplied" = true)
    (k41 : PySem.W.keepIn K (.ref f41) = true)
    (a42 : PySem.W.nsIn K mainGlobals "_law_walked" = some (some (.ref f42)))
    (l42 : K.lookup f42 = some ⟨oc42, od42, .func (PySem.W.fnOf "_law_walked" "_law_walked" (defArgs st__law_walked) (defBody st__law_walked) (defScope st__law_walked) .none kV42 dc42 pm42 an42 cd42 ct42), sl42⟩)
    (c42 : PySem.W.codeIn K cd42 "_law_walked" = true)
    (k42 : PySem.W.keepIn K (.ref f42) = true)
    (l43 : K.lookup f43 = some ⟨oc43, od43, .func (PySem.W.fnOf "split" "Pairs.split" (defArgs st_Pairs_split) (defBody st_Pairs_split) (defScope st_Pairs_split) .none kV43 dc43 pm43 an43 cd43 ct43), sl43⟩)
    (c43 : PySem.W.codeIn K cd43 "Pairs.split" = true)
    (k43 : PySem.W.keepIn K (.ref f43) = true)
    (a44 : PySem.W.nsIn K mainGlobals "_law_way" = some (some (.ref f44)))
    (l44 : K.lookup f44 = some ⟨oc44, od44, .func (PySem.W.fnOf "_law_way" "_law_way" (defArgs st__law_way) (defBody st__law_way) (defScope st__law_way) .none kV44 dc44 pm44 an44 cd44 ct44), sl44⟩)
    (c44 : PySem.W.codeIn K cd44 "_law_way" = true)
    (k44 : PySem.W.keepIn K (.ref f44) = true)
    (l45 : K.lookup f45 = some ⟨oc45, od45, .func (PySem.W.fnOf "fill" "Machine.fill" (defArgs st_Machine_fill) (defBody st_Machine_fill) (defScope st_Machine_fill) .none kV45 dc45 pm45 an45 cd45 ct45), sl45⟩)
    (c45 : PySem.W.codeIn K cd45 "Machine.fill" = true)
    (k45 : PySem.W.keepIn K (.ref f45) = true)
    (l46 : K.lookup f46 = some ⟨oc46, od46, .func (PySem.W.fnOf "__init__" "Machine.__init__" (defArgs st_Machine___init__) (defBody st_Machine___init__) (defScope st_Machine___init__) .none kV46 dc46 pm46 an46 cd46 ct46), sl46⟩)
    (c46 : PySem.W.codeIn K cd46 "Machine.__init__" = true)
    (k46 : PySem.W.keepIn K (.ref f46) = true)
    (a47 : PySem.W.nsIn K mainGlobals "law" = some (some (.ref f47)))
    (l47 : K.lookup f47 = some ⟨oc47, od47, .func (PySem.W.fnOf "law" "law" (defArgs st_law) (defBody st_law) (defScope st_law) .none kV47 dc47 pm47 an47 cd47 ct47), sl47⟩)
    (c47 : PySem.W.codeIn K cd47 "law" = true)
    (k47 : PySem.W.keepIn K (.ref f47) = true)
    (cg_FARTHEST : PySem.W.nsIn K mainGlobals "FARTHEST" = some (some (.int 60 tk_FARTHEST)))
    (z_abs : PySem.W.nsIn K mainGlobals "abs" = some none)
    (z_bool : PySem.W.nsIn K mainGlobals "bool" = some none)
    (z_int : PySem.W.nsIn K mainGlobals "int" = some none)
    (z_isinstance : PySem.W.nsIn K mainGlobals "isinstance" = some none)
    (z_len : PySem.W.nsIn K mainGlobals "len" = some none)
    (z_list : PySem.W.nsIn K mainGlobals "list" = some none)
    (z_min : PySem.W.nsIn K mainGlobals "min" = some none)
    (z_range : PySem.W.nsIn K mainGlobals "range" = some none)
    (z_tuple : PySem.W.nsIn K mainGlobals "tuple" = some none)
    , ∃ fd : FuncData, (∀ (s : Shared) (v : Value), BindsTo s fd ⟨[v], []⟩ [("_law_script", v)]) ∧ ∀ base : Heap, K.In base → base.Ns mainGlobals mg → FnOk PySem.Challenge.pw_oddbases_k46_machine_rows w K mg base (L2.CX PySem.Challenge.pw_oddbases_k46_machine_rows w) 8 fa fd ["_law_script"] (spLaw K 63)
def M_is_pair : MD := fun ds P => ∃ a : Num, ds = [a.d] ∧ P (.ret (.bl a.isP))
theorem ok_is_pair {Γ : Gm} {k : Nat} (T : Tx Γ) {f : Addr} {fd : FuncData} (F : Fun Γ.K "is_pair" "is_pair" st_is_pair f fd) : FnOk Γ.P Γ.w Γ.K Γ.mg Γ.base (L2.CX Γ.P Γ.w) (k + 1) f fd ["thing"] (spD Γ.nm M_is_pair) := by
  refine fnD F sc_is_pair (fun ds P h => ?_) (fun cdv A outer s H E G0 ds P jx hr ps h => ?_)
  · first | (obtain ⟨rfl, _⟩ := h; rfl) | (obtain ⟨_, rfl, _⟩ := h; rfl) | (obtain ⟨_, _, rfl, _⟩ := h; rfl) | (obtain ⟨_, _, _, rfl, _⟩ := h; rfl) | (obtain ⟨_, _, _, _, rfl, _⟩ := h; rfl) | (obtain ⟨_, _, _, _, _, rfl, _⟩ := h; rfl) | (obtain ⟨_, _, _, _, _, _, rfl, _⟩ := h; rfl) | (obtain ⟨_, _, _, _, _, _, _, rfl, _⟩ := h; rfl) | (obtain ⟨_, _, _, _, _, _, _, _, rfl, _⟩ := h; rfl) | (obtain ⟨_, _, _, _, _, _, _, _, _, rfl, _⟩ := h; rfl)
  have nd : N_is_pair.Nodup := sc_is_pair.nd
  refine ⟨_, (jss_one (js_ret (je_isi Γ (.ty .tup) rfl T.m_isinstance (jv 0) (pn_ty rfl T.m_tuple (by decide +kernel))))), ?_⟩
  obtain ⟨a, rfl, p⟩ := h
  cases a <;> (walk_at "g"; exact p)
def M_as_pair : MD := fun ds P => ∃ a : Num, ds = [a.d] ∧ P (.ret (.tup [.int a.x, .int a.y]))
theorem ok_as_pair {Γ : Gm} {k : Nat} (T : Tx Γ) {f : Addr} {fd : FuncData} (F : Fun Γ.K "as_pair" "as_pair" st_as_pair f fd) (c_is_pair : Cal Γ k "is_pair" 1 M_is_pair) : FnOk Γ.P Γ.w Γ.K Γ.mg Γ.base (L2.CX Γ.P Γ.w) (k + 1) f fd ["thing"] (spD Γ.nm M_as_pair) := by
  refine fnD F sc_as_pair (fun ds P h => ?_) (fun cdv A outer s H E G0 ds P jx hr ps h => ?_)
  · first | (obtain ⟨rfl, _⟩ := h; rfl) | (obtain ⟨_, rfl, _⟩ := h; rfl) | (obtain ⟨_, _, rfl, _⟩ := h; rfl) | (obtain ⟨_, _, _, rfl, _⟩ := h; rfl) | (obtain ⟨_, _, _, _, rfl, _⟩ := h; rfl) | (obtain ⟨_, _, _, _, _, rfl, _⟩ := h; rfl) | (obtain ⟨_, _, _, _, _, _, rfl, _⟩ := h; rfl) | (obtain ⟨_, _, _, _, _, _, _, rfl, _⟩ := h; rfl) | (obtain ⟨_, _, _, _, _, _, _, _, rfl, _⟩ := h; rfl) | (obtain ⟨_, _, _, _, _, _, _, _, _, rfl, _⟩ := h; rfl)
  have nd : N_as_pair.Nodup := sc_as_pair.nd
  refine ⟨_, (jss_cons (js_if (jt_val (je_call jx c_is_pair hr rfl (ja_cons (jv 0) ja_nil))) (jss_one (js_retv 0 (pv 0))) jss_nil) (jss_one (js_ret (je_tup (ja_cons (jv 0) (ja_cons je_int ja_nil)))))), ?_⟩
  obtain ⟨a, rfl, p⟩ := h
  cases a with
  | i n =>
    walk_at "g"
    refine ⟨.i n, rfl, ?_⟩
    walk_at "g"
    exact p
  | p x y => 
    walk_at "g"
    refine ⟨.p x y, rfl, ?_⟩
    walk_at "g"
    exact p
def M_added : MD := fun ds P => ∃ a b : Num, ds = [a.d, b.d] ∧ P (.ret (a.add b).d)
theorem ok_added {Γ : Gm} {k : Nat} (T : Tx Γ) {f : Addr} {fd : FuncData} (F : Fun Γ.K "added" "added" st_added f fd) (c_is_pair : Cal Γ k "is_pair" 1 M_is_pair) (c_as_pair : Cal Γ k "as_pair" 1 M_as_pair) : FnOk Γ.P Γ.w Γ.K Γ.mg Γ.base (L2.CX Γ.P Γ.w) (k + 1) f fd ["one", "other"] (spD Γ.nm M_added) := by
  refine fnD F sc_added (fun ds P h => ?_) (fun cdv A outer s H E G0 ds P jx hr ps h => ?_)
  · first | (obtain ⟨rfl, _⟩ := h; rfl) | (obtain ⟨_, rfl, _⟩ := h; rfl) | (obtain ⟨_, _, rfl, _⟩ := h; rfl) | (obtain ⟨_, _, _, rfl, _⟩ := h; rfl) | (obtain ⟨_, _, _, _, rfl, _⟩ := h; rfl) | (obtain ⟨_, _, _, _, _, rfl, _⟩ := h; rfl) | (obtain ⟨_, _, _, _, _, _, rfl, _⟩ := h; rfl) | (obtain ⟨_, _, _, _, _, _, _, rfl, _⟩ := h; rfl) | (obtain ⟨_, _, _, _, _, _, _, _, rfl, _⟩ := h; rfl) | (obtain ⟨_, _, _, _, _, _, _, _, _, rfl, _⟩ := h; rfl)
  have nd : N_added.Nodup := sc_added.nd
  refine ⟨_, (jss_cons (js_if (JW.jt (jw_and (jt_not (jt_val (je_call jx c_is_pair hr rfl (ja_cons (jv 0) ja_nil)))) (jw_and1 (jt_not (jt_val (je_call jx c_is_pair hr rfl (ja_cons (jv 1) ja_nil))))))) (jss_one (js_ret (je_op o_add (jv 0) (jv 1)))) jss_nil) (jss_cons (js_asg (je_call jx c_as_pair hr rfl (ja_cons (jv 0) ja_nil)) (jg_tup (n := 2) rfl (jgs_cons (jg_name (i := 2) nd rfl (by first | exact Or.inl rfl | exact Or.inr rfl)) (jgs_cons (jg_name (i := 3) nd rfl (by first | exact Or.inl rfl | exact Or.inr rfl)) jgs_nil)))) (jss_cons (js_asg (je_call jx c_as_pair hr rfl (ja_cons (jv 1) ja_nil)) (jg_tup (n := 2) rfl (jgs_cons (jg_name (i := 4) nd rfl (by first | exact Or.inl rfl | exact Or.inr rfl)) (jgs_cons (jg_name (i := 5) nd rfl (by first | exact Or.inl rfl | exact Or.inr rfl)) jgs_nil)))) (jss_one (js_ret (je_tup (ja_cons (je_op o_add (jv 2) (jv 4)) (ja_cons (je_op o_add (jv 3) (jv 5)) ja_nil)))))))), ?_⟩
  obtain ⟨a, b, rfl, p⟩ := h
  cases a with
  | i n =>
    walk_at "g"
    refine ⟨.i n, rfl, ?_⟩
    walk_at "g"
    cases b with
    | i m =>
      refine ⟨.i m, rfl, ?_⟩
      walk_at "g"
      exact p
    | p x y =>
      refine ⟨.p x y, rfl, ?_⟩
      walk_at "g"
      refine ⟨.i n, rfl, ?_⟩
      walk_at "g"
      refine ⟨.p x y, rfl, ?_⟩
      walk_at "g"
      exact p
  | p x y =>
    walk_at "g"
    refine ⟨.p x y, rfl, ?_⟩
    walk_at "g"
    refine ⟨.p x y, rfl, ?_⟩
    walk_at "g"
    cases b with
    | i m =>
      refine ⟨.i m, rfl, ?_⟩
      walk_at "g"
      exact p
    | p u v =>
      refine ⟨.p u v, rfl, ?_⟩
      walk_at "g"
      exact p
def M_multiplied : MD := fun ds P => ∃ a b : Num, ds = [a.d, b.d] ∧ (∃ m n, a.lt m ∧ b.lt n ∧ m + n ≤ 999998) ∧ P (.ret (a.mul b).d)
theorem ok_multiplied {Γ : Gm} {k : Nat} (T : Tx Γ) {f : Addr} {fd : FuncData} (F : Fun Γ.K "multiplied" "multiplied" st_multiplied f fd) (c_is_pair : Cal Γ k "is_pair" 1 M_is_pair) (c_as_pair : Cal Γ k "as_pair" 1 M_as_pair) : FnOk Γ.P Γ.w Γ.K Γ.mg Γ.base (L2.CX Γ.P Γ.w) (k + 1) f fd ["one", "other"] (spD Γ.nm M_multiplied) := by
  refine fnD F sc_multiplied (fun ds P h => ?_) (fun cdv A outer s H E G0 ds P jx hr ps h => ?_)
  · first | (obtain ⟨rfl, _⟩ := h; rfl) | (obtain ⟨_, rfl, _⟩ := h; rfl) | (obtain ⟨_, _, rfl, _⟩ := h; rfl) | (obtain ⟨_, _, _, rfl, _⟩ := h; rfl) | (obtain ⟨_, _, _, _, rfl, _⟩ := h; rfl) | (obtain ⟨_, _, _, _, _, rfl, _⟩ := h; rfl) | (obtain ⟨_, _, _, _, _, _, rfl, _⟩ := h; rfl) | (obtain ⟨_, _, _, _, _, _, _, rfl, _⟩ := h; rfl) | (obtain ⟨_, _, _, _, _, _, _, _, rfl, _⟩ := h; rfl) | (obtain ⟨_, _, _, _, _, _, _, _, _, rfl, _⟩ := h; rfl)
  have nd : N_multiplied.Nodup := sc_multiplied.nd
  refine ⟨_, (jss_cons (js_if (JW.jt (jw_and (jt_not (jt_val (je_call jx c_is_pair hr rfl (ja_cons (jv 0) ja_nil)))) (jw_and1 (jt_not (jt_val (je_call jx c_is_pair hr rfl (ja_cons (jv 1) ja_nil))))))) (jss_one (js_ret (je_op o_mul (jv 0) (jv 1)))) jss_nil) (jss_cons (js_asg (je_call jx c_as_pair hr rfl (ja_cons (jv 0) ja_nil)) (jg_tup (n := 2) rfl (jgs_cons (jg_name (i := 2) nd rfl (by first | exact Or.inl rfl | exact Or.inr rfl)) (jgs_cons (jg_name (i := 3) nd rfl (by first | exact Or.inl rfl | exact Or.inr rfl)) jgs_nil)))) (jss_cons (js_asg (je_call jx c_as_pair hr rfl (ja_cons (jv 1) ja_nil)) (jg_tup (n := 2) rfl (jgs_cons (jg_name (i := 4) nd rfl (by first | exact Or.inl rfl | exact Or.inr rfl)) (jgs_cons (jg_name (i := 5) nd rfl (by first | exact Or.inl rfl | exact Or.inr rfl)) jgs_nil)))) (jss_one (js_ret (je_tup (ja_cons (je_op o_sub (je_op o_mul (jv 2) (jv 4)) (je_op o_mul (jv 3) (jv 5))) (ja_cons (je_op o_add (je_op o_mul (jv 2) (jv 5)) (je_op o_mul (jv 3) (jv 4))) ja_nil)))))))), ?_⟩
  obtain ⟨a, b, rfl, ⟨m, n, ha, hb, hmn⟩, p⟩ := h
  obtain ⟨m1, m2, m3, m4⟩ := Num.mulOk ha hb hmn
  cases a with
  | i n =>
    walk_at "g"
    refine ⟨.i n, rfl, ?_⟩
    walk_at "g"
    cases b with
    | i m =>
      refine ⟨.i m, rfl, ?_⟩
      walk_at "g"
      exact p
    | p x y =>
      refine ⟨.p x y, rfl, ?_⟩
      walk_at "g"
      refine ⟨.i n, rfl, ?_⟩
      walk_at "g"
      refine ⟨.p x y, rfl, ?_⟩
      walk_at "g"
      exact p
  | p x y =>
    walk_at "g"
    refine ⟨.p x y, rfl, ?_⟩
    walk_at "g"
    refine ⟨.p x y, rfl, ?_⟩
    walk_at "g"
    cases b with
    | i m =>
      refine ⟨.i m, rfl, ?_⟩
      walk_at "g"
      exact p
    | p u v =>
      refine ⟨.p u v, rfl, ?_⟩
      walk_at "g"
      exact p

theorem ok_look_at {Γ : Gm} {k : Nat} (T : Tx Γ) {f : Addr} {fd : FuncData} (F : Fun Γ.K "look_at" "look_at" st_look_at f fd) : FnOk Γ.P Γ.w Γ.K Γ.mg Γ.base (L2.CX Γ.P Γ.w) (k + 1) f fd ["number", "least", "greatest"] (spD Γ.nm M_look_at) := by
  refine fnD F sc_look_at (fun ds P h => ?_) (fun cdv A outer s H E G0 ds P jx hr ps h => ?_)
  · first | (obtain ⟨rfl, _⟩ := h; rfl) | (obtain ⟨_, rfl, _⟩ := h; rfl) | (obtain ⟨_, _, rfl, _⟩ := h; rfl) | (obtain ⟨_, _, _, rfl, _⟩ := h; rfl) | (obtain ⟨_, _, _, _, rfl, _⟩ := h; rfl) | (obtain ⟨_, _, _, _, _, rfl, _⟩ := h; rfl) | (obtain ⟨_, _, _, _, _, _, rfl, _⟩ := h; rfl) | (obtain ⟨_, _, _, _, _, _, _, rfl, _⟩ := h; rfl) | (obtain ⟨_, _, _, _, _, _, _, _, rfl, _⟩ := h; rfl) | (obtain ⟨_, _, _, _, _, _, _, _, _, rfl, _⟩ := h; rfl)
  have nd : N_look_at.Nodup := sc_look_at.nd
  refine ⟨_, (jss_one (js_if (jt_not (jt_chain o_le o_le (jv 1) (jv 0) (jv 2))) (jss_one (js_raise jx T.x_NoWay rfl rfl)) jss_nil)), ?_⟩
  obtain ⟨n, lo, hi, rfl, p1, p2⟩ := h
  by_cases h1 : lo ≤ n
  · by_cases h2 : n ≤ hi
    · walk_at "g"
      exact p1 ⟨h1, h2⟩
    · walk_at "g"
      exact p2 fun z => h2 z.2
  · walk_at "g"
    exact p2 fun z => h1 z.1
theorem ok_Plain___init__ {Γ : Gm} {k : Nat} (T : Tx Γ) {f : Addr} {fd : FuncData} (F : Fun Γ.K "__init__" "Plain.__init__" st_Plain___init__ f fd) (c_look_at : Cal Γ k "look_at" 3 M_look_at) : FnOk Γ.P Γ.w Γ.K Γ.mg Γ.base (L2.CX Γ.P Γ.w) (k + 1) f fd ["self", "base"] (spI Γ.nm "Plain" "base" 2 60) := by
  refine F.okX sc_Plain___init__ (fun vs H Q E h => ?_) fun cdv A outer s H vs Q E hr h => ?_
  · obtain ⟨_, _, _, rfl, _⟩ := h; rfl
  · obtain ⟨x, dx, n, rfl, hx, hd, q1, q2⟩ := h
    obtain ⟨f0, fd0, ps0, _, F0, hm, hk, hb⟩ := c_look_at.ex
    have tk := takes_of (X := cxOf (L2.CX Γ.P Γ.w) Γ.P Γ.w Γ.K Γ.mg Γ.base N_Plain___init__ "Plain.__init__" (defScope st_Plain___init__) f cdv A outer s H E) rfl rfl rfl rfl
    refine ⟨_, pss_cons (ps_expr (pe_callS F0 hr rfl hm hk hb (fun σ => passAt tk σ) (pa_cons (pv 1) (pa_cons pe_int (pa_cons pe_int pa_nil))))) (pss_one (ps_fld (pv 0) (pv 1) rfl)), ?_⟩
    exact init_read (T.fl (.plain 0) (by decide)) (fun _ _ _ => rfl) rfl rfl hx hd q1 q2
theorem ok_Below___init__ {Γ : Gm} {k : Nat} (T : Tx Γ) {f : Addr} {fd : FuncData} (F : Fun Γ.K "__init__" "Below.__init__" st_Below___init__ f fd) (c_look_at : Cal Γ k "look_at" 3 M_look_at) : FnOk Γ.P Γ.w Γ.K Γ.mg Γ.base (L2.CX Γ.P Γ.w) (k + 1) f fd ["self", "base"] (spI Γ.nm "Below" "base" 2 60) := by
  refine F.okX sc_Below___init__ (fun vs H Q E h => ?_) fun cdv A outer s H vs Q E hr h => ?_
  · obtain ⟨_, _, _, rfl, _⟩ := h; rfl
  · obtain ⟨x, dx, n, rfl, hx, hd, q1, q2⟩ := h
    obtain ⟨f0, fd0, ps0, _, F0, hm, hk, hb⟩ := c_look_at.ex
    have tk := takes_of (X := cxOf (L2.CX Γ.P Γ.w) Γ.P Γ.w Γ.K Γ.mg Γ.base N_Below___init__ "Below.__init__" (defScope st_Below___init__) f cdv A outer s H E) rfl rfl rfl rfl
    refine ⟨_, pss_cons (ps_expr (pe_callS F0 hr rfl hm hk hb (fun σ => passAt tk σ) (pa_cons (pv 1) (pa_cons pe_int (pa_cons pe_int pa_nil))))) (pss_one (ps_fld (pv 0) (pv 1) rfl)), ?_⟩
    exact init_read (T.fl (.below 0) (by decide)) (fun _ _ _ => rfl) rfl rfl hx hd q1 q2
theorem ok_Balanced___init__ {Γ : Gm} {k : Nat} (T : Tx Γ) {f : Addr} {fd : FuncData} (F : Fun Γ.K "__init__" "Balanced.__init__" st_Balanced___init__ f fd) (c_look_at : Cal Γ k "look_at" 3 M_look_at) : FnOk Γ.P Γ.w Γ.K Γ.mg Γ.base (L2.CX Γ.P Γ.w) (k + 1) f fd ["self", "half"] (spI Γ.nm "Balanced" "half" 1 30) := by
  refine F.okX sc_Balanced___init__ (fun vs H Q E h => ?_) fun cdv A outer s H vs Q E hr h => ?_
  · obtain ⟨_, _, _, rfl, _⟩ := h; rfl
  · obtain ⟨x, dx, n, rfl, hx, hd, q1, q2⟩ := h
    obtain ⟨f0, fd0, ps0, _, F0, hm, hk, hb⟩ := c_look_at.ex
    have tk := takes_of (X := cxOf (L2.CX Γ.P Γ.w) Γ.P Γ.w Γ.K Γ.mg Γ.base N_Balanced___init__ "Balanced.__init__" (defScope st_Balanced___init__) f cdv A outer s H E) rfl rfl rfl rfl
    refine ⟨_, pss_cons (ps_expr (pe_callS F0 hr rfl hm hk hb (fun σ => passAt tk σ) (pa_cons (pv 1) (pa_cons pe_int (pa_cons pe_int pa_nil))))) (pss_one (ps_fld (pv 0) (pv 1) rfl)), ?_⟩
    exact init_read (T.fl (.bal 0) (by decide)) (fun _ _ _ => rfl) rfl rfl hx hd q1 q2
theorem ok_Growing___init__ {Γ : Gm} {k : Nat} (T : Tx Γ) {f : Addr} {fd : FuncData} (F : Fun Γ.K "__init__" "Growing.__init__" st_Growing___init__ f fd) (c_look_at : Cal Γ k "look_at" 3 M_look_at) : FnOk Γ.P Γ.w Γ.K Γ.mg Γ.base (L2.CX Γ.P Γ.w) (k + 1) f fd ["self", "first"] (spI Γ.nm "Growing" "first" 2 60) := by
  refine F.okX sc_Growing___init__ (fun vs H Q E h => ?_) fun cdv A outer s H vs Q E hr h => ?_
  · obtain ⟨_, _, _, rfl, _⟩ := h; rfl
  · obtain ⟨x, dx, n, rfl, hx, hd, q1, q2⟩ := h
    obtain ⟨f0, fd0, ps0, _, F0, hm, hk, hb⟩ := c_look_at.ex
    have tk := takes_of (X := cxOf (L2.CX Γ.P Γ.w) Γ.P Γ.w Γ.K Γ.mg Γ.base N_Growing___init__ "Growing.__init__" (defScope st_Growing___init__) f cdv A outer s H E) rfl rfl rfl rfl
    refine ⟨_, pss_cons (ps_expr (pe_callS F0 hr rfl hm hk hb (fun σ => passAt tk σ) (pa_cons (pv 1) (pa_cons pe_int (pa_cons pe_int pa_nil))))) (pss_one (ps_fld (pv 0) (pv 1) rfl)), ?_⟩
    exact init_read (T.fl (.grow 0) (by decide)) (fun _ _ _ => rfl) rfl rfl hx hd q1 q2
theorem ok_Falling___init__ {Γ : Gm} {k : Nat} (T : Tx Γ) {f : Addr} {fd : FuncData} (F : Fun Γ.K "__init__" "Falling.__init__" st_Falling___init__ f fd) (c_look_at : Cal Γ k "look_at" 3 M_look_at) : FnOk Γ.P Γ.w Γ.K Γ.mg Γ.base (L2.CX Γ.P Γ.w) (k + 1) f fd ["self", "most"] (spI Γ.nm "Falling" "most" 1 9) := by
  refine F.okX sc_Falling___init__ (fun vs H Q E h => ?_) fun cdv A outer s H vs Q E hr h => ?_
  · obtain ⟨_, _, _, rfl, _⟩ := h; rfl
  · obtain ⟨x, dx, n, rfl, hx, hd, q1, q2⟩ := h
    obtain ⟨f0, fd0, ps0, _, F0, hm, hk, hb⟩ := c_look_at.ex
    have tk := takes_of (X := cxOf (L2.CX Γ.P Γ.w) Γ.P Γ.w Γ.K Γ.mg Γ.base N_Falling___init__ "Falling.__init__" (defScope st_Falling___init__) f cdv A outer s H E) rfl rfl rfl rfl
    refine ⟨_, pss_cons (ps_expr (pe_callS F0 hr rfl hm hk hb (fun σ => passAt tk σ) (pa_cons (pv 1) (pa_cons pe_int (pa_cons pe_int pa_nil))))) (pss_one (ps_fld (pv 0) (pv 1) rfl)), ?_⟩
    exact init_read (T.fl (.fall 0) (by decide)) (fun _ _ _ => rfl) rfl rfl hx hd q1 q2
theorem ok_Pairs___init__ {Γ : Gm} {k : Nat} (T : Tx Γ) {f : Addr} {fd : FuncData} (F : Fun Γ.K "__init__" "Pairs.__init__" st_Pairs___init__ f fd) (c_look_at : Cal Γ k "look_at" 3 M_look_at) : FnOk Γ.P Γ.w Γ.K Γ.mg Γ.base (L2.CX Γ.P Γ.w) (k + 1) f fd ["self", "most"] (spI Γ.nm "Pairs" "most" 1 9) := by
  refine F.okX sc_Pairs___init__ (fun vs H Q E h => ?_) fun cdv A outer s H vs Q E hr h => ?_
  · obtain ⟨_, _, _, rfl, _⟩ := h; rfl
  · obtain ⟨x, dx, n, rfl, hx, hd, q1, q2⟩ := h
    obtain ⟨f0, fd0, ps0, _, F0, hm, hk, hb⟩ := c_look_at.ex
    have tk := takes_of (X := cxOf (L2.CX Γ.P Γ.w) Γ.P Γ.w Γ.K Γ.mg Γ.base N_Pairs___init__ "Pairs.__init__" (defScope st_Pairs___init__) f cdv A outer s H E) rfl rfl rfl rfl
    refine ⟨_, pss_cons (ps_expr (pe_callS F0 hr rfl hm hk hb (fun σ => passAt tk σ) (pa_cons (pv 1) (pa_cons pe_int (pa_cons pe_int pa_nil))))) (pss_one (ps_fld (pv 0) (pv 1) rfl)), ?_⟩
    exact init_read (T.fl (.pairs 0) (by decide)) (fun _ _ _ => rfl) rfl rfl hx hd q1 q2

def mw_low : MW := fun w ds P => ∃ k : Int, ds = [.int k] ∧ P (.ret (.int (w.low k)))
def mw_high : MW := fun w ds P => ∃ k : Int, ds = [.int k] ∧ P (.ret (.int (w.high k)))
def mw_ratio : MW := fun w ds P => ∃ k : Int, ds = [.int k] ∧ (w.hasRatio = true → P (.ret (w.ratio k).d)) ∧ (w.hasRatio = false → P (.exn "NoRatio"))
def mw_weight : MW := fun w ds P => ∃ n : Nat, ds = [.int n] ∧ n ≤ 20000 ∧ P (.ret (w.weight n).d)
theorem ok_Way_low {Γ : Gm} {k : Nat} (T : Tx Γ) {f : Addr} {fd : FuncData} (F : Fun Γ.K "low" "Way.low" st_Way_low f fd) (C : Str) (hC : C ∈ I_Way_low) : FnOk Γ.P Γ.w Γ.K Γ.mg Γ.base (L2.CX Γ.P Γ.w) (k + 1) f fd ["self", "place"] (spD Γ.nm (atC C mw_low)) := by
  refine fnD F sc_Way_low (fun ds P h => ?_) (fun cdv A outer s H E G0 ds P jx hr ps h => ?_)
  · obtain ⟨w, rest, _, _, rfl, h⟩ := h; first | (obtain ⟨rfl, _⟩ := h; rfl) | (obtain ⟨_, rfl, _⟩ := h; rfl) | (obtain ⟨_, _, rfl, _⟩ := h; rfl) | (obtain ⟨_, _, _, rfl, _⟩ := h; rfl) | (obtain ⟨_, _, _, _, rfl, _⟩ := h; rfl) | (obtain ⟨_, _, _, _, _, rfl, _⟩ := h; rfl) | (obtain ⟨_, _, _, _, _, _, rfl, _⟩ := h; rfl) | (obtain ⟨_, _, _, _, _, _, _, rfl, _⟩ := h; rfl) | (obtain ⟨_, _, _, _, _, _, _, _, rfl, _⟩ := h; rfl) | (obtain ⟨_, _, _, _, _, _, _, _, _, rfl, _⟩ := h; rfl)
  have nd : N_Way_low.Nodup := sc_Way_low.nd
  refine ⟨_, (jss_one (js_ret je_int)), ?_⟩
  obtain ⟨w, rest, rfl, ok, rfl, k, rfl, p⟩ := h
  have e : w.low k = 0 := by
    cases w <;> first | rfl | (exfalso; revert hC; simp only [I_Way_low, WayM.cls]; decide)
  rw [e] at p
  walk_at "g"
  exact p
theorem ok_Balanced_low {Γ : Gm} {k : Nat} (T : Tx Γ) {f : Addr} {fd : FuncData} (F : Fun Γ.K "low" "Balanced.low" st_Balanced_low f fd) : FnOk Γ.P Γ.w Γ.K Γ.mg Γ.base (L2.CX Γ.P Γ.w) (k + 1) f fd ["self", "place"] (spD Γ.nm (atC "Balanced" mw_low)) := by
  refine fnD F sc_Balanced_low (fun ds P h => ?_) (fun cdv A outer s H E G0 ds P jx hr ps h => ?_)
  · obtain ⟨w, rest, _, _, rfl, h⟩ := h; first | (obtain ⟨rfl, _⟩ := h; rfl) | (obtain ⟨_, rfl, _⟩ := h; rfl) | (obtain ⟨_, _, rfl, _⟩ := h; rfl) | (obtain ⟨_, _, _, rfl, _⟩ := h; rfl) | (obtain ⟨_, _, _, _, rfl, _⟩ := h; rfl) | (obtain ⟨_, _, _, _, _, rfl, _⟩ := h; rfl) | (obtain ⟨_, _, _, _, _, _, rfl, _⟩ := h; rfl) | (obtain ⟨_, _, _, _, _, _, _, rfl, _⟩ := h; rfl) | (obtain ⟨_, _, _, _, _, _, _, _, rfl, _⟩ := h; rfl) | (obtain ⟨_, _, _, _, _, _, _, _, _, rfl, _⟩ := h; rfl)
  have nd : N_Balanced_low.Nodup := sc_Balanced_low.nd
  refine ⟨_, (jss_one (js_ret (je_op o_sub je_int (je_fld Γ (jv 0))))), ?_⟩
  obtain ⟨w, rest, hw, ok, rfl, k, rfl, p⟩ := h
  have fl := T.fl
  cases w <;> first | (cases hw; done) | skip
  walk_at "g"
  exact p
theorem ok_Plain_high {Γ : Gm} {k : Nat} (T : Tx Γ) {f : Addr} {fd : FuncData} (F : Fun Γ.K "high" "Plain.high" st_Plain_high f fd) : FnOk Γ.P Γ.w Γ.K Γ.mg Γ.base (L2.CX Γ.P Γ.w) (k + 1) f fd ["self", "place"] (spD Γ.nm (atC "Plain" mw_high)) := by
  refine fnD F sc_Plain_high (fun ds P h => ?_) (fun cdv A outer s H E G0 ds P jx hr ps h => ?_)
  · obtain ⟨w, rest, _, _, rfl, h⟩ := h; first | (obtain ⟨rfl, _⟩ := h; rfl) | (obtain ⟨_, rfl, _⟩ := h; rfl) | (obtain ⟨_, _, rfl, _⟩ := h; rfl) | (obtain ⟨_, _, _, rfl, _⟩ := h; rfl) | (obtain ⟨_, _, _, _, rfl, _⟩ := h; rfl) | (obtain ⟨_, _, _, _, _, rfl, _⟩ := h; rfl) | (obtain ⟨_, _, _, _, _, _, rfl, _⟩ := h; rfl) | (obtain ⟨_, _, _, _, _, _, _, rfl, _⟩ := h; rfl) | (obtain ⟨_, _, _, _, _, _, _, _, rfl, _⟩ := h; rfl) | (obtain ⟨_, _, _, _, _, _, _, _, _, rfl, _⟩ := h; rfl)
  have nd : N_Plain_high.Nodup := sc_Plain_high.nd
  refine ⟨_, (jss_one (js_ret (je_op o_sub (je_fld Γ (jv 0)) je_int))), ?_⟩
  obtain ⟨w, rest, hw, ok, rfl, k, rfl, p⟩ := h
  have fl := T.fl
  cases w <;> first | (cases hw; done) | skip
  walk_at "g"
  exact p
theorem ok_Below_high {Γ : Gm} {k : Nat} (T : Tx Γ) {f : Addr} {fd : FuncData} (F : Fun Γ.K "high" "Below.high" st_Below_high f fd) : FnOk Γ.P Γ.w Γ.K Γ.mg Γ.base (L2.CX Γ.P Γ.w) (k + 1) f fd ["self", "place"] (spD Γ.nm (atC "Below" mw_high)) := by
  refine fnD F sc_Below_high (fun ds P h => ?_) (fun cdv A outer s H E G0 ds P jx hr ps h => ?_)
  · obtain ⟨w, rest, _, _, rfl, h⟩ := h; first | (obtain ⟨rfl, _⟩ := h; rfl) | (obtain ⟨_, rfl, _⟩ := h; rfl) | (obtain ⟨_, _, rfl, _⟩ := h; rfl) | (obtain ⟨_, _, _, rfl, _⟩ := h; rfl) | (obtain ⟨_, _, _, _, rfl, _⟩ := h; rfl) | (obtain ⟨_, _, _, _, _, rfl, _⟩ := h; rfl) | (obtain ⟨_, _, _, _, _, _, rfl, _⟩ := h; rfl) | (obtain ⟨_, _, _, _, _, _, _, rfl, _⟩ := h; rfl) | (obtain ⟨_, _, _, _, _, _, _, _, rfl, _⟩ := h; rfl) | (obtain ⟨_, _, _, _, _, _, _, _, _, rfl, _⟩ := h; rfl)
  have nd : N_Below_high.Nodup := sc_Below_high.nd
  refine ⟨_, (jss_one (js_ret (je_op o_sub (je_fld Γ (jv 0)) je_int))), ?_⟩
  obtain ⟨w, rest, hw, ok, rfl, k, rfl, p⟩ := h
  have fl := T.fl
  cases w <;> first | (cases hw; done) | skip
  walk_at "g"
  exact p
theorem ok_Balanced_high {Γ : Gm} {k : Nat} (T : Tx Γ) {f : Addr} {fd : FuncData} (F : Fun Γ.K "high" "Balanced.high" st_Balanced_high f fd) : FnOk Γ.P Γ.w Γ.K Γ.mg Γ.base (L2.CX Γ.P Γ.w) (k + 1) f fd ["self", "place"] (spD Γ.nm (atC "Balanced" mw_high)) := by
  refine fnD F sc_Balanced_high (fun ds P h => ?_) (fun cdv A outer s H E G0 ds P jx hr ps h => ?_)
  · obtain ⟨w, rest, _, _, rfl, h⟩ := h; first | (obtain ⟨rfl, _⟩ := h; rfl) | (obtain ⟨_, rfl, _⟩ := h; rfl) | (obtain ⟨_, _, rfl, _⟩ := h; rfl) | (obtain ⟨_, _, _, rfl, _⟩ := h; rfl) | (obtain ⟨_, _, _, _, rfl, _⟩ := h; rfl) | (obtain ⟨_, _, _, _, _, rfl, _⟩ := h; rfl) | (obtain ⟨_, _, _, _, _, _, rfl, _⟩ := h; rfl) | (obtain ⟨_, _, _, _, _, _, _, rfl, _⟩ := h; rfl) | (obtain ⟨_, _, _, _, _, _, _, _, rfl, _⟩ := h; rfl) | (obtain ⟨_, _, _, _, _, _, _, _, _, rfl, _⟩ := h; rfl)
  have nd : N_Balanced_high.Nodup := sc_Balanced_high.nd
  refine ⟨_, (jss_one (js_ret (je_fld Γ (jv 0)))), ?_⟩
  obtain ⟨w, rest, hw, ok, rfl, k, rfl, p⟩ := h
  have fl := T.fl
  cases w <;> first | (cases hw; done) | skip
  walk_at "g"
  exact p
theorem ok_Growing_high {Γ : Gm} {k : Nat} (T : Tx Γ) {f : Addr} {fd : FuncData} (F : Fun Γ.K "high" "Growing.high" st_Growing_high f fd) : FnOk Γ.P Γ.w Γ.K Γ.mg Γ.base (L2.CX Γ.P Γ.w) (k + 1) f fd ["self", "place"] (spD Γ.nm (atC "Growing" mw_high)) := by
  refine fnD F sc_Growing_high (fun ds P h => ?_) (fun cdv A outer s H E G0 ds P jx hr ps h => ?_)
  · obtain ⟨w, rest, _, _, rfl, h⟩ := h; first | (obtain ⟨rfl, _⟩ := h; rfl) | (obtain ⟨_, rfl, _⟩ := h; rfl) | (obtain ⟨_, _, rfl, _⟩ := h; rfl) | (obtain ⟨_, _, _, rfl, _⟩ := h; rfl) | (obtain ⟨_, _, _, _, rfl, _⟩ := h; rfl) | (obtain ⟨_, _, _, _, _, rfl, _⟩ := h; rfl) | (obtain ⟨_, _, _, _, _, _, rfl, _⟩ := h; rfl) | (obtain ⟨_, _, _, _, _, _, _, rfl, _⟩ := h; rfl) | (obtain ⟨_, _, _, _, _, _, _, _, rfl, _⟩ := h; rfl) | (obtain ⟨_, _, _, _, _, _, _, _, _, rfl, _⟩ := h; rfl)
  have nd : N_Growing_high.Nodup := sc_Growing_high.nd
  refine ⟨_, (jss_one (js_ret (je_op o_sub (je_op o_add (je_fld Γ (jv 0)) (jv 1)) je_int))), ?_⟩
  obtain ⟨w, rest, hw, ok, rfl, k, rfl, p⟩ := h
  have fl := T.fl
  cases w <;> first | (cases hw; done) | skip
  walk_at "g"
  exact p
theorem ok_Falling_high {Γ : Gm} {k : Nat} (T : Tx Γ) {f : Addr} {fd : FuncData} (F : Fun Γ.K "high" "Falling.high" st_Falling_high f fd) : FnOk Γ.P Γ.w Γ.K Γ.mg Γ.base (L2.CX Γ.P Γ.w) (k + 1) f fd ["self", "place"] (spD Γ.nm (atC "Falling" mw_high)) := by
  refine fnD F sc_Falling_high (fun ds P h => ?_) (fun cdv A outer s H E G0 ds P jx hr ps h => ?_)
  · obtain ⟨w, rest, _, _, rfl, h⟩ := h; first | (obtain ⟨rfl, _⟩ := h; rfl) | (obtain ⟨_, rfl, _⟩ := h; rfl) | (obtain ⟨_, _, rfl, _⟩ := h; rfl) | (obtain ⟨_, _, _, rfl, _⟩ := h; rfl) | (obtain ⟨_, _, _, _, rfl, _⟩ := h; rfl) | (obtain ⟨_, _, _, _, _, rfl, _⟩ := h; rfl) | (obtain ⟨_, _, _, _, _, _, rfl, _⟩ := h; rfl) | (obtain ⟨_, _, _, _, _, _, _, rfl, _⟩ := h; rfl) | (obtain ⟨_, _, _, _, _, _, _, _, rfl, _⟩ := h; rfl) | (obtain ⟨_, _, _, _, _, _, _, _, _, rfl, _⟩ := h; rfl)
  have nd : N_Falling_high.Nodup := sc_Falling_high.nd
  refine ⟨_, (jss_one (js_ret (je_fld Γ (jv 0)))), ?_⟩
  obtain ⟨w, rest, hw, ok, rfl, k, rfl, p⟩ := h
  have fl := T.fl
  cases w <;> first | (cases hw; done) | skip
  walk_at "g"
  exact p
theorem ok_Pairs_high {Γ : Gm} {k : Nat} (T : Tx Γ) {f : Addr} {fd : FuncData} (F : Fun Γ.K "high" "Pairs.high" st_Pairs_high f fd) : FnOk Γ.P Γ.w Γ.K Γ.mg Γ.base (L2.CX Γ.P Γ.w) (k + 1) f fd ["self", "place"] (spD Γ.nm (atC "Pairs" mw_high)) := by
  refine fnD F sc_Pairs_high (fun ds P h => ?_) (fun cdv A outer s H E G0 ds P jx hr ps h => ?_)
  · obtain ⟨w, rest, _, _, rfl, h⟩ := h; first | (obtain ⟨rfl, _⟩ := h; rfl) | (obtain ⟨_, rfl, _⟩ := h; rfl) | (obtain ⟨_, _, rfl, _⟩ := h; rfl) | (obtain ⟨_, _, _, rfl, _⟩ := h; rfl) | (obtain ⟨_, _, _, _, rfl, _⟩ := h; rfl) | (obtain ⟨_, _, _, _, _, rfl, _⟩ := h; rfl) | (obtain ⟨_, _, _, _, _, _, rfl, _⟩ := h; rfl) | (obtain ⟨_, _, _, _, _, _, _, rfl, _⟩ := h; rfl) | (obtain ⟨_, _, _, _, _, _, _, _, rfl, _⟩ := h; rfl) | (obtain ⟨_, _, _, _, _, _, _, _, _, rfl, _⟩ := h; rfl)
  have nd : N_Pairs_high.Nodup := sc_Pairs_high.nd
  refine ⟨_, (jss_one (js_ret (je_op o_mul (je_fld Γ (jv 0)) (je_fld Γ (jv 0))))), ?_⟩
  obtain ⟨w, rest, hw, ok, rfl, k, rfl, p⟩ := h
  have fl := T.fl
  cases w <;> first | (cases hw; done) | skip
  simp only [WayM.ok] at ok
  walk_at "g"
  exact p
theorem ok_Way_ratio {Γ : Gm} {k : Nat} (T : Tx Γ) {f : Addr} {fd : FuncData} (F : Fun Γ.K "ratio" "Way.ratio" st_Way_ratio f fd) (C : Str) (hC : C ∈ I_Way_ratio) : FnOk Γ.P Γ.w Γ.K Γ.mg Γ.base (L2.CX Γ.P Γ.w) (k + 1) f fd ["self", "place"] (spD Γ.nm (atC C mw_ratio)) := by
  refine fnD F sc_Way_ratio (fun ds P h => ?_) (fun cdv A outer s H E G0 ds P jx hr ps h => ?_)
  · obtain ⟨w, rest, _, _, rfl, h⟩ := h; first | (obtain ⟨rfl, _⟩ := h; rfl) | (obtain ⟨_, rfl, _⟩ := h; rfl) | (obtain ⟨_, _, rfl, _⟩ := h; rfl) | (obtain ⟨_, _, _, rfl, _⟩ := h; rfl) | (obtain ⟨_, _, _, _, rfl, _⟩ := h; rfl) | (obtain ⟨_, _, _, _, _, rfl, _⟩ := h; rfl) | (obtain ⟨_, _, _, _, _, _, rfl, _⟩ := h; rfl) | (obtain ⟨_, _, _, _, _, _, _, rfl, _⟩ := h; rfl) | (obtain ⟨_, _, _, _, _, _, _, _, rfl, _⟩ := h; rfl) | (obtain ⟨_, _, _, _, _, _, _, _, _, rfl, _⟩ := h; rfl)
  have nd : N_Way_ratio.Nodup := sc_Way_ratio.nd
  refine ⟨_, (jss_one (js_raise jx T.x_NoRatio rfl rfl)), ?_⟩
  obtain ⟨w, rest, rfl, ok, rfl, k, rfl, p1, p2⟩ := h
  have e : w.hasRatio = false := by
    cases w <;> first | rfl | (exfalso; revert hC; simp only [I_Way_ratio, WayM.cls]; decide)
  walk_at "g"
  exact p2 e
theorem ok_Plain_ratio {Γ : Gm} {k : Nat} (T : Tx Γ) {f : Addr} {fd : FuncData} (F : Fun Γ.K "ratio" "Plain.ratio" st_Plain_ratio f fd) : FnOk Γ.P Γ.w Γ.K Γ.mg Γ.base (L2.CX Γ.P Γ.w) (k + 1) f fd ["self", "place"] (spD Γ.nm (atC "Plain" mw_ratio)) := by
  refine fnD F sc_Plain_ratio (fun ds P h => ?_) (fun cdv A outer s H E G0 ds P jx hr ps h => ?_)
  · obtain ⟨w, rest, _, _, rfl, h⟩ := h; first | (obtain ⟨rfl, _⟩ := h; rfl) | (obtain ⟨_, rfl, _⟩ := h; rfl) | (obtain ⟨_, _, rfl, _⟩ := h; rfl) | (obtain ⟨_, _, _, rfl, _⟩ := h; rfl) | (obtain ⟨_, _, _, _, rfl, _⟩ := h; rfl) | (obtain ⟨_, _, _, _, _, rfl, _⟩ := h; rfl) | (obtain ⟨_, _, _, _, _, _, rfl, _⟩ := h; rfl) | (obtain ⟨_, _, _, _, _, _, _, rfl, _⟩ := h; rfl) | (obtain ⟨_, _, _, _, _, _, _, _, rfl, _⟩ := h; rfl) | (obtain ⟨_, _, _, _, _, _, _, _, _, rfl, _⟩ := h; rfl)
  have nd : N_Plain_ratio.Nodup := sc_Plain_ratio.nd
  refine ⟨_, (jss_one (js_ret (je_fld Γ (jv 0)))), ?_⟩
  obtain ⟨w, rest, hw, ok, rfl, k, rfl, p, _⟩ := h
  have fl := T.fl
  cases w <;> first | (cases hw; done) | skip
  walk_at "g"
  exact p rfl
theorem ok_Below_ratio {Γ : Gm} {k : Nat} (T : Tx Γ) {f : Addr} {fd : FuncData} (F : Fun Γ.K "ratio" "Below.ratio" st_Below_ratio f fd) : FnOk Γ.P Γ.w Γ.K Γ.mg Γ.base (L2.CX Γ.P Γ.w) (k + 1) f fd ["self", "place"] (spD Γ.nm (atC "Below" mw_ratio)) := by
  refine fnD F sc_Below_ratio (fun ds P h => ?_) (fun cdv A outer s H E G0 ds P jx hr ps h => ?_)
  · obtain ⟨w, rest, _, _, rfl, h⟩ := h; first | (obtain ⟨rfl, _⟩ := h; rfl) | (obtain ⟨_, rfl, _⟩ := h; rfl) | (obtain ⟨_, _, rfl, _⟩ := h; rfl) | (obtain ⟨_, _, _, rfl, _⟩ := h; rfl) | (obtain ⟨_, _, _, _, rfl, _⟩ := h; rfl) | (obtain ⟨_, _, _, _, _, rfl, _⟩ := h; rfl) | (obtain ⟨_, _, _, _, _, _, rfl, _⟩ := h; rfl) | (obtain ⟨_, _, _, _, _, _, _, rfl, _⟩ := h; rfl) | (obtain ⟨_, _, _, _, _, _, _, _, rfl, _⟩ := h; rfl) | (obtain ⟨_, _, _, _, _, _, _, _, _, rfl, _⟩ := h; rfl)
  have nd : N_Below_ratio.Nodup := sc_Below_ratio.nd
  refine ⟨_, (jss_one (js_ret (je_op o_sub je_int (je_fld Γ (jv 0))))), ?_⟩
  obtain ⟨w, rest, hw, ok, rfl, k, rfl, p, _⟩ := h
  have fl := T.fl
  cases w <;> first | (cases hw; done) | skip
  walk_at "g"
  exact p rfl
theorem ok_Balanced_ratio {Γ : Gm} {k : Nat} (T : Tx Γ) {f : Addr} {fd : FuncData} (F : Fun Γ.K "ratio" "Balanced.ratio" st_Balanced_ratio f fd) : FnOk Γ.P Γ.w Γ.K Γ.mg Γ.base (L2.CX Γ.P Γ.w) (k + 1) f fd ["self", "place"] (spD Γ.nm (atC "Balanced" mw_ratio)) := by
  refine fnD F sc_Balanced_ratio (fun ds P h => ?_) (fun cdv A outer s H E G0 ds P jx hr ps h => ?_)
  · obtain ⟨w, rest, _, _, rfl, h⟩ := h; first | (obtain ⟨rfl, _⟩ := h; rfl) | (obtain ⟨_, rfl, _⟩ := h; rfl) | (obtain ⟨_, _, rfl, _⟩ := h; rfl) | (obtain ⟨_, _, _, rfl, _⟩ := h; rfl) | (obtain ⟨_, _, _, _, rfl, _⟩ := h; rfl) | (obtain ⟨_, _, _, _, _, rfl, _⟩ := h; rfl) | (obtain ⟨_, _, _, _, _, _, rfl, _⟩ := h; rfl) | (obtain ⟨_, _, _, _, _, _, _, rfl, _⟩ := h; rfl) | (obtain ⟨_, _, _, _, _, _, _, _, rfl, _⟩ := h; rfl) | (obtain ⟨_, _, _, _, _, _, _, _, _, rfl, _⟩ := h; rfl)
  have nd : N_Balanced_ratio.Nodup := sc_Balanced_ratio.nd
  refine ⟨_, (jss_one (js_ret (je_op o_add (je_op o_mul je_int (je_fld Γ (jv 0))) je_int))), ?_⟩
  obtain ⟨w, rest, hw, ok, rfl, k, rfl, p, _⟩ := h
  have fl := T.fl
  cases w <;> first | (cases hw; done) | skip
  walk_at "g"
  exact p rfl
theorem ok_Growing_ratio {Γ : Gm} {k : Nat} (T : Tx Γ) {f : Addr} {fd : FuncData} (F : Fun Γ.K "ratio" "Growing.ratio" st_Growing_ratio f fd) : FnOk Γ.P Γ.w Γ.K Γ.mg Γ.base (L2.CX Γ.P Γ.w) (k + 1) f fd ["self", "place"] (spD Γ.nm (atC "Growing" mw_ratio)) := by
  refine fnD F sc_Growing_ratio (fun ds P h => ?_) (fun cdv A outer s H E G0 ds P jx hr ps h => ?_)
  · obtain ⟨w, rest, _, _, rfl, h⟩ := h; first | (obtain ⟨rfl, _⟩ := h; rfl) | (obtain ⟨_, rfl, _⟩ := h; rfl) | (obtain ⟨_, _, rfl, _⟩ := h; rfl) | (obtain ⟨_, _, _, rfl, _⟩ := h; rfl) | (obtain ⟨_, _, _, _, rfl, _⟩ := h; rfl) | (obtain ⟨_, _, _, _, _, rfl, _⟩ := h; rfl) | (obtain ⟨_, _, _, _, _, _, rfl, _⟩ := h; rfl) | (obtain ⟨_, _, _, _, _, _, _, rfl, _⟩ := h; rfl) | (obtain ⟨_, _, _, _, _, _, _, _, rfl, _⟩ := h; rfl) | (obtain ⟨_, _, _, _, _, _, _, _, _, rfl, _⟩ := h; rfl)
  have nd : N_Growing_ratio.Nodup := sc_Growing_ratio.nd
  refine ⟨_, (jss_one (js_ret (je_op o_add (je_fld Γ (jv 0)) (jv 1)))), ?_⟩
  obtain ⟨w, rest, hw, ok, rfl, k, rfl, p, _⟩ := h
  have fl := T.fl
  cases w <;> first | (cases hw; done) | skip
  walk_at "g"
  exact p rfl
theorem ok_Pairs_ratio {Γ : Gm} {k : Nat} (T : Tx Γ) {f : Addr} {fd : FuncData} (F : Fun Γ.K "ratio" "Pairs.ratio" st_Pairs_ratio f fd) : FnOk Γ.P Γ.w Γ.K Γ.mg Γ.base (L2.CX Γ.P Γ.w) (k + 1) f fd ["self", "place"] (spD Γ.nm (atC "Pairs" mw_ratio)) := by
  refine fnD F sc_Pairs_ratio (fun ds P h => ?_) (fun cdv A outer s H E G0 ds P jx hr ps h => ?_)
  · obtain ⟨w, rest, _, _, rfl, h⟩ := h; first | (obtain ⟨rfl, _⟩ := h; rfl) | (obtain ⟨_, rfl, _⟩ := h; rfl) | (obtain ⟨_, _, rfl, _⟩ := h; rfl) | (obtain ⟨_, _, _, rfl, _⟩ := h; rfl) | (obtain ⟨_, _, _, _, rfl, _⟩ := h; rfl) | (obtain ⟨_, _, _, _, _, rfl, _⟩ := h; rfl) | (obtain ⟨_, _, _, _, _, _, rfl, _⟩ := h; rfl) | (obtain ⟨_, _, _, _, _, _, _, rfl, _⟩ := h; rfl) | (obtain ⟨_, _, _, _, _, _, _, _, rfl, _⟩ := h; rfl) | (obtain ⟨_, _, _, _, _, _, _, _, _, rfl, _⟩ := h; rfl)
  have nd : N_Pairs_ratio.Nodup := sc_Pairs_ratio.nd
  refine ⟨_, (jss_one (js_ret (je_tup (ja_cons (je_op o_sub je_int (je_fld Γ (jv 0))) (ja_cons je_int ja_nil))))), ?_⟩
  obtain ⟨w, rest, hw, ok, rfl, k, rfl, p, _⟩ := h
  have fl := T.fl
  cases w <;> first | (cases hw; done) | skip
  walk_at "g"
  exact p rfl

def mw_split : MW := fun w ds P => ∃ (a : Num) (k : Nat), ds = [a.d, .int k] ∧ (w.isPairs = false → w.hasRatio = true → a.isP = false) ∧ (∃ n, a.lt n ∧ n ≤ 900000) ∧ k ≤ 900000 ∧ (w.hasRatio = true → P (.ret (.tup [.int (w.fig a k), (w.carry a k).d]))) ∧ (w.hasRatio = false → P (.exn "NoRatio"))
theorem ok_Way_split {Γ : Gm} {k : Nat} (T : Tx Γ) {f : Addr} {fd : FuncData} (F : Fun Γ.K "split" "Way.split" st_Way_split f fd) (C : Str) (hC : C ∈ I_Way_split) (w_low : WM LC Γ k "low" 2 mw_low) (w_ratio : WM LC Γ k "ratio" 2 mw_ratio) : FnOk Γ.P Γ.w Γ.K Γ.mg Γ.base (L2.CX Γ.P Γ.w) (k + 1) f fd ["self", "total", "place"] (spD Γ.nm (atC C mw_split)) := by
  refine fnD F sc_Way_split (fun ds P h => ?_) (fun cdv A outer s H E G0 ds P jx hr ps h => ?_)
  · obtain ⟨w, rest, _, _, rfl, h⟩ := h; first | (obtain ⟨rfl, _⟩ := h; rfl) | (obtain ⟨_, rfl, _⟩ := h; rfl) | (obtain ⟨_, _, rfl, _⟩ := h; rfl) | (obtain ⟨_, _, _, rfl, _⟩ := h; rfl) | (obtain ⟨_, _, _, _, rfl, _⟩ := h; rfl) | (obtain ⟨_, _, _, _, _, rfl, _⟩ := h; rfl) | (obtain ⟨_, _, _, _, _, _, rfl, _⟩ := h; rfl) | (obtain ⟨_, _, _, _, _, _, _, rfl, _⟩ := h; rfl) | (obtain ⟨_, _, _, _, _, _, _, _, rfl, _⟩ := h; rfl) | (obtain ⟨_, _, _, _, _, _, _, _, _, rfl, _⟩ := h; rfl)
  have nd : N_Way_split.Nodup := sc_Way_split.nd
  refine ⟨_, (jss_cons (js_set (i := 3) nd rfl (by first | exact Or.inl rfl | exact Or.inr rfl) (je_meth Γ 2 jx hr (pv 0) (ja_cons (jv 2) ja_nil))) (jss_cons (js_set (i := 4) nd rfl (by first | exact Or.inl rfl | exact Or.inr rfl) (je_meth Γ 2 jx hr (pv 0) (ja_cons (jv 2) ja_nil))) (jss_cons (js_set (i := 5) nd rfl (by first | exact Or.inl rfl | exact Or.inr rfl) (je_op o_add (je_op o_mod (je_op o_sub (jv 1) (jv 3)) (je_callB k_abs rfl T.m_abs (by decide +kernel) (ja_cons (jv 4) ja_nil))) (jv 3))) (jss_one (js_ret (je_tup (ja_cons (jv 5) (ja_cons (je_op o_div (je_op o_sub (jv 1) (jv 5)) (jv 4)) ja_nil)))))))), ?_⟩
  obtain ⟨w, rest, rfl, ok, rfl, a, n, rfl, ha, hz, hn, p1, p2⟩ := h
  have hw : w.cls ∈ LC := (by decide : ∀ C ∈ I_Way_split, C ∈ LC) _ hC
  have hp : w.isPairs = false := by
    cases w <;> first | rfl | (exfalso; revert hC; simp only [I_Way_split, WayM.cls]; decide)
  walk_at "g"
  refine meth_way w_low w hw ok (nf_low w) rfl ?_
  walk_at "g"
  refine ⟨w, _, rfl, ok, rfl, n, rfl, ?_⟩
  walk_at "g"
  refine meth_way w_ratio w hw ok (nf_ratio w) rfl ?_
  walk_at "g"
  refine ⟨w, _, rfl, ok, rfl, n, rfl, fun hr1 => ?_, fun hr1 => p2 hr1⟩
  have p := p1 hr1
  cases a with
  | p x y => cases ha hp hr1
  | i x =>
    clear p1 p2
    cases w with
    | fall m => cases hr1
    | pairs m => cases hp
    | plain b =>
      simp only [WayM.ok] at ok
      walk_at "g"
      rw [if_neg (by omega)]
      exact ret2 p rfl (WayM.div_exact (l := 0) (r := b) (by omega)).symm
    | below b =>
      simp only [WayM.ok] at ok
      walk_at "g"
      rw [if_pos (by omega), show -(0 - b) = b by omega]
      exact ret2 p rfl (WayM.div_exactN (b := b) (by omega)).symm
    | bal b =>
      simp only [WayM.ok] at ok
      walk_at "g"
      rw [if_neg (by omega)]
      exact ret2 p rfl (WayM.div_exact (r := 2 * b + 1) (by omega)).symm
    | grow b =>
      simp only [WayM.ok] at ok
      walk_at "g"
      rw [if_neg (by omega)]
      exact ret2 p rfl (WayM.div_exact (l := 0) (r := b + n) (by omega)).symm
theorem ok_Pairs_split {Γ : Gm} {k : Nat} (T : Tx Γ) {f : Addr} {fd : FuncData} (F : Fun Γ.K "split" "Pairs.split" st_Pairs_split f fd) (c_as_pair : Cal Γ k "as_pair" 1 M_as_pair) (c_multiplied : Cal Γ k "multiplied" 2 M_multiplied) (c_added : Cal Γ k "added" 2 M_added) : FnOk Γ.P Γ.w Γ.K Γ.mg Γ.base (L2.CX Γ.P Γ.w) (k + 1) f fd ["self", "total", "place"] (spD Γ.nm (atC "Pairs" mw_split)) := by
  refine fnD F sc_Pairs_split (fun ds P h => ?_) (fun cdv A outer s H E G0 ds P jx hr ps h => ?_)
  · obtain ⟨w, rest, _, _, rfl, h⟩ := h; first | (obtain ⟨rfl, _⟩ := h; rfl) | (obtain ⟨_, rfl, _⟩ := h; rfl) | (obtain ⟨_, _, rfl, _⟩ := h; rfl) | (obtain ⟨_, _, _, rfl, _⟩ := h; rfl) | (obtain ⟨_, _, _, _, rfl, _⟩ := h; rfl) | (obtain ⟨_, _, _, _, _, rfl, _⟩ := h; rfl) | (obtain ⟨_, _, _, _, _, _, rfl, _⟩ := h; rfl) | (obtain ⟨_, _, _, _, _, _, _, rfl, _⟩ := h; rfl) | (obtain ⟨_, _, _, _, _, _, _, _, rfl, _⟩ := h; rfl) | (obtain ⟨_, _, _, _, _, _, _, _, _, rfl, _⟩ := h; rfl)
  have nd : N_Pairs_split.Nodup := sc_Pairs_split.nd
  refine ⟨_, (jss_cons (js_set (i := 3) nd rfl (by first | exact Or.inl rfl | exact Or.inr rfl) (je_op o_add (je_op o_mul (je_fld Γ (jv 0)) (je_fld Γ (jv 0))) je_int)) (jss_cons (js_asg (je_call jx c_as_pair hr rfl (ja_cons (jv 1) ja_nil)) (jg_tup (n := 2) rfl (jgs_cons (jg_name (i := 4) nd rfl (by first | exact Or.inl rfl | exact Or.inr rfl)) (jgs_cons (jg_name (i := 5) nd rfl (by first | exact Or.inl rfl | exact Or.inr rfl)) jgs_nil)))) (jss_cons (js_set (i := 6) nd rfl (by first | exact Or.inl rfl | exact Or.inr rfl) (je_op o_mod (je_op o_add (jv 4) (je_op o_mul (je_fld Γ (jv 0)) (jv 5))) (jv 3))) (jss_cons (js_set (i := 7) nd rfl (by first | exact Or.inl rfl | exact Or.inr rfl) (je_call jx c_multiplied hr rfl (ja_cons (je_call jx c_added hr rfl (ja_cons (je_tup (ja_cons (jv 4) (ja_cons (jv 5) ja_nil))) (ja_cons (je_tup (ja_cons (je_op o_sub je_int (jv 6)) (ja_cons je_int ja_nil))) ja_nil))) (ja_cons (je_tup (ja_cons (je_op o_sub je_int (je_fld Γ (jv 0))) (ja_cons (je_neg je_int) ja_nil))) ja_nil)))) (jss_one (js_ret (je_tup (ja_cons (jv 6) (ja_cons (je_tup (ja_cons (je_op o_div (je_ix (jv 7) je_int) (jv 3)) (ja_cons (je_op o_div (je_ix (jv 7) je_int) (jv 3)) ja_nil))) ja_nil))))))))), ?_⟩
  obtain ⟨w, rest, hw, ok, rfl, a, n, rfl, ha, ⟨m, hz, hm⟩, hn, p, _⟩ := h
  have fl := T.fl
  obtain ⟨s, rfl⟩ : ∃ s, w = .pairs s := by cases w <;> first | (cases hw; done) | exact ⟨_, rfl⟩
  have p := p rfl
  simp only [WayM.ok] at ok
  walk_at "g"
  refine ⟨a, by walk_at "n", ?_⟩
  walk_at "g"
  refine ⟨WayM.sq_pos s, ?_⟩
  walk_at "g"
  have ab : (Num.p a.x a.y).lt (m + 8) := ⟨(Num.lt_mono hz (Nat.le_add_right m 8)).1, (Num.lt_mono hz (Nat.le_add_right m 8)).2⟩
  have fr := WayM.fig_range (w := .pairs s) ok rfl a (k := n) (by omega)
  have hs2 : s * s ≤ 81 := Int.le_trans (Int.mul_le_mul_of_nonneg_left ok.2 (by omega)) (by omega)
  have fb : (Num.p (0 - (WayM.pairs s).fig a n) 0).lt (m + 8) := by
    refine Num.lt_mono (m := 8) ⟨?_, Nat.pow_pos (by decide)⟩ (by omega)
    simp only [WayM.low, WayM.high] at fr
    show Int.natAbs (0 - _) < 256
    omega
  refine ⟨.p a.x a.y, .p (0 - (WayM.pairs s).fig a n) 0, rfl, ?_⟩
  walk_at "g"
  refine ⟨_, .p (0 - s) (-1), rfl, ⟨_, 4, Num.lt_add ab fb, ⟨by show Int.natAbs (0 - s) < 16; omega, by show Int.natAbs (-1) < 16; decide⟩, by omega⟩, ?_⟩
  walk_at "g"
  have dv : 0 < s * s + 1 ∧ (s * s + 1).natAbs.log2 < 9000 := ⟨WayM.sq_pos s, log2_small (b := 64) (by have := WayM.sq_pos s; omega) (by decide)⟩
  refine .inl ⟨dv.1, dv.2, ?_⟩
  walk_at "g"
  refine .inl ⟨dv.1, dv.2, ?_⟩
  walk_at "g"
  have td := WayM.turned_div s a.x a.y
  have p' : P (.ret (.tup [.int ((a.x + s * a.y) % (s * s + 1)), .tup [.int (a.y - s * ((a.x + s * a.y) / (s * s + 1))), .int (0 - (a.x + s * a.y) / (s * s + 1))]])) := p
  rw [← td.1, ← td.2] at p'
  exact p'
theorem ok_Falling_split {Γ : Gm} {k : Nat} (T : Tx Γ) {f : Addr} {fd : FuncData} (F : Fun Γ.K "split" "Falling.split" st_Falling_split f fd) : FnOk Γ.P Γ.w Γ.K Γ.mg Γ.base (L2.CX Γ.P Γ.w) (k + 1) f fd ["self", "total", "place"] (spD Γ.nm (atC "Falling" mw_split)) := by
  refine fnD F sc_Falling_split (fun ds P h => ?_) (fun cdv A outer s H E G0 ds P jx hr ps h => ?_)
  · obtain ⟨w, rest, _, _, rfl, h⟩ := h; first | (obtain ⟨rfl, _⟩ := h; rfl) | (obtain ⟨_, rfl, _⟩ := h; rfl) | (obtain ⟨_, _, rfl, _⟩ := h; rfl) | (obtain ⟨_, _, _, rfl, _⟩ := h; rfl) | (obtain ⟨_, _, _, _, rfl, _⟩ := h; rfl) | (obtain ⟨_, _, _, _, _, rfl, _⟩ := h; rfl) | (obtain ⟨_, _, _, _, _, _, rfl, _⟩ := h; rfl) | (obtain ⟨_, _, _, _, _, _, _, rfl, _⟩ := h; rfl) | (obtain ⟨_, _, _, _, _, _, _, _, rfl, _⟩ := h; rfl) | (obtain ⟨_, _, _, _, _, _, _, _, _, rfl, _⟩ := h; rfl)
  have nd : N_Falling_split.Nodup := sc_Falling_split.nd
  refine ⟨_, (jss_one (js_raise jx T.x_NoRatio rfl rfl)), ?_⟩
  obtain ⟨w, rest, hw, ok, rfl, a, n, rfl, ha, hz, hn, _, p⟩ := h
  cases w <;> first | (cases hw; done) | skip
  have p := p rfl
  walk_at "g"
  exact p

def M_nought : MD := fun ds P => ∃ w : WayM, ds = [w.d] ∧ w.cls ∈ LC ∧ P (.ret w.nought.d)
theorem ok_nought {Γ : Gm} {k : Nat} (T : Tx Γ) {f : Addr} {fd : FuncData} (F : Fun Γ.K "nought" "nought" st_nought f fd) : FnOk Γ.P Γ.w Γ.K Γ.mg Γ.base (L2.CX Γ.P Γ.w) (k + 1) f fd ["way"] (spD Γ.nm M_nought) := by
  refine fnD F sc_nought (fun ds P h => ?_) (fun cdv A outer s H E G0 ds P jx hr ps h => ?_)
  · first | (obtain ⟨rfl, _⟩ := h; rfl) | (obtain ⟨_, rfl, _⟩ := h; rfl) | (obtain ⟨_, _, rfl, _⟩ := h; rfl) | (obtain ⟨_, _, _, rfl, _⟩ := h; rfl) | (obtain ⟨_, _, _, _, rfl, _⟩ := h; rfl) | (obtain ⟨_, _, _, _, _, rfl, _⟩ := h; rfl) | (obtain ⟨_, _, _, _, _, _, rfl, _⟩ := h; rfl) | (obtain ⟨_, _, _, _, _, _, _, rfl, _⟩ := h; rfl) | (obtain ⟨_, _, _, _, _, _, _, _, rfl, _⟩ := h; rfl) | (obtain ⟨_, _, _, _, _, _, _, _, _, rfl, _⟩ := h; rfl)
  have nd : N_nought.Nodup := sc_nought.nd
  refine ⟨_, (jss_cons (js_if (jt_val (je_isi Γ (.own "Pairs") rfl T.m_isinstance (jv 0) (pn_own "Pairs" rfl T.g_Pairs))) (jss_one (js_ret (je_tup (ja_cons je_int (ja_cons je_int ja_nil))))) jss_nil) (jss_one (js_ret je_int))), ?_⟩
  obtain ⟨w, rfl, hw, p⟩ := h
  walk_at "g"
  refine And.intro (T.is_Pairs w hw).1 (Exists.intro _ (And.intro (T.is_Pairs w hw).2 ?_))
  rw [is_pairs w]
  cases w <;> (walk_at "g"; exact p)

def M_look_at_way : MD := fun ds P => ∃ w : WayM, ds = [w.d] ∧ w.cls ∈ LC ∧ (w.mach = true → P (.ret .non)) ∧ (w.mach = false → P (.exn "NoRatio"))
theorem ok_look_at_way {Γ : Gm} {k : Nat} (T : Tx Γ) {f : Addr} {fd : FuncData} (F : Fun Γ.K "look_at_way" "look_at_way" st_look_at_way f fd) : FnOk Γ.P Γ.w Γ.K Γ.mg Γ.base (L2.CX Γ.P Γ.w) (k + 1) f fd ["way"] (spD Γ.nm M_look_at_way) := by
  refine fnD F sc_look_at_way (fun ds P h => ?_) (fun cdv A outer s H E G0 ds P jx hr ps h => ?_)
  · first | (obtain ⟨rfl, _⟩ := h; rfl) | (obtain ⟨_, rfl, _⟩ := h; rfl) | (obtain ⟨_, _, rfl, _⟩ := h; rfl) | (obtain ⟨_, _, _, rfl, _⟩ := h; rfl) | (obtain ⟨_, _, _, _, rfl, _⟩ := h; rfl) | (obtain ⟨_, _, _, _, _, rfl, _⟩ := h; rfl) | (obtain ⟨_, _, _, _, _, _, rfl, _⟩ := h; rfl) | (obtain ⟨_, _, _, _, _, _, _, rfl, _⟩ := h; rfl) | (obtain ⟨_, _, _, _, _, _, _, _, rfl, _⟩ := h; rfl) | (obtain ⟨_, _, _, _, _, _, _, _, _, rfl, _⟩ := h; rfl)
  have nd : N_look_at_way.Nodup := sc_look_at_way.nd
  refine ⟨_, (jss_one (js_if (JW.jt (jw_or (jt_val (je_isi Γ (.own "Growing") rfl T.m_isinstance (jv 0) (pn_own "Growing" rfl T.g_Growing))) (jw_or1 (jt_val (je_isi Γ (.own "Falling") rfl T.m_isinstance (jv 0) (pn_own "Falling" rfl T.g_Falling)))))) (jss_one (js_raise jx T.x_NoRatio rfl rfl)) jss_nil)), ?_⟩
  obtain ⟨w, rfl, hw, p1, p0⟩ := h
  walk_at "g"
  refine And.intro (T.is_Growing w hw).1 (Exists.intro _ (And.intro (T.is_Growing w hw).2 ?_))
  rw [is_grow w]
  cases hG : w.isGrow with
  | true =>
    walk_at "g"
    exact p0 (by cases w <;> first | rfl | cases hG)
  | false =>
    walk_at "g"
    refine And.intro (T.is_Falling w hw).1 (Exists.intro _ (And.intro (T.is_Falling w hw).2 ?_))
    rw [is_fall w]
    cases hF : w.isFall with
    | true =>
      walk_at "g"
      exact p0 (by cases w <;> first | rfl | cases hF)
    | false =>
      walk_at "g"
      exact p1 (by
        cases w with
        | grow m => cases hG
        | fall m => cases hF
        | _ => rfl)
def M_look_at_span : MD := fun ds P => ∃ (w : WayM) (low high : Int), ds = [w.d, .int low, .int high] ∧ w.cls ∈ LC ∧ w.ok ∧ (w.spanOk low high → P (.ret .non)) ∧ (¬ w.spanOk low high → P (.exn "NoSpan"))
theorem ok_look_at_span {Γ : Gm} {k : Nat} (T : Tx Γ) {f : Addr} {fd : FuncData} (F : Fun Γ.K "look_at_span" "look_at_span" st_look_at_span f fd) (w_high : WM LC Γ k "high" 2 mw_high) : FnOk Γ.P Γ.w Γ.K Γ.mg Γ.base (L2.CX Γ.P Γ.w) (k + 1) f fd ["way", "low", "high"] (spD Γ.nm M_look_at_span) := by
  refine fnD F sc_look_at_span (fun ds P h => ?_) (fun cdv A outer s H E G0 ds P jx hr ps h => ?_)
  · first | (obtain ⟨rfl, _⟩ := h; rfl) | (obtain ⟨_, rfl, _⟩ := h; rfl) | (obtain ⟨_, _, rfl, _⟩ := h; rfl) | (obtain ⟨_, _, _, rfl, _⟩ := h; rfl) | (obtain ⟨_, _, _, _, rfl, _⟩ := h; rfl) | (obtain ⟨_, _, _, _, _, rfl, _⟩ := h; rfl) | (obtain ⟨_, _, _, _, _, _, rfl, _⟩ := h; rfl) | (obtain ⟨_, _, _, _, _, _, _, rfl, _⟩ := h; rfl) | (obtain ⟨_, _, _, _, _, _, _, _, rfl, _⟩ := h; rfl) | (obtain ⟨_, _, _, _, _, _, _, _, _, rfl, _⟩ := h; rfl)
  have nd : N_look_at_span.Nodup := sc_look_at_span.nd
  refine ⟨_, (jss_cons (js_set (i := 3) nd rfl (by first | exact Or.inl rfl | exact Or.inr rfl) (je_globI rfl T.g_FARTHEST.choose_spec)) (jss_cons (js_if (jt_val (je_isi Γ (.own "Pairs") rfl T.m_isinstance (jv 0) (pn_own "Pairs" rfl T.g_Pairs))) (jss_one (js_set (i := 3) nd rfl (by first | exact Or.inl rfl | exact Or.inr rfl) (je_callB (k_min rfl) rfl T.m_min (by decide +kernel) (ja_cons (jv 3) (ja_cons (je_op o_mul je_int (je_meth Γ 2 jx hr (pv 0) (ja_cons je_int ja_nil))) ja_nil))))) jss_nil) (jss_one (js_if (JW.jt (jw_or (jt_not (jt_chain o_le o_le (je_op o_sub je_int (jv 3)) (jv 1) je_int)) (jw_or1 (jt_not (jt_chain o_le o_le je_int (jv 2) (jv 3)))))) (jss_one (js_raise jx T.x_NoSpan rfl rfl)) jss_nil)))), ?_⟩
  obtain ⟨w, low, high, rfl, hw, ok, p1, p0⟩ := h
  walk_at "g"
  refine And.intro (T.is_Pairs w hw).1 (Exists.intro _ (And.intro (T.is_Pairs w hw).2 ?_))
  rw [is_pairs w]
  cases hP : w.isPairs with
  | false =>
    have e : w.far = 60 := by
      cases w with
      | pairs m => cases hP
      | _ => rfl
    walk_at "g"
    unfold WayM.spanOk at p1 p0
    rw [e] at p1 p0
    by_cases h1 : 0 - 60 ≤ low
    · walk_at "g"
      by_cases h2 : low ≤ 0
      · walk_at "g"
        by_cases h3 : 0 ≤ high
        · walk_at "g"
          by_cases h4 : high ≤ 60
          · walk_at "g"
            exact p1 ⟨⟨h1, h2⟩, h3, h4⟩
          · walk_at "g"
            exact p0 fun z => h4 z.2.2
        · walk_at "g"
          exact p0 fun z => h3 z.2.1
      · walk_at "g"
        exact p0 fun z => h2 z.1.2
    · walk_at "g"
      exact p0 fun z => h1 z.1.1
  | true =>
    obtain ⟨m, rfl⟩ : ∃ m, w = .pairs m := by cases w <;> first | exact ⟨_, rfl⟩ | cases hP
    walk_at "g"
    refine meth_way w_high (.pairs m) hw ok (nf_high _) rfl ?_
    walk_at "g"
    refine ⟨.pairs m, _, rfl, ok, rfl, 0, rfl, ?_⟩
    walk_at "g"
    have e : (if 2 * (WayM.pairs m).high 0 < 60 then 2 * (WayM.pairs m).high 0 else 60) = (WayM.pairs m).far := by
      show (if 2 * (m * m) < 60 then 2 * (m * m) else 60) = min 60 (2 * (m * m))
      rw [Int.min_def]
      split <;> split <;> omega
    rw [e]
    unfold WayM.spanOk at p1 p0
    revert p1 p0
    generalize (WayM.pairs m).far = N
    intro p1 p0
    by_cases h1 : 0 - N ≤ low
    · walk_at "g"
      by_cases h2 : low ≤ 0
      · walk_at "g"
        by_cases h3 : 0 ≤ high
        · walk_at "g"
          by_cases h4 : high ≤ N
          · walk_at "g"
            exact p1 ⟨⟨h1, h2⟩, h3, h4⟩
          · walk_at "g"
            exact p0 fun z => h4 z.2.2
        · walk_at "g"
          exact p0 fun z => h3 z.2.1
      · walk_at "g"
        exact p0 fun z => h2 z.1.2
    · walk_at "g"
      exact p0 fun z => h1 z.1.1
def MF_fill : List D → List D → (List D → DC → Prop) → Prop := fun ds l K => ∃ (w : WayM) (low high : Int), ds = [w.d, .int low, .int high] ∧ l = [w.nought.d] ∧ w.cls ∈ LC ∧ w.ok ∧ w.mach = true ∧ w.spanOk low high ∧
  ∀ (known : List Num) (c : DC), w.Mach low high known → RowsOk w c.F low high known → K (numsD known) c
abbrev spFillM (nm : Nm) : Sp := spFill nm "Machine" ["way", "least", "greatest"] "known" "table" MF_fill
theorem ok_Machine_fill {Γ : Gm} {k : Nat} (T : Tx Γ) {f : Addr} {fd : FuncData} (F : Fun Γ.K "fill" "Machine.fill" st_Machine_fill f fd) (c_added : Cal Γ k "added" 2 M_added) (w_split : WM LC Γ k "split" 3 mw_split) :
    FnOk Γ.P Γ.w Γ.K Γ.mg Γ.base (L2.CX Γ.P Γ.w) (k + 1) f fd ["self"] (spFillM Γ.nm) := by
  refine fnFill F sc_Machine_fill (by decide) (fun cdv A outer s H E G y dy pk pt ws ds l K => ?_)
  intro S hne hself rws jx hr ps m
  obtain ⟨w, low, high, rfl, rfl, hw, ok, hm, hsp, done⟩ := m
  obtain ⟨wv, rfl, rwv⟩ : ∃ wv, ws = [wv, .int low, .int high] ∧ Rep Γ.nm G wv w.d := by
    cases rws with
    | cons r1 rws =>
      cases rws with
      | cons r2 rws =>
        cases rws with
        | cons r3 rws =>
          cases rws
          cases r2
          cases r3
          exact ⟨_, rfl, r1⟩
  have nd : N_Machine_fill.Nodup := sc_Machine_fill.nd
  have hu : S.X.A.units + 64 < cLine := hr.units
  have hpk : S.B pk = none := if_pos (Or.inl rfl)
  have hpt : S.B pt = none := if_pos (Or.inr rfl)
  have yk := hself.ne hpk
  have yt := hself.ne hpt
  have lw : (selfFs ["way", "least", "greatest"] [wv, .int low, .int high] "known" "table" pk pt).lookup ("way" : Str) = some wv := by rfl
  have ll : (selfFs ["way", "least", "greatest"] [wv, .int low, .int high] "known" "table" pk pt).lookup ("least" : Str) = some (.int low) := by rfl
  have lg : (selfFs ["way", "least", "greatest"] [wv, .int low, .int high] "known" "table" pk pt).lookup ("greatest" : Str) = some (.int high) := by rfl
  have lk : (selfFs ["way", "least", "greatest"] [wv, .int low, .int high] "known" "table" pk pt).lookup ("known" : Str) = some (.ref pk) := by rfl
  have lt : (selfFs ["way", "least", "greatest"] [wv, .int low, .int high] "known" "table" pk pt).lookup ("table" : Str) = some (.ref pt) := by rfl
  have V3 : ∀ {G : Hp}, Reps Γ.nm G [wv, .int low, .int high] [w.d, .int low, .int high] → Rep Γ.nm G wv w.d := fun r => by
    cases r with
    | cons r _ => exact r
  have n1 : y ∉ [pk, pt] := by simp [yk, yt]
  have n2 : ∀ {p4 : Addr}, S.B p4 = none → y ∉ [p4, pk, pt] := fun h => by simp [yk, yt, hself.ne h]
  refine ⟨_, (show JSXs S (partF Γ.nm pk pt [wv, .int low, .int high] [w.d, .int low, .int high]) (defBody st_Machine_fill) _ from (jxs_beginS (i := 1) (b := w.isPairs) jx hr.units nd rfl (by first | exact Or.inl rfl | exact Or.inr rfl) (fun a G H w jx => je_ix (je_selfLX hself n1 T.fk_known lk List.mem_cons_self w.1.1.1 w.2 rfl (by first | exact Or.inl rfl | exact Or.inr (Or.inl rfl) | exact Or.inr (Or.inr rfl))) je_int) (fun p4 hp4 bp4 => have jx := jx_pin jx; (jxs_cons (jx_data jx (fun a4 G4 H4 w4 jx => (js_set (i := 2) nd rfl (by first | exact Or.inl rfl | exact Or.inr rfl) je_int)))
    (jxs_one (jx_while jx ps (fun a4 G4 H4 w4 jx => (jt_cmp o_lt (jv 2) (je_callB k_len rfl T.m_len (by decide +kernel) (ja_cons (je_selfLX hself.pin1 (n2 bp4) T.fk_known lk (by simp) w4.1.1.1.1 w4.2 rfl (by first | exact Or.inl rfl | exact Or.inr (Or.inl rfl) | exact Or.inr (Or.inr rfl))) ja_nil)) (nomark _)))
      (jxs_cons (jx_data jx (fun a4 G4 H4 w4 jx => (js_set (i := 3) nd rfl (by first | exact Or.inl rfl | exact Or.inr rfl) (je_ix (je_selfLX hself.pin1 (n2 bp4) T.fk_known lk (by simp) w4.1.1.1.1 w4.2 rfl (by first | exact Or.inl rfl | exact Or.inr (Or.inl rfl) | exact Or.inr (Or.inr rfl))) (jv 2)))))
      (jxs_cons (jx_for jx ps rfl (fun a4 G4 H4 w4 jx => (ji_range2 rfl T.m_range (ja_cons (je_selfFX hself.pin1 (n2 bp4) T.fk_least ll (.int _) rfl (by first | exact Or.inl rfl | exact Or.inr (Or.inl rfl) | exact Or.inr (Or.inr rfl))) (ja_cons (je_op o_add (je_selfFX hself.pin1 (n2 bp4) T.fk_greatest lg (.int _) rfl (by first | exact Or.inl rfl | exact Or.inr (Or.inl rfl) | exact Or.inr (Or.inr rfl))) je_int) ja_nil)))) (fun a4 G4 H4 w4 jx => (jg_name (i := 4) nd rfl (by first | exact Or.inl rfl | exact Or.inr rfl)))
        (jxs_cons (jx_data (τ := fun _ => tSplit w) jx (fun a4 G4 H4 w4 jx => JS.weak (js_asg (je_methE (C := w.cls) (ns := [w.fld]) (M := atC w.cls mw_split) Γ 3 jx hr (nf_split w) (w_split w hw) (je_selfFX hself.pin1 (n2 bp4) T.fk_way lw (V3 w4.1.1.2) rfl (by first | exact Or.inl rfl | exact Or.inr (Or.inl rfl) | exact Or.inr (Or.inr rfl))) (ja_cons (je_call jx c_added hr rfl (ja_cons (jv 3) (ja_cons (jv 4) ja_nil))) (ja_cons je_int ja_nil))) (jg_tup (n := 2) rfl (jgs_cons (jg_name (i := 5) nd rfl (by first | exact Or.inl rfl | exact Or.inr rfl)) (jgs_cons (jg_name (i := 6) nd rfl (by first | exact Or.inl rfl | exact Or.inr rfl)) jgs_nil)))) (by
              rintro E ρ ⟨c, t, a2, x5, x6, rfl, hc, ht, q⟩
              refine ⟨[.int w.v], rfl, ?_⟩
              walk_at "g"
              refine ⟨c, .i t, by walk_at "n", ?_⟩
              walk_at "g"
              refine ⟨w, _, rfl, ok, rfl, c.add (.i t), 0, by walk_at "n", fun h1 _ => ?_, ⟨9, ?_, by omega⟩, by omega, fun _ => ?_, fun z => ?_⟩
              · rw [add_isP, hc.1]; exact h1
              · have := WayM.inB_y hc
                have := hc.2.1
                refine ⟨?_, ?_⟩
                · rw [Num.add_x]; show (c.x + t).natAbs < 2 ^ 9; omega
                · rw [Num.add_y]; show (c.y + 0).natAbs < 2 ^ 9; omega
              · walk_at "g"
                exact q
              · exact absurd z (by rw [WayM.mach_ratio hm]; decide))))
        (jxs_cons (jx_put (T := (partF Γ.nm pk pt [wv, .int low, .int high] [w.d, .int low, .int high]).seen Γ.nm p4 w.isPairs) (p := pt) (g := fun a => a.1.2) (f := fun a c => ((a.1.1, c), a.2)) jx hr.units (by simp) (jo_self (v := .ref pt) hself.pin1 T.fk_table lt rfl (by first | exact Or.inl rfl | exact Or.inr (Or.inl rfl) | exact Or.inr (Or.inr rfl))) (fun _ _ _ w => w.1.1.2) (fun a G H c es w d => ⟨⟨⟨by
              obtain ⟨vs, e, r⟩ := w.1.1.1
              exact ⟨vs, (upd_ne hne).trans e, r⟩, d⟩, w.1.2⟩, w.2.mono (Same.refl G) (upd_ne fun z => hp4 (by rw [z]; simp))⟩)
            (fun a4 G4 H4 w4 jx => (je_tup (ja_cons (jv 5) (ja_cons (jv 6) ja_nil)))) (fun a4 G4 H4 w4 jx => (je_tup (ja_cons (jv 3) (ja_cons (jv 4) ja_nil)))))
        (jxs_one (jx_if (T := (partF Γ.nm pk pt [wv, .int low, .int high] [w.d, .int low, .int high]).seen Γ.nm p4 w.isPairs) jx (fun a4 G4 H4 w4 jx => (jt_notseen (b := w.isPairs) (c := a4.2) hr.units (jo_name (.inr List.mem_cons_self) rfl (by first | exact Or.inl rfl | exact Or.inr (Or.inl rfl) | exact Or.inr (Or.inr rfl))) (seenB w4.1.2 List.mem_cons_self) (jv 6)))
          (jxs_cons (jx_seen (T := (partF Γ.nm pk pt [wv, .int low, .int high] [w.d, .int low, .int high]).seen Γ.nm p4 w.isPairs) (b := w.isPairs) (g := fun a => a.2) (f := fun a c => (a.1, c)) jx hr.units List.mem_cons_self (jo_name (.inr List.mem_cons_self) rfl (by first | exact Or.inl rfl | exact Or.inr (Or.inl rfl) | exact Or.inr (Or.inr rfl))) (fun _ _ _ w => w.2) (seen_put hp4) (fun a4 G4 H4 w4 jx => (jv 6)))
          (jxs_one (jx_app (T := (partF Γ.nm pk pt [wv, .int low, .int high] [w.d, .int low, .int high]).seen Γ.nm p4 w.isPairs) (p := pk) (g := fun a => a.1.1) (f := fun a d => ((a.1.1 ++ [d], a.1.2), a.2)) jx (by simp) (jo_self (v := .ref pk) hself.pin1 T.fk_known lk rfl (by first | exact Or.inl rfl | exact Or.inr (Or.inl rfl) | exact Or.inr (Or.inr rfl))) (fun _ _ _ w => w.1.1.1) (fun a G H d vs w r => ⟨⟨⟨⟨vs, upd_same, r⟩, w.1.1.2.mono (Same.refl G) (upd_ne (Ne.symm hne))⟩, w.1.2⟩, w.2.mono (Same.refl G) (upd_ne fun z => hp4 (by rw [z]; simp))⟩) (fun a4 G4 H4 w4 jx => (jv 6)))))
          jxs_nil)))))
      (jxs_one (jx_data jx (fun a4 G4 H4 w4 jx => (js_aug (i := 2) nd rfl (by first | exact Or.inl rfl | exact Or.inr rfl) je_int o_iadd)))))))))))), ?_⟩
  have far := far_60 hm
  obtain ⟨⟨s1, s2⟩, s3, s4⟩ := hsp
  have sL := sizeLine_eq
  refine And.intro (by decide) ?_
  walk_at "g"
  refine ix_bor (x := w.nought.d) rfl ?_
  refine ⟨ckey w.nought, key_c _, keyB_w (WayM.nought_isP w), ?_⟩
  walk_at "g"
  refine ⟨FillW w low high, ⟨1681, _, Weak.refl _, [w.nought], 0, none, none, none, none, rfl, rfl, w.under0 low high, by rw [Nat.zero_mul]; exact .zero w low high, Nat.zero_le _, rfl⟩, ?_⟩
  rintro n ⟨⟨l, dc⟩, sc⟩ ρ ⟨known, at_, x3, x4, x5, x6, rfl, rfl, un, fi, hat, hn⟩
  refine ⟨fun hb => ?_, fun hb => ?_⟩
  · have hb : decide ((at_ : Int) < ((numsD known).length : Int)) = true := hb
    rw [nums_len] at hb
    have hlt : at_ < known.length := by simpa using hb
    obtain ⟨c, hc⟩ := nums_get hlt
    refine xSeq_go (xDat_go ?_)
    walk_at "g"
    refine ix_borN rfl hc ?_
    walk_at "g"
    refine ⟨⟨by omega, by omega, by omega, by omega⟩, _, Weak.refl _, forX_ind (FillF w low high at_ c (known.take at_)) ?_ ?_ _ _ ⟨known, x4, x5, x6, rfl, rfl, un.two hc, fi, rfl, fun i z => absurd z (Nat.not_lt_zero i)⟩⟩
    · clear un fi hc hlt hb hn
      generalize known.take at_ = pre
      rintro j d ⟨⟨l, dc⟩, sc⟩ ρ N hd ⟨known2, x4, x5, x6, rfl, rfl, un, fi, tk, rw2⟩ hN
      have hj : j < (high + 1 - low).toNat := by
        have := (List.getElem?_eq_some_iff.mp hd).1
        rwa [range_len] at this
      obtain rfl : d = .int (low + (j : Int)) := by
        simp only [rangeD, List.getElem?_map, List.getElem?_range hj, Option.map_some] at hd
        exact (Option.some.inj hd).symm
      have hin := un.inb c (List.mem_of_getElem? un.cur)
      have few := WayM.few un.nd un.inb
      have alt := (List.getElem?_eq_some_iff.mp un.cur).1
      have cap : at_ * spanN low high ≤ 1681 * 121 := Nat.mul_le_mul (by omega) (by show (high + 1 - low).toNat ≤ 121; omega)
      have nx := un.next ok hm ⟨⟨s1, s2⟩, s3, s4⟩ hj
      have fn : dc.n < sizeLine := by have := fi.n; have : dc.n = at_ * spanN low high + j := this; omega
      have sn : sc.n < sizeLine := by have := fi.sn; have : sc.n = known2.length := this; omega
      walk_at "g"
      refine ⟨c, low + (j : Int), _, _, _, rfl, hin, ⟨by omega, by omega⟩, ?_⟩
      dsimp only
      refine xSeq_go ?_
      walk_at "g"
      have two : 2 ≤ sizeLine := by omega
      refine ⟨any_ic _ _, two, rfl, any_ci _ _, two, [ckey c, .num (low + (j : Int))], by simp only [Num.n1, Num.n2]; exact key_ct c _, ktab_depth c (low + (j : Int)), fn, ?_⟩
      have fi := fi.put (c := c) (t := low + (j : Int))
      dsimp only
      simp only [Num.n1, Num.n2]
      have kb : KeyB w.isPairs (ckey (w.stepC c (low + (j : Int)))) := keyB_w (WayM.carry_isP w _ _)
      have rwn : ∀ i : Nat, i < j + 1 → (if ktab c (low + (i : Int)) = ktab c (low + (j : Int)) then some (tabV w c (low + (j : Int))) else dc.F (ktab c (low + (i : Int)))) = some (tabV w c (low + (i : Int))) := fun i hi => by
        by_cases e : ktab c (low + (i : Int)) = ktab c (low + (j : Int))
        · rw [if_pos e, (ktab_inj e).2]
        · rw [if_neg e]
          refine rw2 i ?_
          by_cases ij : i = j
          · subst ij; exact absurd rfl e
          · omega
      have fm := fi.m (w.stepC c (low + (j : Int)))
      refine ⟨ckey (w.stepC c (low + (j : Int))), by simp only [Num.n1]; exact key_c _, kb, ?_, ?_⟩
      · intro hb
        have hb : (!sc.M (ckey (w.stepC c (low + (j : Int))))) = true := hb
        have hnot : w.stepC c (low + (j : Int)) ∉ known2 := fun z => by
          have fm : sc.M (ckey (w.stepC c (low + (j : Int)))) = _ := fm
          rw [fm, decide_eq_true z] at hb
          cases hb
        rw [show WayM.grow1 known2 (w.stepC c (low + (j : Int))) = known2 ++ [w.stepC c (low + (j : Int))] from if_neg hnot] at nx
        refine xSeq_go ?_
        refine ⟨ckey (w.stepC c (low + (j : Int))), by simp only [Num.n1]; exact key_c _, kb, sn, ?_⟩
        refine ⟨Num.n3 _, by simp only [Num.n1, Num.n4], by show (numsD known2).length < _; rw [nums_len]; omega, ?_⟩
        refine hN _ _ _ ⟨known2 ++ [w.stepC c (low + (j : Int))], _, _, _, ?_, rfl, nx, fi.see, by rw [List.take_append_of_le_length (by omega)]; exact tk, rwn⟩ (Weak.refl _)
        rw [numsD_app]
        simp only [Num.n1]
        rfl
      · intro hb
        have hb : (!sc.M (ckey (w.stepC c (low + (j : Int))))) = false := hb
        have hin2 : w.stepC c (low + (j : Int)) ∈ known2 := by
          have fm : sc.M (ckey (w.stepC c (low + (j : Int)))) = _ := fm
          rw [fm] at hb
          simpa using hb
        rw [show WayM.grow1 known2 (w.stepC c (low + (j : Int))) = known2 from if_pos hin2] at nx
        exact hN _ _ _ ⟨known2, _, _, _, rfl, rfl, nx, fi, tk, rwn⟩ (Weak.refl _)
    · rintro ⟨⟨l, dc⟩, sc⟩ ρ ⟨known2, x4, x5, x6, rfl, rfl, un2, fi2, tk, rw2⟩
      rw [range_len] at un2 fi2 rw2
      have few := WayM.few un2.nd un2.inb
      have alt := (List.getElem?_eq_some_iff.mp un2.cur).1
      have tk2 : known2.take (at_ + 1) = known2.take at_ ++ [c] := by rw [List.take_succ_eq_append_getElem alt, (List.getElem?_eq_some_iff.mp un2.cur).2]
      dsimp only
      refine xDat_go ?_
      walk_at "g"
      refine ⟨n - 1, _, by omega, Weak.refl _, known2, at_ + 1, _, _, _, _, rfl, rfl, un2.done, ⟨?_, ?_, fi2.m, fi2.sn⟩, alt, by omega⟩
      · rw [tk2, tk]
        intro c' hc' t h1 h2
        rcases List.mem_append.mp hc' with hc' | hc'
        · exact fi2.rows c' hc' t h1 h2
        · obtain rfl := List.mem_singleton.mp hc'
          have := rw2 (t - low).toNat (by omega)
          rwa [show low + ((t - low).toNat : Int) = t by omega] at this
      · rw [Nat.succ_mul]
        exact fi2.n
  · have hb : decide ((at_ : Int) < ((numsD known).length : Int)) = false := hb
    rw [nums_len] at hb
    have hlt : known.length ≤ at_ := by simpa using hb
    obtain rfl : at_ = known.length := by omega
    rw [List.take_length] at fi
    exact done known _ ⟨ok, hm, ⟨⟨s1, s2⟩, s3, s4⟩, un⟩ fi.rows
def M_Machine : MD := fun ds P => ∃ (w : WayM) (low high : Int), ds = [w.d, .int low, .int high] ∧ w.cls ∈ LC ∧ w.ok ∧ (w.mach = false → P (.exn "NoRatio")) ∧ (w.mach = true → ¬ w.spanOk low high → P (.exn "NoSpan")) ∧
  (w.mach = true → w.spanOk low high → ∀ known ks ds2, MachD w low high known ks ds2 → P (.ret (machD w low high known ks ds2)))
theorem ok_Machine___init__ {Γ : Gm} {k : Nat} (T : Tx Γ) {f : Addr} {fd : FuncData} (F : Fun Γ.K "__init__" "Machine.__init__" st_Machine___init__ f fd) (c_look_at_way : Cal Γ k "look_at_way" 1 M_look_at_way) (c_look_at_span : Cal Γ k "look_at_span" 3 M_look_at_span) (c_nought : Cal Γ k "nought" 1 M_nought)
    (c_fill : CalF Γ k "Machine" "fill" 1 (spFillM Γ.nm)) : FnOk Γ.P Γ.w Γ.K Γ.mg Γ.base (L2.CX Γ.P Γ.w) (k + 1) f fd ["self", "way", "low", "high"] (spMk Γ.nm "Machine" M_Machine) := by
  refine F.okX sc_Machine___init__ (fun vs H Q E h => ?_) fun cdv A outer s H vs Q E hr h => ?_
  · obtain ⟨_, _, us, ds, _, _, rfl, _, _, _, _, rs, ⟨_, _, _, rfl, _⟩, _⟩ := h
    have := rs.length
    simpa using this
  · obtain ⟨x, dx, us, ds, G, P, rfl, gh, gx, hx, hd, rs, ⟨w, low, high, rfl, hw, ok, p0, p1, p2⟩, q1, q2⟩ := h
    obtain ⟨wv, rfl, rw_⟩ : ∃ wv, us = [wv, .int low, .int high] ∧ Rep Γ.nm G wv w.d := by
      cases rs with
      | cons r1 rs =>
        cases rs with
        | cons r2 rs =>
          cases rs with
          | cons r3 rs =>
            cases rs
            cases r2
            cases r3
            exact ⟨_, rfl, r1⟩
    obtain ⟨f1, fd1, ps1, _, F1, m1, k1, b1⟩ := c_look_at_way.ex
    obtain ⟨f2, fd2, ps2, _, F2, m2, k2, b2⟩ := c_look_at_span.ex
    obtain ⟨f3, fd3, ps3, _, F3, m3, k3, b3⟩ := c_nought.ex
    obtain ⟨f4, fd4, ps4, _, F4, c4, m4, b4⟩ := c_fill.ex
    have tk := takes_of (X := cxOf (L2.CX Γ.P Γ.w) Γ.P Γ.w Γ.K Γ.mg Γ.base N_Machine___init__ "Machine.__init__" (defScope st_Machine___init__) f cdv A outer s H E) rfl rfl rfl rfl
    have ww := Γ.ww
    refine ⟨_, pss_cons (ps_expr (pe_callS F1 hr rfl m1 k1 b1 (fun σ => passAt tk σ) (pa_cons (pv 1) pa_nil))) (pss_cons (ps_expr (pe_callS F2 hr rfl m2 k2 b2 (fun σ => passAt tk σ) (pa_cons (pv 1) (pa_cons (pv 2) (pa_cons (pv 3) pa_nil)))))
      (pss_cons (ps_fld (pv 0) (pv 1) rfl) (pss_cons (ps_fld (pv 0) (pv 2) rfl) (pss_cons (ps_fld (pv 0) (pv 3) rfl) (pss_cons (ps_fld (pv 0) (pe_lst (pa_cons (pe_callS F3 hr rfl m3 k3 b3 (fun σ => passAt tk σ) (pa_cons (pv 1) pa_nil)) pa_nil)) rfl)
      (pss_cons (ps_fld (pv 0) (pe_dnewXw ww.symm) rfl) (pss_one (ps_expr (pe_methS0 (pv 0) c4 m4 F4 hr b4 (fun σ => passAt tk σ)))))))))), ?_⟩
    exact mk_read (w := w) (low := low) (high := high) (P := P) (fun y hy => by
        simp only [mFs, List.mem_cons, List.not_mem_nil, or_false] at hy
        rcases hy with rfl | rfl | rfl | rfl | rfl
        · exact T.fk_way
        · exact T.fk_least
        · exact T.fk_greatest
        · exact T.fk_known
        · exact T.fk_table) (fun _ _ _ => rfl) rfl rfl rfl rfl gh gx hx rw_ (fun P' h1 h2 => ⟨w, rfl, hw, h1, h2⟩) (fun P' h1 h2 => ⟨w, low, high, rfl, hw, ok, h1, h2⟩) (fun P' h1 => ⟨w, rfl, hw, h1⟩)
      (fun hm hs => ⟨w, low, high, rfl, rfl, hw, ok, hm, hs, fun known c mc ro => ⟨known, rfl, mc, ro⟩⟩) p0 p1 p2 q1 q2
local macro_rules | `(tactic| walk_at "h") => `(tactic| (refine And.intro (by show FldOk _ _ _ _; assumption) (Exists.intro _ (And.intro (by with_unfolding_all rfl) ?_))))
def MM_carries : MD := fun ds P => ∃ (w : WayM) (low high : Int) (known : List Num) (ks : List NestedKey) (ds2 : List D), ds = [machD w low high known ks ds2] ∧ known.length ≤ 1681 ∧ P (.ret (.own (numsD known)))
theorem ok_Machine_carries {Γ : Gm} {k : Nat} (T : Tx Γ) {f : Addr} {fd : FuncData} (F : Fun Γ.K "carries" "Machine.carries" st_Machine_carries f fd) : FnOk Γ.P Γ.w Γ.K Γ.mg Γ.base (L2.CX Γ.P Γ.w) (k + 1) f fd ["self"] (spD Γ.nm MM_carries) := by
  refine fnD F sc_Machine_carries (fun ds P h => ?_) (fun cdv A outer s H E G0 ds P jx hr ps h => ?_)
  · first | (obtain ⟨rfl, _⟩ := h; rfl) | (obtain ⟨_, rfl, _⟩ := h; rfl) | (obtain ⟨_, _, rfl, _⟩ := h; rfl) | (obtain ⟨_, _, _, rfl, _⟩ := h; rfl) | (obtain ⟨_, _, _, _, rfl, _⟩ := h; rfl) | (obtain ⟨_, _, _, _, _, rfl, _⟩ := h; rfl) | (obtain ⟨_, _, _, _, _, _, rfl, _⟩ := h; rfl) | (obtain ⟨_, _, _, _, _, _, _, rfl, _⟩ := h; rfl) | (obtain ⟨_, _, _, _, _, _, _, _, rfl, _⟩ := h; rfl) | (obtain ⟨_, _, _, _, _, _, _, _, _, rfl, _⟩ := h; rfl)
  have nd : N_Machine_carries.Nodup := sc_Machine_carries.nd
  refine ⟨_, (jss_one (js_ret (je_callTy k_list rfl T.m_list (by decide +kernel) (ja_cons (je_fld Γ (jv 0)) ja_nil)))), ?_⟩
  obtain ⟨w, low, high, known, ks, ds2, rfl, hl, p⟩ := h
  have fk := T.fk_known
  unfold machD
  walk_at "g"
  exact p
def MM_rows : MD := fun ds P => ∃ (w : WayM) (low high : Int) (known : List Num) (ks : List NestedKey) (ds2 : List D), ds = [machD w low high known ks ds2] ∧ MachD w low high known ks ds2 ∧ P (.ret (.own (rowsM w low high known)))
theorem ok_Machine_rows {Γ : Gm} {k : Nat} (T : Tx Γ) {f : Addr} {fd : FuncData} (F : Fun Γ.K "rows" "Machine.rows" st_Machine_rows f fd) : FnOk Γ.P Γ.w Γ.K Γ.mg Γ.base (L2.CX Γ.P Γ.w) (k + 1) f fd ["self"] (spD Γ.nm MM_rows) := by
  refine fnD F sc_Machine_rows (fun ds P h => ?_) (fun cdv A outer s H E G0 ds P jx hr ps h => ?_)
  · first | (obtain ⟨rfl, _⟩ := h; rfl) | (obtain ⟨_, rfl, _⟩ := h; rfl) | (obtain ⟨_, _, rfl, _⟩ := h; rfl) | (obtain ⟨_, _, _, rfl, _⟩ := h; rfl) | (obtain ⟨_, _, _, _, rfl, _⟩ := h; rfl) | (obtain ⟨_, _, _, _, _, rfl, _⟩ := h; rfl) | (obtain ⟨_, _, _, _, _, _, rfl, _⟩ := h; rfl) | (obtain ⟨_, _, _, _, _, _, _, rfl, _⟩ := h; rfl) | (obtain ⟨_, _, _, _, _, _, _, _, rfl, _⟩ := h; rfl) | (obtain ⟨_, _, _, _, _, _, _, _, _, rfl, _⟩ := h; rfl)
  have nd : N_Machine_rows.Nodup := sc_Machine_rows.nd
  refine ⟨_, (jss_cons (js_set (i := 1) nd rfl (by first | exact Or.inl rfl | exact Or.inr rfl) (je_lst ja_nil)) (jss_cons (js_for ps rfl (ji_of (je_fld Γ (jv 0))) (jg_name (i := 2) nd rfl (by first | exact Or.inl rfl | exact Or.inr rfl)) (jss_one (js_for ps rfl (ji_range2 rfl T.m_range (ja_cons (je_fld Γ (jv 0)) (ja_cons (je_op o_add (je_fld Γ (jv 0)) je_int) ja_nil))) (jg_name (i := 3) nd rfl (by first | exact Or.inl rfl | exact Or.inr rfl)) (jss_one (js_mut 1 PySem.F.slot_list_append PySem.F.type_list_append m_append (pv 1) (ja_cons (je_op o_add (je_tup (ja_cons (jv 2) (ja_cons (jv 3) ja_nil))) (je_dixF hr.units (je_fld Γ (jv 0)) (je_tup (ja_cons (jv 2) (ja_cons (jv 3) ja_nil))))) ja_nil)))))) (jss_one (js_retv 1 (pv 1))))), ?_⟩
  obtain ⟨w, low, high, known, ks, ds2, rfl, md, p⟩ := h
  have fk := T.fk_known
  have fl := T.fk_least
  have fg := T.fk_greatest
  have ft := T.fk_table
  unfold machD
  walk_at "g"
  obtain ⟨mc, ro⟩ := md
  have sL := sizeLine_eq
  have two : 2 ≤ sizeLine := by omega
  have four : 4 ≤ sizeLine := by omega
  have few := mc.few
  obtain ⟨⟨s1, s2⟩, s3, s4⟩ := mc.sp
  have far := far_60 mc.mc
  refine ⟨_, Weak.refl _, for_at (fun _ => True) (fun i => [some (machD w low high known ks ds2), some (.own (rowsM w low high (known.take i))), none, none]) trivial ?_ ?_⟩
  · intro i d N hd _ hN
    obtain ⟨c, hc, rfl⟩ := at_nums hd
    unfold machD
    walk_at "g"
    refine ⟨⟨by omega, by omega, by omega, by omega⟩, _, Weak.refl _, ?_⟩
    rw [← List.append_nil (rowsM w low high (List.take i known))]
    refine for_range (lo := low) (n := (high + 1 - low).toNat) (fun _ => True) (fun j => [some (machD w low high known ks ds2), some (.own (rowsM w low high (known.take i) ++ ((WayM.spanL low high).take j).map (rowD w c))), some c.d, none]) trivial ?_ ?_
    · intro j N2 hj _ hN2
      unfold machD
      walk_at "g"
      have hcm := List.mem_of_getElem? hc
      have hi := (List.getElem?_eq_some_iff.mp hc).1
      refine ⟨any_ci _ _, two, ?_⟩
      refine dixM (c := c) (t := low + (j : Int)) (y := tabV w c (low + (j : Int))) (fun Q q => ⟨ft, _, rfl, q⟩) (ro c hcm _ (by omega) (by omega)) (fun Q q => ⟨any_ci _ _, two, by simp only [Num.n1, Num.n2]; exact q⟩) ?_
      refine ⟨by simp, by simp, four, ?_⟩
      refine ⟨rfl, ?_, ?_⟩
      · have cap : (known.take i).length * (high + 1 - low).toNat ≤ 1681 * 121 := Nat.mul_le_mul (by rw [List.length_take]; omega) (by omega)
        have hjl : ((WayM.spanL low high).take j).length ≤ j := by rw [List.length_take]; omega
        rw [List.length_append, rowsM_len, List.length_map]
        omega
      · walk_at "g"
        refine hN2 trivial _ ?_
        rw [WayM.spanL_take hj, List.map_append, ← List.append_assoc]
        simp only [Num.n1, Num.n2]
        walk_at "w"
    · intro _
      refine hN trivial _ ?_
      rw [List.take_of_length_le (l := WayM.spanL low high) (by simp [WayM.spanL]), List.take_succ_eq_append_getElem (List.getElem?_eq_some_iff.mp hc).1, (List.getElem?_eq_some_iff.mp hc).2, rowsM_snoc]
      walk_at "w"
  · intro _
    rw [nums_len, List.take_length]
    walk_at "g"
    exact p
def M__law_cell_at : MD := fun ds P => ∃ (ns : List Int) (n : Nat), ds = [.scr (intsD ns), .int n] ∧ ∀ c : Int, P (.ret (.int c))
theorem ok__law_cell_at {Γ : Gm} {k : Nat} (T : Tx Γ) {f : Addr} {fd : FuncData} (F : Fun Γ.K "_law_cell_at" "_law_cell_at" st__law_cell_at f fd) : FnOk Γ.P Γ.w Γ.K Γ.mg Γ.base (L2.CX Γ.P Γ.w) (k + 1) f fd ["_law_script", "_law_k"] (spD Γ.nm M__law_cell_at) := by
  refine fnD F sc__law_cell_at (fun ds P h => ?_) (fun cdv A outer s H E G0 ds P jx hr ps h => ?_)
  · first | (obtain ⟨rfl, _⟩ := h; rfl) | (obtain ⟨_, rfl, _⟩ := h; rfl) | (obtain ⟨_, _, rfl, _⟩ := h; rfl) | (obtain ⟨_, _, _, rfl, _⟩ := h; rfl) | (obtain ⟨_, _, _, _, rfl, _⟩ := h; rfl) | (obtain ⟨_, _, _, _, _, rfl, _⟩ := h; rfl) | (obtain ⟨_, _, _, _, _, _, rfl, _⟩ := h; rfl) | (obtain ⟨_, _, _, _, _, _, _, rfl, _⟩ := h; rfl) | (obtain ⟨_, _, _, _, _, _, _, _, rfl, _⟩ := h; rfl) | (obtain ⟨_, _, _, _, _, _, _, _, _, rfl, _⟩ := h; rfl)
  have nd : N__law_cell_at.Nodup := sc__law_cell_at.nd
  refine ⟨_, (jss_cons (js_if (jt_cmp o_lt (jv 1) (je_callB k_len rfl T.m_len (by decide +kernel) (ja_cons (jv 0) ja_nil)) (nomark _)) (jss_one (js_ret (je_ix (jv 0) (jv 1)))) jss_nil) (jss_one (js_ret je_int))), ?_⟩
  obtain ⟨ns, n, rfl, p⟩ := h
  have hlen := ints_len ns
  walk_at "g"
  by_cases hn : n < ns.length
  · obtain ⟨x, hx⟩ := ints_get hn
    walk_at "g"
    refine ix_scr (atI_nat rfl (ints_at hx)) ?_
    walk_at "g"
    exact p x
  · walk_at "g"
    exact p 0

def nameW : WayM → Str
  | .plain _ => "plain" | .below _ => "below" | .bal _ => "balanced" | .pairs _ => "pairs" | _ => ""
theorem mach_four {w : WayM} (h : w.mach = true) : (∃ b, w = .plain b) ∨ (∃ b, w = .below b) ∨ (∃ b, w = .bal b) ∨ ∃ m, w = .pairs m := by
  cases w with
  | plain b => exact .inl ⟨b, rfl⟩
  | below b => exact .inr (.inl ⟨b, rfl⟩)
  | bal b => exact .inr (.inr (.inl ⟨b, rfl⟩))
  | pairs b => exact .inr (.inr (.inr ⟨b, rfl⟩))
  | grow b => cases h
  | fall b => cases h
theorem all_cls (w : WayM) : w.cls ∈ LC := by
  cases w <;> (show _ ∈ LC; first | exact (by decide : ("Plain" : Str) ∈ LC) | exact (by decide : ("Below" : Str) ∈ LC) | exact (by decide : ("Balanced" : Str) ∈ LC) | exact (by decide : ("Growing" : Str) ∈ LC) | exact (by decide : ("Falling" : Str) ∈ LC) | exact (by decide : ("Pairs" : Str) ∈ LC))
def M__law_way : MD := fun ds P => ∃ w : WayM, ds = [.str (nameW w), .int w.v] ∧ w.mach = true ∧ w.ok ∧ P (.ret w.d)
theorem ok__law_way {Γ : Gm} {k : Nat} (T : Tx Γ) {f : Addr} {fd : FuncData} (F : Fun Γ.K "_law_way" "_law_way" st__law_way f fd) (c_Plain : CalC Γ k "Plain" "base" 2 60) (c_Below : CalC Γ k "Below" "base" 2 60) (c_Balanced : CalC Γ k "Balanced" "half" 1 30) (c_Pairs : CalC Γ k "Pairs" "most" 1 9) : FnOk Γ.P Γ.w Γ.K Γ.mg Γ.base (L2.CX Γ.P Γ.w) ((k + 1) + 1) f fd ["_law_name", "_law_number"] (spD Γ.nm M__law_way) := by
  refine fnD F sc__law_way (fun ds P h => ?_) (fun cdv A outer s H E G0 ds P jx hr ps h => ?_)
  · first | (obtain ⟨rfl, _⟩ := h; rfl) | (obtain ⟨_, rfl, _⟩ := h; rfl) | (obtain ⟨_, _, rfl, _⟩ := h; rfl) | (obtain ⟨_, _, _, rfl, _⟩ := h; rfl) | (obtain ⟨_, _, _, _, rfl, _⟩ := h; rfl) | (obtain ⟨_, _, _, _, _, rfl, _⟩ := h; rfl) | (obtain ⟨_, _, _, _, _, _, rfl, _⟩ := h; rfl) | (obtain ⟨_, _, _, _, _, _, _, rfl, _⟩ := h; rfl) | (obtain ⟨_, _, _, _, _, _, _, _, rfl, _⟩ := h; rfl) | (obtain ⟨_, _, _, _, _, _, _, _, _, rfl, _⟩ := h; rfl)
  have nd : N__law_way.Nodup := sc__law_way.nd
  refine ⟨_, (jss_cons (js_if (jt_cmp (o_eq hr.units) (jv 0) je_str (nomark _)) (jss_one (js_ret (je_make jx c_Plain hr rfl (ja_cons (jv 1) ja_nil)))) jss_nil) (jss_cons (js_if (jt_cmp (o_eq hr.units) (jv 0) je_str (nomark _)) (jss_one (js_ret (je_make jx c_Below hr rfl (ja_cons (jv 1) ja_nil)))) jss_nil) (jss_cons (js_if (jt_cmp (o_eq hr.units) (jv 0) je_str (nomark _)) (jss_one (js_ret (je_make jx c_Balanced hr rfl (ja_cons (jv 1) ja_nil)))) jss_nil) (jss_one (js_ret (je_make jx c_Pairs hr rfl (ja_cons (jv 1) ja_nil))))))), ?_⟩
  obtain ⟨w, rfl, hm, ok, p⟩ := h
  rcases mach_four hm with ⟨b, rfl⟩ | ⟨b, rfl⟩ | ⟨b, rfl⟩ | ⟨b, rfl⟩ <;> simp only [WayM.ok] at ok <;> simp only [nameW, WayM.v] <;> (walk_at "g"; (refine ⟨_, rfl, fun _ => ?_, fun h => absurd (by omega) h⟩); walk_at "g"; exact p)
def M__law_added : MD := fun ds P => ∃ (a : Num) (n : Int), ds = [a.d, .int n] ∧ P (.ret (a.add (.i n)).d)
theorem ok__law_added {Γ : Gm} {k : Nat} (T : Tx Γ) {f : Addr} {fd : FuncData} (F : Fun Γ.K "_law_added" "_law_added" st__law_added f fd) : FnOk Γ.P Γ.w Γ.K Γ.mg Γ.base (L2.CX Γ.P Γ.w) (k + 1) f fd ["_law_one", "_law_other"] (spD Γ.nm M__law_added) := by
  refine fnD F sc__law_added (fun ds P h => ?_) (fun cdv A outer s H E G0 ds P jx hr ps h => ?_)
  · first | (obtain ⟨rfl, _⟩ := h; rfl) | (obtain ⟨_, rfl, _⟩ := h; rfl) | (obtain ⟨_, _, rfl, _⟩ := h; rfl) | (obtain ⟨_, _, _, rfl, _⟩ := h; rfl) | (obtain ⟨_, _, _, _, rfl, _⟩ := h; rfl) | (obtain ⟨_, _, _, _, _, rfl, _⟩ := h; rfl) | (obtain ⟨_, _, _, _, _, _, rfl, _⟩ := h; rfl) | (obtain ⟨_, _, _, _, _, _, _, rfl, _⟩ := h; rfl) | (obtain ⟨_, _, _, _, _, _, _, _, rfl, _⟩ := h; rfl) | (obtain ⟨_, _, _, _, _, _, _, _, _, rfl, _⟩ := h; rfl)
  have nd : N__law_added.Nodup := sc__law_added.nd
  refine ⟨_, (jss_cons (js_if (jt_not (jt_val (je_isi Γ (.ty .tup) rfl T.m_isinstance (jv 0) (pn_ty rfl T.m_tuple (by decide +kernel))))) (jss_one (js_ret (je_op o_add (jv 0) (jv 1)))) jss_nil) (jss_one (js_ret (je_tup (ja_cons (je_op o_add (je_ix (jv 0) je_int) (jv 1)) (ja_cons (je_ix (jv 0) je_int) ja_nil)))))), ?_⟩
  obtain ⟨a, n, rfl, p⟩ := h
  cases a with
  | i x =>
    walk_at "g"
    exact p
  | p x y =>
    have p : P (.ret (.tup [.int (x + n), .int (y + 0)])) := p
    rw [Int.add_zero] at p
    walk_at "g"
    exact p
def timesN (w : WayM) (c : Num) : Num := match w with
  | .plain b => .i (b * c.x)
  | .below b => .i (0 - b * c.x)
  | .bal b => .i ((2 * b + 1) * c.x)
  | .pairs m => .p (0 - m * c.x - c.y) (c.x - m * c.y)
  | _ => c
def M__law_times : MD := fun ds P => ∃ (w : WayM) (c : Num), ds = [.str (nameW w), .int w.v, c.d] ∧ w.mach = true ∧ w.ok ∧ c.isP = w.isPairs ∧ P (.ret (timesN w c).d)
theorem ok__law_times {Γ : Gm} {k : Nat} (T : Tx Γ) {f : Addr} {fd : FuncData} (F : Fun Γ.K "_law_times" "_law_times" st__law_times f fd) : FnOk Γ.P Γ.w Γ.K Γ.mg Γ.base (L2.CX Γ.P Γ.w) (k + 1) f fd ["_law_name", "_law_number", "_law_carry"] (spD Γ.nm M__law_times) := by
  refine fnD F sc__law_times (fun ds P h => ?_) (fun cdv A outer s H E G0 ds P jx hr ps h => ?_)
  · first | (obtain ⟨rfl, _⟩ := h; rfl) | (obtain ⟨_, rfl, _⟩ := h; rfl) | (obtain ⟨_, _, rfl, _⟩ := h; rfl) | (obtain ⟨_, _, _, rfl, _⟩ := h; rfl) | (obtain ⟨_, _, _, _, rfl, _⟩ := h; rfl) | (obtain ⟨_, _, _, _, _, rfl, _⟩ := h; rfl) | (obtain ⟨_, _, _, _, _, _, rfl, _⟩ := h; rfl) | (obtain ⟨_, _, _, _, _, _, _, rfl, _⟩ := h; rfl) | (obtain ⟨_, _, _, _, _, _, _, _, rfl, _⟩ := h; rfl) | (obtain ⟨_, _, _, _, _, _, _, _, _, rfl, _⟩ := h; rfl)
  have nd : N__law_times.Nodup := sc__law_times.nd
  refine ⟨_, (jss_cons (js_if (jt_cmp (o_eq hr.units) (jv 0) je_str (nomark _)) (jss_one (js_ret (je_op o_mul (jv 1) (jv 2)))) jss_nil) (jss_cons (js_if (jt_cmp (o_eq hr.units) (jv 0) je_str (nomark _)) (jss_one (js_ret (je_op o_sub je_int (je_op o_mul (jv 1) (jv 2))))) jss_nil) (jss_cons (js_if (jt_cmp (o_eq hr.units) (jv 0) je_str (nomark _)) (jss_one (js_ret (je_op o_mul (je_op o_add (je_op o_mul je_int (jv 1)) je_int) (jv 2)))) jss_nil) (jss_one (js_ret (je_tup (ja_cons (je_op o_sub (je_op o_sub je_int (je_op o_mul (jv 1) (je_ix (jv 2) je_int))) (je_ix (jv 2) je_int)) (ja_cons (je_op o_sub (je_ix (jv 2) je_int) (je_op o_mul (jv 1) (je_ix (jv 2) je_int))) ja_nil)))))))), ?_⟩
  obtain ⟨w, c, rfl, hm, ok, hp, p⟩ := h
  rcases mach_four hm with ⟨b, rfl⟩ | ⟨b, rfl⟩ | ⟨b, rfl⟩ | ⟨b, rfl⟩
  · cases c with
    | i x =>
      simp only [nameW, WayM.v, WayM.ok] at ok ⊢
      walk_at "g"
      exact p
    | p x y => cases hp
  · cases c with
    | i x =>
      simp only [nameW, WayM.v, WayM.ok] at ok ⊢
      walk_at "g"
      exact p
    | p x y => cases hp
  · cases c with
    | i x =>
      simp only [nameW, WayM.v, WayM.ok] at ok ⊢
      walk_at "g"
      exact p
    | p x y => cases hp
  · cases c with
    | i x => cases hp
    | p x y =>
      simp only [nameW, WayM.v, WayM.ok] at ok ⊢
      walk_at "g"
      exact p
def M__law_is_figure : MD := fun ds P => ∃ (w : WayM) (f : Int), ds = [.str (nameW w), .int w.v, .int f] ∧ w.mach = true ∧ w.ok ∧ (w.low 0 ≤ f ∧ f ≤ w.high 0) ∧ P (.ret (.bl true))
theorem ok__law_is_figure {Γ : Gm} {k : Nat} (T : Tx Γ) {f : Addr} {fd : FuncData} (F : Fun Γ.K "_law_is_figure" "_law_is_figure" st__law_is_figure f fd) : FnOk Γ.P Γ.w Γ.K Γ.mg Γ.base (L2.CX Γ.P Γ.w) (k + 1) f fd ["_law_name", "_law_number", "_law_figure"] (spD Γ.nm M__law_is_figure) := by
  refine fnD F sc__law_is_figure (fun ds P h => ?_) (fun cdv A outer s H E G0 ds P jx hr ps h => ?_)
  · first | (obtain ⟨rfl, _⟩ := h; rfl) | (obtain ⟨_, rfl, _⟩ := h; rfl) | (obtain ⟨_, _, rfl, _⟩ := h; rfl) | (obtain ⟨_, _, _, rfl, _⟩ := h; rfl) | (obtain ⟨_, _, _, _, rfl, _⟩ := h; rfl) | (obtain ⟨_, _, _, _, _, rfl, _⟩ := h; rfl) | (obtain ⟨_, _, _, _, _, _, rfl, _⟩ := h; rfl) | (obtain ⟨_, _, _, _, _, _, _, rfl, _⟩ := h; rfl) | (obtain ⟨_, _, _, _, _, _, _, _, rfl, _⟩ := h; rfl) | (obtain ⟨_, _, _, _, _, _, _, _, _, rfl, _⟩ := h; rfl)
  have nd : N__law_is_figure.Nodup := sc__law_is_figure.nd
  refine ⟨_, (jss_cons (js_if (JW.jt (jw_or (jt_not (jt_val (je_isi Γ (.ty .int) rfl T.m_isinstance (jv 2) (pn_ty rfl T.m_int (by decide +kernel))))) (jw_or1 (jt_val (je_isi Γ (.ty .bl) rfl T.m_isinstance (jv 2) (pn_ty rfl T.m_bool (by decide +kernel))))))) (jss_one (js_ret je_bl)) jss_nil) (jss_cons (js_if (jt_cmp (o_eq hr.units) (jv 0) je_str (nomark _)) (jss_one (js_ret (je_chain o_le o_le (je_op o_sub je_int (jv 1)) (jv 2) (jv 1)))) jss_nil) (jss_cons (js_if (jt_cmp (o_eq hr.units) (jv 0) je_str (nomark _)) (jss_one (js_ret (je_chain o_le o_le je_int (jv 2) (je_op o_mul (jv 1) (jv 1))))) jss_nil) (jss_one (js_ret (je_chain o_le o_lt je_int (jv 2) (jv 1))))))), ?_⟩
  obtain ⟨w, f, rfl, hm, ok, ⟨h1, h2⟩, p⟩ := h
  rcases mach_four hm with ⟨b, rfl⟩ | ⟨b, rfl⟩ | ⟨b, rfl⟩ | ⟨b, rfl⟩ <;> simp only [nameW, WayM.v, WayM.ok, WayM.low, WayM.high] at ok h1 h2 ⊢ <;> walk_at "g"
  · show P (.ret (.bl (decide (f < b))))
    rw [decide_eq_true (by omega)]
    exact p
  · show P (.ret (.bl (decide (f < b))))
    rw [decide_eq_true (by omega)]
    exact p
  · show P (.ret (.bl (decide (f ≤ b))))
    rw [decide_eq_true (by omega)]
    exact p
  · show P (.ret (.bl (decide (f ≤ b * b))))
    rw [decide_eq_true (by omega)]
    exact p
def M__law_nought : MD := fun ds P => ∃ w : WayM, ds = [.str (nameW w)] ∧ w.mach = true ∧ P (.ret w.nought.d)
theorem ok__law_nought {Γ : Gm} {k : Nat} (T : Tx Γ) {f : Addr} {fd : FuncData} (F : Fun Γ.K "_law_nought" "_law_nought" st__law_nought f fd) : FnOk Γ.P Γ.w Γ.K Γ.mg Γ.base (L2.CX Γ.P Γ.w) (k + 1) f fd ["_law_name"] (spD Γ.nm M__law_nought) := by
  refine fnD F sc__law_nought (fun ds P h => ?_) (fun cdv A outer s H E G0 ds P jx hr ps h => ?_)
  · first | (obtain ⟨rfl, _⟩ := h; rfl) | (obtain ⟨_, rfl, _⟩ := h; rfl) | (obtain ⟨_, _, rfl, _⟩ := h; rfl) | (obtain ⟨_, _, _, rfl, _⟩ := h; rfl) | (obtain ⟨_, _, _, _, rfl, _⟩ := h; rfl) | (obtain ⟨_, _, _, _, _, rfl, _⟩ := h; rfl) | (obtain ⟨_, _, _, _, _, _, rfl, _⟩ := h; rfl) | (obtain ⟨_, _, _, _, _, _, _, rfl, _⟩ := h; rfl) | (obtain ⟨_, _, _, _, _, _, _, _, rfl, _⟩ := h; rfl) | (obtain ⟨_, _, _, _, _, _, _, _, _, rfl, _⟩ := h; rfl)
  have nd : N__law_nought.Nodup := sc__law_nought.nd
  refine ⟨_, (jss_cons (js_if (jt_cmp (o_eq hr.units) (jv 0) je_str (nomark _)) (jss_one (js_ret (je_tup (ja_cons je_int (ja_cons je_int ja_nil))))) jss_nil) (jss_one (js_ret je_int))), ?_⟩
  obtain ⟨w, rfl, hm, p⟩ := h
  rcases mach_four hm with ⟨b, rfl⟩ | ⟨b, rfl⟩ | ⟨b, rfl⟩ | ⟨b, rfl⟩ <;> simp only [nameW] <;> (walk_at "g"; exact p)
def M__law_is_number : MD := fun ds P => ∃ (w : WayM) (c : Num), ds = [.str (nameW w), c.d] ∧ w.mach = true ∧ c.isP = w.isPairs ∧ P (.ret (.bl true))
theorem ok__law_is_number {Γ : Gm} {k : Nat} (T : Tx Γ) {f : Addr} {fd : FuncData} (F : Fun Γ.K "_law_is_number" "_law_is_number" st__law_is_number f fd) : FnOk Γ.P Γ.w Γ.K Γ.mg Γ.base (L2.CX Γ.P Γ.w) (k + 1) f fd ["_law_name", "_law_thing"] (spD Γ.nm M__law_is_number) := by
  refine fnD F sc__law_is_number (fun ds P h => ?_) (fun cdv A outer s H E G0 ds P jx hr ps h => ?_)
  · first | (obtain ⟨rfl, _⟩ := h; rfl) | (obtain ⟨_, rfl, _⟩ := h; rfl) | (obtain ⟨_, _, rfl, _⟩ := h; rfl) | (obtain ⟨_, _, _, rfl, _⟩ := h; rfl) | (obtain ⟨_, _, _, _, rfl, _⟩ := h; rfl) | (obtain ⟨_, _, _, _, _, rfl, _⟩ := h; rfl) | (obtain ⟨_, _, _, _, _, _, rfl, _⟩ := h; rfl) | (obtain ⟨_, _, _, _, _, _, _, rfl, _⟩ := h; rfl) | (obtain ⟨_, _, _, _, _, _, _, _, rfl, _⟩ := h; rfl) | (obtain ⟨_, _, _, _, _, _, _, _, _, rfl, _⟩ := h; rfl)
  have nd : N__law_is_number.Nodup := sc__law_is_number.nd
  refine ⟨_, (jss_cons (js_if (jt_cmp (o_ne hr.units) (jv 0) je_str (nomark _)) (jss_one (js_ret (je_and (je_isi Γ (.ty .int) rfl T.m_isinstance (jv 1) (pn_ty rfl T.m_int (by decide +kernel))) (je_one (je_not (je_isi Γ (.ty .bl) rfl T.m_isinstance (jv 1) (pn_ty rfl T.m_bool (by decide +kernel)))))))) jss_nil) (jss_cons (js_if (JW.jt (jw_or (jt_not (jt_val (je_isi Γ (.ty .tup) rfl T.m_isinstance (jv 1) (pn_ty rfl T.m_tuple (by decide +kernel))))) (jw_or1 (jt_cmp (o_ne hr.units) (je_callB k_len rfl T.m_len (by decide +kernel) (ja_cons (jv 1) ja_nil)) je_int (nomark _))))) (jss_one (js_ret je_bl)) jss_nil) (jss_one (js_ret (je_and (je_isi Γ (.ty .int) rfl T.m_isinstance (je_ix (jv 1) je_int) (pn_ty rfl T.m_int (by decide +kernel))) (je_and (je_isi Γ (.ty .int) rfl T.m_isinstance (je_ix (jv 1) je_int) (pn_ty rfl T.m_int (by decide +kernel))) (je_one (je_not (je_isi Γ (.ty .bl) rfl T.m_isinstance (je_ix (jv 1) je_int) (pn_ty rfl T.m_bool (by decide +kernel))))))))))), ?_⟩
  obtain ⟨w, c, rfl, hm, hp, p⟩ := h
  rcases mach_four hm with ⟨b, rfl⟩ | ⟨b, rfl⟩ | ⟨b, rfl⟩ | ⟨b, rfl⟩ <;> cases c <;> first | (cases hp; done) | (simp only [nameW]; walk_at "g"; exact p)
def M__law_chosen : MD := fun ds P => ∃ c : Int, ds = [.int c] ∧ ∀ w : WayM, w.mach = true → w.ok → P (.ret (.tup [.str (nameW w), .int w.v]))
theorem ok__law_chosen {Γ : Gm} {k : Nat} (T : Tx Γ) {f : Addr} {fd : FuncData} (F : Fun Γ.K "_law_chosen" "_law_chosen" st__law_chosen f fd) : FnOk Γ.P Γ.w Γ.K Γ.mg Γ.base (L2.CX Γ.P Γ.w) (k + 1) f fd ["_law_cell"] (spD Γ.nm M__law_chosen) := by
  refine fnD F sc__law_chosen (fun ds P h => ?_) (fun cdv A outer s H E G0 ds P jx hr ps h => ?_)
  · first | (obtain ⟨rfl, _⟩ := h; rfl) | (obtain ⟨_, rfl, _⟩ := h; rfl) | (obtain ⟨_, _, rfl, _⟩ := h; rfl) | (obtain ⟨_, _, _, rfl, _⟩ := h; rfl) | (obtain ⟨_, _, _, _, rfl, _⟩ := h; rfl) | (obtain ⟨_, _, _, _, _, rfl, _⟩ := h; rfl) | (obtain ⟨_, _, _, _, _, _, rfl, _⟩ := h; rfl) | (obtain ⟨_, _, _, _, _, _, _, rfl, _⟩ := h; rfl) | (obtain ⟨_, _, _, _, _, _, _, _, rfl, _⟩ := h; rfl) | (obtain ⟨_, _, _, _, _, _, _, _, _, rfl, _⟩ := h; rfl)
  have nd : N__law_chosen.Nodup := sc__law_chosen.nd
  refine ⟨_, (jss_cons (js_set (i := 1) nd rfl (by first | exact Or.inl rfl | exact Or.inr rfl) (je_ix (je_lst (ja_cons je_str (ja_cons je_str (ja_cons je_str (ja_cons je_str ja_nil))))) (je_op o_mod (jv 0) je_int))) (jss_cons (js_set (i := 2) nd rfl (by first | exact Or.inl rfl | exact Or.inr rfl) (je_op o_div (jv 0) je_int)) (jss_cons (js_if (jt_cmp (o_eq hr.units) (jv 1) je_str (nomark _)) (jss_one (js_ret (je_tup (ja_cons (jv 1) (ja_cons (je_op o_add je_int (je_op o_mod (jv 2) je_int)) ja_nil))))) jss_nil) (jss_cons (js_if (jt_cmp (o_eq hr.units) (jv 1) je_str (nomark _)) (jss_one (js_ret (je_tup (ja_cons (jv 1) (ja_cons (je_op o_add je_int (je_op o_mod (jv 2) je_int)) ja_nil))))) jss_nil) (jss_one (js_ret (je_tup (ja_cons (jv 1) (ja_cons (je_op o_add je_int (je_op o_mod (jv 2) je_int)) ja_nil))))))))), ?_⟩
  obtain ⟨c, rfl, p⟩ := h
  have h4 : c % 4 = 0 ∨ c % 4 = 1 ∨ c % 4 = 2 ∨ c % 4 = 3 := by omega
  have key : ∀ (x : Str) (i : Int) (K : D → Prop), L2.atI [D.str "plain", .str "below", .str "balanced", .str "pairs"] i = some (.str x) → K (.str x) → DD.rIxD (.own [frzO (.str "plain"), frzO (.str "below"), frzO (.str "balanced"), frzO (.str "pairs")]) (.int i) K := fun x i K h q => ix_own h q
  rcases h4 with e | e | e | e
  · walk_at "g"
    refine key "plain" _ _ (by rw [e]; rfl) ?_
    walk_at "g"
    exact p (.plain (2 + c / 4 % 59)) rfl ⟨by omega, by omega⟩
  · walk_at "g"
    refine key "below" _ _ (by rw [e]; rfl) ?_
    walk_at "g"
    exact p (.below (2 + c / 4 % 59)) rfl ⟨by omega, by omega⟩
  · walk_at "g"
    refine key "balanced" _ _ (by rw [e]; rfl) ?_
    walk_at "g"
    exact p (.bal (1 + c / 4 % 30)) rfl ⟨by omega, by omega⟩
  · walk_at "g"
    refine key "pairs" _ _ (by rw [e]; rfl) ?_
    walk_at "g"
    exact p (.pairs (1 + c / 4 % 9)) rfl ⟨by omega, by omega⟩
def M__law_span : MD := fun ds P => ∃ (w : WayM) (c : Int), ds = [.str (nameW w), .int w.v, .int c] ∧ w.mach = true ∧ w.ok ∧ ∀ low high : Int, w.spanOk low high → P (.ret (.tup [.int low, .int high]))
theorem ok__law_span {Γ : Gm} {k : Nat} (T : Tx Γ) {f : Addr} {fd : FuncData} (F : Fun Γ.K "_law_span" "_law_span" st__law_span f fd) : FnOk Γ.P Γ.w Γ.K Γ.mg Γ.base (L2.CX Γ.P Γ.w) (k + 1) f fd ["_law_name", "_law_number", "_law_cell"] (spD Γ.nm M__law_span) := by
  refine fnD F sc__law_span (fun ds P h => ?_) (fun cdv A outer s H E G0 ds P jx hr ps h => ?_)
  · first | (obtain ⟨rfl, _⟩ := h; rfl) | (obtain ⟨_, rfl, _⟩ := h; rfl) | (obtain ⟨_, _, rfl, _⟩ := h; rfl) | (obtain ⟨_, _, _, rfl, _⟩ := h; rfl) | (obtain ⟨_, _, _, _, rfl, _⟩ := h; rfl) | (obtain ⟨_, _, _, _, _, rfl, _⟩ := h; rfl) | (obtain ⟨_, _, _, _, _, _, rfl, _⟩ := h; rfl) | (obtain ⟨_, _, _, _, _, _, _, rfl, _⟩ := h; rfl) | (obtain ⟨_, _, _, _, _, _, _, _, rfl, _⟩ := h; rfl) | (obtain ⟨_, _, _, _, _, _, _, _, _, rfl, _⟩ := h; rfl)
  have nd : N__law_span.Nodup := sc__law_span.nd
  refine ⟨_, (jss_cons (js_set (i := 3) nd rfl (by first | exact Or.inl rfl | exact Or.inr rfl) je_int) (jss_cons (js_if (jt_cmp (o_eq hr.units) (jv 0) je_str (nomark _)) (jss_one (js_set (i := 3) nd rfl (by first | exact Or.inl rfl | exact Or.inr rfl) (je_callB (k_min rfl) rfl T.m_min (by decide +kernel) (ja_cons je_int (ja_cons (je_op o_mul (je_op o_mul je_int (jv 1)) (jv 1)) ja_nil))))) jss_nil) (jss_one (js_ret (je_tup (ja_cons (je_op o_sub je_int (je_op o_mod (jv 2) (je_op o_add (jv 3) je_int))) (ja_cons (je_op o_mod (je_op o_div (jv 2) je_int) (je_op o_add (jv 3) je_int)) ja_nil))))))), ?_⟩
  obtain ⟨w, c, rfl, hm, ok, p⟩ := h
  rcases mach_four hm with ⟨b, rfl⟩ | ⟨b, rfl⟩ | ⟨b, rfl⟩ | ⟨b, rfl⟩ <;> simp only [nameW, WayM.v, WayM.ok] at ok ⊢ <;> walk_at "g"
  · exact p _ _ ⟨⟨by show 0 - 60 ≤ 0 - c % (9 + 1); omega, by omega⟩, by omega, by show _ ≤ (60 : Int); omega⟩
  · exact p _ _ ⟨⟨by show 0 - 60 ≤ 0 - c % (9 + 1); omega, by omega⟩, by omega, by show _ ≤ (60 : Int); omega⟩
  · exact p _ _ ⟨⟨by show 0 - 60 ≤ 0 - c % (9 + 1); omega, by omega⟩, by omega, by show _ ≤ (60 : Int); omega⟩
  · have hb : 0 ≤ b * b := WayM.sq_nn b
    have hm2 : 0 ≤ (if 2 * b * b < 4 then 2 * b * b else 4) ∧ (if 2 * b * b < 4 then 2 * b * b else 4) ≤ (WayM.pairs b).far := by
      show _ ∧ _ ≤ min 60 (2 * (b * b))
      rw [Int.mul_assoc]
      split <;> omega
    revert hm2
    generalize (if 2 * b * b < 4 then 2 * b * b else 4) = m
    intro hm2
    have a1 := Int.emod_nonneg c (show m + 1 ≠ 0 by omega)
    have a2 := Int.emod_lt_of_pos c (show 0 < m + 1 by omega)
    have a3 := Int.emod_nonneg (c / 10) (show m + 1 ≠ 0 by omega)
    have a4 := Int.emod_lt_of_pos (c / 10) (show 0 < m + 1 by omega)
    walk_at "g"
    exact p (0 - c % (m + 1)) (c / 10 % (m + 1)) ⟨⟨by omega, by omega⟩, by omega, by omega⟩

theorem row_eq {w : WayM} (hm : w.mach = true) (ok : w.ok) {c : Num} (hc : c.isP = w.isPairs) (t : Int) : c.add (.i t) = (timesN w (w.stepC c t)).add (.i (w.stepG c t)) := by
  have ci := WayM.carry_isP w (c.add (.i t)) 0
  rcases mach_four hm with ⟨b, rfl⟩ | ⟨b, rfl⟩ | ⟨b, rfl⟩ | ⟨b, rfl⟩
  · have s1 := WayM.split_int (w := .plain b) rfl rfl (c.add (.i t)) 0
    rw [Num.add_x] at s1
    have s1 : c.x + t = WayM.stepG (.plain b) c t + (WayM.stepC (.plain b) c t).x * b := s1
    refine Num.ext' ?_ ?_ ?_
    · rw [add_isP, hc]; rfl
    · rw [Num.add_x, Num.add_x]; show c.x + t = b * (WayM.stepC (.plain b) c t).x + WayM.stepG (.plain b) c t; rw [Int.mul_comm b]; omega
    · rw [Num.add_y, Num.add_y, Num.y0 hc]; rfl
  · have s1 := WayM.split_int (w := .below b) rfl rfl (c.add (.i t)) 0
    rw [Num.add_x] at s1
    have s1 : c.x + t = WayM.stepG (.below b) c t + (WayM.stepC (.below b) c t).x * (0 - b) := s1
    rw [Int.mul_sub, Int.mul_zero] at s1
    refine Num.ext' ?_ ?_ ?_
    · rw [add_isP, hc]; rfl
    · rw [Num.add_x, Num.add_x]; show c.x + t = 0 - b * (WayM.stepC (.below b) c t).x + WayM.stepG (.below b) c t; rw [Int.mul_comm b]; omega
    · rw [Num.add_y, Num.add_y, Num.y0 hc]; rfl
  · have s1 := WayM.split_int (w := .bal b) rfl rfl (c.add (.i t)) 0
    rw [Num.add_x] at s1
    have s1 : c.x + t = WayM.stepG (.bal b) c t + (WayM.stepC (.bal b) c t).x * (2 * b + 1) := s1
    refine Num.ext' ?_ ?_ ?_
    · rw [add_isP, hc]; rfl
    · rw [Num.add_x, Num.add_x]; show c.x + t = (2 * b + 1) * (WayM.stepC (.bal b) c t).x + WayM.stepG (.bal b) c t; rw [Int.mul_comm (2 * b + 1)]; omega
    · rw [Num.add_y, Num.add_y, Num.y0 hc]; rfl
  · obtain ⟨s1, s2⟩ := WayM.split_pair b (c.add (.i t)) 0
    rw [Num.add_x] at s1
    rw [Num.add_y] at s2
    have s1 : c.x + t = WayM.stepG (.pairs b) c t - b * (WayM.stepC (.pairs b) c t).x - (WayM.stepC (.pairs b) c t).y := s1
    have s2 : c.y + 0 = (WayM.stepC (.pairs b) c t).x - b * (WayM.stepC (.pairs b) c t).y := s2
    refine Num.ext' ?_ ?_ ?_
    · rw [add_isP, hc]; rfl
    · rw [Num.add_x, Num.add_x]; show c.x + t = 0 - b * (WayM.stepC (.pairs b) c t).x - (WayM.stepC (.pairs b) c t).y + WayM.stepG (.pairs b) c t; omega
    · rw [Num.add_y, Num.add_y]; show c.y + 0 = (WayM.stepC (.pairs b) c t).x - b * (WayM.stepC (.pairs b) c t).y + 0; omega
def M__law_row : MD := fun ds P => ∃ (w : WayM) (c : Num) (t : Int), ds = [.str (nameW w), .int w.v, rowD w c t, c.d, .int t] ∧ w.mach = true ∧ w.ok ∧ w.inB c ∧ P (.ret (.bl true))
theorem ok__law_row {Γ : Gm} {k : Nat} (T : Tx Γ) {f : Addr} {fd : FuncData} (F : Fun Γ.K "_law_row" "_law_row" st__law_row f fd) (c__law_is_number : Cal Γ k "_law_is_number" 2 M__law_is_number) (c__law_is_figure : Cal Γ k "_law_is_figure" 3 M__law_is_figure) (c__law_added : Cal Γ k "_law_added" 2 M__law_added) (c__law_times : Cal Γ k "_law_times" 3 M__law_times) : FnOk Γ.P Γ.w Γ.K Γ.mg Γ.base (L2.CX Γ.P Γ.w) (k + 1) f fd ["_law_name", "_law_number", "_law_row_here", "_law_carry", "_law_total"] (spD Γ.nm M__law_row) := by
  refine fnD F sc__law_row (fun ds P h => ?_) (fun cdv A outer s H E G0 ds P jx hr ps h => ?_)
  · first | (obtain ⟨rfl, _⟩ := h; rfl) | (obtain ⟨_, rfl, _⟩ := h; rfl) | (obtain ⟨_, _, rfl, _⟩ := h; rfl) | (obtain ⟨_, _, _, rfl, _⟩ := h; rfl) | (obtain ⟨_, _, _, _, rfl, _⟩ := h; rfl) | (obtain ⟨_, _, _, _, _, rfl, _⟩ := h; rfl) | (obtain ⟨_, _, _, _, _, _, rfl, _⟩ := h; rfl) | (obtain ⟨_, _, _, _, _, _, _, rfl, _⟩ := h; rfl) | (obtain ⟨_, _, _, _, _, _, _, _, rfl, _⟩ := h; rfl) | (obtain ⟨_, _, _, _, _, _, _, _, _, rfl, _⟩ := h; rfl)
  have nd : N__law_row.Nodup := sc__law_row.nd
  refine ⟨_, (jss_cons (js_if (JW.jt (jw_or (jt_not (jt_val (je_isi Γ (.ty .tup) rfl T.m_isinstance (jv 2) (pn_ty rfl T.m_tuple (by decide +kernel))))) (jw_or (jt_cmp (o_ne hr.units) (je_callB k_len rfl T.m_len (by decide +kernel) (ja_cons (jv 2) ja_nil)) je_int (nomark _)) (jw_or (jt_cmp (o_ne hr.units) (je_ix (jv 2) je_int) (jv 3) (nomark _)) (jw_or1 (jt_cmp (o_ne hr.units) (je_ix (jv 2) je_int) (jv 4) (nomark _))))))) (jss_one (js_ret je_bl)) jss_nil) (jss_cons (js_if (JW.jt (jw_or (jt_not (jt_val (je_call jx c__law_is_number hr rfl (ja_cons (jv 0) (ja_cons (je_ix (jv 2) je_int) ja_nil))))) (jw_or1 (jt_not (jt_val (je_call jx c__law_is_number hr rfl (ja_cons je_str (ja_cons (je_ix (jv 2) je_int) ja_nil)))))))) (jss_one (js_ret je_bl)) jss_nil) (jss_cons (js_if (JW.jt (jw_or (jt_not (jt_val (je_call jx c__law_is_figure hr rfl (ja_cons (jv 0) (ja_cons (jv 1) (ja_cons (je_ix (jv 2) je_int) ja_nil)))))) (jw_or1 (jt_not (jt_val (je_call jx c__law_is_number hr rfl (ja_cons (jv 0) (ja_cons (je_ix (jv 2) je_int) ja_nil)))))))) (jss_one (js_ret je_bl)) jss_nil) (jss_one (js_ret (je_cmp (o_eq hr.units) (je_call jx c__law_added hr rfl (ja_cons (jv 3) (ja_cons (jv 4) ja_nil))) (je_call jx c__law_added hr rfl (ja_cons (je_call jx c__law_times hr rfl (ja_cons (jv 0) (ja_cons (jv 1) (ja_cons (je_ix (jv 2) je_int) ja_nil)))) (ja_cons (je_ix (jv 2) je_int) ja_nil))) (nomark _))))))), ?_⟩
  obtain ⟨w, c, t, rfl, hm, ok, hc, p⟩ := h
  unfold rowD
  have hc2 := hc.1
  have fr := WayM.fig_range ok (WayM.mach_ratio hm) (c.add (.i t)) (k := 0) (by omega)
  have eq := row_eq hm ok hc2 t
  have pl : (WayM.plain 2).mach = true := rfl
  walk_at "g"
  have same : ∀ (neg : Bool) (K : D → Prop), K (.bl (!neg)) → DD.rEq neg c.d (borO c.d) K := fun neg K q => by simp only [Num.n1]; exact rEq_num rfl q
  unfold dOr dTest eOp eVar eC
  refine same true _ ?_
  walk_at "g"
  refine ⟨w, c, by walk_at "n", hm, hc2, ?_⟩
  walk_at "g"
  refine ⟨.plain 2, .i t, by walk_at "n", rfl, rfl, ?_⟩
  walk_at "g"
  refine ⟨w, w.stepG c t, by walk_at "n", hm, ok, fr, ?_⟩
  walk_at "g"
  refine ⟨w, w.stepC c t, by walk_at "n", hm, WayM.carry_isP w _ _, ?_⟩
  walk_at "g"
  refine ⟨c, t, by walk_at "n", ?_⟩
  walk_at "g"
  refine ⟨w, w.stepC c t, by walk_at "n", hm, ok, WayM.carry_isP w _ _, ?_⟩
  walk_at "g"
  refine ⟨timesN w (w.stepC c t), w.stepG c t, by walk_at "n", ?_⟩
  walk_at "g"
  refine rEq_num eq ?_
  exact ⟨rfl, p⟩
def M__law_found : MD := fun ds P => ∃ (bw : Bool) (w : WayM) (low high : Int) (known : List Num), bw = w.isPairs ∧ ds = [.str (nameW w), .lst (rowsM w low high known)] ∧ w.Mach low high known ∧ P (.ret (.own (numsD known)))
theorem ok__law_found {Γ : Gm} {k : Nat} (T : Tx Γ) {f : Addr} {fd : FuncData} (F : Fun Γ.K "_law_found" "_law_found" st__law_found f fd) (c__law_nought : Cal Γ k "_law_nought" 1 M__law_nought) : FnOk Γ.P Γ.w Γ.K Γ.mg Γ.base (L2.CX Γ.P Γ.w) (k + 1) f fd ["_law_name", "_law_rows"] (spD Γ.nm M__law_found) := by
  refine fnD F sc__law_found (fun ds P h => ?_) (fun cdv A outer s H E G0 ds P jx hr ps h => ?_)
  · first | (obtain ⟨rfl, _⟩ := h; rfl) | (obtain ⟨_, rfl, _⟩ := h; rfl) | (obtain ⟨_, _, rfl, _⟩ := h; rfl) | (obtain ⟨_, _, _, rfl, _⟩ := h; rfl) | (obtain ⟨_, _, _, _, rfl, _⟩ := h; rfl) | (obtain ⟨_, _, _, _, _, rfl, _⟩ := h; rfl) | (obtain ⟨_, _, _, _, _, _, rfl, _⟩ := h; rfl) | (obtain ⟨_, _, _, _, _, _, _, rfl, _⟩ := h; rfl) | (obtain ⟨_, _, _, _, _, _, _, _, rfl, _⟩ := h; rfl) | (obtain ⟨_, _, _, _, _, _, _, _, _, rfl, _⟩ := h; rfl)
  obtain ⟨bw, h⟩ := h
  have nd : N__law_found.Nodup := sc__law_found.nd
  refine ⟨_, (jss_cons (js_set (i := 2) nd rfl (by first | exact Or.inl rfl | exact Or.inr rfl) (je_lst (ja_cons (je_call jx c__law_nought hr rfl (ja_cons (jv 0) ja_nil)) ja_nil))) (jss_enter (jxs_beginS (i := 3) (b := bw) jx hr.units nd rfl (by first | exact Or.inl rfl | exact Or.inr rfl) (fun a4 G4 H4 w4 jx => (je_ix (jv 2) je_int)) (fun p4 hp4 _ => have jx := jx_pin jx; (jxs_cons (jx_for (T := Part.none.seen Γ.nm p4 bw) jx ps rfl (fun a4 G4 H4 w4 jx => (ji_of (jv 1))) (fun a4 G4 H4 w4 jx => (jg_name (i := 4) nd rfl (by first | exact Or.inl rfl | exact Or.inr rfl))) (jxs_one (jx_if (T := Part.none.seen Γ.nm p4 bw) jx (fun a4 G4 H4 w4 jx => (jt_notseen hr.units (jo_name (.inr List.mem_cons_self) rfl (by first | exact Or.inl rfl | exact Or.inr (Or.inl rfl) | exact Or.inr (Or.inr rfl))) (seenB w4.1.2 List.mem_cons_self) (je_ix (jv 4) je_int))) (jxs_cons (jx_seen (T := Part.none.seen Γ.nm p4 bw) (b := bw) (g := fun a => a.2) (f := fun a c => (a.1, c)) jx hr.units List.mem_cons_self (jo_name (.inr List.mem_cons_self) rfl (by first | exact Or.inl rfl | exact Or.inr (Or.inl rfl) | exact Or.inr (Or.inr rfl))) (fun _ _ _ w => w.2) (seen_put hp4) (fun a4 G4 H4 w4 jx => (je_ix (jv 4) je_int))) (jxs_one (jx_data (T := Part.none.seen Γ.nm p4 bw) jx (fun a4 G4 H4 w4 jx => (js_mut 2 PySem.F.slot_list_append PySem.F.type_list_append m_append (pv 2) (ja_cons (je_ix (jv 4) je_int) ja_nil)))))) jxs_nil))) (jxs_one (jx_data (T := Part.none.seen Γ.nm p4 bw) jx (fun a4 G4 H4 w4 jx => (js_retv 2 (pv 2)))))))))), ?_⟩
  obtain ⟨w, low, high, known, rfl, rfl, mc, p⟩ := h
  have sL := sizeLine_eq
  have few := mc.few
  obtain ⟨⟨s1, s2⟩, s3, s4⟩ := mc.sp
  have far := far_60 mc.mc
  have cap : known.length * (high + 1 - low).toNat ≤ 1681 * 121 := Nat.mul_le_mul few (by omega)
  walk_at "g"
  refine ⟨w, by walk_at "n", mc.mc, ?_⟩
  refine ⟨fun z => absurd (show false = true from z) (by decide), any_1 _, (by show 1 ≤ sizeLine; omega), rfl, ?_⟩
  walk_at "g"
  refine ⟨(by show 3 < 5; decide), ?_⟩
  refine ⟨ckey w.nought, by simp only [Num.n2]; exact key_c _, keyB_w (WayM.nought_isP w), ?_⟩
  walk_at "g"
  refine xSeq_go ?_
  refine ⟨_, Weak.refl _, forX_ind (FoundI w low high known (.str (nameW w))) ?_ ?_ _ _ ⟨none, ?_, fun c => see_M0 w c, rfl⟩⟩
  · rintro i d ⟨u, sc⟩ ρ N hd ⟨x4, rfl, hM, hn⟩ hN
    obtain ⟨c, t, hp, rfl⟩ := row_at hd
    have kb : KeyB w.isPairs (ckey (w.stepC c t)) := keyB_w (WayM.carry_isP w _ _)
    have hi : i < (prs low high known).length := (List.getElem?_eq_some_iff.mp hp).1
    rw [prs_len] at hi
    have fl := found_len w low high known i
    have fnx := found_next (w := w) hp
    have hM : ∀ c, sc.M (ckey c) = decide (c ∈ foundAt w low high known i) := hM
    have hn : sc.n = (foundAt w low high known i).length := hn
    walk_at "g"
    refine ⟨ckey (w.stepC c t), key_c _, kb, fun hb => ?_, fun hb => ?_⟩
    · have hb : (!sc.M (ckey (w.stepC c t))) = true := hb
      have hnot : w.stepC c t ∉ foundAt w low high known i := fun z => by
        rw [hM, decide_eq_true z] at hb
        cases hb
      rw [show WayM.grow1 (foundAt w low high known i) (w.stepC c t) = foundAt w low high known i ++ [w.stepC c t] from if_neg hnot] at fnx
      refine xSeq_go ?_
      refine ⟨ckey (w.stepC c t), key_c _, kb, (by show sc.n < sizeLine; omega), ?_⟩
      dsimp only
      refine xDat_go ?_
      refine ⟨by simp only [Num.n2]; exact Num.nb _, by rw [nums_len]; omega, ?_⟩
      walk_at "g"
      refine hN _ _ _ ⟨some (rowD w c t), ?_, ?_, ?_⟩ (Weak.refl _)
      · rw [fnx, numsD_app]
        simp only [Num.n2]
        rfl
      · intro c2
        rw [fnx]
        exact see_M hM c2
      · rw [fnx]
        show sc.n + 1 = _
        simp [hn]
    · have hb : (!sc.M (ckey (w.stepC c t))) = false := hb
      have hin : w.stepC c t ∈ foundAt w low high known i := by
        rw [hM] at hb
        simpa using hb
      rw [show WayM.grow1 (foundAt w low high known i) (w.stepC c t) = foundAt w low high known i from if_pos hin] at fnx
      refine hN _ _ _ ⟨some (rowD w c t), ?_, ?_, ?_⟩ (Weak.refl _)
      · rw [fnx]
      · intro c2; rw [fnx]; exact hM c2
      · rw [fnx]; exact hn
  · rintro ⟨u, sc⟩ ρ ⟨x4, rfl, hM, hn⟩
    rw [rowsM_len, ← prs_len, found_all mc]
    dsimp only
    refine xDat_go ?_
    walk_at "g"
    exact p
  · simp only [Num.n2]
    rfl
def M__law_walked : MD := fun ds P => ∃ (w : WayM) (low high : Int) (known : List Num) (ks : List NestedKey) (ds2 : List D), ds = [.str (nameW w), .int w.v, machD w low high known ks ds2, .int low, .int high] ∧ MachD w low high known ks ds2 ∧ P (.ret (.bl true))
theorem ok__law_walked {Γ : Gm} {k : Nat} (T : Tx Γ) {f : Addr} {fd : FuncData} (F : Fun Γ.K "_law_walked" "_law_walked" st__law_walked f fd) (c__law_row : Cal Γ k "_law_row" 5 M__law_row) (c__law_found : Cal Γ k "_law_found" 2 M__law_found) (k_carries : CalM Γ k "Machine" "carries" 1 MM_carries) (k_rows : CalM Γ k "Machine" "rows" 1 MM_rows) : FnOk Γ.P Γ.w Γ.K Γ.mg Γ.base (L2.CX Γ.P Γ.w) (k + 1) f fd ["_law_name", "_law_number", "_law_machine", "_law_low", "_law_high"] (spD Γ.nm M__law_walked) := by
  refine fnD F sc__law_walked (fun ds P h => ?_) (fun cdv A outer s H E G0 ds P jx hr ps h => ?_)
  · first | (obtain ⟨rfl, _⟩ := h; rfl) | (obtain ⟨_, rfl, _⟩ := h; rfl) | (obtain ⟨_, _, rfl, _⟩ := h; rfl) | (obtain ⟨_, _, _, rfl, _⟩ := h; rfl) | (obtain ⟨_, _, _, _, rfl, _⟩ := h; rfl) | (obtain ⟨_, _, _, _, _, rfl, _⟩ := h; rfl) | (obtain ⟨_, _, _, _, _, _, rfl, _⟩ := h; rfl) | (obtain ⟨_, _, _, _, _, _, _, rfl, _⟩ := h; rfl) | (obtain ⟨_, _, _, _, _, _, _, _, rfl, _⟩ := h; rfl) | (obtain ⟨_, _, _, _, _, _, _, _, _, rfl, _⟩ := h; rfl)
  have nd : N__law_walked.Nodup := sc__law_walked.nd
  refine ⟨_, (jss_cons (js_set (i := 5) nd rfl (by first | exact Or.inl rfl | exact Or.inr rfl) (je_meth0 Γ jx hr (pv 2))) (jss_cons (js_set (i := 6) nd rfl (by first | exact Or.inl rfl | exact Or.inr rfl) (je_meth0 Γ jx hr (pv 2))) (jss_cons (js_if (JW.jt (jw_or (jt_not (jt_val (je_isi Γ (.ty .lst) rfl T.m_isinstance (jv 5) (pn_ty rfl T.m_list (by decide +kernel))))) (jw_or (jt_not (jt_val (je_isi Γ (.ty .lst) rfl T.m_isinstance (jv 6) (pn_ty rfl T.m_list (by decide +kernel))))) (jw_or1 (jt_cmp (o_ne hr.units) (je_callB k_len rfl T.m_len (by decide +kernel) (ja_cons (jv 6) ja_nil)) (je_op o_mul (je_callB k_len rfl T.m_len (by decide +kernel) (ja_cons (jv 5) ja_nil)) (je_op o_add (je_op o_sub (jv 4) (jv 3)) je_int)) (nomark _)))))) (jss_one (js_ret je_bl)) jss_nil) (jss_cons (js_set (i := 7) nd rfl (by first | exact Or.inl rfl | exact Or.inr rfl) je_int) (jss_cons (js_frzN 5 (js_for ps rfl (ji_of (jv 5)) (jg_name (i := 8) nd rfl (by first | exact Or.inl rfl | exact Or.inr rfl)) (jss_one (js_for ps rfl (ji_range2 rfl T.m_range (ja_cons (jv 3) (ja_cons (je_op o_add (jv 4) je_int) ja_nil))) (jg_name (i := 9) nd rfl (by first | exact Or.inl rfl | exact Or.inr rfl)) (jss_cons (js_if (jt_not (jt_val (je_call jx c__law_row hr rfl (ja_cons (jv 0) (ja_cons (jv 1) (ja_cons (je_ix (jv 6) (jv 7)) (ja_cons (jv 8) (ja_cons (jv 9) ja_nil)))))))) (jss_one (js_ret je_bl)) jss_nil) (jss_one (js_aug (i := 7) nd rfl (by first | exact Or.inl rfl | exact Or.inr rfl) je_int o_iadd))))))) (jss_one (js_ret (je_cmp (o_eq hr.units) (jv 5) (je_call jx c__law_found hr rfl (ja_cons (jv 0) (ja_cons (jv 6) ja_nil))) (nomark _))))))))), ?_⟩
  obtain ⟨w, low, high, known, ks, ds2, rfl, md, p⟩ := h
  have mc := md.1
  have sL := sizeLine_eq
  have few := mc.few
  obtain ⟨⟨s1, s2⟩, s3, s4⟩ := mc.sp
  have far := far_60 mc.mc
  have cap : known.length * (high + 1 - low).toNat ≤ 1681 * 121 := Nat.mul_le_mul few (by omega)
  have rl := rowsM_len w low high known
  walk_at "g"
  refine ⟨"Machine", mFs, _, MM_carries, rfl, (by decide), k_carries, ⟨w, low, high, known, ks, ds2, rfl, few, ?_⟩⟩
  refine ⟨fun z => absurd (show false = true from z) (by decide), ?_⟩
  walk_at "g"
  refine ⟨"Machine", mFs, _, MM_rows, rfl, (by decide), k_rows, ⟨w, low, high, known, ks, ds2, rfl, md, ?_⟩⟩
  refine ⟨fun z => absurd (show false = true from z) (by decide), ?_⟩
  walk_at "g"
  rw [decide_eq_true (show ((rowsM w low high known).length : Int) = ((numsD known).length : Int) * (high - low + 1) by
    rw [rl, nums_len, Int.natCast_mul]
    congr 1
    omega)]
  walk_at "g"
  refine ⟨_, Weak.refl _, for_at (fun _ => True) (fun i => [some (.str (nameW w)), some (.int w.v), some (machD w low high known ks ds2), some (.int low), some (.int high), some (.lst (numsD known)), some (.own (rowsM w low high known)), some (.int (((high + 1 - low).toNat * i : Nat) : Int)), none, none]) trivial ?_ ?_⟩
  · intro i d N hd _ hN
    obtain ⟨c, hc, rfl⟩ := at_nums hd
    have hcm := List.mem_of_getElem? hc
    have hi := (List.getElem?_eq_some_iff.mp hc).1
    walk_at "g"
    refine ⟨⟨by omega, by omega, by omega, by omega⟩, _, Weak.refl _, ?_⟩
    refine for_range (lo := low) (n := (high + 1 - low).toNat) (fun _ => True) (fun j => [some (.str (nameW w)), some (.int w.v), some (machD w low high known ks ds2), some (.int low), some (.int high), some (.lst (numsD known)), some (.own (rowsM w low high known)), some (.int (((high + 1 - low).toNat * i + j : Nat) : Int)), some c.d, none]) trivial ?_ ?_
    · intro j N2 hj _ hN2
      have hrow := rowsM_at w low high j hj known i c hc
      rw [Nat.mul_comm] at hrow
      walk_at "g"
      refine ix_bor (atI_nat rfl hrow) ?_
      walk_at "g"
      refine ⟨w, c, low + (j : Int), by walk_at "n", mc.mc, mc.ok, mc.u.inb c hcm, ?_⟩
      walk_at "g"
      refine hN2 trivial _ ?_
      walk_at "w"
    · intro _
      refine hN trivial _ ?_
      rw [← Nat.mul_succ]
      walk_at "w"
  · intro _
    walk_at "g"
    refine ⟨w.isPairs, w, low, high, known, rfl, by walk_at "n", mc, ?_⟩
    refine ⟨fun _ => ok_nums known, ?_⟩
    refine rEq_numsT (d := .lst (numsD known)) (e := .own (numsD known)) (r := known) rfl rfl ?_
    exact ⟨rfl, p⟩

def M_law : MD := fun ds P => ∃ ns : List Int, ds = [.scr (intsD ns)] ∧ ns.length ≤ 63 ∧ P (.ret (.bl true))
theorem ok_law {Γ : Gm} {k : Nat} (T : Tx Γ) {f : Addr} {fd : FuncData} (F : Fun Γ.K "law" "law" st_law f fd) (c__law_chosen : Cal Γ (k + 1) "_law_chosen" 1 M__law_chosen) (c__law_cell_at : Cal Γ (k + 1) "_law_cell_at" 2 M__law_cell_at) (c__law_span : Cal Γ (k + 1) "_law_span" 3 M__law_span) (c_Machine : CalK Γ k "Machine" 3 M_Machine) (c__law_way : Cal Γ (k + 1) "_law_way" 2 M__law_way) (c__law_walked : Cal Γ (k + 1) "_law_walked" 5 M__law_walked) (k_carries : CalM Γ (k + 1) "Machine" "carries" 1 MM_carries) (k_rows : CalM Γ (k + 1) "Machine" "rows" 1 MM_rows) : FnOk Γ.P Γ.w Γ.K Γ.mg Γ.base (L2.CX Γ.P Γ.w) ((k + 1) + 1) f fd ["_law_script"] (spD Γ.nm M_law) := by
  refine fnD F sc_law (fun ds P h => ?_) (fun cdv A outer s H E G0 ds P jx hr ps h => ?_)
  · first | (obtain ⟨rfl, _⟩ := h; rfl) | (obtain ⟨_, rfl, _⟩ := h; rfl) | (obtain ⟨_, _, rfl, _⟩ := h; rfl) | (obtain ⟨_, _, _, rfl, _⟩ := h; rfl) | (obtain ⟨_, _, _, _, rfl, _⟩ := h; rfl) | (obtain ⟨_, _, _, _, _, rfl, _⟩ := h; rfl) | (obtain ⟨_, _, _, _, _, _, rfl, _⟩ := h; rfl) | (obtain ⟨_, _, _, _, _, _, _, rfl, _⟩ := h; rfl) | (obtain ⟨_, _, _, _, _, _, _, _, rfl, _⟩ := h; rfl) | (obtain ⟨_, _, _, _, _, _, _, _, _, rfl, _⟩ := h; rfl)
  have nd : N_law.Nodup := sc_law.nd
  refine ⟨_, (jss_cons (js_asg (je_call jx c__law_chosen hr rfl (ja_cons (je_call jx c__law_cell_at hr rfl (ja_cons (jv 0) (ja_cons je_int ja_nil))) ja_nil)) (jg_tup (n := 2) rfl (jgs_cons (jg_name (i := 1) nd rfl (by first | exact Or.inl rfl | exact Or.inr rfl)) (jgs_cons (jg_name (i := 2) nd rfl (by first | exact Or.inl rfl | exact Or.inr rfl)) jgs_nil)))) (jss_cons (js_asg (je_call jx c__law_span hr rfl (ja_cons (jv 1) (ja_cons (jv 2) (ja_cons (je_call jx c__law_cell_at hr rfl (ja_cons (jv 0) (ja_cons je_int ja_nil))) ja_nil)))) (jg_tup (n := 2) rfl (jgs_cons (jg_name (i := 3) nd rfl (by first | exact Or.inl rfl | exact Or.inr rfl)) (jgs_cons (jg_name (i := 4) nd rfl (by first | exact Or.inl rfl | exact Or.inr rfl)) jgs_nil)))) (jss_cons (js_set (i := 5) nd rfl (by first | exact Or.inl rfl | exact Or.inr rfl) (je_makeK jx c_Machine hr rfl (ja_cons (je_call jx c__law_way hr rfl (ja_cons (jv 1) (ja_cons (jv 2) ja_nil))) (ja_cons (jv 3) (ja_cons (jv 4) ja_nil))))) (jss_cons (js_if (jt_not (jt_val (je_call jx c__law_walked hr rfl (ja_cons (jv 1) (ja_cons (jv 2) (ja_cons (jv 5) (ja_cons (jv 3) (ja_cons (jv 4) ja_nil)))))))) (jss_one (js_ret je_bl)) jss_nil) (jss_cons (js_set (i := 6) nd rfl (by first | exact Or.inl rfl | exact Or.inr rfl) (je_meth0 Γ jx hr (pv 5))) (jss_cons (js_set (i := 7) nd rfl (by first | exact Or.inl rfl | exact Or.inr rfl) (je_meth0 Γ jx hr (pv 5))) (jss_cons (js_mut 6 PySem.F.slot_list_append PySem.F.type_list_append m_append (pv 6) (ja_cons je_int ja_nil)) (jss_cons (js_mut 7 PySem.F.slot_list_append PySem.F.type_list_append m_append (pv 7) (ja_cons je_int ja_nil)) (jss_one (js_ret (je_call jx c__law_walked hr rfl (ja_cons (jv 1) (ja_cons (jv 2) (ja_cons (jv 5) (ja_cons (jv 3) (ja_cons (jv 4) ja_nil)))))))))))))))), ?_⟩
  obtain ⟨ns, rfl, hl, p⟩ := h
  walk_at "g"
  refine ⟨ns, 0, rfl, fun c0 => ?_⟩
  walk_at "g"
  refine ⟨c0, rfl, fun w hm ok => ?_⟩
  refine ⟨fun z => absurd (show false = true from z) (by decide), rfl, ?_⟩
  walk_at "g"
  refine ⟨ns, 1, rfl, fun c1 => ?_⟩
  refine ⟨fun z => absurd (show false = true from z) (by decide), ?_⟩
  refine ⟨w, c1, by walk_at "n", hm, ok, fun low high sp => ?_⟩
  refine ⟨fun z => absurd (show false = true from z) (by decide), rfl, ?_⟩
  walk_at "g"
  refine ⟨w, by walk_at "n", hm, ok, ?_⟩
  refine ⟨fun z => absurd (show false = true from z) (by decide), ?_⟩
  refine ⟨rfl, w, low, high, rfl, all_cls w, ok, fun z => absurd (hm.symm.trans z) (by decide), fun _ z => absurd sp z, fun _ _ known ks ds2 md => ?_⟩
  refine ⟨rfl, rfl, ?_⟩
  walk_at "g"
  refine ⟨w, low, high, known, ks, ds2, by walk_at "n", md, ?_⟩
  walk_at "g"
  refine ⟨"Machine", mFs, _, MM_carries, rfl, (by decide), k_carries, ⟨w, low, high, known, ks, ds2, rfl, md.1.few, ?_⟩⟩
  refine ⟨fun z => absurd (show false = true from z) (by decide), ?_⟩
  walk_at "g"
  refine ⟨"Machine", mFs, _, MM_rows, rfl, (by decide), k_rows, ⟨w, low, high, known, ks, ds2, rfl, md, ?_⟩⟩
  refine ⟨fun z => absurd (show false = true from z) (by decide), ?_⟩
  walk_at "g"
  have sL := sizeLine_eq
  have few := md.1.few
  have rl := rowsM_len w low high known
  have far := far_60 hm
  obtain ⟨⟨s1, s2⟩, s3, s4⟩ := sp
  have cap : known.length * (high + 1 - low).toNat ≤ 1681 * 121 := Nat.mul_le_mul few (by omega)
  refine ⟨by rw [nums_len]; omega, ?_⟩
  walk_at "g"
  refine And.intro (by omega) ?_
  walk_at "g"
  refine ⟨w, low, high, known, ks, ds2, by walk_at "n", md, ?_⟩
  exact ⟨fun z => absurd (show false = true from z) (by decide), rfl, p⟩
theorem m_law_ok (ns : List Int) (h1 : ns.length ≤ 63) (_ : ∀ z ∈ ns, Builtin.Int.intBits z ≤ 1048576) : M_law [.scr (intsD ns)] (fun o => o = .ret (.bl true)) := ⟨ns, rfl, h1, rfl⟩
theorem all_mk : AllMk := by
  intro w K h mg fa f0 f1 f2 f3 f4 f5 f6 f7 f8 f9 f10 f11 f12 f13 f14 f15 f16 f17 f18 f19 f20 f21 f22 f23 f24 f25 f26 f27 f28 f29 f30 f31 f32 f33 f34 f35 f36 f37 f38 f39 f40 f41 f42 f43 f44 f45 f46 f47 C_Plain C_Below C_Balanced C_Growing C_Falling C_Pairs C_Machine X_NoRatio X_NoSpan X_NoWay X G hfa od0 an0 sl0 oc0 kV0 dc0 pm0 cd0 ct0 od1 an1 sl1 oc1 kV1 dc1 pm1 cd1 ct1 od2 an2 sl2 oc2 kV2 dc2 pm2 cd2 ct2 od3 an3 sl3 oc3 kV3 dc3 pm3 cd3 ct3 od4 an4 sl4 oc4 kV4 dc4 pm4 cd4 ct4 od5 an5 sl5 oc5 kV5 dc5 pm5 cd5 ct5 od6 an6 sl6 oc6 kV6 dc6 pm6 cd6 ct6 od7 an7 sl7 oc7 kV7 dc7 pm7 cd7 ct7 od8 an8 sl8 oc8 kV8 dc8 pm8 cd8 ct8 od9 an9 sl9 oc9 kV9 dc9 pm9 cd9 ct9 od10 an10 sl10 oc10 kV10 dc10 pm10 cd10 ct10 od11 an11 sl11 oc11 kV11 dc11 pm11 cd11 ct11 od12 an12 sl12 oc12 kV12 dc12 pm12 cd12 ct12 od13 an13 sl13 oc13 kV13 dc13 pm13 cd13 ct13 od14 an14 sl14 oc14 kV14 dc14 pm14 cd14 ct14 od15 an15 sl15 oc15 kV15 dc15 pm15 cd15 ct15 od16 an16 sl16 oc16 kV16 dc16 pm16 cd16 ct16 od17 an17 sl17 oc17 kV17 dc17 pm17 cd17 ct17 od18 an18 sl18 oc18 kV18 dc18 pm18 cd18 ct18 od19 an19 sl19 oc19 kV19 dc19 pm19 cd19 ct19 od20 an20 sl20 oc20 kV20 dc20 pm20 cd20 ct20 od21 an21 sl21 oc21 kV21 dc21 pm21 cd21 ct21 od22 an22 sl22 oc22 kV22 dc22 pm22 cd22 ct22 od23 an23 sl23 oc23 kV23 dc23 pm23 cd23 ct23 od24 an24 sl24 oc24 kV24 dc24 pm24 cd24 ct24 od25 an25 sl25 oc25 kV25 dc25 pm25 cd25 ct25 od26 an26 sl26 oc26 kV26 dc26 pm26 cd26 ct26 od27 an27 sl27 oc27 kV27 dc27 pm27 cd27 ct27 od28 an28 sl28 oc28 kV28 dc28 pm28 cd28 ct28 od29 an29 sl29 oc29 kV29 dc29 pm29 cd29 ct29 od30 an30 sl30 oc30 kV30 dc30 pm30 cd30 ct30 od31 an31 sl31 oc31 kV31 dc31 pm31 cd31 ct31 od32 an32 sl32 oc32 kV32 dc32 pm32 cd32 ct32 od33 an33 sl33 oc33 kV33 dc33 pm33 cd33 ct33 od34 an34 sl34 oc34 kV34 dc34 pm34 cd34 ct34 od35 an35 sl35 oc35 kV35 dc35 pm35 cd35 ct35 od36 an36 sl36 oc36 kV36 dc36 pm36 cd36 ct36 od37 an37 sl37 oc37 kV37 dc37 pm37 cd37 ct37 od38 an38 sl38 oc38 kV38 dc38 pm38 cd38 ct38 od39 an39 sl39 oc39 kV39 dc39 pm39 cd39 ct39 od40 an40 sl40 oc40 kV40 dc40 pm40 cd40 ct40 od41 an41 sl41 oc41 kV41 dc41 pm41 cd41 ct41 od42 an42 sl42 oc42 kV42 dc42 pm42 cd42 ct42 od43 an43 sl43 oc43 kV43 dc43 pm43 cd43 ct43 od44 an44 sl44 oc44 kV44 dc44 pm44 cd44 ct44 od45 an45 sl45 oc45 kV45 dc45 pm45 cd45 ct45 od46 an46 sl46 oc46 kV46 dc46 pm46 cd46 ct46 od47 an47 sl47 oc47 kV47 dc47 pm47 cd47 ct47 tk_FARTHEST ac_Plain ac_Below ac_Balanced ac_Growing ac_Falling ac_Pairs ac_Machine p1_Plain p2_Plain p3_Plain p4_Plain na_Plain p1_Below p2_Below p3_Below p4_Below na_Below p1_Balanced p2_Balanced p3_Balanced p4_Balanced na_Balanced p1_Growing p2_Growing p3_Growing p4_Growing na_Growing p1_Falling p2_Falling p3_Falling p4_Falling na_Falling p1_Pairs p2_Pairs p3_Pairs p4_Pairs na_Pairs p1_Machine p2_Machine p3_Machine p4_Machine na_Machine_way na_Machine_least na_Machine_greatest na_Machine_known na_Machine_table fm_Machine_fill fn_Machine_fill fm_Machine_carries fn_Machine_carries fm_Machine_rows fn_Machine_rows cm_Plain ci_Plain cf_Plain ck_Plain cm_Below ci_Below cf_Below ck_Below cm_Balanced ci_Balanced cf_Balanced ck_Balanced cm_Growing ci_Growing cf_Growing ck_Growing cm_Falling ci_Falling cf_Falling ck_Falling cm_Pairs ci_Pairs cf_Pairs ck_Pairs cm_Machine ci_Machine cf_Machine ck_Machine sp_ tk_ hc_Plain mo_Plain kt_Plain_Falling kt_Plain_Growing kt_Plain_Pairs hc_Below mo_Below kt_Below_Falling kt_Below_Growing kt_Below_Pairs hc_Balanced mo_Balanced kt_Balanced_Falling kt_Balanced_Growing kt_Balanced_Pairs hc_Growing mo_Growing kt_Growing_Falling kt_Growing_Growing kt_Growing_Pairs hc_Falling mo_Falling kt_Falling_Falling kt_Falling_Growing kt_Falling_Pairs hc_Pairs mo_Pairs kt_Pairs_Falling kt_Pairs_Growing kt_Pairs_Pairs ci_w_Falling ct_w_Falling ci_w_Growing ct_w_Growing ci_w_Pairs ct_w_Pairs fm_Plain_low fn_Plain_low fm_Below_low fn_Below_low fm_Balanced_low fn_Balanced_low fm_Growing_low fn_Growing_low fm_Falling_low fn_Falling_low fm_Pairs_low fn_Pairs_low fm_Plain_ratio fn_Plain_ratio fm_Below_ratio fn_Below_ratio fm_Balanced_ratio fn_Balanced_ratio fm_Growing_ratio fn_Growing_ratio fm_Falling_ratio fn_Falling_ratio fm_Pairs_ratio fn_Pairs_ratio fm_Plain_high fn_Plain_high fm_Below_high fn_Below_high fm_Balanced_high fn_Balanced_high fm_Growing_high fn_Growing_high fm_Falling_high fn_Falling_high fm_Pairs_high fn_Pairs_high fm_Plain_split fn_Plain_split fm_Below_split fn_Below_split fm_Balanced_split fn_Balanced_split fm_Growing_split fn_Growing_split fm_Falling_split fn_Falling_split fm_Pairs_split fn_Pairs_split ae_NoRatio ae_NoSpan ae_NoWay eq_NoRatio ek_NoRatio eb_NoRatio et_NoRatio eq_NoSpan ek_NoSpan eb_NoSpan et_NoSpan eq_NoWay ek_NoWay eb_NoWay et_NoWay a0 l0 c0 k0 a1 l1 c1 k1 l2 c2 k2 l3 c3 k3 l4 c4 k4 l5 c5 k5 l6 c6 k6 l7 c7 k7 l8 c8 k8 l9 c9 k9 l10 c10 k10 l11 c11 k11 l12 c12 k12 l13 c13 k13 l14 c14 k14 l15 c15 k15 l16 c16 k16 a17 l17 c17 k17 a18 l18 c18 k18 l19 c19 k19 l20 c20 k20 a21 l21 c21 k21 a22 l22 c22 k22 a23 l23 c23 k23 a24 l24 c24 k24 a25 l25 c25 k25 a26 l26 c26 k26 a27 l27 c27 k27 a28 l28 c28 k28 a29 l29 c29 k29 l30 c30 k30 a31 l31 c31 k31 a32 l32 c32 k32 a33 l33 c33 k33 l34 c34 k34 l35 c35 k35 l36 c36 k36 l37 c37 k37 l38 c38 k38 l39 c39 k39 a40 l40 c40 k40 a41 l41 c41 k41 a42 l42 c42 k42 l43 c43 k43 a44 l44 c44 k44 l45 c45 k45 l46 c46 k46 a47 l47 c47 k47 cg_FARTHEST z_abs z_bool z_int z_isinstance z_len z_list z_min z_range z_tuple
  have e := hfa.symm.trans (PySem.W.mg_of X G a47)
  cases e
  have F0 := fun_mk (st := st_is_pair) l0 c0 k0
  have F1 := fun_mk (st := st_look_at) l1 c1 k1
  have F2 := fun_mk (st := st_Way_low) l2 c2 k2
  have F3 := fun_mk (st := st_Balanced_low) l3 c3 k3
  have F4 := fun_mk (st := st_Plain_high) l4 c4 k4
  have F5 := fun_mk (st := st_Below_high) l5 c5 k5
  have F6 := fun_mk (st := st_Balanced_high) l6 c6 k6
  have F7 := fun_mk (st := st_Growing_high) l7 c7 k7
  have F8 := fun_mk (st := st_Falling_high) l8 c8 k8
  have F9 := fun_mk (st := st_Pairs_high) l9 c9 k9
  have F10 := fun_mk (st := st_Way_ratio) l10 c10 k10
  have F11 := fun_mk (st := st_Plain_ratio) l11 c11 k11
  have F12 := fun_mk (st := st_Below_ratio) l12 c12 k12
  have F13 := fun_mk (st := st_Balanced_ratio) l13 c13 k13
  have F14 := fun_mk (st := st_Growing_ratio) l14 c14 k14
  have F15 := fun_mk (st := st_Pairs_ratio) l15 c15 k15
  have F16 := fun_mk (st := st_Falling_split) l16 c16 k16
  have F17 := fun_mk (st := st_nought) l17 c17 k17
  have F18 := fun_mk (st := st_look_at_way) l18 c18 k18
  have F19 := fun_mk (st := st_Machine_carries) l19 c19 k19
  have F20 := fun_mk (st := st_Machine_rows) l20 c20 k20
  have F21 := fun_mk (st := st__law_cell_at) l21 c21 k21
  have F22 := fun_mk (st := st__law_added) l22 c22 k22
  have F23 := fun_mk (st := st__law_times) l23 c23 k23
  have F24 := fun_mk (st := st__law_is_figure) l24 c24 k24
  have F25 := fun_mk (st := st__law_nought) l25 c25 k25
  have F26 := fun_mk (st := st__law_is_number) l26 c26 k26
  have F27 := fun_mk (st := st__law_chosen) l27 c27 k27
  have F28 := fun_mk (st := st__law_span) l28 c28 k28
  have F29 := fun_mk (st := st_as_pair) l29 c29 k29
  have F30 := fun_mk (st := st_Way_split) l30 c30 k30
  have F31 := fun_mk (st := st_look_at_span) l31 c31 k31
  have F32 := fun_mk (st := st__law_row) l32 c32 k32
  have F33 := fun_mk (st := st__law_found) l33 c33 k33
  have F34 := fun_mk (st := st_Plain___init__) l34 c34 k34
  have F35 := fun_mk (st := st_Below___init__) l35 c35 k35
  have F36 := fun_mk (st := st_Balanced___init__) l36 c36 k36
  have F37 := fun_mk (st := st_Growing___init__) l37 c37 k37
  have F38 := fun_mk (st := st_Falling___init__) l38 c38 k38
  have F39 := fun_mk (st := st_Pairs___init__) l39 c39 k39
  have F40 := fun_mk (st := st_added) l40 c40 k40
  have F41 := fun_mk (st := st_multiplied) l41 c41 k41
  have F42 := fun_mk (st := st__law_walked) l42 c42 k42
  have F43 := fun_mk (st := st_Pairs_split) l43 c43 k43
  have F44 := fun_mk (st := st__law_way) l44 c44 k44
  have F45 := fun_mk (st := st_Machine_fill) l45 c45 k45
  have F46 := fun_mk (st := st_Machine___init__) l46 c46 k46
  have F47 := fun_mk (st := st_law) l47 c47 k47
  have b0 := F0.binds (ps := ["thing"]) fun _ _ _ _ _ _ us hl => match us, hl with | [_], _ => rfl
  have b1 := F1.binds (ps := ["number", "least", "greatest"]) fun _ _ _ _ _ _ us hl => match us, hl with | [_, _, _], _ => rfl
  have b2 := F2.binds (ps := ["self", "place"]) fun _ _ _ _ _ _ us hl => match us, hl with | [_, _], _ => rfl
  have b3 := F3.binds (ps := ["self", "place"]) fun _ _ _ _ _ _ us hl => match us, hl with | [_, _], _ => rfl
  have b4 := F4.binds (ps := ["self", "place"]) fun _ _ _ _ _ _ us hl => match us, hl with | [_, _], _ => rfl
  have b5 := F5.binds (ps := ["self", "place"]) fun _ _ _ _ _ _ us hl => match us, hl with | [_, _], _ => rfl
  have b6 := F6.binds (ps := ["self", "place"]) fun _ _ _ _ _ _ us hl => match us, hl with | [_, _], _ => rfl
  have b7 := F7.binds (ps := ["self", "place"]) fun _ _ _ _ _ _ us hl => match us, hl with | [_, _], _ => rfl
  have b8 := F8.binds (ps := ["self", "place"]) fun _ _ _ _ _ _ us hl => match us, hl with | [_, _], _ => rfl
  have b9 := F9.binds (ps := ["self", "place"]) fun _ _ _ _ _ _ us hl => match us, hl with | [_, _], _ => rfl
  have b10 := F10.binds (ps := ["self", "place"]) fun _ _ _ _ _ _ us hl => match us, hl with | [_, _], _ => rfl
  have b11 := F11.binds (ps := ["self", "place"]) fun _ _ _ _ _ _ us hl => match us, hl with | [_, _], _ => rfl
  have b12 := F12.binds (ps := ["self", "place"]) fun _ _ _ _ _ _ us hl => match us, hl with | [_, _], _ => rfl
  have b13 := F13.binds (ps := ["self", "place"]) fun _ _ _ _ _ _ us hl => match us, hl with | [_, _], _ => rfl
  have b14 := F14.binds (ps := ["self", "place"]) fun _ _ _ _ _ _ us hl => match us, hl with | [_, _], _ => rfl
  have b15 := F15.binds (ps := ["self", "place"]) fun _ _ _ _ _ _ us hl => match us, hl with | [_, _], _ => rfl
  have b16 := F16.binds (ps := ["self", "total", "place"]) fun _ _ _ _ _ _ us hl => match us, hl with | [_, _, _], _ => rfl
  have b17 := F17.binds (ps := ["way"]) fun _ _ _ _ _ _ us hl => match us, hl with | [_], _ => rfl
  have b18 := F18.binds (ps := ["way"]) fun _ _ _ _ _ _ us hl => match us, hl with | [_], _ => rfl
  have b19 := F19.binds (ps := ["self"]) fun _ _ _ _ _ _ us hl => match us, hl with | [_], _ => rfl
  have b20 := F20.binds (ps := ["self"]) fun _ _ _ _ _ _ us hl => match us, hl with | [_], _ => rfl
  have b21 := F21.binds (ps := ["_law_script", "_law_k"]) fun _ _ _ _ _ _ us hl => match us, hl with | [_, _], _ => rfl
  have b22 := F22.binds (ps := ["_law_one", "_law_other"]) fun _ _ _ _ _ _ us hl => match us, hl with | [_, _], _ => rfl
  have b23 := F23.binds (ps := ["_law_name", "_law_number", "_law_carry"]) fun _ _ _ _ _ _ us hl => match us, hl with | [_, _, _], _ => rfl
  have b24 := F24.binds (ps := ["_law_name", "_law_number", "_law_figure"]) fun _ _ _ _ _ _ us hl => match us, hl with | [_, _, _], _ => rfl
  have b25 := F25.binds (ps := ["_law_name"]) fun _ _ _ _ _ _ us hl => match us, hl with | [_], _ => rfl
  have b26 := F26.binds (ps := ["_law_name", "_law_thing"]) fun _ _ _ _ _ _ us hl => match us, hl with | [_, _], _ => rfl
  have b27 := F27.binds (ps := ["_law_cell"]) fun _ _ _ _ _ _ us hl => match us, hl with | [_], _ => rfl
  have b28 := F28.binds (ps := ["_law_name", "_law_number", "_law_cell"]) fun _ _ _ _ _ _ us hl => match us, hl with | [_, _, _], _ => rfl
  have b29 := F29.binds (ps := ["thing"]) fun _ _ _ _ _ _ us hl => match us, hl with | [_], _ => rfl
  have b30 := F30.binds (ps := ["self", "total", "place"]) fun _ _ _ _ _ _ us hl => match us, hl with | [_, _, _], _ => rfl
  have b31 := F31.binds (ps := ["way", "low", "high"]) fun _ _ _ _ _ _ us hl => match us, hl with | [_, _, _], _ => rfl
  have b32 := F32.binds (ps := ["_law_name", "_law_number", "_law_row_here", "_law_carry", "_law_total"]) fun _ _ _ _ _ _ us hl => match us, hl with | [_, _, _, _, _], _ => rfl
  have b33 := F33.binds (ps := ["_law_name", "_law_rows"]) fun _ _ _ _ _ _ us hl => match us, hl with | [_, _], _ => rfl
  have b34 := F34.binds (ps := ["self", "base"]) fun _ _ _ _ _ _ us hl => match us, hl with | [_, _], _ => rfl
  have b35 := F35.binds (ps := ["self", "base"]) fun _ _ _ _ _ _ us hl => match us, hl with | [_, _], _ => rfl
  have b36 := F36.binds (ps := ["self", "half"]) fun _ _ _ _ _ _ us hl => match us, hl with | [_, _], _ => rfl
  have b37 := F37.binds (ps := ["self", "first"]) fun _ _ _ _ _ _ us hl => match us, hl with | [_, _], _ => rfl
  have b38 := F38.binds (ps := ["self", "most"]) fun _ _ _ _ _ _ us hl => match us, hl with | [_, _], _ => rfl
  have b39 := F39.binds (ps := ["self", "most"]) fun _ _ _ _ _ _ us hl => match us, hl with | [_, _], _ => rfl
  have b40 := F40.binds (ps := ["one", "other"]) fun _ _ _ _ _ _ us hl => match us, hl with | [_, _], _ => rfl
  have b41 := F41.binds (ps := ["one", "other"]) fun _ _ _ _ _ _ us hl => match us, hl with | [_, _], _ => rfl
  have b42 := F42.binds (ps := ["_law_name", "_law_number", "_law_machine", "_law_low", "_law_high"]) fun _ _ _ _ _ _ us hl => match us, hl with | [_, _, _, _, _], _ => rfl
  have b43 := F43.binds (ps := ["self", "total", "place"]) fun _ _ _ _ _ _ us hl => match us, hl with | [_, _, _], _ => rfl
  have b44 := F44.binds (ps := ["_law_name", "_law_number"]) fun _ _ _ _ _ _ us hl => match us, hl with | [_, _], _ => rfl
  have b45 := F45.binds (ps := ["self"]) fun _ _ _ _ _ _ us hl => match us, hl with | [_], _ => rfl
  have b46 := F46.binds (ps := ["self", "way", "low", "high"]) fun _ _ _ _ _ _ us hl => match us, hl with | [_, _, _, _], _ => rfl
  have b47 := F47.binds (ps := ["_law_script"]) fun _ _ _ _ _ _ us hl => match us, hl with | [_], _ => rfl
  have e_Plain : adOf mg "Plain" = C_Plain := adOf_eq (PySem.W.mg_of X G ac_Plain)
  have e_Below : adOf mg "Below" = C_Below := adOf_eq (PySem.W.mg_of X G ac_Below)
  have e_Balanced : adOf mg "Balanced" = C_Balanced := adOf_eq (PySem.W.mg_of X G ac_Balanced)
  have e_Growing : adOf mg "Growing" = C_Growing := adOf_eq (PySem.W.mg_of X G ac_Growing)
  have e_Falling : adOf mg "Falling" = C_Falling := adOf_eq (PySem.W.mg_of X G ac_Falling)
  have e_Pairs : adOf mg "Pairs" = C_Pairs := adOf_eq (PySem.W.mg_of X G ac_Pairs)
  have e_Machine : adOf mg "Machine" = C_Machine := adOf_eq (PySem.W.mg_of X G ac_Machine)
  have cl_Plain : Cls K (adOf mg "Plain") := by rw [e_Plain]; exact ⟨p1_Plain, p2_Plain, p3_Plain, p4_Plain⟩
  have cl_Below : Cls K (adOf mg "Below") := by rw [e_Below]; exact ⟨p1_Below, p2_Below, p3_Below, p4_Below⟩
  have cl_Balanced : Cls K (adOf mg "Balanced") := by rw [e_Balanced]; exact ⟨p1_Balanced, p2_Balanced, p3_Balanced, p4_Balanced⟩
  have cl_Growing : Cls K (adOf mg "Growing") := by rw [e_Growing]; exact ⟨p1_Growing, p2_Growing, p3_Growing, p4_Growing⟩
  have cl_Falling : Cls K (adOf mg "Falling") := by rw [e_Falling]; exact ⟨p1_Falling, p2_Falling, p3_Falling, p4_Falling⟩
  have cl_Pairs : Cls K (adOf mg "Pairs") := by rw [e_Pairs]; exact ⟨p1_Pairs, p2_Pairs, p3_Pairs, p4_Pairs⟩
  have cl_Machine : Cls K (adOf mg "Machine") := by rw [e_Machine]; exact ⟨p1_Machine, p2_Machine, p3_Machine, p4_Machine⟩
  have e_NoRatio : adOf mg "NoRatio" = X_NoRatio := adOf_eq (PySem.W.mg_of X G ae_NoRatio)
  have e_NoSpan : adOf mg "NoSpan" = X_NoSpan := adOf_eq (PySem.W.mg_of X G ae_NoSpan)
  have e_NoWay : adOf mg "NoWay" = X_NoWay := adOf_eq (PySem.W.mg_of X G ae_NoWay)
  refine ⟨PySem.W.fnOf "law" "law" (defArgs st_law) (defBody st_law) (defScope st_law) .none kV47 dc47 pm47 an47 cd47 ct47, fun s v => BindsTo.of_eq rfl, fun base _ _ => ?_⟩
  have is_Falling : IsT LC (gmOf PySem.Challenge.pw_oddbases_k46_machine_rows w K mg base) "Falling" := by
    intro w hw
    cases w with
    | plain x => exact ⟨⟨cl_Plain, (by show PySem.W.findIn K (.ref (adOf mg "Plain")) _ = _; rw [e_Plain]; exact hc_Plain), sp_, tk_, (by show PySem.W.mroIn K (adOf mg "Plain") _ = _; rw [e_Plain]; exact mo_Plain)⟩, (by show PySem.W.kitOne K (.ref (adOf mg "Plain")) (.ref (adOf mg "Falling")) = _; rw [e_Plain, e_Falling]; exact kitOne_of ci_w_Falling ct_w_Falling kt_Plain_Falling kt_Falling_Falling)⟩
    | below x => exact ⟨⟨cl_Below, (by show PySem.W.findIn K (.ref (adOf mg "Below")) _ = _; rw [e_Below]; exact hc_Below), sp_, tk_, (by show PySem.W.mroIn K (adOf mg "Below") _ = _; rw [e_Below]; exact mo_Below)⟩, (by show PySem.W.kitOne K (.ref (adOf mg "Below")) (.ref (adOf mg "Falling")) = _; rw [e_Below, e_Falling]; exact kitOne_of ci_w_Falling ct_w_Falling kt_Below_Falling kt_Falling_Falling)⟩
    | bal x => exact ⟨⟨cl_Balanced, (by show PySem.W.findIn K (.ref (adOf mg "Balanced")) _ = _; rw [e_Balanced]; exact hc_Balanced), sp_, tk_, (by show PySem.W.mroIn K (adOf mg "Balanced") _ = _; rw [e_Balanced]; exact mo_Balanced)⟩, (by show PySem.W.kitOne K (.ref (adOf mg "Balanced")) (.ref (adOf mg "Falling")) = _; rw [e_Balanced, e_Falling]; exact kitOne_of ci_w_Falling ct_w_Falling kt_Balanced_Falling kt_Falling_Falling)⟩
    | grow x => exact ⟨⟨cl_Growing, (by show PySem.W.findIn K (.ref (adOf mg "Growing")) _ = _; rw [e_Growing]; exact hc_Growing), sp_, tk_, (by show PySem.W.mroIn K (adOf mg "Growing") _ = _; rw [e_Growing]; exact mo_Growing)⟩, (by show PySem.W.kitOne K (.ref (adOf mg "Growing")) (.ref (adOf mg "Falling")) = _; rw [e_Growing, e_Falling]; exact kitOne_of ci_w_Falling ct_w_Falling kt_Growing_Falling kt_Falling_Falling)⟩
    | fall x => exact ⟨⟨cl_Falling, (by show PySem.W.findIn K (.ref (adOf mg "Falling")) _ = _; rw [e_Falling]; exact hc_Falling), sp_, tk_, (by show PySem.W.mroIn K (adOf mg "Falling") _ = _; rw [e_Falling]; exact mo_Falling)⟩, (by show PySem.W.kitOne K (.ref (adOf mg "Falling")) (.ref (adOf mg "Falling")) = _; rw [e_Falling]; exact kitOne_of ci_w_Falling ct_w_Falling kt_Falling_Falling kt_Falling_Falling)⟩
    | pairs x => exact ⟨⟨cl_Pairs, (by show PySem.W.findIn K (.ref (adOf mg "Pairs")) _ = _; rw [e_Pairs]; exact hc_Pairs), sp_, tk_, (by show PySem.W.mroIn K (adOf mg "Pairs") _ = _; rw [e_Pairs]; exact mo_Pairs)⟩, (by show PySem.W.kitOne K (.ref (adOf mg "Pairs")) (.ref (adOf mg "Falling")) = _; rw [e_Pairs, e_Falling]; exact kitOne_of ci_w_Falling ct_w_Falling kt_Pairs_Falling kt_Falling_Falling)⟩
  have is_Growing : IsT LC (gmOf PySem.Challenge.pw_oddbases_k46_machine_rows w K mg base) "Growing" := by
    intro w hw
    cases w with
    | plain x => exact ⟨⟨cl_Plain, (by show PySem.W.findIn K (.ref (adOf mg "Plain")) _ = _; rw [e_Plain]; exact hc_Plain), sp_, tk_, (by show PySem.W.mroIn K (adOf mg "Plain") _ = _; rw [e_Plain]; exact mo_Plain)⟩, (by show PySem.W.kitOne K (.ref (adOf mg "Plain")) (.ref (adOf mg "Growing")) = _; rw [e_Plain, e_Growing]; exact kitOne_of ci_w_Growing ct_w_Growing kt_Plain_Growing kt_Growing_Growing)⟩
    | below x => exact ⟨⟨cl_Below, (by show PySem.W.findIn K (.ref (adOf mg "Below")) _ = _; rw [e_Below]; exact hc_Below), sp_, tk_, (by show PySem.W.mroIn K (adOf mg "Below") _ = _; rw [e_Below]; exact mo_Below)⟩, (by show PySem.W.kitOne K (.ref (adOf mg "Below")) (.ref (adOf mg "Growing")) = _; rw [e_Below, e_Growing]; exact kitOne_of ci_w_Growing ct_w_Growing kt_Below_Growing kt_Growing_Growing)⟩
    | bal x => exact ⟨⟨cl_Balanced, (by show PySem.W.findIn K (.ref (adOf mg "Balanced")) _ = _; rw [e_Balanced]; exact hc_Balanced), sp_, tk_, (by show PySem.W.mroIn K (adOf mg "Balanced") _ = _; rw [e_Balanced]; exact mo_Balanced)⟩, (by show PySem.W.kitOne K (.ref (adOf mg "Balanced")) (.ref (adOf mg "Growing")) = _; rw [e_Balanced, e_Growing]; exact kitOne_of ci_w_Growing ct_w_Growing kt_Balanced_Growing kt_Growing_Growing)⟩
    | grow x => exact ⟨⟨cl_Growing, (by show PySem.W.findIn K (.ref (adOf mg "Growing")) _ = _; rw [e_Growing]; exact hc_Growing), sp_, tk_, (by show PySem.W.mroIn K (adOf mg "Growing") _ = _; rw [e_Growing]; exact mo_Growing)⟩, (by show PySem.W.kitOne K (.ref (adOf mg "Growing")) (.ref (adOf mg "Growing")) = _; rw [e_Growing]; exact kitOne_of ci_w_Growing ct_w_Growing kt_Growing_Growing kt_Growing_Growing)⟩
    | fall x => exact ⟨⟨cl_Falling, (by show PySem.W.findIn K (.ref (adOf mg "Falling")) _ = _; rw [e_Falling]; exact hc_Falling), sp_, tk_, (by show PySem.W.mroIn K (adOf mg "Falling") _ = _; rw [e_Falling]; exact mo_Falling)⟩, (by show PySem.W.kitOne K (.ref (adOf mg "Falling")) (.ref (adOf mg "Growing")) = _; rw [e_Falling, e_Growing]; exact kitOne_of ci_w_Growing ct_w_Growing kt_Falling_Growing kt_Growing_Growing)⟩
    | pairs x => exact ⟨⟨cl_Pairs, (by show PySem.W.findIn K (.ref (adOf mg "Pairs")) _ = _; rw [e_Pairs]; exact hc_Pairs), sp_, tk_, (by show PySem.W.mroIn K (adOf mg "Pairs") _ = _; rw [e_Pairs]; exact mo_Pairs)⟩, (by show PySem.W.kitOne K (.ref (adOf mg "Pairs")) (.ref (adOf mg "Growing")) = _; rw [e_Pairs, e_Growing]; exact kitOne_of ci_w_Growing ct_w_Growing kt_Pairs_Growing kt_Growing_Growing)⟩
  have is_Pairs : IsT LC (gmOf PySem.Challenge.pw_oddbases_k46_machine_rows w K mg base) "Pairs" := by
    intro w hw
    cases w with
    | plain x => exact ⟨⟨cl_Plain, (by show PySem.W.findIn K (.ref (adOf mg "Plain")) _ = _; rw [e_Plain]; exact hc_Plain), sp_, tk_, (by show PySem.W.mroIn K (adOf mg "Plain") _ = _; rw [e_Plain]; exact mo_Plain)⟩, (by show PySem.W.kitOne K (.ref (adOf mg "Plain")) (.ref (adOf mg "Pairs")) = _; rw [e_Plain, e_Pairs]; exact kitOne_of ci_w_Pairs ct_w_Pairs kt_Plain_Pairs kt_Pairs_Pairs)⟩
    | below x => exact ⟨⟨cl_Below, (by show PySem.W.findIn K (.ref (adOf mg "Below")) _ = _; rw [e_Below]; exact hc_Below), sp_, tk_, (by show PySem.W.mroIn K (adOf mg "Below") _ = _; rw [e_Below]; exact mo_Below)⟩, (by show PySem.W.kitOne K (.ref (adOf mg "Below")) (.ref (adOf mg "Pairs")) = _; rw [e_Below, e_Pairs]; exact kitOne_of ci_w_Pairs ct_w_Pairs kt_Below_Pairs kt_Pairs_Pairs)⟩
    | bal x => exact ⟨⟨cl_Balanced, (by show PySem.W.findIn K (.ref (adOf mg "Balanced")) _ = _; rw [e_Balanced]; exact hc_Balanced), sp_, tk_, (by show PySem.W.mroIn K (adOf mg "Balanced") _ = _; rw [e_Balanced]; exact mo_Balanced)⟩, (by show PySem.W.kitOne K (.ref (adOf mg "Balanced")) (.ref (adOf mg "Pairs")) = _; rw [e_Balanced, e_Pairs]; exact kitOne_of ci_w_Pairs ct_w_Pairs kt_Balanced_Pairs kt_Pairs_Pairs)⟩
    | grow x => exact ⟨⟨cl_Growing, (by show PySem.W.findIn K (.ref (adOf mg "Growing")) _ = _; rw [e_Growing]; exact hc_Growing), sp_, tk_, (by show PySem.W.mroIn K (adOf mg "Growing") _ = _; rw [e_Growing]; exact mo_Growing)⟩, (by show PySem.W.kitOne K (.ref (adOf mg "Growing")) (.ref (adOf mg "Pairs")) = _; rw [e_Growing, e_Pairs]; exact kitOne_of ci_w_Pairs ct_w_Pairs kt_Growing_Pairs kt_Pairs_Pairs)⟩
    | fall x => exact ⟨⟨cl_Falling, (by show PySem.W.findIn K (.ref (adOf mg "Falling")) _ = _; rw [e_Falling]; exact hc_Falling), sp_, tk_, (by show PySem.W.mroIn K (adOf mg "Falling") _ = _; rw [e_Falling]; exact mo_Falling)⟩, (by show PySem.W.kitOne K (.ref (adOf mg "Falling")) (.ref (adOf mg "Pairs")) = _; rw [e_Falling, e_Pairs]; exact kitOne_of ci_w_Pairs ct_w_Pairs kt_Falling_Pairs kt_Pairs_Pairs)⟩
    | pairs x => exact ⟨⟨cl_Pairs, (by show PySem.W.findIn K (.ref (adOf mg "Pairs")) _ = _; rw [e_Pairs]; exact hc_Pairs), sp_, tk_, (by show PySem.W.mroIn K (adOf mg "Pairs") _ = _; rw [e_Pairs]; exact mo_Pairs)⟩, (by show PySem.W.kitOne K (.ref (adOf mg "Pairs")) (.ref (adOf mg "Pairs")) = _; rw [e_Pairs]; exact kitOne_of ci_w_Pairs ct_w_Pairs kt_Pairs_Pairs kt_Pairs_Pairs)⟩
  have fl : FlT LC (gmOf PySem.Challenge.pw_oddbases_k46_machine_rows w K mg base) := by
    intro w hw
    cases w with
    | plain x => exact ⟨cl_Plain, (by show PySem.W.findIn K (.ref (adOf mg "Plain")) _ = _; rw [e_Plain]; exact na_Plain)⟩
    | below x => exact ⟨cl_Below, (by show PySem.W.findIn K (.ref (adOf mg "Below")) _ = _; rw [e_Below]; exact na_Below)⟩
    | bal x => exact ⟨cl_Balanced, (by show PySem.W.findIn K (.ref (adOf mg "Balanced")) _ = _; rw [e_Balanced]; exact na_Balanced)⟩
    | grow x => exact ⟨cl_Growing, (by show PySem.W.findIn K (.ref (adOf mg "Growing")) _ = _; rw [e_Growing]; exact na_Growing)⟩
    | fall x => exact ⟨cl_Falling, (by show PySem.W.findIn K (.ref (adOf mg "Falling")) _ = _; rw [e_Falling]; exact na_Falling)⟩
    | pairs x => exact ⟨cl_Pairs, (by show PySem.W.findIn K (.ref (adOf mg "Pairs")) _ = _; rw [e_Pairs]; exact na_Pairs)⟩
  have T : Tx (gmOf PySem.Challenge.pw_oddbases_k46_machine_rows w K mg base) := ⟨PySem.W.mg_none_of X G z_abs, PySem.W.mg_none_of X G z_bool, PySem.W.mg_none_of X G z_int, PySem.W.mg_none_of X G z_isinstance, PySem.W.mg_none_of X G z_len, PySem.W.mg_none_of X G z_list, PySem.W.mg_none_of X G z_min, PySem.W.mg_none_of X G z_range, PySem.W.mg_none_of X G z_tuple, adOf_mg (PySem.W.mg_of X G ac_Falling), adOf_mg (PySem.W.mg_of X G ac_Growing), adOf_mg (PySem.W.mg_of X G ac_Pairs), is_Falling, is_Growing, is_Pairs, ⟨cl_Machine, (by show PySem.W.findIn K (.ref (adOf mg "Machine")) _ = _; rw [e_Machine]; exact na_Machine_way)⟩, ⟨cl_Machine, (by show PySem.W.findIn K (.ref (adOf mg "Machine")) _ = _; rw [e_Machine]; exact na_Machine_least)⟩, ⟨cl_Machine, (by show PySem.W.findIn K (.ref (adOf mg "Machine")) _ = _; rw [e_Machine]; exact na_Machine_greatest)⟩, ⟨cl_Machine, (by show PySem.W.findIn K (.ref (adOf mg "Machine")) _ = _; rw [e_Machine]; exact na_Machine_known)⟩, ⟨cl_Machine, (by show PySem.W.findIn K (.ref (adOf mg "Machine")) _ = _; rw [e_Machine]; exact na_Machine_table)⟩, fl, ⟨⟨_, rfl, (by show PySem.W.excIn K (adOf mg "NoRatio") _ _ = _; rw [e_NoRatio]; exact eq_NoRatio)⟩, adOf_mg (PySem.W.mg_of X G ae_NoRatio), (by show PySem.W.keepIn K (.ref (adOf mg "NoRatio")) = _; rw [e_NoRatio]; exact ek_NoRatio), (by show PySem.W.subIn K (.ref (adOf mg "NoRatio")) _ = _; rw [e_NoRatio]; exact eb_NoRatio), (by show PySem.W.typeIn K (.ref (adOf mg "NoRatio")) = _; rw [e_NoRatio]; exact et_NoRatio)⟩, ⟨⟨_, rfl, (by show PySem.W.excIn K (adOf mg "NoSpan") _ _ = _; rw [e_NoSpan]; exact eq_NoSpan)⟩, adOf_mg (PySem.W.mg_of X G ae_NoSpan), (by show PySem.W.keepIn K (.ref (adOf mg "NoSpan")) = _; rw [e_NoSpan]; exact ek_NoSpan), (by show PySem.W.subIn K (.ref (adOf mg "NoSpan")) _ = _; rw [e_NoSpan]; exact eb_NoSpan), (by show PySem.W.typeIn K (.ref (adOf mg "NoSpan")) = _; rw [e_NoSpan]; exact et_NoSpan)⟩, ⟨⟨_, rfl, (by show PySem.W.excIn K (adOf mg "NoWay") _ _ = _; rw [e_NoWay]; exact eq_NoWay)⟩, adOf_mg (PySem.W.mg_of X G ae_NoWay), (by show PySem.W.keepIn K (.ref (adOf mg "NoWay")) = _; rw [e_NoWay]; exact ek_NoWay), (by show PySem.W.subIn K (.ref (adOf mg "NoWay")) _ = _; rw [e_NoWay]; exact eb_NoWay), (by show PySem.W.typeIn K (.ref (adOf mg "NoWay")) = _; rw [e_NoWay]; exact et_NoWay)⟩, ⟨_, PySem.W.mg_of X G cg_FARTHEST⟩⟩
  have G_is_pair := ok_is_pair (Γ := gmOf PySem.Challenge.pw_oddbases_k46_machine_rows w K mg base) (k := 0) T F0
  have C_is_pair_ : Cal (gmOf PySem.Challenge.pw_oddbases_k46_machine_rows w K mg base) 1 "is_pair" 1 M_is_pair := ⟨_, _, _, rfl, G_is_pair, PySem.W.mg_of X G a0, F0.kp, b0⟩
  have G_look_at := ok_look_at (Γ := gmOf PySem.Challenge.pw_oddbases_k46_machine_rows w K mg base) (k := 0) T F1
  have C_look_at_ : Cal (gmOf PySem.Challenge.pw_oddbases_k46_machine_rows w K mg base) 1 "look_at" 3 M_look_at := ⟨_, _, _, rfl, G_look_at, PySem.W.mg_of X G a1, F1.kp, b1⟩
  have G_Way_low := fun (C : Str) (hC : C ∈ I_Way_low) => ok_Way_low (Γ := gmOf PySem.Challenge.pw_oddbases_k46_machine_rows w K mg base) (k := 0) T F2 C hC
  have G_Balanced_low := ok_Balanced_low (Γ := gmOf PySem.Challenge.pw_oddbases_k46_machine_rows w K mg base) (k := 0) T F3
  have G_Plain_high := ok_Plain_high (Γ := gmOf PySem.Challenge.pw_oddbases_k46_machine_rows w K mg base) (k := 0) T F4
  have G_Below_high := ok_Below_high (Γ := gmOf PySem.Challenge.pw_oddbases_k46_machine_rows w K mg base) (k := 0) T F5
  have G_Balanced_high := ok_Balanced_high (Γ := gmOf PySem.Challenge.pw_oddbases_k46_machine_rows w K mg base) (k := 0) T F6
  have G_Growing_high := ok_Growing_high (Γ := gmOf PySem.Challenge.pw_oddbases_k46_machine_rows w K mg base) (k := 0) T F7
  have G_Falling_high := ok_Falling_high (Γ := gmOf PySem.Challenge.pw_oddbases_k46_machine_rows w K mg base) (k := 0) T F8
  have G_Pairs_high := ok_Pairs_high (Γ := gmOf PySem.Challenge.pw_oddbases_k46_machine_rows w K mg base) (k := 0) T F9
  have G_Way_ratio := fun (C : Str) (hC : C ∈ I_Way_ratio) => ok_Way_ratio (Γ := gmOf PySem.Challenge.pw_oddbases_k46_machine_rows w K mg base) (k := 0) T F10 C hC
  have G_Plain_ratio := ok_Plain_ratio (Γ := gmOf PySem.Challenge.pw_oddbases_k46_machine_rows w K mg base) (k := 0) T F11
  have G_Below_ratio := ok_Below_ratio (Γ := gmOf PySem.Challenge.pw_oddbases_k46_machine_rows w K mg base) (k := 0) T F12
  have G_Balanced_ratio := ok_Balanced_ratio (Γ := gmOf PySem.Challenge.pw_oddbases_k46_machine_rows w K mg base) (k := 0) T F13
  have G_Growing_ratio := ok_Growing_ratio (Γ := gmOf PySem.Challenge.pw_oddbases_k46_machine_rows w K mg base) (k := 0) T F14
  have G_Pairs_ratio := ok_Pairs_ratio (Γ := gmOf PySem.Challenge.pw_oddbases_k46_machine_rows w K mg base) (k := 0) T F15
  have G_Falling_split := ok_Falling_split (Γ := gmOf PySem.Challenge.pw_oddbases_k46_machine_rows w K mg base) (k := 0) T F16
  have G_nought := ok_nought (Γ := gmOf PySem.Challenge.pw_oddbases_k46_machine_rows w K mg base) (k := 0) T F17
  have C_nought_ : Cal (gmOf PySem.Challenge.pw_oddbases_k46_machine_rows w K mg base) 1 "nought" 1 M_nought := ⟨_, _, _, rfl, G_nought, PySem.W.mg_of X G a17, F17.kp, b17⟩
  have G_look_at_way := ok_look_at_way (Γ := gmOf PySem.Challenge.pw_oddbases_k46_machine_rows w K mg base) (k := 0) T F18
  have C_look_at_way_ : Cal (gmOf PySem.Challenge.pw_oddbases_k46_machine_rows w K mg base) 1 "look_at_way" 1 M_look_at_way := ⟨_, _, _, rfl, G_look_at_way, PySem.W.mg_of X G a18, F18.kp, b18⟩
  have G_Machine_carries := ok_Machine_carries (Γ := gmOf PySem.Challenge.pw_oddbases_k46_machine_rows w K mg base) (k := 0) T F19
  have K_carries : CalM (gmOf PySem.Challenge.pw_oddbases_k46_machine_rows w K mg base) 1 "Machine" "carries" 1 MM_carries := ⟨_, _, _, rfl, G_Machine_carries, cl_Machine, ⟨(by show PySem.W.findIn K (.ref (adOf mg "Machine")) _ = _; rw [e_Machine]; exact fm_Machine_carries), fn_Machine_carries, F19.kp⟩, b19⟩
  have G_Machine_rows := ok_Machine_rows (Γ := gmOf PySem.Challenge.pw_oddbases_k46_machine_rows w K mg base) (k := 0) T F20
  have K_rows : CalM (gmOf PySem.Challenge.pw_oddbases_k46_machine_rows w K mg base) 1 "Machine" "rows" 1 MM_rows := ⟨_, _, _, rfl, G_Machine_rows, cl_Machine, ⟨(by show PySem.W.findIn K (.ref (adOf mg "Machine")) _ = _; rw [e_Machine]; exact fm_Machine_rows), fn_Machine_rows, F20.kp⟩, b20⟩
  have G__law_cell_at := ok__law_cell_at (Γ := gmOf PySem.Challenge.pw_oddbases_k46_machine_rows w K mg base) (k := 0) T F21
  have C__law_cell_at_ : Cal (gmOf PySem.Challenge.pw_oddbases_k46_machine_rows w K mg base) 1 "_law_cell_at" 2 M__law_cell_at := ⟨_, _, _, rfl, G__law_cell_at, PySem.W.mg_of X G a21, F21.kp, b21⟩
  have G__law_added := ok__law_added (Γ := gmOf PySem.Challenge.pw_oddbases_k46_machine_rows w K mg base) (k := 0) T F22
  have C__law_added_ : Cal (gmOf PySem.Challenge.pw_oddbases_k46_machine_rows w K mg base) 1 "_law_added" 2 M__law_added := ⟨_, _, _, rfl, G__law_added, PySem.W.mg_of X G a22, F22.kp, b22⟩
  have G__law_times := ok__law_times (Γ := gmOf PySem.Challenge.pw_oddbases_k46_machine_rows w K mg base) (k := 0) T F23
  have C__law_times_ : Cal (gmOf PySem.Challenge.pw_oddbases_k46_machine_rows w K mg base) 1 "_law_times" 3 M__law_times := ⟨_, _, _, rfl, G__law_times, PySem.W.mg_of X G a23, F23.kp, b23⟩
  have G__law_is_figure := ok__law_is_figure (Γ := gmOf PySem.Challenge.pw_oddbases_k46_machine_rows w K mg base) (k := 0) T F24
  have C__law_is_figure_ : Cal (gmOf PySem.Challenge.pw_oddbases_k46_machine_rows w K mg base) 1 "_law_is_figure" 3 M__law_is_figure := ⟨_, _, _, rfl, G__law_is_figure, PySem.W.mg_of X G a24, F24.kp, b24⟩
  have G__law_nought := ok__law_nought (Γ := gmOf PySem.Challenge.pw_oddbases_k46_machine_rows w K mg base) (k := 0) T F25
  have C__law_nought_ : Cal (gmOf PySem.Challenge.pw_oddbases_k46_machine_rows w K mg base) 1 "_law_nought" 1 M__law_nought := ⟨_, _, _, rfl, G__law_nought, PySem.W.mg_of X G a25, F25.kp, b25⟩
  have G__law_is_number := ok__law_is_number (Γ := gmOf PySem.Challenge.pw_oddbases_k46_machine_rows w K mg base) (k := 0) T F26
  have C__law_is_number_ : Cal (gmOf PySem.Challenge.pw_oddbases_k46_machine_rows w K mg base) 1 "_law_is_number" 2 M__law_is_number := ⟨_, _, _, rfl, G__law_is_number, PySem.W.mg_of X G a26, F26.kp, b26⟩
  have G__law_chosen := ok__law_chosen (Γ := gmOf PySem.Challenge.pw_oddbases_k46_machine_rows w K mg base) (k := 0) T F27
  have C__law_chosen_ : Cal (gmOf PySem.Challenge.pw_oddbases_k46_machine_rows w K mg base) 1 "_law_chosen" 1 M__law_chosen := ⟨_, _, _, rfl, G__law_chosen, PySem.W.mg_of X G a27, F27.kp, b27⟩
  have G__law_span := ok__law_span (Γ := gmOf PySem.Challenge.pw_oddbases_k46_machine_rows w K mg base) (k := 0) T F28
  have C__law_span_ : Cal (gmOf PySem.Challenge.pw_oddbases_k46_machine_rows w K mg base) 1 "_law_span" 3 M__law_span := ⟨_, _, _, rfl, G__law_span, PySem.W.mg_of X G a28, F28.kp, b28⟩
  have G_as_pair := ok_as_pair (Γ := gmOf PySem.Challenge.pw_oddbases_k46_machine_rows w K mg base) (k := 1) T F29 (C_is_pair_.mono (by decide))
  have C_as_pair_ : Cal (gmOf PySem.Challenge.pw_oddbases_k46_machine_rows w K mg base) 2 "as_pair" 1 M_as_pair := ⟨_, _, _, rfl, G_as_pair, PySem.W.mg_of X G a29, F29.kp, b29⟩
  have W_low : WM LC (gmOf PySem.Challenge.pw_oddbases_k46_machine_rows w K mg base) 1 "low" 2 mw_low := by
    intro w hw
    cases w with
    | plain x => exact ⟨_, _, _, rfl, (G_Way_low "Plain" (by decide)).mono (by decide), cl_Plain, ⟨(by show PySem.W.findIn K (.ref (adOf mg "Plain")) _ = _; rw [e_Plain]; exact fm_Plain_low), fn_Plain_low, F2.kp⟩, b2⟩
    | below x => exact ⟨_, _, _, rfl, (G_Way_low "Below" (by decide)).mono (by decide), cl_Below, ⟨(by show PySem.W.findIn K (.ref (adOf mg "Below")) _ = _; rw [e_Below]; exact fm_Below_low), fn_Below_low, F2.kp⟩, b2⟩
    | bal x => exact ⟨_, _, _, rfl, (G_Balanced_low).mono (by decide), cl_Balanced, ⟨(by show PySem.W.findIn K (.ref (adOf mg "Balanced")) _ = _; rw [e_Balanced]; exact fm_Balanced_low), fn_Balanced_low, F3.kp⟩, b3⟩
    | grow x => exact ⟨_, _, _, rfl, (G_Way_low "Growing" (by decide)).mono (by decide), cl_Growing, ⟨(by show PySem.W.findIn K (.ref (adOf mg "Growing")) _ = _; rw [e_Growing]; exact fm_Growing_low), fn_Growing_low, F2.kp⟩, b2⟩
    | fall x => exact ⟨_, _, _, rfl, (G_Way_low "Falling" (by decide)).mono (by decide), cl_Falling, ⟨(by show PySem.W.findIn K (.ref (adOf mg "Falling")) _ = _; rw [e_Falling]; exact fm_Falling_low), fn_Falling_low, F2.kp⟩, b2⟩
    | pairs x => exact ⟨_, _, _, rfl, (G_Way_low "Pairs" (by decide)).mono (by decide), cl_Pairs, ⟨(by show PySem.W.findIn K (.ref (adOf mg "Pairs")) _ = _; rw [e_Pairs]; exact fm_Pairs_low), fn_Pairs_low, F2.kp⟩, b2⟩
  have W_ratio : WM LC (gmOf PySem.Challenge.pw_oddbases_k46_machine_rows w K mg base) 1 "ratio" 2 mw_ratio := by
    intro w hw
    cases w with
    | plain x => exact ⟨_, _, _, rfl, (G_Plain_ratio).mono (by decide), cl_Plain, ⟨(by show PySem.W.findIn K (.ref (adOf mg "Plain")) _ = _; rw [e_Plain]; exact fm_Plain_ratio), fn_Plain_ratio, F11.kp⟩, b11⟩
    | below x => exact ⟨_, _, _, rfl, (G_Below_ratio).mono (by decide), cl_Below, ⟨(by show PySem.W.findIn K (.ref (adOf mg "Below")) _ = _; rw [e_Below]; exact fm_Below_ratio), fn_Below_ratio, F12.kp⟩, b12⟩
    | bal x => exact ⟨_, _, _, rfl, (G_Balanced_ratio).mono (by decide), cl_Balanced, ⟨(by show PySem.W.findIn K (.ref (adOf mg "Balanced")) _ = _; rw [e_Balanced]; exact fm_Balanced_ratio), fn_Balanced_ratio, F13.kp⟩, b13⟩
    | grow x => exact ⟨_, _, _, rfl, (G_Growing_ratio).mono (by decide), cl_Growing, ⟨(by show PySem.W.findIn K (.ref (adOf mg "Growing")) _ = _; rw [e_Growing]; exact fm_Growing_ratio), fn_Growing_ratio, F14.kp⟩, b14⟩
    | fall x => exact ⟨_, _, _, rfl, (G_Way_ratio "Falling" (by decide)).mono (by decide), cl_Falling, ⟨(by show PySem.W.findIn K (.ref (adOf mg "Falling")) _ = _; rw [e_Falling]; exact fm_Falling_ratio), fn_Falling_ratio, F10.kp⟩, b10⟩
    | pairs x => exact ⟨_, _, _, rfl, (G_Pairs_ratio).mono (by decide), cl_Pairs, ⟨(by show PySem.W.findIn K (.ref (adOf mg "Pairs")) _ = _; rw [e_Pairs]; exact fm_Pairs_ratio), fn_Pairs_ratio, F15.kp⟩, b15⟩
  have G_Way_split := fun (C : Str) (hC : C ∈ I_Way_split) => ok_Way_split (Γ := gmOf PySem.Challenge.pw_oddbases_k46_machine_rows w K mg base) (k := 1) T F30 C hC (W_low.mono (by decide)) (W_ratio.mono (by decide))
  have W_high : WM LC (gmOf PySem.Challenge.pw_oddbases_k46_machine_rows w K mg base) 1 "high" 2 mw_high := by
    intro w hw
    cases w with
    | plain x => exact ⟨_, _, _, rfl, (G_Plain_high).mono (by decide), cl_Plain, ⟨(by show PySem.W.findIn K (.ref (adOf mg "Plain")) _ = _; rw [e_Plain]; exact fm_Plain_high), fn_Plain_high, F4.kp⟩, b4⟩
    | below x => exact ⟨_, _, _, rfl, (G_Below_high).mono (by decide), cl_Below, ⟨(by show PySem.W.findIn K (.ref (adOf mg "Below")) _ = _; rw [e_Below]; exact fm_Below_high), fn_Below_high, F5.kp⟩, b5⟩
    | bal x => exact ⟨_, _, _, rfl, (G_Balanced_high).mono (by decide), cl_Balanced, ⟨(by show PySem.W.findIn K (.ref (adOf mg "Balanced")) _ = _; rw [e_Balanced]; exact fm_Balanced_high), fn_Balanced_high, F6.kp⟩, b6⟩
    | grow x => exact ⟨_, _, _, rfl, (G_Growing_high).mono (by decide), cl_Growing, ⟨(by show PySem.W.findIn K (.ref (adOf mg "Growing")) _ = _; rw [e_Growing]; exact fm_Growing_high), fn_Growing_high, F7.kp⟩, b7⟩
    | fall x => exact ⟨_, _, _, rfl, (G_Falling_high).mono (by decide), cl_Falling, ⟨(by show PySem.W.findIn K (.ref (adOf mg "Falling")) _ = _; rw [e_Falling]; exact fm_Falling_high), fn_Falling_high, F8.kp⟩, b8⟩
    | pairs x => exact ⟨_, _, _, rfl, (G_Pairs_high).mono (by decide), cl_Pairs, ⟨(by show PySem.W.findIn K (.ref (adOf mg "Pairs")) _ = _; rw [e_Pairs]; exact fm_Pairs_high), fn_Pairs_high, F9.kp⟩, b9⟩
  have G_look_at_span := ok_look_at_span (Γ := gmOf PySem.Challenge.pw_oddbases_k46_machine_rows w K mg base) (k := 1) T F31 (W_high.mono (by decide))
  have C_look_at_span_ : Cal (gmOf PySem.Challenge.pw_oddbases_k46_machine_rows w K mg base) 2 "look_at_span" 3 M_look_at_span := ⟨_, _, _, rfl, G_look_at_span, PySem.W.mg_of X G a31, F31.kp, b31⟩
  have G__law_row := ok__law_row (Γ := gmOf PySem.Challenge.pw_oddbases_k46_machine_rows w K mg base) (k := 1) T F32 (C__law_is_number_.mono (by decide)) (C__law_is_figure_.mono (by decide)) (C__law_added_.mono (by decide)) (C__law_times_.mono (by decide))
  have C__law_row_ : Cal (gmOf PySem.Challenge.pw_oddbases_k46_machine_rows w K mg base) 2 "_law_row" 5 M__law_row := ⟨_, _, _, rfl, G__law_row, PySem.W.mg_of X G a32, F32.kp, b32⟩
  have G__law_found := ok__law_found (Γ := gmOf PySem.Challenge.pw_oddbases_k46_machine_rows w K mg base) (k := 1) T F33 (C__law_nought_.mono (by decide))
  have C__law_found_ : Cal (gmOf PySem.Challenge.pw_oddbases_k46_machine_rows w K mg base) 2 "_law_found" 2 M__law_found := ⟨_, _, _, rfl, G__law_found, PySem.W.mg_of X G a33, F33.kp, b33⟩
  have G_Plain___init__ := ok_Plain___init__ (Γ := gmOf PySem.Challenge.pw_oddbases_k46_machine_rows w K mg base) (k := 1) T F34 (C_look_at_.mono (by decide))
  have C_Plain_ : CalC (gmOf PySem.Challenge.pw_oddbases_k46_machine_rows w K mg base) 2 "Plain" "base" 2 60 := ⟨_, _, _, G_Plain___init__, (by show Mk K (adOf mg "Plain") _; rw [e_Plain]; exact ⟨cm_Plain, ci_Plain, cf_Plain, ck_Plain⟩), adOf_mg (PySem.W.mg_of X G ac_Plain), b34⟩
  have G_Below___init__ := ok_Below___init__ (Γ := gmOf PySem.Challenge.pw_oddbases_k46_machine_rows w K mg base) (k := 1) T F35 (C_look_at_.mono (by decide))
  have C_Below_ : CalC (gmOf PySem.Challenge.pw_oddbases_k46_machine_rows w K mg base) 2 "Below" "base" 2 60 := ⟨_, _, _, G_Below___init__, (by show Mk K (adOf mg "Below") _; rw [e_Below]; exact ⟨cm_Below, ci_Below, cf_Below, ck_Below⟩), adOf_mg (PySem.W.mg_of X G ac_Below), b35⟩
  have G_Balanced___init__ := ok_Balanced___init__ (Γ := gmOf PySem.Challenge.pw_oddbases_k46_machine_rows w K mg base) (k := 1) T F36 (C_look_at_.mono (by decide))
  have C_Balanced_ : CalC (gmOf PySem.Challenge.pw_oddbases_k46_machine_rows w K mg base) 2 "Balanced" "half" 1 30 := ⟨_, _, _, G_Balanced___init__, (by show Mk K (adOf mg "Balanced") _; rw [e_Balanced]; exact ⟨cm_Balanced, ci_Balanced, cf_Balanced, ck_Balanced⟩), adOf_mg (PySem.W.mg_of X G ac_Balanced), b36⟩
  have G_Growing___init__ := ok_Growing___init__ (Γ := gmOf PySem.Challenge.pw_oddbases_k46_machine_rows w K mg base) (k := 1) T F37 (C_look_at_.mono (by decide))
  have C_Growing_ : CalC (gmOf PySem.Challenge.pw_oddbases_k46_machine_rows w K mg base) 2 "Growing" "first" 2 60 := ⟨_, _, _, G_Growing___init__, (by show Mk K (adOf mg "Growing") _; rw [e_Growing]; exact ⟨cm_Growing, ci_Growing, cf_Growing, ck_Growing⟩), adOf_mg (PySem.W.mg_of X G ac_Growing), b37⟩
  have G_Falling___init__ := ok_Falling___init__ (Γ := gmOf PySem.Challenge.pw_oddbases_k46_machine_rows w K mg base) (k := 1) T F38 (C_look_at_.mono (by decide))
  have C_Falling_ : CalC (gmOf PySem.Challenge.pw_oddbases_k46_machine_rows w K mg base) 2 "Falling" "most" 1 9 := ⟨_, _, _, G_Falling___init__, (by show Mk K (adOf mg "Falling") _; rw [e_Falling]; exact ⟨cm_Falling, ci_Falling, cf_Falling, ck_Falling⟩), adOf_mg (PySem.W.mg_of X G ac_Falling), b38⟩
  have G_Pairs___init__ := ok_Pairs___init__ (Γ := gmOf PySem.Challenge.pw_oddbases_k46_machine_rows w K mg base) (k := 1) T F39 (C_look_at_.mono (by decide))
  have C_Pairs_ : CalC (gmOf PySem.Challenge.pw_oddbases_k46_machine_rows w K mg base) 2 "Pairs" "most" 1 9 := ⟨_, _, _, G_Pairs___init__, (by show Mk K (adOf mg "Pairs") _; rw [e_Pairs]; exact ⟨cm_Pairs, ci_Pairs, cf_Pairs, ck_Pairs⟩), adOf_mg (PySem.W.mg_of X G ac_Pairs), b39⟩
  have G_added := ok_added (Γ := gmOf PySem.Challenge.pw_oddbases_k46_machine_rows w K mg base) (k := 2) T F40 (C_is_pair_.mono (by decide)) (C_as_pair_.mono (by decide))
  have C_added_ : Cal (gmOf PySem.Challenge.pw_oddbases_k46_machine_rows w K mg base) 3 "added" 2 M_added := ⟨_, _, _, rfl, G_added, PySem.W.mg_of X G a40, F40.kp, b40⟩
  have G_multiplied := ok_multiplied (Γ := gmOf PySem.Challenge.pw_oddbases_k46_machine_rows w K mg base) (k := 2) T F41 (C_is_pair_.mono (by decide)) (C_as_pair_.mono (by decide))
  have C_multiplied_ : Cal (gmOf PySem.Challenge.pw_oddbases_k46_machine_rows w K mg base) 3 "multiplied" 2 M_multiplied := ⟨_, _, _, rfl, G_multiplied, PySem.W.mg_of X G a41, F41.kp, b41⟩
  have G__law_walked := ok__law_walked (Γ := gmOf PySem.Challenge.pw_oddbases_k46_machine_rows w K mg base) (k := 2) T F42 (C__law_row_.mono (by decide)) (C__law_found_.mono (by decide)) (K_carries.mono (by decide)) (K_rows.mono (by decide))
  have C__law_walked_ : Cal (gmOf PySem.Challenge.pw_oddbases_k46_machine_rows w K mg base) 3 "_law_walked" 5 M__law_walked := ⟨_, _, _, rfl, G__law_walked, PySem.W.mg_of X G a42, F42.kp, b42⟩
  have G_Pairs_split := ok_Pairs_split (Γ := gmOf PySem.Challenge.pw_oddbases_k46_machine_rows w K mg base) (k := 3) T F43 (C_as_pair_.mono (by decide)) (C_multiplied_.mono (by decide)) (C_added_.mono (by decide))
  have G__law_way := ok__law_way (Γ := gmOf PySem.Challenge.pw_oddbases_k46_machine_rows w K mg base) (k := 2) T F44 (C_Plain_.mono (by decide)) (C_Below_.mono (by decide)) (C_Balanced_.mono (by decide)) (C_Pairs_.mono (by decide))
  have C__law_way_ : Cal (gmOf PySem.Challenge.pw_oddbases_k46_machine_rows w K mg base) 4 "_law_way" 2 M__law_way := ⟨_, _, _, rfl, G__law_way, PySem.W.mg_of X G a44, F44.kp, b44⟩
  have W_split : WM LC (gmOf PySem.Challenge.pw_oddbases_k46_machine_rows w K mg base) 4 "split" 3 mw_split := by
    intro w hw
    cases w with
    | plain x => exact ⟨_, _, _, rfl, (G_Way_split "Plain" (by decide)).mono (by decide), cl_Plain, ⟨(by show PySem.W.findIn K (.ref (adOf mg "Plain")) _ = _; rw [e_Plain]; exact fm_Plain_split), fn_Plain_split, F30.kp⟩, b30⟩
    | below x => exact ⟨_, _, _, rfl, (G_Way_split "Below" (by decide)).mono (by decide), cl_Below, ⟨(by show PySem.W.findIn K (.ref (adOf mg "Below")) _ = _; rw [e_Below]; exact fm_Below_split), fn_Below_split, F30.kp⟩, b30⟩
    | bal x => exact ⟨_, _, _, rfl, (G_Way_split "Balanced" (by decide)).mono (by decide), cl_Balanced, ⟨(by show PySem.W.findIn K (.ref (adOf mg "Balanced")) _ = _; rw [e_Balanced]; exact fm_Balanced_split), fn_Balanced_split, F30.kp⟩, b30⟩
    | grow x => exact ⟨_, _, _, rfl, (G_Way_split "Growing" (by decide)).mono (by decide), cl_Growing, ⟨(by show PySem.W.findIn K (.ref (adOf mg "Growing")) _ = _; rw [e_Growing]; exact fm_Growing_split), fn_Growing_split, F30.kp⟩, b30⟩
    | fall x => exact ⟨_, _, _, rfl, (G_Falling_split).mono (by decide), cl_Falling, ⟨(by show PySem.W.findIn K (.ref (adOf mg "Falling")) _ = _; rw [e_Falling]; exact fm_Falling_split), fn_Falling_split, F16.kp⟩, b16⟩
    | pairs x => exact ⟨_, _, _, rfl, (G_Pairs_split).mono (by decide), cl_Pairs, ⟨(by show PySem.W.findIn K (.ref (adOf mg "Pairs")) _ = _; rw [e_Pairs]; exact fm_Pairs_split), fn_Pairs_split, F43.kp⟩, b43⟩
  have G_Machine_fill := ok_Machine_fill (Γ := gmOf PySem.Challenge.pw_oddbases_k46_machine_rows w K mg base) (k := 4) T F45 (C_added_.mono (by decide)) (W_split.mono (by decide))
  have C_fill_ : CalF (gmOf PySem.Challenge.pw_oddbases_k46_machine_rows w K mg base) 5 "Machine" "fill" 1 (spFillM (gmOf PySem.Challenge.pw_oddbases_k46_machine_rows w K mg base).nm) := ⟨_, _, _, rfl, G_Machine_fill, cl_Machine, ⟨(by show PySem.W.findIn K (.ref (adOf mg "Machine")) _ = _; rw [e_Machine]; exact fm_Machine_fill), fn_Machine_fill, F45.kp⟩, b45⟩
  have G_Machine___init__ := ok_Machine___init__ (Γ := gmOf PySem.Challenge.pw_oddbases_k46_machine_rows w K mg base) (k := 5) T F46 (C_look_at_way_.mono (by decide)) (C_look_at_span_.mono (by decide)) (C_nought_.mono (by decide)) (C_fill_.mono (by decide))
  have C_Machine_ : CalK (gmOf PySem.Challenge.pw_oddbases_k46_machine_rows w K mg base) 6 "Machine" 3 M_Machine := ⟨_, _, _, rfl, G_Machine___init__, (by show Mk K (adOf mg "Machine") _; rw [e_Machine]; exact ⟨cm_Machine, ci_Machine, cf_Machine, ck_Machine⟩), adOf_mg (PySem.W.mg_of X G ac_Machine), b46⟩
  have G_law := ok_law (Γ := gmOf PySem.Challenge.pw_oddbases_k46_machine_rows w K mg base) (k := 6) T F47 (C__law_chosen_.mono (by decide)) (C__law_cell_at_.mono (by decide)) (C__law_span_.mono (by decide)) (C_Machine_.mono (by decide)) (C__law_way_.mono (by decide)) (C__law_walked_.mono (by decide)) (K_carries.mono (by decide)) (K_rows.mono (by decide))
  exact law_ok rfl G_law fun ns h1 h2 => m_law_ok ns h1 h2
end My
open PySem PySem.W PyProof.Rows
set_option maxHeartbeats 0 in
theorem PySem.Challenge.cw_oddbases_k46_machine_rows_holds : PySem.Challenge.rw_oddbases_k46_machine_rows.Holds := by
  w_on; o_law; k_head; (case hw => w_witness2)
  k_fill
  refine L2.walk_ofB (l := PySem.Challenge.rw_oddbases_k46_machine_rows) (n := 63) (k := 8) (x := "_law_script") (CX := fun w => L2.CX PySem.Challenge.pw_oddbases_k46_machine_rows w) (sp := fun w => DD.spLaw _ 63) rfl (by decide) rfl ⟨rfl, by decide, by decide⟩ (fun w h Y => PySem.W.kIn_of Y) ?F (fun _ _ a ns hl hb _ hS => ⟨a, ns, rfl, hS, hl, hb, fun _ => rfl⟩) (fun _ _ _ _ _ h => DD.noCX h)
  case F =>
    intro w mg fa h KX G hmg
    refine' My.all_mk KX G hmg ?ac_Plain ?ac_Below ?ac_Balanced ?ac_Growing ?ac_Falling ?ac_Pairs ?ac_Machine ?p1_Plain ?p2_Plain ?p3_Plain ?p4_Plain ?na_Plain ?p1_Below ?p2_Below ?p3_Below ?p4_Below ?na_Below ?p1_Balanced ?p2_Balanced ?p3_Balanced ?p4_Balanced ?na_Balanced ?p1_Growing ?p2_Growing ?p3_Growing ?p4_Growing ?na_Growing ?p1_Falling ?p2_Falling ?p3_Falling ?p4_Falling ?na_Falling ?p1_Pairs ?p2_Pairs ?p3_Pairs ?p4_Pairs ?na_Pairs ?p1_Machine ?p2_Machine ?p3_Machine ?p4_Machine ?na_Machine_way ?na_Machine_least ?na_Machine_greatest ?na_Machine_known ?na_Machine_table ?fm_Machine_fill ?fn_Machine_fill ?fm_Machine_carries ?fn_Machine_carries ?fm_Machine_rows ?fn_Machine_rows ?cm_Plain ?ci_Plain ?cf_Plain ?ck_Plain ?cm_Below ?ci_Below ?cf_Below ?ck_Below ?cm_Balanced ?ci_Balanced ?cf_Balanced ?ck_Balanced ?cm_Growing ?ci_Growing ?cf_Growing ?ck_Growing ?cm_Falling ?ci_Falling ?cf_Falling ?ck_Falling ?cm_Pairs ?ci_Pairs ?cf_Pairs ?ck_Pairs ?cm_Machine ?ci_Machine ?cf_Machine ?ck_Machine ?sp_ ?tk_ ?hc_Plain ?mo_Plain ?kt_Plain_Falling ?kt_Plain_Growing ?kt_Plain_Pairs ?hc_Below ?mo_Below ?kt_Below_Falling ?kt_Below_Growing ?kt_Below_Pairs ?hc_Balanced ?mo_Balanced ?kt_Balanced_Falling ?kt_Balanced_Growing ?kt_Balanced_Pairs ?hc_Growing ?mo_Growing ?kt_Growing_Falling ?kt_Growing_Growing ?kt_Growing_Pairs ?hc_Falling ?mo_Falling ?kt_Falling_Falling ?kt_Falling_Growing ?kt_Falling_Pairs ?hc_Pairs ?mo_Pairs ?kt_Pairs_Falling ?kt_Pairs_Growing ?kt_Pairs_Pairs ?ci_w_Falling ?ct_w_Falling ?ci_w_Growing ?ct_w_Growing ?ci_w_Pairs ?ct_w_Pairs ?fm_Plain_low ?fn_Plain_low ?fm_Below_low ?fn_Below_low ?fm_Balanced_low ?fn_Balanced_low ?fm_Growing_low ?fn_Growing_low ?fm_Falling_low ?fn_Falling_low ?fm_Pairs_low ?fn_Pairs_low ?fm_Plain_ratio ?fn_Plain_ratio ?fm_Below_ratio ?fn_Below_ratio ?fm_Balanced_ratio ?fn_Balanced_ratio ?fm_Growing_ratio ?fn_Growing_ratio ?fm_Falling_ratio ?fn_Falling_ratio ?fm_Pairs_ratio ?fn_Pairs_ratio ?fm_Plain_high ?fn_Plain_high ?fm_Below_high ?fn_Below_high ?fm_Balanced_high ?fn_Balanced_high ?fm_Growing_high ?fn_Growing_high ?fm_Falling_high ?fn_Falling_high ?fm_Pairs_high ?fn_Pairs_high ?fm_Plain_split ?fn_Plain_split ?fm_Below_split ?fn_Below_split ?fm_Balanced_split ?fn_Balanced_split ?fm_Growing_split ?fn_Growing_split ?fm_Falling_split ?fn_Falling_split ?fm_Pairs_split ?fn_Pairs_split ?ae_NoRatio ?ae_NoSpan ?ae_NoWay ?eq_NoRatio ?ek_NoRatio ?eb_NoRatio ?et_NoRatio ?eq_NoSpan ?ek_NoSpan ?eb_NoSpan ?et_NoSpan ?eq_NoWay ?ek_NoWay ?eb_NoWay ?et_NoWay ?a0 ?l0 ?c0 ?k0 ?a1 ?l1 ?c1 ?k1 ?l2 ?c2 ?k2 ?l3 ?c3 ?k3 ?l4 ?c4 ?k4 ?l5 ?c5 ?k5 ?l6 ?c6 ?k6 ?l7 ?c7 ?k7 ?l8 ?c8 ?k8 ?l9 ?c9 ?k9 ?l10 ?c10 ?k10 ?l11 ?c11 ?k11 ?l12 ?c12 ?k12 ?l13 ?c13 ?k13 ?l14 ?c14 ?k14 ?l15 ?c15 ?k15 ?l16 ?c16 ?k16 ?a17 ?l17 ?c17 ?k17 ?a18 ?l18 ?c18 ?k18 ?l19 ?c19 ?k19 ?l20 ?c20 ?k20 ?a21 ?l21 ?c21 ?k21 ?a22 ?l22 ?c22 ?k22 ?a23 ?l23 ?c23 ?k23 ?a24 ?l24 ?c24 ?k24 ?a25 ?l25 ?c25 ?k25 ?a26 ?l26 ?c26 ?k26 ?a27 ?l27 ?c27 ?k27 ?a28 ?l28 ?c28 ?k28 ?a29 ?l29 ?c29 ?k29 ?l30 ?c30 ?k30 ?a31 ?l31 ?c31 ?k31 ?a32 ?l32 ?c32 ?k32 ?a33 ?l33 ?c33 ?k33 ?l34 ?c34 ?k34 ?l35 ?c35 ?k35 ?l36 ?c36 ?k36 ?l37 ?c37 ?k37 ?l38 ?c38 ?k38 ?l39 ?c39 ?k39 ?a40 ?l40 ?c40 ?k40 ?a41 ?l41 ?c41 ?k41 ?a42 ?l42 ?c42 ?k42 ?l43 ?c43 ?k43 ?a44 ?l44 ?c44 ?k44 ?l45 ?c45 ?k45 ?l46 ?c46 ?k46 ?a47 ?l47 ?c47 ?k47 ?cg_FARTHEST ?z_abs ?z_bool ?z_int ?z_isinstance ?z_len ?z_list ?z_min ?z_range ?z_tuple
    (case ac_Plain => k_is)
    (case ac_Below => k_is)
    (case ac_Balanced => k_is)
    (case ac_Growing => k_is)
    (case ac_Falling => k_is)
    (case ac_Pairs => k_is)
    (case ac_Machine => k_is)
    (case p1_Plain => k_is)
    (case p2_Plain => k_is)
    (case p3_Plain => k_is)
    (case p4_Plain => k_is)
    (case na_Plain => k_is)
    (case p1_Below => k_is)
    (case p2_Below => k_is)
    (case p3_Below => k_is)
    (case p4_Below => k_is)
    (case na_Below => k_is)
    (case p1_Balanced => k_is)
    (case p2_Balanced => k_is)
    (case p3_Balanced => k_is)
    (case p4_Balanced => k_is)
    (case na_Balanced => k_is)
    (case p1_Growing => k_is)
    (case p2_Growing => k_is)
    (case p3_Growing => k_is)
    (case p4_Growing => k_is)
    (case na_Growing => k_is)
    (case p1_Falling => k_is)
    (case p2_Falling => k_is)
    (case p3_Falling => k_is)
    (case p4_Falling => k_is)
    (case na_Falling => k_is)
    (case p1_Pairs => k_is)
    (case p2_Pairs => k_is)
    (case p3_Pairs => k_is)
    (case p4_Pairs => k_is)
    (case na_Pairs => k_is)
    (case p1_Machine => k_is)
    (case p2_Machine => k_is)
    (case p3_Machine => k_is)
    (case p4_Machine => k_is)
    (case na_Machine_way => k_is)
    (case na_Machine_least => k_is)
    (case na_Machine_greatest => k_is)
    (case na_Machine_known => k_is)
    (case na_Machine_table => k_is)
    (case fm_Machine_fill => k_is)
    (case fn_Machine_fill => k_is)
    (case fm_Machine_carries => k_is)
    (case fn_Machine_carries => k_is)
    (case fm_Machine_rows => k_is)
    (case fn_Machine_rows => k_is)
    (case cm_Plain => k_is)
    (case ci_Plain => k_is)
    (case cf_Plain => k_is)
    (case ck_Plain => k_is)
    (case cm_Below => k_is)
    (case ci_Below => k_is)
    (case cf_Below => k_is)
    (case ck_Below => k_is)
    (case cm_Balanced => k_is)
    (case ci_Balanced => k_is)
    (case cf_Balanced => k_is)
    (case ck_Balanced => k_is)
    (case cm_Growing => k_is)
    (case ci_Growing => k_is)
    (case cf_Growing => k_is)
    (case ck_Growing => k_is)
    (case cm_Falling => k_is)
    (case ci_Falling => k_is)
    (case cf_Falling => k_is)
    (case ck_Falling => k_is)
    (case cm_Pairs => k_is)
    (case ci_Pairs => k_is)
    (case cf_Pairs => k_is)
    (case ck_Pairs => k_is)
    (case cm_Machine => k_is)
    (case ci_Machine => k_is)
    (case cf_Machine => k_is)
    (case ck_Machine => k_is)
    (case sp_ => k_is)
    (case tk_ => k_is)
    (case hc_Plain => k_is)
    (case mo_Plain => k_is)
    (case kt_Plain_Falling => k_is)
    (case kt_Plain_Growing => k_is)
    (case kt_Plain_Pairs => k_is)
    (case hc_Below => k_is)
    (case mo_Below => k_is)
    (case kt_Below_Falling => k_is)
    (case kt_Below_Growing => k_is)
    (case kt_Below_Pairs => k_is)
    (case hc_Balanced => k_is)
    (case mo_Balanced => k_is)
    (case kt_Balanced_Falling => k_is)
    (case kt_Balanced_Growing => k_is)
    (case kt_Balanced_Pairs => k_is)
    (case hc_Growing => k_is)
    (case mo_Growing => k_is)
    (case kt_Growing_Falling => k_is)
    (case kt_Growing_Growing => k_is)
    (case kt_Growing_Pairs => k_is)
    (case hc_Falling => k_is)
    (case mo_Falling => k_is)
    (case kt_Falling_Falling => k_is)
    (case kt_Falling_Growing => k_is)
    (case kt_Falling_Pairs => k_is)
    (case hc_Pairs => k_is)
    (case mo_Pairs => k_is)
    (case kt_Pairs_Falling => k_is)
    (case kt_Pairs_Growing => k_is)
    (case kt_Pairs_Pairs => k_is)
    (case ci_w_Falling => k_is)
    (case ct_w_Falling => k_is)
    (case ci_w_Growing => k_is)
    (case ct_w_Growing => k_is)
    (case ci_w_Pairs => k_is)
    (case ct_w_Pairs => k_is)
    (case fm_Plain_low => k_is)
    (case fn_Plain_low => k_is)
    (case fm_Below_low => k_is)
    (case fn_Below_low => k_is)
    (case fm_Balanced_low => k_is)
    (case fn_Balanced_low => k_is)
    (case fm_Growing_low => k_is)
    (case fn_Growing_low => k_is)
    (case fm_Falling_low => k_is)
    (case fn_Falling_low => k_is)
    (case fm_Pairs_low => k_is)
    (case fn_Pairs_low => k_is)
    (case fm_Plain_ratio => k_is)
    (case fn_Plain_ratio => k_is)
    (case fm_Below_ratio => k_is)
    (case fn_Below_ratio => k_is)
    (case fm_Balanced_ratio => k_is)
    (case fn_Balanced_ratio => k_is)
    (case fm_Growing_ratio => k_is)
    (case fn_Growing_ratio => k_is)
    (case fm_Falling_ratio => k_is)
    (case fn_Falling_ratio => k_is)
    (case fm_Pairs_ratio => k_is)
    (case fn_Pairs_ratio => k_is)
    (case fm_Plain_high => k_is)
    (case fn_Plain_high => k_is)
    (case fm_Below_high => k_is)
    (case fn_Below_high => k_is)
    (case fm_Balanced_high => k_is)
    (case fn_Balanced_high => k_is)
    (case fm_Growing_high => k_is)
    (case fn_Growing_high => k_is)
    (case fm_Falling_high => k_is)
    (case fn_Falling_high => k_is)
    (case fm_Pairs_high => k_is)
    (case fn_Pairs_high => k_is)
    (case fm_Plain_split => k_is)
    (case fn_Plain_split => k_is)
    (case fm_Below_split => k_is)
    (case fn_Below_split => k_is)
    (case fm_Balanced_split => k_is)
    (case fn_Balanced_split => k_is)
    (case fm_Growing_split => k_is)
    (case fn_Growing_split => k_is)
    (case fm_Falling_split => k_is)
    (case fn_Falling_split => k_is)
    (case fm_Pairs_split => k_is)
    (case fn_Pairs_split => k_is)
    (case ae_NoRatio => k_is)
    (case ae_NoSpan => k_is)
    (case ae_NoWay => k_is)
    (case eq_NoRatio => k_exc)
    (case ek_NoRatio => k_is)
    (case eb_NoRatio => k_is)
    (case et_NoRatio => k_is)
    (case eq_NoSpan => k_exc)
    (case ek_NoSpan => k_is)
    (case eb_NoSpan => k_is)
    (case et_NoSpan => k_is)
    (case eq_NoWay => k_exc)
    (case ek_NoWay => k_is)
    (case eb_NoWay => k_is)
    (case et_NoWay => k_is)
    (case a0 => k_is)
    (case l0 => k_is)
    (case c0 => k_is)
    (case k0 => k_is)
    (case a1 => k_is)
    (case l1 => k_is)
    (case c1 => k_is)
    (case k1 => k_is)
    (case l2 => k_is)
    (case c2 => k_is)
    (case k2 => k_is)
    (case l3 => k_is)
    (case c3 => k_is)
    (case k3 => k_is)
    (case l4 => k_is)
    (case c4 => k_is)
    (case k4 => k_is)
    (case l5 => k_is)
    (case c5 => k_is)
    (case k5 => k_is)
    (case l6 => k_is)
    (case c6 => k_is)
    (case k6 => k_is)
    (case l7 => k_is)
    (case c7 => k_is)
    (case k7 => k_is)
    (case l8 => k_is)
    (case c8 => k_is)
    (case k8 => k_is)
    (case l9 => k_is)
    (case c9 => k_is)
    (case k9 => k_is)
    (case l10 => k_is)
    (case c10 => k_is)
    (case k10 => k_is)
    (case l11 => k_is)
    (case c11 => k_is)
    (case k11 => k_is)
    (case l12 => k_is)
    (case c12 => k_is)
    (case k12 => k_is)
    (case l13 => k_is)
    (case c13 => k_is)
    (case k13 => k_is)
    (case l14 => k_is)
    (case c14 => k_is)
    (case k14 => k_is)
    (case l15 => k_is)
    (case c15 => k_is)
    (case k15 => k_is)
    (case l16 => k_is)
    (case c16 => k_is)
    (case k16 => k_is)
    (case a17 => k_is)
    (case l17 => k_is)
    (case c17 => k_is)
    (case k17 => k_is)
    (case a18 => k_is)
    (case l18 => k_is)
    (case c18 => k_is)
    (case k18 => k_is)
    (case l19 => k_is)
    (case c19 => k_is)
    (case k19 => k_is)
    (case l20 => k_is)
    (case c20 => k_is)
    (case k20 => k_is)
    (case a21 => k_is)
    (case l21 => k_is)
    (case c21 => k_is)
    (case k21 => k_is)
    (case a22 => k_is)
    (case l22 => k_is)
    (case c22 => k_is)
    (case k22 => k_is)
    (case a23 => k_is)
    (case l23 => k_is)
    (case c23 => k_is)
    (case k23 => k_is)
    (case a24 => k_is)
    (case l24 => k_is)
    (case c24 => k_is)
    (case k24 => k_is)
    (case a25 => k_is)
    (case l25 => k_is)
    (case c25 => k_is)
    (case k25 => k_is)
    (case a26 => k_is)
    (case l26 => k_is)
    (case c26 => k_is)
    (case k26 => k_is)
    (case a27 => k_is)
    (case l27 => k_is)
    (case c27 => k_is)
    (case k27 => k_is)
    (case a28 => k_is)
    (case l28 => k_is)
    (case c28 => k_is)
    (case k28 => k_is)
    (case a29 => k_is)
    (case l29 => k_is)
    (case c29 => k_is)
    (case k29 => k_is)
    (case l30 => k_is)
    (case c30 => k_is)
    (case k30 => k_is)
    (case a31 => k_is)
    (case l31 => k_is)
    (case c31 => k_is)
    (case k31 => k_is)
    (case a32 => k_is)
    (case l32 => k_is)
    (case c32 => k_is)
    (case k32 => k_is)
    (case a33 => k_is)
    (case l33 => k_is)
    (case c33 => k_is)
    (case k33 => k_is)
    (case l34 => k_is)
    (case c34 => k_is)
    (case k34 => k_is)
    (case l35 => k_is)
    (case c35 => k_is)
    (case k35 => k_is)
    (case l36 => k_is)
    (case c36 => k_is)
    (case k36 => k_is)
    (case l37 => k_is)
    (case c37 => k_is)
    (case k37 => k_is)
    (case l38 => k_is)
    (case c38 => k_is)
    (case k38 => k_is)
    (case l39 => k_is)
    (case c39 => k_is)
    (case k39 => k_is)
    (case a40 => k_is)
    (case l40 => k_is)
    (case c40 => k_is)
    (case k40 => k_is)
    (case a41 => k_is)
    (case l41 => k_is)
    (case c41 => k_is)
    (case k41 => k_is)
    (case a42 => k_is)
    (case l42 => k_is)
    (case c42 => k_is)
    (case k42 => k_is)
    (case l43 => k_is)
    (case c43 => k_is)
    (case k43 => k_is)
    (case a44 => k_is)
    (case l44 => k_is)
    (case c44 => k_is)
    (case k44 => k_is)
    (case l45 => k_is)
    (case c45 => k_is)
    (case k45 => k_is)
    (case l46 => k_is)
    (case c46 => k_is)
    (case k46 => k_is)
    (case a47 => k_is)
    (case l47 => k_is)
    (case c47 => k_is)
    (case k47 => k_is)
    (case cg_FARTHEST => k_is)
    (case z_abs => k_is)
    (case z_bool => k_is)
    (case z_int => k_is)
    (case z_isinstance => k_is)
    (case z_len => k_is)
    (case z_list => k_is)
    (case z_min => k_is)
    (case z_range => k_is)
    (case z_tuple => k_is)


