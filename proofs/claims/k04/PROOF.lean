import PyProof.Rows.All
import Wide.All
import OpenK.AllK
import Wide.FinOn
import HandS.ForMost
import HandS.ForExc
import HandS.Wide
import HandS.Walk
import HandS.IsInst
import HandS.WideBits
import HandS.ExcIs
import HandS.EndBits
import PySem.Challenge.RW_oddbases_k04_split_in_one_way
set_option Elab.async false
set_option linter.all false
set_option maxRecDepth 100000
set_option maxHeartbeats 1000000
namespace DD
open PySem PySem.Spec PyProof.Rows L2

/-! ### data -/
inductive D where
  | non | bl (b : Bool) | int (i : Int) | str (x : Str)
  | tup (xs : List D) | lst (xs : List D) | scr (xs : List D)
  | own (xs : List D) | bor (xs : List D)
  | ins (C : Str) (ns : List Str) (xs : List D)
  | exc (C : Str)

/-- the written part, and where the classes stand by name -/
structure Nm where
  K : PySem.W.Frag
  ad : Str → Addr
/-- a caught exception of the class at C, kept -/
def XO (C a : Addr) : HO := .ext fun h => ∃ (oe : Obj) (vs : Array Value), h.get? a = some oe ∧ Zc (.ref C) none oe ∧ oe.data = .fields vs

mutual
inductive Rep (nm : Nm) (G : Hp) : V → D → Prop
  | non : Rep nm G .non .non
  | bl (b : Bool) : Rep nm G (.bl b) (.bl b)
  | int (i : Int) : Rep nm G (.int i) (.int i)
  | str (x : Str) : Rep nm G (.str x) (.str x)
  | tup {a : Addr} {vs : List V} {ds : List D} : G a = some (.tup vs) → Reps nm G vs ds → Rep nm G (.ref a) (.tup ds)
  | lst {a : Addr} {vs : List V} {ds : List D} : G a = some (.lst vs) → Reps nm G vs ds → Rep nm G (.ref a) (.lst ds)
  | scr {a : Addr} {vs : List V} {ds : List D} : SqL nm.K G a vs → Reps nm G vs ds → Rep nm G (.ref a) (.scr ds)
  | ins {a : Addr} {C : Str} {dx : Addr} {ns : List Str} {vs : List V} {ds : List D} : G a = some (.ins (nm.ad C) dx (ns.zip vs)) → Reps nm G vs ds → Rep nm G (.ref a) (.ins C ns ds)
  | exc {a : Addr} {C : Str} : G a = some (XO (nm.ad C) a) → Rep nm G (.ref a) (.exc C)
inductive Reps (nm : Nm) (G : Hp) : List V → List D → Prop
  | nil : Reps nm G [] []
  | cons {v : V} {vs : List V} {d : D} {ds : List D} : Rep nm G v d → Reps nm G vs ds → Reps nm G (v :: vs) (d :: ds)
end

section
variable {nm : Nm} {G G' : Hp}
mutual
theorem Rep.mono (h : Same G G') : ∀ (d : D) (v : V), Rep nm G v d → Rep nm G' v d
  | .non, _, r => by cases r; exact .non
  | .bl b, _, r => by cases r; exact .bl b
  | .int i, _, r => by cases r; exact .int i
  | .str x, _, r => by cases r; exact .str x
  | .tup ds, _, r => by
    cases r with
    | tup e q => exact .tup (h _ _ e) (Reps.mono h ds _ q)
  | .lst ds, _, r => by
    cases r with
    | lst e q => exact .lst (h _ _ e) (Reps.mono h ds _ q)
  | .scr ds, _, r => by
    cases r with
    | scr e q => exact .scr (Same.seq h e) (Reps.mono h ds _ q)
  | .own _, _, r => by cases r
  | .bor _, _, r => by cases r
  | .ins C ns ds, _, r => by
    cases r with
    | ins e q => exact .ins (h _ _ e) (Reps.mono h ds _ q)
  | .exc C, _, r => by
    cases r with
    | exc e => exact .exc (h _ _ e)
theorem Reps.mono (h : Same G G') : ∀ (ds : List D) (vs : List V), Reps nm G vs ds → Reps nm G' vs ds
  | [], _, r => by cases r; exact .nil
  | d :: ds, _, r => by
    cases r with
    | cons e q => exact .cons (Rep.mono h d _ e) (Reps.mono h ds _ q)
end
theorem Reps.length : ∀ {ds : List D} {vs : List V}, Reps nm G vs ds → vs.length = ds.length
  | _, _, .nil => rfl
  | _, _, .cons _ q => by simp [Reps.length q]
theorem Reps.get : ∀ {ds : List D} {vs : List V} {i : Nat} {d : D}, Reps nm G vs ds → ds[i]? = some d → ∃ v, vs[i]? = some v ∧ Rep nm G v d
  | _, _, _, _, .nil, e => by simp at e
  | _, _, 0, _, .cons r _, e => by simp at e; subst e; exact ⟨_, rfl, r⟩
  | _, _, i + 1, _, .cons _ q, e => by
    obtain ⟨v, h1, h2⟩ := Reps.get q (i := i) (by simpa using e)
    exact ⟨v, by simpa using h1, h2⟩
theorem Reps.getV : ∀ {ds : List D} {vs : List V} {i : Nat} {v : V}, Reps nm G vs ds → vs[i]? = some v → ∃ d, ds[i]? = some d ∧ Rep nm G v d
  | _, _, _, _, .nil, e => by simp at e
  | _, _, 0, _, .cons r _, e => by simp at e; subst e; exact ⟨_, rfl, r⟩
  | _, _, i + 1, _, .cons _ q, e => by
    obtain ⟨v, h1, h2⟩ := Reps.getV q (i := i) (by simpa using e)
    exact ⟨v, by simpa using h1, h2⟩
theorem Reps.append : ∀ {ds es : List D} {vs us : List V}, Reps nm G vs ds → Reps nm G us es → Reps nm G (vs ++ us) (ds ++ es)
  | _, _, _, _, .nil, q => q
  | _, _, _, _, .cons r t, q => .cons r (Reps.append t q)
theorem Reps.take : ∀ {ds : List D} {vs : List V} (n : Nat), Reps nm G vs ds → Reps nm G (vs.take n) (ds.take n)
  | _, _, 0, _ => .nil
  | _, _, _ + 1, .nil => .nil
  | _, _, n + 1, .cons r t => .cons r (Reps.take n t)
theorem Reps.drop : ∀ {ds : List D} {vs : List V} (n : Nat), Reps nm G vs ds → Reps nm G (vs.drop n) (ds.drop n)
  | _, _, 0, r => r
  | _, _, _ + 1, .nil => .nil
  | _, _, n + 1, .cons _ t => Reps.drop n t
theorem Reps.set : ∀ {ds : List D} {vs : List V} {v : V} {d : D} (i : Nat), Reps nm G vs ds → Rep nm G v d → Reps nm G (vs.set i v) (ds.set i d)
  | _, _, _, _, _, .nil, _ => .nil
  | _, _, _, _, 0, .cons _ t, q => .cons q t
  | _, _, _, _, i + 1, .cons r t, q => .cons r (Reps.set i t q)
theorem Reps.reverse : ∀ {ds : List D} {vs : List V}, Reps nm G vs ds → Reps nm G vs.reverse ds.reverse
  | _, _, .nil => .nil
  | _, _, .cons r t => by
    rw [List.reverse_cons, List.reverse_cons]
    exact (Reps.reverse t).append (.cons r .nil)
theorem Reps.dropLast {ds : List D} {vs : List V} (h : Reps nm G vs ds) : Reps nm G vs.dropLast ds.dropLast := by
  rw [List.dropLast_eq_take, List.dropLast_eq_take, h.length]
  exact h.take _
end

/-- from (G, H) to (G', H'), an expression begun at H0: what was known stays, what is new in G' was not there at H0 -/
structure Ext (H0 G H G' H' : Hp) : Prop where
  g : Same G G'
  h : Same H H'
  gh : Same G' H'
  new : ∀ a, G a = none → H0 a ≠ none → G' a = none
section
variable {H0 H1 G H G' H' G2 H2 : Hp}
theorem Ext.refl (gh : Same G H) : Ext H0 G H G H := ⟨Same.refl G, Same.refl H, gh, fun _ e _ => e⟩
theorem Ext.trans (a : Ext H0 G H G' H') (b : Ext H0 G' H' G2 H2) : Ext H0 G H G2 H2 :=
  ⟨a.g.trans b.g, a.h.trans b.h, b.gh, fun x e n => b.new x (a.new x e n) n⟩
theorem Ext.from (s : Same H0 H1) (b : Ext H1 G H G' H') : Ext H0 G H G' H' :=
  ⟨b.g, b.h, b.gh, fun x e n => b.new x e (fun z => by
    cases q : H0 x with
    | none => exact n q
    | some o => rw [s x o q] at z; cases z)⟩
/-- only H grows -/
theorem Ext.grow (gh : Same G H) (h : Same H H') : Ext H0 G H G H' := ⟨Same.refl G, h, gh.trans h, fun _ e _ => e⟩
end
theorem same_upd {H : Hp} {p : Addr} {o : HO} (h : H p = none) : Same H (upd H p o) := fun b x e => by
  rw [upd_ne (ne_of_none e h)]
  exact e

/-- a value that an expression gives; H0: where the expression began -/
def RepV (nm : Nm) (H0 G H : Hp) (v : V) : D → Prop
  | .own l => ∃ p vs, v = .ref p ∧ H p = some (.lst vs) ∧ G p = none ∧ H0 p = none ∧ Reps nm G vs l
  | .bor l => ∃ p vs, v = .ref p ∧ H p = some (.lst vs) ∧ G p = none ∧ Reps nm G vs l
  | d => Rep nm G v d
def isOwn : D → Bool
  | .own _ => true
  | _ => false
def isBor : D → Bool
  | .bor _ => true
  | _ => false
def frz : D → D
  | .own l => .lst l
  | .bor l => .lst l
  | d => d
section
variable {nm : Nm} {H0 G H G' H' : Hp} {v : V} {d : D}
theorem RepV.of (r : Rep nm G v d) : RepV nm H0 G H v d := by
  cases d <;> first | exact r | cases r
theorem RepV.ext (r : RepV nm H0 G H v d) (x : Ext H G H G' H') : RepV nm H0 G' H' v d := by
  cases d with
  | own l =>
    obtain ⟨p, vs, rfl, e, n, n0, q⟩ := r
    exact ⟨p, vs, rfl, x.h _ _ e, x.new p n (by rw [e]; exact fun z => by cases z), n0, q.mono x.g⟩
  | bor l =>
    obtain ⟨p, vs, rfl, e, n, q⟩ := r
    exact ⟨p, vs, rfl, x.h _ _ e, x.new p n (by rw [e]; exact fun z => by cases z), q.mono x.g⟩
  | _ => exact Rep.mono x.g _ _ r
theorem RepV.from {H1 : Hp} (s : Same H0 H1) (r : RepV nm H1 G H v d) : RepV nm H0 G H v d := by
  cases d with
  | own l =>
    obtain ⟨p, vs, rfl, e, n, n0, q⟩ := r
    exact ⟨p, vs, rfl, e, n, s.free n0, q⟩
  | bor l => exact r
  | _ => exact r
/-- a value that is no borrowed one is frozen -/
theorem RepV.freeze (r : RepV nm H0 G H v d) (gh : Same G H) (nb : isBor d = false) : ∃ G', Ext H0 G H G' H ∧ Rep nm G' v (frz d) := by
  cases d with
  | own l =>
    obtain ⟨p, vs, rfl, e, n, n0, q⟩ := r
    have sm : Same G (upd G p (.lst vs)) := same_upd n
    refine ⟨upd G p (.lst vs), ⟨sm, Same.refl H, fun b o eb => ?_, fun a ea na => ?_⟩, .lst upd_same (q.mono sm)⟩
    · by_cases hb : b = p
      · subst hb; rw [upd_same] at eb; cases eb; exact e
      · rw [upd_ne hb] at eb; exact gh _ _ eb
    · rw [upd_ne (fun z => na (by rw [z]; exact n0))]; exact ea
  | bor l => cases nb
  | _ => exact ⟨G, Ext.refl gh, r⟩
end

/-! ### the names' values -/
abbrev Env := List (Option D)
/-- a slot: nothing is known; or a value known in G; or a list of one's own -/
structure Rel (nm : Nm) (G0 B G H : Hp) (σ : L2.St) (ρ : Env) : Prop where
  ext : Ext B G0 B G H
  len : ρ.length = σ.length
  slot : ∀ (i : Nat) (d : D), ρ[i]? = some (some d) → ∃ v, σ[i]? = some (some v) ∧ RepV nm B G H v d ∧ isBor d = false
  apart : ∀ (i j : Nat) (l l' : List D) (p : Addr), ρ[i]? = some (some (.own l)) → ρ[j]? = some (some (.own l')) → i ≠ j → σ[i]? = some (some (.ref p)) → σ[j]? ≠ some (some (.ref p))
section
variable {nm : Nm} {G0 B G H G' H' : Hp} {σ : L2.St} {ρ : Env}
theorem Rel.gh (r : Rel nm G0 B G H σ ρ) : Same G H := r.ext.gh
theorem Rel.bh (r : Rel nm G0 B G H σ ρ) : Same B H := r.ext.h
theorem Rel.go (r : Rel nm G0 B G H σ ρ) (x : Ext H G H G' H') : Rel nm G0 B G' H' σ ρ := by
  refine ⟨r.ext.trans (Ext.from r.bh x), r.len, fun i d e => ?_, r.apart⟩
  obtain ⟨v, e1, q, nb⟩ := r.slot i d e
  exact ⟨v, e1, q.ext x, nb⟩
/-- ρ' says less than ρ -/
def Weak (ρ ρ' : Env) : Prop := ρ'.length = ρ.length ∧ ∀ (i : Nat) (d : D), ρ'[i]? = some (some d) → ρ[i]? = some (some d)
theorem Weak.refl (ρ : Env) : Weak ρ ρ := ⟨rfl, fun _ _ h => h⟩
theorem Weak.trans {ρ ρ1 ρ2 : Env} (a : Weak ρ ρ1) (b : Weak ρ1 ρ2) : Weak ρ ρ2 := ⟨b.1.trans a.1, fun i d h => a.2 i d (b.2 i d h)⟩
theorem weak_nil : Weak [] [] := Weak.refl _
theorem weak_keep {x : Option D} {ρ ρ' : Env} (h : Weak ρ ρ') : Weak (x :: ρ) (x :: ρ') := by
  refine ⟨by simp [h.1], fun i d e => ?_⟩
  cases i with
  | zero => simpa using e
  | succ i => simpa using h.2 i d (by simpa using e)
theorem weak_drop {x : Option D} {ρ ρ' : Env} (h : Weak ρ ρ') : Weak (x :: ρ) (none :: ρ') := by
  refine ⟨by simp [h.1], fun i d e => ?_⟩
  cases i with
  | zero => simp at e
  | succ i => simpa using h.2 i d (by simpa using e)
theorem Rel.weak {ρ' : Env} (r : Rel nm G0 B G H σ ρ) (w : Weak ρ ρ') : Rel nm G0 B G H σ ρ' :=
  ⟨r.ext, w.1.trans r.len, fun i d e => r.slot i d (w.2 i d e), fun i j l l' p h1 h2 => r.apart i j l l' p (w.2 _ _ h1) (w.2 _ _ h2)⟩
/-- a value is stored -/
theorem Rel.set {v : V} {d : D} (r : Rel nm G0 B G H σ ρ) (i : Nat) (hh : Ext H G H G' H') (q : RepV nm H G' H' v d) (nb : isBor d = false) : Rel nm G0 B G' H' (σ.set i (some v)) (ρ.set i (some d)) := by
  have r2 := r.go hh
  refine ⟨r2.ext, by simp [r2.len], fun j e ej => ?_, fun j k l l' p hj hk hjk e1 e2 => ?_⟩
  · by_cases hij : i = j
    · subst hij
      by_cases hi : i < ρ.length
      · rw [List.getElem?_set_self hi] at ej
        cases ej
        exact ⟨v, by rw [List.getElem?_set_self (by rw [← r.len]; exact hi)], q.from r.bh, nb⟩
      · rw [List.getElem?_eq_none (by simpa using hi)] at ej; cases ej
    · rw [List.getElem?_set_ne hij] at ej
      obtain ⟨u, h1, h2, h3⟩ := r2.slot j e ej
      exact ⟨u, by rw [List.getElem?_set_ne hij]; exact h1, h2, h3⟩
  · -- two own lists
    have fresh : ∀ (m : Nat) (l : List D), m ≠ i → ρ[m]? = some (some (.own l)) → ∀ (l2 : List D), d = .own l2 → σ[m]? = some (some (.ref p)) → v = .ref p → False := fun m l hm h1 l2 h2 h3 h4 => by
      subst h2
      obtain ⟨u, g1, ⟨p', vs, rfl, g2, _⟩, _⟩ := r.slot m _ h1
      obtain ⟨p2, vs2, rfl, _, _, g3, _⟩ := q
      rw [h3] at g1
      cases g1
      cases h4
      rw [g3] at g2
      cases g2
    by_cases hij : i = j
    · subst hij
      have hi : i < ρ.length := by
        by_cases hi : i < ρ.length
        · exact hi
        · rw [List.getElem?_eq_none (by simpa using hi)] at hj; cases hj
      rw [List.getElem?_set_self hi] at hj
      rw [List.getElem?_set_self (by rw [← r.len]; exact hi)] at e1
      rw [List.getElem?_set_ne hjk] at hk e2
      cases hj
      cases e1
      exact fresh k l' (fun z => hjk z.symm) hk _ rfl e2 rfl
    · by_cases hik : i = k
      · subst hik
        have hi : i < ρ.length := by
          by_cases hi : i < ρ.length
          · exact hi
          · rw [List.getElem?_eq_none (by simpa using hi)] at hk; cases hk
        rw [List.getElem?_set_self hi] at hk
        rw [List.getElem?_set_self (by rw [← r.len]; exact hi)] at e2
        rw [List.getElem?_set_ne hij] at hj e1
        cases hk
        cases e2
        exact fresh j l (fun z => hij z.symm) hj _ rfl e1 rfl
      · rw [List.getElem?_set_ne hij] at hj e1
        rw [List.getElem?_set_ne hik] at hk e2
        exact r2.apart j k l l' p hj hk hjk e1 e2
end

/-! ### the judgements -/
structure Sit where
  X : Cx
  nm : Nm
  G0 : Hp
  B : Hp
  ex : Str → Env → Prop
  kk : nm.K = X.K
abbrev Sit.Rel (S : Sit) (G H : Hp) (σ : L2.St) (ρ : Env) : Prop := DD.Rel S.nm S.G0 S.B G H σ ρ

def WX (X : Cx) (e : Expr) : TE := fun σ H Q => ∀ (pins : List (Addr × Obj)) (s : Shared), Inv X pins σ H s → wpAny (model X.prog X.w) X.A (eval e X.env) (EP X pins σ Q) X.xe s
def WT (X : Cx) (e : Expr) : TT := fun σ H Q => ∀ (pins : List (Addr × Obj)) (s : Shared), Inv X pins σ H s → wpAny (model X.prog X.w) X.A (isTrue e X.env (eval e X.env)) (TP X pins σ Q) X.xe s
def WW (X : Cx) (e : Expr) : TT := fun σ H Q => ∀ (whole : Sem Value) (pins : List (Addr × Obj)) (s : Shared), Inv X pins σ H s → wpAny (model X.prog X.w) X.A (isTrue e X.env whole) (TP X pins σ Q) X.xe s
def WA (X : Cx) (es : List Expr) : TA := fun σ H Q => ∀ (pos : Pos) (pins : List (Addr × Obj)) (s : Shared), Inv X pins σ H s → wpAny (model X.prog X.w) X.A (spliced (backTo pos (starEach es X.env))) (AP X pins σ Q) X.xe s
def WS (X : Cx) (st : Stmt) : TS := fun D σ H => ∀ (pins : List (Addr × Obj)) (s : Shared), Inv X pins σ H s → wpAny (model X.prog X.w) X.A (exec st X.env) (SP X pins D) X.xe s
def WSs (X : Cx) (st : List Stmt) : TS := fun D σ H => ∀ (pins : List (Addr × Obj)) (s : Shared), Inv X pins σ H s → wpAny (model X.prog X.w) X.A (execs st X.env) (SP X pins D) X.xe s
def WG (X : Cx) (target : Expr) : TG := fun v σ H Q => ∀ (pins : List (Addr × Obj)) (s : Shared) (u : Value), Inv X pins σ H s → RelV v u → wpAny (model X.prog X.w) X.A (assign target X.env u) (fun _ s' => ∃ σ' H', Inv X pins σ' H' s' ∧ Q σ' H') X.xe s
def WGs (X : Cx) (ts : List Expr) : TGs := fun vs σ H Q => ∀ (pins : List (Addr × Obj)) (s : Shared) (us : List Value), Inv X pins σ H s → Vals vs us → wpAny (model X.prog X.w) X.A (assignInOrder ((assignEach ts X.env).map (·.2)) us) (fun _ s' => ∃ σ' H', Inv X pins σ' H' s' ∧ Q σ' H') X.xe s
def WI (X : Cx) (tg iter : Expr) : TI := fun σ H R => ∀ (pins : List (Addr × Obj)) (s : Shared), Inv X pins σ H s →
    wpAny (model X.prog X.w) X.A (eval iter X.env) (fun v s1 => wpAny (model X.prog X.w) X.A (pyIter v) (PIE X pins σ tg R) X.xe s1) X.xe s
section
variable {X : Cx} {e : Expr} {es : List Expr} {st : Stmt} {sts : List Stmt}
theorem pe_w : PE X e (WX X e) := ⟨fun pins s _ _ _ I h => h pins s I⟩
theorem pt_w : PT X e (WT X e) := ⟨fun pins s _ _ _ I h => h pins s I⟩
theorem pw_w : PW X e (WW X e) := ⟨fun wh pins s _ _ _ I h => h wh pins s I⟩
theorem pa_w : PA X es (WA X es) := ⟨fun pos pins s _ _ _ I h => h pos pins s I⟩
theorem ps_w : PS X st (WS X st) := ⟨fun pins s _ _ _ I h => h pins s I⟩
theorem pss_w : PSs X sts (WSs X sts) := ⟨fun pins s _ _ _ I h => h pins s I⟩
theorem pg_w : PG X e (WG X e) := ⟨fun pins s _ _ _ u _ I r h => h pins s u I r⟩
theorem pgs_w : PGs X es (WGs X es) := ⟨fun pins s _ _ _ us _ I r h => h pins s us I r⟩
theorem pi_w {tg : Expr} : PI X tg e (WI X tg e) := ⟨fun pins s _ _ _ I h => h pins s I⟩
theorem WX.of {t : TE} {σ : L2.St} {H : Hp} {Q : VK} (h : PE X e t) (q : t σ H Q) : WX X e σ H Q := fun pins s I => h.run pins s σ H Q I q
theorem WT.of {t : TT} {σ : L2.St} {H : Hp} {Q : Bool → Hp → Prop} (h : PT X e t) (q : t σ H Q) : WT X e σ H Q := fun pins s I => h.run pins s σ H Q I q
theorem WW.of {t : TT} {σ : L2.St} {H : Hp} {Q : Bool → Hp → Prop} (h : PW X e t) (q : t σ H Q) : WW X e σ H Q := fun wh pins s I => h.run wh pins s σ H Q I q
theorem WA.of {t : TA} {σ : L2.St} {H : Hp} {Q : List V → Hp → Prop} (h : PA X es t) (q : t σ H Q) : WA X es σ H Q := fun pos pins s I => h.run pos pins s σ H Q I q
theorem WS.of {t : TS} {σ : L2.St} {H : Hp} {D : Ends} (h : PS X st t) (q : t D σ H) : WS X st D σ H := fun pins s I => h.run pins s σ H D I q
theorem WSs.of {t : TS} {σ : L2.St} {H : Hp} {D : Ends} (h : PSs X sts t) (q : t D σ H) : WSs X sts D σ H := fun pins s I => h.run pins s σ H D I q
theorem WX.mono {σ : L2.St} {H : Hp} {Q Q' : VK} (h : WX X e σ H Q) (m : ∀ v H', Q v H' → Q' v H') : WX X e σ H Q' := fun pins s I => thn (h pins s I) fun _ _ ⟨v, H', I', r, q⟩ => ⟨v, H', I', r, m v H' q⟩
theorem WT.mono {σ : L2.St} {H : Hp} {Q Q' : Bool → Hp → Prop} (h : WT X e σ H Q) (m : ∀ v H', Q v H' → Q' v H') : WT X e σ H Q' := fun pins s I => thn (h pins s I) fun _ _ ⟨H', I', q⟩ => ⟨H', I', m _ H' q⟩
theorem WW.mono {σ : L2.St} {H : Hp} {Q Q' : Bool → Hp → Prop} (h : WW X e σ H Q) (m : ∀ v H', Q v H' → Q' v H') : WW X e σ H Q' := fun wh pins s I => thn (h wh pins s I) fun _ _ ⟨H', I', q⟩ => ⟨H', I', m _ H' q⟩
theorem WA.mono {σ : L2.St} {H : Hp} {Q Q' : List V → Hp → Prop} (h : WA X es σ H Q) (m : ∀ v H', Q v H' → Q' v H') : WA X es σ H Q' := fun pos pins s I => thn (h pos pins s I) fun _ _ ⟨vs, H', I', r, q⟩ => ⟨vs, H', I', r, m _ H' q⟩
theorem SP.mono {pins : List (Addr × Obj)} {D D' : Ends} {f : Flow} {s : Shared} (h : SP X pins D f s) (h1 : ∀ σ H, D.nx σ H → D'.nx σ H) (h2 : ∀ v H, D.rt v H → D'.rt v H) (h3 : ∀ σ H, D.bk σ H → D'.bk σ H) (h4 : ∀ σ H, D.ct σ H → D'.ct σ H) : SP X pins D' f s := by
  cases f with
  | next => obtain ⟨σ', H', I, q⟩ := h; exact ⟨σ', H', I, h1 _ _ q⟩
  | brk => obtain ⟨σ', H', I, q⟩ := h; exact ⟨σ', H', I, h3 _ _ q⟩
  | cont => obtain ⟨σ', H', I, q⟩ := h; exact ⟨σ', H', I, h4 _ _ q⟩
  | ret u => obtain ⟨v, σ', H', I, r, q⟩ := h; exact ⟨v, σ', H', I, r, h2 _ _ q⟩
theorem WS.mono {σ : L2.St} {H : Hp} {D D' : Ends} (h : WS X st D σ H) (h1 : ∀ σ H, D.nx σ H → D'.nx σ H) (h2 : ∀ v H, D.rt v H → D'.rt v H) (h3 : ∀ σ H, D.bk σ H → D'.bk σ H) (h4 : ∀ σ H, D.ct σ H → D'.ct σ H) : WS X st D' σ H :=
  fun pins s I => thn (h pins s I) fun _ _ q => DD.SP.mono q h1 h2 h3 h4
theorem WSs.mono {σ : L2.St} {H : Hp} {D D' : Ends} (h : WSs X sts D σ H) (h1 : ∀ σ H, D.nx σ H → D'.nx σ H) (h2 : ∀ v H, D.rt v H → D'.rt v H) (h3 : ∀ σ H, D.bk σ H → D'.bk σ H) (h4 : ∀ σ H, D.ct σ H → D'.ct σ H) : WSs X sts D' σ H :=
  fun pins s I => thn (h pins s I) fun _ _ q => DD.SP.mono q h1 h2 h3 h4
theorem WG.mono {v : V} {σ : L2.St} {H : Hp} {Q Q' : L2.St → Hp → Prop} (h : WG X e v σ H Q) (m : ∀ σ' H', Q σ' H' → Q' σ' H') : WG X e v σ H Q' := fun pins s u I r => thn (h pins s u I r) fun _ _ ⟨σ', H', I', q⟩ => ⟨σ', H', I', m _ _ q⟩
theorem WGs.mono {vs : List V} {σ : L2.St} {H : Hp} {Q Q' : L2.St → Hp → Prop} (h : WGs X es vs σ H Q) (m : ∀ σ' H', Q σ' H' → Q' σ' H') : WGs X es vs σ H Q' := fun pins s u I r => thn (h pins s u I r) fun _ _ ⟨σ', H', I', q⟩ => ⟨σ', H', I', m _ _ q⟩
end

abbrev TD := Env → (D → Prop) → Prop
abbrev TDs := Env → (List D → Prop) → Prop
abbrev TDt := Env → (Bool → Prop) → Prop
structure DE where
  nx : Env → Prop
  rt : D → Prop
  bk : Env → Prop := fun _ => False
  ct : Env → Prop := fun _ => False
abbrev TDS := DE → Env → Prop
abbrev TDG := D → Env → (Env → Prop) → Prop
abbrev TDGs := List D → Env → (Env → Prop) → Prop
abbrev TDI := Env → (List D → Prop) → Prop

inductive RepVs (nm : Nm) (H0 G H : Hp) : List V → List D → Prop
  | nil : RepVs nm H0 G H [] []
  | cons {v : V} {vs : List V} {d : D} {ds : List D} : RepV nm H0 G H v d → RepVs nm H0 G H vs ds → RepVs nm H0 G H (v :: vs) (d :: ds)
theorem RepVs.ext {nm : Nm} {H0 G H G' H' : Hp} (x : Ext H G H G' H') : ∀ {vs : List V} {ds : List D}, RepVs nm H0 G H vs ds → RepVs nm H0 G' H' vs ds
  | _, _, .nil => .nil
  | _, _, .cons r q => .cons (r.ext x) (RepVs.ext x q)
theorem RepVs.from {nm : Nm} {H0 H1 G H : Hp} (x : Same H0 H1) : ∀ {vs : List V} {ds : List D}, RepVs nm H1 G H vs ds → RepVs nm H0 G H vs ds
  | _, _, .nil => .nil
  | _, _, .cons r q => .cons (r.from x) (RepVs.from x q)

structure JE (S : Sit) (e : Expr) (τ : TD) : Prop where
  run : ∀ (G H : Hp) (σ : L2.St) (ρ : Env) (Q : D → Prop), S.Rel G H σ ρ → τ ρ Q → WX S.X e σ H fun v H' => ∃ G' d, Ext H G H G' H' ∧ RepV S.nm H G' H' v d ∧ Q d
structure JA (S : Sit) (es : List Expr) (τ : TDs) : Prop where
  run : ∀ (G H : Hp) (σ : L2.St) (ρ : Env) (Q : List D → Prop), S.Rel G H σ ρ → τ ρ Q → WA S.X es σ H fun vs H' => ∃ G' ds, Ext H G H G' H' ∧ RepVs S.nm H G' H' vs ds ∧ Q ds
structure JT (S : Sit) (e : Expr) (τ : TDt) : Prop where
  run : ∀ (G H : Hp) (σ : L2.St) (ρ : Env) (Q : Bool → Prop), S.Rel G H σ ρ → τ ρ Q → WT S.X e σ H fun b H' => ∃ G', Ext H G H G' H' ∧ Q b
structure JW (S : Sit) (e : Expr) (τ : TDt) : Prop where
  run : ∀ (G H : Hp) (σ : L2.St) (ρ : Env) (Q : Bool → Prop), S.Rel G H σ ρ → τ ρ Q → WW S.X e σ H fun b H' => ∃ G', Ext H G H G' H' ∧ Q b
/-- the ends, from a statement begun at Gs: what was frozen stays so -/
def lift (S : Sit) (Gs : Hp) (E : DE) : Ends where
  nx := fun σ H => ∃ G ρ, S.Rel G H σ ρ ∧ Same Gs G ∧ E.nx ρ
  rt := fun v H => ∃ G d, Ext S.B S.G0 S.B G H ∧ RepV S.nm S.B G H v d ∧ isBor d = false ∧ E.rt d
  bk := fun σ H => ∃ G ρ, S.Rel G H σ ρ ∧ Same Gs G ∧ E.bk ρ
  ct := fun σ H => ∃ G ρ, S.Rel G H σ ρ ∧ Same Gs G ∧ E.ct ρ
structure JS (S : Sit) (st : Stmt) (τ : TDS) : Prop where
  run : ∀ (G H : Hp) (σ : L2.St) (ρ : Env) (E : DE), S.Rel G H σ ρ → τ E ρ → WS S.X st (lift S G E) σ H
structure JSs (S : Sit) (st : List Stmt) (τ : TDS) : Prop where
  run : ∀ (G H : Hp) (σ : L2.St) (ρ : Env) (E : DE), S.Rel G H σ ρ → τ E ρ → WSs S.X st (lift S G E) σ H
/-- (G, H) behind the value's expression, which began at (G0, H0) where the names were -/
structure JG (S : Sit) (tg : Expr) (g : TDG) : Prop where
  run : ∀ (G0 H0 G H : Hp) (σ : L2.St) (ρ : Env) (v : V) (d : D) (Q : Env → Prop), S.Rel G0 H0 σ ρ → Ext H0 G0 H0 G H → RepV S.nm H0 G H v d → g d ρ Q → WG S.X tg v σ H fun σ' H' => ∃ G' ρ', S.Rel G' H' σ' ρ' ∧ Same G G' ∧ Q ρ'
/-- several targets: values that are no lists of one's own -/
structure JGs (S : Sit) (ts : List Expr) (g : TDGs) : Prop where
  run : ∀ (G H : Hp) (σ : L2.St) (ρ : Env) (vs : List V) (ds : List D) (Q : Env → Prop), S.Rel G H σ ρ → Reps S.nm G vs ds → g ds ρ Q → WGs S.X ts vs σ H fun σ' H' => ∃ G' ρ', S.Rel G' H' σ' ρ' ∧ Same G G' ∧ Q ρ'
/-- what an iterator gives -/
def Gives (nm : Nm) (G : Hp) (J : It) (ds : List D) : Prop :=
  ∃ (n : Nat) (Gp : Hp → Prop) (Y : Nat → Hp → V → Hp → Prop), n = ds.length ∧ Walk J n Gp Y ∧ (∀ H2, Same G H2 → Gp H2) ∧
    ∀ (i : Nat) (x : V) (H2 H3 : Hp), Same G H2 → i < n → Y i H2 x H3 → ∃ d, ds[i]? = some d ∧
      ((H3 = H2 ∧ Rep nm G x d) ∨ ∃ (T : Addr) (a b : V) (da db : D), x = .ref T ∧ H2 T = none ∧ H3 = upd H2 T (.tup [a, b]) ∧ d = .tup [da, db] ∧ Rep nm G a da ∧ Rep nm G b db)
structure JI (S : Sit) (tg iter : Expr) (ι : TDI) : Prop where
  run : ∀ (G H : Hp) (σ : L2.St) (ρ : Env) (Q : List D → Prop), S.Rel G H σ ρ → ι ρ Q → WI S.X tg iter σ H fun J H' => ∃ G' ds, Ext H G H G' H' ∧ Gives S.nm G' J ds ∧ Q ds
end DD

set_option Elab.async false
set_option linter.all false
set_option maxRecDepth 100000
set_option maxHeartbeats 1000000
namespace DD
open PySem PySem.Spec PyProof.Rows L2
/-! ### what goes on, at a state of the names (kept a written list) -/
@[irreducible] def Nx (Q : Env → Prop) (ρ : Env) : Prop := Q ρ
theorem Nx.get {Q : Env → Prop} {ρ : Env} (h : Nx Q ρ) : Q ρ := by unfold Nx at h; exact h
theorem Nx.of {Q : Env → Prop} {ρ : Env} (h : Q ρ) : Nx Q ρ := by unfold Nx; exact h
@[irreducible] def put (ρ : Env) (i : Nat) (x : Option D) : Env := ρ.set i x
theorem put_eq (ρ : Env) (i : Nat) (x : Option D) : put ρ i x = ρ.set i x := by unfold put; rfl
theorem Nx.id {Q : Env → Prop} {ρ : Env} (h : Nx Q ρ) : Nx Q ρ := h
theorem Nx.getS {Q : Env → Prop} {ρ : Env} {i : Nat} {x : Option D} (h : Nx Q (put ρ i x)) : Q (ρ.set i x) := put_eq ρ i x ▸ h.get
theorem nx_set0 {Q : Env → Prop} {a0 x : Option D} {l : Env} (q : Q (x :: l)) : Nx Q (put (a0 :: l) 0 x) := by rw [put_eq]; exact .of q
theorem nx_set1 {Q : Env → Prop} {a0 a1 x : Option D} {l : Env} (q : Q (a0 :: x :: l)) : Nx Q (put (a0 :: a1 :: l) 1 x) := by rw [put_eq]; exact .of q
theorem nx_set2 {Q : Env → Prop} {a0 a1 a2 x : Option D} {l : Env} (q : Q (a0 :: a1 :: x :: l)) : Nx Q (put (a0 :: a1 :: a2 :: l) 2 x) := by rw [put_eq]; exact .of q
theorem nx_set3 {Q : Env → Prop} {a0 a1 a2 a3 x : Option D} {l : Env} (q : Q (a0 :: a1 :: a2 :: x :: l)) : Nx Q (put (a0 :: a1 :: a2 :: a3 :: l) 3 x) := by rw [put_eq]; exact .of q
theorem nx_set4 {Q : Env → Prop} {a0 a1 a2 a3 a4 x : Option D} {l : Env} (q : Q (a0 :: a1 :: a2 :: a3 :: x :: l)) : Nx Q (put (a0 :: a1 :: a2 :: a3 :: a4 :: l) 4 x) := by rw [put_eq]; exact .of q
theorem nx_set5 {Q : Env → Prop} {a0 a1 a2 a3 a4 a5 x : Option D} {l : Env} (q : Q (a0 :: a1 :: a2 :: a3 :: a4 :: x :: l)) : Nx Q (put (a0 :: a1 :: a2 :: a3 :: a4 :: a5 :: l) 5 x) := by rw [put_eq]; exact .of q
theorem nx_set6 {Q : Env → Prop} {a0 a1 a2 a3 a4 a5 a6 x : Option D} {l : Env} (q : Q (a0 :: a1 :: a2 :: a3 :: a4 :: a5 :: x :: l)) : Nx Q (put (a0 :: a1 :: a2 :: a3 :: a4 :: a5 :: a6 :: l) 6 x) := by rw [put_eq]; exact .of q
theorem nx_set7 {Q : Env → Prop} {a0 a1 a2 a3 a4 a5 a6 a7 x : Option D} {l : Env} (q : Q (a0 :: a1 :: a2 :: a3 :: a4 :: a5 :: a6 :: x :: l)) : Nx Q (put (a0 :: a1 :: a2 :: a3 :: a4 :: a5 :: a6 :: a7 :: l) 7 x) := by rw [put_eq]; exact .of q
theorem nx_set8 {Q : Env → Prop} {a0 a1 a2 a3 a4 a5 a6 a7 a8 x : Option D} {l : Env} (q : Q (a0 :: a1 :: a2 :: a3 :: a4 :: a5 :: a6 :: a7 :: x :: l)) : Nx Q (put (a0 :: a1 :: a2 :: a3 :: a4 :: a5 :: a6 :: a7 :: a8 :: l) 8 x) := by rw [put_eq]; exact .of q
theorem nx_set9 {Q : Env → Prop} {a0 a1 a2 a3 a4 a5 a6 a7 a8 a9 x : Option D} {l : Env} (q : Q (a0 :: a1 :: a2 :: a3 :: a4 :: a5 :: a6 :: a7 :: a8 :: x :: l)) : Nx Q (put (a0 :: a1 :: a2 :: a3 :: a4 :: a5 :: a6 :: a7 :: a8 :: a9 :: l) 9 x) := by rw [put_eq]; exact .of q
theorem nx_set10 {Q : Env → Prop} {a0 a1 a2 a3 a4 a5 a6 a7 a8 a9 a10 x : Option D} {l : Env} (q : Q (a0 :: a1 :: a2 :: a3 :: a4 :: a5 :: a6 :: a7 :: a8 :: a9 :: x :: l)) : Nx Q (put (a0 :: a1 :: a2 :: a3 :: a4 :: a5 :: a6 :: a7 :: a8 :: a9 :: a10 :: l) 10 x) := by rw [put_eq]; exact .of q
theorem nx_set11 {Q : Env → Prop} {a0 a1 a2 a3 a4 a5 a6 a7 a8 a9 a10 a11 x : Option D} {l : Env} (q : Q (a0 :: a1 :: a2 :: a3 :: a4 :: a5 :: a6 :: a7 :: a8 :: a9 :: a10 :: x :: l)) : Nx Q (put (a0 :: a1 :: a2 :: a3 :: a4 :: a5 :: a6 :: a7 :: a8 :: a9 :: a10 :: a11 :: l) 11 x) := by rw [put_eq]; exact .of q
theorem nx_set12 {Q : Env → Prop} {a0 a1 a2 a3 a4 a5 a6 a7 a8 a9 a10 a11 a12 x : Option D} {l : Env} (q : Q (a0 :: a1 :: a2 :: a3 :: a4 :: a5 :: a6 :: a7 :: a8 :: a9 :: a10 :: a11 :: x :: l)) : Nx Q (put (a0 :: a1 :: a2 :: a3 :: a4 :: a5 :: a6 :: a7 :: a8 :: a9 :: a10 :: a11 :: a12 :: l) 12 x) := by rw [put_eq]; exact .of q
theorem nx_set13 {Q : Env → Prop} {a0 a1 a2 a3 a4 a5 a6 a7 a8 a9 a10 a11 a12 a13 x : Option D} {l : Env} (q : Q (a0 :: a1 :: a2 :: a3 :: a4 :: a5 :: a6 :: a7 :: a8 :: a9 :: a10 :: a11 :: a12 :: x :: l)) : Nx Q (put (a0 :: a1 :: a2 :: a3 :: a4 :: a5 :: a6 :: a7 :: a8 :: a9 :: a10 :: a11 :: a12 :: a13 :: l) 13 x) := by rw [put_eq]; exact .of q
theorem nx_set14 {Q : Env → Prop} {a0 a1 a2 a3 a4 a5 a6 a7 a8 a9 a10 a11 a12 a13 a14 x : Option D} {l : Env} (q : Q (a0 :: a1 :: a2 :: a3 :: a4 :: a5 :: a6 :: a7 :: a8 :: a9 :: a10 :: a11 :: a12 :: a13 :: x :: l)) : Nx Q (put (a0 :: a1 :: a2 :: a3 :: a4 :: a5 :: a6 :: a7 :: a8 :: a9 :: a10 :: a11 :: a12 :: a13 :: a14 :: l) 14 x) := by rw [put_eq]; exact .of q
theorem nx_set15 {Q : Env → Prop} {a0 a1 a2 a3 a4 a5 a6 a7 a8 a9 a10 a11 a12 a13 a14 a15 x : Option D} {l : Env} (q : Q (a0 :: a1 :: a2 :: a3 :: a4 :: a5 :: a6 :: a7 :: a8 :: a9 :: a10 :: a11 :: a12 :: a13 :: a14 :: x :: l)) : Nx Q (put (a0 :: a1 :: a2 :: a3 :: a4 :: a5 :: a6 :: a7 :: a8 :: a9 :: a10 :: a11 :: a12 :: a13 :: a14 :: a15 :: l) 15 x) := by rw [put_eq]; exact .of q
theorem nx_set16 {Q : Env → Prop} {a0 a1 a2 a3 a4 a5 a6 a7 a8 a9 a10 a11 a12 a13 a14 a15 a16 x : Option D} {l : Env} (q : Q (a0 :: a1 :: a2 :: a3 :: a4 :: a5 :: a6 :: a7 :: a8 :: a9 :: a10 :: a11 :: a12 :: a13 :: a14 :: a15 :: x :: l)) : Nx Q (put (a0 :: a1 :: a2 :: a3 :: a4 :: a5 :: a6 :: a7 :: a8 :: a9 :: a10 :: a11 :: a12 :: a13 :: a14 :: a15 :: a16 :: l) 16 x) := by rw [put_eq]; exact .of q
theorem nx_set17 {Q : Env → Prop} {a0 a1 a2 a3 a4 a5 a6 a7 a8 a9 a10 a11 a12 a13 a14 a15 a16 a17 x : Option D} {l : Env} (q : Q (a0 :: a1 :: a2 :: a3 :: a4 :: a5 :: a6 :: a7 :: a8 :: a9 :: a10 :: a11 :: a12 :: a13 :: a14 :: a15 :: a16 :: x :: l)) : Nx Q (put (a0 :: a1 :: a2 :: a3 :: a4 :: a5 :: a6 :: a7 :: a8 :: a9 :: a10 :: a11 :: a12 :: a13 :: a14 :: a15 :: a16 :: a17 :: l) 17 x) := by rw [put_eq]; exact .of q
theorem nx_set18 {Q : Env → Prop} {a0 a1 a2 a3 a4 a5 a6 a7 a8 a9 a10 a11 a12 a13 a14 a15 a16 a17 a18 x : Option D} {l : Env} (q : Q (a0 :: a1 :: a2 :: a3 :: a4 :: a5 :: a6 :: a7 :: a8 :: a9 :: a10 :: a11 :: a12 :: a13 :: a14 :: a15 :: a16 :: a17 :: x :: l)) : Nx Q (put (a0 :: a1 :: a2 :: a3 :: a4 :: a5 :: a6 :: a7 :: a8 :: a9 :: a10 :: a11 :: a12 :: a13 :: a14 :: a15 :: a16 :: a17 :: a18 :: l) 18 x) := by rw [put_eq]; exact .of q
theorem nx_set19 {Q : Env → Prop} {a0 a1 a2 a3 a4 a5 a6 a7 a8 a9 a10 a11 a12 a13 a14 a15 a16 a17 a18 a19 x : Option D} {l : Env} (q : Q (a0 :: a1 :: a2 :: a3 :: a4 :: a5 :: a6 :: a7 :: a8 :: a9 :: a10 :: a11 :: a12 :: a13 :: a14 :: a15 :: a16 :: a17 :: a18 :: x :: l)) : Nx Q (put (a0 :: a1 :: a2 :: a3 :: a4 :: a5 :: a6 :: a7 :: a8 :: a9 :: a10 :: a11 :: a12 :: a13 :: a14 :: a15 :: a16 :: a17 :: a18 :: a19 :: l) 19 x) := by rw [put_eq]; exact .of q
theorem nx_set20 {Q : Env → Prop} {a0 a1 a2 a3 a4 a5 a6 a7 a8 a9 a10 a11 a12 a13 a14 a15 a16 a17 a18 a19 a20 x : Option D} {l : Env} (q : Q (a0 :: a1 :: a2 :: a3 :: a4 :: a5 :: a6 :: a7 :: a8 :: a9 :: a10 :: a11 :: a12 :: a13 :: a14 :: a15 :: a16 :: a17 :: a18 :: a19 :: x :: l)) : Nx Q (put (a0 :: a1 :: a2 :: a3 :: a4 :: a5 :: a6 :: a7 :: a8 :: a9 :: a10 :: a11 :: a12 :: a13 :: a14 :: a15 :: a16 :: a17 :: a18 :: a19 :: a20 :: l) 20 x) := by rw [put_eq]; exact .of q
theorem nx_set21 {Q : Env → Prop} {a0 a1 a2 a3 a4 a5 a6 a7 a8 a9 a10 a11 a12 a13 a14 a15 a16 a17 a18 a19 a20 a21 x : Option D} {l : Env} (q : Q (a0 :: a1 :: a2 :: a3 :: a4 :: a5 :: a6 :: a7 :: a8 :: a9 :: a10 :: a11 :: a12 :: a13 :: a14 :: a15 :: a16 :: a17 :: a18 :: a19 :: a20 :: x :: l)) : Nx Q (put (a0 :: a1 :: a2 :: a3 :: a4 :: a5 :: a6 :: a7 :: a8 :: a9 :: a10 :: a11 :: a12 :: a13 :: a14 :: a15 :: a16 :: a17 :: a18 :: a19 :: a20 :: a21 :: l) 21 x) := by rw [put_eq]; exact .of q
theorem nx_set22 {Q : Env → Prop} {a0 a1 a2 a3 a4 a5 a6 a7 a8 a9 a10 a11 a12 a13 a14 a15 a16 a17 a18 a19 a20 a21 a22 x : Option D} {l : Env} (q : Q (a0 :: a1 :: a2 :: a3 :: a4 :: a5 :: a6 :: a7 :: a8 :: a9 :: a10 :: a11 :: a12 :: a13 :: a14 :: a15 :: a16 :: a17 :: a18 :: a19 :: a20 :: a21 :: x :: l)) : Nx Q (put (a0 :: a1 :: a2 :: a3 :: a4 :: a5 :: a6 :: a7 :: a8 :: a9 :: a10 :: a11 :: a12 :: a13 :: a14 :: a15 :: a16 :: a17 :: a18 :: a19 :: a20 :: a21 :: a22 :: l) 22 x) := by rw [put_eq]; exact .of q
theorem nx_set23 {Q : Env → Prop} {a0 a1 a2 a3 a4 a5 a6 a7 a8 a9 a10 a11 a12 a13 a14 a15 a16 a17 a18 a19 a20 a21 a22 a23 x : Option D} {l : Env} (q : Q (a0 :: a1 :: a2 :: a3 :: a4 :: a5 :: a6 :: a7 :: a8 :: a9 :: a10 :: a11 :: a12 :: a13 :: a14 :: a15 :: a16 :: a17 :: a18 :: a19 :: a20 :: a21 :: a22 :: x :: l)) : Nx Q (put (a0 :: a1 :: a2 :: a3 :: a4 :: a5 :: a6 :: a7 :: a8 :: a9 :: a10 :: a11 :: a12 :: a13 :: a14 :: a15 :: a16 :: a17 :: a18 :: a19 :: a20 :: a21 :: a22 :: a23 :: l) 23 x) := by rw [put_eq]; exact .of q
theorem nx_set24 {Q : Env → Prop} {a0 a1 a2 a3 a4 a5 a6 a7 a8 a9 a10 a11 a12 a13 a14 a15 a16 a17 a18 a19 a20 a21 a22 a23 a24 x : Option D} {l : Env} (q : Q (a0 :: a1 :: a2 :: a3 :: a4 :: a5 :: a6 :: a7 :: a8 :: a9 :: a10 :: a11 :: a12 :: a13 :: a14 :: a15 :: a16 :: a17 :: a18 :: a19 :: a20 :: a21 :: a22 :: a23 :: x :: l)) : Nx Q (put (a0 :: a1 :: a2 :: a3 :: a4 :: a5 :: a6 :: a7 :: a8 :: a9 :: a10 :: a11 :: a12 :: a13 :: a14 :: a15 :: a16 :: a17 :: a18 :: a19 :: a20 :: a21 :: a22 :: a23 :: a24 :: l) 24 x) := by rw [put_eq]; exact .of q

/-! ### expressions -/
/-- a list of one's own is lent where its name is read -/
def borO : D → D
  | .own l => .bor l
  | d => d
def eVar (i : Nat) : TD := fun ρ Q => match ρ[i]? with
  | some (some d) => Q (borO d)
  | _ => False
def eC (d : D) : TD := fun _ Q => Q d
section
variable {S : Sit} {a b c e : Expr} {es : List Expr} {pos : Pos} {τa τb τc : TD}
theorem je_var {i : Nat} {x : Str} (hN : S.X.N[i]? = some x) (hv : Vis S.X.env.scope x) (hd : (x == ("__debug__" : Str)) = false := by decide) (hcd : (x == ("__classdict__" : Str)) = false := by decide) : JE S (.Name x pos) (eVar i) := by
  refine ⟨fun G H σ ρ Q R h => WX.of (pe_var hN hv hd hcd) ?_⟩
  unfold eVar at h
  split at h
  · rename_i d e
    obtain ⟨v, h1, h2, h3⟩ := R.slot i _ e
    refine ⟨v, h1, G, borO d, Ext.refl R.gh, ?_, h⟩
    cases d with
    | own l =>
      obtain ⟨p, vs, rfl, g1, g2, g3, g4⟩ := h2
      exact ⟨p, vs, rfl, g1, g2, g4⟩
    | bor l => exact absurd h3 (by simp [isBor])
    | _ => exact h2
  · exact h.elim
theorem jv (i : Nat) {x : Str} (hN : S.X.N[i]? = some x := by rfl) (hv : Vis S.X.env.scope x := by first | exact Or.inl rfl | exact Or.inr (Or.inl rfl) | exact Or.inr (Or.inr rfl)) (hd : (x == ("__debug__" : Str)) = false := by decide)
    (hcd : (x == ("__classdict__" : Str)) = false := by decide) : JE S (.Name x pos) (eVar i) := je_var hN hv hd hcd
theorem je_const {d : D} {v : V} (h : PE S.X e (tC v)) (r : ∀ G, Rep S.nm G v d) : JE S e (eC d) := ⟨fun G H σ ρ Q R h' => WX.of h ⟨G, d, Ext.refl R.gh, .of (r G), h'⟩⟩
theorem je_int {i : Int} {j} : JE S (.Constant (.int i) j pos) (eC (.int i)) := je_const pe_int fun _ => .int i
theorem je_bl {i : Bool} {j} : JE S (.Constant (.bool i) j pos) (eC (.bl i)) := je_const pe_bl fun _ => .bl i
theorem je_str {i : Str} {j} : JE S (.Constant (.str i) j pos) (eC (.str i)) := je_const pe_str fun _ => .str i
theorem je_non {j} : JE S (.Constant .none j pos) (eC .non) := je_const pe_non fun _ => .non
/-- a module's constant: an int, a text -/
theorem je_globI {x : Str} {i : Int} {t : Tok} (hg : Gl S.X x) (hm : S.X.mg x = some (.int i t)) (hd : (x == ("__debug__" : Str)) = false := by decide) : JE S (.Name x pos) (eC (.int i)) := je_const (pe_glob (v := .int i) hg hm ⟨_, rfl⟩ hd) fun _ => .int i
theorem je_globS {x : Str} {i : Str} {t : Tok} (hg : Gl S.X x) (hm : S.X.mg x = some (.str i t)) (hd : (x == ("__debug__" : Str)) = false := by decide) : JE S (.Name x pos) (eC (.str i)) := je_const (pe_glob (v := .str i) hg hm ⟨_, rfl⟩ hd) fun _ => .str i

/-! ### operators -/
abbrev RD2 := D → D → (D → Prop) → Prop
def DOp (S : Sit) (f : Value → Value → Sem Value) (r : RD2) : Prop :=
  ∀ (H0 G H : Hp) (x y : V) (d e : D) (Q : D → Prop), Same H0 H → Same G H → RepV S.nm H0 G H x d → RepV S.nm H0 G H y e → r d e Q →
    ∀ (pins : List (Addr × Obj)) (s : Shared) (σ : L2.St) (v u : Value), Inv S.X pins σ H s → RelV x v → RelV y u →
      wpAny (model S.X.prog S.X.w) S.X.A (f v u) (EP S.X pins σ fun z H' => ∃ G' d', Ext H0 G H G' H' ∧ RepV S.nm H0 G' H' z d' ∧ Q d') S.X.xe s
/-- by a rule of the layer -/
theorem DOp.of {f : Value → Value → Sem Value} {r : RD2} (h : ∀ (H0 G H : Hp) (x y : V) (d e : D) (Q : D → Prop), Same H0 H → Same G H → RepV S.nm H0 G H x d → RepV S.nm H0 G H y e → r d e Q →
    ∃ r' : R2, OpR S.X f r' ∧ r' x y H fun z H' => ∃ G' d', Ext H0 G H G' H' ∧ RepV S.nm H0 G' H' z d' ∧ Q d') : DOp S f r := fun H0 G H x y d e Q s0 gh rx ry q pins s σ v u I ru rv => by
  obtain ⟨r', ho, q'⟩ := h H0 G H x y d e Q s0 gh rx ry q
  exact ho pins s σ H x y v u _ I ru rv q'
def rSem (X : Cx) (f : Value → Value → Sem Value) : R2 := fun x y H Q => ∀ (pins : List (Addr × Obj)) (s : Shared) (σ : L2.St) (v u : Value), Inv X pins σ H s → RelV x v → RelV y u → wpAny (model X.prog X.w) X.A (f v u) (EP X pins σ Q) X.xe s
theorem op_sem {X : Cx} {f : Value → Value → Sem Value} : OpR X f (rSem X f) := fun pins s σ _ _ _ v u _ I rx ry h => h pins s σ v u I rx ry
def eOp (r : RD2) (τa τb : TD) : TD := fun ρ Q => τa ρ fun d => τb ρ fun e => r d e Q
theorem two_run {f : Value → Value → Sem Value} {r : RD2} (ho : DOp S f r) (ha : JE S a τa) (hb : JE S b τb) {G H : Hp} {σ : L2.St} {ρ : Env} {Q : D → Prop} (R : S.Rel G H σ ρ) (h : eOp r τa τb ρ Q) :
    tOp (rSem S.X f) (WX S.X a) (WX S.X b) σ H fun v H' => ∃ G' d, Ext H G H G' H' ∧ RepV S.nm H G' H' v d ∧ Q d := by
  refine (ha.run G H σ ρ _ R h).mono fun x H1 ⟨G1, d, x1, r1, h1⟩ => ?_
  refine (hb.run G1 H1 σ ρ _ (R.go x1) h1).mono fun y H2 ⟨G2, e, x2, r2, h2⟩ => ?_
  intro pins s σ' v u I rx ry
  have y2 := Ext.from x1.h x2
  refine thn (ho H G2 H2 x y d e Q (x1.h.trans x2.h) x2.gh (r1.ext x2) (r2.from x1.h) h2 pins s σ' v u I rx ry) fun z s' ⟨w, H3, I3, rz, G3, d3, x3, r3, q3⟩ => ?_
  exact ⟨w, H3, I3, rz, G3, d3, x1.trans (y2.trans x3), r3, q3⟩
theorem je_op {op : Operator} {r : RD2} (ho : DOp S (binaryOp op) r) (ha : JE S a τa) (hb : JE S b τb) : JE S (.BinOp a op b pos) (eOp r τa τb) :=
  ⟨fun G H σ ρ Q R h => WX.of (pe_op op_sem pe_w pe_w) (two_run ho ha hb R h)⟩
theorem je_cmp {op : CmpOp} {r : RD2} (ho : DOp S (compareOp op) r) (ha : JE S a τa) (hb : JE S b τb) (hm : behindInMarks op b = false) : JE S (.Compare a [op] [b] pos) (eOp r τa τb) :=
  ⟨fun G H σ ρ Q R h => WX.of (pe_cmpR op_sem pe_w pe_w hm) (two_run ho ha hb R h)⟩
def dTest (τ : TD) : TDt := fun ρ Q => τ ρ fun d => match d with
  | .bl b => Q b
  | _ => False
theorem repV_bl {nm : Nm} {H0 G H : Hp} {v : V} {b : Bool} (r : RepV nm H0 G H v (.bl b)) : v = .bl b := by
  cases (show Rep nm G v (.bl b) from r); rfl
theorem repV_int {nm : Nm} {H0 G H : Hp} {v : V} {b : Int} (r : RepV nm H0 G H v (.int b)) : v = .int b := by
  cases (show Rep nm G v (.int b) from r); rfl
theorem repV_str {nm : Nm} {H0 G H : Hp} {v : V} {b : Str} (r : RepV nm H0 G H v (.str b)) : v = .str b := by
  cases (show Rep nm G v (.str b) from r); rfl
theorem repV_non {nm : Nm} {H0 G H : Hp} {v : V} (r : RepV nm H0 G H v .non) : v = .non := by
  cases (show Rep nm G v .non from r); rfl
theorem jt_of {t : TE → TT} (hp : PT S.X e (t (WX S.X e))) (ht : ∀ σ H (Q : Bool → Hp → Prop), WX S.X e σ H (fun v H' => ∃ k, v = .bl k ∧ Q k H') → t (WX S.X e) σ H Q) (h : JE S e τa) : JT S e (dTest τa) := by
  refine ⟨fun G H σ ρ Q R hq => WT.of hp (ht _ _ _ ((h.run G H σ ρ _ R hq).mono fun v H' ⟨G', d, x, r, q⟩ => ?_))⟩
  cases d with
  | bl b => exact ⟨b, repV_bl r, G', x, q⟩
  | _ => exact q.elim
/-- an expression whose value is a truth, as a test -/
theorem jt_val (h : JE S e τa) (he : ∀ whole, isTrue e S.X.env whole = (do let v ← whole; standAt e.pos; holding [v] (truthy v)) := by intro _; rfl) : JT S e (dTest τa) :=
  jt_of (t := tB) (pt_val pe_w he) (fun _ _ _ q => q) h
theorem jt_cmp {op : CmpOp} {r : RD2} (ho : DOp S (compareOp op) r) (ha : JE S a τa) (hb : JE S b τb) (hm : behindInMarks op b = false) : JT S (.Compare a [op] [b] pos) (dTest (eOp r τa τb)) := by
  refine ⟨fun G H σ ρ Q R h => WT.of (pt_cmpR op_sem pe_w pe_w hm) ?_⟩
  have q := two_run ho ha hb R h
  refine q.mono fun x H1 q1 => q1.mono fun y H2 q2 => ?_
  intro pins s σ' v u I rx ry
  refine thn (q2 pins s σ' v u I rx ry) fun z s' ⟨w, H3, I3, rz, G3, d3, x3, r3, q3⟩ => ⟨w, H3, I3, rz, ?_⟩
  cases d3 with
  | bl b => exact ⟨b, repV_bl r3, G3, x3, q3⟩
  | _ => exact q3.elim
/-- a op b op' c, b no list of one's own -/
def flat1 : D → Bool
  | .own _ => false
  | .bor _ => false
  | _ => true
def eChain (r r' : RD2) (τa τb τc : TD) : TD := fun ρ Q => τa ρ fun d => τb ρ fun e => flat1 e = true ∧ r d e fun z => match z with
  | .bl k => (k = true → τc ρ fun f => r' e f Q) ∧ (k = false → Q (.bl false))
  | _ => False
theorem chain_run {f f' : Value → Value → Sem Value} {r r' : RD2} (ho : DOp S f r) (ho' : DOp S f' r') (ha : JE S a τa) (hb : JE S b τb) (hc : JE S c τc) {G H : Hp} {σ : L2.St} {ρ : Env} {Q : D → Prop} (R : S.Rel G H σ ρ) (h : eChain r r' τa τb τc ρ Q) :
    tChain (rSem S.X f) (rSem S.X f') (WX S.X a) (WX S.X b) (WX S.X c) σ H fun v H' => ∃ G' d, Ext H G H G' H' ∧ RepV S.nm H G' H' v d ∧ Q d := by
  refine (ha.run G H σ ρ _ R h).mono fun x H1 ⟨G1, d, x1, r1, h1⟩ => ?_
  refine (hb.run G1 H1 σ ρ _ (R.go x1) h1).mono fun y H2 ⟨G2, e, x2, r2, fe, h2⟩ => ?_
  intro pins s σ' v u I rx ry
  have y2 := x1.trans (Ext.from x1.h x2)
  refine thn (ho H G2 H2 x y d e _ (x1.h.trans x2.h) x2.gh (r1.ext x2) (r2.from x1.h) h2 pins s σ' v u I rx ry) fun z s' ⟨w, H3, I3, rz, G3, d3, x3, r3, q3⟩ => ⟨w, H3, I3, rz, ?_⟩
  cases d3 with
  | bl k =>
    refine ⟨k, repV_bl r3, ?_⟩
    have y3 := y2.trans x3
    cases k with
    | false => exact ⟨G3, _, y3, .of (.bl _), q3.2 rfl⟩
    | true =>
      have ry2 : RepV S.nm H G3 H3 y e := by
        cases e with
        | own l => cases fe
        | bor l => cases fe
        | _ => exact Rep.mono x3.g _ _ (r2.from x1.h)
      rw [if_pos rfl]
      refine (hc.run G3 H3 σ ρ _ (R.go y3) (q3.1 rfl)).mono fun zc H4 ⟨G4, f4, x4, r4, h4⟩ => ?_
      intro pins s σ' v u I rx ry
      refine thn (ho' H G4 H4 y zc e f4 Q (y3.h.trans x4.h) x4.gh (ry2.ext x4) (r4.from y3.h) h4 pins s σ' v u I rx ry) fun z s' ⟨w, H5, I5, rz, G5, d5, x5, r5, q5⟩ => ?_
      exact ⟨w, H5, I5, rz, G5, d5, y3.trans ((Ext.from y3.h x4).trans x5), r5, q5⟩
  | _ => exact q3.elim
theorem je_chain {op op' : CmpOp} {r r' : RD2} (ho : DOp S (compareOp op) r) (ho' : DOp S (compareOp op') r') (ha : JE S a τa) (hb : JE S b τb) (hc : JE S c τc) (hm : lastMarks [op, op'] [b, c] = false := by with_unfolding_all rfl) :
    JE S (.Compare a [op, op'] [b, c] pos) (eChain r r' τa τb τc) := ⟨fun G H σ ρ Q R h => WX.of (pe_chain op_sem op_sem pe_w pe_w pe_w hm) (chain_run ho ho' ha hb hc R h)⟩
theorem jt_chain {op op' : CmpOp} {r r' : RD2} (ho : DOp S (compareOp op) r) (ho' : DOp S (compareOp op') r') (ha : JE S a τa) (hb : JE S b τb) (hc : JE S c τc) (hm : lastMarks [op, op'] [b, c] = false := by with_unfolding_all rfl) :
    JT S (.Compare a [op, op'] [b, c] pos) (dTest (eChain r r' τa τb τc)) := by
  refine ⟨fun G H σ ρ Q R h => WT.of (pt_chain op_sem op_sem pe_w pe_w pe_w hm) ?_⟩
  have fin : ∀ (z : V) (H' : Hp), (∃ G' d, Ext H G H G' H' ∧ RepV S.nm H G' H' z d ∧ (match d with | .bl b => Q b | _ => False)) → ∃ k, z = .bl k ∧ ∃ G', Ext H G H G' H' ∧ Q k := fun z H' ⟨G', d, x, r, q⟩ => by
    cases d with
    | bl b => exact ⟨b, repV_bl r, G', x, q⟩
    | _ => exact q.elim
  refine (chain_run ho ho' ha hb hc R h).mono fun x H1 q1 => q1.mono fun y H2 q2 => ?_
  intro pins s σ' v u I rx ry
  refine thn (q2 pins s σ' v u I rx ry) fun z s' ⟨w, H3, I3, rz, k, ek, q3⟩ => ⟨w, H3, I3, rz, k, ek, ?_⟩
  cases k with
  | false =>
    rw [if_neg Bool.false_ne_true] at q3 ⊢
    exact fin _ _ q3
  | true =>
    rw [if_pos rfl] at q3 ⊢
    refine q3.mono fun zc H4 q4 => ?_
    intro pins s σ' v u I rx ry
    exact thn (q4 pins s σ' v u I rx ry) fun z s' ⟨w, H5, I5, rz, q5⟩ => ⟨w, H5, I5, rz, fin _ _ q5⟩

/-! ### and, or, not -/
variable {rest : List Expr} {ta tb : TDt}
def eAnd (τa τb : TD) : TD := fun ρ Q => τa ρ fun d => match d with
  | .bl b => (b = true → τb ρ Q) ∧ (b = false → Q (.bl false))
  | _ => False
def eOr (τa τb : TD) : TD := fun ρ Q => τa ρ fun d => match d with
  | .bl b => (b = true → Q (.bl true)) ∧ (b = false → τb ρ Q)
  | _ => False
def eNot (τa : TD) : TD := fun ρ Q => τa ρ fun d => match d with
  | .bl b => Q (.bl (!b))
  | _ => False
theorem je_one {op} (h : JE S a τa) : JE S (.BoolOp op [a] pos) τa := ⟨fun G H σ ρ Q R q => WX.of (pe_one pe_w) (h.run G H σ ρ Q R q)⟩
theorem je_and (ha : JE S a τa) (hb : JE S (.BoolOp .And (b :: rest) pos) τb) : JE S (.BoolOp .And (a :: b :: rest) pos) (eAnd τa τb) := by
  refine ⟨fun G H σ ρ Q R h => WX.of (pe_and pe_w pe_w) ((ha.run G H σ ρ _ R h).mono fun v H1 ⟨G1, d, x1, r1, q1⟩ => ?_)⟩
  cases d with
  | bl k =>
    refine ⟨k, repV_bl r1, ?_⟩
    cases k with
    | false => exact ⟨G1, _, x1, .of (.bl _), q1.2 rfl⟩
    | true => exact (hb.run G1 H1 σ ρ Q (R.go x1) (q1.1 rfl)).mono fun v H2 ⟨G2, d, x2, r2, q2⟩ => ⟨G2, d, x1.trans (Ext.from x1.h x2), r2.from x1.h, q2⟩
  | _ => exact q1.elim
theorem je_or (ha : JE S a τa) (hb : JE S (.BoolOp .Or (b :: rest) pos) τb) : JE S (.BoolOp .Or (a :: b :: rest) pos) (eOr τa τb) := by
  refine ⟨fun G H σ ρ Q R h => WX.of (pe_or pe_w pe_w) ((ha.run G H σ ρ _ R h).mono fun v H1 ⟨G1, d, x1, r1, q1⟩ => ?_)⟩
  cases d with
  | bl k =>
    refine ⟨k, repV_bl r1, ?_⟩
    cases k with
    | true => exact ⟨G1, _, x1, .of (.bl _), q1.1 rfl⟩
    | false => exact (hb.run G1 H1 σ ρ Q (R.go x1) (q1.2 rfl)).mono fun v H2 ⟨G2, d, x2, r2, q2⟩ => ⟨G2, d, x1.trans (Ext.from x1.h x2), r2.from x1.h, q2⟩
  | _ => exact q1.elim
theorem je_not (ha : JE S a τa) : JE S (.UnaryOp .Not a pos) (eNot τa) := by
  refine ⟨fun G H σ ρ Q R h => WX.of (pe_not pe_w) ((ha.run G H σ ρ _ R h).mono fun v H1 ⟨G1, d, x1, r1, q1⟩ => ?_)⟩
  cases d with
  | bl k => exact ⟨k, repV_bl r1, G1, _, x1, .of (.bl _), q1⟩
  | _ => exact q1.elim
/-- as tests -/
def dAnd (ta tb : TDt) : TDt := fun ρ Q => ta ρ fun b => (b = true → tb ρ Q) ∧ (b = false → Q false)
def dOr (ta tb : TDt) : TDt := fun ρ Q => ta ρ fun b => (b = true → Q true) ∧ (b = false → tb ρ Q)
def dNot (ta : TDt) : TDt := fun ρ Q => ta ρ fun b => Q (!b)
theorem JW.jt (h : JW S e ta) : JT S e ta := ⟨fun G H σ ρ Q R q => h.run G H σ ρ Q R q _⟩
theorem jw_and1 (h : JT S a ta) : JW S (.BoolOp .And [a] pos) ta := ⟨fun G H σ ρ Q R q => WW.of (pw_and1 pt_w) (h.run G H σ ρ Q R q)⟩
theorem jw_or1 (h : JT S a ta) : JW S (.BoolOp .Or [a] pos) ta := ⟨fun G H σ ρ Q R q => WW.of (pw_or1 pt_w) (h.run G H σ ρ Q R q)⟩
theorem jw_and (ha : JT S a ta) (hb : JW S (.BoolOp .And (b :: rest) pos) tb) : JW S (.BoolOp .And (a :: b :: rest) pos) (dAnd ta tb) := by
  refine ⟨fun G H σ ρ Q R h => WW.of (pw_and pt_w pw_w) ((ha.run G H σ ρ _ R h).mono fun k H1 ⟨G1, x1, q1⟩ => ?_)⟩
  cases k with
  | false => exact ⟨G1, x1, q1.2 rfl⟩
  | true => exact (hb.run G1 H1 σ ρ Q (R.go x1) (q1.1 rfl)).mono fun v H2 ⟨G2, x2, q2⟩ => ⟨G2, x1.trans (Ext.from x1.h x2), q2⟩
theorem jw_or (ha : JT S a ta) (hb : JW S (.BoolOp .Or (b :: rest) pos) tb) : JW S (.BoolOp .Or (a :: b :: rest) pos) (dOr ta tb) := by
  refine ⟨fun G H σ ρ Q R h => WW.of (pw_or pt_w pw_w) ((ha.run G H σ ρ _ R h).mono fun k H1 ⟨G1, x1, q1⟩ => ?_)⟩
  cases k with
  | true => exact ⟨G1, x1, q1.1 rfl⟩
  | false => exact (hb.run G1 H1 σ ρ Q (R.go x1) (q1.2 rfl)).mono fun v H2 ⟨G2, x2, q2⟩ => ⟨G2, x1.trans (Ext.from x1.h x2), q2⟩
theorem jt_not (h : JT S a ta) : JT S (.UnaryOp .Not a pos) (dNot ta) := ⟨fun G H σ ρ Q R q => WT.of (pt_not pt_w) (h.run G H σ ρ (fun b => Q (!b)) R q)⟩
/-- a if t else b -/
def eIf (tc : TDt) (τa τb : TD) : TD := fun ρ Q => tc ρ fun b => (b = true → τa ρ Q) ∧ (b = false → τb ρ Q)
theorem je_ifExp (hc : JT S c ta) (ha : JE S a τa) (hb : JE S b τb) : JE S (.IfExp c a b pos) (eIf ta τa τb) := by
  refine ⟨fun G H σ ρ Q R h => WX.of (pe_ifExp pt_w pe_w pe_w) ((hc.run G H σ ρ _ R h).mono fun k H1 ⟨G1, x1, q1⟩ => ?_)⟩
  cases k with
  | true => exact (ha.run G1 H1 σ ρ Q (R.go x1) (q1.1 rfl)).mono fun v H2 ⟨G2, d, x2, r2, q2⟩ => ⟨G2, d, x1.trans (Ext.from x1.h x2), r2.from x1.h, q2⟩
  | false => exact (hb.run G1 H1 σ ρ Q (R.go x1) (q1.2 rfl)).mono fun v H2 ⟨G2, d, x2, r2, q2⟩ => ⟨G2, d, x1.trans (Ext.from x1.h x2), r2.from x1.h, q2⟩

/-! ### arguments, displays: lists that are new are frozen at once -/
def frzO : D → D
  | .own l => .lst l
  | d => d
theorem frzO_own {d : D} {l : List D} : frzO d ≠ .own l := by cases d <;> simp [frzO]
theorem RepV.frzO {nm : Nm} {H0 G H : Hp} {v : V} {d : D} (r : RepV nm H0 G H v d) (gh : Same G H) : ∃ G', Ext H0 G H G' H ∧ RepV nm H0 G' H v (frzO d) := by
  cases d with
  | own l =>
    obtain ⟨G', x, q⟩ := r.freeze gh rfl
    exact ⟨G', x, q⟩
  | _ => exact ⟨G, Ext.refl gh, r⟩
/-- values of which none is a new list -/
inductive RepA (nm : Nm) (G H : Hp) : List V → List D → Prop
  | nil : RepA nm G H [] []
  | cons {v : V} {vs : List V} {d : D} {ds : List D} : RepV nm H G H v d → isOwn d = false → RepA nm G H vs ds → RepA nm G H (v :: vs) (d :: ds)
theorem repV_noOwn {nm : Nm} {H0 H1 G H : Hp} {v : V} {d : D} (r : RepV nm H0 G H v d) (h : isOwn d = false) : RepV nm H1 G H v d := by
  cases d with
  | own l => cases h
  | _ => exact r
theorem isOwn_frzO (d : D) : isOwn (frzO d) = false := by cases d <;> rfl
structure JA' (S : Sit) (es : List Expr) (τ : TDs) : Prop where
  run : ∀ (G H : Hp) (σ : L2.St) (ρ : Env) (Q : List D → Prop), S.Rel G H σ ρ → τ ρ Q → WA S.X es σ H fun vs H' => ∃ G' ds, Ext H G H G' H' ∧ RepA S.nm G' H' vs ds ∧ Q ds
def aNil : TDs := fun _ Q => Q []
def aCons (τ : TD) (t : TDs) : TDs := fun ρ Q => τ ρ fun d => t ρ fun ds => Q (frzO d :: ds)
theorem ja_nil : JA' S [] aNil := ⟨fun G H σ ρ Q R h => WA.of pa_nil ⟨G, [], Ext.refl R.gh, .nil, h⟩⟩
theorem ja_cons {t : TDs} (ha : JE S e τa) (hr : JA' S es t) (hs : starEach (e :: es) S.X.env = (false, eval e S.X.env) :: starEach es S.X.env := by rfl) : JA' S (e :: es) (aCons τa t) := by
  refine ⟨fun G H σ ρ Q R h => WA.of (pa_cons pe_w pa_w hs) ((ha.run G H σ ρ _ R h).mono fun v H1 ⟨G1, d, x1, r1, q1⟩ => ?_)⟩
  obtain ⟨G1', x1', r1'⟩ := r1.frzO x1.gh
  have y1 := x1.trans x1'
  refine (hr.run G1' H1 σ ρ _ (R.go y1) q1).mono fun vs H2 ⟨G2, ds, x2, r2, q2⟩ => ⟨G2, frzO d :: ds, y1.trans (Ext.from y1.h x2), .cons ?_ (isOwn_frzO d) r2, q2⟩
  exact repV_noOwn (r1'.ext x2) (isOwn_frzO d)
/-- no borrowed list among them: plain values -/
theorem RepA.reps {nm : Nm} {G H : Hp} : ∀ {vs : List V} {ds : List D}, RepA nm G H vs ds → ds.any isBor = false → Reps nm G vs ds
  | _, _, .nil, _ => .nil
  | _, _, .cons (d := d) r n q, h => by
    rw [List.any_cons, Bool.or_eq_false_iff] at h
    refine .cons ?_ (RepA.reps q h.2)
    cases d with
    | own l => cases n
    | bor l => cases h.1
    | _ => exact r
def eTup (t : TDs) : TD := fun ρ Q => t ρ fun ds => ds.any isBor = false ∧ ds.length ≤ sizeLine ∧ Q (.tup ds)
def eLst (t : TDs) : TD := fun ρ Q => t ρ fun ds => ds.any isBor = false ∧ ds.length ≤ sizeLine ∧ Q (.own ds)
theorem je_tup {t : TDs} {x1} (h : JA' S es t) : JE S (.Tuple es x1 pos) (eTup t) := by
  refine ⟨fun G H σ ρ Q R q => WX.of (pe_tup pa_w) ((h.run G H σ ρ _ R q).mono fun vs H1 ⟨G1, ds, x1, r1, nb, hl, q1⟩ => ?_)⟩
  have rs := r1.reps nb
  refine ⟨by rw [rs.length]; exact hl, fun p hp => ?_⟩
  have gp : G1 p = none := x1.gh.free hp
  have sg : Same G1 (upd G1 p (.tup vs)) := same_upd gp
  refine ⟨upd G1 p (.tup vs), .tup ds, x1.trans ⟨sg, same_upd hp, fun b o e => ?_, fun a ea na => ?_⟩, .of (.tup upd_same (rs.mono sg)), q1⟩
  · by_cases hb : b = p
    · subst hb; rw [upd_same] at e ⊢; exact e
    · rw [upd_ne hb] at e ⊢; exact x1.gh _ _ e
  · rw [upd_ne (fun z => na (by rw [z]; exact x1.h.free hp))]; exact ea
theorem je_lst {t : TDs} (h : JA' S es t) : JE S (.List es pos) (eLst t) := by
  refine ⟨fun G H σ ρ Q R q => WX.of (pe_lst pa_w) ((h.run G H σ ρ _ R q).mono fun vs H1 ⟨G1, ds, x1, r1, nb, hl, q1⟩ => ?_)⟩
  have rs := r1.reps nb
  refine ⟨by rw [rs.length]; exact hl, fun p hp => ?_⟩
  have gp : G1 p = none := x1.gh.free hp
  exact ⟨G1, .own ds, x1.trans (Ext.grow x1.gh (same_upd hp)), ⟨p, vs, rfl, upd_same, gp, x1.h.free hp, rs⟩, q1⟩

/-! ### built-ins by name -/
abbrev RDs := List D → (D → Prop) → Prop
def DCall (S : Sit) (f : Value) (r : RDs) : Prop :=
  ∀ (H0 G H : Hp) (xs : List V) (ds : List D) (Q : D → Prop), Same H0 H → Same G H → RepA S.nm G H xs ds → r ds Q →
    ∀ (pins : List (Addr × Obj)) (s : Shared) (σ : L2.St) (us : List Value), Inv S.X pins σ H s → Vals xs us →
      wpAny (model S.X.prog S.X.w) S.X.A (call f us) (EP S.X pins σ fun z H' => ∃ G' d', Ext H0 G H G' H' ∧ RepV S.nm H0 G' H' z d' ∧ Q d') S.X.xe s
def cSem (X : Cx) (f : Value) : List V → Hp → VK → Prop := fun xs H Q => ∀ (pins : List (Addr × Obj)) (s : Shared) (σ : L2.St) (us : List Value), Inv X pins σ H s → Vals xs us → wpAny (model X.prog X.w) X.A (call f us) (EP X pins σ Q) X.xe s
theorem call_sem {X : Cx} {f : Value} : CallR X f (cSem X f) := fun pins s σ _ _ us _ I r h => h pins s σ us I r
theorem DCall.of {f : Value} {r : RDs} (h : ∀ (H0 G H : Hp) (xs : List V) (ds : List D) (Q : D → Prop), Same H0 H → Same G H → RepA S.nm G H xs ds → r ds Q →
    ∃ r' : List V → Hp → VK → Prop, CallR S.X f r' ∧ r' xs H fun z H' => ∃ G' d', Ext H0 G H G' H' ∧ RepV S.nm H0 G' H' z d' ∧ Q d') : DCall S f r := fun H0 G H xs ds Q s0 gh ra q pins s σ us I rv => by
  obtain ⟨r', ho, q'⟩ := h H0 G H xs ds Q s0 gh ra q
  exact ho pins s σ H xs us _ I rv q'
def eCB (r : RDs) (t : TDs) : TD := fun ρ Q => t ρ fun ds => r ds Q
theorem cb_run {f : Value} {r : RDs} {t : TDs} (hc : DCall S f r) (h : JA' S es t) {G H : Hp} {σ : L2.St} {ρ : Env} {Q : D → Prop} (R : S.Rel G H σ ρ) (q : eCB r t ρ Q) :
    tCB (cSem S.X f) (WA S.X es) σ H fun v H' => ∃ G' d, Ext H G H G' H' ∧ RepV S.nm H G' H' v d ∧ Q d := by
  refine (h.run G H σ ρ _ R q).mono fun vs H1 ⟨G1, ds, x1, r1, q1⟩ => ?_
  intro pins s σ' us I rv
  refine thn (hc H G1 H1 vs ds Q x1.h x1.gh r1 q1 pins s σ' us I rv) fun z s' ⟨w, H3, I3, rz, G3, d3, x3, r3, q3⟩ => ?_
  exact ⟨w, H3, I3, rz, G3, d3, x1.trans x3, r3, q3⟩
theorem je_callB {x : Str} {p : Pos} {id : String} {r : RDs} {t : TDs} (hc : DCall S (.builtin id) r) (hg : Gl S.X x) (hm : S.X.mg x = none) (hv : bootBuiltins x = some (.builtin id)) (h : JA' S (e :: es) t) (hn : x ≠ "__name__" := by decide) (hdb : (x == ("__debug__" : Str)) = false := by decide)
    (he : starEach (e :: es) S.X.env = (false, eval e S.X.env) :: starEach es S.X.env := by rfl) (hpl : (backTo pos (starEach es S.X.env)).any (·.1) = false := by rfl) : JE S (.Call (.Name x p) (e :: es) [] pos) (eCB r t) :=
  ⟨fun G H σ ρ Q R q => WX.of (pe_callB call_sem hg hm hv pa_w hn hdb he hpl) (cb_run hc h R q)⟩
theorem je_callTy {x : Str} {p : Pos} {T : String} {r : RDs} {t : TDs} (hc : DCall S (.type T) r) (hg : Gl S.X x) (hm : S.X.mg x = none) (hv : bootBuiltins x = some (.type T)) (h : JA' S (e :: es) t) (hn : x ≠ "__name__" := by decide) (hdb : (x == ("__debug__" : Str)) = false := by decide)
    (he : starEach (e :: es) S.X.env = (false, eval e S.X.env) :: starEach es S.X.env := by rfl) (hpl : (backTo pos (starEach es S.X.env)).any (·.1) = false := by rfl) : JE S (.Call (.Name x p) (e :: es) [] pos) (eCB r t) :=
  ⟨fun G H σ ρ Q R q => WX.of (pe_callTy call_sem hg hm hv pa_w hn hdb he hpl) (cb_run hc h R q)⟩
end

/-! ### a def's promise -/
/-- a def's end: it gives back a value, or an exception of the named class -/
inductive Out where
  | ret (d : D)
  | exn (C : Str)
abbrev MD := List D → (Out → Prop) → Prop
def spD (nm : Nm) (M : MD) : Sp := fun vs H Q E => ∃ (G : Hp) (ds : List D) (P : Out → Prop), Same G H ∧ Reps nm G vs ds ∧ M ds P ∧
  (∀ (G' H' : Hp) (v : V) (r : D), Ext H G H G' H' → RepV nm H G' H' v r → isBor r = false → P (.ret r) → Q v H') ∧
  (∀ (C : Str) (H' : Hp), Same H H' → P (.exn C) → E (.ref (nm.ad C)) none H')
mutual
def noLst : D → Bool
  | .lst _ => false
  | .own _ => false
  | .bor _ => false
  | .tup l => noLsts l
  | .scr _ => false
  | .ins _ _ l => noLsts l
  | .non => true
  | .bl _ => true
  | .int _ => true
  | .str _ => true
  | .exc _ => true
def noLsts : List D → Bool
  | [] => true
  | d :: ds => noLst d && noLsts ds
end
def retOk : D → Bool
  | .own l => noLsts l
  | d => noLst d
section
variable {nm : Nm} {G G' : Hp}
mutual
theorem Rep.cut (h : ∀ a o, G a = some o → (∀ l, o ≠ .lst l) → G' a = some o) : ∀ (d : D) (v : V), noLst d = true → Rep nm G v d → Rep nm G' v d
  | .non, _, _, r => by cases r; exact .non
  | .bl b, _, _, r => by cases r; exact .bl b
  | .int i, _, _, r => by cases r; exact .int i
  | .str x, _, _, r => by cases r; exact .str x
  | .tup ds, _, n, r => by
    cases r with
    | tup e q => exact .tup (h _ _ e (fun l z => by cases z)) (Reps.cut h ds _ n q)
  | .lst ds, _, n, r => by cases n
  | .scr ds, _, n, r => by cases n
  | .own _, _, _, r => by cases r
  | .bor _, _, _, r => by cases r
  | .ins C ns ds, _, n, r => by
    cases r with
    | ins e q => exact .ins (h _ _ e (fun l z => by cases z)) (Reps.cut h ds _ n q)
  | .exc C, _, _, r => by
    cases r with
    | exc e => exact .exc (h _ _ e (fun l z => by cases z))
theorem Reps.cut (h : ∀ a o, G a = some o → (∀ l, o ≠ .lst l) → G' a = some o) : ∀ (ds : List D) (vs : List V), noLsts ds = true → Reps nm G vs ds → Reps nm G' vs ds
  | [], _, _, r => by cases r; exact .nil
  | d :: ds, _, n, r => by
    have n' : noLst d = true ∧ noLsts ds = true := by
      have z : (noLst d && noLsts ds) = true := n
      simpa using z
    cases r with
    | cons e q => exact .cons (Rep.cut h d _ n'.1 e) (Reps.cut h ds _ n'.2 q)
end
end
/-- borrowed lists frozen for the time of a call -/
theorem RepA.lend {nm : Nm} {H : Hp} : ∀ {vs : List V} {ds : List D} {G : Hp}, RepA nm G H vs ds → Same G H →
    ∃ G1, Same G G1 ∧ Same G1 H ∧ Reps nm G1 vs (ds.map frz) ∧ (∀ a, G a = none → G1 a ≠ none → ∃ l, H a = some (.lst l)) ∧ (ds.any isBor = false → G1 = G)
  | _, _, G, .nil, gh => ⟨G, Same.refl G, gh, .nil, fun a h n => absurd h n, fun _ => rfl⟩
  | _, _, G, .cons (v := v) (d := d) r n q, gh => by
    cases d with
    | own l => cases n
    | bor l =>
      obtain ⟨p, ws, rfl, e1, n1, q1⟩ := r
      obtain ⟨G1, s1, t1, rs, fr, _⟩ := RepA.lend q gh
      by_cases hp : G1 p = none
      · have sm : Same G1 (upd G1 p (.lst ws)) := same_upd hp
        refine ⟨upd G1 p (.lst ws), s1.trans sm, fun b o eb => ?_, .cons (.lst upd_same ((q1.mono s1).mono sm)) (rs.mono sm), fun a h0 h1 => ?_, fun h => ?_⟩
        · by_cases hb : b = p
          · subst hb; rw [upd_same] at eb; cases eb; exact e1
          · rw [upd_ne hb] at eb; exact t1 _ _ eb
        · by_cases hb : a = p
          · subst hb; exact ⟨ws, e1⟩
          · rw [upd_ne hb] at h1; exact fr a h0 h1
        · simp [isBor] at h
      · obtain ⟨o, ho⟩ : ∃ o, G1 p = some o := by
          cases z : G1 p with
          | none => exact absurd z hp
          | some o => exact ⟨o, rfl⟩
        have e2 := t1 _ _ ho
        rw [e1] at e2
        cases e2
        exact ⟨G1, s1, t1, .cons (.lst ho (q1.mono s1)) rs, fr, fun h => by simp [isBor] at h⟩
    | _ =>
      obtain ⟨G1, s1, t1, rs, fr, fe⟩ := RepA.lend q gh
      refine ⟨G1, s1, t1, .cons (Rep.mono s1 _ _ r) rs, fr, fun h => fe ?_⟩
      rw [List.any_cons, Bool.or_eq_false_iff] at h
      exact h.2
/-- behind a call: what was lent is one's own again -/
theorem unlend {nm : Nm} {G G1 G4 H2 H4 H0 : Hp} {v : V} {r : D} (s0 : Same H0 H2) (s1 : Same G G1) (t1 : Same G1 H2) (fr : ∀ a, G a = none → G1 a ≠ none → ∃ l, H2 a = some (.lst l)) (x : Ext H2 G1 H2 G4 H4) (q : RepV nm H2 G4 H4 v r) (ok : retOk r = true) :
    ∃ G5, Ext H0 G H2 G5 H4 ∧ RepV nm H0 G5 H4 v r := by
  classical
  let G5 : Hp := fun a => if G a = none ∧ G1 a ≠ none then none else G4 a
  have g5 : ∀ a o, G5 a = some o → G4 a = some o := fun a o e => by
    show G4 a = some o
    have e' : (if G a = none ∧ G1 a ≠ none then none else G4 a) = some o := e
    split at e'
    · cases e'
    · exact e'
  have k5 : ∀ a, ¬ (G a = none ∧ G1 a ≠ none) → G5 a = G4 a := fun a h => if_neg h
  have z5 : ∀ a, G4 a = none → G5 a = none := fun a h => by
    show (if G a = none ∧ G1 a ≠ none then none else G4 a) = none
    split
    · rfl
    · exact h
  have cut : ∀ a o, G4 a = some o → (∀ l, o ≠ .lst l) → G5 a = some o := fun a o e nl => by
    rw [k5 a, e]
    rintro ⟨h1, h2⟩
    obtain ⟨l, hl⟩ := fr a h1 h2
    have := x.gh a o e
    rw [x.h a _ hl] at this
    cases this
    exact nl l rfl
  refine ⟨G5, ⟨fun b o e => ?_, x.h, fun b o e => x.gh b o (g5 b o e), fun a ea na => ?_⟩, ?_⟩
  · rw [k5 b (fun h => by rw [e] at h; cases h.1)]
    exact x.g b o (s1 b o e)
  · by_cases h : G1 a = none
    · refine z5 a (x.new a h (fun z => na ?_))
      exact s0.free z
    · exact if_pos ⟨ea, h⟩
  · cases r with
    | own l =>
      obtain ⟨p, vs, rfl, e1, n1, n2, rs⟩ := q
      exact ⟨p, vs, rfl, e1, z5 p n1, s0.free n2, Reps.cut cut l vs ok rs⟩
    | bor l => cases ok
    | _ => exact Rep.cut cut _ _ ok q

/-- what is wished of an exception is granted -/
def JX (S : Sit) : Prop := ∃ W : L2.WX, Takes S.X W ∧ ∀ (G H : Hp) (σ : L2.St) (ρ : Env) (C : Str), S.Rel G H σ ρ → S.ex C ρ → W (.ref (S.nm.ad C)) none σ H
/-- the whole: program, world, written part, module names, base, classes -/
structure Gm where
  P : Program
  w : World
  K : PySem.W.Frag
  mg : Str → Option Value
  base : Heap
  nm : Nm
  kk : nm.K = K
abbrev Sit.gm (S : Sit) : Gm := ⟨S.X.prog, S.X.w, S.X.K, S.X.mg, S.X.base, S.nm, S.kk⟩
structure Cal (Γ : Gm) (k : Nat) (x : Str) (n : Nat) (M : MD) : Prop where
  ex : ∃ (f : Addr) (fd : FuncData) (ps : List Str), ps.length = n ∧ FnOk Γ.P Γ.w Γ.K Γ.mg Γ.base (L2.CX Γ.P Γ.w) k f fd ps (spD Γ.nm M) ∧ Γ.mg x = some (.ref f) ∧ PySem.W.keepIn Γ.K (.ref f) = true ∧ Binds Γ.K fd ps []
theorem Cal.mono {Γ : Gm} {j k : Nat} {x : Str} {n : Nat} {M : MD} (h : Cal Γ j x n M) (l : j ≤ k) : Cal Γ k x n M := by
  obtain ⟨f, fd, ps, h1, h2, h3⟩ := h.ex
  exact ⟨f, fd, ps, h1, h2.mono l, h3⟩
abbrev TX := Str → Env → Prop
def oCall (ex : TX) (ρ : Env) (ds : List D) (M : MD) (Q : D → Prop) : Prop := M (ds.map frz) fun out => match out with
  | .ret r => (ds.any isBor = true → retOk r = true) ∧ Q r
  | .exn C => ex C ρ
def eCall (ex : TX) (M : MD) (t : TDs) : TD := fun ρ Q => t ρ fun ds => oCall ex ρ ds M Q
/-- the callee's promise, from the values -/
theorem sp_of {S : Sit} {M : MD} {W : L2.WX} (hW : ∀ (G H : Hp) (σ : L2.St) (ρ : Env) (C : Str), S.Rel G H σ ρ → S.ex C ρ → W (.ref (S.nm.ad C)) none σ H) {H0 G H : Hp} {σ : L2.St} {ρ : Env} {vs : List V} {ds : List D} {Q : D → Prop}
    (R : S.Rel G H σ ρ) (s0 : Same H0 H) (ra : RepA S.nm G H vs ds) (q : oCall S.ex ρ ds M Q) :
    spD S.nm M vs H (fun v H' => ∃ G' d, Ext H0 G H G' H' ∧ RepV S.nm H0 G' H' v d ∧ Q d) (WE W σ) := by
  obtain ⟨G1, s1, t1, rs, fr, fe⟩ := ra.lend R.gh
  refine ⟨G1, _, _, t1, rs, q, fun G' H' v r x rv nb pr => ?_, fun C H' sm pe => ?_⟩
  · cases hb : ds.any isBor with
    | true =>
      obtain ⟨G5, x5, r5⟩ := unlend s0 s1 t1 fr x rv (pr.1 hb)
      exact ⟨G5, r, x5, r5, pr.2⟩
    | false =>
      have e := fe hb
      subst e
      exact ⟨G', r, Ext.from s0 x, rv.from s0, pr.2⟩
  · exact hW G H' σ ρ C (R.go (Ext.grow R.gh sm)) pe
section
variable {S : Sit} {o e : Expr} {es : List Expr} {pos p apos : Pos} {t : TDs} {M : MD} {k n : Nat} {x m : Str}
theorem je_call {Γ : Gm} (jx : JX S) (F : Cal Γ k x n M) (hr : Room k S.X.A) (hg : Gl S.X x) (h : JA' S (e :: es) t) (hdb : (x == ("__debug__" : Str)) = false := by decide)
    (he : starEach (e :: es) S.X.env = (false, eval e S.X.env) :: starEach es S.X.env := by rfl) (hpl : (backTo pos (starEach es S.X.env)).any (·.1) = false := by rfl) (hG : S.gm = Γ := by rfl) : JE S (.Call (.Name x p) (e :: es) [] pos) (eCall S.ex M t) := by
  subst hG
  obtain ⟨W, tk, hW⟩ := jx
  obtain ⟨f, fd, ps, _, F, hm, hk, hb⟩ := F.ex
  refine ⟨fun G H σ ρ Q R q => WX.of (pe_callS F hr hg hm hk hb (fun σ => passAt tk σ) pa_w hdb he hpl) ?_⟩
  refine (h.run G H σ ρ _ R q).mono fun vs H1 ⟨G1, ds, x1, r1, q1⟩ => ?_
  have z := sp_of hW (R.go x1) x1.h r1 q1
  obtain ⟨G2, ds2, P2, a1, a2, a3, a4, a5⟩ := z
  refine ⟨G2, ds2, P2, a1, a2, a3, fun G' H' v r y1 y2 y3 y4 => ?_, a5⟩
  obtain ⟨G3, d, x3, r3, q3⟩ := a4 G' H' v r y1 y2 y3 y4
  exact ⟨G3, d, x1.trans x3, r3, q3⟩

/-- o.m(..) with an exception's wish by the slots -/
def tMethS (C : Addr) (m : Str) (sp : Sp) (E : L2.St → XK) (ta : TE) (t : TA) : TE := fun σ H Q => ta σ H fun x H1 => ∃ a dx fs, x = .ref a ∧ H1 a = some (.ins C dx fs) ∧ fs.lookup m = none ∧ t σ H1 fun vs H2 => sp (x :: vs) H2 Q (E σ)
theorem pe_methS {X : Cx} {C f : Addr} {fd : FuncData} {ps : List Str} {sp : Sp} {CX : CXT} {E : L2.St → XK} {ta : TE} {t : TA} {pl : Sem Bool} (he : PE X o ta) (c : Cls X.K C) (hm : Meth X.K C m f) (F : FnOk X.prog X.w X.K X.mg X.base CX k f fd ps sp) (hr : Room k X.A) (hb : Binds X.K fd ps []) (hx : ∀ σ, PassesAt CX X σ (E σ)) (ha : PA X (e :: es) t)
    (hst : starEach (e :: es) X.env = (false, eval e X.env) :: starEach es X.env := by rfl) (hpl : (backTo pos (starEach es X.env)).any (·.1) = false := by rfl)
    (ht : eval (.Call (.Attribute o m apos) (e :: es) [] pos) X.env = (do
      let ov ← eval o X.env
      standAt apos.atName
      let (f, first) ← holding [ov] (getMethod ov m pl)
      callWith pos f first (backTo pos (starEach (e :: es) X.env)) (backToKw pos (keywordEach [] X.env))) := by rfl) :
    PE X (.Call (.Attribute o m apos) (e :: es) [] pos) (tMethS C m sp E ta t) := by
  refine ⟨fun pins s σ H Q I h => ?_⟩
  refine PySem.W.methodCall_KW (pl := pl) (thn (he.run pins s σ H _ I h) fun u s1 ⟨x, H1, I1, rx, a, dx, fs, ex, ea, l, q⟩ => ?_) ht
  subst ex
  obtain rfl : u = Value.ref a := rx
  refine getmeth_ok I1 ea c hm l ?_
  refine PySem.W.callWith_K (first := [.ref a]) (h₀ := X.base) I.ok.mod.kin hm.kp (thn (ha.run pos pins s1 σ H1 _ I1 q) fun us s2 ⟨vs, H2, I2, r, q2⟩ => ⟨I2.kIn, ?_⟩) hst hpl
  exact run_fnS (us := .ref a :: us) (vs := .ref a :: vs) F hr hb (hx σ) I2 (.cons rfl r) q2
/-- a method of the class named C -/
structure CalM (Γ : Gm) (k : Nat) (C m : Str) (n : Nat) (M : MD) : Prop where
  ex : ∃ (f : Addr) (fd : FuncData) (ps : List Str), ps.length = n ∧ FnOk Γ.P Γ.w Γ.K Γ.mg Γ.base (L2.CX Γ.P Γ.w) k f fd ps (spD Γ.nm M) ∧ Cls Γ.K (Γ.nm.ad C) ∧ Meth Γ.K (Γ.nm.ad C) m f ∧ Binds Γ.K fd ps []
theorem CalM.mono {Γ : Gm} {j k : Nat} {C m : Str} {n : Nat} {M : MD} (h : CalM Γ j C m n M) (l : j ≤ k) : CalM Γ k C m n M := by
  obtain ⟨f, fd, ps, h1, h2, h3⟩ := h.ex
  exact ⟨f, fd, ps, h1, h2.mono l, h3⟩
theorem lookup_zip_none {m : Str} : ∀ {ns : List Str} {vs : List V}, m ∉ ns → (ns.zip vs).lookup m = none
  | [], _, _ => rfl
  | _ :: _, [], _ => rfl
  | n :: ns, v :: vs, h => by
    rw [List.zip_cons_cons, List.lookup_cons, beq_eq_false_iff_ne.mpr (fun z => h (by rw [z]; exact List.mem_cons_self))]
    exact lookup_zip_none fun z => h (List.mem_cons_of_mem _ z)
/-- the receiver stands in slot i -/
def eMeth (Γ : Gm) (ex : TX) (k : Nat) (i : Nat) (m : Str) (n : Nat) (t : TDs) : TD := fun ρ Q => ∃ C ns fs M, ρ[i]? = some (some (.ins C ns fs)) ∧ m ∉ ns ∧ CalM Γ k C m n M ∧ t ρ fun ds => oCall ex ρ (.ins C ns fs :: ds) M Q
theorem je_meth (Γ : Gm) (n : Nat) (jx : JX S) (hr : Room k S.X.A) {i : Nat} {y : Str} {py : Pos} {pl : Sem Bool} (ho : PE S.X (.Name y py) (tVar i)) (h : JA' S (e :: es) t)
    (hst : starEach (e :: es) S.X.env = (false, eval e S.X.env) :: starEach es S.X.env := by rfl) (hpl : (backTo pos (starEach es S.X.env)).any (·.1) = false := by rfl)
    (ht : eval (.Call (.Attribute (.Name y py) m apos) (e :: es) [] pos) S.X.env = (do
      let ov ← eval (.Name y py) S.X.env
      standAt apos.atName
      let (f, first) ← holding [ov] (getMethod ov m pl)
      callWith pos f first (backTo pos (starEach (e :: es) S.X.env)) (backToKw pos (keywordEach [] S.X.env))) := by rfl) (hG : S.gm = Γ := by rfl) :
    JE S (.Call (.Attribute (.Name y py) m apos) (e :: es) [] pos) (eMeth Γ S.ex k i m n t) := by
  subst hG
  obtain ⟨W, tk, hW⟩ := jx
  refine ⟨fun G H σ ρ Q R q => ?_⟩
  obtain ⟨C, ns, fs, M, e0, hn, F, q⟩ := q
  obtain ⟨f, fd, ps, _, F, hc, hm, hb⟩ := F.ex
  refine WX.of (pe_methS ho hc hm F hr hb (fun σ => passAt tk σ) pa_w hst hpl ht) ?_
  obtain ⟨v, h1, h2, _⟩ := R.slot i _ e0
  have h2' : Rep S.nm G v (.ins C ns fs) := h2
  refine ⟨v, h1, ?_⟩
  cases h2' with
  | ins ea ra =>
    refine ⟨_, _, _, rfl, R.gh _ _ ea, lookup_zip_none hn, ?_⟩
    refine (h.run G H σ ρ _ R q).mono fun vs H1 ⟨G1, ds, x1, r1, q1⟩ => ?_
    have z := sp_of hW (R.go x1) x1.h (.cons (.of (.ins (x1.g _ _ ea) (ra.mono x1.g))) rfl r1) q1
    obtain ⟨G2, ds2, P2, a1, a2, a3, a4, a5⟩ := z
    refine ⟨G2, ds2, P2, a1, a2, a3, fun G' H' v r y1 y2 y3 y4 => ?_, a5⟩
    obtain ⟨G3, d, x3, r3, q3⟩ := a4 G' H' v r y1 y2 y3 y4
    exact ⟨G3, d, x1.trans x3, r3, q3⟩
/-- a field -/
def fldOf : List Str → List D → Str → Option D
  | n :: ns, d :: ds, f => if f = n then some d else fldOf ns ds f
  | _, _, _ => none
theorem fld_get {nm : Nm} {G : Hp} {f : Str} : ∀ {ns : List Str} {vs : List V} {ds : List D} {d : D}, Reps nm G vs ds → fldOf ns ds f = some d → ∃ v, (ns.zip vs).lookup f = some v ∧ Rep nm G v d
  | [], _, _, _, _, h => by simp [fldOf] at h
  | _ :: _, _, _, _, .nil, h => by simp [fldOf] at h
  | n :: ns, _, _, _, .cons (v := v) (vs := vs) r q, h => by
    unfold fldOf at h
    split at h
    · rename_i e
      cases h
      subst e
      exact ⟨v, by rw [List.zip_cons_cons, List.lookup_cons_self], r⟩
    · rename_i e
      obtain ⟨u, h1, h2⟩ := fld_get q h
      exact ⟨u, by rw [List.zip_cons_cons, List.lookup_cons, beq_eq_false_iff_ne.mpr e]; exact h1, h2⟩
def FldOk (K : PySem.W.Frag) (nm : Nm) (C f : Str) : Prop := Cls K (nm.ad C) ∧ NoAttr K (nm.ad C) f
def eFld (Γ : Gm) (τ : TD) (f : Str) : TD := fun ρ Q => τ ρ fun d => match d with
  | .ins C ns fs => FldOk Γ.K Γ.nm C f ∧ ∃ x, fldOf ns fs f = some x ∧ Q x
  | _ => False
theorem je_fld (Γ : Gm) {τ : TD} {f : Str} (ho : JE S o τ) (hb : attributeBase o f S.X.env (eval o S.X.env) = eval o S.X.env := by rfl) (hG : S.gm = Γ := by rfl) : JE S (.Attribute o f pos) (eFld Γ τ f) := by
  subst hG
  refine ⟨fun G H σ ρ Q R q => WX.of (pe_fld pe_w hb) ((ho.run G H σ ρ _ R q).mono fun v H1 ⟨G1, d, x1, r1, q1⟩ => ?_)⟩
  cases d with
  | ins C ns fs =>
    obtain ⟨⟨hc, ha⟩, q1⟩ := q1
    have r1' : Rep S.nm G1 v (.ins C ns fs) := r1
    cases r1' with
    | ins ea ra =>
      obtain ⟨d, e, q1⟩ := q1
      obtain ⟨u, h1, h2⟩ := fld_get ra e
      exact ⟨_, _, _, _, u, rfl, x1.gh _ _ ea, hc, ha, h1, G1, d, x1, .of h2, q1⟩
  | _ => exact q1.elim
end
end DD

set_option Elab.async false
set_option linter.all false
set_option maxRecDepth 100000
set_option maxHeartbeats 1000000
namespace DD
open PySem PySem.Spec PyProof.Rows L2

/-! ### targets -/
section
variable {S : Sit} {a b c e : Expr} {es : List Expr} {pos : Pos} {τa τb τc : TD} {st : Stmt} {sts : List Stmt} {t u : TDS}
def gN (i : Nat) : TDG := fun d ρ Q => isBor d = false ∧ Nx Q (put ρ i (some d))
theorem jg_name {i : Nat} {x : Str} (hN : S.X.N.Nodup) (hi : S.X.N[i]? = some x) (hx : Loc S.X.env.scope x) (hf : S.X.fn x = true ∨ S.X.env.scope.names.lookup x = some .local := by first | exact .inl rfl | exact .inr rfl | assumption) : JG S (.Name x pos) (gN i) := by
  refine ⟨fun G0 H0 G H σ ρ v d Q R x0 r h => ?_⟩
  intro pins s u I rv
  refine (pg_name hN hi hx hf).run pins s σ H v u _ I rv ?_
  exact ⟨G, _, R.set i x0 r h.1, Same.refl G, h.2.getS⟩
def gTup (t : TDGs) : TDG := fun d ρ Q => match d with
  | .tup ds => t ds ρ Q
  | _ => False
def gtNil : TDGs := fun ds ρ Q => match ds with
  | [] => Q ρ
  | _ => False
def gtCons (g : TDG) (t : TDGs) : TDGs := fun ds ρ Q => match ds with
  | d :: ds => g d ρ fun ρ2 => t ds ρ2 Q
  | _ => False
theorem jgs_nil : JGs S [] gtNil := by
  refine ⟨fun G H σ ρ vs ds Q R r h => ?_⟩
  cases r with
  | nil =>
    intro pins s us I rv
    exact pgs_nil.run pins s σ H [] us _ I rv ⟨rfl, G, ρ, R, Same.refl G, h⟩
  | cons _ _ => exact h.elim
theorem jgs_cons {g : TDG} {t : TDGs} (h1 : JG S e g) (h2 : JGs S es t) (hs : (assignEach (e :: es) S.X.env).map (·.2) = assign e S.X.env :: (assignEach es S.X.env).map (·.2) := by rfl) : JGs S (e :: es) (gtCons g t) := by
  refine ⟨fun G H σ ρ vs ds Q R r h => ?_⟩
  cases r with
  | nil => exact h.elim
  | cons r rs =>
    rename_i v vs d ds
    intro pins s us I rv
    refine (pgs_cons pg_w pgs_w hs).run pins s σ H (v :: vs) us _ I rv ⟨v, vs, rfl, ?_⟩
    refine (h1.run G H G H σ ρ v d _ R (Ext.refl R.gh) (.of r) h).mono fun σ' H' ⟨G', ρ', R', sg, q'⟩ => ?_
    exact (h2.run G' H' σ' ρ' vs ds Q R' (rs.mono sg) q').mono fun σ2 H2 ⟨G2, ρ2, R2, sg2, q2⟩ => ⟨G2, ρ2, R2, sg.trans sg2, q2⟩
/-- (a, b) = a tuple -/
theorem jg_tup {k : Nat} {t : TDGs} {n : Nat} (hc : S.X.calm = true) (h : JGs S es t)
    (hn : (assignEach es S.X.env).length = n := by rfl) (hst : (assignEach es S.X.env).findIdx? (·.1) = none := by rfl) : JG S (.Tuple es k pos) (fun d ρ Q => match d with
  | .tup ds => ds.length = n ∧ t ds ρ Q
  | _ => False) := by
  refine ⟨fun G0 H0 G H σ ρ v d Q R x0 r h' => ?_⟩
  cases d with
  | tup ds =>
    have r' : Rep S.nm G v (.tup ds) := r
    cases r' with
    | tup e rs =>
      intro pins s u I rv
      refine (pg_tup hc pgs_w hn hst).run pins s σ H _ u _ I rv ⟨_, _, rfl, .inl (.inl (x0.gh _ _ e)), rs.length.trans h'.1, ?_⟩
      exact h.run G H σ ρ _ ds Q (R.go x0) rs h'.2
  | _ => exact h'.elim

/-! ### statements -/
theorem WS.lift {G1 G H : Hp} {σ : L2.St} {E : DE} (sg : Same G G1) (h : WS S.X st (lift S G1 E) σ H) : WS S.X st (lift S G E) σ H :=
  h.mono (fun _ _ ⟨G', ρ', R', s', q⟩ => ⟨G', ρ', R', sg.trans s', q⟩) (fun _ _ q => q) (fun _ _ ⟨G', ρ', R', s', q⟩ => ⟨G', ρ', R', sg.trans s', q⟩) fun _ _ ⟨G', ρ', R', s', q⟩ => ⟨G', ρ', R', sg.trans s', q⟩
theorem WSs.lift {G1 G H : Hp} {σ : L2.St} {E : DE} (sg : Same G G1) (h : WSs S.X sts (lift S G1 E) σ H) : WSs S.X sts (lift S G E) σ H :=
  h.mono (fun _ _ ⟨G', ρ', R', s', q⟩ => ⟨G', ρ', R', sg.trans s', q⟩) (fun _ _ q => q) (fun _ _ ⟨G', ρ', R', s', q⟩ => ⟨G', ρ', R', sg.trans s', q⟩) fun _ _ ⟨G', ρ', R', s', q⟩ => ⟨G', ρ', R', sg.trans s', q⟩
def dNext : TDS := fun E ρ => E.nx ρ
def dSeq (t u : TDS) : TDS := fun E ρ => t { E with nx := u E } ρ
theorem jss_nil : JSs S [] dNext := ⟨fun G H σ ρ E R h => WSs.of pss_nil ⟨G, ρ, R, Same.refl G, h⟩⟩
theorem jss_cons (h1 : JS S st t) (h2 : JSs S sts u) : JSs S (st :: sts) (dSeq t u) := by
  refine ⟨fun G H σ ρ E R h => WSs.of (pss_cons ps_w pss_w) ?_⟩
  refine (h1.run G H σ ρ _ R h).mono (fun σ' H' ⟨G', ρ', R', sg, q⟩ => ?_) (fun _ _ q => q) (fun _ _ q => q) fun _ _ q => q
  exact (h2.run G' H' σ' ρ' E R' q).lift sg
theorem jss_one (h1 : JS S st t) : JSs S [st] t := ⟨fun G H σ ρ E R h => WSs.of (pss_one ps_w) (h1.run G H σ ρ E R h)⟩
theorem js_pass : JS S (.Pass pos) dNext := ⟨fun G H σ ρ E R h => WS.of ps_pass ⟨G, ρ, R, Same.refl G, h⟩⟩
theorem js_break : JS S (.Break pos) (fun E ρ => E.bk ρ) := ⟨fun G H σ ρ E R h => WS.of ps_break ⟨G, ρ, R, Same.refl G, h⟩⟩
theorem js_cont : JS S (.Continue pos) (fun E ρ => E.ct ρ) := ⟨fun G H σ ρ E R h => WS.of ps_continue ⟨G, ρ, R, Same.refl G, h⟩⟩
def dNever : TDS := fun _ _ => False
theorem js_never : JS S st dNever := ⟨fun _ _ _ _ _ _ h => h.elim⟩
theorem jss_never : JSs S sts dNever := ⟨fun _ _ _ _ _ _ h => h.elim⟩
def dIf (tc : TDt) (t u : TDS) : TDS := fun E ρ => tc ρ fun b => (b = true → t E ρ) ∧ (b = false → u E ρ)
theorem js_if {tc : TDt} {s1 s2 : List Stmt} (hc : JT S c tc) (h1 : JSs S s1 t) (h2 : JSs S s2 u) : JS S (.If c s1 s2 pos) (dIf tc t u) := by
  refine ⟨fun G H σ ρ E R h => WS.of (ps_if pt_w pss_w pss_w) ((hc.run G H σ ρ _ R h).mono fun b H1 ⟨G1, x1, q1⟩ => ?_)⟩
  cases b with
  | true => exact (h1.run G1 H1 σ ρ E (R.go x1) (q1.1 rfl)).lift x1.g
  | false => exact (h2.run G1 H1 σ ρ E (R.go x1) (q1.2 rfl)).lift x1.g
def dRet (τ : TD) : TDS := fun E ρ => τ ρ fun d => isBor d = false ∧ E.rt d
theorem js_ret (he : JE S e τa) : JS S (.Return (some e) pos) (dRet τa) := by
  refine ⟨fun G H σ ρ E R h => WS.of (ps_ret pe_w) ((he.run G H σ ρ _ R h).mono fun v H1 ⟨G1, d, x1, r1, nb, q1⟩ => ?_)⟩
  exact ⟨G1, d, (R.go x1).ext, r1.from R.bh, nb, q1⟩
theorem js_retN : JS S (.Return none pos) (fun E _ => E.rt .non) := ⟨fun G H σ ρ E R h => WS.of ps_retN ⟨G, .non, R.ext, .of .non, rfl, h⟩⟩
/-- return x: what is one's own is given away -/
def dRetV (i : Nat) : TDS := fun E ρ => match ρ[i]? with
  | some (some d) => E.rt d
  | _ => False
theorem js_retv (i : Nat) {x : Str} {p : Pos} (ho : PE S.X (.Name x p) (tVar i)) : JS S (.Return (some (.Name x p)) pos) (dRetV i) := by
  refine ⟨fun G H σ ρ E R h => WS.of (ps_ret ho) ?_⟩
  unfold dRetV at h
  split at h
  · rename_i d e
    obtain ⟨v, h1, h2, h3⟩ := R.slot i _ e
    exact ⟨v, h1, G, d, R.ext, h2, h3, h⟩
  · exact h.elim
def dDrop (τ : TD) : TDS := fun E ρ => τ ρ fun _ => E.nx ρ
theorem js_expr (he : JE S e τa) (hs : swapsWith e none pos.line S.X.env = pure false := by rfl) : JS S (.Expr e pos) (dDrop τa) := by
  refine ⟨fun G H σ ρ E R h => WS.of (ps_expr pe_w hs) ((he.run G H σ ρ _ R h).mono fun v H1 ⟨G1, d, x1, r1, q1⟩ => ?_)⟩
  exact ⟨G1, ρ, R.go x1, x1.g, q1⟩
theorem js_doc {x j} {pos' : Pos} : JS S (.Expr (.Constant (.str x) j pos) pos') dNext := ⟨fun G H σ ρ E R h => WS.of ps_doc ⟨G, ρ, R, Same.refl G, h⟩⟩
def dAsg (τ : TD) (g : TDG) : TDS := fun E ρ => τ ρ fun d => g d ρ E.nx
theorem js_asg {tg : Expr} {g : TDG} (he : JE S e τa) (hg : JG S tg g) (hs : swapsWithSole [tg] e pos.line S.X.env = pure false := by rfl) (hw : swappedStores [tg] e S.X.env = pure none := by rfl)
    (h1 : (assignEach [tg] S.X.env).map (·.2) = [assign tg S.X.env] := by rfl) : JS S (.Assign [tg] e pos) (dAsg τa g) := by
  refine ⟨fun G H σ ρ E R h => WS.of (ps_asg pe_w pg_w hs hw h1) ((he.run G H σ ρ _ R h).mono fun v H1 ⟨G1, d, x1, r1, q1⟩ => ?_)⟩
  exact (hg.run G H G1 H1 σ ρ v d _ R x1 r1 q1).mono fun σ' H' ⟨G', ρ', R', sg, q'⟩ => ⟨G', ρ', R', x1.g.trans sg, q'⟩
def dSet (i : Nat) (τ : TD) : TDS := fun E ρ => τ ρ fun d => isBor d = false ∧ Nx E.nx (put ρ i (some d))
theorem js_set {i : Nat} {x : Str} {pos' : Pos} (hN : S.X.N.Nodup) (hi : S.X.N[i]? = some x) (hx : Loc S.X.env.scope x) (he : JE S e τa) (hs : swapsWith e (some (.Name x pos')) pos.line S.X.env = pure false := by rfl) (hf : S.X.fn x = true ∨ S.X.env.scope.names.lookup x = some .local := by first | exact .inl rfl | exact .inr rfl | assumption) :
    JS S (.Assign [.Name x pos'] e pos) (dSet i τa) := by
  refine ⟨fun G H σ ρ E R h => WS.of (ps_set hN hi hx pe_w hs hf) ((he.run G H σ ρ _ R h).mono fun v H1 ⟨G1, d, x1, r1, nb, q1⟩ => ?_)⟩
  exact ⟨G1, _, R.set i x1 r1 nb, x1.g, q1.getS⟩
/-- a, b = x, y with plain local names -/
def dPar (i j : Nat) (t : TDs) : TDS := fun E ρ => t ρ fun ds => match ds with
  | [d, e] => isBor d = false ∧ isBor e = false ∧ Nx (fun ρ1 => Nx E.nx (put ρ1 j (some e))) (put ρ i (some d))
  | _ => False
theorem js_par {i j : Nat} {x y : Str} {px py pt : Pos} {kt k2 pt2} {t : TDs} (hc : S.X.calm = true) (hN : S.X.N.Nodup) (hi : S.X.N[i]? = some x) (hj : S.X.N[j]? = some y) (hij : i ≠ j)
    (hx : S.X.env.scope.names.lookup x = some .local) (hy : S.X.env.scope.names.lookup y = some .local) (ha : JA' S [a, b] t)
    (hw : swappedStores [.Tuple [.Name x px, .Name y py] kt pt] (.Tuple [a, b] k2 pt2) S.X.env = pure (some [x, y]) := by rfl)
    (hs : swapsWithSole [.Tuple [.Name x px, .Name y py] kt pt] (.Tuple [a, b] k2 pt2) pos.line S.X.env = pure false := by rfl) :
    JS S (.Assign [.Tuple [.Name x px, .Name y py] kt pt] (.Tuple [a, b] k2 pt2) pos) (dPar i j t) := by
  refine ⟨fun G H σ ρ E R h => WS.of (ps_par hc hN hi hj hij hx hy pa_w hw hs) ((ha.run G H σ ρ _ R h).mono fun vs H1 ⟨G1, ds, x1, r1, q1⟩ => ?_)⟩
  cases r1 with
  | nil => exact q1.elim
  | cons ra na r1 =>
    cases r1 with
    | nil => exact q1.elim
    | cons rb nb r1 =>
      cases r1 with
      | cons _ _ _ => exact q1.elim
      | nil =>
        obtain ⟨b1, b2, q1⟩ := q1
        have R1 := R.set i x1 (repV_noOwn ra na) b1
        exact ⟨_, _, rfl, G1, _, R1.set j (Ext.refl x1.gh) (repV_noOwn rb nb) b2, x1.g, q1.getS.getS⟩
/-- name op= e -/
def dAug (i : Nat) (τ : TD) (r : RD2) : TDS := fun E ρ => match ρ[i]? with
  | some (some d) => flat1 d = true ∧ τ ρ fun e => r d e fun z => isBor z = false ∧ Nx E.nx (put ρ i (some z))
  | _ => False
theorem js_aug {i : Nat} {x : Str} {op : Operator} {r : RD2} {pos' : Pos} (hN : S.X.N.Nodup) (hi : S.X.N[i]? = some x) (hx : Loc S.X.env.scope x) (he : JE S e τa) (ho : DOp S (inplaceOp op) r) (hf : S.X.fn x = true ∨ S.X.env.scope.names.lookup x = some .local := by first | exact .inl rfl | exact .inr rfl | assumption) :
    JS S (.AugAssign (.Name x pos') op e pos) (dAug i τa r) := by
  refine ⟨fun G H σ ρ E R h => ?_⟩
  have hp : PIp S.X op (rSem S.X (inplaceOp op)) := fun pins s σ H x y v u Q I rx ry q => q pins s σ v u I rx ry
  refine WS.of (ps_aug hN hi hx pe_w hp hf) ?_
  unfold dAug at h
  split at h
  · rename_i d ed
    obtain ⟨fd, h⟩ := h
    obtain ⟨v, h1, h2, h3⟩ := R.slot i _ ed
    refine ⟨v, h1, (he.run G H σ ρ _ R h).mono fun y H1 ⟨G1, e1, x1, r1, q1⟩ => ?_⟩
    intro pins s σ' v' u I rv ru
    have rd : RepV S.nm H G H v d := by
      cases d with
      | own l => cases fd
      | bor l => cases fd
      | _ => exact h2
    refine thn (ho H G1 H1 v y d e1 _ x1.h x1.gh (rd.ext x1) r1 q1 pins s σ' v' u I rv ru) fun z s' ⟨w, H3, I3, rz, G3, d3, x3, r3, nb, q3⟩ => ?_
    exact ⟨w, H3, I3, rz, G3, _, R.set i (x1.trans x3) r3 nb, x1.g.trans x3.g, q3.getS⟩
  · exact h.elim
/-- a list of one's own frozen ahead of a statement -/
def frzAt (i : Nat) (ρ : Env) : Env := match ρ[i]? with
  | some (some (.own l)) => ρ.set i (some (.lst l))
  | _ => ρ
theorem Rel.frzAt {nm : Nm} {G0 B G H : Hp} {σ : L2.St} {ρ : Env} (R : DD.Rel nm G0 B G H σ ρ) (i : Nat) : ∃ G', Same G G' ∧ DD.Rel nm G0 B G' H σ (DD.frzAt i ρ) := by
  unfold DD.frzAt
  split
  · rename_i l e
    obtain ⟨v, h1, h2, h3⟩ := R.slot i _ e
    obtain ⟨p, vs, rfl, g1, g2, g3, g4⟩ := h2
    have sm : Same G (upd G p (.lst vs)) := same_upd g2
    have hi : i < ρ.length := by
      by_cases hi : i < ρ.length
      · exact hi
      · rw [List.getElem?_eq_none (by simpa using hi)] at e; cases e
    refine ⟨upd G p (.lst vs), sm, ⟨R.ext.trans ⟨sm, Same.refl H, fun b o eb => ?_, fun a ea na => ?_⟩, by rw [List.length_set]; exact R.len, fun j d ej => ?_, fun j k l1 l2 q hj hk hjk e1 e2 => ?_⟩⟩
    · by_cases hb : b = p
      · subst hb; rw [upd_same] at eb; cases eb; exact g1
      · rw [upd_ne hb] at eb; exact R.gh _ _ eb
    · rw [upd_ne (fun z => na (by rw [z]; exact g3))]; exact ea
    · by_cases hij : i = j
      · subst hij
        rw [List.getElem?_set_self hi] at ej
        cases ej
        exact ⟨_, h1, .of (.lst upd_same (g4.mono sm)), rfl⟩
      · rw [List.getElem?_set_ne hij] at ej
        obtain ⟨u, k1, k2, k3⟩ := R.slot j d ej
        refine ⟨u, k1, ?_, k3⟩
        cases d with
        | own l' =>
          obtain ⟨p', vs', rfl, a1, a2, a3, a4⟩ := k2
          have np : p' ≠ p := fun z => R.apart i j l l' p e ej hij h1 (by rw [← z]; exact k1)
          exact ⟨p', vs', rfl, a1, by rw [upd_ne np]; exact a2, a3, a4.mono sm⟩
        | bor l' => cases k3
        | _ => exact Rep.mono sm _ _ k2
    · have nj : ∀ (m : Nat) (l' : List D), (ρ.set i (some (D.lst l)))[m]? = some (some (.own l')) → ρ[m]? = some (some (.own l')) := fun m l' em => by
        by_cases him : i = m
        · subst him
          rw [List.getElem?_set_self hi] at em; cases em
        · rw [List.getElem?_set_ne him] at em; exact em
      exact R.apart j k l1 l2 q (nj j l1 hj) (nj k l2 hk) hjk e1 e2
  · exact ⟨G, Same.refl G, R⟩
theorem js_frz (i : Nat) (h : JS S st t) : JS S st (fun E ρ => t E (frzAt i ρ)) := by
  refine ⟨fun G H σ ρ E R q => ?_⟩
  obtain ⟨G', sg, R'⟩ := R.frzAt i
  exact (h.run G' H σ _ E R' q).lift sg
/-- what is one's own is changed -/
theorem Rel.mutate {nm : Nm} {G0 B G H : Hp} {σ : L2.St} {ρ : Env} (R : DD.Rel nm G0 B G H σ ρ) {i : Nat} {l l' : List D} {p : Addr} {vs' : List V} (e : ρ[i]? = some (some (.own l))) (es : σ[i]? = some (some (.ref p))) (q : Reps nm G vs' l') :
    DD.Rel nm G0 B G (upd H p (.lst vs')) σ (ρ.set i (some (.own l'))) := by
  obtain ⟨v, h1, h2, h3⟩ := R.slot i _ e
  rw [es] at h1
  cases h1
  obtain ⟨p', vs, ep, g1, g2, g3, g4⟩ := h2
  cases ep
  have hi : i < ρ.length := by
    by_cases hi : i < ρ.length
    · exact hi
    · rw [List.getElem?_eq_none (by simpa using hi)] at e; cases e
  refine ⟨⟨R.ext.g, fun b o eb => ?_, fun b o eb => ?_, R.ext.new⟩, by rw [List.length_set]; exact R.len, fun j d ej => ?_, fun j k l1 l2 q hj hk hjk e1 e2 => ?_⟩
  · rw [upd_ne (ne_of_none eb g3)]; exact R.bh _ _ eb
  · rw [upd_ne (ne_of_none eb g2)]; exact R.gh _ _ eb
  · by_cases hij : i = j
    · subst hij
      rw [List.getElem?_set_self hi] at ej
      cases ej
      exact ⟨_, es, ⟨p, vs', rfl, upd_same, g2, g3, q⟩, rfl⟩
    · rw [List.getElem?_set_ne hij] at ej
      obtain ⟨u, k1, k2, k3⟩ := R.slot j d ej
      refine ⟨u, k1, ?_, k3⟩
      cases d with
      | own l2 =>
        obtain ⟨p2, vs2, rfl, a1, a2, a3, a4⟩ := k2
        have np : p2 ≠ p := fun z => R.apart i j l l2 p e ej hij es (by rw [← z]; exact k1)
        exact ⟨p2, vs2, rfl, by rw [upd_ne np]; exact a1, a2, a3, a4⟩
      | bor l' => cases k3
      | _ => exact k2
  · have nj : ∀ (m : Nat) (l2 : List D), (ρ.set i (some (D.own l')))[m]? = some (some (.own l2)) → ∃ l3, ρ[m]? = some (some (.own l3)) := fun m l2 em => by
      by_cases him : i = m
      · subst him; exact ⟨l, e⟩
      · rw [List.getElem?_set_ne him] at em; exact ⟨_, em⟩
    obtain ⟨l3, e3⟩ := nj j l1 hj
    obtain ⟨l4, e4⟩ := nj k l2 hk
    exact R.apart j k l3 l4 q e3 e4 hjk e1 e2
def dFrz (i : Nat) (t : TDS) : TDS := fun E ρ => t E (frzAt i ρ)

/-! ### loops -/
def dWhile (tc : TDt) (tb : TDS) : TDS := fun E ρ => ∃ Iv : Nat → Env → Prop, (∃ n ρ', Weak ρ ρ' ∧ Iv n ρ') ∧ ∀ n ρ, Iv n ρ →
  tc ρ fun b => (b = true → tb { E with nx := fun ρ' => ∃ m ρ'', m < n ∧ Weak ρ' ρ'' ∧ Iv m ρ'', ct := fun ρ' => ∃ m ρ'', m < n ∧ Weak ρ' ρ'' ∧ Iv m ρ'', bk := E.nx } ρ) ∧ (b = false → E.nx ρ)
theorem js_while {tc : TDt} (hp : PassesOwn (model S.X.prog S.X.w) S.X.A S.X.env S.X.xe) (hc : JT S c tc) (hb : JSs S sts t) : JS S (.While c sts [] pos) (dWhile tc t) := by
  refine ⟨fun G H σ ρ E R h => WS.of (ps_while hp pt_w pss_w) ?_⟩
  obtain ⟨Iv, ⟨n, ρ', w, i0⟩, turn⟩ := h
  refine ⟨fun n σ H => ∃ G' ρ, S.Rel G' H σ ρ ∧ Same G G' ∧ Iv n ρ, ⟨n, G, ρ', R.weak w, Same.refl G, i0⟩, fun m σ H ⟨G', ρ, R, sg, iv⟩ => ?_⟩
  refine (hc.run G' H σ ρ _ R (turn m ρ iv)).mono fun b H1 ⟨G1, x1, q1⟩ => ?_
  cases b with
  | false =>
    rw [if_neg Bool.false_ne_true]
    exact ⟨G1, ρ, R.go x1, sg.trans x1.g, q1.2 rfl⟩
  | true =>
    rw [if_pos rfl]
    refine ⟨fun σ' H' => ∃ G' ρ', S.Rel G' H' σ' ρ' ∧ Same G G' ∧ ∃ k ρ'', k < m ∧ Weak ρ' ρ'' ∧ Iv k ρ'', fun σ' H' ⟨G', ρ', R', sg', k, ρ'', hk, w', i'⟩ => ⟨k, hk, G', ρ'', R'.weak w', sg', i'⟩, ?_⟩
    exact (hb.run G1 H1 σ ρ _ (R.go x1) (q1.1 rfl)).lift (sg.trans x1.g)
def forR (g : TDG) (tb : TDS) (E : DE) : List D → Env → Prop
  | [], ρ => E.nx ρ
  | d :: ds, ρ => g d ρ fun ρ2 => tb { E with nx := fun ρ' => ∃ ρ'', Weak ρ' ρ'' ∧ forR g tb E ds ρ'', ct := fun ρ' => ∃ ρ'', Weak ρ' ρ'' ∧ forR g tb E ds ρ'', bk := E.nx } ρ2
def dFor (ι : TDI) (g : TDG) (tb : TDS) : TDS := fun E ρ => ι ρ fun ds => ∃ ρ', Weak ρ ρ' ∧ forR g tb E ds ρ'
theorem js_for {tg iter : Expr} {ι : TDI} {g : TDG} (hp : PassesOwn (model S.X.prog S.X.w) S.X.A S.X.env S.X.xe) (hc : S.X.calm = true) (hi : JI S tg iter ι) (hg : JG S tg g) (hb : JSs S sts t)
    (hs : ∀ x, foldedSetIterable iter S.X.env x = pure x := by intro _; rfl) : JS S (.For tg iter sts [] pos) (dFor ι g t) := by
  refine ⟨fun G H σ ρ E R h => WS.of (ps_for hp hc pi_w pg_w pss_w hs) ?_⟩
  refine fun pins s I => thn (hi.run G H σ ρ _ R h pins s I) fun v s1 h1 => thn h1 fun itv s2 h2 => ?_
  obtain ⟨it, fp, tn, J, H2, e1, e2, e3, e4, e5, G1, ds, x1, gv, ρ', w, q⟩ := h2
  refine ⟨it, fp, tn, J, H2, e1, e2, e3, e4, e5, ?_⟩
  obtain ⟨n, Gp, Y, en, wk, hG, hY⟩ := gv
  have R1 := (R.go x1).weak w
  subst en
  refine for_it wk (fun i σ H => ∃ G ρ, S.Rel G H σ ρ ∧ Same G1 G ∧ forR g t E (ds.drop i) ρ) ⟨G1, ρ', R1, Same.refl G1, q⟩ (fun i σ H _ ⟨G, ρ, R, sg, _⟩ => hG H (sg.trans R.gh)) (fun i x σ H H' hi ⟨G2, ρ, R, sg, q⟩ y => ?_) fun σ H ⟨G2, ρ, R, sg, q⟩ => ?_
  · obtain ⟨d, ed, hd⟩ := hY i x H H' (sg.trans R.gh) hi y
    have e : ds.drop i = d :: ds.drop (i + 1) := by
      rw [List.drop_eq_getElem_cons hi]
      rw [List.getElem?_eq_getElem hi] at ed
      cases ed
      rfl
    rw [e] at q
    have q' : g d ρ fun ρ2 => t { E with nx := fun ρ' => ∃ ρ'', Weak ρ' ρ'' ∧ forR g t E (ds.drop (i + 1)) ρ'', ct := fun ρ' => ∃ ρ'', Weak ρ' ρ'' ∧ forR g t E (ds.drop (i + 1)) ρ'', bk := E.nx } ρ2 := q
    have st : ∃ G', Ext H G2 H G' H' ∧ RepV S.nm H G' H' x d := by
      rcases hd with ⟨eh, rx⟩ | ⟨T, a, b, da, db, ex, nT, eh, edt, ra, rb⟩
      · subst eh
        exact ⟨G2, Ext.refl R.gh, .of (Rep.mono sg _ _ rx)⟩
      · subst eh ex edt
        have gT : G2 T = none := R.gh.free nT
        have sm : Same G2 (upd G2 T (.tup [a, b])) := same_upd gT
        refine ⟨upd G2 T (.tup [a, b]), ⟨sm, same_upd nT, fun c o eo => ?_, fun c ec nc => ?_⟩, .of (.tup upd_same (.cons ((Rep.mono sg _ _ ra).mono sm) (.cons ((Rep.mono sg _ _ rb).mono sm) .nil)))⟩
        · by_cases hb : c = T
          · subst hb; rw [upd_same] at eo ⊢; exact eo
          · rw [upd_ne hb] at eo ⊢; exact R.gh _ _ eo
        · rw [upd_ne (fun z => nc (by rw [z]; exact nT))]; exact ec
    obtain ⟨G', x', r'⟩ := st
    refine (hg.run G2 H G' H' σ ρ x d _ R x' r' q').mono fun σ2 H2 ⟨G3, ρ2, R2, sg2, q2⟩ => ?_
    have sg3 : Same G1 G3 := (sg.trans x'.g).trans sg2
    refine (hb.run G3 H2 σ2 ρ2 _ R2 q2).mono (fun _ _ ⟨G4, ρ4, R4, sg4, ρ5, w5, q4⟩ => ?_) (fun _ _ q => q) (fun _ _ ⟨G4, ρ4, R4, sg4, q4⟩ => ?_) (fun _ _ ⟨G4, ρ4, R4, sg4, ρ5, w5, q4⟩ => ?_)
    · exact ⟨G4, ρ5, R4.weak w5, sg3.trans sg4, q4⟩
    · exact ⟨G4, ρ4, R4, x1.g.trans (sg3.trans sg4), q4⟩
    · exact ⟨G4, ρ5, R4.weak w5, sg3.trans sg4, q4⟩
  · rw [List.drop_length] at q
    exact ⟨G2, ρ, R, x1.g.trans sg, q⟩

/-! ### a list of one's own, changed -/
theorem Rel.ownAt {nm : Nm} {G0 B G H : Hp} {σ : L2.St} {ρ : Env} (R : DD.Rel nm G0 B G H σ ρ) {i : Nat} {l : List D} (e : ρ[i]? = some (some (.own l))) : ∃ p vs, σ[i]? = some (some (.ref p)) ∧ H p = some (.lst vs) ∧ G p = none ∧ B p = none ∧ Reps nm G vs l := by
  obtain ⟨v, h1, h2, h3⟩ := R.slot i _ e
  obtain ⟨p, vs, rfl, g1, g2, g3, g4⟩ := h2
  exact ⟨p, vs, h1, g1, g2, g3, g4⟩
/-- what a method makes of a list, given its arguments -/
abbrev RM := List D → List D → (List D → Prop) → Prop
def DMut (S : Sit) (id : String) (f : RM) : Prop := ∀ (G H : Hp) (p : Addr) (vs ws : List V) (l ds : List D) (K : List D → Prop), H p = some (.lst vs) → Same G H → Reps S.nm G vs l → RepA S.nm G H ws ds → f l ds K →
  ∃ (r : V → List V → Hp → VK → Prop) (vs' : List V) (l' : List D), MtR S.X id r ∧ Reps S.nm G vs' l' ∧ K l' ∧ ∀ Q : VK, (∀ v, Q v (upd H p (.lst vs'))) → r (.ref p) ws H Q
def dMut (i : Nat) (f : RM) (t : TDs) : TDS := fun E ρ => match ρ[i]? with
  | some (some (.own l)) => t ρ fun ds => f l ds fun l' => Nx E.nx (put ρ i (some (.own l')))
  | _ => False
def mSem (X : Cx) (id : String) : V → List V → Hp → VK → Prop := fun x xs H Q => ∀ (pins : List (Addr × Obj)) (s : Shared) (σ : L2.St) (v : Value) (us : List Value), Inv X pins σ H s → RelV x v → Vals xs us → wpAny (model X.prog X.w) X.A (call (.builtin id) (v :: us)) (EP X pins σ Q) X.xe s
theorem mt_sem {X : Cx} {id : String} : MtR X id (mSem X id) := fun pins s σ _ _ _ v us _ I rx rs q => q pins s σ v us I rx rs
theorem js_mut (i : Nat) {x : Str} {name : Str} {id : String} {f : RM} {px apos cpos : Pos} {t : TDs} (slot : Slot "list" name id) (hty : typeOf (.builtin id) = pure (.type "method_descriptor")) (hf : DMut S id f) (ho : PE S.X (.Name x px) (tVar i)) (ha : JA' S (e :: es) t)
    (hbase : attributeBase (.Name x px) name S.X.env (eval (.Name x px) S.X.env) = eval (.Name x px) S.X.env := by rfl)
    (hfew : ((backTo cpos (starEach (e :: es) S.X.env)).all (fun x => !x.1) && (backToKw cpos (keywordEach [] S.X.env)).all (fun x => x.1.isSome)
      && decide ((e :: es).length + ([] : List Keyword).length + (if ([] : List Keyword).isEmpty then 0 else 1) < 30)) = true := by rfl)
    (hline : (apos.endLine == cpos.line) = true := by rfl) (hst : starEach (e :: es) S.X.env = (false, eval e S.X.env) :: starEach es S.X.env := by rfl) (hplain : (backTo cpos (starEach es S.X.env)).any (·.1) = false := by rfl)
    (hs : swapsWith (.Call (.Attribute (.Name x px) name apos) (e :: es) [] cpos) none pos.line S.X.env = pure false := by rfl) : JS S (.Expr (.Call (.Attribute (.Name x px) name apos) (e :: es) [] cpos) pos) (dMut i f t) := by
  refine ⟨fun G H σ ρ E R h => WS.of (ps_expr (pe_bm PySem.F.plainAttrs_list slot hty mt_sem ho pa_w hbase hfew hline hst hplain) hs) ?_⟩
  unfold dMut at h
  split at h
  · rename_i l el
    obtain ⟨p, vs, e1, e2, e3, e4, e5⟩ := R.ownAt el
    refine ⟨.ref p, e1, .inl ⟨rfl, vs, .inl (.inl e2)⟩, (ha.run G H σ ρ _ R h).mono fun ws H1 ⟨G1, ds, x1, r1, q1⟩ => ?_⟩
    obtain ⟨r, vs', l', h1, h2, h3, h4⟩ := hf G1 H1 p vs ws l ds _ (x1.h _ _ e2) x1.gh (e5.mono x1.g) r1 q1
    intro pins s σ' v us I rx rs
    exact h1 pins s σ' H1 (.ref p) ws v us _ I rx rs (h4 _ fun v => ⟨G1, _, (R.go x1).mutate el e1 h2, x1.g, h3.getS⟩)
  · exact h.elim
theorem js_mut0 (i : Nat) {x : Str} {name : Str} {id : String} {f : RM} {px apos cpos : Pos} (slot : Slot "list" name id) (hty : typeOf (.builtin id) = pure (.type "method_descriptor")) (hf : DMut S id f) (ho : PE S.X (.Name x px) (tVar i))
    (hbase : attributeBase (.Name x px) name S.X.env (eval (.Name x px) S.X.env) = eval (.Name x px) S.X.env := by rfl) (hline : (apos.endLine == cpos.line) = true := by rfl)
    (hs : swapsWith (.Call (.Attribute (.Name x px) name apos) [] [] cpos) none pos.line S.X.env = pure false := by rfl) : JS S (.Expr (.Call (.Attribute (.Name x px) name apos) [] [] cpos) pos) (dMut i f aNil) := by
  refine ⟨fun G H σ ρ E R h => WS.of (ps_expr (pe_bm0 PySem.F.plainAttrs_list slot hty mt_sem ho hbase hline) hs) ?_⟩
  unfold dMut at h
  split at h
  · rename_i l el
    obtain ⟨p, vs, e1, e2, e3, e4, e5⟩ := R.ownAt el
    refine ⟨.ref p, e1, .inl ⟨rfl, vs, .inl (.inl e2)⟩, ?_⟩
    obtain ⟨r, vs', l', h1, h2, h3, h4⟩ := hf G H p vs [] l [] _ e2 R.gh e5 .nil h
    intro pins s σ' v us I rx rs
    exact h1 pins s σ' H (.ref p) [] v us _ I rx rs (h4 _ fun v => ⟨G, _, R.mutate el e1 h2, Same.refl G, h3.getS⟩)
  · exact h.elim
def mAppend : RM := fun l ds K => match ds with
  | [d] => isBor d = false ∧ l.length < sizeLine ∧ K (l ++ [d])
  | _ => False
theorem m_append : DMut S "list.append" mAppend := by
  intro G H p vs ws l ds K hp gh rl rw h
  match ds, rw, h with
  | [d], .cons (v := v) rd nd .nil, h =>
    obtain ⟨nb, hl, k⟩ := h
    have r1 := (RepA.cons rd nd .nil).reps (by simp [nb])
    exact ⟨rAppend, vs ++ [v], l ++ [d], mt_append, rl.append r1, k, fun Q q => ⟨p, vs, v, rfl, rfl, hp, by rw [rl.length]; exact hl, q _⟩⟩
def lstT : D → Option (List D)
  | .lst l => some l
  | .own l => some l
  | .bor l => some l
  | _ => none
theorem RepV.lstT {nm : Nm} {H0 G H : Hp} {v : V} {d : D} {l : List D} (r : RepV nm H0 G H v d) (gh : Same G H) (e : DD.lstT d = some l) : ∃ p vs, v = .ref p ∧ H p = some (.lst vs) ∧ Reps nm G vs l := by
  cases d with
  | own l' =>
    cases e
    obtain ⟨p, vs, rfl, h1, _, _, q⟩ := r
    exact ⟨p, vs, rfl, h1, q⟩
  | bor l' =>
    cases e
    obtain ⟨p, vs, rfl, h1, _, q⟩ := r
    exact ⟨p, vs, rfl, h1, q⟩
  | lst l' =>
    cases e
    have r' : Rep nm G v (.lst l) := r
    cases r' with
    | lst h1 q => exact ⟨_, _, rfl, gh _ _ h1, q⟩
  | _ => cases e
def mExtend : RM := fun l ds K => match ds with
  | [d] => match lstT d with
    | some m => l.length + m.length ≤ sizeLine ∧ K (l ++ m)
    | none => False
  | _ => False
theorem m_extend : DMut S "list.extend" mExtend := by
  intro G H p vs ws l ds K hp gh rl rw h
  match ds, rw, h with
  | [d], .cons (v := v) rd nd .nil, h =>
    unfold mExtend at h
    dsimp only at h
    split at h
    · rename_i m em
      obtain ⟨hl, k⟩ := h
      obtain ⟨b, zs, rfl, hb, rz⟩ := rd.lstT gh em
      exact ⟨rExtend, vs ++ zs, l ++ m, mt_extend, rl.append rz, k, fun Q q => ⟨p, b, vs, zs, rfl, rfl, hp, hb, by rw [rl.length, rz.length]; exact hl, q _⟩⟩
    · exact h.elim
def mPop : RM := fun l ds K => match ds with
  | [] => l ≠ [] ∧ K l.dropLast
  | _ => False
theorem m_pop : DMut S "list.pop" mPop := by
  intro G H p vs ws l ds K hp gh rl rw h
  match ds, rw, h with
  | [], .nil, h =>
    obtain ⟨nl, k⟩ := h
    have hv : vs.length - 1 < vs.length := by
      have := rl.length
      have : l.length ≠ 0 := fun z => nl (List.length_eq_zero_iff.mp z)
      omega
    exact ⟨rPop, vs.dropLast, l.dropLast, mt_pop, rl.dropLast, k, fun Q q => ⟨p, vs, vs[vs.length - 1], rfl, rfl, hp, List.getElem?_eq_getElem hv, q _⟩⟩
def mReverse : RM := fun l ds K => match ds with
  | [] => K l.reverse
  | _ => False
theorem m_reverse : DMut S "list.reverse" mReverse := by
  intro G H p vs ws l ds K hp gh rl rw h
  match ds, rw, h with
  | [], .nil, h => exact ⟨rReverse, vs.reverse, l.reverse, mt_reverse, rl.reverse, h, fun Q q => ⟨p, vs, rfl, rfl, hp, q _⟩⟩
def mClear : RM := fun l ds K => match ds with
  | [] => K []
  | _ => False
theorem m_clear : DMut S "list.clear" mClear := by
  intro G H p vs ws l ds K hp gh rl rw h
  match ds, rw, h with
  | [], .nil, h => exact ⟨rClear, [], [], mt_clear, .nil, h, fun Q q => ⟨p, vs, rfl, rfl, hp, q _⟩⟩
/-- x[k] = e -/
def dSetIx (i : Nat) (τe τk : TD) : TDS := fun E ρ => match ρ[i]? with
  | some (some (.own l)) => τe ρ fun d => isBor d = false ∧ τk ρ fun k => match k with
    | .int n => ∃ j, ixN l.length n = some j ∧ Nx E.nx (put ρ i (some (.own (l.set j (frzO d)))))
    | _ => False
  | _ => False
theorem js_setIx (i : Nat) {x : Str} {k : Expr} {px spos : Pos} (ho : PE S.X (.Name x px) (tVar i)) (hk : JE S k τb) (he : JE S e τa)
    (ha : ∀ v, assign (.Subscript (.Name x px) k spos) S.X.env v = (do
      let ov ← holding [v] (eval (.Name x px) S.X.env)
      let iv ← holding [v, ov] (eval k S.X.env)
      standAt spos
      holding [v, ov, iv] (setItem ov iv v)
      release [v, ov, iv] []) := by intro _; rfl)
    (hs : swapsWithSole [.Subscript (.Name x px) k spos] e pos.line S.X.env = pure false := by rfl) (hw : swappedStores [.Subscript (.Name x px) k spos] e S.X.env = pure none := by rfl)
    (h1 : (assignEach [.Subscript (.Name x px) k spos] S.X.env).map (·.2) = [assign (.Subscript (.Name x px) k spos) S.X.env] := by rfl) : JS S (.Assign [.Subscript (.Name x px) k spos] e pos) (dSetIx i τa τb) := by
  refine ⟨fun G H σ ρ E R h => WS.of (ps_asg pe_w (pg_sub ho pe_w set_list ha) hs hw h1) ?_⟩
  unfold dSetIx at h
  split at h
  · rename_i l el
    refine (he.run G H σ ρ _ R h).mono fun v H1 ⟨G1, d, x1, r1, nb, q1⟩ => ?_
    obtain ⟨G1', x1', r1'⟩ := r1.frzO x1.gh
    have y1 := x1.trans x1'
    obtain ⟨p, vs, e1, e2, e3, e4, e5⟩ := R.ownAt el
    refine ⟨.ref p, e1, (hk.run G1' H1 σ ρ _ (R.go y1) q1).mono fun kv H2 ⟨G2, kd, x2, r2, q3⟩ => ?_⟩
    cases kd with
    | int n =>
      obtain ⟨j, hj, q3⟩ := q3
      cases repV_int r2
      have rd : Rep S.nm G2 v (frzO d) := by
        have z := r1'.ext x2
        cases hd : frzO d with
        | own l2 => exact absurd hd frzO_own
        | bor l2 =>
          cases d <;> simp [frzO] at hd
          cases nb
        | _ => rw [hd] at z; exact z
      have z := y1.trans (Ext.from y1.h x2)
      have rl := e5.mono z.g
      exact ⟨p, vs, n, j, rfl, rfl, z.h _ _ e2, by rw [rl.length]; exact hj, G2, _, (R.go z).mutate el e1 (rl.set j rd), z.g, q3.getS⟩
    | _ => exact q3.elim
  · exact h.elim

/-! ### iterators -/
def iterV (X : Cx) (tg : Expr) (x : V) (H : Hp) (R : It → Hp → Prop) : Prop := ∀ (pins : List (Addr × Obj)) (s : Shared) (σ : L2.St) (v : Value), Inv X pins σ H s → RelV x v → wpAny (model X.prog X.w) X.A (pyIter v) (PIE X pins σ tg R) X.xe s
theorem iter_list {X : Cx} {tg : Expr} {a : Addr} {xs : List V} {H : Hp} {R : It → Hp → Prop} (hq : SqL X.K H a xs) (q : R (Itl X.K a) H) : iterV X tg (.ref a) H R := by
  intro pins s1 σ v I1 r1
  cases r1
  obtain ⟨its, rv, p, hz⟩ := I1.list hq
  refine wpAny_pyIter_list p.isList ?_
  refine ⟨s1.heap.objs.size, [s1.heap.objs.size], _, _, H, rfl, I1.kept (t' := s1.toks) fun b o e => Heap.get?_push_of_some _ e, turn_list a _, ⟨_, Heap.get?_push_size _ rfl, rfl, rfl⟩, fun b hb => ?_, q⟩
  have e : b = s1.heap.objs.size := by simpa using hb
  subst e
  exact I1.fpOk (Nat.le_refl _) (I1.hok.fresh (Nat.le_refl _))
theorem iter_tup {X : Cx} {tg : Expr} {a : Addr} {xs : List V} {H : Hp} {R : It → Hp → Prop} (hq : SqT X.K H a xs) (q : R (Itt X.K a) H) : iterV X tg (.ref a) H R := by
  intro pins s1 σ v I1 r1
  cases r1
  obtain ⟨its, rv, p, hz⟩ := I1.tuple hq
  refine wpAny_pyIter_tuple (show s1.heap.IsTuple a its.toArray from p) ?_
  refine ⟨s1.heap.objs.size, [s1.heap.objs.size], _, _, H, rfl, I1.kept (t' := s1.toks) fun b o e => Heap.get?_push_of_some _ e, turn_tuple a _, ⟨_, Heap.get?_push_size _ rfl, rfl, rfl⟩, fun b hb => ?_, q⟩
  have e : b = s1.heap.objs.size := by simpa using hb
  subst e
  exact I1.fpOk (Nat.le_refl _) (I1.hok.fresh (Nat.le_refl _))
theorem gives_list {nm : Nm} {G : Hp} {a : Addr} {vs : List V} {ds : List D} (hq : SqL nm.K G a vs) (r : Reps nm G vs ds) : Gives nm G (Itl nm.K a) ds := by
  refine ⟨vs.length, fun H => SqL nm.K H a vs, YAt vs, r.length, walk_list, fun H2 s => Same.seq s hq, fun i x H2 H3 s hi ⟨e1, e2⟩ => ?_⟩
  obtain ⟨d, h1, h2⟩ := r.getV e2
  exact ⟨d, h1, .inl ⟨e1, h2⟩⟩
theorem gives_tup {nm : Nm} {G : Hp} {a : Addr} {vs : List V} {ds : List D} (hq : G a = some (.tup vs)) (r : Reps nm G vs ds) : Gives nm G (Itt nm.K a) ds := by
  refine ⟨vs.length, fun H => SqT nm.K H a vs, YAt vs, r.length, walk_tup, fun H2 s => .inl (.inl (s _ _ hq)), fun i x H2 H3 s hi ⟨e1, e2⟩ => ?_⟩
  obtain ⟨d, h1, h2⟩ := r.getV e2
  exact ⟨d, h1, .inl ⟨e1, h2⟩⟩
/-- the signs of a text -/
def signs (x : Str) : List D := x.cps.toList.map fun c => .str ⟨#[c]⟩
def iOf (τ : TD) : TDI := fun ρ Q => τ ρ fun d => match d with
  | .lst l => Q l
  | .own l => Q l
  | .scr l => Q l
  | .tup l => Q l
  | _ => False
theorem ji_of {tg : Expr} (he : JE S e τa) : JI S tg e (iOf τa) := by
  refine ⟨fun G H σ ρ Q R h => ?_⟩
  intro pins s I
  refine thn (he.run G H σ ρ _ R h pins s I) fun v s1 ⟨x, H1, I1, r1, G1, d, x1, rd, q1⟩ => ?_
  have kk := S.kk
  cases d with
  | lst l =>
    have rd' : Rep S.nm G1 x (.lst l) := rd
    cases rd' with
    | lst ea ra =>
      refine iter_list (.inl (.inl (x1.gh _ _ ea))) ?_ pins s1 σ v I1 r1
      rw [← kk]
      exact ⟨G1, l, x1, gives_list (.inl (.inl ea)) ra, q1⟩
  | own l =>
    obtain ⟨G2, x2, rd'⟩ := rd.freeze x1.gh rfl
    cases rd' with
    | lst ea ra =>
      refine iter_list (.inl (.inl (x2.gh _ _ ea))) ?_ pins s1 σ v I1 r1
      rw [← kk]
      exact ⟨G2, l, x1.trans x2, gives_list (.inl (.inl ea)) ra, q1⟩
  | scr l =>
    have rd' : Rep S.nm G1 x (.scr l) := rd
    cases rd' with
    | scr ea ra =>
      refine iter_list (Same.seq x1.gh (by rw [← kk]; exact ea)) ?_ pins s1 σ v I1 r1
      rw [← kk]
      exact ⟨G1, l, x1, gives_list ea ra, q1⟩
  | tup l =>
    have rd' : Rep S.nm G1 x (.tup l) := rd
    cases rd' with
    | tup ea ra =>
      refine iter_tup (.inl (.inl (x1.gh _ _ ea))) ?_ pins s1 σ v I1 r1
      rw [← kk]
      exact ⟨G1, l, x1, gives_tup ea ra, q1⟩
  | _ => exact q1.elim
def rangeD (lo : Int) (n : Nat) : List D := (List.range n).map fun i => .int (lo + (i : Nat))
theorem gives_range {nm : Nm} {G : Hp} {lo : Int} {n : Nat} : Gives nm G (Itr lo n) (rangeD lo n) := by
  refine ⟨n, fun _ => True, YFn fun i => .int (lo + i), by simp [rangeD], walk_range, fun _ _ => trivial, fun i x H2 H3 s hi ⟨e1, e2⟩ => ?_⟩
  subst e2
  exact ⟨.int (lo + i), by simp [rangeD, List.getElem?_map, List.getElem?_range hi], .inl ⟨e1, .int _⟩⟩
theorem repA_int1 {nm : Nm} {G H : Hp} {vs : List V} {i : Int} (r : RepA nm G H vs [.int i]) : vs = [.int i] := by
  match r with
  | .cons r _ .nil => rw [repV_int r]
theorem repA_int2 {nm : Nm} {G H : Hp} {vs : List V} {i j : Int} (r : RepA nm G H vs [.int i, .int j]) : vs = [.int i, .int j] := by
  match r with
  | .cons r _ (.cons q _ .nil) => rw [repV_int r, repV_int q]
theorem repA_int3 {nm : Nm} {G H : Hp} {vs : List V} {i j k : Int} (r : RepA nm G H vs [.int i, .int j, .int k]) : vs = [.int i, .int j, .int k] := by
  match r with
  | .cons r _ (.cons q _ (.cons t _ .nil)) => rw [repV_int r, repV_int q, repV_int t]
def iRange1 (t : TDs) : TDI := fun ρ Q => t ρ fun ds => match ds with
  | [.int n] => (-(2 ^ 62) ≤ n ∧ n < 2 ^ 62) ∧ Q (rangeD 0 n.toNat)
  | _ => False
theorem ji_range1 {tg : Expr} {t : TDs} {p : Pos} (hg : Gl S.X "range") (hm : S.X.mg "range" = none) (ha : JA' S [a] t) (hs : starEach [a] S.X.env = [(false, eval a S.X.env)] := by rfl) : JI S tg (.Call (.Name "range" p) [a] [] pos) (iRange1 t) := by
  refine ⟨fun G H σ ρ Q R h => fun pins s I => (pi_range1 hg hm pa_w hs).run pins s σ H _ I ((ha.run G H σ ρ _ R h).mono fun vs H1 ⟨G1, ds, x1, r1, q1⟩ => ?_)⟩
  match ds, r1, q1 with
  | [.int n], r1, q1 =>
    cases repA_int1 r1
    exact ⟨n, rfl, q1.1.1, q1.1.2, G1, _, x1, gives_range, q1.2⟩
def iRange2 (t : TDs) : TDI := fun ρ Q => t ρ fun ds => match ds with
  | [.int m, .int n] => (-(2 ^ 62) ≤ m ∧ m < 2 ^ 62 ∧ -(2 ^ 62) ≤ n ∧ n < 2 ^ 62) ∧ Q (rangeD m (n - m).toNat)
  | _ => False
theorem ji_range2 {tg : Expr} {t : TDs} {p : Pos} (hg : Gl S.X "range") (hm : S.X.mg "range" = none) (ha : JA' S [a, b] t) (hs : starEach [a, b] S.X.env = [(false, eval a S.X.env), (false, eval b S.X.env)] := by rfl) (hs2 : starEach [b] S.X.env = [(false, eval b S.X.env)] := by rfl) :
    JI S tg (.Call (.Name "range" p) [a, b] [] pos) (iRange2 t) := by
  refine ⟨fun G H σ ρ Q R h => fun pins s I => (pi_range2 hg hm pa_w hs hs2).run pins s σ H _ I ((ha.run G H σ ρ _ R h).mono fun vs H1 ⟨G1, ds, x1, r1, q1⟩ => ?_)⟩
  match ds, r1, q1 with
  | [.int m, .int n], r1, q1 =>
    cases repA_int2 r1
    exact ⟨m, n, rfl, q1.1, G1, _, x1, gives_range, q1.2⟩
/-- downward -/
def downD (hi : Int) (n : Nat) : List D := (List.range n).map fun i => .int (hi - (i : Nat))
theorem gives_down {nm : Nm} {G : Hp} {lo : Int} {n : Nat} : Gives nm G (Itc lo (-1) n) (downD lo n) := by
  refine ⟨n, fun _ => True, YFn fun i => .int (lo + (i : Nat) * (-1)), by simp [downD], walk_rangeC, fun _ _ => trivial, fun i x H2 H3 s hi ⟨e1, e2⟩ => ?_⟩
  subst e2
  refine ⟨.int (lo + (i : Nat) * (-1)), ?_, .inl ⟨e1, .int _⟩⟩
  simp only [downD, List.getElem?_map, List.getElem?_range hi, Option.map_some]
  congr 2
  omega
def iDown (t : TDs) : TDI := fun ρ Q => t ρ fun ds => match ds with
  | [.int m, .int n, .int c] => c = -1 ∧ (-(2 ^ 62) ≤ m ∧ m < 2 ^ 62 ∧ -(2 ^ 62) ≤ n ∧ n < 2 ^ 62) ∧ Q (downD m (m - n).toNat)
  | _ => False
theorem ji_down {tg : Expr} {t : TDs} {p : Pos} (hg : Gl S.X "range") (hm : S.X.mg "range" = none) (ha : JA' S [a, b, c] t)
    (hs : starEach [a, b, c] S.X.env = (false, eval a S.X.env) :: starEach [b, c] S.X.env := by rfl) (hs2 : (backTo pos (starEach [b, c] S.X.env)).any (·.1) = false := by rfl) :
    JI S tg (.Call (.Name "range" p) [a, b, c] [] pos) (iDown t) := by
  refine ⟨fun G H σ ρ Q R h => fun pins s I => (pi_range3 hg hm pa_w hs hs2).run pins s σ H _ I ((ha.run G H σ ρ _ R h).mono fun vs H1 ⟨G1, ds, x1, r1, q1⟩ => ?_)⟩
  match ds, r1, q1 with
  | [.int m, .int n, .int k], r1, q1 =>
    cases repA_int3 r1
    obtain ⟨e, ⟨b1, b2, b3, b4⟩, q⟩ := q1
    subst e
    exact ⟨m, n, -1, _, rfl, RgC.neg b1 b2 b3 b4, G1, _, x1, gives_down, q⟩
end
end DD

set_option Elab.async false
set_option linter.all false
set_option maxRecDepth 100000
set_option maxHeartbeats 1000000
namespace DD
open PySem PySem.Spec PyProof.Rows L2

/-! ### a def by its body -/
def startD (N : List Str) (ds : List D) : Env := ds.map some ++ List.replicate (N.length - ds.length) none
theorem nx_st1 {Q : Env → Prop} {x : Str} {N : List Str} {d : D} {ds : List D} (q : Nx (fun t => Q (some d :: t)) (startD N ds)) : Nx Q (startD (x :: N) (d :: ds)) := by
  have e : startD (x :: N) (d :: ds) = some d :: startD N ds := by simp [startD]
  rw [e]
  exact .of q.get
theorem nx_st2 {Q : Env → Prop} {x : Str} {N : List Str} (q : Nx (fun t => Q (none :: t)) (startD N [])) : Nx Q (startD (x :: N) []) := by
  have e : startD (x :: N) [] = none :: startD N [] := by simp [startD, List.replicate_succ]
  rw [e]
  exact .of q.get
theorem nx_st3 {Q : Env → Prop} (q : Q []) : Nx Q (startD [] []) := .of q
def sitOf (Γ : Gm) (N : List Str) (qual : Str) (sc : Scope) (f : Addr) (cdv : Value) (A : Around) (outer : List PySem.Env) (s : Shared) (H : Hp) (E : XK) (G0 : Hp) (P : Out → Prop) : Sit where
  X := cxOf (L2.CX Γ.P Γ.w) Γ.P Γ.w Γ.K Γ.mg Γ.base N qual sc f cdv A outer s H E
  nm := Γ.nm
  G0 := G0
  B := H
  ex := fun C _ => P (.exn C)
  kk := Γ.kk
theorem start_rel {nm : Nm} {G H : Hp} {N : List Str} {vs : List V} {ds : List D} (gh : Same G H) (r : Reps nm G vs ds) : DD.Rel nm G H G H (L2.start N vs) (startD N ds) := by
  have hl := r.length
  have key : ∀ (i : Nat) (d : D), (startD N ds)[i]? = some (some d) → ∃ v, (L2.start N vs)[i]? = some (some v) ∧ Rep nm G v d := fun i d e => by
    unfold startD at e
    unfold L2.start
    by_cases hi : i < ds.length
    · rw [List.getElem?_append_left (by simpa using hi), List.getElem?_map] at e
      have e2 : ds[i]? = some d := by
        cases q : ds[i]? with
        | none => rw [q] at e; cases e
        | some d' => rw [q] at e; cases e; rfl
      obtain ⟨v, h1, h2⟩ := r.get e2
      refine ⟨v, ?_, h2⟩
      rw [List.getElem?_append_left (by simp; omega), List.getElem?_map, h1]
      rfl
    · rw [List.getElem?_append_right (by simpa using hi), List.getElem?_replicate] at e
      split at e <;> cases e
  refine ⟨Ext.refl gh, by simp [startD, L2.start, hl], fun i d e => ?_, fun i j l l' p hi => ?_⟩
  · obtain ⟨v, h1, h2⟩ := key i d e
    refine ⟨v, h1, .of h2, ?_⟩
    cases d <;> first | rfl | cases h2
  · obtain ⟨v, h1, h2⟩ := key i _ hi
    cases h2
theorem fnD {Γ : Gm} {x qual : Str} {st : Stmt} {f : Addr} {fd : FuncData} {N ps : List Str} {k : Nat} {M : MD} (F : Fun Γ.K x qual st f fd) (Sc : FnScope N ps (defScope st)) (hl : ∀ ds P, M ds P → ds.length = ps.length)
    (hb : ∀ (cdv : Value) (A : Around) (outer : List PySem.Env) (s : Shared) (H : Hp) (E : XK) (G0 : Hp) (ds : List D) (P : Out → Prop),
      JX (sitOf Γ N qual (defScope st) f cdv A outer s H E G0 P) → Room k (sitOf Γ N qual (defScope st) f cdv A outer s H E G0 P).X.A → PassesOwn (model Γ.P Γ.w) (sitOf Γ N qual (defScope st) f cdv A outer s H E G0 P).X.A (sitOf Γ N qual (defScope st) f cdv A outer s H E G0 P).X.env (sitOf Γ N qual (defScope st) f cdv A outer s H E G0 P).X.xe → M ds P →
      ∃ t, JSs (sitOf Γ N qual (defScope st) f cdv A outer s H E G0 P) (defBody st) t ∧ Nx (fun ρ => t { nx := fun _ => P (.ret .non), rt := fun d => P (.ret d) } ρ) (startD N ds)) :
    FnOk Γ.P Γ.w Γ.K Γ.mg Γ.base (L2.CX Γ.P Γ.w) (k + 1) f fd ps (spD Γ.nm M) := by
  refine F.okX Sc (fun vs H Q E h => ?_) fun cdv A outer s H vs Q E hr hsp => ?_
  · obtain ⟨G, ds, P, _, r, m, _⟩ := h
    rw [r.length]
    exact hl ds P m
  · obtain ⟨G, ds, P, gh, r, m, hret, hexn⟩ := hsp
    have jx : JX (sitOf Γ N qual (defScope st) f cdv A outer s H E G P) :=
      ⟨fun cls d _ H' => E cls d H', takes_of rfl rfl rfl rfl, fun G' H' σ ρ C R p => hexn C H' R.bh p⟩
    obtain ⟨t, ht, hq⟩ := hb cdv A outer s H E G ds P jx hr (passes_of rfl) m
    refine ⟨_, pss_w, (ht.run G H (L2.start N vs) (startD N ds) _ (start_rel gh r) hq.get).mono (fun σ' H' ⟨G', ρ', R', _, q⟩ => ?_) (fun v H' ⟨G', d, x, rv, nb, q⟩ => ?_) (fun _ _ ⟨_, _, _, _, q⟩ => q.elim) (fun _ _ ⟨_, _, _, _, q⟩ => q.elim)⟩
    · exact hret G' H' .non .non R'.ext (.of .non) rfl q
    · exact hret G' H' v d x rv nb q

section
variable {S : Sit} {a b c e : Expr} {es : List Expr} {pos : Pos} {τa τb τc : TD} {st : Stmt} {sts : List Stmt} {t u : TDS}
/-! ### operators -/
theorem new_own {nm : Nm} {H0 G H : Hp} {p : Addr} {vs : List V} {l : List D} (s0 : Same H0 H) (gh : Same G H) (hp : H p = none) (r : Reps nm G vs l) : Ext H0 G H G (upd H p (.lst vs)) ∧ RepV nm H0 G (upd H p (.lst vs)) (.ref p) (.own l) :=
  ⟨Ext.grow gh (same_upd hp), p, vs, rfl, upd_same, gh.free hp, s0.free hp, r⟩
theorem new_tup {nm : Nm} {H0 G H : Hp} {p : Addr} {vs : List V} {l : List D} (s0 : Same H0 H) (gh : Same G H) (hp : H p = none) (r : Reps nm G vs l) : ∃ G', Ext H0 G H G' (upd H p (.tup vs)) ∧ RepV nm H0 G' (upd H p (.tup vs)) (.ref p) (.tup l) := by
  have gp := gh.free hp
  have sm : Same G (upd G p (.tup vs)) := same_upd gp
  refine ⟨upd G p (.tup vs), ⟨sm, same_upd hp, fun b o e => ?_, fun a ea na => ?_⟩, .of (.tup upd_same (r.mono sm))⟩
  · by_cases hb : b = p
    · subst hb; rw [upd_same] at e ⊢; exact e
    · rw [upd_ne hb] at e ⊢; exact gh _ _ e
  · rw [upd_ne (fun z => na (by rw [z]; exact s0.free hp))]; exact ea
def rAdd : RD2 := fun d e Q => match d, e with
  | .int i, .int j => Q (.int (i + j))
  | .str x, .str y => x.length + y.length ≤ sizeLine ∧ Q (.str (x ++ y))
  | .tup l, .tup m => l ≠ [] ∧ m ≠ [] ∧ l.length + m.length ≤ sizeLine ∧ Q (.tup (l ++ m))
  | d, e => match lstT d, lstT e with
    | some l, some m => l.length + m.length ≤ sizeLine ∧ Q (.own (l ++ m))
    | _, _ => False
theorem o_add : DOp S (binaryOp .Add) rAdd := .of fun H0 G H x y d e Q s0 gh rx ry h => by
  unfold rAdd at h
  split at h
  · rename_i i j
    cases repV_int rx
    cases repV_int ry
    exact ⟨_, op_add, i, j, rfl, rfl, G, _, Ext.refl gh, .of (.int _), h⟩
  · rename_i i j
    cases repV_str rx
    cases repV_str ry
    exact ⟨_, op_add_str, i, j, rfl, rfl, h.1, G, _, Ext.refl gh, .of (.str _), h.2⟩
  · rename_i l m
    have rx' : Rep S.nm G x (.tup l) := rx
    have ry' : Rep S.nm G y (.tup m) := ry
    cases rx' with
    | tup e1 r1 =>
      cases ry' with
      | tup e2 r2 =>
        rename_i vs _ ws
        obtain ⟨h1, h2, h3, q⟩ := h
        have n1 : vs ≠ [] := fun z => by subst z; cases r1; exact h1 rfl
        have n2 : ws ≠ [] := fun z => by subst z; cases r2; exact h2 rfl
        refine ⟨_, op_catT, _, _, vs, ws, rfl, rfl, .inl (.inl (gh _ _ e1)), .inl (.inl (gh _ _ e2)), n1, by rw [r1.length, r2.length]; exact h3, fun z => absurd z n2, fun _ p hp => ?_⟩
        obtain ⟨G', x1, x2⟩ := new_tup s0 gh hp (r1.append r2)
        exact ⟨G', _, x1, x2, q⟩
  · split at h
    · rename_i l m e1 e2
      obtain ⟨p, vs, rfl, hp, r1⟩ := rx.lstT gh e1
      obtain ⟨p2, ws, rfl, hp2, r2⟩ := ry.lstT gh e2
      refine ⟨_, op_cat, p, p2, vs, ws, rfl, rfl, hp, hp2, by rw [r1.length, r2.length]; exact h.1, fun q hq => ?_⟩
      obtain ⟨x1, x2⟩ := new_own s0 gh hq (r1.append r2)
      exact ⟨G, _, x1, x2, h.2⟩
    · exact h.elim

/-- two ints -/
def rInt (C : Int → Int → Prop) (g : Int → Int → D) : RD2 := fun d e Q => match d, e with
  | .int i, .int j => C i j ∧ Q (g i j)
  | _, _ => False
def rInt0 (g : Int → Int → D) : RD2 := fun d e Q => match d, e with
  | .int i, .int j => Q (g i j)
  | _, _ => False
theorem o_int {f : Value → Value → Sem Value} {C : Int → Int → Prop} {g : Int → Int → Int} (h : OpR S.X f (rI C fun i j => .int (g i j))) : DOp S f (rInt C fun i j => .int (g i j)) := .of fun H0 G H x y d e Q s0 gh rx ry q => by
  unfold rInt at q
  split at q
  · rename_i i j
    cases repV_int rx
    cases repV_int ry
    exact ⟨_, h, i, j, rfl, rfl, q.1, G, _, Ext.refl gh, .of (.int _), q.2⟩
  · exact q.elim
theorem o_int0 {f : Value → Value → Sem Value} {g : Int → Int → Int} (h : OpR S.X f (rI0 fun i j => .int (g i j))) : DOp S f (rInt0 fun i j => .int (g i j)) := .of fun H0 G H x y d e Q s0 gh rx ry q => by
  unfold rInt0 at q
  split at q
  · rename_i i j
    cases repV_int rx
    cases repV_int ry
    exact ⟨_, h, i, j, rfl, rfl, G, _, Ext.refl gh, .of (.int _), q⟩
  · exact q.elim
theorem o_bool0 {f : Value → Value → Sem Value} {g : Int → Int → Bool} (h : OpR S.X f (rI0 fun i j => .bl (g i j))) : DOp S f (rInt0 fun i j => .bl (g i j)) := .of fun H0 G H x y d e Q s0 gh rx ry q => by
  unfold rInt0 at q
  split at q
  · rename_i i j
    cases repV_int rx
    cases repV_int ry
    exact ⟨_, h, i, j, rfl, rfl, G, _, Ext.refl gh, .of (.bl _), q⟩
  · exact q.elim
theorem o_sub : DOp S (binaryOp .Sub) (rInt0 fun i j => .int (i - j)) := o_int0 op_sub
def rMod : RD2 := fun d e Q => match d, e with
  | .int i, .int j => 0 < j ∧ Q (.int (i % j))
  | _, _ => False
theorem o_mod : DOp S (binaryOp .Mod) rMod := fun H0 G H x y d e Q s0 gh rx ry h => (o_int op_mod : DOp S (binaryOp .Mod) (rInt (fun _ j => 0 < j) fun i j => .int (i % j))) H0 G H x y d e Q s0 gh rx ry (by
  unfold rMod at h
  unfold rInt
  exact h)
def rPow : RD2 := fun d e Q => match d, e with
  | .int i, .int j => (0 ≤ j ∧ j ≤ 1000000 ∧ i.natAbs < 2 ^ 64) ∧ Q (.int (i ^ j.toNat))
  | _, _ => False
theorem o_pow : DOp S (binaryOp .Pow) rPow := fun H0 G H x y d e Q s0 gh rx ry h => (o_int op_pow : DOp S (binaryOp .Pow) (rInt CPow fun i j => .int (i ^ j.toNat))) H0 G H x y d e Q s0 gh rx ry (by
  unfold rPow at h
  unfold rInt
  exact h)
theorem o_lt : DOp S (compareOp .Lt) (rInt0 fun i j => .bl (decide (i < j))) := o_bool0 op_lt
theorem o_le : DOp S (compareOp .LtE) (rInt0 fun i j => .bl (decide (i ≤ j))) := o_bool0 op_le
theorem o_gt : DOp S (compareOp .Gt) (rInt0 fun i j => .bl (decide (j < i))) := o_bool0 op_gt
theorem o_ge : DOp S (compareOp .GtE) (rInt0 fun i j => .bl (decide (j ≤ i))) := o_bool0 op_ge
/-- the left or the right one below 2^64, or both together below a million bits -/
def MulB (i j : Int) : Prop := CMul i j ∨ CMulW i j
def rMul : RD2 := fun d e Q => match d, e with
  | .int i, .int j => MulB i j ∧ Q (.int (i * j))
  | d, .int k => match lstT d with
    | some l => (-(2 ^ 63) ≤ k ∧ k < 2 ^ 63) ∧ l.length * k.toNat ≤ sizeLine ∧ Q (.own (List.replicate k.toNat l).flatten)
    | none => False
  | _, _ => False
theorem Reps.rep {nm : Nm} {G : Hp} {vs : List V} {ds : List D} (r : Reps nm G vs ds) : ∀ k : Nat, Reps nm G (List.replicate k vs).flatten (List.replicate k ds).flatten
  | 0 => .nil
  | k + 1 => by
    rw [List.replicate_succ, List.replicate_succ, List.flatten_cons, List.flatten_cons]
    exact r.append (Reps.rep r k)
theorem o_mul : DOp S (binaryOp .Mult) rMul := .of fun H0 G H x y d e Q s0 gh rx ry h => by
  unfold rMul at h
  split at h
  · rename_i i j
    cases repV_int rx
    cases repV_int ry
    rcases h.1 with c | c
    · exact ⟨_, op_mul, i, j, rfl, rfl, c, G, _, Ext.refl gh, .of (.int _), h.2⟩
    · exact ⟨_, op_mulW, i, j, rfl, rfl, c, G, _, Ext.refl gh, .of (.int _), h.2⟩
  · split at h
    · rename_i k _ _ l el
      cases repV_int ry
      obtain ⟨p, vs, rfl, hp, r1⟩ := rx.lstT gh el
      refine ⟨_, op_rep, p, k, vs, rfl, rfl, hp, h.1.1, h.1.2, by rw [r1.length]; exact h.2.1, fun q hq => ?_⟩
      obtain ⟨x1, x2⟩ := new_own s0 gh hq (r1.rep k.toNat)
      exact ⟨G, _, x1, x2, h.2.2⟩
    · exact h.elim
  · exact h.elim
def rDiv : RD2 := fun d e Q => match d, e with
  | .int i, .int j => (0 < j ∧ j.natAbs.log2 < 9000 ∧ Q (.int (i / j))) ∨ (j < 0 ∧ j.natAbs < 1073741824 ∧ Q (.int (i.fdiv j)))
  | _, _ => False
theorem o_div : DOp S (binaryOp .FloorDiv) rDiv := .of fun H0 G H x y d e Q s0 gh rx ry h => by
  unfold rDiv at h
  split at h
  · rename_i i j
    cases repV_int rx
    cases repV_int ry
    rcases h with ⟨h1, h2, h⟩ | ⟨h1, h2, h⟩
    · exact ⟨_, op_fdivW, i, j, rfl, rfl, ⟨h1, h2⟩, G, _, Ext.refl gh, .of (.int _), h⟩
    · exact ⟨_, op_fdivN, i, j, rfl, rfl, ⟨by omega, h2⟩, G, _, Ext.refl gh, .of (.int _), h⟩
  · exact h.elim
/-- in place -/
def rIAdd : RD2 := fun d e Q => match d, e with
  | .int i, .int j => Q (.int (i + j))
  | .str x, .str y => x.length + y.length ≤ sizeLine ∧ Q (.str (x ++ y))
  | _, _ => False
theorem o_iadd : DOp S (inplaceOp .Add) rIAdd := .of fun H0 G H x y d e Q s0 gh rx ry h => by
  unfold rIAdd at h
  split at h
  · rename_i i j
    cases repV_int rx
    cases repV_int ry
    exact ⟨_, iop_add, i, j, rfl, rfl, G, _, Ext.refl gh, .of (.int _), h⟩
  · rename_i i j
    cases repV_str rx
    cases repV_str ry
    exact ⟨_, iop_add_str, i, j, rfl, rfl, h.1, G, _, Ext.refl gh, .of (.str _), h.2⟩
  · exact h.elim
theorem o_isub : DOp S (inplaceOp .Sub) (rInt0 fun i j => .int (i - j)) := o_int0 iop_sub

/-! ### == -/
mutual
def toP : D → Option PyData
  | .non => some .none
  | .bl b => some (.bool b)
  | .int i => some (.int i)
  | .str x => some (.str x)
  | .tup l => match toPs l with
    | some l => some (.tuple l)
    | none => none
  | .lst l => match toPs l with
    | some l => some (.list l)
    | none => none
  | .own l => match toPs l with
    | some l => some (.list l)
    | none => none
  | .bor l => match toPs l with
    | some l => some (.list l)
    | none => none
  | .scr l => match toPs l with
    | some l => some (.list l)
    | none => none
  | .ins _ _ _ => none
  | .exc _ => none
def toPs : List D → Option (List PyData)
  | [] => some []
  | d :: ds => match toP d, toPs ds with
    | some p, some ps => some (p :: ps)
    | _, _ => none
end
section
variable {nm : Nm} {G : Hp}
mutual
theorem Rep.dp : ∀ (d : D) (v : V) (p : PyData), Rep nm G v d → toP d = some p → Dp nm.K G v p
  | .non, _, _, r, e => by cases r; cases e; exact .non
  | .bl b, _, _, r, e => by cases r; cases e; exact .bl b
  | .int i, _, _, r, e => by cases r; cases e; exact .int i
  | .str x, _, _, r, e => by cases r; cases e; exact .str x
  | .tup l, _, p, r, e => by
    cases r with
    | tup h q =>
      unfold toP at e
      split at e
      · rename_i ps eps
        cases e
        exact .tup (.inl (.inl h)) (Reps.dp l _ ps q eps)
      · cases e
  | .lst l, _, p, r, e => by
    cases r with
    | lst h q =>
      unfold toP at e
      split at e
      · rename_i ps eps
        cases e
        exact .lst (.inl (.inl h)) (Reps.dp l _ ps q eps)
      · cases e
  | .scr l, _, p, r, e => by
    cases r with
    | scr h q =>
      unfold toP at e
      split at e
      · rename_i ps eps
        cases e
        exact .lst h (Reps.dp l _ ps q eps)
      · cases e
  | .own _, _, _, r, _ => by cases r
  | .bor _, _, _, r, _ => by cases r
  | .ins _ _ _, _, _, _, e => by cases e
  | .exc _, _, _, _, e => by cases e
theorem Reps.dp : ∀ (ds : List D) (vs : List V) (ps : List PyData), Reps nm G vs ds → toPs ds = some ps → DpAll nm.K G vs ps
  | [], _, _, r, e => by cases r; cases e; exact .nil
  | d :: ds, _, _, r, e => by
    cases r with
    | cons r q =>
      unfold toPs at e
      split at e
      · rename_i p ps e1 e2
        cases e
        exact .cons (Rep.dp d _ p r e1) (Reps.dp ds _ ps q e2)
      · cases e
end
end
mutual
theorem Dp.mono {K : PySem.W.Frag} {G H : Hp} (h : Same G H) : ∀ (p : PyData) (v : V), Dp K G v p → Dp K H v p
  | .none, _, r => by cases r; exact .non
  | .bool b, _, r => by cases r; exact .bl b
  | .int i, _, r => by cases r; exact .int i
  | .str x, _, r => by cases r; exact .str x
  | .list ps, _, r => by
    cases r with
    | lst e q => exact .lst (Same.seq h e) (DpAll.mono h ps _ q)
  | .tuple ps, _, r => by
    cases r with
    | tup e q =>
      refine .tup ?_ (DpAll.mono h ps _ q)
      rcases e with (e | ⟨o, e⟩) | e
      · exact .inl (.inl (h _ _ e))
      · exact .inl (.inr ⟨o, h _ _ e⟩)
      · exact .inr e
  | .dict _, _, r => by cases r
theorem DpAll.mono {K : PySem.W.Frag} {G H : Hp} (h : Same G H) : ∀ (ps : List PyData) (vs : List V), DpAll K G vs ps → DpAll K H vs ps
  | [], _, r => by cases r; exact .nil
  | p :: ps, _, r => by
    cases r with
    | cons e q => exact .cons (Dp.mono h p _ e) (DpAll.mono h ps _ q)
end
theorem RepV.dp {nm : Nm} {H0 G H : Hp} {v : V} {d : D} {p : PyData} (r : RepV nm H0 G H v d) (gh : Same G H) (e : toP d = some p) : Dp nm.K H v p := by
  cases d with
  | own l =>
    obtain ⟨a, vs, rfl, h1, _, _, q⟩ := r
    unfold toP at e
    split at e
    · rename_i ps eps
      cases e
      exact .lst (.inl (.inl h1)) (DpAll.mono gh _ _ (Reps.dp l _ ps q eps))
    · cases e
  | bor l =>
    obtain ⟨a, vs, rfl, h1, _, q⟩ := r
    unfold toP at e
    split at e
    · rename_i ps eps
      cases e
      exact .lst (.inl (.inl h1)) (DpAll.mono gh _ _ (Reps.dp l _ ps q eps))
    · cases e
  | _ => exact Dp.mono gh _ _ (Rep.dp _ _ _ r e)
/-- the answer of == -/
def eqD (d e : D) : Bool := match toP d, toP e with
  | some p, some q => PyData.eqv p q
  | _, _ => false
def shapedD (d : D) : Prop := ∃ p, toP d = some p ∧ SeqAt.shaped p = true
@[irreducible] def rEq (neg : Bool) : RD2 := fun d e Q => match d, e with
  | .int i, .int j => Q (.bl (if neg then !decide (i = j) else decide (i = j)))
  | .str i, .str j => Q (.bl (if neg then !decide (i = j) else decide (i = j)))
  | .bl i, .bl j => Q (.bl (if neg then !decide (i = j) else decide (i = j)))
  | d, e => shapedD d ∧ shapedD e ∧ Q (.bl (if neg then !eqD d e else eqD d e))
theorem o_eq (hu : S.X.A.units + 64 < cLine) : DOp S (compareOp .Eq) (rEq false) := .of fun H0 G H x y d e Q s0 gh rx ry h => by
  unfold rEq at h
  split at h
  · rename_i i j
    cases repV_int rx
    cases repV_int ry
    exact ⟨_, op_eq, rfl, G, _, Ext.refl gh, .of (.bl _), by rw [dec_int, Bool.beq_eq_decide_eq]; exact h⟩
  · rename_i i j
    cases repV_str rx
    cases repV_str ry
    exact ⟨_, op_eq, rfl, G, _, Ext.refl gh, .of (.bl _), by rw [dec_str, Bool.beq_eq_decide_eq]; exact h⟩
  · rename_i i j
    cases repV_bl rx
    cases repV_bl ry
    exact ⟨_, op_eq, rfl, G, _, Ext.refl gh, .of (.bl _), by rw [dec_bl, Bool.beq_eq_decide_eq]; exact h⟩
  · obtain ⟨⟨p, e1, s1⟩, ⟨q, e2, s2⟩, h⟩ := h
    have kk := S.kk
    refine ⟨_, op_eqD hu, p, q, by rw [← kk]; exact rx.dp gh e1, by rw [← kk]; exact ry.dp gh e2, s1, s2, G, _, Ext.refl gh, .of (.bl _), ?_⟩
    unfold eqD at h
    rw [e1, e2] at h
    exact h
theorem o_ne (hu : S.X.A.units + 64 < cLine) : DOp S (compareOp .NotEq) (rEq true) := .of fun H0 G H x y d e Q s0 gh rx ry h => by
  unfold rEq at h
  split at h
  · rename_i i j
    cases repV_int rx
    cases repV_int ry
    exact ⟨_, op_ne, rfl, G, _, Ext.refl gh, .of (.bl _), by rw [dec_int, Bool.beq_eq_decide_eq]; exact h⟩
  · rename_i i j
    cases repV_str rx
    cases repV_str ry
    exact ⟨_, op_ne, rfl, G, _, Ext.refl gh, .of (.bl _), by rw [dec_str, Bool.beq_eq_decide_eq]; exact h⟩
  · rename_i i j
    cases repV_bl rx
    cases repV_bl ry
    exact ⟨_, op_ne, rfl, G, _, Ext.refl gh, .of (.bl _), by rw [dec_bl, Bool.beq_eq_decide_eq]; exact h⟩
  · obtain ⟨⟨p, e1, s1⟩, ⟨q, e2, s2⟩, h⟩ := h
    have kk := S.kk
    refine ⟨_, op_neD hu, p, q, by rw [← kk]; exact rx.dp gh e1, by rw [← kk]; exact ry.dp gh e2, s1, s2, G, _, Ext.refl gh, .of (.bl _), ?_⟩
    unfold eqD at h
    rw [e1, e2] at h
    exact h
def isNon : D → Bool
  | .non => true
  | _ => false
def rIs (neg : Bool) : RD2 := fun d e Q => match e with
  | .non => Q (.bl (if neg then !isNon d else isNon d))
  | _ => False
theorem isNon_rep {nm : Nm} {H0 G H : Hp} {v : V} {d : D} (r : RepV nm H0 G H v d) : decide (v = .non) = isNon d := by
  cases d with
  | non => cases repV_non r; rfl
  | own l => obtain ⟨p, vs, rfl, _⟩ := r; rfl
  | bor l => obtain ⟨p, vs, rfl, _⟩ := r; rfl
  | bl b => cases repV_bl r; rfl
  | int b => cases repV_int r; rfl
  | str b => cases repV_str r; rfl
  | tup l => cases (show Rep nm G v (.tup l) from r); rfl
  | lst l => cases (show Rep nm G v (.lst l) from r); rfl
  | scr l => cases (show Rep nm G v (.scr l) from r); rfl
  | ins C ns l => cases (show Rep nm G v (.ins C ns l) from r); rfl
  | exc C => cases (show Rep nm G v (.exc C) from r); rfl
theorem o_is : DOp S (compareOp .Is) (rIs false) := .of fun H0 G H x y d e Q s0 gh rx ry h => by
  unfold rIs at h
  split at h
  · cases repV_non ry
    exact ⟨_, op_isN, rfl, G, _, Ext.refl gh, .of (.bl _), by rw [isNon_rep rx]; exact h⟩
  · exact h.elim
theorem o_isnot : DOp S (compareOp .IsNot) (rIs true) := .of fun H0 G H x y d e Q s0 gh rx ry h => by
  unfold rIs at h
  split at h
  · cases repV_non ry
    exact ⟨_, op_notN, rfl, G, _, Ext.refl gh, .of (.bl _), by rw [isNon_rep rx]; exact h⟩
  · exact h.elim

/-! ### subscripts -/
def seqD : D → Option (List D)
  | .lst l => some l
  | .own l => some l
  | .bor l => some l
  | .scr l => some l
  | _ => none
theorem RepV.seqD {nm : Nm} {H0 G H : Hp} {v : V} {d : D} {l : List D} (r : RepV nm H0 G H v d) (gh : Same G H) (e : DD.seqD d = some l) : ∃ p vs, v = .ref p ∧ SqL nm.K H p vs ∧ Reps nm G vs l := by
  cases d with
  | own l' =>
    cases e
    obtain ⟨p, vs, rfl, h1, _, _, q⟩ := r
    exact ⟨p, vs, rfl, .inl (.inl h1), q⟩
  | bor l' =>
    cases e
    obtain ⟨p, vs, rfl, h1, _, q⟩ := r
    exact ⟨p, vs, rfl, .inl (.inl h1), q⟩
  | lst l' =>
    cases e
    have r' : Rep nm G v (.lst l) := r
    cases r' with
    | lst h1 q => exact ⟨_, _, rfl, .inl (.inl (gh _ _ h1)), q⟩
  | scr l' =>
    cases e
    have r' : Rep nm G v (.scr l) := r
    cases r' with
    | scr h1 q => exact ⟨_, _, rfl, Same.seq gh h1, q⟩
  | _ => cases e
theorem Reps.atI {nm : Nm} {G : Hp} {vs : List V} {l : List D} {i : Int} {d : D} (r : Reps nm G vs l) (e : L2.atI l i = some d) : ∃ v, L2.atI vs i = some v ∧ Rep nm G v d := by
  unfold L2.atI at e ⊢
  rw [r.length]
  cases h : ixN l.length i with
  | none => rw [h] at e; cases e
  | some j =>
    rw [h] at e
    exact r.get e
def rIxD : RD2 := fun d e Q => match e with
  | .int i => match d with
    | .tup l => match L2.atI l i with
      | some x => Q x
      | none => False
    | .str z => z.length ≤ sizeLine ∧ match L2.atI z.cps.toList i with
      | some c => Q (.str ⟨#[c]⟩)
      | none => False
    | d => match seqD d with
      | some l => match L2.atI l i with
        | some x => Q x
        | none => False
      | none => False
  | _ => False
def tOrIx (X : Cx) (x : V) (i : Int) (H : Hp) (Q : VK) : Prop := rIxL X.K x (.int i) H Q ∨ rIxT X.K x (.int i) H Q ∨ rIxS x (.int i) H Q
theorem je_ix (ha : JE S a τa) (hb : JE S b τb) (hs : PlainIx b := by exact fun _ _ => rfl) : JE S (.Subscript a b pos) (eOp rIxD τa τb) := by
  refine ⟨fun G H σ ρ Q R h => WX.of (pe_ix (ix_list.or (ix_tup.or ix_str)) pe_w pe_w hs) ?_⟩
  refine (ha.run G H σ ρ _ R h).mono fun x H1 ⟨G1, d, x1, r1, h1⟩ => ?_
  refine (hb.run G1 H1 σ ρ _ (R.go x1) h1).mono fun y H2 ⟨G2, e, x2, r2, h2⟩ => ?_
  have y2 := x1.trans (Ext.from x1.h x2)
  have rd := r1.ext x2
  have kk := S.kk
  cases e with
  | int i =>
    cases repV_int r2
    have main : ∀ l, DD.seqD d = some l → (match L2.atI l i with | some z => Q z | none => False) → tOrIx S.X x i H2 (fun v H' => ∃ G' d, Ext H G H G' H' ∧ RepV S.nm H G' H' v d ∧ Q d) := fun l el hq => by
      split at hq
      · rename_i z ez
        obtain ⟨p, vs, rfl, hp, ra⟩ := rd.seqD y2.gh el
        obtain ⟨v, h3, h4⟩ := ra.atI ez
        exact .inl ⟨p, vs, i, v, rfl, rfl, by rw [← kk]; exact hp, h3, G2, z, y2, .of h4, hq⟩
      · exact hq.elim
    cases d with
    | tup l =>
      have hq : (match L2.atI l i with | some z => Q z | none => False) := h2
      split at hq
      · rename_i z ez
        have rd' : Rep S.nm G2 x (.tup l) := rd
        cases rd' with
        | tup ea ra =>
          obtain ⟨v, h3, h4⟩ := ra.atI ez
          exact .inr (.inl ⟨_, _, i, v, rfl, rfl, .inl (.inl (y2.gh _ _ ea)), h3, G2, z, y2, .of h4, hq⟩)
      · exact hq.elim
    | str z =>
      have hq : z.length ≤ sizeLine ∧ (match L2.atI z.cps.toList i with | some c => Q (.str ⟨#[c]⟩) | none => False) := h2
      obtain ⟨hz, hq⟩ := hq
      cases repV_str rd
      split at hq
      · rename_i c ec
        exact .inr (.inr ⟨z, i, c, rfl, rfl, hz, ec, G2, _, y2, .of (.str _), hq⟩)
      · exact hq.elim
    | lst l => exact main l rfl h2
    | own l => exact main l rfl h2
    | bor l => exact main l rfl h2
    | scr l => exact main l rfl h2
    | _ => exact (show False from h2).elim
  | _ => exact (show False from h2).elim
abbrev TDo := Env → (Option Int → Prop) → Prop
def WO (X : Cx) (e : Option Expr) : TO := fun σ H Q => ∀ (pins : List (Addr × Obj)) (s : Shared), Inv X pins σ H s → wpAny (model X.prog X.w) X.A (evalPart e X.env) (fun u s' => ∃ o H', Inv X pins σ H' s' ∧ IsPart u o ∧ Q o H') X.xe s
theorem po_w {e : Option Expr} : PO S.X e (WO S.X e) := ⟨fun pins s _ _ _ I h => h pins s I⟩
theorem WO.mono {e : Option Expr} {σ : L2.St} {H : Hp} {Q Q' : Option Int → Hp → Prop} (h : WO S.X e σ H Q) (m : ∀ v H', Q v H' → Q' v H') : WO S.X e σ H Q' := fun pins s I => thn (h pins s I) fun _ _ ⟨o, H', I', r, q⟩ => ⟨o, H', I', r, m _ H' q⟩
structure JO (S : Sit) (e : Option Expr) (t : TDo) : Prop where
  run : ∀ (G H : Hp) (σ : L2.St) (ρ : Env) (Q : Option Int → Prop), S.Rel G H σ ρ → t ρ Q → WO S.X e σ H fun o H' => ∃ G', Ext H G H G' H' ∧ Q o
theorem jo_none : JO S none (fun _ Q => Q none) := ⟨fun G H σ ρ Q R h pins s I => po_none.run pins s σ H _ I ⟨G, Ext.refl R.gh, h⟩⟩
theorem jo_some (he : JE S e τa) : JO S (some e) (fun ρ Q => τa ρ fun d => match d with
  | .int i => Q (some i)
  | _ => False) := by
  refine ⟨fun G H σ ρ Q R h pins s I => (po_some pe_w).run pins s σ H _ I ((he.run G H σ ρ _ R h).mono fun v H1 ⟨G1, d, x1, r1, q1⟩ => ?_)⟩
  cases d with
  | int i =>
    cases repV_int r1
    exact ⟨i, rfl, G1, x1, q1⟩
  | _ => exact q1.elim
def cutD (l : List D) (lo hi : Option Int) : List D := (l.drop (HT.sIx l.length 0 lo)).take (HT.sIx l.length l.length hi - HT.sIx l.length 0 lo)
theorem Reps.cutV {nm : Nm} {G : Hp} {vs : List V} {l : List D} {lo hi : Option Int} (r : Reps nm G vs l) : Reps nm G (L2.cutV vs lo hi) (cutD l lo hi) := by
  unfold L2.cutV cutD
  rw [r.length]
  exact (r.drop _).take _
def eSl (τ : TD) (tl th : TDo) : TD := fun ρ Q => τ ρ fun d => tl ρ fun lo => th ρ fun hi => match d with
  | .str z => z.length ≤ sizeLine ∧ Q (.str (cutS z lo hi))
  | d => match seqD d with
    | some l => Q (.own (cutD l lo hi))
    | none => False
theorem je_slice {lo hi : Option Expr} {tl th : TDo} {p2 : Pos} (ha : JE S a τa) (hl : JO S lo tl) (hh : JO S hi th) : JE S (.Subscript a (.Slice lo hi none p2) pos) (eSl τa tl th) := by
  refine ⟨fun G H σ ρ Q R h => WX.of (pe_slice (sl_list.or sl_str) pe_w po_w po_w) ?_⟩
  refine (ha.run G H σ ρ _ R h).mono fun x H1 ⟨G1, d, x1, r1, h1⟩ => ?_
  refine (hl.run G1 H1 σ ρ _ (R.go x1) h1).mono fun lo H2 ⟨G2, x2, h2⟩ => ?_
  have y2 := x1.trans (Ext.from x1.h x2)
  refine (hh.run G2 H2 σ ρ _ (R.go y2) h2).mono fun hi H3 ⟨G3, x3, h3⟩ => ?_
  have y3 := y2.trans (Ext.from y2.h x3)
  have rd := (r1.ext x2).ext x3
  have kk := S.kk
  have main : ∀ l, DD.seqD d = some l → Q (.own (cutD l lo hi)) → rSlL S.X.K x lo hi H3 (fun v H' => ∃ G' d, Ext H G H G' H' ∧ RepV S.nm H G' H' v d ∧ Q d) ∨ rSlS x lo hi H3 (fun v H' => ∃ G' d, Ext H G H G' H' ∧ RepV S.nm H G' H' v d ∧ Q d) := fun l el hq => by
    obtain ⟨p, vs, rfl, hp, ra⟩ := rd.seqD y3.gh el
    refine Or.inl ⟨p, vs, rfl, by rw [← kk]; exact hp, fun q hq' => ?_⟩
    obtain ⟨z1, z2⟩ := new_own (H0 := H) y3.h y3.gh hq' (ra.cutV (lo := lo) (hi := hi))
    exact ⟨G3, _, y3.trans z1, z2, hq⟩
  cases d with
  | str z =>
    cases repV_str rd
    exact .inr ⟨z, rfl, h3.1, G3, _, y3, .of (.str _), h3.2⟩
  | lst l => exact main l rfl h3
  | own l => exact main l rfl h3
  | bor l => exact main l rfl h3
  | scr l => exact main l rfl h3
  | _ => exact (show False from h3).elim

/-! ### more iterators -/
/-- reversed(xs) -/
def iRevD (t : TDs) : TDI := fun ρ Q => t ρ fun ds => match ds with
  | [.lst l] => Q l.reverse
  | [.scr l] => Q l.reverse
  | _ => False
theorem gives_rev {nm : Nm} {G : Hp} {a : Addr} {vs : List V} {ds : List D} (hq : SqL nm.K G a vs) (r : Reps nm G vs ds) : Gives nm G (Itv nm.K a vs.length) ds.reverse := by
  refine ⟨vs.length, _, _, by simp [r.length], walk_rev, fun H2 s => Same.seq s hq, fun i x H2 H3 s hi ⟨e1, e2⟩ => ?_⟩
  obtain ⟨d, h1, h2⟩ := r.getV e2
  refine ⟨d, ?_, .inl ⟨e1, h2⟩⟩
  rw [List.getElem?_reverse (by rw [← r.length]; exact hi), ← r.length]
  exact h1
theorem ji_rev {tg : Expr} {t : TDs} {p : Pos} (hg : Gl S.X "reversed") (hm : S.X.mg "reversed" = none) (ha : JA' S [a] t) (hs : starEach [a] S.X.env = [(false, eval a S.X.env)] := by rfl) : JI S tg (.Call (.Name "reversed" p) [a] [] pos) (iRevD t) := by
  refine ⟨fun G H σ ρ Q R h => fun pins s I => (pi_reversed hg hm pa_w hs).run pins s σ H _ I ((ha.run G H σ ρ _ R h).mono fun vs H1 ⟨G1, ds, x1, r1, q1⟩ => ?_)⟩
  have kk := S.kk
  match ds, r1, q1 with
  | [.lst l], .cons (v := v) rv _ .nil, q1 =>
    have r' : Rep S.nm G1 v (.lst l) := rv
    cases r' with
    | lst ea ra => exact ⟨_, _, rfl, .inl (.inl (x1.gh _ _ ea)), G1, _, x1, by rw [← kk]; exact gives_rev (.inl (.inl ea)) ra, q1⟩
  | [.scr l], .cons (v := v) rv _ .nil, q1 =>
    have r' : Rep S.nm G1 v (.scr l) := rv
    cases r' with
    | scr ea ra => exact ⟨_, _, rfl, by rw [← kk]; exact Same.seq x1.gh ea, G1, _, x1, by rw [← kk]; exact gives_rev ea ra, q1⟩
/-- enumerate(xs), to two targets -/
def enumD (n : Nat) : List D → List D
  | [] => []
  | d :: ds => .tup [.int n, d] :: enumD (n + 1) ds
theorem enumD_length : ∀ (ds : List D) (n : Nat), (enumD n ds).length = ds.length
  | [], _ => rfl
  | _ :: ds, n => by simp [enumD, enumD_length ds]
theorem enumD_get : ∀ (ds : List D) (n i : Nat) (d : D), ds[i]? = some d → (enumD n ds)[i]? = some (.tup [.int ((n + i : Nat) : Int), d])
  | [], _, _, _, h => by simp at h
  | d :: ds, n, 0, _, h => by simp at h; subst h; simp [enumD]
  | _ :: ds, n, i + 1, d, h => by
    have := enumD_get ds (n + 1) i d (by simpa using h)
    simp only [enumD, List.getElem?_cons_succ, this]
    congr 4
    simp
    omega
theorem gives_enum {nm : Nm} {G : Hp} {a : Addr} {vs : List V} {ds : List D} (hq : SqL nm.K G a vs) (r : Reps nm G vs ds) : Gives nm G (Ite nm.K a) (enumD 0 ds) := by
  refine ⟨vs.length, _, _, by rw [enumD_length, r.length], walk_enum, fun H2 s => Same.seq s hq, fun i x H2 H3 s hi ⟨T, u, v, e1, e2, e3, e4, e5⟩ => ?_⟩
  obtain ⟨d, h1, h2⟩ := r.getV e5
  refine ⟨_, enumD_get ds 0 i d h1, .inr ⟨T, u, v, _, d, e1, e2, e3, rfl, ?_, h2⟩⟩
  cases e4
  rw [Nat.zero_add]
  exact .int _
def iEnumD (t : TDs) : TDI := fun ρ Q => t ρ fun ds => match ds with
  | [.lst l] => Q (enumD 0 l)
  | [.scr l] => Q (enumD 0 l)
  | _ => False
theorem ji_enum {elts : List Expr} {kk : Nat} {tpos : Pos} {t : TDs} {p : Pos} (hg : Gl S.X "enumerate") (hm : S.X.mg "enumerate" = none) (ha : JA' S [a] t) (hs : starEach [a] S.X.env = [(false, eval a S.X.env)] := by rfl) :
    JI S (.Tuple elts kk tpos) (.Call (.Name "enumerate" p) [a] [] pos) (iEnumD t) := by
  refine ⟨fun G H σ ρ Q R h => fun pins s I => (pi_enum hg hm pa_w hs).run pins s σ H _ I ((ha.run G H σ ρ _ R h).mono fun vs H1 ⟨G1, ds, x1, r1, q1⟩ => ?_)⟩
  have kk := S.kk
  match ds, r1, q1 with
  | [.lst l], .cons (v := v) rv _ .nil, q1 =>
    have r' : Rep S.nm G1 v (.lst l) := rv
    cases r' with
    | lst ea ra => exact ⟨_, _, rfl, .inl (.inl (x1.gh _ _ ea)), G1, _, x1, by rw [← kk]; exact gives_enum (.inl (.inl ea)) ra, q1⟩
  | [.scr l], .cons (v := v) rv _ .nil, q1 =>
    have r' : Rep S.nm G1 v (.scr l) := rv
    cases r' with
    | scr ea ra => exact ⟨_, _, rfl, by rw [← kk]; exact Same.seq x1.gh ea, G1, _, x1, by rw [← kk]; exact gives_enum ea ra, q1⟩
/-- zip(xs, ys), to two targets -/
def zipD (l m : List D) : List D := List.zipWith (fun a b => .tup [a, b]) l m
theorem gives_zip {nm : Nm} {G : Hp} {a b : Addr} {vs us : List V} {ds es : List D} (hq : SqL nm.K G a vs) (hq2 : SqL nm.K G b us) (r : Reps nm G vs ds) (r2 : Reps nm G us es) : Gives nm G (Itz nm.K a b) (zipD ds es) := by
  refine ⟨min vs.length us.length, _, _, by simp [zipD, r.length, r2.length], walk_zip rfl, fun H2 s => ⟨Same.seq s hq, Same.seq s hq2⟩, fun i x H2 H3 s hi ⟨T, u, v, e1, e2, e3, e4, e5⟩ => ?_⟩
  obtain ⟨d, h1, h2⟩ := r.getV e4
  obtain ⟨d', h3, h4⟩ := r2.getV e5
  refine ⟨.tup [d, d'], ?_, .inr ⟨T, u, v, d, d', e1, e2, e3, rfl, h2, h4⟩⟩
  unfold zipD
  rw [List.getElem?_zipWith, h1, h3]
def iZipD (t : TDs) : TDI := fun ρ Q => t ρ fun ds => match ds with
  | [.lst l, .lst m] => Q (zipD l m)
  | _ => False
theorem ji_zip {elts : List Expr} {kk : Nat} {tpos : Pos} {t : TDs} {p : Pos} (hg : Gl S.X "zip") (hm : S.X.mg "zip" = none) (ha : JA' S [a, b] t) (hs : starEach [a, b] S.X.env = (false, eval a S.X.env) :: starEach [b] S.X.env := by rfl) (hpl : (backTo pos (starEach [b] S.X.env)).any (·.1) = false := by rfl) :
    JI S (.Tuple elts kk tpos) (.Call (.Name "zip" p) [a, b] [] pos) (iZipD t) := by
  refine ⟨fun G H σ ρ Q R h => fun pins s I => (pi_zip hg hm pa_w hs hpl).run pins s σ H _ I ((ha.run G H σ ρ _ R h).mono fun vs H1 ⟨G1, ds, x1, r1, q1⟩ => ?_)⟩
  have kk := S.kk
  match ds, r1, q1 with
  | [.lst l, .lst m], .cons (v := v) rv _ (.cons (v := v2) rv2 _ .nil), q1 =>
    have r' : Rep S.nm G1 v (.lst l) := rv
    have r2' : Rep S.nm G1 v2 (.lst m) := rv2
    cases r' with
    | lst ea ra =>
      cases r2' with
      | lst eb rb => exact ⟨_, _, _, _, rfl, .inl (.inl (x1.gh _ _ ea)), .inl (.inl (x1.gh _ _ eb)), G1, _, x1, by rw [← kk]; exact gives_zip (.inl (.inl ea)) (.inl (.inl eb)) ra rb, q1⟩

/-! ### [elt for x in xs if ..] -/
abbrev Sit.blk (S : Sit) (s : Shared) (H : Hp) (scope : Scope) (cenv : PySem.Env) (fp : List Addr) : Sit := { S with X := S.X.blk s H scope cenv fp, ex := fun _ _ => False }
def lcR (i : Nat) (tt : TDt) (τ : TD) : List D → Env → (List D → Prop) → Prop
  | [], _, Q => Q []
  | d :: ds, ρ, Q => Nx (fun ρ1 => tt ρ1 fun b => (b = true → τ ρ1 fun y => isBor y = false ∧ lcR i tt τ ds ρ fun ys => Q (frzO y :: ys)) ∧ (b = false → lcR i tt τ ds ρ Q)) (put ρ i (some d))
def eLc (ι : TDI) (i : Nat) (tt : TDt) (τ : TD) : TD := fun ρ Q => ι ρ fun ds => ds.length < sizeLine ∧ lcR i tt τ ds ρ fun ys => Q (.own ys)
def dTrue : TDt := fun _ Q => Q true
structure JTs (S : Sit) (ifs : List Expr) (tt : TDt) : Prop where
  run : ∀ (G H : Hp) (σ : L2.St) (ρ : Env) (Q : Bool → Prop), S.Rel G H σ ρ → tt ρ Q → ∀ (pins : List (Addr × Obj)) (s : Shared), Inv S.X pins σ H s →
    wpAny (model S.X.prog S.X.w) S.X.A (forIn ifs true fun c r => if r = true then do let ok ← isTrue c S.X.env (eval c S.X.env); pure (ForInStep.yield ok) else pure (ForInStep.yield r)) (TP S.X pins σ fun b H' => ∃ G', Ext H G H G' H' ∧ Q b) S.X.xe s
theorem jts_nil : JTs S [] dTrue := ⟨fun G H σ ρ Q R h pins s I => pts_nil.run pins s σ H _ I ⟨G, Ext.refl R.gh, h⟩⟩
theorem jts_one {tt : TDt} (h : JT S c tt) : JTs S [c] tt := ⟨fun G H σ ρ Q R q pins s I => (pts_one pt_w).run pins s σ H _ I (h.run G H σ ρ Q R q)⟩
/-- the block's readings at every block -/
def UE (X : Cx) (scope : Scope) (e : Expr) : TE := fun σ H Q => ∀ (s : Shared) (H0 : Hp) (C : Addr) (cl : List (Str × Addr)) (fp : List Addr), WX (X.blk s H0 scope (compEnvC scope cl C X.env) fp) e σ H Q
def UT (X : Cx) (scope : Scope) (ifs : List Expr) : TT := fun σ H Q => ∀ (s0 : Shared) (H0 : Hp) (C : Addr) (cl : List (Str × Addr)) (fp : List Addr) (pins : List (Addr × Obj)) (s : Shared), Inv (X.blk s0 H0 scope (compEnvC scope cl C X.env) fp) pins σ H s →
    wpAny (model X.prog X.w) X.A (forIn ifs true fun c r => if r = true then do let ok ← isTrue c (compEnvC scope cl C X.env) (eval c (compEnvC scope cl C X.env)); pure (ForInStep.yield ok) else pure (ForInStep.yield r)) (TP (X.blk s0 H0 scope (compEnvC scope cl C X.env) fp) pins σ Q) (fun _ _ => False) s
theorem lc_run {x : Str} {px : Pos} {elt iter : Expr} {ifs : List Expr} {scope : Scope} {i : Nat} {ι : TDI} {tt : TDt} {τ : TD} (hi : JI S (.Name x px) iter ι)
    (ht : ∀ (s : Shared) (H : Hp) (C : Addr) (cl : List (Str × Addr)) (fp : List Addr), JTs (S.blk s H scope (compEnvC scope cl C S.X.env) fp) ifs tt)
    (he : ∀ (s : Shared) (H : Hp) (C : Addr) (cl : List (Str × Addr)) (fp : List Addr), JE (S.blk s H scope (compEnvC scope cl C S.X.env) fp) elt τ)
    {G H : Hp} {σ : L2.St} {ρ : Env} {Q : D → Prop} (R : S.Rel G H σ ρ) (h : eLc ι i tt τ ρ Q) :
    tLc (WI S.X (.Name x px) iter) (gName i) (UT S.X scope ifs) (UE S.X scope elt) [i] σ H fun v H' => ∃ G' d, Ext H G H G' H' ∧ RepV S.nm H G' H' v d ∧ Q d := by
  refine fun pins s I => thn (hi.run G H σ ρ _ R h pins s I) fun v s1 h1 => thn h1 fun itv s2 h2 => ?_
  obtain ⟨it, fp, tn, J, H2, e1, e2, e3, e4, e5, G1, ds, x1, gv, hz, q⟩ := h2
  refine ⟨it, fp, tn, J, H2, e1, e2, e3, e4, e5, fun L hL => ?_⟩
  obtain ⟨n, Gp, Y, en, wk, hG, hY⟩ := gv
  subst en
  have gL : G1 L = none := x1.gh.free hL
  have bL : H L = none := x1.h.free hL
  -- the list under way stands at L; what is made so far is known in G'
  refine lc_it wk (fun k H' => ∃ (G' : Hp) (acc : List V) (ys : List D), Same G1 G' ∧ Ext H G H G' H' ∧ G' L = none ∧ H' L = some (.lst acc) ∧ Reps S.nm G' acc ys ∧ ys.length ≤ k ∧ k ≤ ds.length ∧ lcR i tt τ (ds.drop k) ρ fun zs => Q (.own (ys ++ zs))) ?_ (fun k H' _ ⟨G', acc, ys, sg, x', _⟩ => hG H' (sg.trans x'.gh)) (fun k x H' H'' hk ⟨G', acc, ys, sg, x', nL, aL, ra, ly, lk, q⟩ y => ?_) fun H' ⟨G', acc, ys, sg, x', nL, aL, ra, ly, lk, q⟩ => ?_
  · exact ⟨G1, [], [], Same.refl G1, x1.trans (Ext.grow x1.gh (same_upd hL)), gL, upd_same, .nil, Nat.le_refl _, Nat.zero_le _, q⟩
  · obtain ⟨d, ed, hd⟩ := hY k x H' H'' (sg.trans x'.gh) hk y
    have e : ds.drop k = d :: ds.drop (k + 1) := by
      rw [List.drop_eq_getElem_cons hk]
      rw [List.getElem?_eq_getElem hk] at ed
      cases ed
      rfl
    rw [e] at q
    have q := Nx.getS (show Nx _ (put _ _ _) from q)
    have R' : S.Rel G' H' σ ρ := R.go x'
    have st : ∃ G3, Ext H' G' H' G3 H'' ∧ RepV S.nm H' G3 H'' x d ∧ isBor d = false := by
      rcases hd with ⟨eh, rx⟩ | ⟨T, a, b, da, db, ex, nT, eh, edt, ra, rb⟩
      · subst eh
        refine ⟨G', Ext.refl x'.gh, .of (Rep.mono sg _ _ rx), ?_⟩
        cases d <;> first | rfl | cases rx
      · subst eh ex edt
        obtain ⟨G3, z1, z2⟩ := new_tup (nm := S.nm) (H0 := H') (Same.refl H') x'.gh nT (.cons (Rep.mono sg _ _ ra) (.cons (Rep.mono sg _ _ rb) .nil))
        exact ⟨G3, z1, z2, rfl⟩
    obtain ⟨G3, x3, r3, nb⟩ := st
    have R3 : S.Rel G3 H'' (σ.set i (some x)) (ρ.set i (some d)) := R'.set i x3 r3 nb
    have y3 : Ext H G H G3 H'' := x'.trans (Ext.from x'.h x3)
    have L3 : H'' L = some (.lst acc) := x3.h _ _ aL
    have N3 : G3 L = none := x3.new L nL (by rw [aL]; exact fun z => by cases z)
    show wipe ((wipe σ [i]).set i (some x)) [i] = wipe σ [i] ∧ UT S.X scope ifs ((wipe σ [i]).set i (some x)) H'' _
    have es : (wipe σ [i]).set i (some x) = σ.set i (some x) := by
      show (σ.set i none).set i (some x) = _
      rw [List.set_set]
    refine ⟨?_, ?_⟩
    · show ((σ.set i none).set i (some x)).set i none = σ.set i none
      rw [List.set_set, List.set_set]
    · rw [es]
      intro s0 H0 C cl fp' pins' s' I'
      refine thn ((ht s0 H0 C cl fp').run G3 H'' _ _ _ R3 q pins' s' I') fun b s5 ⟨H5, I5, G5, x5, q5⟩ => ⟨H5, I5, ?_⟩
      have y5 : Ext H G H G5 H5 := y3.trans (Ext.from y3.h x5)
      have L5 : H5 L = some (.lst acc) := x5.h _ _ L3
      have N5 : G5 L = none := x5.new L N3 (by rw [L3]; exact fun z => by cases z)
      cases b with
      | false =>
        dsimp only
        rw [if_neg Bool.false_ne_true]
        exact ⟨G5, acc, ys, ((sg.trans x3.g).trans x5.g), y5, N5, L5, (ra.mono x3.g).mono x5.g, Nat.le_trans ly (Nat.le_succ k), hk, q5.2 rfl⟩
      | true =>
        dsimp only
        rw [if_pos rfl]
        intro s6 H6 C6 cl6 fp6
        refine ((he s6 H6 C6 cl6 fp6).run G5 H5 _ _ _ (R3.go x5) (q5.1 rfl)).mono fun yv H7 ⟨G7, dy, x7, r7, nb7, q7⟩ => ?_
        obtain ⟨G8, x8, r8⟩ := r7.freeze x7.gh nb7
        have z8 : Ext H5 G5 H5 G8 H7 := x7.trans x8
        have y8 : Ext H G H G8 H7 := y5.trans (Ext.from y5.h z8)
        have L8 : H7 L = some (.lst acc) := x7.h _ _ L5
        have N8 : G8 L = none := z8.new L N5 (by rw [L5]; exact fun z => by cases z)
        have ra8 := ((ra.mono x3.g).mono x5.g).mono z8.g
        refine ⟨acc, L8, ?_, ?_⟩
        · rw [ra.length]
          omega
        · have ef : frz dy = frzO dy := by
            cases dy <;> first | rfl | cases nb7
          have eq1 : (fun zs => Q (D.own ((ys ++ [frzO dy]) ++ zs))) = fun zs => Q (D.own (ys ++ (frzO dy :: zs))) := by
            funext zs
            rw [List.append_assoc]
            rfl
          refine ⟨G8, acc ++ [yv], ys ++ [frzO dy], ((sg.trans x3.g).trans x5.g).trans z8.g, ⟨y8.g, fun c o ec => ?_, fun c o ec => ?_, y8.new⟩, N8, upd_same, ra8.append (.cons (by rw [← ef]; exact r8) .nil), by simp; omega, hk, ?_⟩
          · rw [upd_ne (ne_of_none ec bL)]
            exact y8.h _ _ ec
          · rw [upd_ne (ne_of_none ec N8)]
            exact y8.gh _ _ ec
          · rw [eq1]
            exact q7
  · rw [List.drop_length] at q
    have q' : Q (.own (ys ++ [])) := q
    rw [List.append_nil] at q'
    exact ⟨G', .own ys, x', ⟨L, acc, rfl, aL, nL, bL, ra⟩, q'⟩
theorem je_lc {x : Str} {px : Pos} {elt iter : Expr} {ifs : List Expr} {scope : Scope} {i : Nat} {ι : TDI} {tt : TDt} {τ : TD} (hc : S.X.calm = true) (hN : S.X.N.Nodup) (hi : JI S (.Name x px) iter ι) (ok : BlkOk S.X.N S.X.env.scope scope [(x, i)])
    (hg : ∀ (s : Shared) (H : Hp) (C : Addr) (cl : List (Str × Addr)) (fp : List Addr), PG (S.X.blk s H scope (compEnvC scope cl C S.X.env) fp) (.Name x px) (gName i))
    (ht : ∀ (s : Shared) (H : Hp) (C : Addr) (cl : List (Str × Addr)) (fp : List Addr), JTs (S.blk s H scope (compEnvC scope cl C S.X.env) fp) ifs tt)
    (he : ∀ (s : Shared) (H : Hp) (C : Addr) (cl : List (Str × Addr)) (fp : List Addr), JE (S.blk s H scope (compEnvC scope cl C S.X.env) fp) elt τ) (hs : ∀ x, foldedSetIterable iter S.X.env x = pure x := by intro _; rfl) :
    JE S (.ListComp elt [⟨.Name x px, iter, ifs, 0⟩] scope pos) (eLc ι i tt τ) := by
  refine ⟨fun G H σ ρ Q R h => WX.of (pe_lc (own := [(x, i)]) (tt := UT S.X scope ifs) (te := UE S.X scope elt) hc hN pi_w ok hg (fun s H C cl fp => ⟨fun pins s' σ H Q I h => h s _ C cl fp pins s' I⟩) (fun s H C cl fp => ⟨fun pins s' σ H Q I h => h s _ C cl fp pins s' I⟩) hs) (lc_run hi ht he R h)⟩
theorem tLc_mono {tg iter : Expr} {g : TG} {tt : TT} {te : TE} {vs : List Nat} {σ : L2.St} {H : Hp} {Q Q' : VK} (h : tLc (WI S.X tg iter) g tt te vs σ H Q) (m : ∀ v H', Q v H' → Q' v H') : tLc (WI S.X tg iter) g tt te vs σ H Q' := by
  refine fun pins s I => thn (h pins s I) fun v s1 h1 => thn h1 fun itv s2 h2 => ?_
  obtain ⟨it, fp, tn, J, H2, e1, e2, e3, e4, e5, q⟩ := h2
  refine ⟨it, fp, tn, J, H2, e1, e2, e3, e4, e5, fun L hL => ?_⟩
  obtain ⟨W, w0, turn⟩ := q L hL
  refine ⟨W, w0, fun i n H hw => ?_⟩
  rcases turn i n H hw with ⟨a, b⟩ | z
  · exact .inl ⟨a, m _ _ b⟩
  · exact .inr z
/-- y = [..] on one line -/
theorem js_setLc {j : Nat} {y : Str} {py : Pos} {spos : Pos} {x : Str} {px : Pos} {elt iter : Expr} {ifs : List Expr} {scope : Scope} {i : Nat} {ι : TDI} {tt : TDt} {τ : TD} (hc : S.X.calm = true) (hN : S.X.N.Nodup) (hy : S.X.N[j]? = some y) (hyl : S.X.env.scope.names.lookup y = some .local)
    (hsw : swapsWith (.ListComp elt [⟨.Name x px, iter, ifs, 0⟩] scope pos) (some (.Name y py)) spos.line S.X.env = pure true) (hi : JI S (.Name x px) iter ι) (ok : BlkOk S.X.N S.X.env.scope scope [(x, i)])
    (hg : ∀ (s : Shared) (H : Hp) (C : Addr) (cl : List (Str × Addr)) (fp : List Addr), PG (S.X.blk s H scope (compEnvC scope cl C S.X.env) fp) (.Name x px) (gName i))
    (ht : ∀ (s : Shared) (H : Hp) (C : Addr) (cl : List (Str × Addr)) (fp : List Addr), JTs (S.blk s H scope (compEnvC scope cl C S.X.env) fp) ifs tt)
    (he : ∀ (s : Shared) (H : Hp) (C : Addr) (cl : List (Str × Addr)) (fp : List Addr), JE (S.blk s H scope (compEnvC scope cl C S.X.env) fp) elt τ) (hs : ∀ x, foldedSetIterable iter S.X.env x = pure x := by intro _; rfl) :
    JS S (.Assign [.Name y py] (.ListComp elt [⟨.Name x px, iter, ifs, 0⟩] scope pos) spos) (dSet j (eLc ι i tt τ)) := by
  refine ⟨fun G H σ ρ E R h => WS.of (ps_setLc (own := [(x, i)]) (tt := UT S.X scope ifs) (te := UE S.X scope elt) hc hN hy hyl hsw pi_w ok hg (fun s H C cl fp => ⟨fun pins s' σ H Q I h => h s _ C cl fp pins s' I⟩) (fun s H C cl fp => ⟨fun pins s' σ H Q I h => h s _ C cl fp pins s' I⟩) hs) ?_⟩
  have q := lc_run hi ht he (Q := fun d => isBor d = false ∧ Nx E.nx (put ρ j (some d))) R h
  refine tLc_mono q fun v H1 ⟨G1, d, x1, r1, nb, q1⟩ => ?_
  exact ⟨G1, _, R.set j x1 r1 nb, x1.g, q1.getS⟩
end
end DD

set_option Elab.async false
set_option linter.all false
set_option maxRecDepth 100000
set_option maxHeartbeats 1000000
namespace DD
open PySem PySem.Spec PyProof.Rows L2
section
variable {S : Sit} {a b c e : Expr} {es : List Expr} {pos : Pos} {τa τb τc : TD} {st : Stmt} {sts : List Stmt} {t u : TDS}

/-! ### built-ins -/
theorem RepA.one {nm : Nm} {G H : Hp} {vs : List V} {d : D} (r : RepA nm G H vs [d]) : ∃ v, vs = [v] ∧ RepV nm H G H v d ∧ isOwn d = false := by
  match r with
  | .cons r n .nil => exact ⟨_, rfl, r, n⟩
def cLen : RDs := fun ds Q => match ds with
  | [d] => match d with
    | .str z => z.length ≤ sizeLine ∧ Q (.int z.length)
    | .tup l => Q (.int l.length)
    | d => match seqD d with
      | some l => Q (.int l.length)
      | none => False
  | _ => False
theorem k_len : DCall S (.builtin "len") cLen := .of fun H0 G H xs ds Q s0 gh r h => by
  match ds, r, h with
  | [d], r, h =>
    obtain ⟨v, rfl, rv, _⟩ := r.one
    have kk := S.kk
    have main : ∀ l, DD.seqD d = some l → Q (.int l.length) → ∃ r', CallR S.X (.builtin "len") r' ∧ r' [v] H fun z H' => ∃ G' d', Ext H0 G H G' H' ∧ RepV S.nm H0 G' H' z d' ∧ Q d' := fun l el hq => by
      obtain ⟨p, vs, rfl, hp, ra⟩ := rv.seqD gh el
      exact ⟨_, call_len_seq, p, vs, rfl, .inl (by rw [← kk]; exact hp), G, _, Ext.refl gh, .of (.int _), by rw [ra.length]; exact hq⟩
    cases d with
    | str z =>
      cases repV_str rv
      exact ⟨_, call_len_str, z, rfl, h.1, G, _, Ext.refl gh, .of (.int _), h.2⟩
    | tup l =>
      have r' : Rep S.nm G v (.tup l) := rv
      cases r' with
      | tup ea ra => exact ⟨_, call_len_seq, _, _, rfl, .inr (.inl (.inl (gh _ _ ea))), G, _, Ext.refl gh, .of (.int _), by rw [ra.length]; exact h⟩
    | lst l => exact main l rfl h
    | own l => exact main l rfl h
    | bor l => exact main l rfl h
    | scr l => exact main l rfl h
    | _ => exact (show False from h).elim
def cAbs : RDs := fun ds Q => match ds with
  | [.int i] => Q (.int (if i < 0 then -i else i))
  | _ => False
theorem k_abs : DCall S (.builtin "abs") cAbs := .of fun H0 G H xs ds Q s0 gh r h => by
  match ds, r, h with
  | [.int i], r, h =>
    cases repA_int1 r
    exact ⟨_, call_abs, i, rfl, G, _, Ext.refl gh, .of (.int _), h⟩
def cMax : RDs := fun ds Q => match ds with
  | [.int i, .int j] => Q (.int (if j > i then j else i))
  | _ => False
theorem k_max (hc : S.X.calm = true) : DCall S (.builtin "max") cMax := .of fun H0 G H xs ds Q s0 gh r h => by
  match ds, r, h with
  | [.int i, .int j], r, h =>
    cases repA_int2 r
    exact ⟨_, call_max2 hc, i, j, rfl, G, _, Ext.refl gh, .of (.int _), h⟩
def cMin : RDs := fun ds Q => match ds with
  | [.int i, .int j] => Q (.int (if j < i then j else i))
  | _ => False
theorem k_min (hc : S.X.calm = true) : DCall S (.builtin "min") cMin := .of fun H0 G H xs ds Q s0 gh r h => by
  match ds, r, h with
  | [.int i, .int j], r, h =>
    cases repA_int2 r
    exact ⟨_, call_min2 hc, i, j, rfl, G, _, Ext.refl gh, .of (.int _), h⟩
def cDivmod : RDs := fun ds Q => match ds with
  | [.int i, .int j] => CDivP i j ∧ Q (.tup [.int (i / j), .int (i % j)])
  | _ => False
theorem k_divmod : DCall S (.builtin "divmod") cDivmod := .of fun H0 G H xs ds Q s0 gh r h => by
  match ds, r, h with
  | [.int i, .int j], r, h =>
    cases repA_int2 r
    refine ⟨_, call_divmodW, i, j, rfl, h.1, fun p hp => ?_⟩
    obtain ⟨G', x1, x2⟩ := new_tup (nm := S.nm) s0 gh hp (.cons (.int (i / j)) (.cons (.int (i % j)) .nil))
    exact ⟨G', _, x1, x2, h.2⟩
def cList : RDs := fun ds Q => match ds with
  | [d] => match d with
    | .tup l => Q (.own l)
    | d => match seqD d with
      | some l => Q (.own l)
      | none => False
  | _ => False
theorem k_list : DCall S (.type "list") cList := .of fun H0 G H xs ds Q s0 gh r h => by
  match ds, r, h with
  | [d], r, h =>
    obtain ⟨v, rfl, rv, _⟩ := r.one
    have kk := S.kk
    have main : ∀ l, DD.seqD d = some l → Q (.own l) → ∃ r', CallR S.X (.type "list") r' ∧ r' [v] H fun z H' => ∃ G' d', Ext H0 G H G' H' ∧ RepV S.nm H0 G' H' z d' ∧ Q d' := fun l el hq => by
      obtain ⟨p, vs, rfl, hp, ra⟩ := rv.seqD gh el
      refine ⟨_, call_list_of, p, vs, rfl, .inl (by rw [← kk]; exact hp), fun q hq' => ?_⟩
      obtain ⟨z1, z2⟩ := new_own s0 gh hq' ra
      exact ⟨G, _, z1, z2, hq⟩
    cases d with
    | tup l =>
      have r' : Rep S.nm G v (.tup l) := rv
      cases r' with
      | tup ea ra =>
        refine ⟨_, call_list_of, _, _, rfl, .inr (.inl (.inl (gh _ _ ea))), fun q hq' => ?_⟩
        obtain ⟨z1, z2⟩ := new_own s0 gh hq' ra
        exact ⟨G, _, z1, z2, h⟩
    | lst l => exact main l rfl h
    | own l => exact main l rfl h
    | bor l => exact main l rfl h
    | scr l => exact main l rfl h
    | _ => exact (show False from h).elim
/-- a row of ints, of truths -/
def intsD (ns : List Int) : List D := ns.map D.int
def blsD (bs : List Bool) : List D := bs.map D.bl
theorem reps_ints {nm : Nm} {G : Hp} : ∀ {ns : List Int} {vs : List V}, Reps nm G vs (intsD ns) → vs = ns.map V.int
  | [], _, .nil => rfl
  | n :: ns, _, .cons r q => by
    cases r
    rw [reps_ints q]
    rfl
theorem ints_reps {nm : Nm} {G : Hp} : ∀ {ns : List Int}, Reps nm G (ns.map V.int) (intsD ns)
  | [] => .nil
  | n :: ns => .cons (.int n) ints_reps
theorem reps_bls {nm : Nm} {G : Hp} : ∀ {ns : List Bool} {vs : List V}, Reps nm G vs (blsD ns) → vs = ns.map V.bl
  | [], _, .nil => rfl
  | n :: ns, _, .cons r q => by
    cases r
    rw [reps_bls q]
    rfl
def cSum : RDs := fun ds Q => ∃ ns : List Int, (ds = [.lst (intsD ns)] ∨ ds = [.bor (intsD ns)]) ∧ Q (.int ns.sum)
theorem k_sum (hc : S.X.calm = true) : DCall S (.builtin "sum") cSum := .of fun H0 G H xs ds Q s0 gh r h => by
  obtain ⟨ns, e, h⟩ := h
  have kk := S.kk
  have ex : ∃ d, ds = [d] ∧ DD.seqD d = some (intsD ns) := by rcases e with e | e <;> exact ⟨_, e, rfl⟩
  obtain ⟨d, rfl, ed⟩ := ex
  obtain ⟨v, rfl, rv, _⟩ := r.one
  obtain ⟨p, vs, rfl, hp, ra⟩ := rv.seqD gh ed
  refine ⟨_, cr_sum hc, p, ns, rfl, ?_, G, _, Ext.refl gh, .of (.int _), h⟩
  rw [← kk, ← reps_ints ra]
  exact hp
def cAny : RDs := fun ds Q => ∃ ns : List Bool, (ds = [.lst (blsD ns)] ∨ ds = [.bor (blsD ns)]) ∧ Q (.bl (ns.any id))
theorem k_any (hc : S.X.calm = true) : DCall S (.builtin "any") cAny := .of fun H0 G H xs ds Q s0 gh r h => by
  obtain ⟨ns, e, h⟩ := h
  have kk := S.kk
  have ex : ∃ d, ds = [d] ∧ DD.seqD d = some (blsD ns) := by rcases e with e | e <;> exact ⟨_, e, rfl⟩
  obtain ⟨d, rfl, ed⟩ := ex
  obtain ⟨v, rfl, rv, _⟩ := r.one
  obtain ⟨p, vs, rfl, hp, ra⟩ := rv.seqD gh ed
  refine ⟨_, cr_any hc, p, ns, rfl, ?_, G, _, Ext.refl gh, .of (.bl _), h⟩
  rw [← kk, ← reps_bls ra]
  exact hp
def cStr : RDs := fun ds Q => match ds with
  | [.int i] => i.natAbs.log2 < 1920 ∧ Q (.str (toString i))
  | _ => False
theorem k_str : DCall S (.type "str") cStr := .of fun H0 G H xs ds Q s0 gh r h => by
  match ds, r, h with
  | [.int i], r, h =>
    cases repA_int1 r
    exact ⟨_, call_str_int, i, rfl, h.1, G, _, Ext.refl gh, .of (.str _), h.2⟩
def cInt : RDs := fun ds Q => match ds with
  | [.str z] => ∃ n, PySem.intText? z = some n ∧ z.length ≤ 640 ∧ Q (.int n)
  | _ => False
theorem k_int : DCall S (.type "int") cInt := .of fun H0 G H xs ds Q s0 gh r h => by
  match ds, r, h with
  | [.str z], r, h =>
    obtain ⟨v, rfl, rv, _⟩ := r.one
    cases repV_str rv
    obtain ⟨n, h1, h2, h⟩ := h
    exact ⟨_, call_int_str, z, n, rfl, h1, h2, G, _, Ext.refl gh, .of (.int _), h⟩

/-! ### isinstance -/
inductive Bt where
  | tup | int | bl | lst | str | ve
def Bt.nm : Bt → String
  | .tup => "tuple"
  | .int => "int"
  | .bl => "bool"
  | .lst => "list"
  | .str => "str"
  | .ve => "ValueError"
/-- a class by name: a built-in type, one of the text's -/
inductive Cn where
  | ty (T : Bt)
  | own (C : Str)
def Cn.v (nm : Nm) : Cn → V
  | .ty T => .ty T.nm
  | .own C => .ref (nm.ad C)
def Cn.val (nm : Nm) : Cn → Value
  | .ty T => .type T.nm
  | .own C => .ref (nm.ad C)
/-- what a class of the text must say for isinstance of its instances -/
structure InsTy (K : PySem.W.Frag) (C : Addr) : Prop where
  cl : Cls K C
  ha : PySem.W.findIn K (.ref C) "__class__" = some (some (.builtin "object.__class__"))
  hn : PySem.W.specialIn K (.builtin "object.__class__") "__get__" = some (some (.builtin "getset_descriptor.__get__"))
  ht : PySem.W.takesIn K (.builtin "object.__class__") = some true
  hm : PySem.W.mroIn K C (.type "object") = some true
def tyD : D → Option String
  | .non => some "NoneType"
  | .bl _ => some "bool"
  | .int _ => some "int"
  | .str _ => some "str"
  | .tup _ => some "tuple"
  | .lst _ => some "list"
  | .own _ => some "list"
  | .bor _ => some "list"
  | .scr _ => some "list"
  | .ins _ _ _ => none
  | .exc _ => none
def isB : D → Bt → Bool
  | .tup _, .tup => true
  | .int _, .int => true
  | .bl _, .int => true
  | .bl _, .bl => true
  | .lst _, .lst => true
  | .own _, .lst => true
  | .bor _, .lst => true
  | .scr _, .lst => true
  | .str _, .str => true
  | _, _ => false
theorem isB_kit {d : D} {T : String} {b : Bt} (h : tyD d = some T) : kitB T b.nm = some (isB d b) := by
  cases d <;> cases h <;> cases b <;> first | (show kitB _ (Bt.nm _) = some true; decide +kernel) | (show kitB _ (Bt.nm _) = some false; decide +kernel)
def rIsiT (Γ : Gm) (n : Cn) (d : D) (Q : D → Prop) : Prop := match n with
  | .ty T2 => Q (.bl (isB d T2))
  | .own C => ∃ T b, tyD d = some T ∧ PySem.W.kitOne Γ.K (.type T) (.ref (Γ.nm.ad C)) = some b ∧ Q (.bl b)
def rIsiD (Γ : Gm) (n : Cn) (d : D) (Q : D → Prop) : Prop := match d with
  | .ins C _ _ => InsTy Γ.K (Γ.nm.ad C) ∧ ∃ b, PySem.W.kitOne Γ.K (.ref (Γ.nm.ad C)) (n.val Γ.nm) = some b ∧ Q (.bl b)
  | .exc C => ExcC Γ.K (Γ.nm.ad C) ∧ ∃ b, PySem.W.kitOne Γ.K (.ref (Γ.nm.ad C)) (n.val Γ.nm) = some b ∧ Q (.bl b)
  | d => rIsiT Γ n d Q
theorem isi_ty {H0 G H : Hp} {v : V} {d : D} {T : String} (gh : Same G H) (r : RepV S.nm H0 G H v d) (e : tyD d = some T) : TyX S.X.K H v (.type T) := by
  have kk := S.kk
  cases d with
  | non => cases e; cases repV_non r; exact .base .non
  | bl x => cases e; cases repV_bl r; exact .base (.bl x)
  | int x => cases e; cases repV_int r; exact .base (.int x)
  | str x => cases e; cases repV_str r; exact .base (.str x)
  | tup l =>
    cases e
    have r' : Rep S.nm G v (.tup l) := r
    cases r' with
    | tup ea ra => exact .base (.tup (gh _ _ ea))
  | lst l =>
    cases e
    have r' : Rep S.nm G v (.lst l) := r
    cases r' with
    | lst ea ra => exact .base (.lst (gh _ _ ea))
  | scr l =>
    cases e
    have r' : Rep S.nm G v (.scr l) := r
    cases r' with
    | scr ea ra =>
      rcases Same.seq gh ea with (h | ⟨o, h⟩) | ⟨o, its, n, h, hc, _⟩
      · exact .base (.lst h)
      · exact .base (.frz h)
      · rw [kk] at h
        exact .kList h hc
  | own l =>
    cases e
    obtain ⟨p, vs, rfl, h1, _⟩ := r
    exact .base (.lst h1)
  | bor l =>
    cases e
    obtain ⟨p, vs, rfl, h1, _⟩ := r
    exact .base (.lst h1)
  | _ => cases e
def eIsi (Γ : Gm) (n : Cn) (τ : TD) : TD := fun ρ Q => τ ρ fun d => rIsiD Γ n d Q
theorem call_isiX {X : Cx} {C : Addr} (hC : ExcC X.K C) : CallR X (.builtin "isinstance") (fun xs H Q => ∃ (a : Addr) (c : V) (cv : Value) (b : Bool), xs = [.ref a, c] ∧ (∀ u, RelV c u → u = cv) ∧ H a = some (XO C a) ∧ PySem.W.kitOne X.K (.ref C) cv = some b ∧ Q (.bl b) H) := by
  intro pins s σ H xs us Q I r h
  obtain ⟨a, c, cv, b, rfl, hcv, ha, e, q⟩ := h
  cases r with
  | cons rx rr =>
    cases rr with
    | cons rt rr =>
      cases rr
      cases rx
      have ec := hcv _ rt
      subst ec
      obtain ⟨⟨oe, vs, hget, hz, hv⟩, _, _⟩ := I.hok a _ ha
      have J : PySem.W.InstAt s.heap a oe C none := by
        obtain ⟨oc, od, oda, osl⟩ := oe
        obtain ⟨h1, h2⟩ := hz
        dsimp only at h1 h2 hv
        subst h1 h2 hv
        exact ⟨hget, rfl, rfl, trivial⟩
      exact PySem.W.kia_one (PySem.W.handS_kitx_exc hC.hg hC.hk hC.hs hC.hd hC.ha hC.hn hC.ht hC.hm) I.kIn J e (fun z => nomatch z) fun tk => ⟨.bl b, H, I.kept (t' := tk) fun _ _ z => z, rfl, q⟩
theorem je_isi (Γ : Gm) (n : Cn) {x : Str} {p p2 : Pos} (hg : Gl S.X "isinstance") (hm : S.X.mg "isinstance" = none) (ha : JE S a τa) (hn : PE S.X (.Name x p2) (tC (n.v S.nm))) (hs : starEach [a, .Name x p2] S.X.env = (false, eval a S.X.env) :: starEach [.Name x p2] S.X.env := by rfl)
    (hs2 : starEach [.Name x p2] S.X.env = (false, eval (.Name x p2) S.X.env) :: starEach [] S.X.env := by rfl)
    (hpl : (backTo pos (starEach [.Name x p2] S.X.env)).any (·.1) = false := by rfl) (hG : S.gm = Γ := by rfl) : JE S (.Call (.Name "isinstance" p) [a, .Name x p2] [] pos) (eIsi Γ n τa) := by
  subst hG
  refine ⟨fun G H σ ρ Q R h => WX.of (pe_callB (id := "isinstance") call_sem hg hm (by decide +kernel) (pa_cons pe_w (pa_cons hn pa_nil hs2) hs) (by decide) (by decide) hs hpl) ?_⟩
  refine (ha.run G H σ ρ _ R h).mono fun v H1 ⟨G1, d, x1, r1, q1⟩ => ?_
  intro pins s σ' us I rv
  have kk := S.kk
  have cu : ∀ u, RelV (n.v S.nm) u → u = n.val S.nm := fun u r => by cases n <;> exact r
  have cv : ClsV (n.v S.nm) (n.val S.nm) := by
    cases n with
    | ty T => exact .ty _
    | own C => exact .own _
  have main : ∀ T, tyD d = some T → rIsiT S.gm n d Q → wpAny (model S.X.prog S.X.w) S.X.A (call (.builtin "isinstance") us) (EP S.X pins σ' fun v H' => ∃ G' d, Ext H G H G' H' ∧ RepV S.nm H G' H' v d ∧ Q d) S.X.xe s := fun T eT q1 => by
    have ty := isi_ty x1.gh r1 eT
    cases n with
    | ty T2 =>
      exact call_isi pins s σ' H1 _ us _ I rv ⟨v, _, _, _, _, rfl, cv, ty, kit_ty (isB_kit eT), G1, _, x1, .of (.bl _), q1⟩
    | own C =>
      obtain ⟨T', b, eT', eb, q1⟩ := q1
      rw [eT] at eT'
      cases eT'
      exact call_isi pins s σ' H1 _ us _ I rv ⟨v, _, _, _, b, rfl, cv, ty, eb, G1, _, x1, .of (.bl b), q1⟩
  cases d with
  | ins C ns fs =>
    obtain ⟨hC, b, eb, q1⟩ := q1
    have r' : Rep S.nm G1 v (.ins C ns fs) := r1
    cases r' with
    | ins ea ra =>
      exact call_isi pins s σ' H1 _ us _ I rv ⟨_, _, _, _, b, rfl, cv, .base (.ins (x1.gh _ _ ea) hC.cl hC.ha hC.hn hC.ht hC.hm), eb, G1, _, x1, .of (.bl b), q1⟩
  | exc C =>
    obtain ⟨hC, b, eb, q1⟩ := q1
    have r' : Rep S.nm G1 v (.exc C) := r1
    cases r' with
    | exc ea =>
      exact call_isiX hC pins s σ' H1 _ us _ I rv ⟨_, _, _, b, rfl, cu, x1.gh _ _ ea, eb, G1, _, x1, .of (.bl b), q1⟩
  | _ => exact main _ rfl q1
theorem pn_ty {T : Bt} {x : Str} {p : Pos} (hg : Gl S.X x) (hm : S.X.mg x = none) (hv : bootBuiltins x = some (.type T.nm)) (hn : x ≠ "__name__" := by decide) (hd : (x == ("__debug__" : Str)) = false := by decide) : PE S.X (.Name x p) (tC ((Cn.ty T).v S.nm)) := pe_bltn hg hm hv rfl hn hd
theorem pn_own {x : Str} {p : Pos} (C : Str) (hg : Gl S.X x) (hm : S.X.mg x = some (.ref (S.nm.ad C))) (hd : (x == ("__debug__" : Str)) = false := by decide) : PE S.X (.Name x p) (tC ((Cn.own C).v S.nm)) := pe_glob hg hm rfl hd

/-! ### raise X("..") -/
/-- a class of one's own whose instances may be raised -/
structure ExK (Γ : Gm) (C : Str) : Prop where
  q : ∃ bm : List Value, bm = [.type "ValueError", .type "Exception", .type "BaseException", .type "object"] ∧ PySem.W.excIn Γ.K (Γ.nm.ad C) bm "ValueError.__new__" = true
  g : Γ.mg C = some (.ref (Γ.nm.ad C))
  k : PySem.W.keepIn Γ.K (.ref (Γ.nm.ad C)) = true
  b : PySem.W.subIn Γ.K (.ref (Γ.nm.ad C)) (.type "BaseException") = some true
  t : PySem.W.typeIn Γ.K (.ref (Γ.nm.ad C)) = some (.type "type")
theorem js_raise {Γ : Gm} {C m : Str} {j : Nat} {p p2 pos' : Pos} (jx : JX S) (hk : ExK Γ C) (hc : S.X.calm = true) (hg : Gl S.X C) (hdb : (C == ("__debug__" : Str)) = false := by decide) (hG : S.gm = Γ := by rfl) :
    JS S (.Raise (some (.Call (.Name C p) [.Constant (.str m) j p2] [] pos')) none pos) (fun _ ρ => S.ex C ρ) := by
  subst hG
  obtain ⟨W, tk, hW⟩ := jx
  obtain ⟨bm, rfl, q⟩ := hk.q
  exact ⟨fun G H σ ρ E R h => WS.of (ps_raise hc tk (pmk_own PySem.F.excBase_ValueError q hk.g hk.k (raises_own hk.b hk.t) hg hdb)) (hW G H σ ρ C R h)⟩
end
end DD

set_option Elab.async false
set_option linter.all false
set_option maxRecDepth 100000
set_option maxHeartbeats 1000000
namespace DD
open PySem PySem.Spec PyProof.Rows L2
section
variable {S : Sit} {a b c e : Expr} {es : List Expr} {pos : Pos} {τa τb τc : TD}
def eNeg (τ : TD) : TD := fun ρ Q => τ ρ fun d => match d with
  | .int i => Q (.int (-i))
  | _ => False
theorem je_neg (ha : JE S a τa) : JE S (.UnaryOp .USub a pos) (eNeg τa) := by
  refine ⟨fun G H σ ρ Q R h => WX.of (pe_un un_neg pe_w) ((ha.run G H σ ρ _ R h).mono fun v H1 ⟨G1, d, x1, r1, q1⟩ => ?_)⟩
  cases d with
  | int i =>
    cases repV_int r1
    exact ⟨i, rfl, G1, _, x1, .of (.int _), q1⟩
  | _ => exact q1.elim
theorem jx_blk {s : Shared} {H : Hp} {scope : Scope} {cenv : PySem.Env} {fp : List Addr} : JX (S.blk s H scope cenv fp) := ⟨fun _ _ _ _ => False, takes0, fun _ _ _ _ _ _ h => h⟩
end
theorem ff_tt {C : Prop} (h : false = true) : C := nomatch h
theorem tt_ff {C : Prop} (h : true = false) : C := nomatch h
theorem mulOk_of {i j : Int} {a b : Nat} (ha : i.natAbs < 2 ^ a) (hb : j.natAbs < 2 ^ b) (h : a + b ≤ 999998) : MulB i j := by
  have h2 : ∀ (x : Nat) (n : Nat), x < 2 ^ n → x < 2 ^ (n + 1) := fun x n h => Nat.lt_of_lt_of_le h (Nat.pow_le_pow_right (by decide) (Nat.le_succ n))
  exact .inr (wide_mul (h2 _ _ ha) (h2 _ _ hb) (Nat.succ_pos _) (Nat.succ_pos _) (by omega))
theorem ix_own {l : List D} {i : Int} {x : D} {Q : D → Prop} (h : L2.atI l i = some x) (q : Q x) : rIxD (.own l) (.int i) Q := by
  show match L2.atI l i with | some x => Q x | none => False
  rw [h]
  exact q
theorem ix_lst {l : List D} {i : Int} {x : D} {Q : D → Prop} (h : L2.atI l i = some x) (q : Q x) : rIxD (.lst l) (.int i) Q := by
  show match L2.atI l i with | some x => Q x | none => False
  rw [h]
  exact q
theorem ix_bor {l : List D} {i : Int} {x : D} {Q : D → Prop} (h : L2.atI l i = some x) (q : Q x) : rIxD (.bor l) (.int i) Q := by
  show match L2.atI l i with | some x => Q x | none => False
  rw [h]
  exact q
theorem ix_scr {l : List D} {i : Int} {x : D} {Q : D → Prop} (h : L2.atI l i = some x) (q : Q x) : rIxD (.scr l) (.int i) Q := by
  show match L2.atI l i with | some x => Q x | none => False
  rw [h]
  exact q
theorem ix_tup {l : List D} {i : Int} {x : D} {Q : D → Prop} (h : L2.atI l i = some x) (q : Q x) : rIxD (.tup l) (.int i) Q := by
  show match L2.atI l i with | some x => Q x | none => False
  rw [h]
  exact q
theorem mulOk_right {i j : Int} (h1 : -(2 ^ 64) < j) (h2 : j < 2 ^ 64) : MulB i j := .inl (.inr ⟨h1, h2⟩)
theorem mulOk_left {i j : Int} (h1 : -(2 ^ 64) < i) (h2 : i < 2 ^ 64) : MulB i j := .inl (.inl ⟨h1, h2⟩)
theorem size_small {n : Nat} (h : n ≤ 16000000) : n ≤ sizeLine := Nat.le_trans h (by rw [sizeLine_eq]; decide)
theorem size_lt {n : Nat} (h : n ≤ 16000000) : n < sizeLine := Nat.lt_of_le_of_lt h (by rw [sizeLine_eq]; decide)
theorem log2_small {j : Int} {b : Nat} (h : j.natAbs < 2 ^ b) (hb : b ≤ 9000) (h0 : 0 < b := by decide) : j.natAbs.log2 < 9000 := Nat.lt_of_lt_of_le (PySem.Flt.log2_lt_of h0 h) hb

/-! ### in -/
def flatB : D → Bool
  | .non => true
  | .bl _ => true
  | .int _ => true
  | .str _ => true
  | _ => false
def eqFD : D → D → Bool
  | .non, .non => true
  | .bl a, .bl b => a == b
  | .bl a, .int b => (if a then 1 else 0) == b
  | .int a, .bl b => a == (if b then 1 else 0)
  | .int a, .int b => a == b
  | .str a, .str b => a == b
  | _, _ => false
def inD (x : D) (l : List D) : Bool := l.any fun y => eqFD y x
theorem flat_rep {nm : Nm} {G : Hp} {v : V} {d : D} (r : Rep nm G v d) (f : flatB d = true) : flatV v = true := by
  cases d <;> first | (cases r; rfl) | cases f
theorem eqF_rep {nm : Nm} {G : Hp} {v w : V} {d e : D} (r : Rep nm G v d) (q : Rep nm G w e) (f : flatB d = true) (g : flatB e = true) : eqV v w = eqFD d e := by
  cases d <;> cases e <;> first | (cases r; cases q; rfl) | exact absurd f Bool.false_ne_true | exact absurd g Bool.false_ne_true
theorem flats_rep {nm : Nm} {G : Hp} : ∀ {vs : List V} {ds : List D}, Reps nm G vs ds → ds.all flatB = true → vs.all flatV = true
  | _, _, .nil, _ => rfl
  | _, _, .cons r q, h => by
    rw [List.all_cons, Bool.and_eq_true] at h ⊢
    exact ⟨flat_rep r h.1, flats_rep q h.2⟩
theorem in_rep {nm : Nm} {G : Hp} {x : V} {d : D} (r : Rep nm G x d) (f : flatB d = true) : ∀ {vs : List V} {ds : List D}, Reps nm G vs ds → ds.all flatB = true → inV x vs = inD d ds
  | _, _, .nil, _ => rfl
  | _, _, .cons (v := v) (vs := vs) (d := e) (ds := ds) q qs, h => by
    rw [List.all_cons, Bool.and_eq_true] at h
    have ih := in_rep r f qs h.2
    unfold inV inD at ih ⊢
    rw [List.any_cons, List.any_cons, eqF_rep q r h.1 f, ih]
def rIn (neg : Bool) : RD2 := fun d e Q => match e with
  | .str z => ∃ c : Nat, d = .str ⟨#[c]⟩ ∧ Q (.bl (if neg then !decide (c ∈ z.cps.toList) else decide (c ∈ z.cps.toList)))
  | .tup l => flatB d = true ∧ l.all flatB = true ∧ Q (.bl (if neg then !inD d l else inD d l))
  | e => match seqD e with
    | some l => flatB d = true ∧ l.all flatB = true ∧ Q (.bl (if neg then !inD d l else inD d l))
    | none => False
section
variable {S : Sit}
theorem flat_repV {nm : Nm} {H0 G H : Hp} {v : V} {d : D} (r : RepV nm H0 G H v d) (f : flatB d = true) : Rep nm G v d := by
  cases d <;> first | exact r | cases f
theorem o_inG {neg : Bool} {op : CmpOp} (h1 : OpR S.X (compareOp op) (L2.rIn S.X.K neg)) (h2 : OpR S.X (compareOp op) (fun x y H Q => ∃ (c : Nat) (z : Str), x = .str ⟨#[c]⟩ ∧ y = .str z ∧ Q (.bl (if neg then !decide (c ∈ z.cps.toList) else decide (c ∈ z.cps.toList))) H)) : DOp S (compareOp op) (rIn neg) := .of fun H0 G H x y d e Q s0 gh rx ry h => by
  have kk := S.kk
  have main : ∀ l, DD.seqD e = some l → flatB d = true ∧ l.all flatB = true ∧ Q (.bl (if neg then !inD d l else inD d l)) → ∃ r' : R2, OpR S.X (compareOp op) r' ∧ r' x y H fun z H' => ∃ G' d', Ext H0 G H G' H' ∧ RepV S.nm H0 G' H' z d' ∧ Q d' := fun l el ⟨f1, f2, q⟩ => by
    obtain ⟨p, vs, rfl, hp, ra⟩ := ry.seqD gh el
    have rd := flat_repV rx f1
    exact ⟨_, h1, p, vs, rfl, .inl (by rw [← kk]; exact hp), flat_rep rd f1, flats_rep ra f2, G, _, Ext.refl gh, .of (.bl _), by rw [in_rep rd f1 ra f2]; exact q⟩
  cases e with
  | str z =>
    obtain ⟨c, rfl, q⟩ := h
    cases repV_str rx
    cases repV_str ry
    exact ⟨_, h2, c, z, rfl, rfl, G, _, Ext.refl gh, .of (.bl _), q⟩
  | tup l =>
    obtain ⟨f1, f2, q⟩ := (show flatB d = true ∧ l.all flatB = true ∧ Q (.bl (if neg then !inD d l else inD d l)) from h)
    have rd := flat_repV rx f1
    have ry' : Rep S.nm G y (.tup l) := ry
    cases ry' with
    | tup ea ra => exact ⟨_, h1, _, _, rfl, .inr (.inl (.inl (gh _ _ ea))), flat_rep rd f1, flats_rep ra f2, G, _, Ext.refl gh, .of (.bl _), by rw [in_rep rd f1 ra f2]; exact q⟩
  | lst l => exact main l rfl h
  | own l => exact main l rfl h
  | bor l => exact main l rfl h
  | scr l => exact main l rfl h
  | _ => exact (show False from h).elim
theorem o_in : DOp S (compareOp .In) (rIn false) := o_inG op_in_seq op_in_sign
theorem o_notin : DOp S (compareOp .NotIn) (rIn true) := o_inG op_notIn_seq op_notIn_sign
end

/-! ### loops -/
theorem for_inv {g : TDG} {tb : TDS} {E : DE} (I : List D → Env → Prop) (step : ∀ (d : D) (rest : List D) (ρ : Env) (N : Env → Prop), I (d :: rest) ρ → (∀ ρ' ρ'', Weak ρ' ρ'' → I rest ρ'' → N ρ') → g d ρ fun ρ2 => tb { nx := N, rt := E.rt, bk := E.nx, ct := N } ρ2)
    (done : ∀ ρ, I [] ρ → E.nx ρ) : ∀ (items : List D) (ρ : Env), I items ρ → forR g tb E items ρ
  | [], ρ, h => done ρ h
  | d :: rest, ρ, h => step d rest ρ _ h fun _ ρ'' w i => ⟨ρ'', w, for_inv I step done rest ρ'' i⟩
/-- a loop that carries nothing -/
theorem for_all {g : TDG} {tb : TDS} {E : DE} {items : List D} {ρ : Env} (A : D → Prop) (ha : ∀ d ∈ items, A d) (step : ∀ (d : D) (N : Env → Prop), A d → (∀ ρ', Weak ρ' ρ → N ρ') → g d ρ fun ρ2 => tb { nx := N, rt := E.rt, bk := E.nx, ct := N } ρ2)
    (done : E.nx ρ) : forR g tb E items ρ :=
  for_inv (fun ds ρ' => (∀ d ∈ ds, A d) ∧ ρ' = ρ) (fun d rest ρ' N h hn => by
    obtain ⟨h, rfl⟩ := h
    exact step d N (h d List.mem_cons_self) fun ρ' w => hn ρ' _ w ⟨fun x hx => h x (List.mem_cons_of_mem _ hx), rfl⟩) (fun ρ' h => h.2 ▸ done) items ρ ⟨ha, rfl⟩
/-- a loop that carries a state -/
theorem for_fold {α β : Type} {g : TDG} {tb : TDS} {E : DE} (f : α → D) (enc : β → Env) (stp : β → α → β) (step : ∀ (s : β) (x : α) (N : Env → Prop), (∀ ρ', Weak ρ' (enc (stp s x)) → N ρ') → g (f x) (enc s) fun ρ2 => tb { nx := N, rt := E.rt, bk := E.nx, ct := N } ρ2)
    : ∀ (xs : List α) (s0 : β), E.nx (enc (xs.foldl stp s0)) → forR g tb E (xs.map f) (enc s0)
  | [], _, h => h
  | x :: xs, s0, h => step s0 x _ fun ρ' w => ⟨_, w, for_fold f enc stp step xs (stp s0 x) h⟩
theorem mem_cut {d : D} {l : List D} {lo hi : Option Int} (h : d ∈ cutD l lo hi) : d ∈ l := List.mem_of_mem_drop (List.mem_of_mem_take h)
theorem cut_len (l : List D) (lo hi : Option Int) : (cutD l lo hi).length ≤ l.length := by
  unfold cutD
  rw [List.length_take, List.length_drop]
  omega
theorem ints_len (ns : List Int) : (intsD ns).length = ns.length := List.length_map _
theorem mem_ints {d : D} {ns : List Int} (h : d ∈ intsD ns) : ∃ c, d = .int c ∧ c ∈ ns := by
  obtain ⟨c, h1, h2⟩ := List.mem_map.mp h
  exact ⟨c, h2.symm, h1⟩
/-- what is walked: written ints and a cut of the script -/
theorem mem_cells {d : D} {ns ms : List Int} {lo hi : Option Int} (h : d ∈ intsD ms ++ cutD (intsD ns) lo hi) : ∃ c, d = .int c := by
  rcases List.mem_append.mp h with h | h
  · exact let ⟨c, e, _⟩ := mem_ints h; ⟨c, e⟩
  · exact let ⟨c, e, _⟩ := mem_ints (mem_cut h); ⟨c, e⟩

/-! ### numbers -/
inductive Num where
  | i (n : Int)
  | p (x y : Int)
def Num.d : Num → D
  | .i n => .int n
  | .p x y => .tup [.int x, .int y]
def Num.isP : Num → Bool
  | .i _ => false
  | .p _ _ => true
def Num.x : Num → Int
  | .i n => n
  | .p x _ => x
def Num.y : Num → Int
  | .i _ => 0
  | .p _ y => y
def Num.add : Num → Num → Num
  | .i a, .i b => .i (a + b)
  | a, b => .p (a.x + b.x) (a.y + b.y)
def Num.mul : Num → Num → Num
  | .i a, .i b => .i (a * b)
  | a, b => .p (a.x * b.x - a.y * b.y) (a.x * b.y + a.y * b.x)
def Num.lt (a : Num) (n : Nat) : Prop := a.x.natAbs < 2 ^ n ∧ a.y.natAbs < 2 ^ n
theorem Num.mulOk {a b : Num} {m n : Nat} (ha : a.lt m) (hb : b.lt n) (h : m + n ≤ 999998) : MulB a.x b.x ∧ MulB a.y b.y ∧ MulB a.x b.y ∧ MulB a.y b.x :=
  ⟨mulOk_of ha.1 hb.1 h, mulOk_of ha.2 hb.2 h, mulOk_of ha.1 hb.2 h, mulOk_of ha.2 hb.1 h⟩
theorem Num.frz (a : Num) : DD.frz a.d = a.d := by cases a <;> rfl
theorem Num.nb (a : Num) : isBor a.d = false := by cases a <;> rfl
theorem Num.n1 (a : Num) : borO a.d = a.d := by cases a <;> rfl
theorem Num.n2 (a : Num) : frzO a.d = a.d := by cases a <;> rfl
theorem Num.n3 (a : Num) : isBor (borO a.d) = false := by cases a <;> rfl
theorem Num.ok (a : Num) : retOk a.d = true := by cases a <;> rfl
theorem Num.n4 (a : Num) : isOwn a.d = false := by cases a <;> rfl
theorem shaped_num (a : Num) : shapedD a.d := by
  cases a with
  | i n => exact ⟨_, rfl, rfl⟩
  | p x y => exact ⟨_, rfl, rfl⟩
theorem eqD_num (a b : Num) : eqD a.d b.d = (match a, b with
  | .i m, .i n => decide (m = n)
  | .p x y, .p u v => decide (x = u) && decide (y = v)
  | _, _ => false) := by
  cases a <;> cases b <;> simp [eqD, Num.d, toP, toPs, PyData.eqv, PyData.eqvAll, Bool.beq_eq_decide_eq]
theorem eqD_num_refl (a : Num) : eqD a.d a.d = true := by
  rw [eqD_num]
  cases a <;> simp
theorem rEq_i0 {i j : Int} {Q : D → Prop} (q : Q (.bl (decide (i = j)))) : rEq false (.int i) (.int j) Q := by
  unfold rEq
  exact q
theorem rEq_i1 {i j : Int} {Q : D → Prop} (q : Q (.bl (!decide (i = j)))) : rEq true (.int i) (.int j) Q := by
  unfold rEq
  exact q
theorem rEq_s0 {i j : Str} {Q : D → Prop} (q : Q (.bl (decide (i = j)))) : rEq false (.str i) (.str j) Q := by
  unfold rEq
  exact q
theorem rEq_s1 {i j : Str} {Q : D → Prop} (q : Q (.bl (!decide (i = j)))) : rEq true (.str i) (.str j) Q := by
  unfold rEq
  exact q
theorem rEq_b0 {i j : Bool} {Q : D → Prop} (q : Q (.bl (decide (i = j)))) : rEq false (.bl i) (.bl j) Q := by
  unfold rEq
  exact q
theorem rEq_b1 {i j : Bool} {Q : D → Prop} (q : Q (.bl (!decide (i = j)))) : rEq true (.bl i) (.bl j) Q := by
  unfold rEq
  exact q
def isScal : D → Bool
  | .int _ => true
  | .str _ => true
  | .bl _ => true
  | _ => false
theorem rEq_deep {d e : D} {neg : Bool} {Q : D → Prop} (n : (isScal d && isScal e) = false) (h1 : shapedD d) (h2 : shapedD e) (q : Q (.bl (if neg then !eqD d e else eqD d e))) : rEq neg d e Q := by
  unfold rEq
  cases d <;> cases e <;> first | exact ⟨h1, h2, q⟩ | cases n
theorem brT {p : Prop} [Decidable p] {A B : Prop} (hp : p) (a : A) : (decide p = true → A) ∧ (decide p = false → B) := ⟨fun _ => a, fun h => absurd hp (of_decide_eq_false h)⟩
theorem brF {p : Prop} [Decidable p] {A B : Prop} (hp : ¬ p) (b : B) : (decide p = true → A) ∧ (decide p = false → B) := ⟨fun h => absurd (of_decide_eq_true h) hp, fun _ => b⟩
theorem brNT {p : Prop} [Decidable p] {A B : Prop} (hp : p) (b : B) : ((!decide p) = true → A) ∧ ((!decide p) = false → B) := ⟨fun h => by simp [hp] at h, fun _ => b⟩
theorem brNF {p : Prop} [Decidable p] {A B : Prop} (hp : ¬ p) (a : A) : ((!decide p) = true → A) ∧ ((!decide p) = false → B) := ⟨fun _ => a, fun h => by simp [hp] at h⟩
theorem br {p : Prop} [Decidable p] {A B : Prop} (a : p → A) (b : ¬ p → B) : (decide p = true → A) ∧ (decide p = false → B) := ⟨fun h => a (of_decide_eq_true h), fun h => b (of_decide_eq_false h)⟩
theorem brN {p : Prop} [Decidable p] {A B : Prop} (a : ¬ p → A) (b : p → B) : ((!decide p) = true → A) ∧ ((!decide p) = false → B) := ⟨fun h => a (by simpa using h), fun h => b (by simpa using h)⟩
theorem brbT {b : Bool} {A B : Prop} (h : b = true) (a : A) : (b = true → A) ∧ (b = false → B) := ⟨fun _ => a, fun z => Bool.noConfusion (h.symm.trans z)⟩
theorem brbF {b : Bool} {A B : Prop} (h : b = false) (x : B) : (b = true → A) ∧ (b = false → B) := ⟨fun z => Bool.noConfusion (h.symm.trans z), fun _ => x⟩
theorem rEq_iT {i j : Int} {Q : D → Prop} (h : i = j) (q : Q (.bl true)) : rEq false (.int i) (.int j) Q := rEq_i0 (by rw [decide_eq_true h]; exact q)
theorem rEq_bT {i j : Bool} {Q : D → Prop} (h : i = j) (q : Q (.bl true)) : rEq false (.bl i) (.bl j) Q := rEq_b0 (by rw [decide_eq_true h]; exact q)
theorem rEq_bN {i j : Bool} {Q : D → Prop} (h : i = j) (q : Q (.bl false)) : rEq true (.bl i) (.bl j) Q := rEq_b1 (by rw [decide_eq_true h]; exact q)
theorem rEq_sT {i j : Str} {Q : D → Prop} (h : i = j) (q : Q (.bl true)) : rEq false (.str i) (.str j) Q := rEq_s0 (by rw [decide_eq_true h]; exact q)
theorem rEq_num {a b : Num} {neg : Bool} {Q : D → Prop} (e : a = b) (q : Q (.bl (!neg))) : rEq neg a.d b.d Q := by
  subst e
  cases a with
  | i n => cases neg <;> simpa [rEq, Num.d] using q
  | p x y =>
    have h := shaped_num (.p x y)
    have e := eqD_num_refl (.p x y)
    refine rEq_deep rfl h h ?_
    show Q (.bl (if neg = true then !eqD (Num.p x y).d (Num.p x y).d else eqD (Num.p x y).d (Num.p x y).d))
    rw [e]
    cases neg <;> exact q
theorem rEq_b {a : Num} {d e : D} {neg : Bool} {Q : D → Prop} (h : d = a.d ∧ e = a.d) (q : Q (.bl (!neg))) : rEq neg d e Q := by
  rw [h.1, h.2]
  exact rEq_num rfl q
theorem Num.mul_comm (a b : Num) : a.mul b = b.mul a := by
  cases a <;> cases b <;> simp [Num.mul, Num.x, Num.y, Int.mul_comm, Int.add_comm]
theorem Num.mul_add (a b c : Num) : a.mul (b.add c) = (a.mul b).add (a.mul c) := by
  cases a <;> cases b <;> cases c <;> simp [Num.mul, Num.add, Num.x, Num.y, Int.mul_add] <;> omega

/-! ### the law -/
def adOf (mg : Str → Option Value) (x : Str) : Addr := match mg x with
  | some (.ref a) => a
  | _ => 0
theorem adOf_eq {mg : Str → Option Value} {x : Str} {a : Addr} (h : mg x = some (.ref a)) : adOf mg x = a := by
  unfold adOf
  rw [h]
theorem adOf_mg {mg : Str → Option Value} {x : Str} {a : Addr} (h : mg x = some (.ref a)) : mg x = some (.ref (adOf mg x)) := by
  rw [adOf_eq h]
  exact h
def gmOf (P : Program) (w : World) (K : PySem.W.Frag) (mg : Str → Option Value) (base : Heap) : Gm := ⟨P, w, K, mg, base, ⟨K, adOf mg⟩, rfl⟩
def spLaw (K : PySem.W.Frag) (n : Nat) : Sp := fun vs H Q _ => ∃ (a : Addr) (ns : List Int), vs = [.ref a] ∧ SqL K H a (ns.map V.int) ∧ ns.length ≤ n ∧ (∀ z ∈ ns, Builtin.Int.intBits z ≤ 1048576) ∧ ∀ H', Q (.bl true) H'
theorem law_ok {P : Program} {w : World} {K : PySem.W.Frag} {mg : Str → Option Value} {base : Heap} {CX : CXT} {k : Nat} {f : Addr} {fd : FuncData} {ps : List Str} {nm : Nm} {M : MD} {n : Nat} (hK : nm.K = K) (F : FnOk P w K mg base CX k f fd ps (spD nm M))
    (hM : ∀ ns : List Int, ns.length ≤ n → (∀ z ∈ ns, Builtin.Int.intBits z ≤ 1048576) → M [.scr (intsD ns)] (fun o => o = .ret (.bl true))) : FnOk P w K mg base CX k f fd ps (spLaw K n) :=
  F.imp fun vs H Q E ⟨a, ns, e, hS, hl, hb, q⟩ => ⟨H, _, _, Same.refl H, by
    rw [e]
    exact .cons (.scr (by rw [hK]; exact hS) ints_reps) .nil, hM ns hl hb, fun G' H' v r x rv nb p => by
      cases p
      cases repV_bl rv
      exact q H', fun C H' _ p => by cases p⟩
theorem noCX {P : Program} {w : World} {H : Hp} {s : Shared} {e : Value} {s' : Shared} (h : L2.CX P w [] H s (fun _ _ _ => False) e s') : False := by
  obtain ⟨_, _, _, _, _, _, _, _, _, _, _, _, z⟩ := h
  exact z
end DD

set_option Elab.async false
set_option linter.all false
set_option maxRecDepth 100000
set_option maxHeartbeats 1000000
namespace DD
open PySem PySem.Spec PyProof.Rows L2

/-! ### instances made by a class whose __init__ looks at one number and keeps it -/
def spI (nm : Nm) (C fld : Str) (lo hi : Int) : Sp := fun vs H Q E => ∃ (x dx : Addr) (n : Int), vs = [.ref x, .int n] ∧ H x = some (.ins (nm.ad C) dx []) ∧ H dx = some (.own x) ∧
  (lo ≤ n ∧ n ≤ hi → ∀ H' : Hp, (∀ b o, b ≠ x → H b = some o → H' b = some o) → H' x = some (.ins (nm.ad C) dx [(fld, .int n)]) → Q .non H') ∧
  (¬(lo ≤ n ∧ n ≤ hi) → ∀ H' : Hp, Same H H' → E (.ref (nm.ad "NoWay")) none H')
def M_mk (C fld : Str) (lo hi : Int) : MD := fun ds P => ∃ n : Int, ds = [.int n] ∧ (lo ≤ n ∧ n ≤ hi → P (.ret (.ins C [fld] [.int n]))) ∧ (¬(lo ≤ n ∧ n ≤ hi) → P (.exn "NoWay"))
structure CalC (Γ : Gm) (k : Nat) (C fld : Str) (lo hi : Int) : Prop where
  ex : ∃ (f : Addr) (fd : FuncData) (ps : List Str), FnOk Γ.P Γ.w Γ.K Γ.mg Γ.base (L2.CX Γ.P Γ.w) k f fd ps (spI Γ.nm C fld lo hi) ∧ Mk Γ.K (Γ.nm.ad C) f ∧ Γ.mg C = some (.ref (Γ.nm.ad C)) ∧ Binds Γ.K fd ps []
theorem CalC.mono {Γ : Gm} {j k : Nat} {C fld : Str} {lo hi : Int} (h : CalC Γ j C fld lo hi) (l : j ≤ k) : CalC Γ k C fld lo hi := by
  obtain ⟨f, fd, ps, h1, h2⟩ := h.ex
  exact ⟨f, fd, ps, h1.mono l, h2⟩
section
variable {X : Cx} {pins : List (Addr × Obj)} {σ : L2.St} {H : Hp} {s : Shared}
theorem made_run {CX : CXT} {k : Nat} {f C : Addr} {fd : FuncData} {ps : List Str} {sp : Sp} {E : L2.St → XK} {Q : VK} {us : List Value} {vs : List V} (M : Mk X.K C f) (F : FnOk X.prog X.w X.K X.mg X.base CX k f fd ps sp) (hr : Room (k + 1) X.A) (hb : Binds X.K fd ps [])
    (hx : PassesAt CX X σ (E σ)) (I : Inv X pins σ H s) (r : Vals vs us)
    (h : ∀ x dx, H x = none → H dx = none → dx ≠ x → sp (.ref x :: vs) (upd (upd H dx (.own x)) x (.ins C dx [])) (fun v H2 => v = .non ∧ Q (.ref x) H2) (E σ)) :
    wpAny (model X.prog X.w) X.A (call (.ref C) us) (EP X pins σ Q) X.xe s := by
  obtain ⟨nx, hnx⟩ : ∃ a, a = s.heap.objs.size + 1 := ⟨_, rfl⟩
  have q0 := h (s.heap.objs.size + 1) s.heap.objs.size (I.hok.fresh (Nat.le_succ _)) (I.hok.fresh (Nat.le_refl _)) (Nat.ne_of_lt (Nat.lt_succ_self _))
  have J := Inv.made (C := C) I
  have rr : Vals (V.ref (s.heap.objs.size + 1) :: vs) (Value.ref (s.heap.objs.size + 1) :: us) := .cons rfl r
  have len0 : (Value.ref (s.heap.objs.size + 1) :: us).length = ps.length := by
    rw [← rr.length]
    exact F.len _ _ _ _ q0
  have bb := hb _ (Value.ref (s.heap.objs.size + 1) :: us) J.kIn (by rw [List.append_nil]; exact len0)
  rw [List.append_nil] at bb
  have run := F.run _ X.stack _ _ _ _ _ _ (E σ) (hr.make C us []) (J.env0.make C us []) bb rr q0
  refine wpAny_call (make_map (f := f) I.kIn M.makes M.init (beq_iff_eq.mp M.fn) (codeAny_mono run fun res s2 hq => ?_))
  cases res with
  | error e => exact hx pins _ _ e s2 J hq
  | ok fl =>
    cases fl with
    | ret u =>
      obtain ⟨v, H2, J2, rv, ev, q2⟩ := J.after hq
      subst ev
      exact ⟨rv, ⟨V.ref (s.heap.objs.size + 1), H2, J2, rfl, q2⟩⟩
    | next => exact hq.elim
    | brk => exact hq.elim
    | cont => exact hq.elim
end
section
variable {S : Sit} {e : Expr} {pos p : Pos} {t : TDs} {k : Nat} {C fld : Str} {lo hi : Int}
theorem je_make {Γ : Gm} (jx : JX S) (F : CalC Γ k C fld lo hi) (hr : Room (k + 1) S.X.A) (hg : Gl S.X C) (h : JA' S [e] t) (hdb : (C == ("__debug__" : Str)) = false := by decide)
    (he : starEach [e] S.X.env = (false, eval e S.X.env) :: starEach [] S.X.env := by rfl) (hpl : (backTo pos (starEach [] S.X.env)).any (·.1) = false := by rfl) (hG : S.gm = Γ := by rfl) : JE S (.Call (.Name C p) [e] [] pos) (eCall S.ex (M_mk C fld lo hi) t) := by
  subst hG
  obtain ⟨W, tk, hW⟩ := jx
  obtain ⟨f, fd, ps, F, M, hm, hb⟩ := F.ex
  refine ⟨fun G H σ ρ Q R q => fun pins s I => ?_⟩
  refine wpAny_Call_Name_kw (ld_glob I hg hm ?_ hdb)
  refine PySem.W.callWith_K (h₀ := S.X.base) I.ok.mod.kin M.kp (thn (h.run G H σ ρ _ R q pos pins s I) fun us s1 ⟨vs, H1, I1, r, q⟩ => ⟨I1.kIn, ?_⟩) he hpl
  obtain ⟨G1, ds, x1, ra, q⟩ := q
  obtain ⟨n, en, q1, q2⟩ := q
  have e1 : ds = [.int n] := by
    have key : ∀ d, frz d = .int n → d = .int n := fun d hd => by cases d <;> simp [frz] at hd; rw [hd]
    match ds with
    | [] => exact absurd (congrArg List.length en) (by simp)
    | [d] =>
      have e2 : [frz d] = [D.int n] := en
      have e3 : frz d = D.int n := by injection e2
      rw [key d e3]
    | _ :: _ :: _ => exact absurd (congrArg List.length en) (by simp)
  subst e1
  cases repA_int1 ra
  have rr := R.go x1
  refine made_run (E := fun σ => WE W σ) M F hr hb (passAt tk σ) I1 r fun x dx hx hd hne => ?_
  have smI : Same H1 (upd (upd H1 dx (.own x)) x (.ins (S.nm.ad C) dx [])) := fun b o eb => by
    rw [upd_ne (ne_of_none eb hx), upd_ne (ne_of_none eb hd)]
    exact eb
  refine ⟨x, dx, n, rfl, upd_same, ?_, fun hn H' keep at_ => ⟨rfl, ?_⟩, fun hn H' sm => ?_⟩
  · rw [upd_ne hne]
    exact upd_same
  · have gx : G1 x = none := x1.gh.free hx
    have sg : Same G1 (upd G1 x (.ins (S.nm.ad C) dx [(fld, .int n)])) := same_upd gx
    have sh : Same H1 H' := fun b o eb => keep b o (ne_of_none eb hx) (smI b o eb)
    refine ⟨upd G1 x (.ins (S.nm.ad C) dx [(fld, .int n)]), .ins C [fld] [.int n], x1.trans ⟨sg, sh, fun b o eb => ?_, fun a ea na => ?_⟩, .of (.ins (vs := [.int n]) upd_same (.cons (.int n) .nil)), (q1 hn).2⟩
    · by_cases hbx : b = x
      · subst hbx
        rw [upd_same] at eb
        cases eb
        exact at_
      · rw [upd_ne hbx] at eb
        exact sh b o (x1.gh b o eb)
    · rw [upd_ne (fun z => na (by rw [z]; exact x1.h.free hx))]
      exact ea
  · exact hW G1 H' σ ρ "NoWay" (rr.go (Ext.grow x1.gh (smI.trans sm))) (q2 hn)
end
def M_look_at : MD := fun ds P => ∃ n lo hi : Int, ds = [.int n, .int lo, .int hi] ∧ (lo ≤ n ∧ n ≤ hi → P (.ret .non)) ∧ (¬(lo ≤ n ∧ n ≤ hi) → P (.exn "NoWay"))
/-- the reading of such an __init__ -/
theorem init_read {Γ : Gm} {C fld : Str} {lo hi : Int} {x dx : Addr} {n : Int} {H : Hp} {Q : VK} {E : XK} {W : L2.WX} {σ : L2.St} (hf : FldOk Γ.K Γ.nm C fld) (eW : ∀ c d H, W c d σ H = E c d H) (h0 : σ[0]? = some (some (.ref x))) (h1 : σ[1]? = some (some (.int n)))
    (hx : H x = some (.ins (Γ.nm.ad C) dx [])) (hd : H dx = some (.own x))
    (q1 : lo ≤ n ∧ n ≤ hi → ∀ H' : Hp, (∀ b o, b ≠ x → H b = some o → H' b = some o) → H' x = some (.ins (Γ.nm.ad C) dx [(fld, .int n)]) → Q .non H')
    (q2 : ¬(lo ≤ n ∧ n ≤ hi) → ∀ H' : Hp, Same H H' → E (.ref (Γ.nm.ad "NoWay")) none H') :
    tSeq (tDrop (tCallS (spD Γ.nm M_look_at) (WE W) (tCons (tVar 1) (tCons (tC (.int lo)) (tCons (tC (.int hi)) tNil))))) (sFld Γ.K (tVar 0) (tVar 1) fld) { nx := fun _ H' => Q .non H', rt := Q } σ H := by
  refine ⟨.int n, h1, ⟨H, [.int n, .int lo, .int hi], fun o => (o = .ret .non ∧ (lo ≤ n ∧ n ≤ hi)) ∨ (o = .exn "NoWay" ∧ ¬(lo ≤ n ∧ n ≤ hi)), Same.refl H, .cons (.int n) (.cons (.int lo) (.cons (.int hi) .nil)), ⟨n, lo, hi, rfl, fun z => .inl ⟨rfl, z⟩, fun z => .inr ⟨rfl, z⟩⟩, fun G' H' v r xx rv nb p => ?_, fun C' H' sm p => ?_⟩⟩
  · rcases p with ⟨_, z⟩ | ⟨p, _⟩
    · have sh := xx.h
      refine ⟨.int n, h1, .ref x, h0, x, Γ.nm.ad C, dx, [], rfl, sh _ _ hx, hf.1, hf.2, by decide, ?_⟩
      exact q1 z _ (fun b o hb eb => by rw [upd_ne hb]; exact sh _ _ eb) upd_same
    · cases p
  · rcases p with ⟨p, _⟩ | ⟨p, z⟩
    · cases p
    · cases p
      show W _ _ σ H'
      rw [eW]
      exact q2 z H' sm

/-! ### the six ways -/
inductive WayM where
  | plain (b : Int) | below (b : Int) | bal (h : Int) | grow (f : Int) | fall (m : Int) | pairs (m : Int)
namespace WayM
def cls : WayM → Str
  | .plain _ => "Plain" | .below _ => "Below" | .bal _ => "Balanced" | .grow _ => "Growing" | .fall _ => "Falling" | .pairs _ => "Pairs"
def fld : WayM → Str
  | .plain _ => "base" | .below _ => "base" | .bal _ => "half" | .grow _ => "first" | .fall _ => "most" | .pairs _ => "most"
def v : WayM → Int
  | .plain b => b | .below b => b | .bal h => h | .grow f => f | .fall m => m | .pairs m => m
def d (w : WayM) : D := .ins w.cls [w.fld] [.int w.v]
def ok : WayM → Prop
  | .plain b => 2 ≤ b ∧ b ≤ 60 | .below b => 2 ≤ b ∧ b ≤ 60 | .bal h => 1 ≤ h ∧ h ≤ 30 | .grow f => 2 ≤ f ∧ f ≤ 60 | .fall m => 1 ≤ m ∧ m ≤ 9 | .pairs m => 1 ≤ m ∧ m ≤ 9
theorem vb {w : WayM} (h : w.ok) : 1 ≤ w.v ∧ w.v ≤ 60 := by cases w <;> simp only [ok, v] at * <;> omega
def low (w : WayM) (_ : Int) : Int := match w with
  | .bal h => 0 - h
  | _ => 0
def high (w : WayM) (k : Int) : Int := match w with
  | .plain b => b - 1 | .below b => b - 1 | .bal h => h | .grow f => f + k - 1 | .fall m => m | .pairs m => m * m
/-- none for Falling -/
def ratio (w : WayM) (k : Int) : Num := match w with
  | .plain b => .i b | .below b => .i (0 - b) | .bal h => .i (2 * h + 1) | .grow f => .i (f + k) | .fall _ => .i 0 | .pairs m => .p (0 - m) 1
def hasRatio : WayM → Bool
  | .fall _ => false
  | _ => true
def isPairs : WayM → Bool
  | .pairs _ => true
  | _ => false
def isFall : WayM → Bool
  | .fall _ => true
  | _ => false
/-- the numbers that a way has -/
def has (w : WayM) (a : Num) : Bool := match w with
  | .pairs _ => a.isP
  | .below _ => !a.isP
  | .bal _ => !a.isP
  | _ => !a.isP && decide (0 ≤ a.x)
/-- Falling's weights: of this place and of the one beneath (1 beneath 0) -/
def fallW (m : Int) : Nat → Int × Int
  | 0 => (1, 1)
  | k + 1 => (m * (fallW m k).1 + (fallW m k).2, (fallW m k).1)
def weight (w : WayM) : Nat → Num
  | 0 => match w with
    | .pairs _ => .p 1 0
    | _ => .i 1
  | k + 1 => match w with
    | .fall m => .i (fallW m (k + 1)).1
    | _ => (weight w k).mul (w.ratio k)
theorem weight_fall (m : Int) (k : Nat) : (WayM.fall m).weight k = .i (fallW m k).1 := by cases k <;> rfl
/-- no weight up to place k is longer than 9 k bits -/
def nought (w : WayM) : Num := match w with
  | .pairs _ => .p 0 0
  | _ => .i 0
end WayM

/-! ### methods of ways -/
abbrev MW := WayM → List D → (Out → Prop) → Prop
def atC (C : Str) (mw : MW) : MD := fun ds P => ∃ (w : WayM) (rest : List D), w.cls = C ∧ w.ok ∧ ds = w.d :: rest ∧ mw w rest P
def WM (LC : List Str) (Γ : Gm) (k : Nat) (m : Str) (n : Nat) (mw : MW) : Prop := ∀ w : WayM, w.cls ∈ LC → CalM Γ k w.cls m n (atC w.cls mw)
theorem WM.mono {LC : List Str} {Γ : Gm} {j k : Nat} {m : Str} {n : Nat} {mw : MW} (h : WM LC Γ j m n mw) (l : j ≤ k) : WM LC Γ k m n mw := fun w hw => (h w hw).mono l
theorem meth_way {LC : List Str} {Γ : Gm} {ex : TX} {k i : Nat} {m : Str} {n : Nat} {t : TDs} {mw : MW} {ρ : Env} {Q : D → Prop} (h : WM LC Γ k m n mw) (w : WayM) (hw : w.cls ∈ LC) (hok : w.ok) (hm : m ∉ [w.fld]) (e : ρ[i]? = some (some w.d))
    (q : t ρ fun ds => oCall ex ρ (w.d :: ds) (atC w.cls mw) Q) : eMeth Γ ex k i m n t ρ Q := ⟨w.cls, [w.fld], [.int w.v], _, e, hm, h w hw, q⟩
/-- facts of the ways' classes -/
def FlT (LC : List Str) (Γ : Gm) : Prop := ∀ w : WayM, w.cls ∈ LC → FldOk Γ.K Γ.nm w.cls w.fld
def IsT (LC : List Str) (Γ : Gm) (C2 : Str) : Prop := ∀ w : WayM, w.cls ∈ LC → InsTy Γ.K (Γ.nm.ad w.cls) ∧ PySem.W.kitOne Γ.K (.ref (Γ.nm.ad w.cls)) (.ref (Γ.nm.ad C2)) = some (decide (C2 = "Way" ∨ w.cls = C2))
theorem fld_one {f : Str} {d : D} : fldOf [f] [d] f = some d := if_pos rfl
theorem fld_way {LC : List Str} {Γ : Gm} (h : FlT LC Γ) {w : WayM} (hw : w.cls ∈ LC) {Q : D → Prop} (q : Q (.int w.v)) : FldOk Γ.K Γ.nm w.cls w.fld ∧ ∃ x, fldOf [w.fld] [D.int w.v] w.fld = some x ∧ Q x := ⟨h w hw, _, fld_one, q⟩
theorem nf_low (w : WayM) : ("low" : Str) ∉ [w.fld] := by
  cases w with
  | plain x => show ("low" : Str) ∉ [("base" : Str)]; decide
  | below x => show ("low" : Str) ∉ [("base" : Str)]; decide
  | bal x => show ("low" : Str) ∉ [("half" : Str)]; decide
  | grow x => show ("low" : Str) ∉ [("first" : Str)]; decide
  | fall x => show ("low" : Str) ∉ [("most" : Str)]; decide
  | pairs x => show ("low" : Str) ∉ [("most" : Str)]; decide
theorem nf_high (w : WayM) : ("high" : Str) ∉ [w.fld] := by
  cases w with
  | plain x => show ("high" : Str) ∉ [("base" : Str)]; decide
  | below x => show ("high" : Str) ∉ [("base" : Str)]; decide
  | bal x => show ("high" : Str) ∉ [("half" : Str)]; decide
  | grow x => show ("high" : Str) ∉ [("first" : Str)]; decide
  | fall x => show ("high" : Str) ∉ [("most" : Str)]; decide
  | pairs x => show ("high" : Str) ∉ [("most" : Str)]; decide
theorem nf_ratio (w : WayM) : ("ratio" : Str) ∉ [w.fld] := by
  cases w with
  | plain x => show ("ratio" : Str) ∉ [("base" : Str)]; decide
  | below x => show ("ratio" : Str) ∉ [("base" : Str)]; decide
  | bal x => show ("ratio" : Str) ∉ [("half" : Str)]; decide
  | grow x => show ("ratio" : Str) ∉ [("first" : Str)]; decide
  | fall x => show ("ratio" : Str) ∉ [("most" : Str)]; decide
  | pairs x => show ("ratio" : Str) ∉ [("most" : Str)]; decide
theorem nf_weight (w : WayM) : ("weight" : Str) ∉ [w.fld] := by
  cases w with
  | plain x => show ("weight" : Str) ∉ [("base" : Str)]; decide
  | below x => show ("weight" : Str) ∉ [("base" : Str)]; decide
  | bal x => show ("weight" : Str) ∉ [("half" : Str)]; decide
  | grow x => show ("weight" : Str) ∉ [("first" : Str)]; decide
  | fall x => show ("weight" : Str) ∉ [("most" : Str)]; decide
  | pairs x => show ("weight" : Str) ∉ [("most" : Str)]; decide
theorem nf_split (w : WayM) : ("split" : Str) ∉ [w.fld] := by
  cases w with
  | plain x => show ("split" : Str) ∉ [("base" : Str)]; decide
  | below x => show ("split" : Str) ∉ [("base" : Str)]; decide
  | bal x => show ("split" : Str) ∉ [("half" : Str)]; decide
  | grow x => show ("split" : Str) ∉ [("first" : Str)]; decide
  | fall x => show ("split" : Str) ∉ [("most" : Str)]; decide
  | pairs x => show ("split" : Str) ∉ [("most" : Str)]; decide
theorem nf_has (w : WayM) : ("has" : Str) ∉ [w.fld] := by
  cases w with
  | plain x => show ("has" : Str) ∉ [("base" : Str)]; decide
  | below x => show ("has" : Str) ∉ [("base" : Str)]; decide
  | bal x => show ("has" : Str) ∉ [("half" : Str)]; decide
  | grow x => show ("has" : Str) ∉ [("first" : Str)]; decide
  | fall x => show ("has" : Str) ∉ [("most" : Str)]; decide
  | pairs x => show ("has" : Str) ∉ [("most" : Str)]; decide
def six : List Str := ["Plain", "Below", "Balanced", "Growing", "Falling", "Pairs"]
theorem six_all (w : WayM) : w.cls ∈ six := by
  cases w with
  | plain x => show ("Plain" : Str) ∈ six; decide
  | below x => show ("Below" : Str) ∈ six; decide
  | bal x => show ("Balanced" : Str) ∈ six; decide
  | grow x => show ("Growing" : Str) ∈ six; decide
  | fall x => show ("Falling" : Str) ∈ six; decide
  | pairs x => show ("Pairs" : Str) ∈ six; decide
end DD

set_option Elab.async false
set_option linter.all false
set_option maxRecDepth 100000
set_option maxHeartbeats 1000000
namespace DD
open PySem PySem.Spec PyProof.Rows L2

/-! ### loops told by the place -/
theorem for_at {g : TDG} {tb : TDS} {E : DE} {items : List D} (A : Nat → Prop) (enc : Nat → Env) (a0 : A 0) (step : ∀ (i : Nat) (d : D) (N : Env → Prop), items[i]? = some d → A i → (A (i + 1) → ∀ ρ', Weak ρ' (enc (i + 1)) → N ρ') → g d (enc i) fun ρ2 => tb { nx := N, rt := E.rt, bk := E.nx, ct := N } ρ2)
    (done : A items.length → E.nx (enc items.length)) : forR g tb E items (enc 0) := by
  refine for_inv (fun ds ρ => ∃ i, i ≤ items.length ∧ ds = items.drop i ∧ ρ = enc i ∧ A i) (fun d rest ρ N h hn => ?_) (fun ρ h => ?_) items (enc 0) ⟨0, Nat.zero_le _, rfl, rfl, a0⟩
  · obtain ⟨i, hi, e, rfl, a⟩ := h
    have hl : i < items.length := by
      by_cases hl : i < items.length
      · exact hl
      · rw [List.drop_eq_nil_of_le (Nat.le_of_not_lt hl)] at e; cases e
    rw [List.drop_eq_getElem_cons hl] at e
    injection e with e1 e2
    refine step i d N (by rw [List.getElem?_eq_getElem hl, e1]) a fun a' ρ' w => hn ρ' _ w ⟨i + 1, hl, e2, rfl, a'⟩
  · obtain ⟨i, hi, e, rfl, a⟩ := h
    have : i = items.length := by
      have := congrArg List.length e
      simp at this
      omega
    subst this
    exact done a
theorem range_len (lo : Int) (n : Nat) : (rangeD lo n).length = n := by simp [rangeD]
theorem for_range {g : TDG} {tb : TDS} {E : DE} {lo : Int} {n : Nat} (A : Nat → Prop) (enc : Nat → Env) (a0 : A 0) (step : ∀ (i : Nat) (N : Env → Prop), i < n → A i → (A (i + 1) → ∀ ρ', Weak ρ' (enc (i + 1)) → N ρ') → g (.int (lo + (i : Nat))) (enc i) fun ρ2 => tb { nx := N, rt := E.rt, bk := E.nx, ct := N } ρ2)
    (done : A n → E.nx (enc n)) : forR g tb E (rangeD lo n) (enc 0) := by
  refine for_at A enc a0 (fun i d N e a hN => ?_) (by rw [range_len]; exact done)
  have hi : i < n := by
    by_cases hi : i < n
    · exact hi
    · rw [List.getElem?_eq_none (by rw [range_len]; omega)] at e; cases e
  have : d = .int (lo + (i : Nat)) := by
    simp only [rangeD, List.getElem?_map, List.getElem?_range hi, Option.map_some] at e
    exact (Option.some.inj e).symm
  subst this
  exact step i N hi a hN
theorem for_range0 {g : TDG} {tb : TDS} {E : DE} {n : Nat} (A : Nat → Prop) (enc : Nat → Env) (a0 : A 0) (step : ∀ (i : Nat) (N : Env → Prop), i < n → A i → (A (i + 1) → ∀ ρ', Weak ρ' (enc (i + 1)) → N ρ') → g (.int (i : Nat)) (enc i) fun ρ2 => tb { nx := N, rt := E.rt, bk := E.nx, ct := N } ρ2)
    (done : A n → E.nx (enc n)) : forR g tb E (rangeD 0 n) (enc 0) := for_range A enc a0 (fun i N h a hN => by rw [Int.zero_add]; exact step i N h a hN) done
theorem down_len (lo : Int) (n : Nat) : (downD lo n).length = n := by simp [downD]
theorem for_down {g : TDG} {tb : TDS} {E : DE} {hi : Int} {n : Nat} (A : Nat → Prop) (enc : Nat → Env) (a0 : A 0) (step : ∀ (i : Nat) (N : Env → Prop), i < n → A i → (A (i + 1) → ∀ ρ', Weak ρ' (enc (i + 1)) → N ρ') → g (.int (hi - (i : Nat))) (enc i) fun ρ2 => tb { nx := N, rt := E.rt, bk := E.nx, ct := N } ρ2)
    (done : A n → E.nx (enc n)) : forR g tb E (downD hi n) (enc 0) := by
  refine for_at A enc a0 (fun i d N e a hN => ?_) (by rw [down_len]; exact done)
  have hi2 : i < n := by
    by_cases hi : i < n
    · exact hi
    · rw [List.getElem?_eq_none (by rw [down_len]; omega)] at e; cases e
  have : d = .int (hi - (i : Nat)) := by
    simp only [downD, List.getElem?_map, List.getElem?_range hi2, Option.map_some] at e
    exact (Option.some.inj e).symm
  subst this
  exact step i N hi2 a hN

/-! ### at a place -/
theorem atI_nat {α : Type} {l : List α} {i : Nat} {x : α} {j : Int} (ej : j = i) (h : l[i]? = some x) : L2.atI l j = some x := by
  subst ej
  have hi : i < l.length := by
    by_cases hi : i < l.length
    · exact hi
    · rw [List.getElem?_eq_none (by omega)] at h; cases h
  unfold L2.atI L2.ixN
  rw [if_pos (by omega), if_pos (by omega)]
  exact h
theorem atI_last {α : Type} {l : List α} {x : α} (h : l.getLast? = some x) : L2.atI l (-1) = some x := by
  have hl : l ≠ [] := fun z => by subst z; cases h
  have : 0 < l.length := List.length_pos_iff.mpr hl
  unfold L2.atI L2.ixN
  rw [if_neg (by omega), if_pos (by omega)]
  rw [List.getLast?_eq_getElem?] at h
  show l[((-1 : Int) + l.length).toNat]? = some x
  rw [show ((-1 : Int) + l.length).toNat = l.length - 1 by omega]
  exact h
/-- a list of written ints and a cut of the script, at a place: an int -/
theorem cells_at {ms ns : List Int} {lo hi : Option Int} {i : Nat} (h : i < (intsD ms ++ cutD (intsD ns) lo hi).length) : ∃ c, (intsD ms ++ cutD (intsD ns) lo hi)[i]? = some (.int c) := by
  rw [List.getElem?_eq_getElem h]
  obtain ⟨c, e⟩ := mem_cells (List.getElem_mem h)
  exact ⟨c, by rw [e]⟩

theorem len_pos {a : D} {l : List D} : (0 : Int) < ((a :: l).length : Int) := Int.natCast_pos.mpr (Nat.succ_pos _)
/-! ### numbers' size -/
theorem pow_add_le {a b c : Nat} (h : a + b ≤ c) {x y : Nat} (hx : x < 2 ^ a) (hy : y < 2 ^ b) : x * y < 2 ^ c :=
  Nat.lt_of_lt_of_le (Nat.mul_lt_mul'' hx hy) (by rw [← Nat.pow_add]; exact Nat.pow_le_pow_right (by decide) h)
theorem Num.lt_mono {a : Num} {m n : Nat} (h : a.lt m) (l : m ≤ n) : a.lt n := ⟨Nat.lt_of_lt_of_le h.1 (Nat.pow_le_pow_right (by decide) l), Nat.lt_of_lt_of_le h.2 (Nat.pow_le_pow_right (by decide) l)⟩
theorem Num.lt_mul {a b : Num} {m n : Nat} (ha : a.lt m) (hb : b.lt n) : (a.mul b).lt (m + n + 1) := by
  have p : ∀ x y : Int, x.natAbs < 2 ^ m → y.natAbs < 2 ^ n → (x * y).natAbs < 2 ^ (m + n) := fun x y hx hy => by
    rw [Int.natAbs_mul]
    exact pow_add_le (Nat.le_refl _) hx hy
  have e : 2 ^ (m + n + 1) = 2 ^ (m + n) + 2 ^ (m + n) := by rw [Nat.pow_succ]; omega
  have q0 : 0 < 2 ^ (m + n) := Nat.pow_pos (by decide)
  have h1 := p a.x b.x ha.1 hb.1
  have h2 := p a.y b.y ha.2 hb.2
  have h3 := p a.x b.y ha.1 hb.2
  have h4 := p a.y b.x ha.2 hb.1
  cases a <;> cases b <;> simp only [Num.mul, Num.lt, Num.x, Num.y] at * <;> rw [e] <;> constructor <;> (try simp only [Int.natAbs_zero]) <;> omega
theorem Num.lt_add {a b : Num} {n : Nat} (ha : a.lt n) (hb : b.lt n) : (a.add b).lt (n + 1) := by
  have e : 2 ^ (n + 1) = 2 ^ n + 2 ^ n := by rw [Nat.pow_succ]; omega
  have q0 : 0 < 2 ^ n := Nat.pow_pos (by decide)
  obtain ⟨h1, h2⟩ := ha
  obtain ⟨h3, h4⟩ := hb
  cases a <;> cases b <;> simp only [Num.add, Num.lt, Num.x, Num.y] at * <;> rw [e] <;> constructor <;> (try simp only [Int.natAbs_zero]) <;> omega
theorem Num.n5 (a : Num) : isBor (frzO (borO a.d)) = false := by cases a <;> rfl
theorem Num.n6 (a : Num) : isBor (frzO a.d) = false := by cases a <;> rfl
namespace WayM
theorem ratio_lt {w : WayM} (h : w.ok) {k : Nat} (hk : k ≤ 20000) : (w.ratio k).lt 16 := by
  cases w <;> simp only [ok, ratio, Num.lt, Num.x, Num.y] at * <;> constructor <;> omega
theorem fallW_lt {m : Int} (h : 1 ≤ m ∧ m ≤ 9) : ∀ k : Nat, 1 ≤ (fallW m k).1 ∧ 1 ≤ (fallW m k).2 ∧ (fallW m k).1 < 16 ^ (k + 1) ∧ (fallW m k).2 ≤ (fallW m k).1
  | 0 => ⟨Int.le_refl _, Int.le_refl _, by show (1 : Int) < 16; decide, Int.le_refl _⟩
  | k + 1 => by
    obtain ⟨h1, h2, h3, h4⟩ := fallW_lt h k
    have e : (16 : Int) ^ (k + 1 + 1) = 16 ^ (k + 1) * 16 := Int.pow_succ ..
    have a1 : (fallW m k).1 ≤ m * (fallW m k).1 := by
      have := Int.mul_le_mul_of_nonneg_right h.1 (show 0 ≤ (fallW m k).1 by omega)
      omega
    have a2 : m * (fallW m k).1 ≤ 9 * (fallW m k).1 := Int.mul_le_mul_of_nonneg_right h.2 (by omega)
    refine ⟨?_, h1, ?_, ?_⟩
    · show 1 ≤ m * (fallW m k).1 + (fallW m k).2
      omega
    · show m * (fallW m k).1 + (fallW m k).2 < 16 ^ (k + 1 + 1)
      omega
    · show (fallW m k).1 ≤ m * (fallW m k).1 + (fallW m k).2
      omega
theorem weight_lt {w : WayM} (h : w.ok) : ∀ k : Nat, k ≤ 20000 → (w.weight k).lt (17 * k + 4)
  | 0, _ => by cases w <;> simp [weight, Num.lt, Num.x, Num.y]
  | k + 1, hk => by
    have ih := weight_lt h k (by omega)
    have r := ratio_lt h (k := k) (by omega)
    by_cases hf : w.isFall = true
    · cases w with
      | fall m =>
        have z := (fallW_lt h (k + 1))
        have e : (16 : Int) ^ (k + 1 + 1) = ((2 ^ (4 * k + 8) : Nat) : Int) := by
          rw [show 4 * k + 8 = 4 * (k + 1 + 1) by omega, Nat.pow_mul]
          push_cast
          rfl
        rw [e] at z
        refine Num.lt_mono (m := 4 * k + 8) ⟨?_, ?_⟩ (by omega)
        · show (fallW m (k + 1)).1.natAbs < _
          omega
        · show 0 < _
          exact Nat.pow_pos (by decide)
      | _ => cases hf
    · have e : w.weight (k + 1) = (w.weight k).mul (w.ratio k) := by
        cases w <;> first | rfl | exact absurd rfl hf
      rw [e]
      exact Num.lt_mono (Num.lt_mul ih r) (by omega)
theorem weight_succ {w : WayM} (h : w.isFall = false) (k : Nat) : w.weight (k + 1) = (w.weight k).mul (w.ratio k) := by
  cases w <;> first | rfl | cases h
/-- by the kind -/
def kind : WayM → Int
  | .plain _ => 0 | .below _ => 1 | .bal _ => 2 | .grow _ => 3 | .fall _ => 4 | .pairs _ => 5
end WayM
theorem Num.d_int {a : Num} (h : a.isP = false) : a.d = .int a.x := by cases a <;> first | rfl | cases h
theorem Num.d_pair {a : Num} (h : a.isP = true) : a.d = .tup [.int a.x, .int a.y] := by cases a <;> first | rfl | cases h
theorem weight_isP (w : WayM) : ∀ k : Nat, (w.weight k).isP = w.isPairs
  | 0 => by cases w <;> rfl
  | k + 1 => by
    have ih := weight_isP w k
    cases w with
    | fall m => rfl
    | pairs m => 
      rw [WayM.weight_succ rfl]
      cases h : WayM.weight (.pairs m) k <;> rfl
    | _ =>
      rw [WayM.weight_succ rfl]
      revert ih
      cases h : WayM.weight _ k with
      | i n => intro _; rfl
      | p x y => intro z; cases z
namespace WayM
/-- the weight beneath (1 beneath place 0) -/
def under (w : WayM) : Nat → Num
  | 0 => .i 1
  | n + 1 => w.weight n
theorem under_fall (m : Int) (n : Nat) : (WayM.fall m).under n = .i (fallW m n).2 := by
  cases n with
  | zero => rfl
  | succ n => exact weight_fall m n
theorem weight_fall_succ (m : Int) (n : Nat) : (WayM.fall m).weight (n + 1) = .i (m * (fallW m n).1 + (fallW m n).2) := rfl
theorem weight_pairs_succ {m : Int} {n : Nat} {x y : Int} (h : (WayM.pairs m).weight n = .p x y) : (WayM.pairs m).weight (n + 1) = .p (0 - m * x - y) (x - m * y) := by
  rw [weight_succ rfl, h]
  show Num.p (x * (0 - m) - y * 1) (x * 1 + y * (0 - m)) = _
  rw [Int.mul_sub, Int.mul_sub, Int.mul_zero, Int.mul_zero, Int.mul_one, Int.mul_one, Int.mul_comm x m, Int.mul_comm y m]
  congr 1; omega
/-- a way by a kind and a number -/
def ofK (k n : Int) : WayM :=
  if k = 0 then .plain (2 + n % 59) else if k = 1 then .below (2 + n % 59) else if k = 2 then .bal (1 + n % 30) else if k = 3 then .grow (2 + n % 59) else if k = 4 then .fall (1 + n % 9) else .pairs (1 + n % 9)
theorem ofK_ok (k n : Int) : (ofK k n).ok := by
  unfold ofK
  repeat' split
  all_goals (simp only [WayM.ok]; omega)
theorem six_k {k : Int} (h : 0 ≤ k ∧ k < 6) : k = 0 ∨ k = 1 ∨ k = 2 ∨ k = 3 ∨ k = 4 ∨ k = 5 := by omega
theorem ofK_kind {k : Int} (h : 0 ≤ k ∧ k < 6) (n : Int) : (ofK k n).kind = k := by
  rcases six_k h with rfl | rfl | rfl | rfl | rfl | rfl <;> rfl
def sizeK (k n : Int) : Int := if k = 0 ∨ k = 1 ∨ k = 3 then 2 + n % 59 else if k = 2 then 1 + n % 30 else 1 + n % 9
theorem ofK_v {k : Int} (h : 0 ≤ k ∧ k < 6) (n : Int) : (ofK k n).v = sizeK k n := by
  rcases six_k h with rfl | rfl | rfl | rfl | rfl | rfl <;> rfl
theorem kind_range (w : WayM) : 0 ≤ w.kind ∧ w.kind < 6 := by cases w <;> simp [kind]
end WayM
end DD

set_option Elab.async false
set_option linter.all false
set_option maxRecDepth 100000
set_option maxHeartbeats 1000000
namespace DD
open PySem PySem.Spec PyProof.Rows L2
namespace WayM
/-- how many figures a place has, but in Growing by place -/
def rad (w : WayM) (k : Int) : Int := match w with
  | .plain b => b | .below b => b | .bal h => 2 * h + 1 | .grow f => f + k | .fall _ => 1 | .pairs m => m * m + 1
def fig (w : WayM) (a : Num) (k : Int) : Int := match w with
  | .pairs m => (a.x + m * a.y) % (m * m + 1)
  | w => (a.x - w.low k) % w.rad k + w.low k
def carry (w : WayM) (a : Num) (k : Int) : Num := match w with
  | .pairs m => .p (a.y - m * ((a.x + m * a.y) / (m * m + 1))) (0 - (a.x + m * a.y) / (m * m + 1))
  | .below b => .i (0 - a.x / b)
  | w => .i ((a.x - w.low k) / w.rad k)
theorem sq_pos (m : Int) : 0 < m * m + 1 := by
  have : 0 ≤ m * m := by
    rcases Int.le_total 0 m with h | h
    · exact Int.mul_nonneg h h
    · have := Int.mul_nonneg (show 0 ≤ -m by omega) (show 0 ≤ -m by omega)
      rwa [Int.neg_mul_neg] at this
  omega
theorem rad_pos {w : WayM} (h : w.ok) {k : Int} (hk : 0 ≤ k) : 0 < w.rad k := by
  cases w <;> simp only [ok, rad] at * <;> first | omega | exact sq_pos _
theorem fig_range {w : WayM} (h : w.ok) (hr : w.hasRatio = true) (a : Num) {k : Int} (hk : 0 ≤ k) : w.low k ≤ w.fig a k ∧ w.fig a k ≤ w.high k := by
  have r := rad_pos h hk
  cases w with
  | fall m => cases hr
  | pairs m =>
    have r : 0 < m * m + 1 := r
    have h1 := Int.emod_nonneg (a.x + m * a.y) (show m * m + 1 ≠ 0 by omega)
    have h2 := Int.emod_lt_of_pos (a.x + m * a.y) r
    simp only [low, high, fig]
    omega
  | plain b =>
    have h1 := Int.emod_nonneg (a.x - 0) (show b ≠ 0 by have : 0 < b := r; omega)
    have h2 := Int.emod_lt_of_pos (a.x - 0) r
    simp only [low, high, fig, rad] at *
    omega
  | below b =>
    have h1 := Int.emod_nonneg (a.x - 0) (show b ≠ 0 by have : 0 < b := r; omega)
    have h2 := Int.emod_lt_of_pos (a.x - 0) r
    simp only [low, high, fig, rad] at *
    omega
  | bal b =>
    have h1 := Int.emod_nonneg (a.x - (0 - b)) (show 2 * b + 1 ≠ 0 by have : 0 < 2 * b + 1 := r; omega)
    have h2 := Int.emod_lt_of_pos (a.x - (0 - b)) r
    simp only [low, high, fig, rad] at *
    omega
  | grow b =>
    have h1 := Int.emod_nonneg (a.x - 0) (show b + k ≠ 0 by have : 0 < b + k := r; omega)
    have h2 := Int.emod_lt_of_pos (a.x - 0) r
    simp only [low, high, fig, rad] at *
    omega
/-- the equation of whole numbers -/
theorem split_int {w : WayM} (hr : w.hasRatio = true) (hp : w.isPairs = false) (a : Num) (k : Int) : a.x = w.fig a k + (w.carry a k).x * (w.ratio k).x := by
  cases w with
  | fall m => cases hr
  | pairs m => cases hp
  | plain b =>
    have := Int.mul_ediv_add_emod (a.x - 0) b
    simp only [fig, carry, ratio, low, rad, Num.x] at *
    rw [Int.mul_comm] at this
    omega
  | below b =>
    have := Int.mul_ediv_add_emod (a.x - 0) b
    rw [Int.sub_zero] at this
    show a.x = (a.x - 0) % b + 0 + (0 - a.x / b) * (0 - b)
    rw [Int.sub_zero, show (0 - a.x / b) * (0 - b) = b * (a.x / b) by rw [Int.zero_sub, Int.zero_sub, Int.neg_mul_neg, Int.mul_comm]]
    omega
  | bal b =>
    have := Int.mul_ediv_add_emod (a.x - (0 - b)) (2 * b + 1)
    simp only [fig, carry, ratio, low, rad, Num.x] at *
    rw [Int.mul_comm] at this
    omega
  | grow b =>
    have := Int.mul_ediv_add_emod (a.x - 0) (b + k)
    simp only [fig, carry, ratio, low, rad, Num.x] at *
    rw [Int.mul_comm] at this
    omega
theorem split_pair (m : Int) (a : Num) (k : Int) : a.x = (pairs m).fig a k - m * ((pairs m).carry a k).x - ((pairs m).carry a k).y ∧ a.y = ((pairs m).carry a k).x - m * ((pairs m).carry a k).y := by
  have := Int.mul_ediv_add_emod (a.x + m * a.y) (m * m + 1)
  simp only [fig, carry, Num.x, Num.y] at *
  generalize (a.x + m * a.y) / (m * m + 1) = t at *
  rw [Int.add_mul, Int.one_mul, Int.mul_assoc] at this
  rw [Int.mul_sub, Int.mul_sub, Int.mul_zero]
  omega
theorem fig_self {w : WayM} (hr : w.hasRatio = true) {f k : Int} (h1 : w.low k ≤ f) (h2 : f ≤ w.high k) : w.fig (.i f) k = f ∧ w.carry (.i f) k = w.nought := by
  cases w with
  | fall m => cases hr
  | pairs m =>
    simp only [low, high] at h1 h2
    have e : f + m * 0 = f := by rw [Int.mul_zero, Int.add_zero]
    have e1 : f % (m * m + 1) = f := Int.emod_eq_of_lt h1 (by omega)
    have e2 : f / (m * m + 1) = 0 := Int.ediv_eq_zero_of_lt h1 (by omega)
    show (f + m * 0) % (m * m + 1) = f ∧ Num.p (0 - m * ((f + m * 0) / (m * m + 1))) (0 - (f + m * 0) / (m * m + 1)) = Num.p 0 0
    rw [e, e1, e2, Int.mul_zero]
    exact ⟨rfl, rfl⟩
  | plain b =>
    simp only [low, high] at h1 h2
    simp only [fig, carry, nought, low, rad, Num.x, Int.sub_zero, Int.add_zero]
    rw [Int.emod_eq_of_lt h1 (by omega), Int.ediv_eq_zero_of_lt h1 (by omega)]
    exact ⟨rfl, rfl⟩
  | below b =>
    simp only [low, high] at h1 h2
    simp only [fig, carry, nought, low, rad, Num.x, Int.sub_zero, Int.add_zero]
    rw [Int.emod_eq_of_lt h1 (by omega), Int.ediv_eq_zero_of_lt h1 (by omega)]
    exact ⟨rfl, rfl⟩
  | bal b =>
    simp only [low, high] at h1 h2
    simp only [fig, carry, nought, low, rad, Num.x]
    rw [Int.emod_eq_of_lt (by omega) (by omega), Int.ediv_eq_zero_of_lt (by omega) (by omega)]
    exact ⟨by omega, rfl⟩
  | grow b =>
    simp only [low, high] at h1 h2
    simp only [fig, carry, nought, low, rad, Num.x, Int.sub_zero, Int.add_zero]
    rw [Int.emod_eq_of_lt h1 (by omega), Int.ediv_eq_zero_of_lt h1 (by omega)]
    exact ⟨rfl, rfl⟩
theorem carry_isP (w : WayM) (a : Num) (k : Int) : (w.carry a k).isP = w.isPairs := by cases w <;> rfl
/-- what the method of Pairs divides -/
theorem turned_div (m x y : Int) : ((x + (0 - (x + m * y) % (m * m + 1))) * (0 - m) - (y + 0) * -1) / (m * m + 1) = y - m * ((x + m * y) / (m * m + 1)) ∧ ((x + (0 - (x + m * y) % (m * m + 1))) * -1 + (y + 0) * (0 - m)) / (m * m + 1) = 0 - (x + m * y) / (m * m + 1) := by
  have e := Int.mul_ediv_add_emod (x + m * y) (m * m + 1)
  have p := sq_pos m
  generalize (x + m * y) / (m * m + 1) = t at *
  have e1 : (x + m * y) % (m * m + 1) = x + m * y - (m * m + 1) * t := by omega
  rw [e1]
  refine ⟨Int.ediv_eq_of_eq_mul_right (by omega) ?_, Int.ediv_eq_of_eq_mul_right (by omega) ?_⟩
  · simp only [Int.mul_sub, Int.sub_mul, Int.add_mul, Int.mul_add, Int.mul_zero, Int.zero_mul, Int.one_mul, Int.mul_one, Int.mul_neg, Int.neg_mul, Int.zero_sub, Int.neg_neg, Int.neg_sub, Int.neg_add, Int.mul_assoc, Int.mul_comm, Int.mul_left_comm]
    omega
  · simp only [Int.mul_sub, Int.sub_mul, Int.add_mul, Int.mul_add, Int.mul_zero, Int.zero_mul, Int.one_mul, Int.mul_one, Int.mul_neg, Int.neg_mul, Int.zero_sub, Int.neg_neg, Int.neg_sub, Int.neg_add, Int.mul_assoc, Int.mul_comm, Int.mul_left_comm]
    omega
theorem div_exact {x l r : Int} (h : 0 < r) : (x - ((x - l) % r + l)) / r = (x - l) / r := by
  have e := Int.mul_ediv_add_emod (x - l) r
  refine Int.ediv_eq_of_eq_mul_right (by omega) ?_
  omega
theorem div_exactN {x b : Int} (h : 0 < b) : Int.fdiv (x - ((x - 0) % b + 0)) (0 - b) = 0 - x / b := by
  have e := Int.mul_ediv_add_emod x b
  rw [Int.sub_zero, Int.add_zero]
  have e2 : x - x % b = (0 - x / b) * (0 - b) := by
    rw [Int.zero_sub, Int.zero_sub, Int.neg_mul_neg, Int.mul_comm]
    omega
  rw [e2]
  exact Int.mul_fdiv_cancel _ (by omega)
end WayM
theorem ok_tn (i : Int) (a : Num) : retOk (.tup [.int i, a.d]) = true := by cases a <;> rfl
theorem ret2 {P : Out → Prop} {a b a' b' : Int} (h : P (.ret (.tup [.int a, .int b]))) (ea : a = a') (eb : b = b') : P (.ret (.tup [.int a', .int b'])) := by
  subst ea eb
  exact h
end DD

set_option Elab.async false
set_option linter.all false
set_option maxRecDepth 100000
set_option maxHeartbeats 20000000
namespace My
open PySem PySem.Spec PyProof.Rows L2 DD
local macro_rules | `(tactic| walk_at "x") => `(tactic| first
  | (refine nx_st1 ?_)
  | (refine nx_st2 ?_)
  | (refine nx_st3 ?_)
  | (refine nx_set0 ?_)
  | (refine nx_set1 ?_)
  | (refine nx_set2 ?_)
  | (refine nx_set3 ?_)
  | (refine nx_set4 ?_)
  | (refine nx_set5 ?_)
  | (refine nx_set6 ?_)
  | (refine nx_set7 ?_)
  | (refine nx_set8 ?_)
  | (refine nx_set9 ?_)
  | (refine nx_set10 ?_)
  | (refine nx_set11 ?_)
  | (refine nx_set12 ?_)
  | (refine nx_set13 ?_)
  | (refine nx_set14 ?_)
  | (refine nx_set15 ?_)
  | (refine nx_set16 ?_)
  | (refine nx_set17 ?_)
  | (refine nx_set18 ?_)
  | (refine nx_set19 ?_)
  | (refine nx_set20 ?_)
  | (refine nx_set21 ?_)
  | (refine nx_set22 ?_)
  | (refine nx_set23 ?_)
  | (refine nx_set24 ?_))
local macro_rules | `(tactic| walk_at "f") => `(tactic| first
  | exact ‹FlT _ _› (.plain 0) (by decide)
  | exact ‹FlT _ _› (.below 0) (by decide)
  | exact ‹FlT _ _› (.bal 0) (by decide)
  | exact ‹FlT _ _› (.grow 0) (by decide)
  | exact ‹FlT _ _› (.fall 0) (by decide)
  | exact ‹FlT _ _› (.pairs 0) (by decide))
local macro_rules | `(tactic| walk_at "g") => `(tactic| repeat (first
  | (refine Nx.id ?_; walk_at "x")
  | (refine And.intro ff_tt ?_)
  | (refine And.intro (fun _ => rfl) ?_)
  | (refine And.intro ?_ tt_ff)
  | (refine fun (_ : true = true) => ?_)
  | (refine fun (_ : false = false) => ?_)
  | (refine And.intro rfl ?_)
  | (refine brT (by first | assumption | omega) ?_)
  | (refine brF (by first | assumption | omega) ?_)
  | (refine brNT (by first | assumption | omega) ?_)
  | (refine brNF (by first | assumption | omega) ?_)
  | (refine rEq_i0 ?_)
  | (refine rEq_i1 ?_)
  | (refine And.intro (by first | exact Num.nb _ | exact Num.n3 _ | exact fun _ => Num.ok _ | exact fun _ => ok_tn _ _ | exact Num.n5 _ | exact Num.n6 _) ?_)
  | (refine Or.inl ⟨by show (0 : Int) < _; first | decide | omega, by show Nat.log2 _ < 9000; first | decide | exact log2_small (b := 2000) (by decide) (by decide) | exact log2_small (b := 64) (by omega) (by decide), ?_⟩)
  | (refine Or.inr ⟨by show _ < (0 : Int); first | decide | omega, by show _ < 1073741824; first | decide | omega, ?_⟩)
  | (refine And.intro (by show (0 : Int) < _; first | decide | omega | exact len_pos) ?_)
  | (refine And.intro (by show MulB _ _; first | assumption | exact mulOk_right (by decide) (by decide) | exact mulOk_left (by decide) (by decide)) ?_)
  | (refine And.intro (by show 0 ≤ _ ∧ _ ≤ 1000000 ∧ Int.natAbs _ < _; decide) ?_)
  | (refine And.intro (by show MulB _ _; (try simp only [WayM.v]); first | exact mulOk_right (by omega) (by omega) | exact mulOk_left (by omega) (by omega)) ?_)
  | (refine And.intro (by walk_at "f") (Exists.intro _ (And.intro fld_one ?_)))
  | (refine And.intro (size_small (by show _ ≤ _; simp only [List.length_cons, List.length_nil]; decide)) ?_)))
local macro_rules | `(tactic| walk_at "n") => `(tactic| first | rfl | (simp only [List.map, Num.n1, Num.n2, Num.frz]; first | done | rfl))
local macro_rules | `(tactic| walk_at "w") => `(tactic| (try simp only [Num.n1, Num.n2, Num.frz]); repeat (first | exact weak_nil | (refine weak_keep ?_) | (refine weak_drop ?_)))

def LC : List Str := ["Plain", "Below", "Balanced", "Growing", "Pairs"]
def I_Way_low : List Str := ["Plain", "Below", "Growing", "Pairs"]
def I_Way_split : List Str := ["Plain", "Below", "Balanced", "Growing"]
def topS (i : Nat) : Stmt := PySem.Challenge.pw_oddbases_k04_split_in_one_way.main.body.getD i (.Pass ⟨0, 0, 0, 0⟩)
abbrev st_is_pair : Stmt := topS 6
abbrev N_is_pair : List Str := ["thing"]
theorem sc_is_pair : FnScope N_is_pair ["thing"] (defScope st_is_pair) := ⟨rfl, rfl, rfl, by decide +kernel, rfl, by decide +kernel, by decide +kernel⟩
abbrev st_as_pair : Stmt := topS 7
abbrev N_as_pair : List Str := ["thing"]
theorem sc_as_pair : FnScope N_as_pair ["thing"] (defScope st_as_pair) := ⟨rfl, rfl, rfl, by decide +kernel, rfl, by decide +kernel, by decide +kernel⟩
abbrev st_added : Stmt := topS 8
abbrev N_added : List Str := ["one", "other", "a", "b", "c", "d"]
theorem sc_added : FnScope N_added ["one", "other"] (defScope st_added) := ⟨rfl, rfl, rfl, by decide +kernel, rfl, by decide +kernel, by decide +kernel⟩
abbrev st_multiplied : Stmt := topS 9
abbrev N_multiplied : List Str := ["one", "other", "a", "b", "c", "d"]
theorem sc_multiplied : FnScope N_multiplied ["one", "other"] (defScope st_multiplied) := ⟨rfl, rfl, rfl, by decide +kernel, rfl, by decide +kernel, by decide +kernel⟩
abbrev st_look_at : Stmt := topS 11
abbrev N_look_at : List Str := ["number", "least", "greatest"]
theorem sc_look_at : FnScope N_look_at ["number", "least", "greatest"] (defScope st_look_at) := ⟨rfl, rfl, rfl, by decide +kernel, rfl, by decide +kernel, by decide +kernel⟩
abbrev st_Way_low : Stmt := inClass (topS 12) 0
abbrev N_Way_low : List Str := ["self", "place"]
theorem sc_Way_low : FnScope N_Way_low ["self", "place"] (defScope st_Way_low) := ⟨rfl, rfl, rfl, by decide +kernel, rfl, by decide +kernel, by decide +kernel⟩
abbrev st_Balanced_low : Stmt := inClass (topS 15) 1
abbrev N_Balanced_low : List Str := ["self", "place"]
theorem sc_Balanced_low : FnScope N_Balanced_low ["self", "place"] (defScope st_Balanced_low) := ⟨rfl, rfl, rfl, by decide +kernel, rfl, by decide +kernel, by decide +kernel⟩
abbrev st_Plain_ratio : Stmt := inClass (topS 13) 2
abbrev N_Plain_ratio : List Str := ["self", "place"]
theorem sc_Plain_ratio : FnScope N_Plain_ratio ["self", "place"] (defScope st_Plain_ratio) := ⟨rfl, rfl, rfl, by decide +kernel, rfl, by decide +kernel, by decide +kernel⟩
abbrev st_Below_ratio : Stmt := inClass (topS 14) 2
abbrev N_Below_ratio : List Str := ["self", "place"]
theorem sc_Below_ratio : FnScope N_Below_ratio ["self", "place"] (defScope st_Below_ratio) := ⟨rfl, rfl, rfl, by decide +kernel, rfl, by decide +kernel, by decide +kernel⟩
abbrev st_Balanced_ratio : Stmt := inClass (topS 15) 3
abbrev N_Balanced_ratio : List Str := ["self", "place"]
theorem sc_Balanced_ratio : FnScope N_Balanced_ratio ["self", "place"] (defScope st_Balanced_ratio) := ⟨rfl, rfl, rfl, by decide +kernel, rfl, by decide +kernel, by decide +kernel⟩
abbrev st_Growing_ratio : Stmt := inClass (topS 16) 2
abbrev N_Growing_ratio : List Str := ["self", "place"]
theorem sc_Growing_ratio : FnScope N_Growing_ratio ["self", "place"] (defScope st_Growing_ratio) := ⟨rfl, rfl, rfl, by decide +kernel, rfl, by decide +kernel, by decide +kernel⟩
abbrev st_Pairs_ratio : Stmt := inClass (topS 17) 2
abbrev N_Pairs_ratio : List Str := ["self", "place"]
theorem sc_Pairs_ratio : FnScope N_Pairs_ratio ["self", "place"] (defScope st_Pairs_ratio) := ⟨rfl, rfl, rfl, by decide +kernel, rfl, by decide +kernel, by decide +kernel⟩
abbrev st_Way_split : Stmt := inClass (topS 12) 4
abbrev N_Way_split : List Str := ["self", "total", "place", "low", "base", "figure"]
theorem sc_Way_split : FnScope N_Way_split ["self", "total", "place"] (defScope st_Way_split) := ⟨rfl, rfl, rfl, by decide +kernel, rfl, by decide +kernel, by decide +kernel⟩
abbrev st_Pairs_split : Stmt := inClass (topS 17) 4
abbrev N_Pairs_split : List Str := ["self", "total", "place", "size", "x", "y", "figure", "turned"]
theorem sc_Pairs_split : FnScope N_Pairs_split ["self", "total", "place"] (defScope st_Pairs_split) := ⟨rfl, rfl, rfl, by decide +kernel, rfl, by decide +kernel, by decide +kernel⟩
abbrev st__law_whole : Stmt := topS 19
abbrev N__law_whole : List Str := ["_law_found"]
theorem sc__law_whole : FnScope N__law_whole ["_law_found"] (defScope st__law_whole) := ⟨rfl, rfl, rfl, by decide +kernel, rfl, by decide +kernel, by decide +kernel⟩
abbrev st__law_pair : Stmt := topS 20
abbrev N__law_pair : List Str := ["_law_found"]
theorem sc__law_pair : FnScope N__law_pair ["_law_found"] (defScope st__law_pair) := ⟨rfl, rfl, rfl, by decide +kernel, rfl, by decide +kernel, by decide +kernel⟩
abbrev st__law_way : Stmt := topS 21
abbrev N__law_way : List Str := ["_law_kind", "_law_number_here"]
theorem sc__law_way : FnScope N__law_way ["_law_kind", "_law_number_here"] (defScope st__law_way) := ⟨rfl, rfl, rfl, by decide +kernel, rfl, by decide +kernel, by decide +kernel⟩
abbrev st__law_bounds : Stmt := topS 22
abbrev N__law_bounds : List Str := ["_law_kind", "_law_size", "_law_place"]
theorem sc__law_bounds : FnScope N__law_bounds ["_law_kind", "_law_size", "_law_place"] (defScope st__law_bounds) := ⟨rfl, rfl, rfl, by decide +kernel, rfl, by decide +kernel, by decide +kernel⟩
abbrev st__law_number : Stmt := topS 23
abbrev N__law_number : List Str := ["_law_cell", "_law_far"]
theorem sc__law_number : FnScope N__law_number ["_law_cell"] (defScope st__law_number) := ⟨rfl, rfl, rfl, by decide +kernel, rfl, by decide +kernel, by decide +kernel⟩
abbrev st__law_split_right : Stmt := topS 24
abbrev N__law_split_right : List Str := ["_law_way_here", "_law_kind", "_law_size", "_law_place", "_law_total", "_law_found", "_law_least", "_law_greatest", "_law_step", "_law_x", "_law_y", "_law_whole_here"]
theorem sc__law_split_right : FnScope N__law_split_right ["_law_way_here", "_law_kind", "_law_size", "_law_place", "_law_total"] (defScope st__law_split_right) := ⟨rfl, rfl, rfl, by decide +kernel, rfl, by decide +kernel, by decide +kernel⟩
abbrev st_law : Stmt := topS 25
abbrev N_law : List Str := ["_law_script", "_law_cells", "_law_k", "_law_kind", "_law_number_here", "_law_way_here", "_law_size", "_law_place", "_law_total", "_law_pair_here", "_law_least", "_law_greatest", "_law_figure"]
theorem sc_law : FnScope N_law ["_law_script"] (defScope st_law) := ⟨rfl, rfl, rfl, by decide +kernel, rfl, by decide +kernel, by decide +kernel⟩
abbrev st_Plain___init__ : Stmt := inClass (topS 13) 0
abbrev N_Plain___init__ : List Str := ["self", "base"]
theorem sc_Plain___init__ : FnScope N_Plain___init__ ["self", "base"] (defScope st_Plain___init__) := ⟨rfl, rfl, rfl, by decide +kernel, rfl, by decide +kernel, by decide +kernel⟩
abbrev st_Below___init__ : Stmt := inClass (topS 14) 0
abbrev N_Below___init__ : List Str := ["self", "base"]
theorem sc_Below___init__ : FnScope N_Below___init__ ["self", "base"] (defScope st_Below___init__) := ⟨rfl, rfl, rfl, by decide +kernel, rfl, by decide +kernel, by decide +kernel⟩
abbrev st_Balanced___init__ : Stmt := inClass (topS 15) 0
abbrev N_Balanced___init__ : List Str := ["self", "half"]
theorem sc_Balanced___init__ : FnScope N_Balanced___init__ ["self", "half"] (defScope st_Balanced___init__) := ⟨rfl, rfl, rfl, by decide +kernel, rfl, by decide +kernel, by decide +kernel⟩
abbrev st_Growing___init__ : Stmt := inClass (topS 16) 0
abbrev N_Growing___init__ : List Str := ["self", "first"]
theorem sc_Growing___init__ : FnScope N_Growing___init__ ["self", "first"] (defScope st_Growing___init__) := ⟨rfl, rfl, rfl, by decide +kernel, rfl, by decide +kernel, by decide +kernel⟩
abbrev st_Pairs___init__ : Stmt := inClass (topS 17) 0
abbrev N_Pairs___init__ : List Str := ["self", "most"]
theorem sc_Pairs___init__ : FnScope N_Pairs___init__ ["self", "most"] (defScope st_Pairs___init__) := ⟨rfl, rfl, rfl, by decide +kernel, rfl, by decide +kernel, by decide +kernel⟩
structure Tx (Γ : Gm) : Prop where
  m_abs : Γ.mg "abs" = none
  m_bool : Γ.mg "bool" = none
  m_int : Γ.mg "int" = none
  m_isinstance : Γ.mg "isinstance" = none
  m_len : Γ.mg "len" = none
  m_range : Γ.mg "range" = none
  m_tuple : Γ.mg "tuple" = none
  fl : FlT LC Γ
  x_NoWay : ExK Γ "NoWay"
def M_is_pair : MD := fun ds P => ∃ a : Num, ds = [a.d] ∧ P (.ret (.bl a.isP))
theorem ok_is_pair {Γ : Gm} {k : Nat} (T : Tx Γ) {f : Addr} {fd : FuncData} (F : Fun Γ.K "is_pair" "is_pair" st_is_pair f fd) : FnOk Γ.P Γ.w Γ.K Γ.mg Γ.base (L2.CX Γ.P Γ.w) (k + 1) f fd ["thing"] (spD Γ.nm M_is_pair) := by
  refine fnD F sc_is_pair (fun ds P h => ?_) (fun cdv A outer s H E G0 ds P jx hr ps h => ?_)
  · first | (obtain ⟨rfl, _⟩ := h; rfl) | (obtain ⟨_, rfl, _⟩ := h; rfl) | (obtain ⟨_, _, rfl, _⟩ := h; rfl) | (obtain ⟨_, _, _, rfl, _⟩ := h; rfl) | (obtain ⟨_, _, _, _, rfl, _⟩ := h; rfl) | (obtain ⟨_, _, _, _, _, rfl, _⟩ := h; rfl) | (obtain ⟨_, _, _, _, _, _, rfl, _⟩ := h; rfl) | (obtain ⟨_, _, _, _, _, _, _, rfl, _⟩ := h; rfl) | (obtain ⟨_, _, _, _, _, _, _, _, rfl, _⟩ := h; rfl) | (obtain ⟨_, _, _, _, _, _, _, _, _, rfl, _⟩ := h; rfl)
  have nd : N_is_pair.Nodup := sc_is_pair.nd
  refine ⟨_, (jss_one (js_ret (je_isi Γ (.ty .tup) rfl T.m_isinstance (jv 0) (pn_ty rfl T.m_tuple (by decide +kernel))))), ?_⟩
  obtain ⟨a, rfl, p⟩ := h
  cases a <;> (walk_at "g"; exact p)
def M_as_pair : MD := fun ds P => ∃ a : Num, ds = [a.d] ∧ P (.ret (.tup [.int a.x, .int a.y]))
theorem ok_as_pair {Γ : Gm} {k : Nat} (T : Tx Γ) {f : Addr} {fd : FuncData} (F : Fun Γ.K "as_pair" "as_pair" st_as_pair f fd) (c_is_pair : Cal Γ k "is_pair" 1 M_is_pair) : FnOk Γ.P Γ.w Γ.K Γ.mg Γ.base (L2.CX Γ.P Γ.w) (k + 1) f fd ["thing"] (spD Γ.nm M_as_pair) := by
  refine fnD F sc_as_pair (fun ds P h => ?_) (fun cdv A outer s H E G0 ds P jx hr ps h => ?_)
  · first | (obtain ⟨rfl, _⟩ := h; rfl) | (obtain ⟨_, rfl, _⟩ := h; rfl) | (obtain ⟨_, _, rfl, _⟩ := h; rfl) | (obtain ⟨_, _, _, rfl, _⟩ := h; rfl) | (obtain ⟨_, _, _, _, rfl, _⟩ := h; rfl) | (obtain ⟨_, _, _, _, _, rfl, _⟩ := h; rfl) | (obtain ⟨_, _, _, _, _, _, rfl, _⟩ := h; rfl) | (obtain ⟨_, _, _, _, _, _, _, rfl, _⟩ := h; rfl) | (obtain ⟨_, _, _, _, _, _, _, _, rfl, _⟩ := h; rfl) | (obtain ⟨_, _, _, _, _, _, _, _, _, rfl, _⟩ := h; rfl)
  have nd : N_as_pair.Nodup := sc_as_pair.nd
  refine ⟨_, (jss_cons (js_if (jt_val (je_call jx c_is_pair hr rfl (ja_cons (jv 0) ja_nil))) (jss_one (js_retv 0 (pv 0))) jss_nil) (jss_one (js_ret (je_tup (ja_cons (jv 0) (ja_cons je_int ja_nil)))))), ?_⟩
  obtain ⟨a, rfl, p⟩ := h
  cases a with
  | i n =>
    walk_at "g"
    refine ⟨.i n, rfl, ?_⟩
    walk_at "g"
    exact p
  | p x y => 
    walk_at "g"
    refine ⟨.p x y, rfl, ?_⟩
    walk_at "g"
    exact p
def M_added : MD := fun ds P => ∃ a b : Num, ds = [a.d, b.d] ∧ P (.ret (a.add b).d)
theorem ok_added {Γ : Gm} {k : Nat} (T : Tx Γ) {f : Addr} {fd : FuncData} (F : Fun Γ.K "added" "added" st_added f fd) (c_as_pair : Cal Γ k "as_pair" 1 M_as_pair) (c_is_pair : Cal Γ k "is_pair" 1 M_is_pair) : FnOk Γ.P Γ.w Γ.K Γ.mg Γ.base (L2.CX Γ.P Γ.w) (k + 1) f fd ["one", "other"] (spD Γ.nm M_added) := by
  refine fnD F sc_added (fun ds P h => ?_) (fun cdv A outer s H E G0 ds P jx hr ps h => ?_)
  · first | (obtain ⟨rfl, _⟩ := h; rfl) | (obtain ⟨_, rfl, _⟩ := h; rfl) | (obtain ⟨_, _, rfl, _⟩ := h; rfl) | (obtain ⟨_, _, _, rfl, _⟩ := h; rfl) | (obtain ⟨_, _, _, _, rfl, _⟩ := h; rfl) | (obtain ⟨_, _, _, _, _, rfl, _⟩ := h; rfl) | (obtain ⟨_, _, _, _, _, _, rfl, _⟩ := h; rfl) | (obtain ⟨_, _, _, _, _, _, _, rfl, _⟩ := h; rfl) | (obtain ⟨_, _, _, _, _, _, _, _, rfl, _⟩ := h; rfl) | (obtain ⟨_, _, _, _, _, _, _, _, _, rfl, _⟩ := h; rfl)
  have nd : N_added.Nodup := sc_added.nd
  refine ⟨_, (jss_cons (js_if (JW.jt (jw_and (jt_not (jt_val (je_call jx c_is_pair hr rfl (ja_cons (jv 0) ja_nil)))) (jw_and1 (jt_not (jt_val (je_call jx c_is_pair hr rfl (ja_cons (jv 1) ja_nil))))))) (jss_one (js_ret (je_op o_add (jv 0) (jv 1)))) jss_nil) (jss_cons (js_asg (je_call jx c_as_pair hr rfl (ja_cons (jv 0) ja_nil)) (jg_tup rfl (jgs_cons (jg_name (i := 2) nd rfl (by first | exact Or.inl rfl | exact Or.inr rfl)) (jgs_cons (jg_name (i := 3) nd rfl (by first | exact Or.inl rfl | exact Or.inr rfl)) jgs_nil)))) (jss_cons (js_asg (je_call jx c_as_pair hr rfl (ja_cons (jv 1) ja_nil)) (jg_tup rfl (jgs_cons (jg_name (i := 4) nd rfl (by first | exact Or.inl rfl | exact Or.inr rfl)) (jgs_cons (jg_name (i := 5) nd rfl (by first | exact Or.inl rfl | exact Or.inr rfl)) jgs_nil)))) (jss_one (js_ret (je_tup (ja_cons (je_op o_add (jv 2) (jv 4)) (ja_cons (je_op o_add (jv 3) (jv 5)) ja_nil)))))))), ?_⟩
  obtain ⟨a, b, rfl, p⟩ := h
  cases a with
  | i n =>
    walk_at "g"
    refine ⟨.i n, rfl, ?_⟩
    walk_at "g"
    cases b with
    | i m =>
      refine ⟨.i m, rfl, ?_⟩
      walk_at "g"
      exact p
    | p x y =>
      refine ⟨.p x y, rfl, ?_⟩
      walk_at "g"
      refine ⟨.i n, rfl, ?_⟩
      walk_at "g"
      refine ⟨.p x y, rfl, ?_⟩
      walk_at "g"
      exact p
  | p x y =>
    walk_at "g"
    refine ⟨.p x y, rfl, ?_⟩
    walk_at "g"
    refine ⟨.p x y, rfl, ?_⟩
    walk_at "g"
    cases b with
    | i m =>
      refine ⟨.i m, rfl, ?_⟩
      walk_at "g"
      exact p
    | p u v =>
      refine ⟨.p u v, rfl, ?_⟩
      walk_at "g"
      exact p
def M_multiplied : MD := fun ds P => ∃ a b : Num, ds = [a.d, b.d] ∧ (∃ m n, a.lt m ∧ b.lt n ∧ m + n ≤ 999998) ∧ P (.ret (a.mul b).d)
theorem ok_multiplied {Γ : Gm} {k : Nat} (T : Tx Γ) {f : Addr} {fd : FuncData} (F : Fun Γ.K "multiplied" "multiplied" st_multiplied f fd) (c_as_pair : Cal Γ k "as_pair" 1 M_as_pair) (c_is_pair : Cal Γ k "is_pair" 1 M_is_pair) : FnOk Γ.P Γ.w Γ.K Γ.mg Γ.base (L2.CX Γ.P Γ.w) (k + 1) f fd ["one", "other"] (spD Γ.nm M_multiplied) := by
  refine fnD F sc_multiplied (fun ds P h => ?_) (fun cdv A outer s H E G0 ds P jx hr ps h => ?_)
  · first | (obtain ⟨rfl, _⟩ := h; rfl) | (obtain ⟨_, rfl, _⟩ := h; rfl) | (obtain ⟨_, _, rfl, _⟩ := h; rfl) | (obtain ⟨_, _, _, rfl, _⟩ := h; rfl) | (obtain ⟨_, _, _, _, rfl, _⟩ := h; rfl) | (obtain ⟨_, _, _, _, _, rfl, _⟩ := h; rfl) | (obtain ⟨_, _, _, _, _, _, rfl, _⟩ := h; rfl) | (obtain ⟨_, _, _, _, _, _, _, rfl, _⟩ := h; rfl) | (obtain ⟨_, _, _, _, _, _, _, _, rfl, _⟩ := h; rfl) | (obtain ⟨_, _, _, _, _, _, _, _, _, rfl, _⟩ := h; rfl)
  have nd : N_multiplied.Nodup := sc_multiplied.nd
  refine ⟨_, (jss_cons (js_if (JW.jt (jw_and (jt_not (jt_val (je_call jx c_is_pair hr rfl (ja_cons (jv 0) ja_nil)))) (jw_and1 (jt_not (jt_val (je_call jx c_is_pair hr rfl (ja_cons (jv 1) ja_nil))))))) (jss_one (js_ret (je_op o_mul (jv 0) (jv 1)))) jss_nil) (jss_cons (js_asg (je_call jx c_as_pair hr rfl (ja_cons (jv 0) ja_nil)) (jg_tup rfl (jgs_cons (jg_name (i := 2) nd rfl (by first | exact Or.inl rfl | exact Or.inr rfl)) (jgs_cons (jg_name (i := 3) nd rfl (by first | exact Or.inl rfl | exact Or.inr rfl)) jgs_nil)))) (jss_cons (js_asg (je_call jx c_as_pair hr rfl (ja_cons (jv 1) ja_nil)) (jg_tup rfl (jgs_cons (jg_name (i := 4) nd rfl (by first | exact Or.inl rfl | exact Or.inr rfl)) (jgs_cons (jg_name (i := 5) nd rfl (by first | exact Or.inl rfl | exact Or.inr rfl)) jgs_nil)))) (jss_one (js_ret (je_tup (ja_cons (je_op o_sub (je_op o_mul (jv 2) (jv 4)) (je_op o_mul (jv 3) (jv 5))) (ja_cons (je_op o_add (je_op o_mul (jv 2) (jv 5)) (je_op o_mul (jv 3) (jv 4))) ja_nil)))))))), ?_⟩
  obtain ⟨a, b, rfl, ⟨m, n, ha, hb, hmn⟩, p⟩ := h
  obtain ⟨m1, m2, m3, m4⟩ := Num.mulOk ha hb hmn
  cases a with
  | i n =>
    walk_at "g"
    refine ⟨.i n, rfl, ?_⟩
    walk_at "g"
    cases b with
    | i m =>
      refine ⟨.i m, rfl, ?_⟩
      walk_at "g"
      exact p
    | p x y =>
      refine ⟨.p x y, rfl, ?_⟩
      walk_at "g"
      refine ⟨.i n, rfl, ?_⟩
      walk_at "g"
      refine ⟨.p x y, rfl, ?_⟩
      walk_at "g"
      exact p
  | p x y =>
    walk_at "g"
    refine ⟨.p x y, rfl, ?_⟩
    walk_at "g"
    refine ⟨.p x y, rfl, ?_⟩
    walk_at "g"
    cases b with
    | i m =>
      refine ⟨.i m, rfl, ?_⟩
      walk_at "g"
      exact p
    | p u v =>
      refine ⟨.p u v, rfl, ?_⟩
      walk_at "g"
      exact p

theorem ok_look_at {Γ : Gm} {k : Nat} (T : Tx Γ) {f : Addr} {fd : FuncData} (F : Fun Γ.K "look_at" "look_at" st_look_at f fd) : FnOk Γ.P Γ.w Γ.K Γ.mg Γ.base (L2.CX Γ.P Γ.w) (k + 1) f fd ["number", "least", "greatest"] (spD Γ.nm M_look_at) := by
  refine fnD F sc_look_at (fun ds P h => ?_) (fun cdv A outer s H E G0 ds P jx hr ps h => ?_)
  · first | (obtain ⟨rfl, _⟩ := h; rfl) | (obtain ⟨_, rfl, _⟩ := h; rfl) | (obtain ⟨_, _, rfl, _⟩ := h; rfl) | (obtain ⟨_, _, _, rfl, _⟩ := h; rfl) | (obtain ⟨_, _, _, _, rfl, _⟩ := h; rfl) | (obtain ⟨_, _, _, _, _, rfl, _⟩ := h; rfl) | (obtain ⟨_, _, _, _, _, _, rfl, _⟩ := h; rfl) | (obtain ⟨_, _, _, _, _, _, _, rfl, _⟩ := h; rfl) | (obtain ⟨_, _, _, _, _, _, _, _, rfl, _⟩ := h; rfl) | (obtain ⟨_, _, _, _, _, _, _, _, _, rfl, _⟩ := h; rfl)
  have nd : N_look_at.Nodup := sc_look_at.nd
  refine ⟨_, (jss_one (js_if (jt_not (jt_chain o_le o_le (jv 1) (jv 0) (jv 2))) (jss_one (js_raise jx T.x_NoWay rfl rfl)) jss_nil)), ?_⟩
  obtain ⟨n, lo, hi, rfl, p1, p2⟩ := h
  by_cases h1 : lo ≤ n
  · by_cases h2 : n ≤ hi
    · walk_at "g"
      exact p1 ⟨h1, h2⟩
    · walk_at "g"
      exact p2 fun z => h2 z.2
  · walk_at "g"
    exact p2 fun z => h1 z.1
theorem ok_Plain___init__ {Γ : Gm} {k : Nat} (T : Tx Γ) {f : Addr} {fd : FuncData} (F : Fun Γ.K "__init__" "Plain.__init__" st_Plain___init__ f fd) (c_look_at : Cal Γ k "look_at" 3 M_look_at) : FnOk Γ.P Γ.w Γ.K Γ.mg Γ.base (L2.CX Γ.P Γ.w) (k + 1) f fd ["self", "base"] (spI Γ.nm "Plain" "base" 2 60) := by
  refine F.okX sc_Plain___init__ (fun vs H Q E h => ?_) fun cdv A outer s H vs Q E hr h => ?_
  · obtain ⟨_, _, _, rfl, _⟩ := h; rfl
  · obtain ⟨x, dx, n, rfl, hx, hd, q1, q2⟩ := h
    obtain ⟨f0, fd0, ps0, _, F0, hm, hk, hb⟩ := c_look_at.ex
    have tk := takes_of (X := cxOf (L2.CX Γ.P Γ.w) Γ.P Γ.w Γ.K Γ.mg Γ.base N_Plain___init__ "Plain.__init__" (defScope st_Plain___init__) f cdv A outer s H E) rfl rfl rfl rfl
    refine ⟨_, pss_cons (ps_expr (pe_callS F0 hr rfl hm hk hb (fun σ => passAt tk σ) (pa_cons (pv 1) (pa_cons pe_int (pa_cons pe_int pa_nil))))) (pss_one (ps_fld (pv 0) (pv 1) rfl)), ?_⟩
    exact init_read (T.fl (.plain 0) (by decide)) (fun _ _ _ => rfl) rfl rfl hx hd q1 q2
theorem ok_Below___init__ {Γ : Gm} {k : Nat} (T : Tx Γ) {f : Addr} {fd : FuncData} (F : Fun Γ.K "__init__" "Below.__init__" st_Below___init__ f fd) (c_look_at : Cal Γ k "look_at" 3 M_look_at) : FnOk Γ.P Γ.w Γ.K Γ.mg Γ.base (L2.CX Γ.P Γ.w) (k + 1) f fd ["self", "base"] (spI Γ.nm "Below" "base" 2 60) := by
  refine F.okX sc_Below___init__ (fun vs H Q E h => ?_) fun cdv A outer s H vs Q E hr h => ?_
  · obtain ⟨_, _, _, rfl, _⟩ := h; rfl
  · obtain ⟨x, dx, n, rfl, hx, hd, q1, q2⟩ := h
    obtain ⟨f0, fd0, ps0, _, F0, hm, hk, hb⟩ := c_look_at.ex
    have tk := takes_of (X := cxOf (L2.CX Γ.P Γ.w) Γ.P Γ.w Γ.K Γ.mg Γ.base N_Below___init__ "Below.__init__" (defScope st_Below___init__) f cdv A outer s H E) rfl rfl rfl rfl
    refine ⟨_, pss_cons (ps_expr (pe_callS F0 hr rfl hm hk hb (fun σ => passAt tk σ) (pa_cons (pv 1) (pa_cons pe_int (pa_cons pe_int pa_nil))))) (pss_one (ps_fld (pv 0) (pv 1) rfl)), ?_⟩
    exact init_read (T.fl (.below 0) (by decide)) (fun _ _ _ => rfl) rfl rfl hx hd q1 q2
theorem ok_Balanced___init__ {Γ : Gm} {k : Nat} (T : Tx Γ) {f : Addr} {fd : FuncData} (F : Fun Γ.K "__init__" "Balanced.__init__" st_Balanced___init__ f fd) (c_look_at : Cal Γ k "look_at" 3 M_look_at) : FnOk Γ.P Γ.w Γ.K Γ.mg Γ.base (L2.CX Γ.P Γ.w) (k + 1) f fd ["self", "half"] (spI Γ.nm "Balanced" "half" 1 30) := by
  refine F.okX sc_Balanced___init__ (fun vs H Q E h => ?_) fun cdv A outer s H vs Q E hr h => ?_
  · obtain ⟨_, _, _, rfl, _⟩ := h; rfl
  · obtain ⟨x, dx, n, rfl, hx, hd, q1, q2⟩ := h
    obtain ⟨f0, fd0, ps0, _, F0, hm, hk, hb⟩ := c_look_at.ex
    have tk := takes_of (X := cxOf (L2.CX Γ.P Γ.w) Γ.P Γ.w Γ.K Γ.mg Γ.base N_Balanced___init__ "Balanced.__init__" (defScope st_Balanced___init__) f cdv A outer s H E) rfl rfl rfl rfl
    refine ⟨_, pss_cons (ps_expr (pe_callS F0 hr rfl hm hk hb (fun σ => passAt tk σ) (pa_cons (pv 1) (pa_cons pe_int (pa_cons pe_int pa_nil))))) (pss_one (ps_fld (pv 0) (pv 1) rfl)), ?_⟩
    exact init_read (T.fl (.bal 0) (by decide)) (fun _ _ _ => rfl) rfl rfl hx hd q1 q2
theorem ok_Growing___init__ {Γ : Gm} {k : Nat} (T : Tx Γ) {f : Addr} {fd : FuncData} (F : Fun Γ.K "__init__" "Growing.__init__" st_Growing___init__ f fd) (c_look_at : Cal Γ k "look_at" 3 M_look_at) : FnOk Γ.P Γ.w Γ.K Γ.mg Γ.base (L2.CX Γ.P Γ.w) (k + 1) f fd ["self", "first"] (spI Γ.nm "Growing" "first" 2 60) := by
  refine F.okX sc_Growing___init__ (fun vs H Q E h => ?_) fun cdv A outer s H vs Q E hr h => ?_
  · obtain ⟨_, _, _, rfl, _⟩ := h; rfl
  · obtain ⟨x, dx, n, rfl, hx, hd, q1, q2⟩ := h
    obtain ⟨f0, fd0, ps0, _, F0, hm, hk, hb⟩ := c_look_at.ex
    have tk := takes_of (X := cxOf (L2.CX Γ.P Γ.w) Γ.P Γ.w Γ.K Γ.mg Γ.base N_Growing___init__ "Growing.__init__" (defScope st_Growing___init__) f cdv A outer s H E) rfl rfl rfl rfl
    refine ⟨_, pss_cons (ps_expr (pe_callS F0 hr rfl hm hk hb (fun σ => passAt tk σ) (pa_cons (pv 1) (pa_cons pe_int (pa_cons pe_int pa_nil))))) (pss_one (ps_fld (pv 0) (pv 1) rfl)), ?_⟩
    exact init_read (T.fl (.grow 0) (by decide)) (fun _ _ _ => rfl) rfl rfl hx hd q1 q2
theorem ok_Pairs___init__ {Γ : Gm} {k : Nat} (T : Tx Γ) {f : Addr} {fd : FuncData} (F : Fun Γ.K "__init__" "Pairs.__init__" st_Pairs___init__ f fd) (c_look_at : Cal Γ k "look_at" 3 M_look_at) : FnOk Γ.P Γ.w Γ.K Γ.mg Γ.base (L2.CX Γ.P Γ.w) (k + 1) f fd ["self", "most"] (spI Γ.nm "Pairs" "most" 1 9) := by
  refine F.okX sc_Pairs___init__ (fun vs H Q E h => ?_) fun cdv A outer s H vs Q E hr h => ?_
  · obtain ⟨_, _, _, rfl, _⟩ := h; rfl
  · obtain ⟨x, dx, n, rfl, hx, hd, q1, q2⟩ := h
    obtain ⟨f0, fd0, ps0, _, F0, hm, hk, hb⟩ := c_look_at.ex
    have tk := takes_of (X := cxOf (L2.CX Γ.P Γ.w) Γ.P Γ.w Γ.K Γ.mg Γ.base N_Pairs___init__ "Pairs.__init__" (defScope st_Pairs___init__) f cdv A outer s H E) rfl rfl rfl rfl
    refine ⟨_, pss_cons (ps_expr (pe_callS F0 hr rfl hm hk hb (fun σ => passAt tk σ) (pa_cons (pv 1) (pa_cons pe_int (pa_cons pe_int pa_nil))))) (pss_one (ps_fld (pv 0) (pv 1) rfl)), ?_⟩
    exact init_read (T.fl (.pairs 0) (by decide)) (fun _ _ _ => rfl) rfl rfl hx hd q1 q2

def mw_low : MW := fun w ds P => ∃ k : Int, ds = [.int k] ∧ P (.ret (.int (w.low k)))
def mw_high : MW := fun w ds P => ∃ k : Int, ds = [.int k] ∧ P (.ret (.int (w.high k)))
def mw_ratio : MW := fun w ds P => ∃ k : Int, ds = [.int k] ∧ (w.hasRatio = true → P (.ret (w.ratio k).d)) ∧ (w.hasRatio = false → P (.exn "NoRatio"))
def mw_weight : MW := fun w ds P => ∃ n : Nat, ds = [.int n] ∧ n ≤ 20000 ∧ P (.ret (w.weight n).d)
theorem ok_Way_low {Γ : Gm} {k : Nat} (T : Tx Γ) {f : Addr} {fd : FuncData} (F : Fun Γ.K "low" "Way.low" st_Way_low f fd) (C : Str) (hC : C ∈ I_Way_low) : FnOk Γ.P Γ.w Γ.K Γ.mg Γ.base (L2.CX Γ.P Γ.w) (k + 1) f fd ["self", "place"] (spD Γ.nm (atC C mw_low)) := by
  refine fnD F sc_Way_low (fun ds P h => ?_) (fun cdv A outer s H E G0 ds P jx hr ps h => ?_)
  · obtain ⟨w, rest, _, _, rfl, h⟩ := h; first | (obtain ⟨rfl, _⟩ := h; rfl) | (obtain ⟨_, rfl, _⟩ := h; rfl) | (obtain ⟨_, _, rfl, _⟩ := h; rfl) | (obtain ⟨_, _, _, rfl, _⟩ := h; rfl) | (obtain ⟨_, _, _, _, rfl, _⟩ := h; rfl) | (obtain ⟨_, _, _, _, _, rfl, _⟩ := h; rfl) | (obtain ⟨_, _, _, _, _, _, rfl, _⟩ := h; rfl) | (obtain ⟨_, _, _, _, _, _, _, rfl, _⟩ := h; rfl) | (obtain ⟨_, _, _, _, _, _, _, _, rfl, _⟩ := h; rfl) | (obtain ⟨_, _, _, _, _, _, _, _, _, rfl, _⟩ := h; rfl)
  have nd : N_Way_low.Nodup := sc_Way_low.nd
  refine ⟨_, (jss_one (js_ret je_int)), ?_⟩
  obtain ⟨w, rest, rfl, ok, rfl, k, rfl, p⟩ := h
  have e : w.low k = 0 := by
    cases w <;> first | rfl | (exfalso; revert hC; simp only [I_Way_low, WayM.cls]; decide)
  rw [e] at p
  walk_at "g"
  exact p
theorem ok_Balanced_low {Γ : Gm} {k : Nat} (T : Tx Γ) {f : Addr} {fd : FuncData} (F : Fun Γ.K "low" "Balanced.low" st_Balanced_low f fd) : FnOk Γ.P Γ.w Γ.K Γ.mg Γ.base (L2.CX Γ.P Γ.w) (k + 1) f fd ["self", "place"] (spD Γ.nm (atC "Balanced" mw_low)) := by
  refine fnD F sc_Balanced_low (fun ds P h => ?_) (fun cdv A outer s H E G0 ds P jx hr ps h => ?_)
  · obtain ⟨w, rest, _, _, rfl, h⟩ := h; first | (obtain ⟨rfl, _⟩ := h; rfl) | (obtain ⟨_, rfl, _⟩ := h; rfl) | (obtain ⟨_, _, rfl, _⟩ := h; rfl) | (obtain ⟨_, _, _, rfl, _⟩ := h; rfl) | (obtain ⟨_, _, _, _, rfl, _⟩ := h; rfl) | (obtain ⟨_, _, _, _, _, rfl, _⟩ := h; rfl) | (obtain ⟨_, _, _, _, _, _, rfl, _⟩ := h; rfl) | (obtain ⟨_, _, _, _, _, _, _, rfl, _⟩ := h; rfl) | (obtain ⟨_, _, _, _, _, _, _, _, rfl, _⟩ := h; rfl) | (obtain ⟨_, _, _, _, _, _, _, _, _, rfl, _⟩ := h; rfl)
  have nd : N_Balanced_low.Nodup := sc_Balanced_low.nd
  refine ⟨_, (jss_one (js_ret (je_op o_sub je_int (je_fld Γ (jv 0))))), ?_⟩
  obtain ⟨w, rest, hw, ok, rfl, k, rfl, p⟩ := h
  have fl := T.fl
  cases w <;> first | (cases hw; done) | skip
  walk_at "g"
  exact p
theorem ok_Plain_ratio {Γ : Gm} {k : Nat} (T : Tx Γ) {f : Addr} {fd : FuncData} (F : Fun Γ.K "ratio" "Plain.ratio" st_Plain_ratio f fd) : FnOk Γ.P Γ.w Γ.K Γ.mg Γ.base (L2.CX Γ.P Γ.w) (k + 1) f fd ["self", "place"] (spD Γ.nm (atC "Plain" mw_ratio)) := by
  refine fnD F sc_Plain_ratio (fun ds P h => ?_) (fun cdv A outer s H E G0 ds P jx hr ps h => ?_)
  · obtain ⟨w, rest, _, _, rfl, h⟩ := h; first | (obtain ⟨rfl, _⟩ := h; rfl) | (obtain ⟨_, rfl, _⟩ := h; rfl) | (obtain ⟨_, _, rfl, _⟩ := h; rfl) | (obtain ⟨_, _, _, rfl, _⟩ := h; rfl) | (obtain ⟨_, _, _, _, rfl, _⟩ := h; rfl) | (obtain ⟨_, _, _, _, _, rfl, _⟩ := h; rfl) | (obtain ⟨_, _, _, _, _, _, rfl, _⟩ := h; rfl) | (obtain ⟨_, _, _, _, _, _, _, rfl, _⟩ := h; rfl) | (obtain ⟨_, _, _, _, _, _, _, _, rfl, _⟩ := h; rfl) | (obtain ⟨_, _, _, _, _, _, _, _, _, rfl, _⟩ := h; rfl)
  have nd : N_Plain_ratio.Nodup := sc_Plain_ratio.nd
  refine ⟨_, (jss_one (js_ret (je_fld Γ (jv 0)))), ?_⟩
  obtain ⟨w, rest, hw, ok, rfl, k, rfl, p, _⟩ := h
  have fl := T.fl
  cases w <;> first | (cases hw; done) | skip
  walk_at "g"
  exact p rfl
theorem ok_Below_ratio {Γ : Gm} {k : Nat} (T : Tx Γ) {f : Addr} {fd : FuncData} (F : Fun Γ.K "ratio" "Below.ratio" st_Below_ratio f fd) : FnOk Γ.P Γ.w Γ.K Γ.mg Γ.base (L2.CX Γ.P Γ.w) (k + 1) f fd ["self", "place"] (spD Γ.nm (atC "Below" mw_ratio)) := by
  refine fnD F sc_Below_ratio (fun ds P h => ?_) (fun cdv A outer s H E G0 ds P jx hr ps h => ?_)
  · obtain ⟨w, rest, _, _, rfl, h⟩ := h; first | (obtain ⟨rfl, _⟩ := h; rfl) | (obtain ⟨_, rfl, _⟩ := h; rfl) | (obtain ⟨_, _, rfl, _⟩ := h; rfl) | (obtain ⟨_, _, _, rfl, _⟩ := h; rfl) | (obtain ⟨_, _, _, _, rfl, _⟩ := h; rfl) | (obtain ⟨_, _, _, _, _, rfl, _⟩ := h; rfl) | (obtain ⟨_, _, _, _, _, _, rfl, _⟩ := h; rfl) | (obtain ⟨_, _, _, _, _, _, _, rfl, _⟩ := h; rfl) | (obtain ⟨_, _, _, _, _, _, _, _, rfl, _⟩ := h; rfl) | (obtain ⟨_, _, _, _, _, _, _, _, _, rfl, _⟩ := h; rfl)
  have nd : N_Below_ratio.Nodup := sc_Below_ratio.nd
  refine ⟨_, (jss_one (js_ret (je_op o_sub je_int (je_fld Γ (jv 0))))), ?_⟩
  obtain ⟨w, rest, hw, ok, rfl, k, rfl, p, _⟩ := h
  have fl := T.fl
  cases w <;> first | (cases hw; done) | skip
  walk_at "g"
  exact p rfl
theorem ok_Balanced_ratio {Γ : Gm} {k : Nat} (T : Tx Γ) {f : Addr} {fd : FuncData} (F : Fun Γ.K "ratio" "Balanced.ratio" st_Balanced_ratio f fd) : FnOk Γ.P Γ.w Γ.K Γ.mg Γ.base (L2.CX Γ.P Γ.w) (k + 1) f fd ["self", "place"] (spD Γ.nm (atC "Balanced" mw_ratio)) := by
  refine fnD F sc_Balanced_ratio (fun ds P h => ?_) (fun cdv A outer s H E G0 ds P jx hr ps h => ?_)
  · obtain ⟨w, rest, _, _, rfl, h⟩ := h; first | (obtain ⟨rfl, _⟩ := h; rfl) | (obtain ⟨_, rfl, _⟩ := h; rfl) | (obtain ⟨_, _, rfl, _⟩ := h; rfl) | (obtain ⟨_, _, _, rfl, _⟩ := h; rfl) | (obtain ⟨_, _, _, _, rfl, _⟩ := h; rfl) | (obtain ⟨_, _, _, _, _, rfl, _⟩ := h; rfl) | (obtain ⟨_, _, _, _, _, _, rfl, _⟩ := h; rfl) | (obtain ⟨_, _, _, _, _, _, _, rfl, _⟩ := h; rfl) | (obtain ⟨_, _, _, _, _, _, _, _, rfl, _⟩ := h; rfl) | (obtain ⟨_, _, _, _, _, _, _, _, _, rfl, _⟩ := h; rfl)
  have nd : N_Balanced_ratio.Nodup := sc_Balanced_ratio.nd
  refine ⟨_, (jss_one (js_ret (je_op o_add (je_op o_mul je_int (je_fld Γ (jv 0))) je_int))), ?_⟩
  obtain ⟨w, rest, hw, ok, rfl, k, rfl, p, _⟩ := h
  have fl := T.fl
  cases w <;> first | (cases hw; done) | skip
  walk_at "g"
  exact p rfl
theorem ok_Growing_ratio {Γ : Gm} {k : Nat} (T : Tx Γ) {f : Addr} {fd : FuncData} (F : Fun Γ.K "ratio" "Growing.ratio" st_Growing_ratio f fd) : FnOk Γ.P Γ.w Γ.K Γ.mg Γ.base (L2.CX Γ.P Γ.w) (k + 1) f fd ["self", "place"] (spD Γ.nm (atC "Growing" mw_ratio)) := by
  refine fnD F sc_Growing_ratio (fun ds P h => ?_) (fun cdv A outer s H E G0 ds P jx hr ps h => ?_)
  · obtain ⟨w, rest, _, _, rfl, h⟩ := h; first | (obtain ⟨rfl, _⟩ := h; rfl) | (obtain ⟨_, rfl, _⟩ := h; rfl) | (obtain ⟨_, _, rfl, _⟩ := h; rfl) | (obtain ⟨_, _, _, rfl, _⟩ := h; rfl) | (obtain ⟨_, _, _, _, rfl, _⟩ := h; rfl) | (obtain ⟨_, _, _, _, _, rfl, _⟩ := h; rfl) | (obtain ⟨_, _, _, _, _, _, rfl, _⟩ := h; rfl) | (obtain ⟨_, _, _, _, _, _, _, rfl, _⟩ := h; rfl) | (obtain ⟨_, _, _, _, _, _, _, _, rfl, _⟩ := h; rfl) | (obtain ⟨_, _, _, _, _, _, _, _, _, rfl, _⟩ := h; rfl)
  have nd : N_Growing_ratio.Nodup := sc_Growing_ratio.nd
  refine ⟨_, (jss_one (js_ret (je_op o_add (je_fld Γ (jv 0)) (jv 1)))), ?_⟩
  obtain ⟨w, rest, hw, ok, rfl, k, rfl, p, _⟩ := h
  have fl := T.fl
  cases w <;> first | (cases hw; done) | skip
  walk_at "g"
  exact p rfl
theorem ok_Pairs_ratio {Γ : Gm} {k : Nat} (T : Tx Γ) {f : Addr} {fd : FuncData} (F : Fun Γ.K "ratio" "Pairs.ratio" st_Pairs_ratio f fd) : FnOk Γ.P Γ.w Γ.K Γ.mg Γ.base (L2.CX Γ.P Γ.w) (k + 1) f fd ["self", "place"] (spD Γ.nm (atC "Pairs" mw_ratio)) := by
  refine fnD F sc_Pairs_ratio (fun ds P h => ?_) (fun cdv A outer s H E G0 ds P jx hr ps h => ?_)
  · obtain ⟨w, rest, _, _, rfl, h⟩ := h; first | (obtain ⟨rfl, _⟩ := h; rfl) | (obtain ⟨_, rfl, _⟩ := h; rfl) | (obtain ⟨_, _, rfl, _⟩ := h; rfl) | (obtain ⟨_, _, _, rfl, _⟩ := h; rfl) | (obtain ⟨_, _, _, _, rfl, _⟩ := h; rfl) | (obtain ⟨_, _, _, _, _, rfl, _⟩ := h; rfl) | (obtain ⟨_, _, _, _, _, _, rfl, _⟩ := h; rfl) | (obtain ⟨_, _, _, _, _, _, _, rfl, _⟩ := h; rfl) | (obtain ⟨_, _, _, _, _, _, _, _, rfl, _⟩ := h; rfl) | (obtain ⟨_, _, _, _, _, _, _, _, _, rfl, _⟩ := h; rfl)
  have nd : N_Pairs_ratio.Nodup := sc_Pairs_ratio.nd
  refine ⟨_, (jss_one (js_ret (je_tup (ja_cons (je_op o_sub je_int (je_fld Γ (jv 0))) (ja_cons je_int ja_nil))))), ?_⟩
  obtain ⟨w, rest, hw, ok, rfl, k, rfl, p, _⟩ := h
  have fl := T.fl
  cases w <;> first | (cases hw; done) | skip
  walk_at "g"
  exact p rfl

def mw_split : MW := fun w ds P => ∃ (a : Num) (k : Nat), ds = [a.d, .int k] ∧ (w.isPairs = false → w.hasRatio = true → a.isP = false) ∧ (∃ n, a.lt n ∧ n ≤ 900000) ∧ k ≤ 20000 ∧ (w.hasRatio = true → P (.ret (.tup [.int (w.fig a k), (w.carry a k).d]))) ∧ (w.hasRatio = false → P (.exn "NoRatio"))
theorem ok_Way_split {Γ : Gm} {k : Nat} (T : Tx Γ) {f : Addr} {fd : FuncData} (F : Fun Γ.K "split" "Way.split" st_Way_split f fd) (C : Str) (hC : C ∈ I_Way_split) (w_ratio : WM LC Γ k "ratio" 2 mw_ratio) (w_low : WM LC Γ k "low" 2 mw_low) : FnOk Γ.P Γ.w Γ.K Γ.mg Γ.base (L2.CX Γ.P Γ.w) (k + 1) f fd ["self", "total", "place"] (spD Γ.nm (atC C mw_split)) := by
  refine fnD F sc_Way_split (fun ds P h => ?_) (fun cdv A outer s H E G0 ds P jx hr ps h => ?_)
  · obtain ⟨w, rest, _, _, rfl, h⟩ := h; first | (obtain ⟨rfl, _⟩ := h; rfl) | (obtain ⟨_, rfl, _⟩ := h; rfl) | (obtain ⟨_, _, rfl, _⟩ := h; rfl) | (obtain ⟨_, _, _, rfl, _⟩ := h; rfl) | (obtain ⟨_, _, _, _, rfl, _⟩ := h; rfl) | (obtain ⟨_, _, _, _, _, rfl, _⟩ := h; rfl) | (obtain ⟨_, _, _, _, _, _, rfl, _⟩ := h; rfl) | (obtain ⟨_, _, _, _, _, _, _, rfl, _⟩ := h; rfl) | (obtain ⟨_, _, _, _, _, _, _, _, rfl, _⟩ := h; rfl) | (obtain ⟨_, _, _, _, _, _, _, _, _, rfl, _⟩ := h; rfl)
  have nd : N_Way_split.Nodup := sc_Way_split.nd
  refine ⟨_, (jss_cons (js_set (i := 3) nd rfl (by first | exact Or.inl rfl | exact Or.inr rfl) (je_meth Γ 2 jx hr (pv 0) (ja_cons (jv 2) ja_nil))) (jss_cons (js_set (i := 4) nd rfl (by first | exact Or.inl rfl | exact Or.inr rfl) (je_meth Γ 2 jx hr (pv 0) (ja_cons (jv 2) ja_nil))) (jss_cons (js_set (i := 5) nd rfl (by first | exact Or.inl rfl | exact Or.inr rfl) (je_op o_add (je_op o_mod (je_op o_sub (jv 1) (jv 3)) (je_callB k_abs rfl T.m_abs (by decide +kernel) (ja_cons (jv 4) ja_nil))) (jv 3))) (jss_one (js_ret (je_tup (ja_cons (jv 5) (ja_cons (je_op o_div (je_op o_sub (jv 1) (jv 5)) (jv 4)) ja_nil)))))))), ?_⟩
  obtain ⟨w, rest, rfl, ok, rfl, a, n, rfl, ha, hz, hn, p1, p2⟩ := h
  have hw : w.cls ∈ LC := (by decide : ∀ C ∈ I_Way_split, C ∈ LC) _ hC
  have hp : w.isPairs = false := by
    cases w <;> first | rfl | (exfalso; revert hC; simp only [I_Way_split, WayM.cls]; decide)
  walk_at "g"
  refine meth_way w_low w hw ok (nf_low w) rfl ?_
  walk_at "g"
  refine ⟨w, _, rfl, ok, rfl, n, rfl, ?_⟩
  walk_at "g"
  refine meth_way w_ratio w hw ok (nf_ratio w) rfl ?_
  walk_at "g"
  refine ⟨w, _, rfl, ok, rfl, n, rfl, fun hr1 => ?_, fun hr1 => p2 hr1⟩
  have p := p1 hr1
  cases a with
  | p x y => cases ha hp hr1
  | i x =>
    clear p1 p2
    cases w with
    | fall m => cases hr1
    | pairs m => cases hp
    | plain b =>
      simp only [WayM.ok] at ok
      walk_at "g"
      rw [if_neg (by omega)]
      exact ret2 p rfl (WayM.div_exact (l := 0) (r := b) (by omega)).symm
    | below b =>
      simp only [WayM.ok] at ok
      walk_at "g"
      rw [if_pos (by omega), show -(0 - b) = b by omega]
      exact ret2 p rfl (WayM.div_exactN (b := b) (by omega)).symm
    | bal b =>
      simp only [WayM.ok] at ok
      walk_at "g"
      rw [if_neg (by omega)]
      exact ret2 p rfl (WayM.div_exact (r := 2 * b + 1) (by omega)).symm
    | grow b =>
      simp only [WayM.ok] at ok
      walk_at "g"
      rw [if_neg (by omega)]
      exact ret2 p rfl (WayM.div_exact (l := 0) (r := b + n) (by omega)).symm
theorem ok_Pairs_split {Γ : Gm} {k : Nat} (T : Tx Γ) {f : Addr} {fd : FuncData} (F : Fun Γ.K "split" "Pairs.split" st_Pairs_split f fd) (c_multiplied : Cal Γ k "multiplied" 2 M_multiplied) (c_added : Cal Γ k "added" 2 M_added) (c_as_pair : Cal Γ k "as_pair" 1 M_as_pair) : FnOk Γ.P Γ.w Γ.K Γ.mg Γ.base (L2.CX Γ.P Γ.w) (k + 1) f fd ["self", "total", "place"] (spD Γ.nm (atC "Pairs" mw_split)) := by
  refine fnD F sc_Pairs_split (fun ds P h => ?_) (fun cdv A outer s H E G0 ds P jx hr ps h => ?_)
  · obtain ⟨w, rest, _, _, rfl, h⟩ := h; first | (obtain ⟨rfl, _⟩ := h; rfl) | (obtain ⟨_, rfl, _⟩ := h; rfl) | (obtain ⟨_, _, rfl, _⟩ := h; rfl) | (obtain ⟨_, _, _, rfl, _⟩ := h; rfl) | (obtain ⟨_, _, _, _, rfl, _⟩ := h; rfl) | (obtain ⟨_, _, _, _, _, rfl, _⟩ := h; rfl) | (obtain ⟨_, _, _, _, _, _, rfl, _⟩ := h; rfl) | (obtain ⟨_, _, _, _, _, _, _, rfl, _⟩ := h; rfl) | (obtain ⟨_, _, _, _, _, _, _, _, rfl, _⟩ := h; rfl) | (obtain ⟨_, _, _, _, _, _, _, _, _, rfl, _⟩ := h; rfl)
  have nd : N_Pairs_split.Nodup := sc_Pairs_split.nd
  refine ⟨_, (jss_cons (js_set (i := 3) nd rfl (by first | exact Or.inl rfl | exact Or.inr rfl) (je_op o_add (je_op o_mul (je_fld Γ (jv 0)) (je_fld Γ (jv 0))) je_int)) (jss_cons (js_asg (je_call jx c_as_pair hr rfl (ja_cons (jv 1) ja_nil)) (jg_tup rfl (jgs_cons (jg_name (i := 4) nd rfl (by first | exact Or.inl rfl | exact Or.inr rfl)) (jgs_cons (jg_name (i := 5) nd rfl (by first | exact Or.inl rfl | exact Or.inr rfl)) jgs_nil)))) (jss_cons (js_set (i := 6) nd rfl (by first | exact Or.inl rfl | exact Or.inr rfl) (je_op o_mod (je_op o_add (jv 4) (je_op o_mul (je_fld Γ (jv 0)) (jv 5))) (jv 3))) (jss_cons (js_set (i := 7) nd rfl (by first | exact Or.inl rfl | exact Or.inr rfl) (je_call jx c_multiplied hr rfl (ja_cons (je_call jx c_added hr rfl (ja_cons (je_tup (ja_cons (jv 4) (ja_cons (jv 5) ja_nil))) (ja_cons (je_tup (ja_cons (je_op o_sub je_int (jv 6)) (ja_cons je_int ja_nil))) ja_nil))) (ja_cons (je_tup (ja_cons (je_op o_sub je_int (je_fld Γ (jv 0))) (ja_cons (je_neg je_int) ja_nil))) ja_nil)))) (jss_one (js_ret (je_tup (ja_cons (jv 6) (ja_cons (je_tup (ja_cons (je_op o_div (je_ix (jv 7) je_int) (jv 3)) (ja_cons (je_op o_div (je_ix (jv 7) je_int) (jv 3)) ja_nil))) ja_nil))))))))), ?_⟩
  obtain ⟨w, rest, hw, ok, rfl, a, n, rfl, ha, ⟨m, hz, hm⟩, hn, p, _⟩ := h
  have fl := T.fl
  obtain ⟨s, rfl⟩ : ∃ s, w = .pairs s := by cases w <;> first | (cases hw; done) | exact ⟨_, rfl⟩
  have p := p rfl
  simp only [WayM.ok] at ok
  walk_at "g"
  refine ⟨a, by walk_at "n", ?_⟩
  walk_at "g"
  refine ⟨WayM.sq_pos s, ?_⟩
  walk_at "g"
  have ab : (Num.p a.x a.y).lt (m + 8) := ⟨(Num.lt_mono hz (Nat.le_add_right m 8)).1, (Num.lt_mono hz (Nat.le_add_right m 8)).2⟩
  have fr := WayM.fig_range (w := .pairs s) ok rfl a (k := n) (by omega)
  have hs2 : s * s ≤ 81 := Int.le_trans (Int.mul_le_mul_of_nonneg_left ok.2 (by omega)) (by omega)
  have fb : (Num.p (0 - (WayM.pairs s).fig a n) 0).lt (m + 8) := by
    refine Num.lt_mono (m := 8) ⟨?_, Nat.pow_pos (by decide)⟩ (by omega)
    simp only [WayM.low, WayM.high] at fr
    show Int.natAbs (0 - _) < 256
    omega
  refine ⟨.p a.x a.y, .p (0 - (WayM.pairs s).fig a n) 0, rfl, ?_⟩
  walk_at "g"
  refine ⟨_, .p (0 - s) (-1), rfl, ⟨_, 4, Num.lt_add ab fb, ⟨by show Int.natAbs (0 - s) < 16; omega, by show Int.natAbs (-1) < 16; decide⟩, by omega⟩, ?_⟩
  walk_at "g"
  have dv : 0 < s * s + 1 ∧ (s * s + 1).natAbs.log2 < 9000 := ⟨WayM.sq_pos s, log2_small (b := 64) (by have := WayM.sq_pos s; omega) (by decide)⟩
  refine .inl ⟨dv.1, dv.2, ?_⟩
  walk_at "g"
  refine .inl ⟨dv.1, dv.2, ?_⟩
  walk_at "g"
  have td := WayM.turned_div s a.x a.y
  have p' : P (.ret (.tup [.int ((a.x + s * a.y) % (s * s + 1)), .tup [.int (a.y - s * ((a.x + s * a.y) / (s * s + 1))), .int (0 - (a.x + s * a.y) / (s * s + 1))]])) := p
  rw [← td.1, ← td.2] at p'
  exact p'

def M__law_whole : MD := fun ds P => ∃ a : Num, ds = [a.d] ∧ P (.ret (.bl !a.isP))
theorem ok__law_whole {Γ : Gm} {k : Nat} (T : Tx Γ) {f : Addr} {fd : FuncData} (F : Fun Γ.K "_law_whole" "_law_whole" st__law_whole f fd) : FnOk Γ.P Γ.w Γ.K Γ.mg Γ.base (L2.CX Γ.P Γ.w) (k + 1) f fd ["_law_found"] (spD Γ.nm M__law_whole) := by
  refine fnD F sc__law_whole (fun ds P h => ?_) (fun cdv A outer s H E G0 ds P jx hr ps h => ?_)
  · first | (obtain ⟨rfl, _⟩ := h; rfl) | (obtain ⟨_, rfl, _⟩ := h; rfl) | (obtain ⟨_, _, rfl, _⟩ := h; rfl) | (obtain ⟨_, _, _, rfl, _⟩ := h; rfl) | (obtain ⟨_, _, _, _, rfl, _⟩ := h; rfl) | (obtain ⟨_, _, _, _, _, rfl, _⟩ := h; rfl) | (obtain ⟨_, _, _, _, _, _, rfl, _⟩ := h; rfl) | (obtain ⟨_, _, _, _, _, _, _, rfl, _⟩ := h; rfl) | (obtain ⟨_, _, _, _, _, _, _, _, rfl, _⟩ := h; rfl) | (obtain ⟨_, _, _, _, _, _, _, _, _, rfl, _⟩ := h; rfl)
  have nd : N__law_whole.Nodup := sc__law_whole.nd
  refine ⟨_, (jss_one (js_ret (je_and (je_isi Γ (.ty .int) rfl T.m_isinstance (jv 0) (pn_ty rfl T.m_int (by decide +kernel))) (je_one (je_not (je_isi Γ (.ty .bl) rfl T.m_isinstance (jv 0) (pn_ty rfl T.m_bool (by decide +kernel)))))))), ?_⟩
  obtain ⟨a, rfl, p⟩ := h
  cases a <;> (walk_at "g"; exact p)
def M__law_pair : MD := fun ds P => ∃ a : Num, ds = [a.d] ∧ P (.ret (.bl a.isP))
theorem ok__law_pair {Γ : Gm} {k : Nat} (T : Tx Γ) {f : Addr} {fd : FuncData} (F : Fun Γ.K "_law_pair" "_law_pair" st__law_pair f fd) (c__law_whole : Cal Γ k "_law_whole" 1 M__law_whole) : FnOk Γ.P Γ.w Γ.K Γ.mg Γ.base (L2.CX Γ.P Γ.w) (k + 1) f fd ["_law_found"] (spD Γ.nm M__law_pair) := by
  refine fnD F sc__law_pair (fun ds P h => ?_) (fun cdv A outer s H E G0 ds P jx hr ps h => ?_)
  · first | (obtain ⟨rfl, _⟩ := h; rfl) | (obtain ⟨_, rfl, _⟩ := h; rfl) | (obtain ⟨_, _, rfl, _⟩ := h; rfl) | (obtain ⟨_, _, _, rfl, _⟩ := h; rfl) | (obtain ⟨_, _, _, _, rfl, _⟩ := h; rfl) | (obtain ⟨_, _, _, _, _, rfl, _⟩ := h; rfl) | (obtain ⟨_, _, _, _, _, _, rfl, _⟩ := h; rfl) | (obtain ⟨_, _, _, _, _, _, _, rfl, _⟩ := h; rfl) | (obtain ⟨_, _, _, _, _, _, _, _, rfl, _⟩ := h; rfl) | (obtain ⟨_, _, _, _, _, _, _, _, _, rfl, _⟩ := h; rfl)
  have nd : N__law_pair.Nodup := sc__law_pair.nd
  refine ⟨_, (jss_one (js_ret (je_and (je_isi Γ (.ty .tup) rfl T.m_isinstance (jv 0) (pn_ty rfl T.m_tuple (by decide +kernel))) (je_and (je_cmp (o_eq hr.units) (je_callB k_len rfl T.m_len (by decide +kernel) (ja_cons (jv 0) ja_nil)) je_int (nomark _)) (je_and (je_call jx c__law_whole hr rfl (ja_cons (je_ix (jv 0) je_int) ja_nil)) (je_one (je_call jx c__law_whole hr rfl (ja_cons (je_ix (jv 0) je_int) ja_nil)))))))), ?_⟩
  obtain ⟨a, rfl, p⟩ := h
  cases a with
  | i n =>
    walk_at "g"
    exact p
  | p x y =>
    walk_at "g"
    refine ⟨.i x, rfl, ?_⟩
    walk_at "g"
    refine ⟨.i y, rfl, ?_⟩
    walk_at "g"
    exact p

def kind5 (w : WayM) : Int := match w with
  | .plain _ => 0 | .below _ => 1 | .bal _ => 2 | .grow _ => 3 | .fall _ => 9 | .pairs _ => 4
def of5 (k n : Int) : WayM := if k = 4 then .pairs (1 + n % 9) else WayM.ofK k n
theorem five_k {k : Int} (h : 0 ≤ k ∧ k < 5) : k = 0 ∨ k = 1 ∨ k = 2 ∨ k = 3 ∨ k = 4 := by omega
theorem of5_ok (k n : Int) : (of5 k n).ok := by
  unfold of5
  split
  · simp only [WayM.ok]; omega
  · exact WayM.ofK_ok k n
theorem of5_kind {k : Int} (h : 0 ≤ k ∧ k < 5) (n : Int) : kind5 (of5 k n) = k := by
  rcases five_k h with rfl | rfl | rfl | rfl | rfl <;> rfl
theorem of5_ratio {k : Int} (h : 0 ≤ k ∧ k < 5) (n : Int) : (of5 k n).hasRatio = true := by
  rcases five_k h with rfl | rfl | rfl | rfl | rfl <;> rfl
theorem of5_cls {k : Int} (h : 0 ≤ k ∧ k < 5) (n : Int) : (of5 k n).cls ∈ LC := by
  rcases five_k h with rfl | rfl | rfl | rfl | rfl
  · show ("Plain" : Str) ∈ LC; decide
  · show ("Below" : Str) ∈ LC; decide
  · show ("Balanced" : Str) ∈ LC; decide
  · show ("Growing" : Str) ∈ LC; decide
  · show ("Pairs" : Str) ∈ LC; decide
def M__law_way : MD := fun ds P => ∃ k n : Int, ds = [.int k, .int n] ∧ (0 ≤ k ∧ k < 5) ∧ P (.ret (.tup [(of5 k n).d, .int (of5 k n).v]))
theorem ok__law_way {Γ : Gm} {k : Nat} (T : Tx Γ) {f : Addr} {fd : FuncData} (F : Fun Γ.K "_law_way" "_law_way" st__law_way f fd) (c_Pairs : CalC Γ k "Pairs" "most" 1 9) (c_Growing : CalC Γ k "Growing" "first" 2 60) (c_Balanced : CalC Γ k "Balanced" "half" 1 30) (c_Below : CalC Γ k "Below" "base" 2 60) (c_Plain : CalC Γ k "Plain" "base" 2 60) : FnOk Γ.P Γ.w Γ.K Γ.mg Γ.base (L2.CX Γ.P Γ.w) ((k + 1) + 1) f fd ["_law_kind", "_law_number_here"] (spD Γ.nm M__law_way) := by
  refine fnD F sc__law_way (fun ds P h => ?_) (fun cdv A outer s H E G0 ds P jx hr ps h => ?_)
  · first | (obtain ⟨rfl, _⟩ := h; rfl) | (obtain ⟨_, rfl, _⟩ := h; rfl) | (obtain ⟨_, _, rfl, _⟩ := h; rfl) | (obtain ⟨_, _, _, rfl, _⟩ := h; rfl) | (obtain ⟨_, _, _, _, rfl, _⟩ := h; rfl) | (obtain ⟨_, _, _, _, _, rfl, _⟩ := h; rfl) | (obtain ⟨_, _, _, _, _, _, rfl, _⟩ := h; rfl) | (obtain ⟨_, _, _, _, _, _, _, rfl, _⟩ := h; rfl) | (obtain ⟨_, _, _, _, _, _, _, _, rfl, _⟩ := h; rfl) | (obtain ⟨_, _, _, _, _, _, _, _, _, rfl, _⟩ := h; rfl)
  have nd : N__law_way.Nodup := sc__law_way.nd
  refine ⟨_, (jss_cons (js_if (jt_cmp (o_eq hr.units) (jv 0) je_int (nomark _)) (jss_one (js_ret (je_tup (ja_cons (je_make jx c_Plain hr rfl (ja_cons (je_op o_add je_int (je_op o_mod (jv 1) je_int)) ja_nil)) (ja_cons (je_op o_add je_int (je_op o_mod (jv 1) je_int)) ja_nil))))) jss_nil) (jss_cons (js_if (jt_cmp (o_eq hr.units) (jv 0) je_int (nomark _)) (jss_one (js_ret (je_tup (ja_cons (je_make jx c_Below hr rfl (ja_cons (je_op o_add je_int (je_op o_mod (jv 1) je_int)) ja_nil)) (ja_cons (je_op o_add je_int (je_op o_mod (jv 1) je_int)) ja_nil))))) jss_nil) (jss_cons (js_if (jt_cmp (o_eq hr.units) (jv 0) je_int (nomark _)) (jss_one (js_ret (je_tup (ja_cons (je_make jx c_Balanced hr rfl (ja_cons (je_op o_add je_int (je_op o_mod (jv 1) je_int)) ja_nil)) (ja_cons (je_op o_add je_int (je_op o_mod (jv 1) je_int)) ja_nil))))) jss_nil) (jss_cons (js_if (jt_cmp (o_eq hr.units) (jv 0) je_int (nomark _)) (jss_one (js_ret (je_tup (ja_cons (je_make jx c_Growing hr rfl (ja_cons (je_op o_add je_int (je_op o_mod (jv 1) je_int)) ja_nil)) (ja_cons (je_op o_add je_int (je_op o_mod (jv 1) je_int)) ja_nil))))) jss_nil) (jss_one (js_ret (je_tup (ja_cons (je_make jx c_Pairs hr rfl (ja_cons (je_op o_add je_int (je_op o_mod (jv 1) je_int)) ja_nil)) (ja_cons (je_op o_add je_int (je_op o_mod (jv 1) je_int)) ja_nil))))))))), ?_⟩
  obtain ⟨k, n, rfl, hk, p⟩ := h
  rcases five_k hk with rfl | rfl | rfl | rfl | rfl <;> (walk_at "g"; (refine ⟨_, rfl, fun _ => ?_, fun h => absurd ⟨by omega, by omega⟩ h⟩); walk_at "g"; exact p)
def M__law_bounds : MD := fun ds P => ∃ (w : WayM) (k s pl : Int), k = kind5 w ∧ s = w.v ∧ w.ok ∧ w.hasRatio = true ∧ ds = [.int k, .int s, .int pl] ∧ P (.ret (.tup [.int (w.low pl), .int (w.high pl)]))
theorem ok__law_bounds {Γ : Gm} {k : Nat} (T : Tx Γ) {f : Addr} {fd : FuncData} (F : Fun Γ.K "_law_bounds" "_law_bounds" st__law_bounds f fd) : FnOk Γ.P Γ.w Γ.K Γ.mg Γ.base (L2.CX Γ.P Γ.w) (k + 1) f fd ["_law_kind", "_law_size", "_law_place"] (spD Γ.nm M__law_bounds) := by
  refine fnD F sc__law_bounds (fun ds P h => ?_) (fun cdv A outer s H E G0 ds P jx hr ps h => ?_)
  · first | (obtain ⟨rfl, _⟩ := h; rfl) | (obtain ⟨_, rfl, _⟩ := h; rfl) | (obtain ⟨_, _, rfl, _⟩ := h; rfl) | (obtain ⟨_, _, _, rfl, _⟩ := h; rfl) | (obtain ⟨_, _, _, _, rfl, _⟩ := h; rfl) | (obtain ⟨_, _, _, _, _, rfl, _⟩ := h; rfl) | (obtain ⟨_, _, _, _, _, _, rfl, _⟩ := h; rfl) | (obtain ⟨_, _, _, _, _, _, _, rfl, _⟩ := h; rfl) | (obtain ⟨_, _, _, _, _, _, _, _, rfl, _⟩ := h; rfl) | (obtain ⟨_, _, _, _, _, _, _, _, _, rfl, _⟩ := h; rfl)
  have nd : N__law_bounds.Nodup := sc__law_bounds.nd
  refine ⟨_, (jss_one (js_ret (je_ix (je_lst (ja_cons (je_tup (ja_cons je_int (ja_cons (je_op o_sub (jv 1) je_int) ja_nil))) (ja_cons (je_tup (ja_cons je_int (ja_cons (je_op o_sub (jv 1) je_int) ja_nil))) (ja_cons (je_tup (ja_cons (je_op o_sub je_int (jv 1)) (ja_cons (jv 1) ja_nil))) (ja_cons (je_tup (ja_cons je_int (ja_cons (je_op o_sub (je_op o_add (jv 1) (jv 2)) je_int) ja_nil))) (ja_cons (je_tup (ja_cons je_int (ja_cons (je_op o_mul (jv 1) (jv 1)) ja_nil))) ja_nil)))))) (jv 0)))), ?_⟩
  obtain ⟨w, k, s, pl, hk, hs, ok, hr1, rfl, p⟩ := h
  cases w <;> first | (cases hr1; done) | (simp only [kind5, WayM.v, WayM.ok] at hk hs ok; subst hk; subst hs; walk_at "g"; exact p)
def M__law_number : MD := fun ds P => ∃ c : Int, ds = [.int c] ∧ ∀ x : Int, x.natAbs < 10 ^ 60 → P (.ret (.int x))
theorem ok__law_number {Γ : Gm} {k : Nat} (T : Tx Γ) {f : Addr} {fd : FuncData} (F : Fun Γ.K "_law_number" "_law_number" st__law_number f fd) : FnOk Γ.P Γ.w Γ.K Γ.mg Γ.base (L2.CX Γ.P Γ.w) (k + 1) f fd ["_law_cell"] (spD Γ.nm M__law_number) := by
  refine fnD F sc__law_number (fun ds P h => ?_) (fun cdv A outer s H E G0 ds P jx hr ps h => ?_)
  · first | (obtain ⟨rfl, _⟩ := h; rfl) | (obtain ⟨_, rfl, _⟩ := h; rfl) | (obtain ⟨_, _, rfl, _⟩ := h; rfl) | (obtain ⟨_, _, _, rfl, _⟩ := h; rfl) | (obtain ⟨_, _, _, _, rfl, _⟩ := h; rfl) | (obtain ⟨_, _, _, _, _, rfl, _⟩ := h; rfl) | (obtain ⟨_, _, _, _, _, _, rfl, _⟩ := h; rfl) | (obtain ⟨_, _, _, _, _, _, _, rfl, _⟩ := h; rfl) | (obtain ⟨_, _, _, _, _, _, _, _, rfl, _⟩ := h; rfl) | (obtain ⟨_, _, _, _, _, _, _, _, _, rfl, _⟩ := h; rfl)
  have nd : N__law_number.Nodup := sc__law_number.nd
  refine ⟨_, (jss_cons (js_set (i := 1) nd rfl (by first | exact Or.inl rfl | exact Or.inr rfl) (je_op o_mod (je_op o_div (jv 0) je_int) (je_op o_pow je_int je_int))) (jss_one (js_ret (je_ix (je_lst (ja_cons (je_op o_mod (jv 1) je_int) (ja_cons (je_op o_sub je_int (je_op o_mod (jv 1) je_int)) (ja_cons (jv 1) (ja_cons (je_op o_sub je_int (jv 1)) (ja_cons (je_op o_sub (je_op o_mod (jv 1) je_int) je_int) ja_nil)))))) (je_op o_mod (jv 0) je_int))))), ?_⟩
  obtain ⟨c, rfl, p⟩ := h
  have e : c % 5 = 0 ∨ c % 5 = 1 ∨ c % 5 = 2 ∨ c % 5 = 3 ∨ c % 5 = 4 := by omega
  walk_at "g"
  have h0 : (10 : Int) ^ Int.toNat 60 = 10 ^ 60 := rfl
  have h1 := Int.emod_nonneg (c / 5) (show (10 ^ 60 : Int) ≠ 0 by decide)
  have h2 := Int.emod_lt_of_pos (c / 5) (show (0 : Int) < 10 ^ 60 by decide)
  rcases e with e | e | e | e | e <;> ((refine ix_own (by rw [e]; rfl) ?_); walk_at "g"; exact p _ (by omega))
theorem lt60 {x : Int} (h : x.natAbs < 10 ^ 60) : (Num.i x).lt 210 := ⟨Nat.lt_trans h (by decide), by show Int.natAbs 0 < 2 ^ 210; decide⟩
theorem lt60p {x y : Int} (h : x.natAbs < 10 ^ 60) (h2 : y.natAbs < 10 ^ 60) : (Num.p x y).lt 210 := ⟨Nat.lt_trans h (by decide), Nat.lt_trans h2 (by decide)⟩
def M__law_split_right : MD := fun ds P => ∃ (w : WayM) (k s : Int) (n : Nat) (a : Num), ds = [w.d, .int k, .int s, .int n, a.d] ∧ k = kind5 w ∧ s = w.v ∧ w.ok ∧ w.hasRatio = true ∧ w.cls ∈ LC ∧ n ≤ 60 ∧ a.lt 210 ∧ (w.isPairs = false → a.isP = false) ∧ P (.ret (.bl true))
theorem ok__law_split_right {Γ : Gm} {k : Nat} (T : Tx Γ) {f : Addr} {fd : FuncData} (F : Fun Γ.K "_law_split_right" "_law_split_right" st__law_split_right f fd) (c__law_pair : Cal Γ k "_law_pair" 1 M__law_pair) (c__law_whole : Cal Γ k "_law_whole" 1 M__law_whole) (c__law_bounds : Cal Γ k "_law_bounds" 3 M__law_bounds) (w_split : WM LC Γ k "split" 3 mw_split) : FnOk Γ.P Γ.w Γ.K Γ.mg Γ.base (L2.CX Γ.P Γ.w) (k + 1) f fd ["_law_way_here", "_law_kind", "_law_size", "_law_place", "_law_total"] (spD Γ.nm M__law_split_right) := by
  refine fnD F sc__law_split_right (fun ds P h => ?_) (fun cdv A outer s H E G0 ds P jx hr ps h => ?_)
  · first | (obtain ⟨rfl, _⟩ := h; rfl) | (obtain ⟨_, rfl, _⟩ := h; rfl) | (obtain ⟨_, _, rfl, _⟩ := h; rfl) | (obtain ⟨_, _, _, rfl, _⟩ := h; rfl) | (obtain ⟨_, _, _, _, rfl, _⟩ := h; rfl) | (obtain ⟨_, _, _, _, _, rfl, _⟩ := h; rfl) | (obtain ⟨_, _, _, _, _, _, rfl, _⟩ := h; rfl) | (obtain ⟨_, _, _, _, _, _, _, rfl, _⟩ := h; rfl) | (obtain ⟨_, _, _, _, _, _, _, _, rfl, _⟩ := h; rfl) | (obtain ⟨_, _, _, _, _, _, _, _, _, rfl, _⟩ := h; rfl)
  have nd : N__law_split_right.Nodup := sc__law_split_right.nd
  refine ⟨_, (jss_cons (js_set (i := 5) nd rfl (by first | exact Or.inl rfl | exact Or.inr rfl) (je_meth Γ 3 jx hr (pv 0) (ja_cons (jv 4) (ja_cons (jv 3) ja_nil)))) (jss_cons (js_if (JW.jt (jw_or (jt_not (jt_val (je_isi Γ (.ty .tup) rfl T.m_isinstance (jv 5) (pn_ty rfl T.m_tuple (by decide +kernel))))) (jw_or (jt_cmp (o_ne hr.units) (je_callB k_len rfl T.m_len (by decide +kernel) (ja_cons (jv 5) ja_nil)) je_int (nomark _)) (jw_or1 (jt_not (jt_val (je_call jx c__law_whole hr rfl (ja_cons (je_ix (jv 5) je_int) ja_nil)))))))) (jss_one (js_ret je_bl)) jss_nil) (jss_cons (js_asg (je_call jx c__law_bounds hr rfl (ja_cons (jv 1) (ja_cons (jv 2) (ja_cons (jv 3) ja_nil)))) (jg_tup rfl (jgs_cons (jg_name (i := 6) nd rfl (by first | exact Or.inl rfl | exact Or.inr rfl)) (jgs_cons (jg_name (i := 7) nd rfl (by first | exact Or.inl rfl | exact Or.inr rfl)) jgs_nil)))) (jss_cons (js_if (jt_not (jt_chain o_le o_le (jv 6) (je_ix (jv 5) je_int) (jv 7))) (jss_one (js_ret je_bl)) jss_nil) (jss_cons (js_if (jt_cmp o_lt (jv 1) je_int (nomark _)) (jss_cons (js_set (i := 8) nd rfl (by first | exact Or.inl rfl | exact Or.inr rfl) (je_ix (je_lst (ja_cons (jv 2) (ja_cons (je_op o_sub je_int (jv 2)) (ja_cons (je_op o_add (je_op o_mul je_int (jv 2)) je_int) (ja_cons (je_op o_add (jv 2) (jv 3)) ja_nil))))) (jv 1))) (jss_one (js_ret (je_and (je_call jx c__law_whole hr rfl (ja_cons (je_ix (jv 5) je_int) ja_nil)) (je_one (je_cmp (o_eq hr.units) (je_op o_add (je_ix (jv 5) je_int) (je_op o_mul (je_ix (jv 5) je_int) (jv 8))) (jv 4) (nomark _))))))) jss_nil) (jss_cons (js_if (jt_not (jt_val (je_call jx c__law_pair hr rfl (ja_cons (je_ix (jv 5) je_int) ja_nil)))) (jss_one (js_ret je_bl)) jss_nil) (jss_cons (js_asg (je_ix (jv 5) je_int) (jg_tup rfl (jgs_cons (jg_name (i := 9) nd rfl (by first | exact Or.inl rfl | exact Or.inr rfl)) (jgs_cons (jg_name (i := 10) nd rfl (by first | exact Or.inl rfl | exact Or.inr rfl)) jgs_nil)))) (jss_cons (js_set (i := 11) nd rfl (by first | exact Or.inl rfl | exact Or.inr rfl) (jv 4)) (jss_cons (js_if (jt_not (jt_val (je_isi Γ (.ty .tup) rfl T.m_isinstance (jv 4) (pn_ty rfl T.m_tuple (by decide +kernel))))) (jss_one (js_set (i := 11) nd rfl (by first | exact Or.inl rfl | exact Or.inr rfl) (je_tup (ja_cons (jv 4) (ja_cons je_int ja_nil))))) jss_nil) (jss_one (js_ret (je_cmp (o_eq hr.units) (je_tup (ja_cons (je_op o_sub (je_op o_sub (je_ix (jv 5) je_int) (je_op o_mul (jv 2) (jv 9))) (jv 10)) (ja_cons (je_op o_sub (jv 9) (je_op o_mul (jv 2) (jv 10))) ja_nil))) (jv 11) (nomark _))))))))))))), ?_⟩
  obtain ⟨w, k, s, n, a, rfl, hk, hs, ok, hr1, hw, hn, ha, hp, p⟩ := h
  walk_at "g"
  refine meth_way w_split w hw ok (nf_split w) rfl ?_
  walk_at "g"
  refine ⟨w, _, rfl, ok, rfl, a, n, by walk_at "n", fun h _ => hp h, ⟨_, ha, by decide⟩, by omega, fun _ => ?_, fun z => absurd (z.symm.trans hr1) (by decide)⟩
  walk_at "g"
  refine ⟨.i _, rfl, ?_⟩
  walk_at "g"
  refine ⟨w, k, s, n, hk, hs, ok, hr1, rfl, ?_⟩
  have fr := WayM.fig_range ok hr1 a (k := n) (by omega)
  have pb : ∀ b : Bool, b = true → P (.ret (.bl b)) := fun b e => e ▸ p
  walk_at "g"
  have es : w.isPairs = false → a.x = w.fig a n + (w.carry a n).x * (w.ratio n).x := fun z => WayM.split_int hr1 z a n
  have e2 : ∀ m, w = .pairs m → a.x = w.fig a n - m * (w.carry a n).x - (w.carry a n).y ∧ a.y = (w.carry a n).x - m * (w.carry a n).y := fun m z => z ▸ WayM.split_pair m a n
  have cp := WayM.carry_isP w a n
  revert es e2 cp fr
  generalize w.fig a n = g
  generalize w.carry a n = q
  intro fr es e2 cp
  cases w with
  | fall m => cases hr1
  | pairs m =>
    have e2 := e2 m rfl
    simp only [kind5, WayM.v, WayM.ok] at hk hs ok
    subst hk; subst hs
    cases q with
    | i z => cases cp
    | p u v =>
      walk_at "g"
      refine ⟨.p u v, rfl, ?_⟩
      walk_at "g"
      cases a with
      | i x =>
        walk_at "g"
        refine rEq_b (a := .p x 0) ⟨?_, rfl⟩ ?_
        · rw [show x = g - s * u - v from e2.1, show (0 : Int) = u - s * v from e2.2]
          rfl
        · walk_at "g"
          exact p
      | p x y =>
        walk_at "g"
        refine rEq_b (a := .p x y) ⟨?_, rfl⟩ ?_
        · rw [show x = g - s * u - v from e2.1, show y = u - s * v from e2.2]
          rfl
        · walk_at "g"
          exact p
  | _ =>
    have es := es rfl
    cases q with
    | p u v => cases cp
    | i z =>
      cases a with
      | p x y => cases hp rfl
      | i x =>
        simp only [kind5, WayM.v, WayM.ok] at hk hs ok
        subst hk; subst hs
        walk_at "g"
        refine ⟨.i z, rfl, ?_⟩
        walk_at "g"
        exact pb _ (decide_eq_true es.symm)
theorem high_le {w : WayM} (ok : w.ok) {k : Int} (hk : 0 ≤ k ∧ k ≤ 60) : -60 ≤ w.low k ∧ w.high k ≤ 200 := by
  cases w with
  | pairs m =>
    have h : 1 ≤ m ∧ m ≤ 9 := ok
    have : m * m ≤ 9 * 9 := Int.mul_le_mul h.2 h.2 (by omega) (by omega)
    exact ⟨by show -60 ≤ (0 : Int); decide, by show m * m ≤ 200; omega⟩
  | _ => simp only [WayM.ok, WayM.low, WayM.high] at *; omega
theorem nought_at {w : WayM} {k : Int} (ek : kind5 w = k) (h : 0 ≤ k ∧ k < 5) : L2.atI [D.int 0, .int 0, .int 0, .int 0, .tup [.int 0, .int 0]] k = some w.nought.d := by
  subst ek
  cases w <;> first | rfl | exact absurd h.2 (by show ¬ (9 : Int) < 5; decide)
theorem rEq_nought {f : Int} {w : WayM} {neg : Bool} {Q : D → Prop} (q : Q (.bl (!neg))) : DD.rEq neg (.tup [.int f, w.nought.d]) (.tup [.int f, w.nought.d]) Q := by
  by_cases h : w.isPairs = true
  · have e : w.nought.d = .tup [.int 0, .int 0] := by cases w <;> first | rfl | cases h
    rw [e]
    have sh : shapedD (.tup [.int f, .tup [.int 0, .int 0]]) := ⟨_, rfl, rfl⟩
    refine rEq_deep rfl sh sh ?_
    have e2 : eqD (.tup [.int f, .tup [.int 0, .int 0]]) (.tup [.int f, .tup [.int 0, .int 0]]) = true := by simp [eqD, toP, toPs, PyData.eqv, PyData.eqvAll]
    rw [e2]
    cases neg <;> exact q
  · have e : w.nought.d = .int 0 := by cases w <;> first | rfl | exact absurd rfl h
    rw [e]
    exact rEq_num (a := .p f 0) rfl q
def M_law : MD := fun ds P => ∃ ns : List Int, ds = [.scr (intsD ns)] ∧ ns.length ≤ 63 ∧ P (.ret (.bl true))
theorem ok_law {Γ : Gm} {k : Nat} (T : Tx Γ) {f : Addr} {fd : FuncData} (F : Fun Γ.K "law" "law" st_law f fd) (c__law_bounds : Cal Γ k "_law_bounds" 3 M__law_bounds) (c__law_split_right : Cal Γ k "_law_split_right" 5 M__law_split_right) (c__law_number : Cal Γ k "_law_number" 1 M__law_number) (c__law_way : Cal Γ k "_law_way" 2 M__law_way) (w_split : WM LC Γ k "split" 3 mw_split) : FnOk Γ.P Γ.w Γ.K Γ.mg Γ.base (L2.CX Γ.P Γ.w) (k + 1) f fd ["_law_script"] (spD Γ.nm M_law) := by
  refine fnD F sc_law (fun ds P h => ?_) (fun cdv A outer s H E G0 ds P jx hr ps h => ?_)
  · first | (obtain ⟨rfl, _⟩ := h; rfl) | (obtain ⟨_, rfl, _⟩ := h; rfl) | (obtain ⟨_, _, rfl, _⟩ := h; rfl) | (obtain ⟨_, _, _, rfl, _⟩ := h; rfl) | (obtain ⟨_, _, _, _, rfl, _⟩ := h; rfl) | (obtain ⟨_, _, _, _, _, rfl, _⟩ := h; rfl) | (obtain ⟨_, _, _, _, _, _, rfl, _⟩ := h; rfl) | (obtain ⟨_, _, _, _, _, _, _, rfl, _⟩ := h; rfl) | (obtain ⟨_, _, _, _, _, _, _, _, rfl, _⟩ := h; rfl) | (obtain ⟨_, _, _, _, _, _, _, _, _, rfl, _⟩ := h; rfl)
  have nd : N_law.Nodup := sc_law.nd
  refine ⟨_, (jss_cons (js_set (i := 1) nd rfl (by first | exact Or.inl rfl | exact Or.inr rfl) (je_op o_add (je_lst (ja_cons je_int (ja_cons je_int (ja_cons je_int (ja_cons je_int (ja_cons je_int ja_nil)))))) (je_slice (jv 0) jo_none (jo_some je_int)))) (jss_cons (js_for ps rfl (ji_range1 rfl T.m_range (ja_cons (je_callB k_len rfl T.m_len (by decide +kernel) (ja_cons (jv 1) ja_nil)) ja_nil)) (jg_name (i := 2) nd rfl (by first | exact Or.inl rfl | exact Or.inr rfl)) (jss_cons (js_set (i := 3) nd rfl (by first | exact Or.inl rfl | exact Or.inr rfl) (je_op o_mod (jv 2) je_int)) (jss_cons (js_set (i := 4) nd rfl (by first | exact Or.inl rfl | exact Or.inr rfl) (je_op o_mod (je_ix (jv 1) (jv 2)) (je_op o_pow je_int je_int))) (jss_cons (js_asg (je_call jx c__law_way hr rfl (ja_cons (jv 3) (ja_cons (jv 4) ja_nil))) (jg_tup rfl (jgs_cons (jg_name (i := 5) nd rfl (by first | exact Or.inl rfl | exact Or.inr rfl)) (jgs_cons (jg_name (i := 6) nd rfl (by first | exact Or.inl rfl | exact Or.inr rfl)) jgs_nil)))) (jss_cons (js_set (i := 7) nd rfl (by first | exact Or.inl rfl | exact Or.inr rfl) (je_op o_mod (je_op o_div (jv 4) je_int) je_int)) (jss_cons (js_set (i := 8) nd rfl (by first | exact Or.inl rfl | exact Or.inr rfl) (je_call jx c__law_number hr rfl (ja_cons (je_op o_add (je_op o_div (jv 4) je_int) (je_op o_mod (je_op o_mul (jv 4) je_int) je_int)) ja_nil))) (jss_cons (js_if (jt_not (jt_val (je_call jx c__law_split_right hr rfl (ja_cons (jv 5) (ja_cons (jv 3) (ja_cons (jv 6) (ja_cons (jv 7) (ja_cons (jv 8) ja_nil)))))))) (jss_one (js_ret je_bl)) jss_nil) (jss_cons (js_set (i := 9) nd rfl (by first | exact Or.inl rfl | exact Or.inr rfl) (je_tup (ja_cons (jv 8) (ja_cons (je_call jx c__law_number hr rfl (ja_cons (je_op o_mod (je_op o_mul (jv 4) je_int) je_int) ja_nil)) ja_nil)))) (jss_cons (js_if (JW.jt (jw_and (jt_cmp (o_eq hr.units) (jv 3) je_int (nomark _)) (jw_and1 (jt_not (jt_val (je_call jx c__law_split_right hr rfl (ja_cons (jv 5) (ja_cons (jv 3) (ja_cons (jv 6) (ja_cons (jv 7) (ja_cons (jv 9) ja_nil))))))))))) (jss_one (js_ret je_bl)) jss_nil) (jss_cons (js_asg (je_call jx c__law_bounds hr rfl (ja_cons (jv 3) (ja_cons (jv 6) (ja_cons (jv 7) ja_nil)))) (jg_tup rfl (jgs_cons (jg_name (i := 10) nd rfl (by first | exact Or.inl rfl | exact Or.inr rfl)) (jgs_cons (jg_name (i := 11) nd rfl (by first | exact Or.inl rfl | exact Or.inr rfl)) jgs_nil)))) (jss_one (js_for ps rfl (ji_of (je_lst (ja_cons (jv 10) (ja_cons (jv 11) (ja_cons (je_op o_add (jv 10) (je_op o_mod (jv 4) (je_op o_add (je_op o_sub (jv 11) (jv 10)) je_int))) ja_nil))))) (jg_name (i := 12) nd rfl (by first | exact Or.inl rfl | exact Or.inr rfl)) (jss_one (js_if (jt_cmp (o_ne hr.units) (je_meth Γ 3 jx hr (pv 5) (ja_cons (jv 12) (ja_cons (jv 7) ja_nil))) (je_tup (ja_cons (jv 12) (ja_cons (je_ix (je_lst (ja_cons je_int (ja_cons je_int (ja_cons je_int (ja_cons je_int (ja_cons (je_tup (ja_cons je_int (ja_cons je_int ja_nil))) ja_nil)))))) (jv 3)) ja_nil))) (nomark _)) (jss_one (js_ret je_bl)) jss_nil)))))))))))))) (jss_one (js_ret je_bl)))), ?_⟩
  obtain ⟨ns, rfl, hl, p⟩ := h
  walk_at "g"
  have hs : 5 + (cutD (intsD ns) none (some 30)).length ≤ 16000000 := by
    have := cut_len (intsD ns) none (some 30)
    rw [ints_len] at this
    omega
  refine ⟨size_small hs, ?_⟩
  walk_at "g"
  have hs2 : (intsD [0, 1, 2, 3, 4] ++ cutD (intsD ns) none (some 30)).length ≤ 1000 := by
    have := cut_len (intsD ns) none (some 30)
    rw [ints_len] at this
    rw [List.length_append]
    show 5 + _ ≤ 1000
    omega
  have bnd : -(2 ^ 62) ≤ ((intsD [0, 1, 2, 3, 4] ++ cutD (intsD ns) none (some 30)).length : Int) ∧ ((intsD [0, 1, 2, 3, 4] ++ cutD (intsD ns) none (some 30)).length : Int) < 2 ^ 62 := by omega
  refine ⟨bnd, _, Weak.refl _, for_range0 (n := (intsD [0, 1, 2, 3, 4] ++ cutD (intsD ns) none (some 30)).length) (fun _ => True) (fun i => [some (.scr (intsD ns)), some (.own (intsD [0, 1, 2, 3, 4] ++ cutD (intsD ns) none (some 30))), none, none, none, none, none, none, none, none, none, none, none]) trivial ?_ ?_⟩
  · intro i N hi _ hN
    obtain ⟨c, hc⟩ := cells_at hi
    have k6 : (0 : Int) ≤ (i : Int) % 5 ∧ (i : Int) % 5 < 5 := by omega
    walk_at "g"
    refine ix_own (atI_nat rfl hc) ?_
    walk_at "g"
    refine ⟨_, _, rfl, k6, ?_⟩
    have ok := of5_ok ((i : Int) % 5) (c % 10 ^ Int.toNat 64)
    have ek := of5_kind k6 (c % 10 ^ Int.toNat 64)
    have cl := of5_cls k6 (c % 10 ^ Int.toNat 64)
    have hr1 := of5_ratio k6 (c % 10 ^ Int.toNat 64)
    revert ok ek cl hr1
    generalize of5 ((i : Int) % 5) _ = w
    intro ok ek cl hr1
    walk_at "g"
    refine ⟨_, rfl, fun x hx => ?_⟩
    walk_at "g"
    have hpl : (0 : Int) ≤ c % 10 ^ Int.toNat 64 / 59 % 61 ∧ c % 10 ^ Int.toNat 64 / 59 % 61 ≤ 60 := by omega
    obtain ⟨n, hn⟩ : ∃ n : Nat, c % 10 ^ Int.toNat 64 / 59 % 61 = n := ⟨_, (Int.toNat_of_nonneg hpl.1).symm⟩
    rw [hn] at hpl ⊢
    refine ⟨w, _, _, n, .i x, rfl, ek.symm, rfl, ok, hr1, cl, by omega, lt60 hx, fun _ => rfl, ?_⟩
    walk_at "g"
    refine ⟨_, rfl, fun y hy => ?_⟩
    walk_at "g"
    have hP : w.isPairs = decide ((i : Int) % 5 = 4) := by rw [← ek]; cases w <;> rfl
    have lh := WayM.fig_range ok hr1 (.i 0) (k := n) (by omega)
    have bd := high_le ok (k := n) (by omega)
    have lh2 : w.low n ≤ w.high n := Int.le_trans lh.1 lh.2
    by_cases h4 : (i : Int) % 5 = 4
    rotate_left
    walk_at "g"
    rotate_left
    walk_at "g"
    refine ⟨w, _, _, n, .p x y, rfl, ek.symm, rfl, ok, hr1, cl, by omega, lt60p hx hy, fun z => absurd ((hP.trans (decide_eq_true h4)).symm.trans z) (by decide), ?_⟩
    walk_at "g"
    all_goals
      refine ⟨w, _, _, n, ek.symm, rfl, ok, hr1, rfl, ?_⟩
      walk_at "g"
      refine ⟨_, Weak.refl _, for_all (fun d => ∃ f, d = .int f ∧ w.low n ≤ f ∧ f ≤ w.high n) ?_ ?_ ?_⟩
      · intro d hd
        have hd : d ∈ [D.int (w.low n), .int (w.high n), .int (w.low n + c % 10 ^ Int.toNat 64 % (w.high n - w.low n + 1))] := hd
        have m1 := Int.emod_nonneg (c % 10 ^ Int.toNat 64) (show w.high n - w.low n + 1 ≠ 0 by omega)
        have m2 := Int.emod_lt_of_pos (c % 10 ^ Int.toNat 64) (show 0 < w.high n - w.low n + 1 by omega)
        simp only [List.mem_cons, List.not_mem_nil, or_false] at hd
        rcases hd with rfl | rfl | rfl <;> exact ⟨_, rfl, by omega, by omega⟩
      · rintro _ N2 ⟨g, rfl, hg1, hg2⟩ hN2
        walk_at "g"
        refine meth_way w_split w cl ok (nf_split w) rfl ?_
        walk_at "g"
        refine ⟨w, _, rfl, ok, rfl, .i g, n, rfl, fun _ _ => rfl, ⟨210, ⟨Nat.lt_trans (m := 1024) (by show Int.natAbs g < _; omega) (by decide), by show Int.natAbs 0 < 2 ^ 210; decide⟩, by decide⟩, by omega, fun _ => ?_, fun z => absurd (z.symm.trans hr1) (by decide)⟩
        obtain ⟨f1, f2⟩ := WayM.fig_self hr1 hg1 hg2
        rw [f1, f2]
        walk_at "g"
        refine ix_own (nought_at ek k6) ?_
        walk_at "g"
        refine ⟨by cases w <;> rfl, size_small (by show 2 ≤ 16000000; decide), ?_⟩
        simp only [Num.n2]
        refine rEq_nought (f := g) (w := w) ?_
        walk_at "g"
        apply hN2
        walk_at "w"
      · apply hN trivial
        walk_at "w"
  · intro _
    walk_at "g"
    exact p
theorem m_law_ok (ns : List Int) (h1 : ns.length ≤ 63) (_ : ∀ z ∈ ns, Builtin.Int.intBits z ≤ 1048576) : M_law [.scr (intsD ns)] (fun o => o = .ret (.bl true)) := ⟨ns, rfl, h1, rfl⟩
theorem all_mk {w : World} {K : PySem.W.Frag} {h : Heap} {mg : Str → Option Value} {fa f0 f1 f2 f3 f4 f5 f6 f7 f8 f9 f10 f11 f12 f13 f14 f15 f16 f17 f18 f19 f20 f21 f22 f23 f24 f25 C_Plain C_Below C_Balanced C_Growing C_Pairs X_NoWay : Addr} (X : K.In h) (G : h.Ns mainGlobals mg) (hfa : mg "law" = some (.ref fa))
    {od0 an0 : Option Addr} {sl0 : Array (Option Value)} {oc0 kV0 dc0 pm0 cd0 ct0 : Value}
    {od1 an1 : Option Addr} {sl1 : Array (Option Value)} {oc1 kV1 dc1 pm1 cd1 ct1 : Value}
    {od2 an2 : Option Addr} {sl2 : Array (Option Value)} {oc2 kV2 dc2 pm2 cd2 ct2 : Value}
    {od3 an3 : Option Addr} {sl3 : Array (Option Value)} {oc3 kV3 dc3 pm3 cd3 ct3 : Value}
    {od4 an4 : Option Addr} {sl4 : Array (Option Value)} {oc4 kV4 dc4 pm4 cd4 ct4 : Value}
    {od5 an5 : Option Addr} {sl5 : Array (Option Value)} {oc5 kV5 dc5 pm5 cd5 ct5 : Value}
    {od6 an6 : Option Addr} {sl6 : Array (Option Value)} {oc6 kV6 dc6 pm6 cd6 ct6 : Value}
    {od7 an7 : Option Addr} {sl7 : Array (Option Value)} {oc7 kV7 dc7 pm7 cd7 ct7 : Value}
    {od8 an8 : Option Addr} {sl8 : Array (Option Value)} {oc8 kV8 dc8 pm8 cd8 ct8 : Value}
    {od9 an9 : Option Addr} {sl9 : Array (Option Value)} {oc9 kV9 dc9 pm9 cd9 ct9 : Value}
    {od10 an10 : Option Addr} {sl10 : Array (Option Value)} {oc10 kV10 dc10 pm10 cd10 ct10 : Value}
    {od11 an11 : Option Addr} {sl11 : Array (Option Value)} {oc11 kV11 dc11 pm11 cd11 ct11 : Value}
    {od12 an12 : Option Addr} {sl12 : Array (Option Value)} {oc12 kV12 dc12 pm12 cd12 ct12 : Value}
    {od13 an13 : Option Addr} {sl13 : Array (Option Value)} {oc13 kV13 dc13 pm13 cd13 ct13 : Value}
    {od14 an14 : Option Addr} {sl14 : Array (Option Value)} {oc14 kV14 dc14 pm14 cd14 ct14 : Value}
    {od15 an15 : Option Addr} {sl15 : Array (Option Value)} {oc15 kV15 dc15 pm15 cd15 ct15 : Value}
    {od16 an16 : Option Addr} {sl16 : Array (Option Value)} {oc16 kV16 dc16 pm16 cd16 ct16 : Value}
    {od17 an17 : Option Addr} {sl17 : Array (Option Value)} {oc17 kV17 dc17 pm17 cd17 ct17 : Value}
    {od18 an18 : Option Addr} {sl18 : Array (Option Value)} {oc18 kV18 dc18 pm18 cd18 ct18 : Value}
    {od19 an19 : Option Addr} {sl19 : Array (Option Value)} {oc19 kV19 dc19 pm19 cd19 ct19 : Value}
    {od20 an20 : Option Addr} {sl20 : Array (Option Value)} {oc20 kV20 dc20 pm20 cd20 ct20 : Value}
    {od21 an21 : Option Addr} {sl21 : Array (Option Value)} {oc21 kV21 dc21 pm21 cd21 ct21 : Value}
    {od22 an22 : Option Addr} {sl22 : Array (Option Value)} {oc22 kV22 dc22 pm22 cd22 ct22 : Value}
    {od23 an23 : Option Addr} {sl23 : Array (Option Value)} {oc23 kV23 dc23 pm23 cd23 ct23 : Value}
    {od24 an24 : Option Addr} {sl24 : Array (Option Value)} {oc24 kV24 dc24 pm24 cd24 ct24 : Value}
    {od25 an25 : Option Addr} {sl25 : Array (Option Value)} {oc25 kV25 dc25 pm25 cd25 ct25 : Value}
    (ac_Plain : PySem.W.nsIn K mainGlobals "Plain" = some (some (.ref C_Plain)))
    (ac_Below : PySem.W.nsIn K mainGlobals "Below" = some (some (.ref C_Below)))
    (ac_Balanced : PySem.W.nsIn K mainGlobals "Balanced" = some (some (.ref C_Balanced)))
    (ac_Growing : PySem.W.nsIn K mainGlobals "Growing" = some (some (.ref C_Growing)))
    (ac_Pairs : PySem.W.nsIn K mainGlobals "Pairs" = some (some (.ref C_Pairs)))
    (p1_Plain : PySem.W.plainGet K C_Plain Str.empty = true)
    (p2_Plain : PySem.W.hasDictIn K C_Plain = true)
    (p3_Plain : PySem.W.plainOver K C_Plain = true)
    (p4_Plain : PySem.W.findIn K (.ref C_Plain) "__setattr__" = some (some (.builtin "object.__setattr__")))
    (na_Plain : PySem.W.findIn K (.ref C_Plain) "base" = some none)
    (p1_Below : PySem.W.plainGet K C_Below Str.empty = true)
    (p2_Below : PySem.W.hasDictIn K C_Below = true)
    (p3_Below : PySem.W.plainOver K C_Below = true)
    (p4_Below : PySem.W.findIn K (.ref C_Below) "__setattr__" = some (some (.builtin "object.__setattr__")))
    (na_Below : PySem.W.findIn K (.ref C_Below) "base" = some none)
    (p1_Balanced : PySem.W.plainGet K C_Balanced Str.empty = true)
    (p2_Balanced : PySem.W.hasDictIn K C_Balanced = true)
    (p3_Balanced : PySem.W.plainOver K C_Balanced = true)
    (p4_Balanced : PySem.W.findIn K (.ref C_Balanced) "__setattr__" = some (some (.builtin "object.__setattr__")))
    (na_Balanced : PySem.W.findIn K (.ref C_Balanced) "half" = some none)
    (p1_Growing : PySem.W.plainGet K C_Growing Str.empty = true)
    (p2_Growing : PySem.W.hasDictIn K C_Growing = true)
    (p3_Growing : PySem.W.plainOver K C_Growing = true)
    (p4_Growing : PySem.W.findIn K (.ref C_Growing) "__setattr__" = some (some (.builtin "object.__setattr__")))
    (na_Growing : PySem.W.findIn K (.ref C_Growing) "first" = some none)
    (p1_Pairs : PySem.W.plainGet K C_Pairs Str.empty = true)
    (p2_Pairs : PySem.W.hasDictIn K C_Pairs = true)
    (p3_Pairs : PySem.W.plainOver K C_Pairs = true)
    (p4_Pairs : PySem.W.findIn K (.ref C_Pairs) "__setattr__" = some (some (.builtin "object.__setattr__")))
    (na_Pairs : PySem.W.findIn K (.ref C_Pairs) "most" = some none)
    (cm_Plain : PySem.W.makesIn K C_Plain = true)
    (ci_Plain : PySem.W.findIn K (.ref C_Plain) "__init__" = some (some (.ref f15)))
    (cf_Plain : PySem.W.isFn K (.ref f15) = true)
    (ck_Plain : PySem.W.keepIn K (.ref C_Plain) = true)
    (cm_Below : PySem.W.makesIn K C_Below = true)
    (ci_Below : PySem.W.findIn K (.ref C_Below) "__init__" = some (some (.ref f16)))
    (cf_Below : PySem.W.isFn K (.ref f16) = true)
    (ck_Below : PySem.W.keepIn K (.ref C_Below) = true)
    (cm_Balanced : PySem.W.makesIn K C_Balanced = true)
    (ci_Balanced : PySem.W.findIn K (.ref C_Balanced) "__init__" = some (some (.ref f17)))
    (cf_Balanced : PySem.W.isFn K (.ref f17) = true)
    (ck_Balanced : PySem.W.keepIn K (.ref C_Balanced) = true)
    (cm_Growing : PySem.W.makesIn K C_Growing = true)
    (ci_Growing : PySem.W.findIn K (.ref C_Growing) "__init__" = some (some (.ref f18)))
    (cf_Growing : PySem.W.isFn K (.ref f18) = true)
    (ck_Growing : PySem.W.keepIn K (.ref C_Growing) = true)
    (cm_Pairs : PySem.W.makesIn K C_Pairs = true)
    (ci_Pairs : PySem.W.findIn K (.ref C_Pairs) "__init__" = some (some (.ref f19)))
    (cf_Pairs : PySem.W.isFn K (.ref f19) = true)
    (ck_Pairs : PySem.W.keepIn K (.ref C_Pairs) = true)
    (fm_Plain_ratio : PySem.W.findIn K (.ref C_Plain) "ratio" = some (some (.ref f4)))
    (fn_Plain_ratio : PySem.W.isFn K (.ref f4) = true)
    (fm_Below_ratio : PySem.W.findIn K (.ref C_Below) "ratio" = some (some (.ref f5)))
    (fn_Below_ratio : PySem.W.isFn K (.ref f5) = true)
    (fm_Balanced_ratio : PySem.W.findIn K (.ref C_Balanced) "ratio" = some (some (.ref f6)))
    (fn_Balanced_ratio : PySem.W.isFn K (.ref f6) = true)
    (fm_Growing_ratio : PySem.W.findIn K (.ref C_Growing) "ratio" = some (some (.ref f7)))
    (fn_Growing_ratio : PySem.W.isFn K (.ref f7) = true)
    (fm_Pairs_ratio : PySem.W.findIn K (.ref C_Pairs) "ratio" = some (some (.ref f8)))
    (fn_Pairs_ratio : PySem.W.isFn K (.ref f8) = true)
    (fm_Plain_low : PySem.W.findIn K (.ref C_Plain) "low" = some (some (.ref f2)))
    (fn_Plain_low : PySem.W.isFn K (.ref f2) = true)
    (fm_Below_low : PySem.W.findIn K (.ref C_Below) "low" = some (some (.ref f2)))
    (fn_Below_low : PySem.W.isFn K (.ref f2) = true)
    (fm_Balanced_low : PySem.W.findIn K (.ref C_Balanced) "low" = some (some (.ref f3)))
    (fn_Balanced_low : PySem.W.isFn K (.ref f3) = true)
    (fm_Growing_low : PySem.W.findIn K (.ref C_Growing) "low" = some (some (.ref f2)))
    (fn_Growing_low : PySem.W.isFn K (.ref f2) = true)
    (fm_Pairs_low : PySem.W.findIn K (.ref C_Pairs) "low" = some (some (.ref f2)))
    (fn_Pairs_low : PySem.W.isFn K (.ref f2) = true)
    (fm_Plain_split : PySem.W.findIn K (.ref C_Plain) "split" = some (some (.ref f13)))
    (fn_Plain_split : PySem.W.isFn K (.ref f13) = true)
    (fm_Below_split : PySem.W.findIn K (.ref C_Below) "split" = some (some (.ref f13)))
    (fn_Below_split : PySem.W.isFn K (.ref f13) = true)
    (fm_Balanced_split : PySem.W.findIn K (.ref C_Balanced) "split" = some (some (.ref f13)))
    (fn_Balanced_split : PySem.W.isFn K (.ref f13) = true)
    (fm_Growing_split : PySem.W.findIn K (.ref C_Growing) "split" = some (some (.ref f13)))
    (fn_Growing_split : PySem.W.isFn K (.ref f13) = true)
    (fm_Pairs_split : PySem.W.findIn K (.ref C_Pairs) "split" = some (some (.ref f22)))
    (fn_Pairs_split : PySem.W.isFn K (.ref f22) = true)
    (ae_NoWay : PySem.W.nsIn K mainGlobals "NoWay" = some (some (.ref X_NoWay)))
    (eq_NoWay : PySem.W.excIn K X_NoWay [.type "ValueError", .type "Exception", .type "BaseException", .type "object"] "ValueError.__new__" = true)
    (ek_NoWay : PySem.W.keepIn K (.ref X_NoWay) = true)
    (eb_NoWay : PySem.W.subIn K (.ref X_NoWay) (.type "BaseException") = some true)
    (et_NoWay : PySem.W.typeIn K (.ref X_NoWay) = some (.type "type"))
    (a0 : PySem.W.nsIn K mainGlobals "is_pair" = some (some (.ref f0)))
    (l0 : K.lookup f0 = some ⟨oc0, od0, .func (PySem.W.fnOf "is_pair" "is_pair" (defArgs st_is_pair) (defBody st_is_pair) (defScope st_is_pair) .none kV0 dc0 pm0 an0 cd0 ct0), sl0⟩)
    (c0 : PySem.W.codeIn K cd0 "is_pair" = true)
    (k0 : PySem.W.keepIn K (.ref f0) = true)
    (a1 : PySem.W.nsIn K mainGlobals "look_at" = some (some (.ref f1)))
    (l1 : K.lookup f1 = some ⟨oc1, od1, .func (PySem.W.fnOf "look_at" "look_at" (defArgs st_look_at) (defBody st_look_at) (defScope st_look_at) .none kV1 dc1 pm1 an1 cd1 ct1), sl1⟩)
    (c1 : PySem.W.codeIn K cd1 "look_at" = true)
    (k1 : PySem.W.keepIn K (.ref f1) = true)
    (l2 : K.lookup f2 = some ⟨oc2, od2, .func (PySem.W.fnOf "low" "Way.low" (defArgs st_Way_low) (defBody st_Way_low) (defScope st_Way_low) .none kV2 dc2 pm2 an2 cd2 ct2), sl2⟩)
    (c2 : PySem.W.codeIn K cd2 "Way.low" = true)
    (k2 : PySem.W.keepIn K (.ref f2) = true)
    (l3 : K.lookup f3 = some ⟨oc3, od3, .func (PySem.W.fnOf "low" "Balanced.low" (defArgs st_Balanced_low) (defBody st_Balanced_low) (defScope st_Balanced_low) .none kV3 dc3 pm3 an3 cd3 ct3), sl3⟩)
    (c3 : PySem.W.codeIn K cd3 "Balanced.low" = true)
    (k3 : PySem.W.keepIn K (.ref f3) = true)
    (l4 : K.lookup f4 = some ⟨oc4, od4, .func (PySem.W.fnOf "ratio" "Plain.ratio" (defArgs st_Plain_ratio) (defBody st_Plain_ratio) (defScope st_Plain_ratio) .none kV4 dc4 pm4 an4 cd4 ct4), sl4⟩)
    (c4 : PySem.W.codeIn K cd4 "Plain.ratio" = true)
    (k4 : PySem.W.keepIn K (.ref f4) = true)
    (l5 : K.lookup f5 = some ⟨oc5, od5, .func (PySem.W.fnOf "ratio" "Below.ratio" (defArgs st_Below_ratio) (defBody st_Below_ratio) (defScope st_Below_ratio) .none kV5 dc5 pm5 an5 cd5 ct5), sl5⟩)
    (c5 : PySem.W.codeIn K cd5 "Below.ratio" = true)
    (k5 : PySem.W.keepIn K (.ref f5) = true)
    (l6 : K.lookup f6 = some ⟨oc6, od6, .func (PySem.W.fnOf "ratio" "Balanced.ratio" (defArgs st_Balanced_ratio) (defBody st_Balanced_ratio) (defScope st_Balanced_ratio) .none kV6 dc6 pm6 an6 cd6 ct6), sl6⟩)
    (c6 : PySem.W.codeIn K cd6 "Balanced.ratio" = true)
    (k6 : PySem.W.keepIn K (.ref f6) = true)
    (l7 : K.lookup f7 = some ⟨oc7, od7, .func (PySem.W.fnOf "ratio" "Growing.ratio" (defArgs st_Growing_ratio) (defBody st_Growing_ratio) (defScope st_Growing_ratio) .none kV7 dc7 pm7 an7 cd7 ct7), sl7⟩)
    (c7 : PySem.W.codeIn K cd7 "Growing.ratio" = true)
    (k7 : PySem.W.keepIn K (.ref f7) = true)
    (l8 : K.lookup f8 = some ⟨oc8, od8, .func (PySem.W.fnOf "ratio" "Pairs.ratio" (defArgs st_Pairs_ratio) (defBody st_Pairs_ratio) (defScope st_Pairs_ratio) .none kV8 dc8 pm8 an8 cd8 ct8), sl8⟩)
    (c8 : PySem.W.codeIn K cd8 "Pairs.ratio" = true)
    (k8 : PySem.W.keepIn K (.ref f8) = true)
    (a9 : PySem.W.nsIn K mainGlobals "_law_whole" = some (some (.ref f9)))
    (l9 : K.lookup f9 = some ⟨oc9, od9, .func (PySem.W.fnOf "_law_whole" "_law_whole" (defArgs st__law_whole) (defBody st__law_whole) (defScope st__law_whole) .none kV9 dc9 pm9 an9 cd9 ct9), sl9⟩)
    (c9 : PySem.W.codeIn K cd9 "_law_whole" = true)
    (k9 : PySem.W.keepIn K (.ref f9) = true)
    (a10 : PySem.W.nsIn K mainGlobals "_law_bounds" = some (some (.ref f10)))
    (l10 : K.lookup f10 = some ⟨oc10, od10, .func (PySem.W.fnOf "_law_bounds" "_law_bounds" (defArgs st__law_bounds) (defBody st__law_bounds) (defScope st__law_bounds) .none kV10 dc10 pm10 an10 cd10 ct10), sl10⟩)
    (c10 : PySem.W.codeIn K cd10 "_law_bounds" = true)
    (k10 : PySem.W.keepIn K (.ref f10) = true)
    (a11 : PySem.W.nsIn K mainGlobals "_law_number" = some (some (.ref f11)))
    (l11 : K.lookup f11 = some ⟨oc11, od11, .func (PySem.W.fnOf "_law_number" "_law_number" (defArgs st__law_number) (defBody st__law_number) (defScope st__law_number) .none kV11 dc11 pm11 an11 cd11 ct11), sl11⟩)
    (c11 : PySem.W.codeIn K cd11 "_law_number" = true)
    (k11 : PySem.W.keepIn K (.ref f11) = true)
    (a12 : PySem.W.nsIn K mainGlobals "as_pair" = some (some (.ref f12)))
    (l12 : K.lookup f12 = some ⟨oc12, od12, .func (PySem.W.fnOf "as_pair" "as_pair" (defArgs st_as_pair) (defBody st_as_pair) (defScope st_as_pair) .none kV12 dc12 pm12 an12 cd12 ct12), sl12⟩)
    (c12 : PySem.W.codeIn K cd12 "as_pair" = true)
    (k12 : PySem.W.keepIn K (.ref f12) = true)
    (l13 : K.lookup f13 = some ⟨oc13, od13, .func (PySem.W.fnOf "split" "Way.split" (defArgs st_Way_split) (defBody st_Way_split) (defScope st_Way_split) .none kV13 dc13 pm13 an13 cd13 ct13), sl13⟩)
    (c13 : PySem.W.codeIn K cd13 "Way.split" = true)
    (k13 : PySem.W.keepIn K (.ref f13) = true)
    (a14 : PySem.W.nsIn K mainGlobals "_law_pair" = some (some (.ref f14)))
    (l14 : K.lookup f14 = some ⟨oc14, od14, .func (PySem.W.fnOf "_law_pair" "_law_pair" (defArgs st__law_pair) (defBody st__law_pair) (defScope st__law_pair) .none kV14 dc14 pm14 an14 cd14 ct14), sl14⟩)
    (c14 : PySem.W.codeIn K cd14 "_law_pair" = true)
    (k14 : PySem.W.keepIn K (.ref f14) = true)
    (l15 : K.lookup f15 = some ⟨oc15, od15, .func (PySem.W.fnOf "__init__" "Plain.__init__" (defArgs st_Plain___init__) (defBody st_Plain___init__) (defScope st_Plain___init__) .none kV15 dc15 pm15 an15 cd15 ct15), sl15⟩)
    (c15 : PySem.W.codeIn K cd15 "Plain.__init__" = true)
    (k15 : PySem.W.keepIn K (.ref f15) = true)
    (l16 : K.lookup f16 = some ⟨oc16, od16, .func (PySem.W.fnOf "__init__" "Below.__init__" (defArgs st_Below___init__) (defBody st_Below___init__) (defScope st_Below___init__) .none kV16 dc16 pm16 an16 cd16 ct16), sl16⟩)
    (c16 : PySem.W.codeIn K cd16 "Below.__init__" = true)
    (k16 : PySem.W.keepIn K (.ref f16) = true)
    (l17 : K.lookup f17 = some ⟨oc17, od17, .func (PySem.W.fnOf "__init__" "Balanced.__init__" (defArgs st_Balanced___init__) (defBody st_Balanced___init__) (defScope st_Balanced___init__) .none kV17 dc17 pm17 an17 cd17 ct17), sl17⟩)
    (c17 : PySem.W.codeIn K cd17 "Balanced.__init__" = true)
    (k17 : PySem.W.keepIn K (.ref f17) = true)
    (l18 : K.lookup f18 = some ⟨oc18, od18, .func (PySem.W.fnOf "__init__" "Growing.__init__" (defArgs st_Growing___init__) (defBody st_Growing___init__) (defScope st_Growing___init__) .none kV18 dc18 pm18 an18 cd18 ct18), sl18⟩)
    (c18 : PySem.W.codeIn K cd18 "Growing.__init__" = true)
    (k18 : PySem.W.keepIn K (.ref f18) = true)
    (l19 : K.lookup f19 = some ⟨oc19, od19, .func (PySem.W.fnOf "__init__" "Pairs.__init__" (defArgs st_Pairs___init__) (defBody st_Pairs___init__) (defScope st_Pairs___init__) .none kV19 dc19 pm19 an19 cd19 ct19), sl19⟩)
    (c19 : PySem.W.codeIn K cd19 "Pairs.__init__" = true)
    (k19 : PySem.W.keepIn K (.ref f19) = true)
    (a20 : PySem.W.nsIn K mainGlobals "added" = some (some (.ref f20)))
    (l20 : K.lookup f20 = some ⟨oc20, od20, .func (PySem.W.fnOf "added" "added" (defArgs st_added) (defBody st_added) (defScope st_added) .none kV20 dc20 pm20 an20 cd20 ct20), sl20⟩)
    (c20 : PySem.W.codeIn K cd20 "added" = true)
    (k20 : PySem.W.keepIn K (.ref f20) = true)
    (a21 : PySem.W.nsIn K mainGlobals "multiplied" = some (some (.ref f21)))
    (l21 : K.lookup f21 = some ⟨oc21, od21, .func (PySem.W.fnOf "multiplied" "multiplied" (defArgs st_multiplied) (defBody st_multiplied) (defScope st_multiplied) .none kV21 dc21 pm21 an21 cd21 ct21), sl21⟩)
    (c21 : PySem.W.codeIn K cd21 "multiplied" = true)
    (k21 : PySem.W.keepIn K (.ref f21) = true)
    (l22 : K.lookup f22 = some ⟨oc22, od22, .func (PySem.W.fnOf "split" "Pairs.split" (defArgs st_Pairs_split) (defBody st_Pairs_split) (defScope st_Pairs_split) .none kV22 dc22 pm22 an22 cd22 ct22), sl22⟩)
    (c22 : PySem.W.codeIn K cd22 "Pairs.split" = true)
    (k22 : PySem.W.keepIn K (.ref f22) = true)
    (a23 : PySem.W.nsIn K mainGlobals "_law_way" = some (some (.ref f23)))
    (l23 : K.lookup f23 = some ⟨oc23, od23, .func (PySem.W.fnOf "_law_way" "_law_way" (defArgs st__law_way) (defBody st__law_way) (defScope st__law_way) .none kV23 dc23 pm23 an23 cd23 ct23), sl23⟩)
    (c23 : PySem.W.codeIn K cd23 "_law_way" = true)
    (k23 : PySem.W.keepIn K (.ref f23) = true)
    (a24 : PySem.W.nsIn K mainGlobals "_law_split_right" = some (some (.ref f24)))
    (l24 : K.lookup f24 = some ⟨oc24, od24, .func (PySem.W.fnOf "_law_split_right" "_law_split_right" (defArgs st__law_split_right) (defBody st__law_split_right) (defScope st__law_split_right) .none kV24 dc24 pm24 an24 cd24 ct24), sl24⟩)
    (c24 : PySem.W.codeIn K cd24 "_law_split_right" = true)
    (k24 : PySem.W.keepIn K (.ref f24) = true)
    (a25 : PySem.W.nsIn K mainGlobals "law" = some (some (.ref f25)))
    (l25 : K.lookup f25 = some ⟨oc25, od25, .func (PySem.W.fnOf "law" "law" (defArgs st_law) (defBody st_law) (defScope st_law) .none kV25 dc25 pm25 an25 cd25 ct25), sl25⟩)
    (c25 : PySem.W.codeIn K cd25 "law" = true)
    (k25 : PySem.W.keepIn K (.ref f25) = true)
    (z_abs : PySem.W.nsIn K mainGlobals "abs" = some none)
    (z_bool : PySem.W.nsIn K mainGlobals "bool" = some none)
    (z_int : PySem.W.nsIn K mainGlobals "int" = some none)
    (z_isinstance : PySem.W.nsIn K mainGlobals "isinstance" = some none)
    (z_len : PySem.W.nsIn K mainGlobals "len" = some none)
    (z_range : PySem.W.nsIn K mainGlobals "range" = some none)
    (z_tuple : PySem.W.nsIn K mainGlobals "tuple" = some none)
    : ∃ fd : FuncData, (∀ (s : Shared) (v : Value), BindsTo s fd ⟨[v], []⟩ [("_law_script", v)]) ∧ ∀ base : Heap, K.In base → base.Ns mainGlobals mg → FnOk PySem.Challenge.pw_oddbases_k04_split_in_one_way w K mg base (L2.CX PySem.Challenge.pw_oddbases_k04_split_in_one_way w) 6 fa fd ["_law_script"] (spLaw K 63) := by
  have e := hfa.symm.trans (PySem.W.mg_of X G a25)
  cases e
  have F0 := fun_mk (st := st_is_pair) l0 c0 k0
  have F1 := fun_mk (st := st_look_at) l1 c1 k1
  have F2 := fun_mk (st := st_Way_low) l2 c2 k2
  have F3 := fun_mk (st := st_Balanced_low) l3 c3 k3
  have F4 := fun_mk (st := st_Plain_ratio) l4 c4 k4
  have F5 := fun_mk (st := st_Below_ratio) l5 c5 k5
  have F6 := fun_mk (st := st_Balanced_ratio) l6 c6 k6
  have F7 := fun_mk (st := st_Growing_ratio) l7 c7 k7
  have F8 := fun_mk (st := st_Pairs_ratio) l8 c8 k8
  have F9 := fun_mk (st := st__law_whole) l9 c9 k9
  have F10 := fun_mk (st := st__law_bounds) l10 c10 k10
  have F11 := fun_mk (st := st__law_number) l11 c11 k11
  have F12 := fun_mk (st := st_as_pair) l12 c12 k12
  have F13 := fun_mk (st := st_Way_split) l13 c13 k13
  have F14 := fun_mk (st := st__law_pair) l14 c14 k14
  have F15 := fun_mk (st := st_Plain___init__) l15 c15 k15
  have F16 := fun_mk (st := st_Below___init__) l16 c16 k16
  have F17 := fun_mk (st := st_Balanced___init__) l17 c17 k17
  have F18 := fun_mk (st := st_Growing___init__) l18 c18 k18
  have F19 := fun_mk (st := st_Pairs___init__) l19 c19 k19
  have F20 := fun_mk (st := st_added) l20 c20 k20
  have F21 := fun_mk (st := st_multiplied) l21 c21 k21
  have F22 := fun_mk (st := st_Pairs_split) l22 c22 k22
  have F23 := fun_mk (st := st__law_way) l23 c23 k23
  have F24 := fun_mk (st := st__law_split_right) l24 c24 k24
  have F25 := fun_mk (st := st_law) l25 c25 k25
  have b0 := F0.binds (ps := ["thing"]) fun _ _ _ _ _ _ us hl => match us, hl with | [_], _ => rfl
  have b1 := F1.binds (ps := ["number", "least", "greatest"]) fun _ _ _ _ _ _ us hl => match us, hl with | [_, _, _], _ => rfl
  have b2 := F2.binds (ps := ["self", "place"]) fun _ _ _ _ _ _ us hl => match us, hl with | [_, _], _ => rfl
  have b3 := F3.binds (ps := ["self", "place"]) fun _ _ _ _ _ _ us hl => match us, hl with | [_, _], _ => rfl
  have b4 := F4.binds (ps := ["self", "place"]) fun _ _ _ _ _ _ us hl => match us, hl with | [_, _], _ => rfl
  have b5 := F5.binds (ps := ["self", "place"]) fun _ _ _ _ _ _ us hl => match us, hl with | [_, _], _ => rfl
  have b6 := F6.binds (ps := ["self", "place"]) fun _ _ _ _ _ _ us hl => match us, hl with | [_, _], _ => rfl
  have b7 := F7.binds (ps := ["self", "place"]) fun _ _ _ _ _ _ us hl => match us, hl with | [_, _], _ => rfl
  have b8 := F8.binds (ps := ["self", "place"]) fun _ _ _ _ _ _ us hl => match us, hl with | [_, _], _ => rfl
  have b9 := F9.binds (ps := ["_law_found"]) fun _ _ _ _ _ _ us hl => match us, hl with | [_], _ => rfl
  have b10 := F10.binds (ps := ["_law_kind", "_law_size", "_law_place"]) fun _ _ _ _ _ _ us hl => match us, hl with | [_, _, _], _ => rfl
  have b11 := F11.binds (ps := ["_law_cell"]) fun _ _ _ _ _ _ us hl => match us, hl with | [_], _ => rfl
  have b12 := F12.binds (ps := ["thing"]) fun _ _ _ _ _ _ us hl => match us, hl with | [_], _ => rfl
  have b13 := F13.binds (ps := ["self", "total", "place"]) fun _ _ _ _ _ _ us hl => match us, hl with | [_, _, _], _ => rfl
  have b14 := F14.binds (ps := ["_law_found"]) fun _ _ _ _ _ _ us hl => match us, hl with | [_], _ => rfl
  have b15 := F15.binds (ps := ["self", "base"]) fun _ _ _ _ _ _ us hl => match us, hl with | [_, _], _ => rfl
  have b16 := F16.binds (ps := ["self", "base"]) fun _ _ _ _ _ _ us hl => match us, hl with | [_, _], _ => rfl
  have b17 := F17.binds (ps := ["self", "half"]) fun _ _ _ _ _ _ us hl => match us, hl with | [_, _], _ => rfl
  have b18 := F18.binds (ps := ["self", "first"]) fun _ _ _ _ _ _ us hl => match us, hl with | [_, _], _ => rfl
  have b19 := F19.binds (ps := ["self", "most"]) fun _ _ _ _ _ _ us hl => match us, hl with | [_, _], _ => rfl
  have b20 := F20.binds (ps := ["one", "other"]) fun _ _ _ _ _ _ us hl => match us, hl with | [_, _], _ => rfl
  have b21 := F21.binds (ps := ["one", "other"]) fun _ _ _ _ _ _ us hl => match us, hl with | [_, _], _ => rfl
  have b22 := F22.binds (ps := ["self", "total", "place"]) fun _ _ _ _ _ _ us hl => match us, hl with | [_, _, _], _ => rfl
  have b23 := F23.binds (ps := ["_law_kind", "_law_number_here"]) fun _ _ _ _ _ _ us hl => match us, hl with | [_, _], _ => rfl
  have b24 := F24.binds (ps := ["_law_way_here", "_law_kind", "_law_size", "_law_place", "_law_total"]) fun _ _ _ _ _ _ us hl => match us, hl with | [_, _, _, _, _], _ => rfl
  have b25 := F25.binds (ps := ["_law_script"]) fun _ _ _ _ _ _ us hl => match us, hl with | [_], _ => rfl
  have e_Plain : adOf mg "Plain" = C_Plain := adOf_eq (PySem.W.mg_of X G ac_Plain)
  have e_Below : adOf mg "Below" = C_Below := adOf_eq (PySem.W.mg_of X G ac_Below)
  have e_Balanced : adOf mg "Balanced" = C_Balanced := adOf_eq (PySem.W.mg_of X G ac_Balanced)
  have e_Growing : adOf mg "Growing" = C_Growing := adOf_eq (PySem.W.mg_of X G ac_Growing)
  have e_Pairs : adOf mg "Pairs" = C_Pairs := adOf_eq (PySem.W.mg_of X G ac_Pairs)
  have cl_Plain : Cls K (adOf mg "Plain") := by rw [e_Plain]; exact ⟨p1_Plain, p2_Plain, p3_Plain, p4_Plain⟩
  have cl_Below : Cls K (adOf mg "Below") := by rw [e_Below]; exact ⟨p1_Below, p2_Below, p3_Below, p4_Below⟩
  have cl_Balanced : Cls K (adOf mg "Balanced") := by rw [e_Balanced]; exact ⟨p1_Balanced, p2_Balanced, p3_Balanced, p4_Balanced⟩
  have cl_Growing : Cls K (adOf mg "Growing") := by rw [e_Growing]; exact ⟨p1_Growing, p2_Growing, p3_Growing, p4_Growing⟩
  have cl_Pairs : Cls K (adOf mg "Pairs") := by rw [e_Pairs]; exact ⟨p1_Pairs, p2_Pairs, p3_Pairs, p4_Pairs⟩
  have e_NoWay : adOf mg "NoWay" = X_NoWay := adOf_eq (PySem.W.mg_of X G ae_NoWay)
  refine ⟨PySem.W.fnOf "law" "law" (defArgs st_law) (defBody st_law) (defScope st_law) .none kV25 dc25 pm25 an25 cd25 ct25, fun s v => BindsTo.of_eq rfl, fun base _ _ => ?_⟩
  have fl : FlT LC (gmOf PySem.Challenge.pw_oddbases_k04_split_in_one_way w K mg base) := by
    intro w hw
    cases w with
    | plain x => exact ⟨cl_Plain, (by show PySem.W.findIn K (.ref (adOf mg "Plain")) _ = _; rw [e_Plain]; exact na_Plain)⟩
    | below x => exact ⟨cl_Below, (by show PySem.W.findIn K (.ref (adOf mg "Below")) _ = _; rw [e_Below]; exact na_Below)⟩
    | bal x => exact ⟨cl_Balanced, (by show PySem.W.findIn K (.ref (adOf mg "Balanced")) _ = _; rw [e_Balanced]; exact na_Balanced)⟩
    | grow x => exact ⟨cl_Growing, (by show PySem.W.findIn K (.ref (adOf mg "Growing")) _ = _; rw [e_Growing]; exact na_Growing)⟩
    | fall x => exact absurd hw (by show ¬ ("Falling" : Str) ∈ LC; decide)
    | pairs x => exact ⟨cl_Pairs, (by show PySem.W.findIn K (.ref (adOf mg "Pairs")) _ = _; rw [e_Pairs]; exact na_Pairs)⟩
  have T : Tx (gmOf PySem.Challenge.pw_oddbases_k04_split_in_one_way w K mg base) := ⟨PySem.W.mg_none_of X G z_abs, PySem.W.mg_none_of X G z_bool, PySem.W.mg_none_of X G z_int, PySem.W.mg_none_of X G z_isinstance, PySem.W.mg_none_of X G z_len, PySem.W.mg_none_of X G z_range, PySem.W.mg_none_of X G z_tuple, fl, ⟨⟨_, rfl, (by show PySem.W.excIn K (adOf mg "NoWay") _ _ = _; rw [e_NoWay]; exact eq_NoWay)⟩, adOf_mg (PySem.W.mg_of X G ae_NoWay), (by show PySem.W.keepIn K (.ref (adOf mg "NoWay")) = _; rw [e_NoWay]; exact ek_NoWay), (by show PySem.W.subIn K (.ref (adOf mg "NoWay")) _ = _; rw [e_NoWay]; exact eb_NoWay), (by show PySem.W.typeIn K (.ref (adOf mg "NoWay")) = _; rw [e_NoWay]; exact et_NoWay)⟩⟩
  have G_is_pair := ok_is_pair (Γ := gmOf PySem.Challenge.pw_oddbases_k04_split_in_one_way w K mg base) (k := 0) T F0
  have C_is_pair_ : Cal (gmOf PySem.Challenge.pw_oddbases_k04_split_in_one_way w K mg base) 1 "is_pair" 1 M_is_pair := ⟨_, _, _, rfl, G_is_pair, PySem.W.mg_of X G a0, F0.kp, b0⟩
  have G_look_at := ok_look_at (Γ := gmOf PySem.Challenge.pw_oddbases_k04_split_in_one_way w K mg base) (k := 0) T F1
  have C_look_at_ : Cal (gmOf PySem.Challenge.pw_oddbases_k04_split_in_one_way w K mg base) 1 "look_at" 3 M_look_at := ⟨_, _, _, rfl, G_look_at, PySem.W.mg_of X G a1, F1.kp, b1⟩
  have G_Way_low := fun (C : Str) (hC : C ∈ I_Way_low) => ok_Way_low (Γ := gmOf PySem.Challenge.pw_oddbases_k04_split_in_one_way w K mg base) (k := 0) T F2 C hC
  have G_Balanced_low := ok_Balanced_low (Γ := gmOf PySem.Challenge.pw_oddbases_k04_split_in_one_way w K mg base) (k := 0) T F3
  have G_Plain_ratio := ok_Plain_ratio (Γ := gmOf PySem.Challenge.pw_oddbases_k04_split_in_one_way w K mg base) (k := 0) T F4
  have G_Below_ratio := ok_Below_ratio (Γ := gmOf PySem.Challenge.pw_oddbases_k04_split_in_one_way w K mg base) (k := 0) T F5
  have G_Balanced_ratio := ok_Balanced_ratio (Γ := gmOf PySem.Challenge.pw_oddbases_k04_split_in_one_way w K mg base) (k := 0) T F6
  have G_Growing_ratio := ok_Growing_ratio (Γ := gmOf PySem.Challenge.pw_oddbases_k04_split_in_one_way w K mg base) (k := 0) T F7
  have G_Pairs_ratio := ok_Pairs_ratio (Γ := gmOf PySem.Challenge.pw_oddbases_k04_split_in_one_way w K mg base) (k := 0) T F8
  have G__law_whole := ok__law_whole (Γ := gmOf PySem.Challenge.pw_oddbases_k04_split_in_one_way w K mg base) (k := 0) T F9
  have C__law_whole_ : Cal (gmOf PySem.Challenge.pw_oddbases_k04_split_in_one_way w K mg base) 1 "_law_whole" 1 M__law_whole := ⟨_, _, _, rfl, G__law_whole, PySem.W.mg_of X G a9, F9.kp, b9⟩
  have G__law_bounds := ok__law_bounds (Γ := gmOf PySem.Challenge.pw_oddbases_k04_split_in_one_way w K mg base) (k := 0) T F10
  have C__law_bounds_ : Cal (gmOf PySem.Challenge.pw_oddbases_k04_split_in_one_way w K mg base) 1 "_law_bounds" 3 M__law_bounds := ⟨_, _, _, rfl, G__law_bounds, PySem.W.mg_of X G a10, F10.kp, b10⟩
  have G__law_number := ok__law_number (Γ := gmOf PySem.Challenge.pw_oddbases_k04_split_in_one_way w K mg base) (k := 0) T F11
  have C__law_number_ : Cal (gmOf PySem.Challenge.pw_oddbases_k04_split_in_one_way w K mg base) 1 "_law_number" 1 M__law_number := ⟨_, _, _, rfl, G__law_number, PySem.W.mg_of X G a11, F11.kp, b11⟩
  have G_as_pair := ok_as_pair (Γ := gmOf PySem.Challenge.pw_oddbases_k04_split_in_one_way w K mg base) (k := 1) T F12 (C_is_pair_.mono (by decide))
  have C_as_pair_ : Cal (gmOf PySem.Challenge.pw_oddbases_k04_split_in_one_way w K mg base) 2 "as_pair" 1 M_as_pair := ⟨_, _, _, rfl, G_as_pair, PySem.W.mg_of X G a12, F12.kp, b12⟩
  have W_ratio : WM LC (gmOf PySem.Challenge.pw_oddbases_k04_split_in_one_way w K mg base) 1 "ratio" 2 mw_ratio := by
    intro w hw
    cases w with
    | plain x => exact ⟨_, _, _, rfl, (G_Plain_ratio).mono (by decide), cl_Plain, ⟨(by show PySem.W.findIn K (.ref (adOf mg "Plain")) _ = _; rw [e_Plain]; exact fm_Plain_ratio), fn_Plain_ratio, F4.kp⟩, b4⟩
    | below x => exact ⟨_, _, _, rfl, (G_Below_ratio).mono (by decide), cl_Below, ⟨(by show PySem.W.findIn K (.ref (adOf mg "Below")) _ = _; rw [e_Below]; exact fm_Below_ratio), fn_Below_ratio, F5.kp⟩, b5⟩
    | bal x => exact ⟨_, _, _, rfl, (G_Balanced_ratio).mono (by decide), cl_Balanced, ⟨(by show PySem.W.findIn K (.ref (adOf mg "Balanced")) _ = _; rw [e_Balanced]; exact fm_Balanced_ratio), fn_Balanced_ratio, F6.kp⟩, b6⟩
    | grow x => exact ⟨_, _, _, rfl, (G_Growing_ratio).mono (by decide), cl_Growing, ⟨(by show PySem.W.findIn K (.ref (adOf mg "Growing")) _ = _; rw [e_Growing]; exact fm_Growing_ratio), fn_Growing_ratio, F7.kp⟩, b7⟩
    | fall x => exact absurd hw (by show ¬ ("Falling" : Str) ∈ LC; decide)
    | pairs x => exact ⟨_, _, _, rfl, (G_Pairs_ratio).mono (by decide), cl_Pairs, ⟨(by show PySem.W.findIn K (.ref (adOf mg "Pairs")) _ = _; rw [e_Pairs]; exact fm_Pairs_ratio), fn_Pairs_ratio, F8.kp⟩, b8⟩
  have W_low : WM LC (gmOf PySem.Challenge.pw_oddbases_k04_split_in_one_way w K mg base) 1 "low" 2 mw_low := by
    intro w hw
    cases w with
    | plain x => exact ⟨_, _, _, rfl, (G_Way_low "Plain" (by decide)).mono (by decide), cl_Plain, ⟨(by show PySem.W.findIn K (.ref (adOf mg "Plain")) _ = _; rw [e_Plain]; exact fm_Plain_low), fn_Plain_low, F2.kp⟩, b2⟩
    | below x => exact ⟨_, _, _, rfl, (G_Way_low "Below" (by decide)).mono (by decide), cl_Below, ⟨(by show PySem.W.findIn K (.ref (adOf mg "Below")) _ = _; rw [e_Below]; exact fm_Below_low), fn_Below_low, F2.kp⟩, b2⟩
    | bal x => exact ⟨_, _, _, rfl, (G_Balanced_low).mono (by decide), cl_Balanced, ⟨(by show PySem.W.findIn K (.ref (adOf mg "Balanced")) _ = _; rw [e_Balanced]; exact fm_Balanced_low), fn_Balanced_low, F3.kp⟩, b3⟩
    | grow x => exact ⟨_, _, _, rfl, (G_Way_low "Growing" (by decide)).mono (by decide), cl_Growing, ⟨(by show PySem.W.findIn K (.ref (adOf mg "Growing")) _ = _; rw [e_Growing]; exact fm_Growing_low), fn_Growing_low, F2.kp⟩, b2⟩
    | fall x => exact absurd hw (by show ¬ ("Falling" : Str) ∈ LC; decide)
    | pairs x => exact ⟨_, _, _, rfl, (G_Way_low "Pairs" (by decide)).mono (by decide), cl_Pairs, ⟨(by show PySem.W.findIn K (.ref (adOf mg "Pairs")) _ = _; rw [e_Pairs]; exact fm_Pairs_low), fn_Pairs_low, F2.kp⟩, b2⟩
  have G_Way_split := fun (C : Str) (hC : C ∈ I_Way_split) => ok_Way_split (Γ := gmOf PySem.Challenge.pw_oddbases_k04_split_in_one_way w K mg base) (k := 1) T F13 C hC (W_ratio.mono (by decide)) (W_low.mono (by decide))
  have G__law_pair := ok__law_pair (Γ := gmOf PySem.Challenge.pw_oddbases_k04_split_in_one_way w K mg base) (k := 1) T F14 (C__law_whole_.mono (by decide))
  have C__law_pair_ : Cal (gmOf PySem.Challenge.pw_oddbases_k04_split_in_one_way w K mg base) 2 "_law_pair" 1 M__law_pair := ⟨_, _, _, rfl, G__law_pair, PySem.W.mg_of X G a14, F14.kp, b14⟩
  have G_Plain___init__ := ok_Plain___init__ (Γ := gmOf PySem.Challenge.pw_oddbases_k04_split_in_one_way w K mg base) (k := 1) T F15 (C_look_at_.mono (by decide))
  have C_Plain_ : CalC (gmOf PySem.Challenge.pw_oddbases_k04_split_in_one_way w K mg base) 2 "Plain" "base" 2 60 := ⟨_, _, _, G_Plain___init__, (by show Mk K (adOf mg "Plain") _; rw [e_Plain]; exact ⟨cm_Plain, ci_Plain, cf_Plain, ck_Plain⟩), adOf_mg (PySem.W.mg_of X G ac_Plain), b15⟩
  have G_Below___init__ := ok_Below___init__ (Γ := gmOf PySem.Challenge.pw_oddbases_k04_split_in_one_way w K mg base) (k := 1) T F16 (C_look_at_.mono (by decide))
  have C_Below_ : CalC (gmOf PySem.Challenge.pw_oddbases_k04_split_in_one_way w K mg base) 2 "Below" "base" 2 60 := ⟨_, _, _, G_Below___init__, (by show Mk K (adOf mg "Below") _; rw [e_Below]; exact ⟨cm_Below, ci_Below, cf_Below, ck_Below⟩), adOf_mg (PySem.W.mg_of X G ac_Below), b16⟩
  have G_Balanced___init__ := ok_Balanced___init__ (Γ := gmOf PySem.Challenge.pw_oddbases_k04_split_in_one_way w K mg base) (k := 1) T F17 (C_look_at_.mono (by decide))
  have C_Balanced_ : CalC (gmOf PySem.Challenge.pw_oddbases_k04_split_in_one_way w K mg base) 2 "Balanced" "half" 1 30 := ⟨_, _, _, G_Balanced___init__, (by show Mk K (adOf mg "Balanced") _; rw [e_Balanced]; exact ⟨cm_Balanced, ci_Balanced, cf_Balanced, ck_Balanced⟩), adOf_mg (PySem.W.mg_of X G ac_Balanced), b17⟩
  have G_Growing___init__ := ok_Growing___init__ (Γ := gmOf PySem.Challenge.pw_oddbases_k04_split_in_one_way w K mg base) (k := 1) T F18 (C_look_at_.mono (by decide))
  have C_Growing_ : CalC (gmOf PySem.Challenge.pw_oddbases_k04_split_in_one_way w K mg base) 2 "Growing" "first" 2 60 := ⟨_, _, _, G_Growing___init__, (by show Mk K (adOf mg "Growing") _; rw [e_Growing]; exact ⟨cm_Growing, ci_Growing, cf_Growing, ck_Growing⟩), adOf_mg (PySem.W.mg_of X G ac_Growing), b18⟩
  have G_Pairs___init__ := ok_Pairs___init__ (Γ := gmOf PySem.Challenge.pw_oddbases_k04_split_in_one_way w K mg base) (k := 1) T F19 (C_look_at_.mono (by decide))
  have C_Pairs_ : CalC (gmOf PySem.Challenge.pw_oddbases_k04_split_in_one_way w K mg base) 2 "Pairs" "most" 1 9 := ⟨_, _, _, G_Pairs___init__, (by show Mk K (adOf mg "Pairs") _; rw [e_Pairs]; exact ⟨cm_Pairs, ci_Pairs, cf_Pairs, ck_Pairs⟩), adOf_mg (PySem.W.mg_of X G ac_Pairs), b19⟩
  have G_added := ok_added (Γ := gmOf PySem.Challenge.pw_oddbases_k04_split_in_one_way w K mg base) (k := 2) T F20 (C_as_pair_.mono (by decide)) (C_is_pair_.mono (by decide))
  have C_added_ : Cal (gmOf PySem.Challenge.pw_oddbases_k04_split_in_one_way w K mg base) 3 "added" 2 M_added := ⟨_, _, _, rfl, G_added, PySem.W.mg_of X G a20, F20.kp, b20⟩
  have G_multiplied := ok_multiplied (Γ := gmOf PySem.Challenge.pw_oddbases_k04_split_in_one_way w K mg base) (k := 2) T F21 (C_as_pair_.mono (by decide)) (C_is_pair_.mono (by decide))
  have C_multiplied_ : Cal (gmOf PySem.Challenge.pw_oddbases_k04_split_in_one_way w K mg base) 3 "multiplied" 2 M_multiplied := ⟨_, _, _, rfl, G_multiplied, PySem.W.mg_of X G a21, F21.kp, b21⟩
  have G_Pairs_split := ok_Pairs_split (Γ := gmOf PySem.Challenge.pw_oddbases_k04_split_in_one_way w K mg base) (k := 3) T F22 (C_multiplied_.mono (by decide)) (C_added_.mono (by decide)) (C_as_pair_.mono (by decide))
  have G__law_way := ok__law_way (Γ := gmOf PySem.Challenge.pw_oddbases_k04_split_in_one_way w K mg base) (k := 2) T F23 (C_Pairs_.mono (by decide)) (C_Growing_.mono (by decide)) (C_Balanced_.mono (by decide)) (C_Below_.mono (by decide)) (C_Plain_.mono (by decide))
  have C__law_way_ : Cal (gmOf PySem.Challenge.pw_oddbases_k04_split_in_one_way w K mg base) 4 "_law_way" 2 M__law_way := ⟨_, _, _, rfl, G__law_way, PySem.W.mg_of X G a23, F23.kp, b23⟩
  have W_split : WM LC (gmOf PySem.Challenge.pw_oddbases_k04_split_in_one_way w K mg base) 4 "split" 3 mw_split := by
    intro w hw
    cases w with
    | plain x => exact ⟨_, _, _, rfl, (G_Way_split "Plain" (by decide)).mono (by decide), cl_Plain, ⟨(by show PySem.W.findIn K (.ref (adOf mg "Plain")) _ = _; rw [e_Plain]; exact fm_Plain_split), fn_Plain_split, F13.kp⟩, b13⟩
    | below x => exact ⟨_, _, _, rfl, (G_Way_split "Below" (by decide)).mono (by decide), cl_Below, ⟨(by show PySem.W.findIn K (.ref (adOf mg "Below")) _ = _; rw [e_Below]; exact fm_Below_split), fn_Below_split, F13.kp⟩, b13⟩
    | bal x => exact ⟨_, _, _, rfl, (G_Way_split "Balanced" (by decide)).mono (by decide), cl_Balanced, ⟨(by show PySem.W.findIn K (.ref (adOf mg "Balanced")) _ = _; rw [e_Balanced]; exact fm_Balanced_split), fn_Balanced_split, F13.kp⟩, b13⟩
    | grow x => exact ⟨_, _, _, rfl, (G_Way_split "Growing" (by decide)).mono (by decide), cl_Growing, ⟨(by show PySem.W.findIn K (.ref (adOf mg "Growing")) _ = _; rw [e_Growing]; exact fm_Growing_split), fn_Growing_split, F13.kp⟩, b13⟩
    | fall x => exact absurd hw (by show ¬ ("Falling" : Str) ∈ LC; decide)
    | pairs x => exact ⟨_, _, _, rfl, (G_Pairs_split).mono (by decide), cl_Pairs, ⟨(by show PySem.W.findIn K (.ref (adOf mg "Pairs")) _ = _; rw [e_Pairs]; exact fm_Pairs_split), fn_Pairs_split, F22.kp⟩, b22⟩
  have G__law_split_right := ok__law_split_right (Γ := gmOf PySem.Challenge.pw_oddbases_k04_split_in_one_way w K mg base) (k := 4) T F24 (C__law_pair_.mono (by decide)) (C__law_whole_.mono (by decide)) (C__law_bounds_.mono (by decide)) (W_split.mono (by decide))
  have C__law_split_right_ : Cal (gmOf PySem.Challenge.pw_oddbases_k04_split_in_one_way w K mg base) 5 "_law_split_right" 5 M__law_split_right := ⟨_, _, _, rfl, G__law_split_right, PySem.W.mg_of X G a24, F24.kp, b24⟩
  have G_law := ok_law (Γ := gmOf PySem.Challenge.pw_oddbases_k04_split_in_one_way w K mg base) (k := 5) T F25 (C__law_bounds_.mono (by decide)) (C__law_split_right_.mono (by decide)) (C__law_number_.mono (by decide)) (C__law_way_.mono (by decide)) (W_split.mono (by decide))
  exact law_ok rfl G_law fun ns h1 h2 => m_law_ok ns h1 h2
end My
open PySem PySem.W PyProof.Rows
set_option maxHeartbeats 0 in
theorem PySem.Challenge.cw_oddbases_k04_split_in_one_way_holds : PySem.Challenge.rw_oddbases_k04_split_in_one_way.Holds := by
  w_on; o_law; k_head; (case hw => w_witness2)
  k_fill
  refine L2.walk_ofB (l := PySem.Challenge.rw_oddbases_k04_split_in_one_way) (n := 63) (k := 6) (x := "_law_script") (CX := fun w => L2.CX PySem.Challenge.pw_oddbases_k04_split_in_one_way w) (sp := fun w => DD.spLaw _ 63) rfl (by decide) rfl ⟨rfl, by decide, by decide⟩ (fun w h Y => PySem.W.kIn_of Y) ?F (fun _ _ a ns hl hb _ hS => ⟨a, ns, rfl, hS, hl, hb, fun _ => rfl⟩) (fun _ _ _ _ _ h => DD.noCX h)
  case F =>
    intro w mg fa h KX G hmg
    refine' My.all_mk KX G hmg ?ac_Plain ?ac_Below ?ac_Balanced ?ac_Growing ?ac_Pairs ?p1_Plain ?p2_Plain ?p3_Plain ?p4_Plain ?na_Plain ?p1_Below ?p2_Below ?p3_Below ?p4_Below ?na_Below ?p1_Balanced ?p2_Balanced ?p3_Balanced ?p4_Balanced ?na_Balanced ?p1_Growing ?p2_Growing ?p3_Growing ?p4_Growing ?na_Growing ?p1_Pairs ?p2_Pairs ?p3_Pairs ?p4_Pairs ?na_Pairs ?cm_Plain ?ci_Plain ?cf_Plain ?ck_Plain ?cm_Below ?ci_Below ?cf_Below ?ck_Below ?cm_Balanced ?ci_Balanced ?cf_Balanced ?ck_Balanced ?cm_Growing ?ci_Growing ?cf_Growing ?ck_Growing ?cm_Pairs ?ci_Pairs ?cf_Pairs ?ck_Pairs ?fm_Plain_ratio ?fn_Plain_ratio ?fm_Below_ratio ?fn_Below_ratio ?fm_Balanced_ratio ?fn_Balanced_ratio ?fm_Growing_ratio ?fn_Growing_ratio ?fm_Pairs_ratio ?fn_Pairs_ratio ?fm_Plain_low ?fn_Plain_low ?fm_Below_low ?fn_Below_low ?fm_Balanced_low ?fn_Balanced_low ?fm_Growing_low ?fn_Growing_low ?fm_Pairs_low ?fn_Pairs_low ?fm_Plain_split ?fn_Plain_split ?fm_Below_split ?fn_Below_split ?fm_Balanced_split ?fn_Balanced_split ?fm_Growing_split ?fn_Growing_split ?fm_Pairs_split ?fn_Pairs_split ?ae_NoWay ?eq_NoWay ?ek_NoWay ?eb_NoWay ?et_NoWay ?a0 ?l0 ?c0 ?k0 ?a1 ?l1 ?c1 ?k1 ?l2 ?c2 ?k2 ?l3 ?c3 ?k3 ?l4 ?c4 ?k4 ?l5 ?c5 ?k5 ?l6 ?c6 ?k6 ?l7 ?c7 ?k7 ?l8 ?c8 ?k8 ?a9 ?l9 ?c9 ?k9 ?a10 ?l10 ?c10 ?k10 ?a11 ?l11 ?c11 ?k11 ?a12 ?l12 ?c12 ?k12 ?l13 ?c13 ?k13 ?a14 ?l14 ?c14 ?k14 ?l15 ?c15 ?k15 ?l16 ?c16 ?k16 ?l17 ?c17 ?k17 ?l18 ?c18 ?k18 ?l19 ?c19 ?k19 ?a20 ?l20 ?c20 ?k20 ?a21 ?l21 ?c21 ?k21 ?l22 ?c22 ?k22 ?a23 ?l23 ?c23 ?k23 ?a24 ?l24 ?c24 ?k24 ?a25 ?l25 ?c25 ?k25 ?z_abs ?z_bool ?z_int ?z_isinstance ?z_len ?z_range ?z_tuple
    (case ac_Plain => k_is)
    (case ac_Below => k_is)
    (case ac_Balanced => k_is)
    (case ac_Growing => k_is)
    (case ac_Pairs => k_is)
    (case p1_Plain => k_is)
    (case p2_Plain => k_is)
    (case p3_Plain => k_is)
    (case p4_Plain => k_is)
    (case na_Plain => k_is)
    (case p1_Below => k_is)
    (case p2_Below => k_is)
    (case p3_Below => k_is)
    (case p4_Below => k_is)
    (case na_Below => k_is)
    (case p1_Balanced => k_is)
    (case p2_Balanced => k_is)
    (case p3_Balanced => k_is)
    (case p4_Balanced => k_is)
    (case na_Balanced => k_is)
    (case p1_Growing => k_is)
    (case p2_Growing => k_is)
    (case p3_Growing => k_is)
    (case p4_Growing => k_is)
    (case na_Growing => k_is)
    (case p1_Pairs => k_is)
    (case p2_Pairs => k_is)
    (case p3_Pairs => k_is)
    (case p4_Pairs => k_is)
    (case na_Pairs => k_is)
    (case cm_Plain => k_is)
    (case ci_Plain => k_is)
    (case cf_Plain => k_is)
    (case ck_Plain => k_is)
    (case cm_Below => k_is)
    (case ci_Below => k_is)
    (case cf_Below => k_is)
    (case ck_Below => k_is)
    (case cm_Balanced => k_is)
    (case ci_Balanced => k_is)
    (case cf_Balanced => k_is)
    (case ck_Balanced => k_is)
    (case cm_Growing => k_is)
    (case ci_Growing => k_is)
    (case cf_Growing => k_is)
    (case ck_Growing => k_is)
    (case cm_Pairs => k_is)
    (case ci_Pairs => k_is)
    (case cf_Pairs => k_is)
    (case ck_Pairs => k_is)
    (case fm_Plain_ratio => k_is)
    (case fn_Plain_ratio => k_is)
    (case fm_Below_ratio => k_is)
    (case fn_Below_ratio => k_is)
    (case fm_Balanced_ratio => k_is)
    (case fn_Balanced_ratio => k_is)
    (case fm_Growing_ratio => k_is)
    (case fn_Growing_ratio => k_is)
    (case fm_Pairs_ratio => k_is)
    (case fn_Pairs_ratio => k_is)
    (case fm_Plain_low => k_is)
    (case fn_Plain_low => k_is)
    (case fm_Below_low => k_is)
    (case fn_Below_low => k_is)
    (case fm_Balanced_low => k_is)
    (case fn_Balanced_low => k_is)
    (case fm_Growing_low => k_is)
    (case fn_Growing_low => k_is)
    (case fm_Pairs_low => k_is)
    (case fn_Pairs_low => k_is)
    (case fm_Plain_split => k_is)
    (case fn_Plain_split => k_is)
    (case fm_Below_split => k_is)
    (case fn_Below_split => k_is)
    (case fm_Balanced_split => k_is)
    (case fn_Balanced_split => k_is)
    (case fm_Growing_split => k_is)
    (case fn_Growing_split => k_is)
    (case fm_Pairs_split => k_is)
    (case fn_Pairs_split => k_is)
    (case ae_NoWay => k_is)
    (case eq_NoWay => k_exc)
    (case ek_NoWay => k_is)
    (case eb_NoWay => k_is)
    (case et_NoWay => k_is)
    (case a0 => k_is)
    (case l0 => k_is)
    (case c0 => k_is)
    (case k0 => k_is)
    (case a1 => k_is)
    (case l1 => k_is)
    (case c1 => k_is)
    (case k1 => k_is)
    (case l2 => k_is)
    (case c2 => k_is)
    (case k2 => k_is)
    (case l3 => k_is)
    (case c3 => k_is)
    (case k3 => k_is)
    (case l4 => k_is)
    (case c4 => k_is)
    (case k4 => k_is)
    (case l5 => k_is)
    (case c5 => k_is)
    (case k5 => k_is)
    (case l6 => k_is)
    (case c6 => k_is)
    (case k6 => k_is)
    (case l7 => k_is)
    (case c7 => k_is)
    (case k7 => k_is)
    (case l8 => k_is)
    (case c8 => k_is)
    (case k8 => k_is)
    (case a9 => k_is)
    (case l9 => k_is)
    (case c9 => k_is)
    (case k9 => k_is)
    (case a10 => k_is)
    (case l10 => k_is)
    (case c10 => k_is)
    (case k10 => k_is)
    (case a11 => k_is)
    (case l11 => k_is)
    (case c11 => k_is)
    (case k11 => k_is)
    (case a12 => k_is)
    (case l12 => k_is)
    (case c12 => k_is)
    (case k12 => k_is)
    (case l13 => k_is)
    (case c13 => k_is)
    (case k13 => k_is)
    (case a14 => k_is)
    (case l14 => k_is)
    (case c14 => k_is)
    (case k14 => k_is)
    (case l15 => k_is)
    (case c15 => k_is)
    (case k15 => k_is)
    (case l16 => k_is)
    (case c16 => k_is)
    (case k16 => k_is)
    (case l17 => k_is)
    (case c17 => k_is)
    (case k17 => k_is)
    (case l18 => k_is)
    (case c18 => k_is)
    (case k18 => k_is)
    (case l19 => k_is)
    (case c19 => k_is)
    (case k19 => k_is)
    (case a20 => k_is)
    (case l20 => k_is)
    (case c20 => k_is)
    (case k20 => k_is)
    (case a21 => k_is)
    (case l21 => k_is)
    (case c21 => k_is)
    (case k21 => k_is)
    (case l22 => k_is)
    (case c22 => k_is)
    (case k22 => k_is)
    (case a23 => k_is)
    (case l23 => k_is)
    (case c23 => k_is)
    (case k23 => k_is)
    (case a24 => k_is)
    (case l24 => k_is)
    (case c24 => k_is)
    (case k24 => k_is)
    (case a25 => k_is)
    (case l25 => k_is)
    (case c25 => k_is)
    (case k25 => k_is)
    (case z_abs => k_is)
    (case z_bool => k_is)
    (case z_int => k_is)
    (case z_isinstance => k_is)
    (case z_len => k_is)
    (case z_range => k_is)
    (case z_tuple => k_is)


