import PyProof.Rows.All
import Wide.All
import OpenK.AllK
import Wide.FinOn
import HandS.ForMost
import HandS.ForExc
import HandS.Defaults
import HandS.TupAny
import HandS.IsInst
import HandS.Wide
import HandS.HeadHook2
import HandS.Head2
import HandS.HeadWalk
import HandS.HeadEnd
import HandS.Walk
import PySem.Challenge.RW_layerseen_k02_names_and_words
set_option Elab.async false
set_option linter.all false
set_option maxRecDepth 100000
set_option maxHeartbeats 4000000
namespace DL
open PySem L2

/-- what a value is worth, without addresses -/
inductive D where
  | non
  | bl (b : Bool)
  | int (i : Int)
  | str (x : Str)
  | lst (xs : List D)
  | tup (xs : List D)
  | dct (ks : List Key) (vs : List D)
  | ins (C : Addr) (ns : List Str) (vs : List D)
  | raw (v : V)
  /-- the script -/
  | scr (ns : List Int)

/-- what stands at the addresses that may change -/
abbrev MS := Addr → Option D

/-- an object under the lock that a loop over a dict lays -/
def Lk : HO → HO
  | .frz ob (.dK kvs) => .dK kvs
  | o => o
def KL (K : PySem.W.Frag) (a : Addr) (xs : List V) : Prop :=
  ∃ (o : Obj) (its : Array Value) (n : Nat), K.lookup a = some o ∧ o.cls = .type "list" ∧ o.dict = none ∧ o.data = .seq its n ∧ its.size ≤ sizeLine ∧ Vals xs its.toList
def KT (K : PySem.W.Frag) (a : Addr) (xs : List V) : Prop :=
  ∃ (o : Obj) (its : Array Value) (n : Nat), K.lookup a = some o ∧ o.cls = .type "tuple" ∧ o.data = .seq its n ∧ its.size ≤ sizeLine ∧ Vals xs its.toList

mutual
inductive DR (K : PySem.W.Frag) (M : MS) (H : Hp) : V → D → Prop
  | non : DR K M H .non .non
  | bl (b : Bool) : DR K M H (.bl b) (.bl b)
  | int (i : Int) : DR K M H (.int i) (.int i)
  | str (x : Str) : DR K M H (.str x) (.str x)
  | lst {a : Addr} {xs : List V} {ds : List D} : M a = none → H a = some (.lst xs) → DRs K M H xs ds → DR K M H (.ref a) (.lst ds)
  | tup {a : Addr} {xs : List V} {ds : List D} : M a = none → H a = some (.tup xs) → DRs K M H xs ds → DR K M H (.ref a) (.tup ds)
  | tupK {a : Addr} {xs : List V} {ds : List D} : KT K a xs → DRs K M H xs ds → DR K M H (.ref a) (.tup ds)
  | dct {a : Addr} {o : HO} {kvs : List (Key × V)} {ks : List Key} {ds : List D} : M a = none → H a = some o → Lk o = .dK kvs → kvs.map (·.1) = ks → DRs K M H (kvs.map (·.2)) ds → DR K M H (.ref a) (.dct ks ds)
  | ins {a C dx : Addr} {fs : List (Str × V)} {ns : List Str} {ds : List D} : M a = none → H a = some (.ins C dx fs) → fs.map (·.1) = ns → DRs K M H (fs.map (·.2)) ds → DR K M H (.ref a) (.ins C ns ds)
  | raw (v : V) : DR K M H v (.raw v)
  | scr {a : Addr} {ns : List Int} : ((M a = none ∧ ∃ ob, H a = some (.frz ob (.lst (ns.map V.int)))) ∨ KL K a (ns.map V.int)) → DR K M H (.ref a) (.scr ns)
inductive DRs (K : PySem.W.Frag) (M : MS) (H : Hp) : List V → List D → Prop
  | nil : DRs K M H [] []
  | cons {v : V} {vs : List V} {d : D} {ds : List D} : DR K M H v d → DRs K M H vs ds → DRs K M H (v :: vs) (d :: ds)
end

/-- from (M, H) to (M', H'): what could not change stands as it stood, and cannot change now -/
def Tr (M : MS) (H : Hp) (M' : MS) (H' : Hp) : Prop := ∀ a o, M a = none → H a = some o → M' a = none ∧ ∃ o', H' a = some o' ∧ Lk o' = Lk o
theorem Tr.refl (M : MS) (H : Hp) : Tr M H M H := fun _ o h1 h2 => ⟨h1, o, h2, rfl⟩
theorem Tr.trans {M M1 M2 : MS} {H H1 H2 : Hp} (a : Tr M H M1 H1) (b : Tr M1 H1 M2 H2) : Tr M H M2 H2 := fun x o h1 h2 => by
  obtain ⟨q1, o1, q2, q3⟩ := a x o h1 h2
  obtain ⟨r1, o2, r2, r3⟩ := b x o1 q1 q2
  exact ⟨r1, o2, r2, r3.trans q3⟩
/-- what is no locked dict stands by its very object -/
theorem lk_plain {o u : HO} (h : Lk o = u) (n : ∀ kvs, u ≠ .dK kvs) : o = u := by
  unfold Lk at h
  split at h
  · exact absurd h.symm (n _)
  · exact h

section
variable {K : PySem.W.Frag} {M M' : MS} {H H' : Hp}
theorem Tr.is (t : Tr M H M' H') {a : Addr} {u : HO} (h : M a = none) (r : H a = some u) (e : Lk u = u) (n : ∀ kvs, u ≠ .dK kvs) : M' a = none ∧ H' a = some u := by
  obtain ⟨q1, o, q2, q3⟩ := t a u h r
  exact ⟨q1, by rw [q2, lk_plain (q3.trans e) n]⟩
mutual
theorem DR.mono (t : Tr M H M' H') : ∀ {v : V} {d : D}, DR K M H v d → DR K M' H' v d
  | _, _, .non => .non
  | _, _, .bl b => .bl b
  | _, _, .int i => .int i
  | _, _, .str x => .str x
  | _, _, .lst h r q => .lst (t.is h r rfl (fun _ => nofun)).1 (t.is h r rfl (fun _ => nofun)).2 (DRs.mono t q)
  | _, _, .tup h r q => .tup (t.is h r rfl (fun _ => nofun)).1 (t.is h r rfl (fun _ => nofun)).2 (DRs.mono t q)
  | _, _, .tupK r q => .tupK r (DRs.mono t q)
  | _, _, .dct h r e1 e q => .dct (t _ _ h r).1 (t _ _ h r).2.choose_spec.1 ((t _ _ h r).2.choose_spec.2.trans e1) e (DRs.mono t q)
  | _, _, .ins h r e q => .ins (t.is h r rfl (fun _ => nofun)).1 (t.is h r rfl (fun _ => nofun)).2 e (DRs.mono t q)
  | _, _, .raw v => .raw v
  | _, _, .scr (.inl ⟨h, ob, r⟩) => .scr (.inl ⟨(t.is h r rfl (fun _ => nofun)).1, ob, (t.is h r rfl (fun _ => nofun)).2⟩)
  | _, _, .scr (.inr h) => .scr (.inr h)
theorem DRs.mono (t : Tr M H M' H') : ∀ {vs : List V} {ds : List D}, DRs K M H vs ds → DRs K M' H' vs ds
  | _, _, .nil => .nil
  | _, _, .cons a b => .cons (DR.mono t a) (DRs.mono t b)
end
theorem DRs.length : ∀ {vs : List V} {ds : List D}, DRs K M H vs ds → vs.length = ds.length
  | _, _, .nil => rfl
  | _, _, .cons _ b => by rw [List.length_cons, List.length_cons, DRs.length b]
theorem DRs.get : ∀ {vs : List V} {ds : List D} {i : Nat} {d : D}, DRs K M H vs ds → ds[i]? = some d → ∃ v, vs[i]? = some v ∧ DR K M H v d
  | _, _, _, _, .nil, e => by simp at e
  | _, _, 0, _, .cons a _, e => by
    simp only [List.getElem?_cons_zero, Option.some.injEq] at e
    subst e
    exact ⟨_, rfl, a⟩
  | _, _, i + 1, _, .cons _ b, e => by
    rw [List.getElem?_cons_succ] at e
    obtain ⟨v, h1, h2⟩ := DRs.get b e
    exact ⟨v, by rw [List.getElem?_cons_succ]; exact h1, h2⟩
theorem DRs.append : ∀ {vs ws : List V} {ds es : List D}, DRs K M H vs ds → DRs K M H ws es → DRs K M H (vs ++ ws) (ds ++ es)
  | _, _, _, _, .nil, h => h
  | _, _, _, _, .cons a b, h => .cons a (DRs.append b h)
theorem DRs.take : ∀ {vs : List V} {ds : List D} (n : Nat), DRs K M H vs ds → DRs K M H (vs.take n) (ds.take n)
  | _, _, 0, _ => by simpa using DRs.nil
  | _, _, n + 1, .nil => by simpa using DRs.nil
  | _, _, n + 1, .cons a b => by simpa using DRs.cons a (DRs.take n b)
theorem DRs.drop : ∀ {vs : List V} {ds : List D} (n : Nat), DRs K M H vs ds → DRs K M H (vs.drop n) (ds.drop n)
  | _, _, 0, h => by simpa using h
  | _, _, n + 1, .nil => by simpa using DRs.nil
  | _, _, n + 1, .cons _ b => by simpa using DRs.drop n b
theorem DRs.snoc {vs : List V} {ds : List D} {v : V} {d : D} (h : DRs K M H vs ds) (q : DR K M H v d) : DRs K M H (vs ++ [v]) (ds ++ [d]) := h.append (.cons q .nil)
theorem DRs.set {v : V} {d : D} (q : DR K M H v d) : ∀ {vs : List V} {ds : List D} (i : Nat), DRs K M H vs ds → DRs K M H (vs.set i v) (ds.set i d)
  | _, _, _, .nil => .nil
  | _, _, 0, .cons _ b => .cons q b
  | _, _, i + 1, .cons a b => .cons a (DRs.set q i b)

/-- what stands at one address that may change -/
def MR (K : PySem.W.Frag) (M : MS) (H : Hp) (a : Addr) : D → Prop
  | .lst ds => ∃ xs, H a = some (.lst xs) ∧ DRs K M H xs ds
  | .dct ks ds => ∃ kvs, H a = some (.dK kvs) ∧ kvs.map (·.1) = ks ∧ DRs K M H (kvs.map (·.2)) ds
  | .ins C ns ds => ∃ dx fs, H a = some (.ins C dx fs) ∧ fs.map (·.1) = ns ∧ DRs K M H (fs.map (·.2)) ds
  | _ => False
def Sto (K : PySem.W.Frag) (M : MS) (H : Hp) : Prop := ∀ a d, M a = some d → MR K M H a d
theorem Sto.there (s : Sto K M H) {a : Addr} {d : D} (h : M a = some d) : H a ≠ none := by
  have q := s a d h
  cases d with
  | lst ds => obtain ⟨_, e, _⟩ := q; rw [e]; exact nofun
  | dct ks ds => obtain ⟨_, e, _⟩ := q; rw [e]; exact nofun
  | ins C ns ds => obtain ⟨_, _, e, _⟩ := q; rw [e]; exact nofun
  | non => exact q.elim
  | bl _ => exact q.elim
  | int _ => exact q.elim
  | str _ => exact q.elim
  | tup _ => exact q.elim
  | raw _ => exact q.elim
  | scr _ => exact q.elim
theorem Sto.fresh (s : Sto K M H) {p : Addr} (h : H p = none) : M p = none := by
  cases e : M p with
  | none => rfl
  | some d => exact absurd h (s.there e)
theorem MR.keep (t : Tr M H M' H') {a : Addr} {d : D} (e : H' a = H a) (h : MR K M H a d) : MR K M' H' a d := by
  cases d with
  | lst ds => obtain ⟨xs, h1, h2⟩ := h; exact ⟨xs, e.trans h1, h2.mono t⟩
  | dct ks ds => obtain ⟨xs, h1, h3, h2⟩ := h; exact ⟨xs, e.trans h1, h3, h2.mono t⟩
  | ins C ns ds => obtain ⟨dx, xs, h1, h3, h2⟩ := h; exact ⟨dx, xs, e.trans h1, h3, h2.mono t⟩
  | non => exact h.elim
  | bl _ => exact h.elim
  | int _ => exact h.elim
  | str _ => exact h.elim
  | tup _ => exact h.elim
  | raw _ => exact h.elim
  | scr _ => exact h.elim

/-- a new object that will not change -/
theorem Tr.new {p : Addr} {o : HO} (h : H p = none) : Tr M H M (upd H p o) := fun a u h1 h2 => ⟨h1, u, by rw [upd_ne (ne_of_none h2 h)]; exact h2, rfl⟩
theorem Sto.new {p : Addr} {o : HO} (s : Sto K M H) (h : H p = none) : Sto K M (upd H p o) := fun a d e =>
  (s a d e).keep (Tr.new h) (upd_ne fun q => s.there e (q ▸ h))

/-- M with d at p -/
def put (M : MS) (p : Addr) (d : D) : MS := fun a => if a = p then some d else M a
def cut (M : MS) (p : Addr) : MS := fun a => if a = p then none else M a
theorem put_same {p : Addr} {d : D} : put M p d p = some d := if_pos rfl
theorem put_ne {p a : Addr} {d : D} (h : a ≠ p) : put M p d a = M a := if_neg h
theorem cut_same {p : Addr} : cut M p p = none := if_pos rfl
theorem cut_ne {p a : Addr} (h : a ≠ p) : cut M p a = M a := if_neg h
theorem put_put {p : Addr} {d e : D} : put (put M p d) p e = put M p e := by
  funext a
  unfold put
  split <;> rfl
theorem cut_put {p : Addr} {d : D} (h : M p = none) : cut (put M p d) p = M := by
  funext a
  unfold cut put
  split
  · rename_i e; rw [e, h]
  · rfl
/-- a new object that may change -/
theorem Tr.newM {p : Addr} {o : HO} {d : D} (h : H p = none) : Tr M H (put M p d) (upd H p o) := fun a u h1 h2 => by
  have n : a ≠ p := ne_of_none h2 h
  exact ⟨by rw [put_ne n]; exact h1, u, by rw [upd_ne n]; exact h2, rfl⟩
theorem Sto.newM {p : Addr} {o : HO} {d : D} (s : Sto K M H) (h : H p = none) (q : MR K (put M p d) (upd H p o) p d) : Sto K (put M p d) (upd H p o) := fun a e he => by
  by_cases n : a = p
  · subst n
    rw [put_same] at he
    cases he
    exact q
  · rw [put_ne n] at he
    exact (s a e he).keep (Tr.newM h) (upd_ne n)
/-- a change at p -/
theorem Tr.chg {p : Addr} {o : HO} {c d : D} (h : M p = some c) : Tr M H (put M p d) (upd H p o) := fun a u h1 h2 => by
  have n : a ≠ p := fun e => by rw [e, h] at h1; cases h1
  exact ⟨by rw [put_ne n]; exact h1, u, by rw [upd_ne n]; exact h2, rfl⟩
theorem Sto.chg {p : Addr} {o : HO} {c d : D} (s : Sto K M H) (h : M p = some c) (q : MR K (put M p d) (upd H p o) p d) : Sto K (put M p d) (upd H p o) := fun a e he => by
  by_cases n : a = p
  · subst n
    rw [put_same] at he
    cases he
    exact q
  · rw [put_ne n] at he
    exact (s a e he).keep (Tr.chg h) (upd_ne n)
/-- p changes no more -/
theorem Tr.frz {p : Addr} : Tr M H (cut M p) H := fun a u h1 h2 => ⟨by unfold cut; split <;> first | rfl | exact h1, u, h2, rfl⟩
theorem Sto.frz {p : Addr} (s : Sto K M H) : Sto K (cut M p) H := fun a d e => by
  have n : a ≠ p := fun q => by rw [q, cut_same] at e; cases e
  rw [cut_ne n] at e
  exact (s a d e).keep Tr.frz rfl
theorem DR.frz {p : Addr} {d : D} (s : Sto K M H) (h : M p = some d) : DR K (cut M p) H (.ref p) d := by
  have q := s p d h
  cases d with
  | lst ds => obtain ⟨xs, h1, h2⟩ := q; exact .lst cut_same h1 (h2.mono Tr.frz)
  | dct ks ds => obtain ⟨xs, h1, h3, h2⟩ := q; exact .dct cut_same h1 rfl h3 (h2.mono Tr.frz)
  | ins C ns ds => obtain ⟨dx, xs, h1, h3, h2⟩ := q; exact .ins cut_same h1 h3 (h2.mono Tr.frz)
  | non => exact q.elim
  | bl _ => exact q.elim
  | int _ => exact q.elim
  | str _ => exact q.elim
  | tup _ => exact q.elim
  | raw _ => exact q.elim
  | scr _ => exact q.elim
theorem SqT.ofK {a : Addr} {xs : List V} (h : KT K a xs) : SqT K H a xs := .inr h
theorem DR.lstE {v : V} {ds : List D} (h : DR K M H v (.lst ds)) : ∃ a xs, v = .ref a ∧ H a = some (.lst xs) ∧ DRs K M H xs ds := by
  cases h with
  | lst _ r q => exact ⟨_, _, rfl, r, q⟩
theorem DR.tupE {v : V} {ds : List D} (h : DR K M H v (.tup ds)) : ∃ a xs, v = .ref a ∧ SqT K H a xs ∧ DRs K M H xs ds := by
  cases h with
  | tup _ r q => exact ⟨_, _, rfl, .inl (.inl r), q⟩
  | tupK r q => exact ⟨_, _, rfl, .inr r, q⟩
end

/-! ### slots -/
abbrev Sl := List (Option D)
structure SlOk (K : PySem.W.Frag) (M : MS) (H : Hp) (σ : L2.St) (ρ : Sl) : Prop where
  len : σ.length = ρ.length
  at_ : ∀ (i : Nat) (d : D), ρ[i]? = some (some d) → ∃ v, σ[i]? = some (some v) ∧ DR K M H v d
section
variable {K : PySem.W.Frag} {M M' : MS} {H H' : Hp} {σ : L2.St} {ρ : Sl}
theorem SlOk.mono (t : Tr M H M' H') (s : SlOk K M H σ ρ) : SlOk K M' H' σ ρ := ⟨s.len, fun i d e => let ⟨v, h1, h2⟩ := s.at_ i d e; ⟨v, h1, h2.mono t⟩⟩
theorem SlOk.set (s : SlOk K M H σ ρ) {i : Nat} {v : V} {d : D} (h : DR K M H v d) : SlOk K M H (σ.set i (some v)) (ρ.set i (some d)) := by
  refine ⟨by rw [List.length_set, List.length_set]; exact s.len, fun j e he => ?_⟩
  by_cases n : i = j
  · subst n
    have hi : i < ρ.length := by
      have := (List.getElem?_eq_some_iff.mp he).1
      rw [List.length_set] at this
      exact this
    rw [List.getElem?_set_self hi] at he
    cases he
    exact ⟨v, List.getElem?_set_self (by rw [s.len]; exact hi), h⟩
  · rw [List.getElem?_set_ne n] at he
    rw [List.getElem?_set_ne n]
    exact s.at_ j e he
end
end DL

set_option Elab.async false
set_option linter.all false
set_option maxRecDepth 100000
set_option maxHeartbeats 4000000
namespace DL
open PySem PySem.Spec PyProof.Rows L2

/-! ### argument lists without stars -/
def notStar : Expr → Bool
  | .Starred _ _ => false
  | _ => true
theorem se_of {e : Expr} {es : List Expr} {env : Env} (h : notStar e = true) : starEach (e :: es) env = (false, eval e env) :: starEach es env := by
  cases e <;> first | rfl | cases h
theorem sa_of : ∀ {es : List Expr} {env : Env} {pos : Pos}, es.all notStar = true → (backTo pos (starEach es env)).any (·.1) = false
  | [], _, _, _ => rfl
  | e :: es, env, pos, h => by
    rw [List.all_cons, Bool.and_eq_true] at h
    rw [se_of h.1]
    have q := sa_of (env := env) (pos := pos) h.2
    unfold backTo at q ⊢
    simp only [List.map_cons, List.any_cons, Bool.false_or] at q ⊢
    exact q

/-! ### the weakest readings -/
def wE (X : Cx) (e : Expr) : TE := fun σ H Q => ∀ pins s, Inv X pins σ H s → wpAny (model X.prog X.w) X.A (eval e X.env) (EP X pins σ Q) X.xe s
def wT (X : Cx) (e : Expr) : TT := fun σ H Q => ∀ pins s, Inv X pins σ H s → wpAny (model X.prog X.w) X.A (isTrue e X.env (eval e X.env)) (TP X pins σ Q) X.xe s
def wW (X : Cx) (e : Expr) : TT := fun σ H Q => ∀ whole pins s, Inv X pins σ H s → wpAny (model X.prog X.w) X.A (isTrue e X.env whole) (TP X pins σ Q) X.xe s
def wA (X : Cx) (es : List Expr) : TA := fun σ H Q => ∀ pos pins s, Inv X pins σ H s → wpAny (model X.prog X.w) X.A (spliced (backTo pos (starEach es X.env))) (AP X pins σ Q) X.xe s
def wS (X : Cx) (st : Stmt) : TS := fun D σ H => ∀ pins s, Inv X pins σ H s → wpAny (model X.prog X.w) X.A (exec st X.env) (SP X pins D) X.xe s
def wB (X : Cx) (st : List Stmt) : TS := fun D σ H => ∀ pins s, Inv X pins σ H s → wpAny (model X.prog X.w) X.A (execs st X.env) (SP X pins D) X.xe s
section
variable {X : Cx}
theorem pE {e : Expr} : PE X e (wE X e) := ⟨fun pins s _ _ _ I h => h pins s I⟩
theorem pT {e : Expr} : PT X e (wT X e) := ⟨fun pins s _ _ _ I h => h pins s I⟩
theorem pW {e : Expr} : PW X e (wW X e) := ⟨fun wh pins s _ _ _ I h => h wh pins s I⟩
theorem pA {es : List Expr} : PA X es (wA X es) := ⟨fun pos pins s _ _ _ I h => h pos pins s I⟩
theorem pS {st : Stmt} : PS X st (wS X st) := ⟨fun pins s _ _ _ I h => h pins s I⟩
theorem pB {st : List Stmt} : PSs X st (wB X st) := ⟨fun pins s _ _ _ I h => h pins s I⟩
theorem wE.of {e : Expr} {t : TE} (p : PE X e t) {σ H Q} (h : t σ H Q) : wE X e σ H Q := fun pins s I => p.run pins s σ H Q I h
theorem wT.of {e : Expr} {t : TT} (p : PT X e t) {σ H Q} (h : t σ H Q) : wT X e σ H Q := fun pins s I => p.run pins s σ H Q I h
theorem wW.of {e : Expr} {t : TT} (p : PW X e t) {σ H Q} (h : t σ H Q) : wW X e σ H Q := fun wh pins s I => p.run wh pins s σ H Q I h
theorem wA.of {e : List Expr} {t : TA} (p : PA X e t) {σ H Q} (h : t σ H Q) : wA X e σ H Q := fun pos pins s I => p.run pos pins s σ H Q I h
theorem wS.of {e : Stmt} {t : TS} (p : PS X e t) {σ H D} (h : t D σ H) : wS X e D σ H := fun pins s I => p.run pins s σ H D I h
theorem wB.of {e : List Stmt} {t : TS} (p : PSs X e t) {σ H D} (h : t D σ H) : wB X e D σ H := fun pins s I => p.run pins s σ H D I h
end

/-! ### what is wanted -/
/-- an exception: its class, the names and values of its own dict -/
structure Exn where
  C : Addr
  ns : List Str
  vs : List D
abbrev PD := D → MS → Prop
abbrev PX := Exn → MS → Prop
abbrev PB := Bool → MS → Prop
abbrev PDs := List D → MS → Prop
section
variable (K : PySem.W.Frag) (M : MS) (H : Hp)
def Po (Φ : PD) (Q : VK) : Prop := ∀ v d M' H', Φ d M' → DR K M' H' v d → Tr M H M' H' → Sto K M' H' → Q v H'
def PoB (Φ : PB) (Q : Bool → Hp → Prop) : Prop := ∀ b M' H', Φ b M' → Tr M H M' H' → Sto K M' H' → Q b H'
def PoA (Φ : PDs) (Q : List V → Hp → Prop) : Prop := ∀ vs ds M' H', Φ ds M' → DRs K M' H' vs ds → Tr M H M' H' → Sto K M' H' → Q vs H'
/-- how an exception's data lie -/
def EXR (x : Exn) (M' : MS) (H' : Hp) (cls : Value) (dd : Option Addr) : Prop :=
  cls = .ref x.C ∧ ∃ d fs, dd = some d ∧ M' d = none ∧ H' d = some (.xd fs) ∧ fs.map (·.1) = x.ns ∧ DRs K M' H' (fs.map (·.2)) x.vs
def PoX (Ξ : PX) (W : XK) : Prop := ∀ x M' H' cls dd, Ξ x M' → EXR K x M' H' cls dd → Tr M H M' H' → Sto K M' H' → W cls dd H'
end

/-- an expression: from slots ρ and M it gives data of Φ, or raises of Ξ -/
def WE (X : Cx) (e : Expr) (ρ : Sl) (M : MS) (Φ : PD) (Ξ : PX) : Prop := ∀ σ H, SlOk X.K M H σ ρ → Sto X.K M H → ∀ Q, Po X.K M H Φ Q → ∀ W, Takes X W → PoX X.K M H Ξ (fun c d H' => W c d σ H') → wE X e σ H Q
def WT (X : Cx) (e : Expr) (ρ : Sl) (M : MS) (Φ : PB) (Ξ : PX) : Prop := ∀ σ H, SlOk X.K M H σ ρ → Sto X.K M H → ∀ Q, PoB X.K M H Φ Q → ∀ W, Takes X W → PoX X.K M H Ξ (fun c d H' => W c d σ H') → wT X e σ H Q
def WW (X : Cx) (e : Expr) (ρ : Sl) (M : MS) (Φ : PB) (Ξ : PX) : Prop := ∀ σ H, SlOk X.K M H σ ρ → Sto X.K M H → ∀ Q, PoB X.K M H Φ Q → ∀ W, Takes X W → PoX X.K M H Ξ (fun c d H' => W c d σ H') → wW X e σ H Q
def WA (X : Cx) (es : List Expr) (ρ : Sl) (M : MS) (Φ : PDs) (Ξ : PX) : Prop := ∀ σ H, SlOk X.K M H σ ρ → Sto X.K M H → ∀ Q, PoA X.K M H Φ Q → ∀ W, Takes X W → PoX X.K M H Ξ (fun c d H' => W c d σ H') → wA X es σ H Q

section
variable {K : PySem.W.Frag} {M M1 M2 : MS} {H H1 H2 : Hp}
theorem Po.from {Φ : PD} {Q : VK} (t : Tr M H M1 H1) (p : Po K M H Φ Q) : Po K M1 H1 Φ Q := fun v d M' H' f r u s => p v d M' H' f r (t.trans u) s
theorem PoB.from {Φ : PB} {Q} (t : Tr M H M1 H1) (p : PoB K M H Φ Q) : PoB K M1 H1 Φ Q := fun v M' H' f u s => p v M' H' f (t.trans u) s
theorem PoA.from {Φ : PDs} {Q} (t : Tr M H M1 H1) (p : PoA K M H Φ Q) : PoA K M1 H1 Φ Q := fun v d M' H' f r u s => p v d M' H' f r (t.trans u) s
theorem PoX.from {Ξ : PX} {W : XK} (t : Tr M H M1 H1) (p : PoX K M H Ξ W) : PoX K M1 H1 Ξ W := fun x M' H' c d f r u s => p x M' H' c d f r (t.trans u) s
end

section
variable {X : Cx} {ρ : Sl} {M : MS} {Φ : PD} {Ξ : PX}

/-- an expression that raises nothing and whose reading is at hand -/
theorem WE.of {e : Expr} {t : TE} (p : PE X e t) (h : ∀ σ H, SlOk X.K M H σ ρ → Sto X.K M H → ∀ Q, Po X.K M H Φ Q → t σ H Q) : WE X e ρ M Φ Ξ := fun σ H hs st Q q _ _ _ => wE.of p (h σ H hs st Q q)
theorem WE.imp {e : Expr} {Φ' : PD} (h : WE X e ρ M Φ Ξ) (f : ∀ d M', Φ d M' → Φ' d M') : WE X e ρ M Φ' Ξ := fun σ H hs st Q q => h σ H hs st Q fun v d M' H' a => q v d M' H' (f d M' a)
/-- names, constants -/
theorem we_var (i : Nat) {x : Str} {pos : Pos} {d : D} (hi : ρ[i]? = some (some d)) (hΦ : Φ d M) (hN : X.N[i]? = some x := by rfl) (hv : Vis X.env.scope x := by first | exact Or.inl rfl | exact Or.inr (Or.inl rfl) | exact Or.inr (Or.inr rfl))
    (hd : (x == ("__debug__" : Str)) = false := by decide) (hcd : (x == ("__classdict__" : Str)) = false := by decide) : WE X (.Name x pos) ρ M Φ Ξ :=
  .of (pe_var hN hv hd hcd) fun σ H hs st Q q => by
    obtain ⟨v, h1, h2⟩ := hs.at_ i d hi
    exact ⟨v, h1, q v d M H hΦ h2 (Tr.refl _ _) st⟩
theorem we_int {i j pos} (h : Φ (.int i) M) : WE X (.Constant (.int i) j pos) ρ M Φ Ξ := .of pe_int fun _ H _ st _ q => q _ _ M H h (.int i) (Tr.refl _ _) st
theorem we_bl {b j pos} (h : Φ (.bl b) M) : WE X (.Constant (.bool b) j pos) ρ M Φ Ξ := .of pe_bl fun _ H _ st _ q => q _ _ M H h (.bl b) (Tr.refl _ _) st
theorem we_non {j pos} (h : Φ .non M) : WE X (.Constant .none j pos) ρ M Φ Ξ := .of pe_non fun _ H _ st _ q => q _ _ M H h .non (Tr.refl _ _) st
theorem we_str {x j pos} (h : Φ (.str x) M) : WE X (.Constant (.str x) j pos) ρ M Φ Ξ := .of pe_str fun _ H _ st _ q => q _ _ M H h (.str x) (Tr.refl _ _) st
/-- a value that data tell in any state: module constants, functions, classes -/
def Fix (K : PySem.W.Frag) (v : V) (d : D) : Prop := ∀ M H, DR K M H v d
theorem we_glob {x : Str} {v : V} {u : Value} {d : D} {pos : Pos} (hg : Gl X x) (hm : X.mg x = some u) (r : RelV v u) (f : Fix X.K v d) (h : Φ d M) (hd : (x == ("__debug__" : Str)) = false := by decide) : WE X (.Name x pos) ρ M Φ Ξ :=
  .of (pe_glob hg hm r hd) fun _ H _ st _ q => q _ _ M H h (f M H) (Tr.refl _ _) st

/-! ### two places -/
/-- an operation on values, told by data: from data x, y in M -/
def OD (K : PySem.W.Frag) (r : R2) (dx dy : D) (M : MS) (Φ : PD) : Prop := ∀ x y H, DR K M H x dx → DR K M H y dy → Sto K M H → ∀ Q, Po K M H Φ Q → r x y H Q
theorem od_val {r : R2} {dx dy d : D} (h : ∀ x y H, DR X.K M H x dx → DR X.K M H y dy → Sto X.K M H → ∀ Q : VK, (∀ v, DR X.K M H v d → Q v H) → r x y H Q) (hΦ : Φ d M) : OD X.K r dx dy M Φ := fun x y H hx hy st Q q => h x y H hx hy st Q fun v hv => q v d M H hΦ hv (Tr.refl _ _) st
section
variable {a b : Expr} {pos : Pos} {r : R2}
theorem two {f : TE → TE → TE} (hf : ∀ ta tb σ H Q, f ta tb σ H Q = ta σ H fun x H1 => tb σ H1 fun y H2 => r x y H2 Q) {e : Expr} (p : ∀ {ta tb : TE}, PE X a ta → PE X b tb → PE X e (f ta tb))
    (h : WE X a ρ M (fun da Ma => WE X b ρ Ma (fun db Mb => OD X.K r da db Mb Φ) Ξ) Ξ) : WE X e ρ M Φ Ξ := fun σ H hs st Q q W tk qx => wE.of (p pE pE) (by
  rw [hf]
  refine h σ H hs st _ (fun x da Ma H1 ha hx t1 s1 => ?_) W tk qx
  refine ha σ H1 (hs.mono t1) s1 _ (fun y db Mb H2 hb hy t2 s2 => ?_) W tk (qx.from t1)
  exact hb x y H2 (hx.mono t2) hy s2 Q ((q.from t1).from t2))
theorem we_op {op : Operator} (ho : OpR X (binaryOp op) r) (h : WE X a ρ M (fun da Ma => WE X b ρ Ma (fun db Mb => OD X.K r da db Mb Φ) Ξ) Ξ) : WE X (.BinOp a op b pos) ρ M Φ Ξ :=
  two (f := tOp r) (fun _ _ _ _ _ => rfl) (fun p q => pe_op ho p q) h
theorem we_cmp {op : CmpOp} (ho : OpR X (compareOp op) r) (hm : behindInMarks op b = false) (h : WE X a ρ M (fun da Ma => WE X b ρ Ma (fun db Mb => OD X.K r da db Mb Φ) Ξ) Ξ) : WE X (.Compare a [op] [b] pos) ρ M Φ Ξ :=
  two (f := tOp r) (fun _ _ _ _ _ => rfl) (fun p q => pe_cmpR ho p q hm) h
theorem we_ix (ho : IxR X r) (hm : PlainIx b) (h : WE X a ρ M (fun da Ma => WE X b ρ Ma (fun db Mb => OD X.K r da db Mb Φ) Ξ) Ξ) : WE X (.Subscript a b pos) ρ M Φ Ξ :=
  two (f := tOp r) (fun _ _ _ _ _ => rfl) (fun p q => pe_ix ho p q hm) h
end
theorem od_I0 {g : Int → Int → V} {i j : Int} {d : D} (hd : Fix X.K (g i j) d) (h : Φ d M) : OD X.K (rI0 g) (.int i) (.int j) M Φ := fun x y H hx hy st Q q => by
  cases hx
  cases hy
  exact ⟨i, j, rfl, rfl, q _ _ M H h (hd M H) (Tr.refl _ _) st⟩
theorem od_I {C : Int → Int → Prop} {g : Int → Int → V} {i j : Int} {d : D} (hc : C i j) (hd : Fix X.K (g i j) d) (h : Φ d M) : OD X.K (rI C g) (.int i) (.int j) M Φ := fun x y H hx hy st Q q => by
  cases hx
  cases hy
  exact ⟨i, j, rfl, rfl, hc, q _ _ M H h (hd M H) (Tr.refl _ _) st⟩
theorem fix_int (i : Int) : Fix X.K (.int i) (.int i) := fun _ _ => .int i
theorem fix_bl (b : Bool) : Fix X.K (.bl b) (.bl b) := fun _ _ => .bl b
theorem fix_str (x : Str) : Fix X.K (.str x) (.str x) := fun _ _ => .str x
theorem fix_non : Fix X.K .non .non := fun _ _ => .non
theorem fix_raw (v : V) : Fix X.K v (.raw v) := fun _ _ => .raw v

/-! ### argument lists, displays -/
theorem wa_nil {Φ : PDs} (h : Φ [] M) : WA X [] ρ M Φ Ξ := fun σ H hs st Q q W tk qx => wA.of pa_nil (q [] [] M H h .nil (Tr.refl _ _) st)
theorem wa_cons {e : Expr} {es : List Expr} {Φ : PDs} (h : WE X e ρ M (fun d M1 => WA X es ρ M1 (fun ds M2 => Φ (d :: ds) M2) Ξ) Ξ) (hs : starEach (e :: es) X.env = (false, eval e X.env) :: starEach es X.env := by exact se_of rfl) : WA X (e :: es) ρ M Φ Ξ :=
  fun σ H hσ st Q q W tk qx => wA.of (pa_cons pE pA hs) (by
    refine h σ H hσ st _ (fun x d M1 H1 ha hx t1 s1 => ?_) W tk qx
    refine ha σ H1 (hσ.mono t1) s1 _ (fun vs ds M2 H2 hb hy t2 s2 => ?_) W tk (qx.from t1)
    exact q _ _ M2 H2 hb (.cons (hx.mono t2) hy) (t1.trans t2) s2)
theorem we_lst {es : List Expr} {pos : Pos} (h : WA X es ρ M (fun ds M1 => ds.length ≤ sizeLine ∧ Φ (.lst ds) M1) Ξ) : WE X (.List es pos) ρ M Φ Ξ := fun σ H hσ st Q q W tk qx => wE.of (pe_lst pA) (by
  refine h σ H hσ st _ (fun vs ds M1 H1 ha hx t1 s1 => ?_) W tk qx
  refine ⟨by rw [hx.length]; exact ha.1, fun p hp => ?_⟩
  exact q _ _ M1 _ ha.2 (.lst (s1.fresh hp) upd_same (hx.mono (Tr.new hp))) (t1.trans (Tr.new hp)) (s1.new hp))
/-- a list that may change -/
theorem we_lstM {es : List Expr} {pos : Pos} (h : WA X es ρ M (fun ds M1 => ds.length ≤ sizeLine ∧ ∀ p, M1 p = none → Φ (.raw (.ref p)) (put M1 p (.lst ds))) Ξ) : WE X (.List es pos) ρ M Φ Ξ := fun σ H hσ st Q q W tk qx => wE.of (pe_lst pA) (by
  refine h σ H hσ st _ (fun vs ds M1 H1 ha hx t1 s1 => ?_) W tk qx
  refine ⟨by rw [hx.length]; exact ha.1, fun p hp => ?_⟩
  have t2 : Tr M1 H1 (put M1 p (.lst ds)) (upd H1 p (.lst vs)) := Tr.newM hp
  exact q _ _ _ _ (ha.2 p (s1.fresh hp)) (.raw _) (t1.trans t2) (s1.newM hp ⟨vs, upd_same, hx.mono t2⟩))
theorem we_tup {es : List Expr} {x1} {pos : Pos} (h : WA X es ρ M (fun ds M1 => ds.length ≤ sizeLine ∧ Φ (.tup ds) M1) Ξ) : WE X (.Tuple es x1 pos) ρ M Φ Ξ := fun σ H hσ st Q q W tk qx => wE.of (pe_tup pA) (by
  refine h σ H hσ st _ (fun vs ds M1 H1 ha hx t1 s1 => ?_) W tk qx
  refine ⟨by rw [hx.length]; exact ha.1, fun p hp => ?_⟩
  exact q _ _ M1 _ ha.2 (.tup (s1.fresh hp) upd_same (hx.mono (Tr.new hp))) (t1.trans (Tr.new hp)) (s1.new hp))

/-! ### tests -/
theorem WT.of {e : Expr} {t : TT} {Φ : PB} (p : PT X e t) (h : ∀ σ H, SlOk X.K M H σ ρ → Sto X.K M H → ∀ Q, PoB X.K M H Φ Q → t σ H Q) : WT X e ρ M Φ Ξ := fun σ H hs st Q q _ _ _ => wT.of p (h σ H hs st Q q)
/-- any expression that gives a bool, as a test -/
theorem wt_val {e : Expr} {Φ : PB} (h : WE X e ρ M (fun d M1 => ∃ b, d = .bl b ∧ Φ b M1) Ξ) (he : ∀ whole, isTrue e X.env whole = (do let v ← whole; standAt e.pos; holding [v] (truthy v)) := by intro _; rfl) : WT X e ρ M Φ Ξ :=
  fun σ H hs st Q q W tk qx => wT.of (pt_val pE he) (h σ H hs st _ (fun v d M1 H1 ⟨b, e1, f⟩ r t s => by
    subst e1
    cases r
    exact ⟨b, rfl, q b M1 H1 f t s⟩) W tk qx)
theorem wt_cmp {a b : Expr} {op : CmpOp} {r : R2} {pos : Pos} {Φ : PB} (ho : OpR X (compareOp op) r) (hm : behindInMarks op b = false)
    (h : WE X a ρ M (fun da Ma => WE X b ρ Ma (fun db Mb => OD X.K r da db Mb fun d M1 => ∃ c, d = .bl c ∧ Φ c M1) Ξ) Ξ) : WT X (.Compare a [op] [b] pos) ρ M Φ Ξ := fun σ H hs st Q q W tk qx => wT.of (pt_cmpR ho pE pE hm) (by
  refine h σ H hs st _ (fun x da Ma H1 ha hx t1 s1 => ?_) W tk qx
  refine ha σ H1 (hs.mono t1) s1 _ (fun y db Mb H2 hb hy t2 s2 => ?_) W tk (qx.from t1)
  refine hb x y H2 (hx.mono t2) hy s2 _ fun v d M3 H3 ⟨c, e1, f⟩ r3 t3 s3 => ?_
  subst e1
  cases r3
  exact ⟨c, rfl, q c M3 H3 f ((t1.trans t2).trans t3) s3⟩)
theorem wt_not {a : Expr} {pos : Pos} {Φ : PB} (h : WT X a ρ M (fun b M1 => Φ (!b) M1) Ξ) : WT X (.UnaryOp .Not a pos) ρ M Φ Ξ := fun σ H hs st Q q W tk qx => wT.of (pt_not pT) (h σ H hs st _ (fun b M1 H1 f t s => q _ M1 H1 f t s) W tk qx)
theorem wt_bool {e : Expr} {Φ : PB} (h : WW X e ρ M Φ Ξ) : WT X e ρ M Φ Ξ := fun σ H hs st Q q W tk qx => wT.of pW.pt (h σ H hs st Q q W tk qx)
section
variable {a b : Expr} {rest : List Expr} {pos : Pos} {Φ : PB}
theorem ww_and1 (h : WT X a ρ M Φ Ξ) : WW X (.BoolOp .And [a] pos) ρ M Φ Ξ := fun σ H hs st Q q W tk qx => wW.of (pw_and1 pT) (h σ H hs st Q q W tk qx)
theorem ww_or1 (h : WT X a ρ M Φ Ξ) : WW X (.BoolOp .Or [a] pos) ρ M Φ Ξ := fun σ H hs st Q q W tk qx => wW.of (pw_or1 pT) (h σ H hs st Q q W tk qx)
theorem ww_and (h : WT X a ρ M (fun c M1 => (c = true → WW X (.BoolOp .And (b :: rest) pos) ρ M1 Φ Ξ) ∧ (c = false → Φ false M1)) Ξ) : WW X (.BoolOp .And (a :: b :: rest) pos) ρ M Φ Ξ :=
  fun σ H hs st Q q W tk qx => wW.of (pw_and pT pW) (h σ H hs st _ (fun c M1 H1 f t s => by
    cases c with
    | true => exact f.1 rfl σ H1 (hs.mono t) s Q (q.from t) W tk (qx.from t)
    | false => exact q false M1 H1 (f.2 rfl) t s) W tk qx)
theorem ww_or (h : WT X a ρ M (fun c M1 => (c = true → Φ true M1) ∧ (c = false → WW X (.BoolOp .Or (b :: rest) pos) ρ M1 Φ Ξ)) Ξ) : WW X (.BoolOp .Or (a :: b :: rest) pos) ρ M Φ Ξ :=
  fun σ H hs st Q q W tk qx => wW.of (pw_or pT pW) (h σ H hs st _ (fun c M1 H1 f t s => by
    cases c with
    | false => exact f.2 rfl σ H1 (hs.mono t) s Q (q.from t) W tk (qx.from t)
    | true => exact q true M1 H1 (f.1 rfl) t s) W tk qx)
end
/-! ### and, or, not, if-else as values -/
section
variable {a b c : Expr} {rest : List Expr} {pos : Pos}
theorem we_one {op} (h : WE X a ρ M Φ Ξ) : WE X (.BoolOp op [a] pos) ρ M Φ Ξ := fun σ H hs st Q q W tk qx => wE.of (pe_one pE) (h σ H hs st Q q W tk qx)
theorem we_and (h : WE X a ρ M (fun d M1 => ∃ c, d = .bl c ∧ (c = true → WE X (.BoolOp .And (b :: rest) pos) ρ M1 Φ Ξ) ∧ (c = false → Φ (.bl false) M1)) Ξ) : WE X (.BoolOp .And (a :: b :: rest) pos) ρ M Φ Ξ :=
  fun σ H hs st Q q W tk qx => wE.of (pe_and pE pE) (h σ H hs st _ (fun v d M1 H1 ⟨c, e1, f⟩ r t s => by
    subst e1
    cases r
    refine ⟨c, rfl, ?_⟩
    cases c with
    | true => exact f.1 rfl σ H1 (hs.mono t) s Q (q.from t) W tk (qx.from t)
    | false => exact q _ _ M1 H1 (f.2 rfl) (.bl false) t s) W tk qx)
theorem we_or (h : WE X a ρ M (fun d M1 => ∃ c, d = .bl c ∧ (c = true → Φ (.bl true) M1) ∧ (c = false → WE X (.BoolOp .Or (b :: rest) pos) ρ M1 Φ Ξ)) Ξ) : WE X (.BoolOp .Or (a :: b :: rest) pos) ρ M Φ Ξ :=
  fun σ H hs st Q q W tk qx => wE.of (pe_or pE pE) (h σ H hs st _ (fun v d M1 H1 ⟨c, e1, f⟩ r t s => by
    subst e1
    cases r
    refine ⟨c, rfl, ?_⟩
    cases c with
    | false => exact f.2 rfl σ H1 (hs.mono t) s Q (q.from t) W tk (qx.from t)
    | true => exact q _ _ M1 H1 (f.1 rfl) (.bl true) t s) W tk qx)
theorem we_not (h : WE X a ρ M (fun d M1 => ∃ c, d = .bl c ∧ Φ (.bl (!c)) M1) Ξ) : WE X (.UnaryOp .Not a pos) ρ M Φ Ξ := fun σ H hs st Q q W tk qx => wE.of (pe_not pE) (h σ H hs st _ (fun v d M1 H1 ⟨c, e1, f⟩ r t s => by
  subst e1
  cases r
  exact ⟨c, rfl, q _ _ M1 H1 f (.bl _) t s⟩) W tk qx)
theorem we_if (h : WT X c ρ M (fun k M1 => (k = true → WE X a ρ M1 Φ Ξ) ∧ (k = false → WE X b ρ M1 Φ Ξ)) Ξ) : WE X (.IfExp c a b pos) ρ M Φ Ξ := fun σ H hs st Q q W tk qx => wE.of (pe_ifExp pT pE pE) (h σ H hs st _ (fun k M1 H1 f t s => by
  cases k with
  | true => exact f.1 rfl σ H1 (hs.mono t) s Q (q.from t) W tk (qx.from t)
  | false => exact f.2 rfl σ H1 (hs.mono t) s Q (q.from t) W tk (qx.from t)) W tk qx)
end
section
variable {a b c : Expr} {pos : Pos} {op op' : CmpOp} {r r' : R2}
theorem chain_in {σ : L2.St} {H : Hp} (hs : SlOk X.K M H σ ρ) (st : Sto X.K M H)
    (h : WE X a ρ M (fun da Ma => WE X b ρ Ma (fun db Mb => OD X.K r da db Mb fun d M1 => ∃ k, d = .bl k ∧ (k = true → WE X c ρ M1 (fun dc Mc => OD X.K r' db dc Mc Φ) Ξ) ∧ (k = false → Φ (.bl false) M1)) Ξ) Ξ)
    (Q : VK) (q : Po X.K M H Φ Q) (W : WX) (tk : Takes X W) (qx : PoX X.K M H Ξ (fun c d H' => W c d σ H')) : tChain r r' (wE X a) (wE X b) (wE X c) σ H Q := by
  refine h σ H hs st _ (fun x da Ma H1 ha hx t1 s1 => ?_) W tk qx
  refine ha σ H1 (hs.mono t1) s1 _ (fun y db Mb H2 hb hy t2 s2 => ?_) W tk (qx.from t1)
  refine hb x y H2 (hx.mono t2) hy s2 _ fun v d M3 H3 ⟨k, e1, f⟩ r3 t3 s3 => ?_
  subst e1
  cases r3
  refine ⟨k, rfl, ?_⟩
  have t13 := (t1.trans t2).trans t3
  cases k with
  | true => exact f.1 rfl σ H3 (hs.mono t13) s3 _ (fun z dc Mc H4 hc hz t4 s4 => hc y z H4 ((hy.mono t3).mono t4) hz s4 Q (((q.from t13).from t4))) W tk (qx.from t13)
  | false => exact q _ _ M3 H3 (f.2 rfl) (.bl false) t13 s3
theorem we_chain (ho : OpR X (compareOp op) r) (ho' : OpR X (compareOp op') r')
    (h : WE X a ρ M (fun da Ma => WE X b ρ Ma (fun db Mb => OD X.K r da db Mb fun d M1 => ∃ k, d = .bl k ∧ (k = true → WE X c ρ M1 (fun dc Mc => OD X.K r' db dc Mc Φ) Ξ) ∧ (k = false → Φ (.bl false) M1)) Ξ) Ξ)
    (hm : lastMarks [op, op'] [b, c] = false := by with_unfolding_all rfl) : WE X (.Compare a [op, op'] [b, c] pos) ρ M Φ Ξ := fun σ H hs st Q q W tk qx =>
  wE.of (pe_chain ho ho' pE pE pE hm) (chain_in hs st h Q q W tk qx)
theorem wt_chain {Φ : PB} (ho : OpR X (compareOp op) r) (ho' : OpR X (compareOp op') r')
    (h : WE X a ρ M (fun da Ma => WE X b ρ Ma (fun db Mb => OD X.K r da db Mb fun d M1 => ∃ k, d = .bl k ∧ (k = true → WE X c ρ M1 (fun dc Mc => OD X.K r' db dc Mc fun d M2 => ∃ k, d = .bl k ∧ Φ k M2) Ξ) ∧ (k = false → Φ false M1)) Ξ) Ξ)
    (hm : lastMarks [op, op'] [b, c] = false := by with_unfolding_all rfl) : WT X (.Compare a [op, op'] [b, c] pos) ρ M Φ Ξ := fun σ H hs st Q q W tk qx =>
  wT.of (pt_chain ho ho' pE pE pE hm) (chain_in (Φ := fun d M2 => ∃ k, d = .bl k ∧ Φ k M2) hs st (h.imp fun da Ma g => g.imp fun db Mb g => fun x y H hx hy st Q q => g x y H hx hy st Q fun v d M' H' ⟨k, e, f⟩ => q v d M' H' ⟨k, e, f.1, fun z => ⟨false, rfl, f.2 z⟩⟩) _
    (fun v d M' H' ⟨k, e, f⟩ r t s => by
      subst e
      cases r
      exact ⟨k, rfl, q k M' H' f t s⟩) W tk qx)
end
end
end DL

set_option Elab.async false
set_option linter.all false
set_option maxRecDepth 100000
set_option maxHeartbeats 4000000
namespace DL
open PySem PySem.Spec PyProof.Rows L2

/-! ### statements -/
/-- what is wanted of a statement: behind it, of a return, a break, a continue, an exception -/
structure Fi where
  nx : Sl → MS → Prop
  rt : PD
  ex : Exn → Sl → MS → Prop
  bk : Sl → MS → Prop := fun _ _ => False
  ct : Sl → MS → Prop := fun _ _ => False
def PoS (K : PySem.W.Frag) (M : MS) (H : Hp) (N : Sl → MS → Prop) (P : L2.St → Hp → Prop) : Prop := ∀ σ' ρ' M' H', N ρ' M' → SlOk K M' H' σ' ρ' → Tr M H M' H' → Sto K M' H' → P σ' H'
def PoXS (K : PySem.W.Frag) (M : MS) (H : Hp) (Ξ : Exn → Sl → MS → Prop) (W : WX) : Prop := ∀ x ρ' M' H' σ' cls dd, Ξ x ρ' M' → EXR K x M' H' cls dd → SlOk K M' H' σ' ρ' → Tr M H M' H' → Sto K M' H' → W cls dd σ' H'
structure FiOk (K : PySem.W.Frag) (M : MS) (H : Hp) (F : Fi) (E : Ends) (W : WX) : Prop where
  nx : PoS K M H F.nx E.nx
  rt : Po K M H F.rt E.rt
  bk : PoS K M H F.bk E.bk
  ct : PoS K M H F.ct E.ct
  ex : PoXS K M H F.ex W
theorem FiOk.from {K : PySem.W.Frag} {M M1 : MS} {H H1 : Hp} {F : Fi} {E : Ends} {W : WX} (o : FiOk K M H F E W) (t : Tr M H M1 H1) : FiOk K M1 H1 F E W :=
  ⟨fun σ ρ M' H' a b c d => o.nx σ ρ M' H' a b (t.trans c) d, fun v d M' H' a b c e => o.rt v d M' H' a b (t.trans c) e, fun σ ρ M' H' a b c d => o.bk σ ρ M' H' a b (t.trans c) d, fun σ ρ M' H' a b c d => o.ct σ ρ M' H' a b (t.trans c) d,
    fun x ρ M' H' σ c dd a b e f g => o.ex x ρ M' H' σ c dd a b e (t.trans f) g⟩
def WS (X : Cx) (st : Stmt) (ρ : Sl) (M : MS) (F : Fi) : Prop := ∀ σ H, SlOk X.K M H σ ρ → Sto X.K M H → ∀ E W, FiOk X.K M H F E W → Takes X W → wS X st E σ H
def WB (X : Cx) (st : List Stmt) (ρ : Sl) (M : MS) (F : Fi) : Prop := ∀ σ H, SlOk X.K M H σ ρ → Sto X.K M H → ∀ E W, FiOk X.K M H F E W → Takes X W → wB X st E σ H

section
variable {X : Cx} {ρ : Sl} {M : MS} {F : Fi}
/-- what an expression may raise, where the statement is -/
abbrev Fi.at_ (F : Fi) (ρ : Sl) : PX := fun x M => F.ex x ρ M
theorem FiOk.px {K : PySem.W.Frag} {H : Hp} {E : Ends} {W : WX} {σ : L2.St} (o : FiOk K M H F E W) (hs : SlOk K M H σ ρ) : PoX K M H (F.at_ ρ) (fun c d H' => W c d σ H') := fun x M' H' c d a b t s => o.ex x ρ M' H' σ c d a b (hs.mono t) t s
theorem wb_nil (h : F.nx ρ M) : WB X [] ρ M F := fun σ H hs st E W o tk => wB.of pss_nil (o.nx σ ρ M H h hs (Tr.refl _ _) st)
theorem wb_cons {st : Stmt} {rest : List Stmt} (h : WS X st ρ M { F with nx := fun ρ' M' => WB X rest ρ' M' F }) : WB X (st :: rest) ρ M F := fun σ H hs sto E W o tk => wB.of (pss_cons pS pB) (by
  refine h σ H hs sto _ W ⟨fun σ' ρ' M' H' a b t s => a σ' H' b s E W (o.from t) tk, o.rt, o.bk, o.ct, o.ex⟩ tk)
theorem ws_ret {e : Expr} {pos : Pos} (h : WE X e ρ M F.rt (F.at_ ρ)) : WS X (.Return (some e) pos) ρ M F := fun σ H hs st E W o tk => wS.of (ps_ret pE) (h σ H hs st _ o.rt W tk (o.px hs))
theorem ws_retN {pos : Pos} (h : F.rt .non M) : WS X (.Return none pos) ρ M F := fun σ H hs st E W o tk => wS.of ps_retN (o.rt _ _ M H h .non (Tr.refl _ _) st)
theorem ws_pass {pos : Pos} (h : F.nx ρ M) : WS X (.Pass pos) ρ M F := fun σ H hs st E W o tk => wS.of ps_pass (o.nx σ ρ M H h hs (Tr.refl _ _) st)
theorem ws_break {pos : Pos} (h : F.bk ρ M) : WS X (.Break pos) ρ M F := fun σ H hs st E W o tk => wS.of ps_break (o.bk σ ρ M H h hs (Tr.refl _ _) st)
theorem ws_cont {pos : Pos} (h : F.ct ρ M) : WS X (.Continue pos) ρ M F := fun σ H hs st E W o tk => wS.of ps_continue (o.ct σ ρ M H h hs (Tr.refl _ _) st)
theorem ws_doc {x j pos pos'} (h : F.nx ρ M) : WS X (.Expr (.Constant (.str x) j pos) pos') ρ M F := fun σ H hs st E W o tk => wS.of ps_doc (o.nx σ ρ M H h hs (Tr.refl _ _) st)
theorem ws_expr {e : Expr} {pos : Pos} (h : WE X e ρ M (fun _ M' => F.nx ρ M') (F.at_ ρ)) (hw : swapsWith e none pos.line X.env = pure false := by rfl) : WS X (.Expr e pos) ρ M F := fun σ H hs st E W o tk =>
  wS.of (ps_expr pE hw) (h σ H hs st _ (fun v d M' H' a r t s => o.nx σ ρ M' H' a (hs.mono t) t s) W tk (o.px hs))
theorem ws_if {c : Expr} {a b : List Stmt} {pos : Pos} (h : WT X c ρ M (fun k M' => (k = true → WB X a ρ M' F) ∧ (k = false → WB X b ρ M' F)) (F.at_ ρ)) : WS X (.If c a b pos) ρ M F := fun σ H hs st E W o tk =>
  wS.of (ps_if pT pB pB) (h σ H hs st _ (fun k M' H' f t s => by
    cases k with
    | true => exact f.1 rfl σ H' (hs.mono t) s E W (o.from t) tk
    | false => exact f.2 rfl σ H' (hs.mono t) s E W (o.from t) tk) W tk (o.px hs))
/-- name = e -/
theorem ws_set (i : Nat) {x : Str} {e : Expr} {pos pos' : Pos} (hN : X.N.Nodup) (h : WE X e ρ M (fun d M' => F.nx (ρ.set i (some d)) M') (F.at_ ρ)) (hi : X.N[i]? = some x := by rfl) (hx : Loc X.env.scope x := by first | exact Or.inl rfl | exact Or.inr rfl)
    (hw : swapsWith e (some (.Name x pos')) pos.line X.env = pure false := by rfl) (hf : X.fn x = true ∨ X.env.scope.names.lookup x = some .local := by first | exact .inl rfl | exact .inr rfl) : WS X (.Assign [.Name x pos'] e pos) ρ M F := fun σ H hs st E W o tk =>
  wS.of (ps_set hN hi hx pE hw hf) (h σ H hs st _ (fun v d M' H' a r t s => o.nx _ _ M' H' a ((hs.mono t).set r) t s) W tk (o.px hs))
/-- o[i] = e -/
theorem ws_sub {a b e : Expr} {pos pos' : Pos} {ts : TSet} (hset : PSet X ts)
    (h : WE X e ρ M (fun d M1 => WE X a ρ M1 (fun da M2 => WE X b ρ M2 (fun db M3 => ∀ v x y H σ, DR X.K M3 H v d → DR X.K M3 H x da → DR X.K M3 H y db → Sto X.K M3 H → SlOk X.K M3 H σ ρ → ∀ Q : Hp → Prop,
      (∀ M' H', F.nx ρ M' → SlOk X.K M' H' σ ρ → Tr M3 H M' H' → Sto X.K M' H' → Q H') → ts x y v H Q) (F.at_ ρ)) (F.at_ ρ)) (F.at_ ρ))
    (ha : ∀ v, assign (.Subscript a b pos') X.env v = (do
      let ov ← holding [v] (eval a X.env)
      let iv ← holding [v, ov] (eval b X.env)
      standAt pos'
      holding [v, ov, iv] (setItem ov iv v)
      release [v, ov, iv] []) := by intro _; rfl)
    (hw : swapsWithSole [.Subscript a b pos'] e pos.line X.env = pure false := by rfl) (hst : swappedStores [.Subscript a b pos'] e X.env = pure none := by rfl) : WS X (.Assign [.Subscript a b pos'] e pos) ρ M F := fun σ H hs st E W o tk =>
  wS.of (ps_asg pE (pg_sub pE pE hset ha) hw hst) (by
    refine h σ H hs st _ (fun v d M1 H1 g1 r1 t1 s1 => ?_) W tk (o.px hs)
    refine g1 σ H1 (hs.mono t1) s1 _ (fun x da M2 H2 g2 r2 t2 s2 => ?_) W tk ((o.px hs).from t1)
    refine g2 σ H2 ((hs.mono t1).mono t2) s2 _ (fun y db M3 H3 g3 r3 t3 s3 => ?_) W tk (((o.px hs).from t1).from t2)
    refine g3 v x y H3 σ ((r1.mono t2).mono t3) (r2.mono t3) r3 s3 (((hs.mono t1).mono t2).mono t3) _ fun M' H' n hs' t' s' => ?_
    exact o.nx σ ρ M' H' n hs' (((t1.trans t2).trans t3).trans t') s')
end

/-! ### functions -/
/-- a promise, by data: arguments, what may change, what is wanted of the answer, of an exception -/
abbrev DSp := List D → MS → PD → PX → Prop
def CQ (K : PySem.W.Frag) (M : MS) (H : Hp) (Φ : PD) : VK := fun v H' => ∃ d M', Φ d M' ∧ DR K M' H' v d ∧ Tr M H M' H' ∧ Sto K M' H'
def CXq (K : PySem.W.Frag) (M : MS) (H : Hp) (Ξ : PX) : XK := fun cls dd H' => ∃ x M', Ξ x M' ∧ EXR K x M' H' cls dd ∧ Tr M H M' H' ∧ Sto K M' H'
structure FnD (P : Program) (w : World) (K : PySem.W.Frag) (mg : Str → Option Value) (base : Heap) (k : Nat) (f : Addr) (fd : FuncData) (ps : List Str) (sp : DSp) : Prop where
  len : ∀ ds M Φ Ξ, sp ds M Φ Ξ → ds.length = ps.length
  run : ∀ (A : Around) (outer : List Env) (s : Shared) (H : Hp) (args : Args) (us : List Value) (vs : List V) (ds : List D) (M : MS) (Φ : PD) (Ξ : PX), Room k A → A.guards = some [] → Env0 P w K mg base A outer s H →
    BindsTo s fd args (ps.zip us) → Vals vs us → DRs K M H vs ds → Sto K M H → sp ds M Φ Ξ →
    codeAny (model P w) A (.call (.ref f) args) (L2.CR (L2.CX P w) outer P w H s (CQ K M H Φ) (CXq K M H Ξ)) s
theorem FnD.mono {P w K mg base j k f fd ps sp} (F : FnD P w K mg base j f fd ps sp) (h : j ≤ k) : FnD P w K mg base k f fd ps sp :=
  ⟨F.len, fun A outer s H args us vs ds M Φ Ξ r => F.run A outer s H args us vs ds M Φ Ξ (r.mono h)⟩
theorem FnD.imp {P w K mg base k f fd ps} {sp sp' : DSp} (F : FnD P w K mg base k f fd ps sp) (h : ∀ ds M Φ Ξ, sp' ds M Φ Ξ → sp ds M Φ Ξ) : FnD P w K mg base k f fd ps sp' :=
  ⟨fun ds M Φ Ξ q => F.len ds M Φ Ξ (h _ _ _ _ q), fun A outer s H args us vs ds M Φ Ξ r g e b v d t q => F.run A outer s H args us vs ds M Φ Ξ r g e b v d t (h _ _ _ _ q)⟩

/-- the body's context -/
abbrev bodyCx (P : Program) (w : World) (K : PySem.W.Frag) (mg : Str → Option Value) (base : Heap) (N : List Str) (qual : Str) (scope : Scope) (f : Addr) (cd : Value) (A : Around) (outer : List Env) (s : Shared) (H : Hp) (E : XK) : Cx :=
  cxOf (L2.CX P w) P w K mg base N qual scope f cd A outer s H E
def startD (N : List Str) (ds : List D) : Sl := ds.map some ++ List.replicate (N.length - ds.length) none
theorem slOk_start {K : PySem.W.Frag} {M : MS} {H : Hp} {N : List Str} {vs : List V} {ds : List D} (h : DRs K M H vs ds) : SlOk K M H (L2.start N vs) (startD N ds) := by
  have hl := h.length
  refine ⟨by unfold L2.start startD; simp [hl], fun i d e => ?_⟩
  unfold startD at e
  by_cases hi : i < ds.length
  · rw [List.getElem?_append_left (by simpa using hi), List.getElem?_map] at e
    cases q : ds[i]? with
    | none => rw [q] at e; cases e
    | some d' =>
      rw [q] at e
      cases e
      obtain ⟨v, h1, h2⟩ := h.get q
      exact ⟨v, by unfold L2.start; rw [List.getElem?_append_left (by simpa [hl] using hi), List.getElem?_map, h1]; rfl, h2⟩
  · rw [List.getElem?_append_right (by simpa using hi), List.getElem?_replicate] at e
    split at e <;> cases e

/-- a def by its body -/
theorem fnD_of {P : Program} {w : World} {K : PySem.W.Frag} {mg : Str → Option Value} {base : Heap} {k : Nat} {f : Addr} {fd : FuncData} {x qual : Str} {params : Arguments} {body : List Stmt} {scope : Scope} {dvs : List V} {kws : List (Str × V)} {N ps : List Str} {sp : DSp}
    (G : FunD K x qual params body scope dvs kws f fd) (S : FnScope N ps scope) (len : ∀ ds M Φ Ξ, sp ds M Φ Ξ → ds.length = ps.length)
    (hbody : ∀ (cdv : Value) (A : Around) (outer : List Env) (s : Shared) (H : Hp) (E : XK), Room k (bodyCx P w K mg base N qual scope f cdv A outer s H E).A → (bodyCx P w K mg base N qual scope f cdv A outer s H E).A.guards = some [] →
      ∀ ds M Φ Ξ, sp ds M Φ Ξ → WB (bodyCx P w K mg base N qual scope f cdv A outer s H E) body (startD N ds) M { nx := fun _ M' => Φ .non M', rt := Φ, ex := fun e _ M' => Ξ e M' }) : FnD P w K mg base (k + 1) f fd ps sp := by
  obtain ⟨oc, od, dV, kV, doc, pm, an, cdv, ct, osl, rfl, lk, hcd, _, _⟩ := G.ex
  refine ⟨len, ?_⟩
  intro A outer s H args us vs ds M Φ Ξ room gd env bind rel dat sto want
  have kin : K.In s.heap := env.mod.kin.keeps fun b o e => (env.bs b o e).1
  have nl : s.heap.NoLimit := env.mod.nolimit.keeps fun b o e => (env.bs b o e).1
  have vl : vs.length = ps.length := dat.length.trans (len _ _ _ _ want)
  have kinds : ∀ y ∈ ps.zip us, scope.names.lookup y.1 = some .local ∨ (scope.names.lookup y.1 = some .cell ∧ ((cellsFrom (s.heap.objs.size + 1) scope.names []).lookup y.1).isSome = true) := by
    rintro ⟨n, v⟩ hy
    cases S.par n (List.of_mem_zip hy).1 with
    | inl q => exact .inl q
    | inr q => exact .inr ⟨q, PySem.W.cellsFrom_some _ _ _ (.inl q)⟩
  apply codeAny_call_function room.depth (kin _ _ lk) rfl S.co S.gen rfl (PySem.W.codeRec_of kin hcd)
  apply bind
  refine wpAny_newFunctionEnv_cells S.kind kinds ?_
  rintro _ rfl s1 entered
  refine ⟨nl.keeps entered.toInCall.keep, codeAny_func ?_⟩
  have inv := inv_start (CX := L2.CX P w) (E := CXq K M H Ξ) S room.hd env vl rel entered
  have run := hbody cdv A outer s H (CXq K M H Ξ) (room.deeper _) gd ds M Φ Ξ want (L2.start N vs) H (slOk_start dat) sto
    { nx := fun _ H' => CQ K M H Φ .non H', rt := CQ K M H Φ } (fun c d _ H' => CXq K M H Ξ c d H')
    ⟨fun _ _ M' H' a _ t q => ⟨.non, M', a, .non, t, q⟩, fun _ d M' _ a r t q => ⟨d, M', a, r, t, q⟩, fun _ _ _ _ a => a.elim, fun _ _ _ _ a => a.elim, fun e _ M' _ _ _ _ a r _ t q => ⟨e, M', a, r, t, q⟩⟩
    (takes_of (E := CXq K M H Ξ) rfl rfl rfl rfl)
  refine wpAny_mono (run [] s1 inv) ?_ fun _ _ z => z
  have last : ∀ (s' : Shared) (σ' : L2.St) (H' : Hp) (v : V) (u : Value), Inv (bodyCx P w K mg base N qual scope f cdv A outer s H (CXq K M H Ξ)) [] σ' H' s' → RelV v u → CQ K M H Φ v H' → CE outer P w H s (CQ K M H Φ) u s' :=
    fun _ _ H' v _ J r q => ⟨v, H', J.os, J.bare, J.base, J.hok, r, q⟩
  intro fl s' q
  match fl, q with
  | .ret u, ⟨v, σ', H', J, r, q⟩ => exact last s' σ' H' v u J r q
  | .next, ⟨σ', H', J, q⟩ => exact last s' σ' H' .non .none J rfl q
  | .brk, ⟨_, _, _, q⟩ => exact q.elim
  | .cont, ⟨_, _, _, q⟩ => exact q.elim

theorem po_body {P w K mg base N qual scope f cdv A outer s H E} : PassesOwn (model (bodyCx P w K mg base N qual scope f cdv A outer s H E).prog (bodyCx P w K mg base N qual scope f cdv A outer s H E).w) (bodyCx P w K mg base N qual scope f cdv A outer s H E).A
    (bodyCx P w K mg base N qual scope f cdv A outer s H E).env (bodyCx P w K mg base N qual scope f cdv A outer s H E).xe := PassesOwn.leaving

section
variable {X : Cx} {k : Nat} {f : Addr} {fd : FuncData} {ps : List Str} {sp : DSp}
/-- the callee runs -/
theorem run_D {pins : List (Addr × Obj)} {σ : L2.St} {H : Hp} {s : Shared} {Q : VK} {us ws : List Value} {kw : List (Str × Value)} {vs : List V} {ds : List D} {M : MS} {Φ : PD} {Ξ : PX} {W : WX}
    (F : FnD X.prog X.w X.K X.mg X.base k f fd ps sp) (hr : Room k X.A) (hg : X.A.guards = some []) (I : Inv X pins σ H s) (hb : BindsTo s fd ⟨us, kw⟩ (ps.zip ws)) (r : Vals vs ws) (dat : DRs X.K M H vs ds) (st : Sto X.K M H) (h : sp ds M Φ Ξ)
    (q : Po X.K M H Φ Q) (tk : Takes X W) (qx : PoX X.K M H Ξ (fun c d H' => W c d σ H')) : wpAny (model X.prog X.w) X.A (call (.ref f) us kw) (EP X pins σ Q) X.xe s := by
  refine wpAny_call (codeAny_mono (F.run X.A X.stack s H _ ws vs ds M Φ Ξ hr hg I.env0 hb r dat st h) ?_)
  rintro (e | fl) s' hq
  · exact tk _ _ (XE.of_call I (fun cls d H' ⟨x, M', a, b, t, s⟩ => qx x M' H' cls d a b t s) hq)
  · match fl, hq with
    | .ret u, hq =>
      obtain ⟨v, H', J, rv, d, M', a, b, t, s⟩ := I.after (Q := CQ X.K M H Φ) hq
      exact ⟨v, H', J, rv, q v d M' H' a b t s⟩
    | .next, hq => exact hq.elim
    | .brk, hq => exact hq.elim
    | .cont, hq => exact hq.elim
variable {ρ : Sl} {M : MS} {Φ : PD} {Ξ : PX}
/-- f(e, ..): all parameters given but the last ones, whose defaults are ddf -/
structure BindsD (K : PySem.W.Frag) (fd : FuncData) (ps : List Str) (ddf : List D) : Prop where
  ex : ∃ ds vs, Binds K fd ps ds ∧ Vals vs ds ∧ ∀ M H, DRs K M H vs ddf
theorem BindsD.all {K : PySem.W.Frag} {fd : FuncData} {ps : List Str} (h : Binds K fd ps []) : BindsD K fd ps [] := ⟨[], [], h, .nil, fun _ _ => .nil⟩
theorem we_call {x : Str} {p pos : Pos} {e : Expr} {es : List Expr} {ddf : List D} (F : FnD X.prog X.w X.K X.mg X.base k f fd ps sp) (hr : Room k X.A) (hgd : X.A.guards = some []) (hg : Gl X x) (hm : X.mg x = some (.ref f)) (hk : PySem.W.keepIn X.K (.ref f) = true) (hb : BindsD X.K fd ps ddf)
    (h : WA X (e :: es) ρ M (fun ds M1 => sp (ds ++ ddf) M1 Φ Ξ) Ξ) (hdb : (x == ("__debug__" : Str)) = false := by decide) (he : starEach (e :: es) X.env = (false, eval e X.env) :: starEach es X.env := by exact se_of rfl)
    (hpl : (backTo pos (starEach es X.env)).any (·.1) = false := by exact sa_of rfl) : WE X (.Call (.Name x p) (e :: es) [] pos) ρ M Φ Ξ := by
  intro σ H hs st Q q W tk qx pins s I
  obtain ⟨dv, vdf, hb, rd, dd⟩ := hb.ex
  apply wpAny_Call_Name_kw
  refine ld_glob I hg hm ?_ hdb
  refine PySem.W.callWith_K (h₀ := X.base) I.ok.mod.kin hk ?_ he hpl
  refine thn ((h σ H hs st (fun vs H1 => ∃ ds M1, sp (ds ++ ddf) M1 Φ Ξ ∧ DRs X.K M1 H1 vs ds ∧ Tr M H M1 H1 ∧ Sto X.K M1 H1) (fun vs ds M1 H1 a b t s => ⟨ds, M1, a, b, t, s⟩) W tk qx) pos pins s I) ?_
  rintro us s1 ⟨vs, H1, I1, r, ds, M1, a, b, t, st1⟩
  refine ⟨I1.kIn, ?_⟩
  have lr : (us ++ dv).length = ps.length := by
    rw [← (r.append rd).length, (b.append (dd M1 H1)).length]
    exact F.len _ _ _ _ a
  exact run_D F hr hgd I1 (hb s1 us I1.kIn lr) (r.append rd) (b.append (dd M1 H1)) st1 a (q.from t) tk (qx.from t)
theorem we_call0 {x : Str} {p pos : Pos} {ddf : List D} (F : FnD X.prog X.w X.K X.mg X.base k f fd ps sp) (hr : Room k X.A) (hgd : X.A.guards = some []) (hg : Gl X x) (hm : X.mg x = some (.ref f)) (hk : PySem.W.keepIn X.K (.ref f) = true) (hb : BindsD X.K fd ps ddf)
    (h : sp ddf M Φ Ξ) (hdb : (x == ("__debug__" : Str)) = false := by decide) : WE X (.Call (.Name x p) [] [] pos) ρ M Φ Ξ := by
  intro σ H hs st Q q W tk qx pins s I
  obtain ⟨dv, vdf, hb, rd, dd⟩ := hb.ex
  apply wpAny_Call_Name_kw
  refine ld_glob I hg hm (PySem.W.callWith_K0 I.kIn hk ?_) hdb
  have lr : ([] ++ dv).length = ps.length := by
    rw [List.nil_append, ← rd.length, (dd M H).length]
    exact F.len _ _ _ _ h
  exact run_D F hr hgd I (hb s [] I.kIn lr) rd (dd M H) st h q tk qx
/-- keyword arguments, from the left -/
def WK (X : Cx) (kws : List Keyword) (ρ : Sl) (M : MS) (Φ : PDs) (Ξ : PX) : Prop := ∀ σ H, SlOk X.K M H σ ρ → Sto X.K M H → ∀ Q, PoA X.K M H Φ Q → ∀ W, Takes X W → PoX X.K M H Ξ (fun c d H' => W c d σ H') →
  ∀ pos pins s, Inv X pins σ H s → wpAny (model X.prog X.w) X.A (evalAll ((backToKw pos (keywordEach kws X.env)).map (·.2))) (AP X pins σ Q) X.xe s
def wK (X : Cx) (kws : List Keyword) : TA := fun σ H Q => ∀ pos pins s, Inv X pins σ H s → wpAny (model X.prog X.w) X.A (evalAll ((backToKw pos (keywordEach kws X.env)).map (·.2))) (AP X pins σ Q) X.xe s
theorem pK {kws : List Keyword} : PK X kws (wK X kws) := ⟨fun pos pins s _ _ _ I h => h pos pins s I⟩
theorem wk_nil {Φ : PDs} (h : Φ [] M) : WK X [] ρ M Φ Ξ := fun σ H hs st Q q W tk qx pos pins s I => pk_nil.run pos pins s σ H Q I (q [] [] M H h .nil (Tr.refl _ _) st)
theorem wk_cons {e : Expr} {nm} {kp} {kws : List Keyword} {Φ : PDs} (h : WE X e ρ M (fun d M1 => WK X kws ρ M1 (fun ds M2 => Φ (d :: ds) M2) Ξ) Ξ) : WK X (⟨nm, e, kp⟩ :: kws) ρ M Φ Ξ := fun σ H hσ st Q q W tk qx pos pins s I =>
  (pk_cons (nm := nm) (kpos := kp) pE (pK (kws := kws))).run pos pins s σ H Q I (by
    refine h σ H hσ st _ (fun x d M1 H1 ha hx t1 s1 => ?_) W tk qx
    intro pos pins s I
    exact ha σ H1 (hσ.mono t1) s1 _ (fun vs ds M2 H2 hb hy t2 s2 => q _ _ M2 H2 hb (.cons (hx.mono t2) hy) (t1.trans t2) s2) W tk (qx.from t1) pos pins s I)
/-- how n written values and the keywords ks become the parameters' values -/
structure KB (K : PySem.W.Frag) (fd : FuncData) (ps : List Str) (n : Nat) (ks : List Str) (g : List D → List D → List D) : Prop where
  ex : ∃ (gu : List Value → List Value → List Value) (gv : List V → List V → List V), (∀ (s : Shared) (us ws : List Value), K.In s.heap → us.length = n → ws.length = ks.length → BindsTo s fd ⟨us, ks.zip ws⟩ (ps.zip (gu us ws))) ∧
    (∀ {vs us zs ws}, Vals vs us → Vals zs ws → vs.length = n → zs.length = ks.length → Vals (gv vs zs) (gu us ws)) ∧ (∀ {M H vs ds zs es}, DRs K M H vs ds → DRs K M H zs es → ds.length = n → es.length = ks.length → DRs K M H (gv vs zs) (g ds es))
theorem we_callK {x : Str} {p pos : Pos} {e : Expr} {es : List Expr} {kws : List Keyword} {n : Nat} {ks : List Str} {g : List D → List D → List D} (F : FnD X.prog X.w X.K X.mg X.base k f fd ps sp) (hr : Room k X.A) (hgd : X.A.guards = some []) (hg : Gl X x) (hm : X.mg x = some (.ref f)) (hk : PySem.W.keepIn X.K (.ref f) = true)
    (hb : KB X.K fd ps n ks g) (h : WA X (e :: es) ρ M (fun ds M1 => WK X kws ρ M1 (fun zs M2 => ds.length = n ∧ zs.length = ks.length ∧ sp (g ds zs) M2 Φ Ξ) Ξ) Ξ)
    (hall : (backToKw pos (keywordEach kws X.env)).all (·.1.isSome) = true := by rfl) (hks : (backToKw pos (keywordEach kws X.env)).filterMap (·.1) = ks := by rfl) (hdb : (x == ("__debug__" : Str)) = false := by decide) (he : starEach (e :: es) X.env = (false, eval e X.env) :: starEach es X.env := by exact se_of rfl)
    (hpl : ((backTo pos (starEach (e :: es) X.env)).any (·.1) || (backToKw pos (keywordEach kws X.env)).any (·.1.isNone)) = false := by rfl) : WE X (.Call (.Name x p) (e :: es) kws pos) ρ M Φ Ξ := by
  intro σ H hs st Q q W tk qx pins s I
  obtain ⟨gu, gv, hb, hv, hd⟩ := hb.ex
  apply wpAny_Call_Name_kw
  refine ld_glob I hg hm ?_ hdb
  refine PySem.W.callWith_KW (h₀ := X.base) I.ok.mod.kin hk hall ?_ hpl he
  refine thn ((h σ H hs st (fun vs H1 => ∃ ds M1, WK X kws ρ M1 (fun zs M2 => ds.length = n ∧ zs.length = ks.length ∧ sp (g ds zs) M2 Φ Ξ) Ξ ∧ DRs X.K M1 H1 vs ds ∧ Tr M H M1 H1 ∧ Sto X.K M1 H1) (fun vs ds M1 H1 a b t s => ⟨ds, M1, a, b, t, s⟩) W tk qx) pos pins s I) ?_
  rintro us s1 ⟨vs, H1, I1, r, ds, M1, a, b, t, st1⟩
  refine thn (a σ H1 (hs.mono t) st1 (fun zs H2 => ∃ es M2, (ds.length = n ∧ es.length = ks.length ∧ sp (g ds es) M2 Φ Ξ) ∧ DRs X.K M2 H2 zs es ∧ Tr M1 H1 M2 H2 ∧ Sto X.K M2 H2) (fun vs ds M1 H1 a b t s => ⟨ds, M1, a, b, t, s⟩) W tk (qx.from t) pos pins s1 I1) ?_
  rintro ws s2 ⟨zs, H2, I2, rz, ez, M2, ⟨l1, l2, a2⟩, b2, t2, st2⟩
  refine ⟨I2.kIn, ?_⟩
  rw [hks]
  have e1 : vs.length = n := b.length.trans l1
  have e2 : zs.length = ks.length := b2.length.trans l2
  exact run_D F hr hgd I2 (hb s2 us ws I2.kIn (r.length.symm.trans e1) (rz.length.symm.trans e2)) (hv r rz e1 e2) (hd (b.mono t2) b2 l1 l2) st2 a2 ((q.from t).from t2) tk ((qx.from t).from t2)
theorem we_callK0 {x : Str} {p pos : Pos} {kws : List Keyword} {ks : List Str} {g : List D → List D → List D} (F : FnD X.prog X.w X.K X.mg X.base k f fd ps sp) (hr : Room k X.A) (hgd : X.A.guards = some []) (hg : Gl X x) (hm : X.mg x = some (.ref f)) (hk : PySem.W.keepIn X.K (.ref f) = true)
    (hb : KB X.K fd ps 0 ks g) (h : WK X kws ρ M (fun zs M2 => zs.length = ks.length ∧ sp (g [] zs) M2 Φ Ξ) Ξ)
    (hall : (backToKw pos (keywordEach kws X.env)).all (·.1.isSome) = true := by rfl) (hks : (backToKw pos (keywordEach kws X.env)).filterMap (·.1) = ks := by rfl) (hdb : (x == ("__debug__" : Str)) = false := by decide)
    (hpl : ((backTo pos (starEach [] X.env)).any (·.1) || (backToKw pos (keywordEach kws X.env)).any (·.1.isNone)) = false := by rfl) : WE X (.Call (.Name x p) [] kws pos) ρ M Φ Ξ := by
  intro σ H hs st Q q W tk qx pins s I
  obtain ⟨gu, gv, hb, hv, hd⟩ := hb.ex
  apply wpAny_Call_Name_kw
  refine ld_glob I hg hm ?_ hdb
  refine PySem.W.callWith_KW0 (h₀ := X.base) I.ok.mod.kin hk hall ?_ hpl
  refine thn (h σ H hs st (fun zs H2 => ∃ es M2, (es.length = ks.length ∧ sp (g [] es) M2 Φ Ξ) ∧ DRs X.K M2 H2 zs es ∧ Tr M H M2 H2 ∧ Sto X.K M2 H2) (fun vs ds M1 H1 a b t s => ⟨ds, M1, a, b, t, s⟩) W tk qx pos pins s I) ?_
  rintro ws s2 ⟨zs, H2, I2, rz, ez, M2, ⟨l2, a2⟩, b2, t2, st2⟩
  refine ⟨I2.kIn, ?_⟩
  rw [hks]
  have e2 : zs.length = ks.length := b2.length.trans l2
  exact run_D F hr hgd I2 (hb s2 [] ws I2.kIn rfl (rz.length.symm.trans e2)) (hv .nil rz rfl e2) (hd .nil b2 rfl l2) st2 a2 (q.from t2) tk (qx.from t2)
end
end DL

set_option Elab.async false
set_option linter.all false
set_option maxRecDepth 100000
set_option maxHeartbeats 4000000
namespace DL
open PySem PySem.Spec PyProof.Rows L2

/-! ### plain data -/
def keyP : Key → PyData
  | .inl i => .int i
  | .inr x => .str x
mutual
def toP : D → Option PyData
  | .non => some .none
  | .bl b => some (.bool b)
  | .int i => some (.int i)
  | .str x => some (.str x)
  | .lst xs => (toPs xs).map .list
  | .tup xs => (toPs xs).map .tuple
  | .dct ks vs => (toPs vs).map fun ps => .dict ((ks.map keyP).zip ps)
  | .ins _ _ _ => none
  | .raw _ => none
  | .scr _ => none
def toPs : List D → Option (List PyData)
  | [] => some []
  | x :: xs => (toP x).bind fun p => (toPs xs).map fun ps => p :: ps
end
theorem toPs_length : ∀ {xs : List D} {ps : List PyData}, toPs xs = some ps → ps.length = xs.length
  | [], _, h => by
    simp only [toPs, Option.some.injEq] at h
    subst h
    rfl
  | x :: xs, _, h => by
    simp only [toPs, Option.bind_eq_some_iff, Option.map_eq_some_iff] at h
    obtain ⟨p, _, ps, h2, rfl⟩ := h
    simp [toPs_length h2]
theorem pairs_keys {P : Program} {w : World} : ∀ {es : List DictEntry} {kvs : List (Key × Value)}, Pairs (mixKind P w) es kvs → ∀ {h : Heap}, ReadsAll h (es.map (·.key)) ((kvs.map (·.1)).map keyP) []
  | _, _, .nil, _ => .nil
  | e :: es, (k, v) :: kvs, .cons h1 h2 t, h => by
    have q := pairs_keys t (h := h)
    have r1 : Reads h e.key (keyP k) [] := by
      rcases keyIs_shape (k := k) (v := e.key) h1 with ⟨i, t, rfl, e1⟩ | ⟨x, t, rfl, e1⟩
      · rw [e1]; exact .int i t
      · rw [e1]; exact .str x t
    exact ReadsAll.cons (as := []) (bs := []) r1 q
theorem pairs_vals {P : Program} {w : World} : ∀ {es : List DictEntry} {kvs : List (Key × Value)}, Pairs (mixKind P w) es kvs → es.map (·.val) = kvs.map (·.2)
  | _, _, .nil => rfl
  | e :: es, (k, v) :: kvs, .cons h1 h2 t => by
    rw [List.map_cons, List.map_cons, pairs_vals t, h2]
theorem kv_split : ∀ {kvs : List (Key × V)} {vs : List (Key × Value)}, L2.KV kvs vs → kvs.map (·.1) = vs.map (·.1) ∧ Vals (kvs.map (·.2)) (vs.map (·.2))
  | _, _, .nil => ⟨rfl, .nil⟩
  | _, _, .cons h t => ⟨by rw [List.map_cons, List.map_cons, h.1, (kv_split t).1], .cons h.2 (kv_split t).2⟩
theorem nm {a : Addr} (h : (a == sysModules) = false) : sysModules ≠ a := fun e => by
  rw [e] at h
  exact absurd (beq_self_eq_true a) (by rw [h]; exact Bool.false_ne_true)
section
variable {X : Cx} {pins : List (Addr × Obj)} {σ : L2.St} {H : Hp} {s : Shared} {M : MS}
/-- lists and tuples at the place of sys.modules: none, for that is a dict's place in the base -/
theorem dict_of_hok {a : Addr} {o : HO} {kvs : List (Key × V)} (I : Inv X pins σ H s) (h : H a = some o) (e : Lk o = .dK kvs) : (a == sysModules) = false ∧ ∃ vs, L2.KV kvs vs ∧ s.heap.DictOf (mixKind X.prog X.w) a vs := by
  have q := I.hok a o h
  unfold Lk at e
  split at e
  · cases e
    obtain ⟨_, _, h1, h2⟩ := q
    exact ⟨h1, h2⟩
  · subst e
    obtain ⟨_, h1, h2⟩ := q
    exact ⟨h1, h2⟩
mutual
theorem DR.reads (I : Inv X pins σ H s) : ∀ (d : D) (p : PyData) (v : V) (u : Value), DR X.K M H v d → toP d = some p → RelV v u → ∃ as, Reads s.heap u p as ∧ (∀ a ∈ as, ∃ o, s.heap.get? a = some o ∧ (o.cls = .type "list" ∨ (a == sysModules) = false))
  | .non, _, _, _, h, e, r => by
    cases h; cases r; cases e
    exact ⟨_, .none, fun _ z => nomatch z⟩
  | .bl b, _, _, _, h, e, r => by
    cases h; cases r; cases e
    exact ⟨_, .bool b, fun _ z => nomatch z⟩
  | .int i, _, _, _, h, e, r => by
    cases h
    obtain ⟨t, rfl⟩ := r
    cases e
    exact ⟨_, .int i t, fun _ z => nomatch z⟩
  | .str x, _, _, _, h, e, r => by
    cases h
    obtain ⟨t, rfl⟩ := r
    cases e
    exact ⟨_, .str x t, fun _ z => nomatch z⟩
  | .lst ds, p, v, u, h, e, r => by
    obtain ⟨a, xs, rfl, ha, q⟩ := h.lstE
    cases r
    simp only [toP, Option.map_eq_some_iff] at e
    obtain ⟨ps, e1, rfl⟩ := e
    obtain ⟨its, rv, ⟨o, n, ho, hc, _, hd⟩, _⟩ := I.list (SqL.of ha)
    obtain ⟨as, hr, hm⟩ := DRs.reads I ds ps xs its q e1 rv
    refine ⟨_, .list ho hc hd hr, fun b hb => ?_⟩
    rcases List.mem_cons.mp hb with rfl | hb
    · exact ⟨o, ho, .inl hc⟩
    · exact hm b hb
  | .tup ds, p, v, u, h, e, r => by
    obtain ⟨a, xs, rfl, ha, q⟩ := h.tupE
    cases r
    simp only [toP, Option.map_eq_some_iff] at e
    obtain ⟨ps, e1, rfl⟩ := e
    obtain ⟨its, rv, ⟨o, ho, hc, n, hd⟩, _⟩ := I.tuple ha
    obtain ⟨as, hr, hm⟩ := DRs.reads I ds ps xs its q e1 rv
    exact ⟨_, .tuple ho hc hd hr, hm⟩
  | .dct ks ds, p, v, u, h, e, r => by
    simp only [toP, Option.map_eq_some_iff] at e
    obtain ⟨ps, e1, rfl⟩ := e
    cases h with
    | dct hm ha lk hk q =>
      cases r
      obtain ⟨ns, vs, kv, o, es, ep, ho, ex, hd, _, pr, _⟩ := dict_of_hok I ha lk
      obtain ⟨k1, k2⟩ := kv_split kv
      obtain ⟨as, hr, hmm⟩ := DRs.reads I ds ps _ _ q e1 k2
      have hks : (ks.map keyP).length = ps.length := by
        rw [toPs_length e1, ← q.length, List.length_map, ← hk, List.length_map, List.length_map]
      have r1 := pairs_keys pr (h := s.heap)
      rw [← k1, hk] at r1
      rw [← pairs_vals pr] at hr
      have z1 : (((ks.map keyP).zip ps).map (·.1)) = ks.map keyP := by rw [List.map_fst_zip]; omega
      have z2 : (((ks.map keyP).zip ps).map (·.2)) = ps := by rw [List.map_snd_zip]; omega
      refine ⟨_, .dict (as := []) (bs := as) ho ex.1 hd (by rw [z1]; exact r1) (by rw [z2]; exact hr), fun b hb => ?_⟩
      rcases List.mem_cons.mp hb with rfl | hb
      · exact ⟨o, ho, .inr ns⟩
      · exact hmm b (by simpa using hb)
  | .ins _ _ _, _, _, _, _, e, _ => by cases e
  | .raw _, _, _, _, _, e, _ => by cases e
  | .scr _, _, _, _, _, e, _ => by cases e
theorem DRs.reads (I : Inv X pins σ H s) : ∀ (ds : List D) (ps : List PyData) (vs : List V) (us : List Value), DRs X.K M H vs ds → toPs ds = some ps → Vals vs us → ∃ as, ReadsAll s.heap us ps as ∧ (∀ a ∈ as, ∃ o, s.heap.get? a = some o ∧ (o.cls = .type "list" ∨ (a == sysModules) = false))
  | [], _, _, _, h, e, r => by
    cases h; cases r
    simp only [toPs, Option.some.injEq] at e
    subst e
    exact ⟨_, .nil, fun _ z => nomatch z⟩
  | d :: ds, _, _, _, h, e, r => by
    simp only [toPs, Option.bind_eq_some_iff, Option.map_eq_some_iff] at e
    obtain ⟨p, e1, ps, e2, rfl⟩ := e
    cases h with
    | cons h1 h2 =>
      cases r with
      | cons r1 r2 =>
        obtain ⟨as, q1, m1⟩ := DR.reads I d p _ _ h1 e1 r1
        obtain ⟨bs, q2, m2⟩ := DRs.reads I ds ps _ _ h2 e2 r2
        exact ⟨_, .cons q1 q2, fun a ha => (List.mem_append.mp ha).elim (m1 a) (m2 a)⟩
end
end

/-! ### ==, != of plain data -/
section
variable {X : Cx} {ρ : Sl} {M : MS} {Φ : PD} {Ξ : PX}
def rEqP (K : PySem.W.Frag) : R2 := fun x y H Q => ∃ M d e p q, DR K M H x d ∧ DR K M H y e ∧ toP d = some p ∧ toP e = some q ∧ SeqAt.shaped p = true ∧ SeqAt.shaped q = true ∧ Q (.bl (PyData.eqv p q)) H
def rNeP (K : PySem.W.Frag) : R2 := fun x y H Q => ∃ M d e p q, DR K M H x d ∧ DR K M H y e ∧ toP d = some p ∧ toP e = some q ∧ SeqAt.shaped p = true ∧ SeqAt.shaped q = true ∧ Q (.bl (!PyData.eqv p q)) H
theorem op_eqP (hu : X.A.units + 64 < cLine) : OpR X (compareOp .Eq) (rEqP X.K) := by
  rintro pins s σ H x y v u Q I rx ry ⟨M, d, e, p, q, hd, he, hp, hq, sd, se, k⟩
  obtain ⟨as, r1, _⟩ := DR.reads I d p x v hd hp rx
  obtain ⟨bs, r2, _⟩ := DR.reads I e q y u he hq ry
  exact SeqAt.compareEq_shaped r1 r2 sd se hu ⟨.bl _, H, I, rfl, k⟩
theorem op_neP (hu : X.A.units + 64 < cLine) : OpR X (compareOp .NotEq) (rNeP X.K) := by
  rintro pins s σ H x y v u Q I rx ry ⟨M, d, e, p, q, hd, he, hp, hq, sd, se, k⟩
  obtain ⟨as, r1, _⟩ := DR.reads I d p x v hd hp rx
  obtain ⟨bs, r2, _⟩ := DR.reads I e q y u he hq ry
  exact SeqAt.compareNe_shaped r1 r2 sd se hu ⟨.bl _, H, I, rfl, k⟩
theorem od_eq {dx dy : D} {p q : PyData} (hp : toP dx = some p) (hq : toP dy = some q) (sd : SeqAt.shaped p = true) (se : SeqAt.shaped q = true) (h : Φ (.bl (PyData.eqv p q)) M) : OD X.K (rEqP X.K) dx dy M Φ := fun x y H hx hy st Q k =>
  ⟨M, dx, dy, p, q, hx, hy, hp, hq, sd, se, k _ _ M H h (.bl _) (Tr.refl _ _) st⟩
theorem od_ne {dx dy : D} {p q : PyData} (hp : toP dx = some p) (hq : toP dy = some q) (sd : SeqAt.shaped p = true) (se : SeqAt.shaped q = true) (h : Φ (.bl (!PyData.eqv p q)) M) : OD X.K (rNeP X.K) dx dy M Φ := fun x y H hx hy st Q k =>
  ⟨M, dx, dy, p, q, hx, hy, hp, hq, sd, se, k _ _ M H h (.bl _) (Tr.refl _ _) st⟩

/-! ### other operators -/
theorem od_addS {a b : Str} (hl : a.length + b.length ≤ sizeLine) (h : Φ (.str (a ++ b)) M) : OD X.K (fun x y H Q => ∃ i j, x = .str i ∧ y = .str j ∧ i.length + j.length ≤ sizeLine ∧ Q (.str (i ++ j)) H) (.str a) (.str b) M Φ := fun x y H hx hy st Q q => by
  cases hx
  cases hy
  exact ⟨a, b, rfl, rfl, hl, q _ _ M H h (.str _) (Tr.refl _ _) st⟩
theorem od_ltS {a b : Str} (h : Φ (.bl (decide (a.cps.toList < b.cps.toList))) M) : OD X.K (fun x y H Q => ∃ i j, x = .str i ∧ y = .str j ∧ Q (.bl (decide (i.cps.toList < j.cps.toList))) H) (.str a) (.str b) M Φ := fun x y H hx hy st Q q => by
  cases hx
  cases hy
  exact ⟨a, b, rfl, rfl, q _ _ M H h (.bl _) (Tr.refl _ _) st⟩
theorem od_strs {f : Str → Str → Bool} {a b : Str} (h : Φ (.bl (f a b)) M) : OD X.K (fun x y H Q => ∃ i j, x = .str i ∧ y = .str j ∧ Q (.bl (f i j)) H) (.str a) (.str b) M Φ := fun x y H hx hy st Q q => by
  cases hx
  cases hy
  exact ⟨a, b, rfl, rfl, q _ _ M H h (.bl _) (Tr.refl _ _) st⟩
/-- list + list -/
theorem od_cat {xs ys : List D} (hl : xs.length + ys.length ≤ sizeLine) (h : Φ (.lst (xs ++ ys)) M) : OD X.K rCat (.lst xs) (.lst ys) M Φ := fun x y H hx hy st Q q => by
  obtain ⟨a, vs, rfl, ha, r1⟩ := hx.lstE
  obtain ⟨b, ws, rfl, hb, r2⟩ := hy.lstE
  refine ⟨a, b, vs, ws, rfl, rfl, ha, hb, by rw [r1.length, r2.length]; exact hl, fun p hp => ?_⟩
  exact q _ _ M _ h (.lst (st.fresh hp) upd_same ((r1.append r2).mono (Tr.new hp))) (Tr.new hp) (st.new hp)
theorem DRs.rep {K : PySem.W.Frag} {H : Hp} {vs : List V} {ds : List D} (r : DRs K M H vs ds) : ∀ n : Nat, DRs K M H (List.replicate n vs).flatten (List.replicate n ds).flatten
  | 0 => .nil
  | n + 1 => by
    rw [List.replicate_succ, List.replicate_succ, List.flatten_cons, List.flatten_cons]
    exact r.append (DRs.rep r n)
/-- list * int -/
theorem od_rep {xs : List D} {k : Int} (h1 : -(2 ^ 63) ≤ k) (h2 : k < 2 ^ 63) (hl : xs.length * k.toNat ≤ sizeLine) (h : Φ (.lst (List.replicate k.toNat xs).flatten) M) : OD X.K rRep (.lst xs) (.int k) M Φ := fun x y H hx hy st Q q => by
  obtain ⟨a, vs, rfl, ha, r1⟩ := hx.lstE
  cases hy
  refine ⟨a, k, vs, rfl, rfl, ha, h1, h2, by rw [r1.length]; exact hl, fun p hp => ?_⟩
  exact q _ _ M _ h (.lst (st.fresh hp) upd_same ((r1.rep _).mono (Tr.new hp))) (Tr.new hp) (st.new hp)
/-- tuple + tuple -/
theorem od_catT {xs ys : List D} (hl : xs.length + ys.length ≤ sizeLine) (h : Φ (.tup (xs ++ ys)) M) : OD X.K (rCatA X.K) (.tup xs) (.tup ys) M Φ := fun x y H hx hy st Q q => by
  obtain ⟨a, vs, rfl, ha, r1⟩ := id hx.tupE
  obtain ⟨b, ws, rfl, hb, r2⟩ := id hy.tupE
  refine ⟨a, b, vs, ws, rfl, rfl, ha, hb, by rw [r1.length, r2.length]; exact hl, fun e => ?_, fun _ e => ?_, fun _ _ p hp => ?_⟩
  · subst e
    cases r1
    exact q _ _ M H h hy (Tr.refl _ _) st
  · subst e
    cases r2
    rw [List.append_nil] at h
    exact q _ _ M H h hx (Tr.refl _ _) st
  · exact q _ _ M _ h (.tup (st.fresh hp) upd_same ((r1.append r2).mono (Tr.new hp))) (Tr.new hp) (st.new hp)
/-! ### an item -/
theorem atI_map {xs : List V} {ds : List D} {H : Hp} (r : DRs X.K M H xs ds) {i : Int} {d : D} (h : atI ds i = some d) : ∃ v, atI xs i = some v ∧ DR X.K M H v d := by
  unfold atI at h ⊢
  rw [r.length]
  cases e : ixN ds.length i with
  | none => rw [e] at h; cases h
  | some j =>
    rw [e] at h
    exact r.get h
theorem od_ixL {ds : List D} {i : Int} {d : D} (h : atI ds i = some d) (hΦ : Φ d M) : OD X.K (rIxL X.K) (.lst ds) (.int i) M Φ := fun x y H hx hy st Q q => by
  obtain ⟨a, vs, rfl, ha, r1⟩ := hx.lstE
  cases hy
  obtain ⟨v, h1, h2⟩ := atI_map r1 h
  exact ⟨a, vs, i, v, rfl, rfl, SqL.of ha, h1, q v d M H hΦ h2 (Tr.refl _ _) st⟩
/-- an item of a list that may change -/
theorem od_ixM {p : Addr} {ds : List D} {i : Int} {d : D} (hm : M p = some (.lst ds)) (h : atI ds i = some d) (hΦ : Φ d M) : OD X.K (rIxL X.K) (.raw (.ref p)) (.int i) M Φ := fun x y H hx hy st Q q => by
  cases hx
  cases hy
  obtain ⟨vs, ha, r1⟩ := st p _ hm
  obtain ⟨v, h1, h2⟩ := atI_map r1 h
  exact ⟨p, vs, i, v, rfl, rfl, SqL.of ha, h1, q v d M H hΦ h2 (Tr.refl _ _) st⟩
theorem od_ixT {ds : List D} {i : Int} {d : D} (h : atI ds i = some d) (hΦ : Φ d M) : OD X.K (rIxT X.K) (.tup ds) (.int i) M Φ := fun x y H hx hy st Q q => by
  obtain ⟨a, vs, rfl, ha, r1⟩ := hx.tupE
  cases hy
  obtain ⟨v, h1, h2⟩ := atI_map r1 h
  exact ⟨a, vs, i, v, rfl, rfl, ha, h1, q v d M H hΦ h2 (Tr.refl _ _) st⟩
theorem od_ixS {z : Str} {i : Int} {c : Nat} (hl : z.length ≤ sizeLine) (h : atI z.cps.toList i = some c) (hΦ : Φ (.str ⟨#[c]⟩) M) : OD X.K rIxS (.str z) (.int i) M Φ := fun x y H hx hy st Q q => by
  cases hx
  cases hy
  exact ⟨z, i, c, rfl, rfl, hl, h, q _ _ M H hΦ (.str _) (Tr.refl _ _) st⟩
/-! ### in, not in -/
def flatD : D → Bool
  | .non => true
  | .bl _ => true
  | .int _ => true
  | .str _ => true
  | _ => false
def flatV' : D → V
  | .bl b => .bl b
  | .int i => .int i
  | .str x => .str x
  | _ => .non
theorem flat_of {K : PySem.W.Frag} {H : Hp} {v : V} {d : D} (f : flatD d = true) (r : DR K M H v d) : v = flatV' d ∧ flatV v = true := by
  cases r <;> first | exact ⟨rfl, rfl⟩ | exact absurd (show false = true from f) Bool.false_ne_true
theorem flats_of {K : PySem.W.Frag} {H : Hp} : ∀ {vs : List V} {ds : List D}, ds.all flatD = true → DRs K M H vs ds → vs = ds.map flatV' ∧ vs.all flatV = true
  | _, _, _, .nil => ⟨rfl, rfl⟩
  | v :: vs, d :: ds, f, .cons r t => by
    rw [List.all_cons, Bool.and_eq_true] at f
    obtain ⟨h1, h2⟩ := flat_of f.1 r
    obtain ⟨h3, h4⟩ := flats_of f.2 t
    exact ⟨by rw [List.map_cons, ← h1, ← h3], by rw [List.all_cons, h2, h4]; rfl⟩
def inD (x : D) (xs : List D) : Bool := inV (flatV' x) (xs.map flatV')
theorem od_in {neg : Bool} {x : D} {ds : List D} {c : D} (hc : c = .lst ds ∨ c = .tup ds) (fx : flatD x = true) (fs : ds.all flatD = true) (h : Φ (.bl (if neg then !inD x ds else inD x ds)) M) : OD X.K (rIn X.K neg) x c M Φ := fun v y H hx hy st Q q => by
  obtain ⟨e1, f1⟩ := flat_of fx hx
  rcases hc with rfl | rfl
  · obtain ⟨a, vs, rfl, ha, r1⟩ := hy.lstE
    obtain ⟨e2, f2⟩ := flats_of fs r1
    refine ⟨a, vs, rfl, .inl (SqL.of ha), f1, f2, q _ _ M H h ?_ (Tr.refl _ _) st⟩
    rw [e1, e2]
    exact .bl _
  · obtain ⟨a, vs, rfl, ha, r1⟩ := hy.tupE
    obtain ⟨e2, f2⟩ := flats_of fs r1
    refine ⟨a, vs, rfl, .inr ha, f1, f2, q _ _ M H h ?_ (Tr.refl _ _) st⟩
    rw [e1, e2]
    exact .bl _

/-! ### calls of built-in functions -/
def CD (K : PySem.W.Frag) (r : List V → Hp → VK → Prop) (ds : List D) (M : MS) (Φ : PD) : Prop := ∀ xs H, DRs K M H xs ds → Sto K M H → ∀ Q, Po K M H Φ Q → r xs H Q
section
variable {x : Str} {p pos : Pos} {e : Expr} {es : List Expr} {id T : String} {r : List V → Hp → VK → Prop}
theorem we_blt (hc : CallR X (.builtin id) r) (hg : Gl X x) (hm : X.mg x = none) (hv : bootBuiltins x = some (.builtin id)) (h : WA X (e :: es) ρ M (fun ds M1 => CD X.K r ds M1 Φ) Ξ) (hn : x ≠ "__name__" := by decide) (hdb : (x == ("__debug__" : Str)) = false := by decide)
    (he : starEach (e :: es) X.env = (false, eval e X.env) :: starEach es X.env := by exact se_of rfl) (hpl : (backTo pos (starEach es X.env)).any (·.1) = false := by exact sa_of rfl) : WE X (.Call (.Name x p) (e :: es) [] pos) ρ M Φ Ξ := fun σ H hs st Q q W tk qx =>
  wE.of (pe_callB hc hg hm hv pA hn hdb he hpl) (h σ H hs st _ (fun vs ds M1 H1 a b t s => a vs H1 b s Q (q.from t)) W tk qx)
theorem we_ty (hc : CallR X (.type T) r) (hg : Gl X x) (hm : X.mg x = none) (hv : bootBuiltins x = some (.type T)) (h : WA X (e :: es) ρ M (fun ds M1 => CD X.K r ds M1 Φ) Ξ) (hn : x ≠ "__name__" := by decide) (hdb : (x == ("__debug__" : Str)) = false := by decide)
    (he : starEach (e :: es) X.env = (false, eval e X.env) :: starEach es X.env := by exact se_of rfl) (hpl : (backTo pos (starEach es X.env)).any (·.1) = false := by exact sa_of rfl) : WE X (.Call (.Name x p) (e :: es) [] pos) ρ M Φ Ξ := fun σ H hs st Q q W tk qx =>
  wE.of (pe_callTy hc hg hm hv pA hn hdb he hpl) (h σ H hs st _ (fun vs ds M1 H1 a b t s => a vs H1 b s Q (q.from t)) W tk qx)
end
theorem DRs.one {K : PySem.W.Frag} {H : Hp} {xs : List V} {d : D} (h : DRs K M H xs [d]) : ∃ v, xs = [v] ∧ DR K M H v d := by
  cases h with
  | cons a b =>
    cases b
    exact ⟨_, rfl, a⟩
theorem DRs.pair {K : PySem.W.Frag} {H : Hp} {xs : List V} {d e : D} (h : DRs K M H xs [d, e]) : ∃ v w, xs = [v, w] ∧ DR K M H v d ∧ DR K M H w e := by
  cases h with
  | cons a b =>
    obtain ⟨w, rfl, c⟩ := b.one
    exact ⟨_, w, rfl, a, c⟩
/-- what len tells of data -/
def lenD (M : MS) : D → Option Nat
  | .str z => if z.length ≤ sizeLine then some z.length else none
  | .lst ds => some ds.length
  | .tup ds => some ds.length
  | .raw (.ref p) => match M p with
    | some (.lst ds) => some ds.length
    | _ => none
  | _ => none
theorem cd_len {d : D} {n : Nat} (h : lenD M d = some n) (hΦ : Φ (.int n) M) : CD X.K (fun xs H Q => ∃ x n, xs = [x] ∧ LenV X.K x H n ∧ Q (.int n) H) [d] M Φ := fun xs H hx st Q q => by
  obtain ⟨v, rfl, r⟩ := hx.one
  refine ⟨v, n, rfl, ?_, q _ _ M H hΦ (.int _) (Tr.refl _ _) st⟩
  unfold lenD at h
  split at h
  · cases r
    split at h
    · rename_i hl
      cases h
      exact ⟨hl, rfl⟩
    · cases h
  · cases h
    obtain ⟨a, vs, rfl, ha, r1⟩ := r.lstE
    exact .inl ⟨vs, SqL.of ha, r1.length.symm⟩
  · cases h
    obtain ⟨a, vs, rfl, ha, r1⟩ := r.tupE
    exact .inr ⟨vs, ha, r1.length.symm⟩
  · cases r
    split at h
    · rename_i ds hp
      cases h
      obtain ⟨vs, ha, r1⟩ := st _ _ hp
      exact .inl ⟨vs, SqL.of ha, r1.length.symm⟩
    · cases h
  · cases h
theorem cd_int {i : Int} (hΦ : Φ (.int i) M) : CD X.K (fun xs H Q => (∃ i, xs = [.int i] ∧ Q (.int i) H) ∨ ∃ k, xs = [.bl k] ∧ Q (.int (if k then 1 else 0)) H) [.int i] M Φ := fun xs H hx st Q q => by
  obtain ⟨v, rfl, r⟩ := hx.one
  cases r
  exact .inl ⟨i, rfl, q _ _ M H hΦ (.int _) (Tr.refl _ _) st⟩
theorem cd_intB {k : Bool} (hΦ : Φ (.int (if k then 1 else 0)) M) : CD X.K (fun xs H Q => (∃ i, xs = [.int i] ∧ Q (.int i) H) ∨ ∃ k, xs = [.bl k] ∧ Q (.int (if k then 1 else 0)) H) [.bl k] M Φ := fun xs H hx st Q q => by
  obtain ⟨v, rfl, r⟩ := hx.one
  cases r
  exact .inr ⟨k, rfl, q _ _ M H hΦ (.int _) (Tr.refl _ _) st⟩
theorem cd_abs {i : Int} (hΦ : Φ (.int (if i < 0 then -i else i)) M) : CD X.K (fun xs H Q => ∃ i, xs = [.int i] ∧ Q (.int (if i < 0 then -i else i)) H) [.int i] M Φ := fun xs H hx st Q q => by
  obtain ⟨v, rfl, r⟩ := hx.one
  cases r
  exact ⟨i, rfl, q _ _ M H hΦ (.int _) (Tr.refl _ _) st⟩
theorem cd_strI {i : Int} (hs : i.natAbs.log2 < 1920) (hΦ : Φ (.str (toString i)) M) : CD X.K (fun xs H Q => ∃ i, xs = [.int i] ∧ i.natAbs.log2 < 1920 ∧ Q (.str (toString i)) H) [.int i] M Φ := fun xs H hx st Q q => by
  obtain ⟨v, rfl, r⟩ := hx.one
  cases r
  exact ⟨i, rfl, hs, q _ _ M H hΦ (.str _) (Tr.refl _ _) st⟩
theorem bls_of {K : PySem.W.Frag} {H : Hp} : ∀ {bs : List Bool} {vs : List V}, DRs K M H vs (bs.map D.bl) → vs = bs.map V.bl
  | [], _, h => by cases h; rfl
  | b :: bs, _, h => by
    cases h with
    | cons a t =>
      cases a
      rw [bls_of t]
      rfl
theorem cd_all {bs : List Bool} (hΦ : Φ (.bl (bs.all id)) M) : CD X.K (rAll X.K) [.lst (bs.map D.bl)] M Φ := fun xs H hx st Q q => by
  obtain ⟨v, rfl, r⟩ := hx.one
  obtain ⟨a, vs, rfl, ha, r1⟩ := r.lstE
  rw [bls_of r1] at ha
  exact ⟨a, bs, rfl, SqL.of ha, q _ _ M H hΦ (.bl _) (Tr.refl _ _) st⟩
/-- list(xs), list(t): a new list that may change, or not -/
theorem cd_list {ds : List D} {c : D} (hc : c = .lst ds ∨ c = .tup ds) (hΦ : Φ (.lst ds) M) : CD X.K (fun xs H Q => ∃ p ys, xs = [.ref p] ∧ (SqL X.K H p ys ∨ SqT X.K H p ys) ∧ ∀ l, H l = none → Q (.ref l) (upd H l (.lst ys))) [c] M Φ := fun xs H hx st Q q => by
  obtain ⟨v, rfl, r⟩ := hx.one
  rcases hc with rfl | rfl
  · obtain ⟨a, vs, rfl, ha, r1⟩ := r.lstE
    exact ⟨a, vs, rfl, .inl (SqL.of ha), fun p hp => q _ _ M _ hΦ (.lst (st.fresh hp) upd_same (r1.mono (Tr.new hp))) (Tr.new hp) (st.new hp)⟩
  · obtain ⟨a, vs, rfl, ha, r1⟩ := r.tupE
    exact ⟨a, vs, rfl, .inr ha, fun p hp => q _ _ M _ hΦ (.lst (st.fresh hp) upd_same (r1.mono (Tr.new hp))) (Tr.new hp) (st.new hp)⟩
/-- isinstance against a built-in class -/
def tyD : D → Option String
  | .non => some "NoneType"
  | .bl _ => some "bool"
  | .int _ => some "int"
  | .str _ => some "str"
  | .lst _ => some "list"
  | .tup _ => some "tuple"
  | .dct _ _ => some "dict"
  | _ => none
theorem tyx_of {K : PySem.W.Frag} {H : Hp} {v : V} {d : D} {n : String} (h : tyD d = some n) (r : DR K M H v d) : TyX K H v (.type n) := by
  cases r with
  | non => cases h; exact .base .non
  | bl b => cases h; exact .base (.bl b)
  | int i => cases h; exact .base (.int i)
  | str x => cases h; exact .base (.str x)
  | lst _ e _ => cases h; exact .base (.lst e)
  | tup _ e _ => cases h; exact .base (.tup e)
  | tupK e _ =>
    cases h
    obtain ⟨o, _, _, h1, h2, _⟩ := e
    exact .kTuple h1 h2
  | dct _ e lk _ _ =>
    cases h
    unfold Lk at lk
    split at lk
    · exact .fDict e
    · subst lk; exact .base (.dK e)
  | ins _ _ _ _ => cases h
  | raw _ => cases h
  | scr _ => cases h
theorem cd_isi {d : D} {n T : String} {b : Bool} (h : tyD d = some n) (hk : PySem.W.kitOne X.K (.type n) (.type T) = some b) (hΦ : Φ (.bl b) M) : CD X.K (rIsi X.K) [d, .raw (.ty T)] M Φ := fun xs H hx st Q q => by
  obtain ⟨v, w, rfl, r, r2⟩ := hx.pair
  cases r2
  exact ⟨v, .ty T, .type n, .type T, b, rfl, .ty T, tyx_of h r, hk, q _ _ M H hΦ (.bl _) (Tr.refl _ _) st⟩
/-- a built-in class as a value -/
theorem we_btyp {x : Str} {T : String} {pos : Pos} (hg : Gl X x) (hm : X.mg x = none) (hv : bootBuiltins x = some (.type T)) (h : Φ (.raw (.ty T)) M) (hn : x ≠ "__name__" := by decide) (hd : (x == ("__debug__" : Str)) = false := by decide) : WE X (.Name x pos) ρ M Φ Ξ :=
  .of (pe_bltn (v := .ty T) hg hm hv rfl hn hd) fun _ H _ st _ q => q _ _ M H h (.raw _) (Tr.refl _ _) st
/-! ### repr -/
theorem call_reprP (hg : X.A.guards = some []) (hu : X.A.units + 70 < cLine) (hk : ∃ o, X.K.lookup sysModules = some o ∧ o.cls = .type "dict") : CallR X (.builtin "repr") (fun xs H Q => ∃ M v d p, xs = [v] ∧ DR X.K M H v d ∧ toP d = some p ∧ p.showable = true ∧ p.depth ≤ 64 ∧ p.shown.length ≤ sizeLine ∧ Q (.str p.shown) H) := by
  rintro pins s σ H xs us Q I r ⟨M, v, d, p, rfl, hd, hp, sh, dep, sz, q⟩
  obtain ⟨u, rfl, rv⟩ := vals1 r
  obtain ⟨as, rd, hm⟩ := DR.reads I d p v u hd hp rv
  have ns : sysModules ∉ as := fun hs => by
    obtain ⟨o, e1, e2⟩ := hm _ hs
    obtain ⟨o', k1, k2⟩ := hk
    have e3 := I.kIn _ _ k1
    rw [e1] at e3
    cases e3
    rcases e2 with e2 | e2
    · rw [k2] at e2
      injection e2 with e4
      exact absurd e4 (by decide)
    · exact nm e2 rfl
  cases rd with
  | none => exact PySem.P.repr_of_none ⟨.str _, H, I.tok _, ⟨_, rfl⟩, by simpa only [PyData.shown] using q⟩
  | bool b => exact PySem.P.repr_of_bool ⟨.str _, H, I.tok _, ⟨_, rfl⟩, by simpa only [PyData.shown] using q⟩
  | int i t => exact PySem.P.repr_of_int (by simpa [PyData.showable] using sh) ⟨.str _, H, I.tok _, ⟨_, rfl⟩, by simpa only [PyData.shown] using q⟩
  | str x t => exact PySem.P.repr_of_str ⟨.str _, H, I.tok _, ⟨_, rfl⟩, by simpa only [PyData.shown] using q⟩ (by simpa only [PyData.shown] using sz)
  | list h1 h2 h3 h4 => exact repr_of_reads' (Reads.list h1 h2 h3 h4) sh (fun _ => ns) hg (by omega) (fun _ _ e => e) (fun h' u tk hk => ⟨.str _, H, I.kept hk, ⟨_, rfl⟩, q⟩) sz
  | tuple h1 h2 h3 h4 => exact repr_of_reads' (Reads.tuple h1 h2 h3 h4) sh (fun _ => ns) hg (by omega) (fun _ _ e => e) (fun h' u tk hk => ⟨.str _, H, I.kept hk, ⟨_, rfl⟩, q⟩) sz
  | dict h1 h2 h3 h4 h5 => exact repr_of_reads' (Reads.dict h1 h2 h3 h4 h5) sh (fun _ => ns) hg (by omega) (fun _ _ e => e) (fun h' u tk hk => ⟨.str _, H, I.kept hk, ⟨_, rfl⟩, q⟩) sz
end
end DL

set_option Elab.async false
set_option linter.all false
set_option maxRecDepth 100000
set_option maxHeartbeats 4000000
namespace DL
open PySem PySem.Spec PyProof.Rows L2

/-! ### what is walked -/
/-- J walks the data ds while G stands -/
structure IW (K : PySem.W.Frag) (J : It) (ds : List D) (G : MS → Hp → Prop) : Prop where
  keep : ∀ M H M' H', G M H → Tr M H M' H' → G M' H'
  goes : ∀ i M H, i < ds.length → G M H → J.go i H
  stops : ∀ M H, G M H → J.stop ds.length H
  yields : ∀ i M H x H', i < ds.length → G M H → Sto K M H → J.yld i H x H' → ∃ d, ds[i]? = some d ∧ DR K M H' x d ∧ Tr M H M H' ∧ Sto K M H'
section
variable {K : PySem.W.Frag}
theorem iw_list {a : Addr} {xs : List V} {ds : List D} : IW K (Itl K a) ds (fun M H => M a = none ∧ H a = some (.lst xs) ∧ DRs K M H xs ds) where
  keep := fun M H M' H' ⟨h1, h2, h3⟩ t => ⟨(t.is h1 h2 rfl (fun _ => nofun)).1, (t.is h1 h2 rfl (fun _ => nofun)).2, h3.mono t⟩
  goes := fun i M H hi ⟨_, h2, h3⟩ => walk_list.goes i H (by rw [h3.length]; exact hi) (SqL.of h2)
  stops := fun M H ⟨_, h2, h3⟩ => by
    have q := (walk_list (K := K) (a := a) (xs := xs)).stops H (SqL.of h2)
    rwa [h3.length] at q
  yields := fun i M H x H' hi ⟨_, h2, h3⟩ st y => by
    obtain ⟨e, q⟩ := walk_list.yields i H x H' (by rw [h3.length]; exact hi) (SqL.of h2) y
    subst e
    obtain ⟨v, e1, e2⟩ := h3.get (List.getElem?_eq_getElem hi)
    rw [q] at e1
    cases e1
    exact ⟨_, List.getElem?_eq_getElem hi, e2, Tr.refl _ _, st⟩
theorem iw_tup {a : Addr} {xs : List V} {ds : List D} : IW K (Itt K a) ds (fun M H => DR K M H (.ref a) (.tup ds) ∧ SqT K H a xs ∧ DRs K M H xs ds ∧ ((M a = none ∧ H a = some (.tup xs)) ∨ KT K a xs)) where
  keep := fun M H M' H' ⟨h0, h2, h3, h4⟩ t => by
    rcases h4 with ⟨h4, h5⟩ | h4
    · have q := t.is h4 h5 rfl (fun _ => nofun)
      exact ⟨h0.mono t, SqT.of q.2, h3.mono t, .inl q⟩
    · exact ⟨h0.mono t, .inr h4, h3.mono t, .inr h4⟩
  goes := fun i M H hi ⟨_, h2, h3, _⟩ => walk_tup.goes i H (by rw [h3.length]; exact hi) h2
  stops := fun M H ⟨_, h2, h3, _⟩ => by
    have q := (walk_tup (K := K) (a := a) (xs := xs)).stops H h2
    rwa [h3.length] at q
  yields := fun i M H x H' hi ⟨_, h2, h3, _⟩ st y => by
    obtain ⟨e, q⟩ := walk_tup.yields i H x H' (by rw [h3.length]; exact hi) h2 y
    subst e
    obtain ⟨v, e1, e2⟩ := h3.get (List.getElem?_eq_getElem hi)
    rw [q] at e1
    cases e1
    exact ⟨_, List.getElem?_eq_getElem hi, e2, Tr.refl _ _, st⟩
def rngD (lo : Int) (n : Nat) : List D := (List.range n).map fun i => D.int (lo + (i : Nat))
theorem iw_range {lo : Int} {n : Nat} : IW K (Itr lo n) (rngD lo n) (fun _ _ => True) where
  keep := fun _ _ _ _ _ _ => trivial
  goes := fun i M H hi _ => walk_range.goes i H (by simpa [rngD] using hi) trivial
  stops := fun M H _ => by
    have q := (walk_range (lo := lo) (n := n)).stops H trivial
    simpa [rngD] using q
  yields := fun i M H x H' hi _ st y => by
    have hi' : i < n := by simpa [rngD] using hi
    obtain ⟨e, q⟩ := walk_range.yields i H x H' hi' trivial y
    subst e q
    exact ⟨.int (lo + i), by simp [rngD, hi'], .int _, Tr.refl _ _, st⟩
def sgnD (z : Str) : List D := z.cps.toList.map fun c => D.str ⟨#[c]⟩
theorem iw_str {z : Str} : IW K (Its z) (sgnD z) (fun _ _ => True) where
  keep := fun _ _ _ _ _ _ => trivial
  goes := fun i M H hi _ => walk_str.goes i H (by simpa [sgnD] using hi) trivial
  stops := fun M H _ => by
    have q := (walk_str (z := z)).stops H trivial
    simpa [sgnD] using q
  yields := fun i M H x H' hi _ st y => by
    have hi' : i < z.cps.size := by simpa [sgnD] using hi
    obtain ⟨e, c, q1, q2⟩ := walk_str.yields i H x H' hi' trivial y
    subst e q2
    refine ⟨.str ⟨#[c]⟩, ?_, .str _, Tr.refl _ _, st⟩
    unfold sgnD
    rw [List.getElem?_map, Array.getElem?_toList, q1]
    rfl
end

def wI (X : Cx) (tg iter : Expr) : TI := fun σ H R => ∀ pins s, Inv X pins σ H s → wpAny (model X.prog X.w) X.A (eval iter X.env) (fun v s1 => wpAny (model X.prog X.w) X.A (pyIter v) (PIE X pins σ tg R) X.xe s1) X.xe s
theorem pI {X : Cx} {tg iter : Expr} : PI X tg iter (wI X tg iter) := ⟨fun pins s _ _ _ I h => h pins s I⟩
theorem wI.of {X : Cx} {tg iter : Expr} {t : TI} (p : PI X tg iter t) {σ H R} (h : t σ H R) : wI X tg iter σ H R := fun pins s I => p.run pins s σ H R I h
def wG (X : Cx) (tg : Expr) : TG := fun v σ H Q => ∀ pins s u, Inv X pins σ H s → L2.RelV v u → wpAny (model X.prog X.w) X.A (assign tg X.env u) (fun _ s' => ∃ σ' H', Inv X pins σ' H' s' ∧ Q σ' H') X.xe s
theorem pG {X : Cx} {tg : Expr} : PG X tg (wG X tg) := ⟨fun pins s _ _ _ u _ I r h => h pins s u I r⟩
theorem wG.of {X : Cx} {tg : Expr} {t : TG} (p : PG X tg t) {v σ H Q} (h : t v σ H Q) : wG X tg v σ H Q := fun pins s u I r => p.run pins s σ H v u Q I r h

/-- what is walked: the data ds -/
def WI (X : Cx) (tg iter : Expr) (ρ : Sl) (M : MS) (Ψ : List D → MS → Prop) (Ξ : PX) : Prop := ∀ σ H, SlOk X.K M H σ ρ → Sto X.K M H → ∀ R : It → Hp → Prop,
  (∀ J ds G M' H', Ψ ds M' → IW X.K J ds G → G M' H' → Tr M H M' H' → Sto X.K M' H' → R J H') → ∀ W, Takes X W → PoX X.K M H Ξ (fun c d H' => W c d σ H') → wI X tg iter σ H R
/-- a target takes data -/
def WG (X : Cx) (tg : Expr) (d : D) (ρ : Sl) (M : MS) (N : Sl → MS → Prop) : Prop := ∀ σ H v, SlOk X.K M H σ ρ → Sto X.K M H → DR X.K M H v d → ∀ P, PoS X.K M H N P → wG X tg v σ H P
section
variable {X : Cx} {ρ : Sl} {M : MS} {Ξ : PX} {F : Fi}
theorem wg_name (i : Nat) {x : Str} {pos : Pos} {d : D} {N : Sl → MS → Prop} (hN : X.N.Nodup) (h : N (ρ.set i (some d)) M) (hi : X.N[i]? = some x := by rfl) (hx : Loc X.env.scope x := by first | exact Or.inl rfl | exact Or.inr rfl)
    (hf : X.fn x = true ∨ X.env.scope.names.lookup x = some .local := by first | exact .inl rfl | exact .inr rfl) : WG X (.Name x pos) d ρ M N := fun σ H v hs st r P p =>
  wG.of (pg_name hN hi hx hf) (p _ _ M H h (hs.set r) (Tr.refl _ _) st)
/-- several targets -/
def WGs (X : Cx) (ts : List Expr) (ds : List D) (ρ : Sl) (M : MS) (N : Sl → MS → Prop) : Prop := ∀ σ H vs, SlOk X.K M H σ ρ → Sto X.K M H → DRs X.K M H vs ds → ∀ P, PoS X.K M H N P → ∀ pins s us, Inv X pins σ H s → Vals vs us →
  wpAny (model X.prog X.w) X.A (assignInOrder ((assignEach ts X.env).map (·.2)) us) (fun _ s' => ∃ σ' H', Inv X pins σ' H' s' ∧ P σ' H') X.xe s
theorem wgs_nil {N : Sl → MS → Prop} (h : N ρ M) : WGs X [] [] ρ M N := fun σ H vs hs st r P p pins s us I rv => by
  cases r
  cases rv
  exact assignInOrder_nil ⟨σ, H, I, p σ ρ M H h hs (Tr.refl _ _) st⟩
theorem wgs_cons {e : Expr} {es : List Expr} {d : D} {ds : List D} {N : Sl → MS → Prop} (h : WG X e d ρ M (fun ρ' M' => WGs X es ds ρ' M' N)) (hs : (assignEach (e :: es) X.env).map (·.2) = assign e X.env :: (assignEach es X.env).map (·.2) := by rfl) : WGs X (e :: es) (d :: ds) ρ M N :=
  fun σ H vs hσ st r P p pins s us I rv => by
    cases r with
    | cons r rr =>
      cases rv with
      | cons v vv =>
        rw [hs]
        refine assignInOrder_cons (thn (h σ H _ hσ st r (fun σ1 H1 => ∃ ρ1 M1, WGs X es ds ρ1 M1 N ∧ SlOk X.K M1 H1 σ1 ρ1 ∧ Tr M H M1 H1 ∧ Sto X.K M1 H1) (fun σ' ρ' M' H' a b t c => ⟨ρ', M', a, b, t, c⟩) pins s _ I v) ?_)
        rintro _ s1 ⟨σ1, H1, I1, ρ1, M1, a, b, t, c⟩
        exact a σ1 H1 _ b c (rr.mono t) P (fun σ' ρ' M' H' a' b' t' c' => p σ' ρ' M' H' a' b' (t.trans t') c') pins s1 _ I1 vv
theorem wg_tup {es : List Expr} {k : Nat} {pos : Pos} {ds : List D} {N : Sl → MS → Prop} (hc : X.calm = true) (h : WGs X es ds ρ M N) (hl : (assignEach es X.env).length = ds.length := by rfl) (hst : (assignEach es X.env).findIdx? (·.1) = none := by rfl) : WG X (.Tuple es k pos) (.tup ds) ρ M N :=
  fun σ H v hσ st r P p => by
    obtain ⟨a, xs, rfl, hx, rr⟩ := id r.tupE
    have pgs : PGs X es (fun vs σ H Q => ∀ pins s us, Inv X pins σ H s → Vals vs us → wpAny (model X.prog X.w) X.A (assignInOrder ((assignEach es X.env).map (·.2)) us) (fun _ s' => ∃ σ' H', Inv X pins σ' H' s' ∧ Q σ' H') X.xe s) :=
      ⟨fun pins s σ H vs us Q I rv q => q pins s us I rv⟩
    exact wG.of (pg_tup hc pgs rfl hst) ⟨a, xs, rfl, hx, by rw [hl]; exact rr.length, fun pins s us I rv => h σ H xs hσ st rr P p pins s us I rv⟩

theorem wi_list {tg iter : Expr} {Ψ : List D → MS → Prop} (h : WE X iter ρ M (fun d M1 => ∃ ds, d = .lst ds ∧ Ψ ds M1) Ξ) : WI X tg iter ρ M Ψ Ξ := fun σ H hs st R r W tk qx => wI.of (pi_list pE) (by
  refine h σ H hs st _ (fun v d M1 H1 ⟨ds, e, a⟩ q t s => ?_) W tk qx
  subst e
  cases q with
  | lst h1 h2 h3 => exact ⟨_, rfl, ⟨_, SqL.of h2⟩, r _ ds _ M1 H1 a iw_list ⟨h1, h2, h3⟩ t s⟩)
theorem wi_tup {tg iter : Expr} {Ψ : List D → MS → Prop} (h : WE X iter ρ M (fun d M1 => ∃ ds, d = .tup ds ∧ Ψ ds M1) Ξ) : WI X tg iter ρ M Ψ Ξ := fun σ H hs st R r W tk qx => wI.of (pi_tup pE) (by
  refine h σ H hs st _ (fun v d M1 H1 ⟨ds, e, a⟩ q t s => ?_) W tk qx
  subst e
  cases q with
  | tup h1 h2 h3 => exact ⟨_, rfl, ⟨_, SqT.of h2⟩, r _ ds _ M1 H1 a iw_tup ⟨.tup h1 h2 h3, SqT.of h2, h3, .inl ⟨h1, h2⟩⟩ t s⟩
  | tupK h1 h3 => exact ⟨_, rfl, ⟨_, .inr h1⟩, r _ ds _ M1 H1 a iw_tup ⟨.tupK h1 h3, .inr h1, h3, .inr h1⟩ t s⟩)
theorem wi_str {tg iter : Expr} {Ψ : List D → MS → Prop} (h : WE X iter ρ M (fun d M1 => ∃ z, d = .str z ∧ Ψ (sgnD z) M1) Ξ) : WI X tg iter ρ M Ψ Ξ := fun σ H hs st R r W tk qx => wI.of (pi_str pE) (by
  refine h σ H hs st _ (fun v d M1 H1 ⟨ds, e, a⟩ q t s => ?_) W tk qx
  subst e
  cases q
  exact ⟨_, rfl, r _ _ _ M1 H1 a iw_str trivial t s⟩)
theorem wi_range1 {tg e : Expr} {p pos : Pos} {Ψ : List D → MS → Prop} (hg : Gl X "range") (hm : X.mg "range" = none) (h : WA X [e] ρ M (fun ds M1 => ∃ n : Int, ds = [.int n] ∧ (-(2 ^ 62) ≤ n ∧ n < 2 ^ 62) ∧ Ψ (rngD 0 n.toNat) M1) Ξ)
    (hs : starEach [e] X.env = [(false, eval e X.env)] := by exact se_of rfl) : WI X tg (.Call (.Name "range" p) [e] [] pos) ρ M Ψ Ξ := fun σ H hs' st R r W tk qx => wI.of (pi_range1 hg hm pA hs) (by
  refine h σ H hs' st _ (fun vs d M1 H1 ⟨n, e, b, a⟩ q t s => ?_) W tk qx
  subst e
  obtain ⟨v, rfl, r1⟩ := q.one
  cases r1
  exact ⟨n, rfl, b.1, b.2, r _ _ _ M1 H1 a iw_range trivial t s⟩)
theorem wi_range2 {tg e e' : Expr} {p pos : Pos} {Ψ : List D → MS → Prop} (hg : Gl X "range") (hm : X.mg "range" = none) (h : WA X [e, e'] ρ M (fun ds M1 => ∃ lo n : Int, ds = [.int lo, .int n] ∧ (-(2 ^ 62) ≤ lo ∧ lo < 2 ^ 62 ∧ -(2 ^ 62) ≤ n ∧ n < 2 ^ 62) ∧ Ψ (rngD lo (n - lo).toNat) M1) Ξ)
    (pr : PI X tg (.Call (.Name "range" p) [e, e'] [] pos) (iRng2 (wA X [e, e'])) := by exact pi_range2 rfl (by assumption) pA) : WI X tg (.Call (.Name "range" p) [e, e'] [] pos) ρ M Ψ Ξ := fun σ H hs' st R r W tk qx => wI.of pr (by
  refine h σ H hs' st _ (fun vs d M1 H1 ⟨lo, n, e, b, a⟩ q t s => ?_) W tk qx
  subst e
  obtain ⟨v, w, rfl, r1, r2⟩ := q.pair
  cases r1
  cases r2
  exact ⟨lo, n, rfl, b, r _ _ _ M1 H1 a iw_range trivial t s⟩)

/-- a for: Pv by the turn -/
theorem ws_for {tg iter : Expr} {body : List Stmt} {pos : Pos} (hp : PassesOwn (model X.prog X.w) X.A X.env X.xe) (hc : X.calm = true)
    (h : WI X tg iter ρ M (fun ds M1 => ∃ Pv : Nat → Sl → MS → Prop, Pv 0 ρ M1 ∧ (∀ i d ρ' M', ds[i]? = some d → Pv i ρ' M' → WG X tg d ρ' M' (fun ρ2 M2 => WB X body ρ2 M2 { F with nx := Pv (i + 1), ct := Pv (i + 1), bk := F.nx })) ∧ (∀ ρ' M', Pv ds.length ρ' M' → F.nx ρ' M')) (F.at_ ρ))
    (hs : ∀ x, foldedSetIterable iter X.env x = pure x := by intro _; rfl) : WS X (.For tg iter body [] pos) ρ M F := fun σ H hσ st E W o tk => wS.of (ps_for hp hc pI pG pB hs) (by
  refine h σ H hσ st _ (fun J ds G M1 H1 ⟨Pv, p0, pt, pe⟩ iw g t s => ?_) W tk (o.px hσ)
  refine ⟨fun i m σ' H' => m = ds.length - i ∧ i ≤ ds.length ∧ ∃ ρ' M', Pv i ρ' M' ∧ SlOk X.K M' H' σ' ρ' ∧ Tr M H M' H' ∧ Sto X.K M' H' ∧ G M' H', ⟨_, rfl, Nat.zero_le _, ρ, M1, p0, hσ.mono t, t, s, g⟩, ?_⟩
  rintro i m σ' H' ⟨rfl, hi, ρ', M', pv, so, tr, sto, gg⟩
  by_cases hlt : i < ds.length
  · refine .inr ⟨iw.goes i M' H' hlt gg, fun σ2 H2 => ∃ ρ2 M2, Pv (i + 1) ρ2 M2 ∧ SlOk X.K M2 H2 σ2 ρ2 ∧ Tr M H M2 H2 ∧ Sto X.K M2 H2 ∧ G M2 H2, fun σ2 H2 ⟨ρ2, M2, a, b, c, d, e⟩ => ⟨ds.length - (i + 1), by omega, rfl, hlt, ρ2, M2, a, b, c, d, e⟩, fun x H2 y => ?_⟩
    obtain ⟨d, e, r, t2, s2⟩ := iw.yields i M' H' x H2 hlt gg sto y
    have g2 := iw.keep _ _ _ _ gg t2
    refine pt i d ρ' M' e pv σ' H2 x (so.mono t2) s2 r _ fun σ3 ρ3 M3 H3 a b t3 s3 => ?_
    have t13 := (tr.trans t2).trans t3
    have again : ∀ σ4 ρ4 M4 H4, Pv (i + 1) ρ4 M4 → SlOk X.K M4 H4 σ4 ρ4 → Tr M3 H3 M4 H4 → Sto X.K M4 H4 → ∃ ρ2 M2, Pv (i + 1) ρ2 M2 ∧ SlOk X.K M2 H4 σ4 ρ2 ∧ Tr M H M2 H4 ∧ Sto X.K M2 H4 ∧ G M2 H4 :=
      fun σ4 ρ4 M4 H4 a b t s => ⟨ρ4, M4, a, b, t13.trans t, s, iw.keep _ _ _ _ g2 (t3.trans t)⟩
    exact a σ3 H3 b s3 _ W ⟨again, (o.from t13).rt, (o.from t13).nx, again, (o.from t13).ex⟩ tk
  · have e : i = ds.length := by omega
    subst e
    exact .inl ⟨iw.stops M' H' gg, o.nx σ' ρ' M' H' (pe ρ' M' pv) so tr sto⟩)

/-! ### comprehensions -/
def wipeD (ρ : Sl) : List Nat → Sl
  | [] => ρ
  | v :: vs => (wipeD ρ vs).set v none
theorem SlOk.wipe {K : PySem.W.Frag} {H : Hp} {σ : L2.St} (s : SlOk K M H σ ρ) : ∀ vs : List Nat, SlOk K M H (L2.wipe σ vs) (wipeD ρ vs)
  | [] => s
  | v :: vs => by
    have q := SlOk.wipe s vs
    refine ⟨by unfold L2.wipe wipeD; rw [List.length_set, List.length_set]; exact q.len, fun j d e => ?_⟩
    unfold wipeD at e
    unfold L2.wipe
    by_cases n : v = j
    · subst n
      rw [List.getElem?_set] at e
      split at e <;> first | (split at e <;> cases e) | (rename_i z; exact absurd rfl z)
    · rw [List.getElem?_set_ne n] at e ⊢
      exact q.at_ j d e
/-- slots that a block may have stored into: the others stand -/
theorem wipe_set {σ : L2.St} {v : Nat} {x : Option V} : ∀ {vs : List Nat}, v ∈ vs → L2.wipe (σ.set v x) vs = L2.wipe σ vs
  | v' :: vs, h => by
    unfold L2.wipe
    by_cases n : v ∈ vs
    · rw [wipe_set n]
    · have e : v = v' := by
        rcases List.mem_cons.mp h with e | e
        · exact e
        · exact absurd e n
      subst e
      have z : ∀ ws : List Nat, v ∉ ws → L2.wipe (σ.set v x) ws = (L2.wipe σ ws).set v x := by
        intro ws
        induction ws with
        | nil => intro _; rfl
        | cons u us ih =>
          intro hu
          have h1 : u ≠ v := fun e => hu (by rw [e]; exact List.mem_cons_self)
          have h2 : v ∉ us := fun m => hu (List.mem_cons_of_mem _ m)
          unfold L2.wipe
          rw [ih h2, List.set_comm _ _ h1.symm]
      rw [z vs n, List.set_set]
theorem wipe_wipe {σ : L2.St} : ∀ (us : List Nat) {vs : List Nat}, (∀ v ∈ us, v ∈ vs) → L2.wipe (L2.wipe σ us) vs = L2.wipe σ vs
  | [], _, _ => rfl
  | u :: us, vs, h => by
    show L2.wipe ((L2.wipe σ us).set u none) vs = _
    rw [wipe_set (h u List.mem_cons_self), wipe_wipe us fun v hv => h v (List.mem_cons_of_mem _ hv)]
end
end DL

set_option Elab.async false
set_option linter.all false
set_option maxRecDepth 100000
set_option maxHeartbeats 4000000
namespace DL
open PySem PySem.Spec PyProof.Rows L2

section
variable {X : Cx} {ρ : Sl} {M : MS} {Φ : PD} {Ξ : PX}
/-- a comprehension's tests, from the left -/
def WF (X : Cx) (ifs : List Expr) (ρ : Sl) (M : MS) (Φ : PB) (Ξ : PX) : Prop := ∀ σ H, SlOk X.K M H σ ρ → Sto X.K M H → ∀ Q, PoB X.K M H Φ Q → ∀ W, Takes X W → PoX X.K M H Ξ (fun c d H' => W c d σ H') → ∀ pins s, Inv X pins σ H s →
  wpAny (model X.prog X.w) X.A (forIn ifs true fun c r => if r = true then do let ok ← isTrue c X.env (eval c X.env); pure (ForInStep.yield ok) else pure (ForInStep.yield r)) (TP X pins σ Q) X.xe s
theorem wf_nil {Φ : PB} (h : Φ true M) : WF X [] ρ M Φ Ξ := fun σ H hs st Q q W tk qx pins s I => pts_nil.run pins s σ H Q I (q true M H h (Tr.refl _ _) st)
theorem wf_one {c : Expr} {Φ : PB} (h : WT X c ρ M Φ Ξ) : WF X [c] ρ M Φ Ξ := fun σ H hs st Q q W tk qx pins s I => (pts_one pT).run pins s σ H Q I (h σ H hs st Q q W tk qx)

abbrev blkCx (X : Cx) (scope : Scope) (s : Shared) (H : Hp) (C : Addr) (cl : List (Str × Addr)) (fp : List Addr) : Cx := X.blk s H scope (compEnvC scope cl C X.env) fp
theorem tk_blk {scope s H C cl fp} : Takes (blkCx X scope s H C cl fp) (fun _ _ _ _ => False) := takes0
abbrev noX : PX := fun _ _ => False
theorem px_no {K : PySem.W.Frag} {H : Hp} {W : XK} : PoX K M H noX W := fun _ _ _ _ _ z => z.elim


/-- what a target does to the slots of a block -/
structure TgD (K : PySem.W.Frag) (g : TG) (own : List Nat) (tf : D → Sl → Option Sl) : Prop where
  run : ∀ x d σ ρ ρ' M H, DR K M H x d → tf d ρ = some ρ' → SlOk K M H σ ρ → Sto K M H → ∀ P : L2.St → Hp → Prop, (∀ σ', L2.wipe σ' own = L2.wipe σ own → SlOk K M H σ' ρ' → P σ' H) → g x σ H P
theorem tgd_name {K : PySem.W.Frag} (i : Nat) {own : List Nat} (hi : i ∈ own) : TgD K (gName i) own (fun d ρ => some (ρ.set i (some d))) := ⟨fun x d σ ρ ρ' M H r e so st P p => by
  cases e
  exact p _ (wipe_set hi) (so.set r)⟩
theorem tgd_two {K : PySem.W.Frag} (i j : Nat) {own : List Nat} (hi : i ∈ own) (hj : j ∈ own) :
    TgD K (gTup K 2 (gCons (gName i) (gCons (gName j) gNil))) own (fun d ρ => match d with | .tup [a, b] => some ((ρ.set i (some a)).set j (some b)) | _ => none) := ⟨fun x d σ ρ ρ' M H r e so st P p => by
  split at e
  · cases e
    obtain ⟨a, xs, rfl, hx, rr⟩ := r.tupE
    obtain ⟨v, w, rfl, r1, r2⟩ := rr.pair
    exact ⟨a, _, rfl, hx, rfl, v, _, rfl, w, _, rfl, rfl, p _ (by rw [wipe_set hj, wipe_set hi]) ((so.set r1).set r2)⟩
  · cases e⟩

/-- [elt for tg in iter if ..]: R is carried, by the new list's place, the turn, what it holds, M -/
theorem we_lcG {elt tg iter : Expr} {ifs : List Expr} {scope : Scope} {own : List (Str × Nat)} {pos : Pos} {g : TG} {tf : D → Sl → Option Sl} (hc : X.calm = true) (hN : X.N.Nodup) (ok : BlkOk X.N X.env.scope scope own)
    (hg : ∀ (s : Shared) (H : Hp) (C : Addr) (cl : List (Str × Addr)) (fp : List Addr), PG (blkCx X scope s H C cl fp) tg g) (ht : TgD X.K g (own.map (·.2)) tf)
    (h : WI X tg iter ρ M (fun ds M1 => ds.length ≤ sizeLine ∧ ∃ R : Addr → Nat → List D → MS → Prop, (∀ L, M1 L = none → R L 0 [] (put M1 L (.lst []))) ∧
      (∀ (i : Nat) (d : D) (acc : List D) (L : Addr) (M' : MS), ds[i]? = some d → acc.length ≤ i → M1 L = none → M' L = some (.lst acc) → R L i acc M' →
        ∃ ρ2, tf d (wipeD ρ (own.map (·.2))) = some ρ2 ∧ ∀ (s : Shared) (H : Hp) (C : Addr) (cl : List (Str × Addr)) (fp : List Addr), WF (blkCx X scope s H C cl fp) ifs ρ2 M' (fun b M3 =>
          (b = true → ∀ (s : Shared) (H : Hp) (C : Addr) (cl : List (Str × Addr)) (fp : List Addr), WE (blkCx X scope s H C cl fp) elt ρ2 M3 (fun e M4 => M4 L = some (.lst acc) ∧ R L (i + 1) (acc ++ [e]) (put M4 L (.lst (acc ++ [e])))) noX) ∧ (b = false → M3 L = some (.lst acc) ∧ R L (i + 1) acc M3)) noX) ∧
      (∀ L acc M2, M1 L = none → M2 L = some (.lst acc) → R L ds.length acc M2 → Φ (.lst acc) (cut M2 L))) Ξ)
    (hs : ∀ x, foldedSetIterable iter X.env x = pure x := by intro _; rfl) : WE X (.ListComp elt [⟨tg, iter, ifs, 0⟩] scope pos) ρ M Φ Ξ := by
  intro σ H hσ st Q q W tk qx
  -- the block's readings, for every block at once
  have e1 : ∀ (s : Shared) (H : Hp) (C : Addr) (cl : List (Str × Addr)) (fp : List Addr), PTs (blkCx X scope s H C cl fp) ifs (fun σ H Q => ∀ (s0 : Shared) (H0 : Hp) (C : Addr) (cl : List (Str × Addr)) (fp : List Addr) pins s, Inv (blkCx X scope s0 H0 C cl fp) pins σ H s →
      wpAny (model X.prog X.w) X.A (forIn ifs true fun c r => if r = true then do let ok ← isTrue c (blkCx X scope s0 H0 C cl fp).env (eval c (blkCx X scope s0 H0 C cl fp).env); pure (ForInStep.yield ok) else pure (ForInStep.yield r)) (TP (blkCx X scope s0 H0 C cl fp) pins σ Q) (blkCx X scope s0 H0 C cl fp).xe s) :=
    fun s0 H0 C cl fp => ⟨fun pins s σ H Q I k => k s0 H0 C cl fp pins s I⟩
  have e2 : ∀ (s : Shared) (H : Hp) (C : Addr) (cl : List (Str × Addr)) (fp : List Addr), PE (blkCx X scope s H C cl fp) elt (fun σ H Q => ∀ (s0 : Shared) (H0 : Hp) (C : Addr) (cl : List (Str × Addr)) (fp : List Addr), wE (blkCx X scope s0 H0 C cl fp) elt σ H Q) :=
    fun s0 H0 C cl fp => ⟨fun pins s σ H Q I k => k s0 H0 C cl fp pins s I⟩
  refine wE.of (pe_lc hc hN pI ok hg e1 e2 hs) ?_
  refine h σ H hσ st _ (fun J ds G M1 H1 ⟨len, R, r0, turn, fin⟩ iw gg t s => ?_) W tk qx
  intro L hL
  have mL : M1 L = none := s.fresh hL
  have hσ1 := hσ.mono t
  have t0 : Tr M1 H1 (put M1 L (.lst [])) (upd H1 L (.lst [])) := Tr.newM hL
  refine ⟨fun i m H' => m = ds.length - i ∧ i ≤ ds.length ∧ ∃ acc M', acc.length ≤ i ∧ M' L = some (.lst acc) ∧ R L i acc M' ∧ Tr M1 H1 M' H' ∧ Sto X.K M' H' ∧ G M' H', ⟨_, rfl, Nat.zero_le _, [], _, Nat.le_refl _, put_same, r0 L mL, t0, s.newM hL ⟨[], upd_same, .nil⟩, iw.keep _ _ _ _ gg t0⟩, ?_⟩
  rintro i m H2 ⟨rfl, hi, acc, M2, al, hm, rr, tr, sto, g2⟩
  by_cases hlt : i < ds.length
  · refine .inr ⟨iw.goes i M2 H2 hlt g2, fun H' => ∃ acc M', acc.length ≤ i + 1 ∧ M' L = some (.lst acc) ∧ R L (i + 1) acc M' ∧ Tr M1 H1 M' H' ∧ Sto X.K M' H' ∧ G M' H', fun H' ⟨acc', M', a, b, c, d, e, f⟩ => ⟨ds.length - (i + 1), by omega, rfl, hlt, acc', M', a, b, c, d, e, f⟩, fun x H3 y => ?_⟩
    obtain ⟨d, ed, rd, t3, s3⟩ := iw.yields i M2 H2 x H3 hlt g2 sto y
    have g3 := iw.keep _ _ _ _ g2 t3
    have tr3 := tr.trans t3
    have sl : SlOk X.K M2 H3 (L2.wipe σ (own.map (·.2))) (wipeD ρ (own.map (·.2))) := (hσ1.mono tr3).wipe _
    obtain ⟨ρ2, eq2, wf⟩ := turn i d acc L M2 ed al mL hm rr
    refine ht.run x d _ _ ρ2 M2 H3 rd eq2 sl s3 _ fun σ2 w2 so2 => ⟨by rw [w2, wipe_wipe _ fun _ h => h], ?_⟩
    intro s0 H0 C cl fp pins s4 I4
    refine wf s0 H0 C cl fp σ2 H3 so2 s3 _ (fun b M4 H4 ⟨ht, hf⟩ t4 s5 => ?_) _ tk_blk px_no pins s4 I4
    have g4 := iw.keep _ _ _ _ g3 t4
    have tr4 := tr3.trans t4
    cases b with
    | false =>
      rw [if_neg Bool.false_ne_true]
      obtain ⟨h1, h2⟩ := hf rfl
      exact ⟨acc, M4, by omega, h1, h2, tr4, s5, g4⟩
    | true =>
      rw [if_pos rfl]
      intro s0' H0' C' cl' fp'
      refine ht rfl s0' H0' C' cl' fp' σ2 H4 (so2.mono t4) s5 _ (fun v e M6 H6 ⟨h1, h2⟩ r6 t6 s6 => ?_) _ tk_blk px_no
      obtain ⟨xs, cx, cd⟩ := id (s6 L _ h1)
      have t7 : Tr M6 H6 (put M6 L (.lst (acc ++ [e]))) (upd H6 L (.lst (xs ++ [v]))) := Tr.chg h1
      have t17 := (tr4.trans t6).trans t7
      refine ⟨xs, cx, by rw [cd.length]; omega, acc ++ [e], _, by rw [List.length_append, List.length_singleton]; omega, put_same, h2, t17, s6.chg h1 ⟨_, upd_same, (cd.snoc r6).mono t7⟩, iw.keep _ _ _ _ g4 (t6.trans t7)⟩
  · have e : i = ds.length := by omega
    subst e
    have c := sto L _ hm
    obtain ⟨xs, cx, cd⟩ := id c
    exact .inl ⟨iw.stops M2 H2 g2, q _ _ (cut M2 L) H2 (fin L acc M2 mL hm rr) (DR.frz sto hm) ((t.trans tr).trans Tr.frz) sto.frz⟩

/-- the same where nothing that was there changes: the items are f of what passes the tests -/
theorem we_lc {α : Type} {elt tg iter : Expr} {ifs : List Expr} {scope : Scope} {own : List (Str × Nat)} {pos : Pos} {g : TG} {tf : D → Sl → Option Sl} (hc : X.calm = true) (hN : X.N.Nodup) (ok : BlkOk X.N X.env.scope scope own)
    (hg : ∀ (s : Shared) (H : Hp) (C : Addr) (cl : List (Str × Addr)) (fp : List Addr), PG (blkCx X scope s H C cl fp) tg g) (ht : TgD X.K g (own.map (·.2)) tf)
    (h : WI X tg iter ρ M (fun ds M1 => ∃ (xs : List α) (g0 : α → D), ds = xs.map g0 ∧ xs.length ≤ sizeLine ∧ ∃ (p : α → Bool) (f : α → D),
      (∀ (x : α) (M' : MS), x ∈ xs → (∀ a d, M1 a = some d → M' a = some d) → ∃ ρ2, tf (g0 x) (wipeD ρ (own.map (·.2))) = some ρ2 ∧ ∀ (s : Shared) (H : Hp) (C : Addr) (cl : List (Str × Addr)) (fp : List Addr), WF (blkCx X scope s H C cl fp) ifs ρ2 M' (fun b M3 =>
          M3 = M' ∧ b = p x ∧ (p x = true → ∀ (s : Shared) (H : Hp) (C : Addr) (cl : List (Str × Addr)) (fp : List Addr), WE (blkCx X scope s H C cl fp) elt ρ2 M' (fun e M4 => M4 = M' ∧ e = f x) noX)) noX) ∧
      Φ (.lst ((xs.filter p).map f)) M1) Ξ)
    (hs : ∀ x, foldedSetIterable iter X.env x = pure x := by intro _; rfl) : WE X (.ListComp elt [⟨tg, iter, ifs, 0⟩] scope pos) ρ M Φ Ξ := by
  refine we_lcG hc hN ok hg ht (fun σ H a b R r W tk qx => h σ H a b R (fun J ds G M1 H1 ⟨xs, g0, e, len, p, f, turn, fin⟩ => r J ds G M1 H1 ⟨by rw [e, List.length_map]; exact len,
    fun L i acc M' => M' = put M1 L (.lst acc) ∧ acc = ((xs.take i).filter p).map f, fun L hL => ⟨rfl, by simp⟩, ?_, ?_⟩) W tk qx) hs
  · rintro i d acc L M' ed al mL hm ⟨rfl, ea⟩
    subst e
    rw [List.getElem?_map, Option.map_eq_some_iff] at ed
    obtain ⟨x, ex, rfl⟩ := ed
    have hx : i < xs.length := (List.getElem?_eq_some_iff.mp ex).1
    have tk1 : xs.take (i + 1) = xs.take i ++ [x] := by
      rw [List.take_add_one, ex]
      rfl
    obtain ⟨ρ2, e2, wf⟩ := turn x (put M1 L (.lst acc)) (List.mem_of_getElem? ex) (fun a d hd => by rw [put_ne (fun q => by rw [q, mL] at hd; cases hd)]; exact hd)
    refine ⟨ρ2, e2, fun s H C cl fp σ H' so st Q q W tk qx => wf s H C cl fp σ H' so st Q (fun b M3 H3 ⟨e3, eb, we⟩ => q b M3 H3 ⟨fun hb => ?_, fun hb => ?_⟩) W tk qx⟩
    · subst e3
      intro s H C cl fp
      refine (we (eb ▸ hb) s H C cl fp).imp fun e M4 ⟨e4, ee⟩ => ?_
      subst e4 ee
      refine ⟨put_same, put_put, ?_⟩
      rw [ea, tk1, List.filter_append, List.map_append]
      have : p x = true := eb ▸ hb
      simp [this]
    · subst e3
      refine ⟨put_same, rfl, ?_⟩
      rw [ea, tk1, List.filter_append, List.map_append]
      have : p x = false := eb ▸ hb
      simp [this]
  · rintro L acc M2 mL hm ⟨rfl, ea⟩
    subst e
    rw [List.length_map, List.take_length] at ea
    rw [cut_put mL, ea]
    exact fin
end
end DL

set_option Elab.async false
set_option linter.all false
set_option maxRecDepth 100000
set_option maxHeartbeats 4000000
namespace DL
open PySem PySem.Spec PyProof.Rows L2
section
variable {X : Cx} {ρ : Sl} {M : MS} {Φ : PD} {Ξ : PX} {F : Fi}
/-! ### slices -/
def wO (X : Cx) (e : Option Expr) : TO := fun σ H Q => ∀ pins s, Inv X pins σ H s → wpAny (model X.prog X.w) X.A (evalPart e X.env) (fun u s' => ∃ o H', Inv X pins σ H' s' ∧ IsPart u o ∧ Q o H') X.xe s
theorem pO {e : Option Expr} : PO X e (wO X e) := ⟨fun pins s _ _ _ I h => h pins s I⟩
theorem wO.of {e : Option Expr} {t : TO} (p : PO X e t) {σ H Q} (h : t σ H Q) : wO X e σ H Q := fun pins s I => p.run pins s σ H Q I h
def WO (X : Cx) (e : Option Expr) (ρ : Sl) (M : MS) (Φ : Option Int → MS → Prop) (Ξ : PX) : Prop := ∀ σ H, SlOk X.K M H σ ρ → Sto X.K M H → ∀ Q : Option Int → Hp → Prop, (∀ o M' H', Φ o M' → Tr M H M' H' → Sto X.K M' H' → Q o H') → ∀ W, Takes X W → PoX X.K M H Ξ (fun c d H' => W c d σ H') → wO X e σ H Q
theorem wo_none {Φ : Option Int → MS → Prop} (h : Φ none M) : WO X none ρ M Φ Ξ := fun σ H hs st Q q W tk qx => wO.of po_none (q none M H h (Tr.refl _ _) st)
theorem wo_some {e : Expr} {Φ : Option Int → MS → Prop} (h : WE X e ρ M (fun d M1 => ∃ i, d = .int i ∧ Φ (some i) M1) Ξ) : WO X (some e) ρ M Φ Ξ := fun σ H hs st Q q W tk qx => wO.of (po_some pE) (h σ H hs st _ (fun v d M1 H1 ⟨i, e1, a⟩ r t s => by
  subst e1
  cases r
  exact ⟨i, rfl, q _ M1 H1 a t s⟩) W tk qx)
def SD (K : PySem.W.Frag) (r : V → Option Int → Option Int → Hp → VK → Prop) (d : D) (lo hi : Option Int) (M : MS) (Φ : PD) : Prop := ∀ x H, DR K M H x d → Sto K M H → ∀ Q, Po K M H Φ Q → r x lo hi H Q
theorem we_slice {e : Expr} {lo hi : Option Expr} {p2 pos : Pos} {r : V → Option Int → Option Int → Hp → VK → Prop} (hr : SlR X r)
    (h : WE X e ρ M (fun d M1 => WO X lo ρ M1 (fun l M2 => WO X hi ρ M2 (fun u M3 => SD X.K r d l u M3 Φ) Ξ) Ξ) Ξ) : WE X (.Subscript e (.Slice lo hi none p2) pos) ρ M Φ Ξ := fun σ H hs st Q q W tk qx => wE.of (pe_slice hr pE pO pO) (by
  refine h σ H hs st _ (fun x d M1 H1 a rx t1 s1 => ?_) W tk qx
  refine a σ H1 (hs.mono t1) s1 _ (fun l M2 H2 b t2 s2 => ?_) W tk (qx.from t1)
  refine b σ H2 ((hs.mono t1).mono t2) s2 _ (fun u M3 H3 c t3 s3 => ?_) W tk ((qx.from t1).from t2)
  exact c x H3 ((rx.mono t2).mono t3) s3 Q (((q.from t1).from t2).from t3))
theorem sd_str {z : Str} {lo hi : Option Int} (hl : z.length ≤ sizeLine) (h : Φ (.str (cutS z lo hi)) M) : SD X.K rSlS (.str z) lo hi M Φ := fun x H hx st Q q => by
  cases hx
  exact ⟨z, rfl, hl, q _ _ M H h (.str _) (Tr.refl _ _) st⟩
def cutD (xs : List D) (lo hi : Option Int) : List D := (xs.drop (HT.sIx xs.length 0 lo)).take (HT.sIx xs.length xs.length hi - HT.sIx xs.length 0 lo)
theorem cut_of {K : PySem.W.Frag} {H : Hp} {vs : List V} {ds : List D} (r : DRs K M H vs ds) (lo hi : Option Int) : DRs K M H (cutV vs lo hi) (cutD ds lo hi) := by
  unfold cutV cutD
  rw [r.length]
  exact (r.drop _).take _
theorem sd_lst {ds : List D} {lo hi : Option Int} (h : Φ (.lst (cutD ds lo hi)) M) : SD X.K (rSlL X.K) (.lst ds) lo hi M Φ := fun x H hx st Q q => by
  obtain ⟨a, vs, rfl, ha, r1⟩ := hx.lstE
  exact ⟨a, vs, rfl, SqL.of ha, fun p hp => q _ _ M _ h (.lst (st.fresh hp) upd_same ((cut_of r1 lo hi).mono (Tr.new hp))) (Tr.new hp) (st.new hp)⟩
theorem sd_tup {ds : List D} {lo hi : Option Int} (h : Φ (.tup (cutD ds lo hi)) M) : SD X.K (rSlA X.K) (.tup ds) lo hi M Φ := fun x H hx st Q q => by
  obtain ⟨a, vs, rfl, ha, r1⟩ := id hx.tupE
  refine ⟨a, vs, rfl, ha, fun e => ?_, fun _ p hp => q _ _ M _ h (.tup (st.fresh hp) upd_same ((cut_of r1 lo hi).mono (Tr.new hp))) (Tr.new hp) (st.new hp)⟩
  have e1 : cutD ds lo hi = ds := by
    unfold cutD
    rw [← r1.length, e.1, e.2, List.drop_zero, Nat.sub_zero, r1.length, List.take_length]
  rw [e1] at h
  exact q _ _ M H h hx (Tr.refl _ _) st

/-- a slice of the script -/
theorem ints_dr {K : PySem.W.Frag} {H : Hp} : ∀ ns : List Int, DRs K M H (ns.map V.int) (ns.map D.int)
  | [] => .nil
  | n :: ns => .cons (.int n) (ints_dr ns)
theorem sd_scr {ns : List Int} {lo hi : Option Int} (h : Φ (.lst (cutD (ns.map D.int) lo hi)) M) : SD X.K (rSlL X.K) (.scr ns) lo hi M Φ := fun x H hx st Q q => by
  cases hx with
  | scr k =>
    rename_i a
    have hs : SqL X.K H a (ns.map V.int) := by
      rcases k with ⟨_, ob, e⟩ | k
      · exact .inl (.inr ⟨ob, e⟩)
      · exact .inr k
    exact ⟨a, _, rfl, hs, fun p hp => q _ _ M _ h (.lst (st.fresh hp) upd_same ((cut_of (ints_dr ns) lo hi).mono (Tr.new hp))) (Tr.new hp) (st.new hp)⟩

/-! ### methods of built-in types -/
def MD (K : PySem.W.Frag) (T : String) (r : V → List V → Hp → VK → Prop) (d : D) (ds : List D) (M : MS) (Φ : PD) : Prop := ∀ x xs H, DR K M H x d → DRs K M H xs ds → Sto K M H → ∀ Q, Po K M H Φ Q → r x xs H Q
/-- what kind data are of, as a method's owner -/
def ownT : D → Option String
  | .str _ => some "str"
  | .int _ => some "int"
  | .lst _ => some "list"
  | _ => none
theorem tyV_of {K : PySem.W.Frag} {H : Hp} {x : V} {d : D} {T : String} (h : ownT d = some T) (r : DR K M H x d) : tyV K T x H := by
  cases r <;> first | (cases h; done) | skip
  · cases h; rfl
  · cases h; rfl
  · rename_i a xs ds h1 h2 h3
    cases h
    exact .inl ⟨rfl, _, SqL.of h2⟩
section
variable {o e : Expr} {es : List Expr} {name : Str} {apos cpos : Pos} {T id : String} {r : V → List V → Hp → VK → Prop}
theorem we_bm (pa : PlainAttrs T) (slot : Slot T name id) (hty : typeOf (.builtin id) = pure (.type "method_descriptor")) (hm : MtR X id r)
    (h : WE X o ρ M (fun d M1 => ownT d = some T ∧ WA X (e :: es) ρ M1 (fun ds M2 => MD X.K T r d ds M2 Φ) Ξ) Ξ)
    (hbase : attributeBase o name X.env (eval o X.env) = eval o X.env := by rfl)
    (hfew : ((backTo cpos (starEach (e :: es) X.env)).all (fun x => !x.1) && (backToKw cpos (keywordEach [] X.env)).all (fun x => x.1.isSome)
      && decide ((e :: es).length + ([] : List Keyword).length + (if ([] : List Keyword).isEmpty then 0 else 1) < 30)) = true := by rfl)
    (hline : (apos.endLine == cpos.line) = true := by rfl) (hs : starEach (e :: es) X.env = (false, eval e X.env) :: starEach es X.env := by exact se_of rfl) (hplain : (backTo cpos (starEach es X.env)).any (·.1) = false := by exact sa_of rfl) :
    WE X (.Call (.Attribute o name apos) (e :: es) [] cpos) ρ M Φ Ξ := fun σ H hσ st Q q W tk qx => wE.of (pe_bm pa slot hty hm pE pA hbase hfew hline hs hplain) (by
  refine h σ H hσ st _ (fun x d M1 H1 ⟨a1, a2⟩ rx t1 s1 => ⟨tyV_of a1 rx, ?_⟩) W tk qx
  exact a2 σ H1 (hσ.mono t1) s1 _ (fun vs ds M2 H2 b rs t2 s2 => b x vs H2 (rx.mono t2) rs s2 Q ((q.from t1).from t2)) W tk (qx.from t1))
theorem we_bm0 (pa : PlainAttrs T) (slot : Slot T name id) (hty : typeOf (.builtin id) = pure (.type "method_descriptor")) (hm : MtR X id r)
    (h : WE X o ρ M (fun d M1 => ownT d = some T ∧ MD X.K T r d [] M1 Φ) Ξ)
    (hbase : attributeBase o name X.env (eval o X.env) = eval o X.env := by rfl) (hline : (apos.endLine == cpos.line) = true := by rfl) : WE X (.Call (.Attribute o name apos) [] [] cpos) ρ M Φ Ξ := fun σ H hσ st Q q W tk qx =>
  wE.of (pe_bm0 pa slot hty hm pE hbase hline) (h σ H hσ st _ (fun x d M1 H1 ⟨a1, a2⟩ rx t1 s1 => ⟨tyV_of a1 rx, a2 x [] H1 rx .nil s1 Q (q.from t1)⟩) W tk qx)
end
theorem strs_dr {K : PySem.W.Frag} {H : Hp} : ∀ ys : List Str, DRs K M H (ys.map V.str) (ys.map D.str)
  | [] => .nil
  | y :: ys => .cons (.str y) (strs_dr ys)
theorem md_split {a b : Str} (hb : (b.length == 0) = false) (hl : a.length + 2 ≤ sizeLine) (h : Φ (.lst ((Txt.split a b).map D.str)) M) :
    MD X.K "str" (fun x xs H Q => ∃ a b, x = .str a ∧ xs = [.str b] ∧ (b.length == 0) = false ∧ a.length + 2 ≤ sizeLine ∧ rNewStrs (Txt.split a b) H Q) (.str a) [.str b] M Φ := fun x xs H hx hs st Q q => by
  cases hx
  obtain ⟨v, rfl, r⟩ := hs.one
  cases r
  exact ⟨a, b, rfl, rfl, hb, hl, fun p hp => q _ _ M _ h (.lst (st.fresh hp) upd_same (strs_dr _)) (Tr.new hp) (st.new hp)⟩

/-! ### how keywords bind -/
/-- f(e .., k = ..), no defaults used: the values' places are told by a list of places in (written ++ keywords) -/
theorem kb_of {K : PySem.W.Frag} {x qual : Str} {params : Arguments} {body : List Stmt} {scope : Scope} {kws : List (Str × V)} {f : Addr} {fd : FuncData} {ps : List Str} (G : FunD K x qual params body scope [] kws f fd) (n : Nat) (ks : List Str) (pl : List Nat)
    (h : ∀ (kV doc pm : Value) (an : Option Addr) (cdv ct : Value) (us ws : List Value), us.length = n → ws.length = ks.length →
      bindArgs (PySem.W.fnOf x qual params body scope .none kV doc pm an cdv ct) ⟨us, ks.zip ws⟩ = pure (ps.zip (pl.filterMap fun i => (us ++ ws)[i]?)))
    (hp : ∀ i ∈ pl, i < n + ks.length) : KB K fd ps n ks (fun ds es => pl.filterMap fun i => (ds ++ es)[i]?) := by
  obtain ⟨oc, od, dV, kV, doc, pm, an, cdv, ct, osl, rfl, lk, hcd, hD, hK⟩ := G.ex
  rcases hD with ⟨_, rfl⟩ | ⟨e, _⟩
  · refine ⟨fun us ws => pl.filterMap fun i => (us ++ ws)[i]?, fun us ws => pl.filterMap fun i => (us ++ ws)[i]?, fun s us ws _ l1 l2 => .of_eq (h kV doc pm an cdv ct us ws l1 l2), fun {vs us zs ws} r1 r2 l1 l2 => ?_, fun {M H vs ds zs es} r1 r2 l1 l2 => ?_⟩
    · have rr := r1.append r2
      have hz : (vs ++ zs).length = n + ks.length := by rw [List.length_append, l1, l2]
      clear h
      dsimp only
      induction pl with
      | nil => exact .nil
      | cons i is ih =>
        have hi : i < (vs ++ zs).length := by rw [hz]; exact hp i List.mem_cons_self
        obtain ⟨u, e1, e2⟩ := rr.get (List.getElem?_eq_getElem hi)
        rw [List.filterMap_cons, List.filterMap_cons, List.getElem?_eq_getElem hi, e1]
        exact .cons e2 (ih fun j hj => hp j (List.mem_cons_of_mem _ hj))
    · have rr := r1.append r2
      have hz : (ds ++ es).length = n + ks.length := by rw [List.length_append, l1, l2]
      clear h
      dsimp only
      induction pl with
      | nil => exact .nil
      | cons i is ih =>
        have hi : i < (ds ++ es).length := by rw [hz]; exact hp i List.mem_cons_self
        obtain ⟨u, e1, e2⟩ := rr.get (List.getElem?_eq_getElem hi)
        rw [List.filterMap_cons, List.filterMap_cons, List.getElem?_eq_getElem hi, e1]
        exact .cons e2 (ih fun j hj => hp j (List.mem_cons_of_mem _ hj))
  · exact absurd rfl e
end
end DL

set_option Elab.async false
set_option linter.all false
set_option maxRecDepth 100000
set_option maxHeartbeats 4000000
namespace DL
open PySem PySem.Spec PyProof.Rows L2

/-- the abstract heap at the law's call: the script's list alone, or nothing -/
def scriptH (b : Bool) (a : Addr) (o : Obj) (xs : List V) : Hp := fun c => if b = true ∧ c = a then some (.frz o (.lst xs)) else none
theorem scriptH_cases {b : Bool} {a : Addr} {o : Obj} {xs : List V} (c : Addr) : scriptH b a o xs c = none ∨ (b = true ∧ c = a ∧ scriptH b a o xs c = some (.frz o (.lst xs))) := by
  unfold scriptH
  by_cases h : b = true ∧ c = a
  · rw [if_pos h]
    exact .inr ⟨h.1, h.2, rfl⟩
  · rw [if_neg h]
    exact .inl rfl

theorem law_D {P : Program} {w : World} {K : PySem.W.Frag} {mg mb : Str → Option Value} {k : Nat} {fa a : Addr} {fd : FuncData} {x : Str} {sp : DSp} {s : Shared} {vs : List Value} {ns : List Int}
    (kin : K.In s.heap) (nsM : s.heap.Ns mainGlobals mg) (nsB : s.heap.Ns builtinsNs mb) (boot : ∀ x : Str, x ≠ "__name__" → mb x = bootBuiltins x) (lim : s.heap.NoLimit) (gens : s.gens = #[])
    (obj : s.heap.get? a = some { cls := .type "list", data := .seq vs.toArray }) (intv : IntsAre vs ns) (len : ns.length ≤ sizeLine) (room : Room k callerA)
    (F : ∀ base : Heap, K.In base → base.Ns mainGlobals mg → FnD P w K mg base k fa fd [x] sp) (bind : ∀ (s : Shared) (u : Value), BindsTo s fd ⟨[u], []⟩ [(x, u)])
    (want : sp [.scr ns] (fun _ => none) (fun d _ => d = .bl true) (fun _ _ => False)) :
    codeAny (model P w) callerA (.call (.ref fa) ⟨[.ref a], []⟩) (fun r s' => r = .ok (.ret (.bool true)) ∧ OldK s.heap s'.heap ∧ s'.os = s.os ∧ AllBare s'.gens) s := by
  have rel := vals_ints intv
  have vl : vs.length = ns.length := intv.length
  obtain ⟨b, hb⟩ : ∃ b : Bool, b = (K.lookup a).isNone := ⟨_, rfl⟩
  generalize hH : scriptH b a { cls := .type "list", data := .seq vs.toArray } (ns.map V.int) = H
  have cs : ∀ c, H c = none ∨ (b = true ∧ c = a ∧ H c = some (.frz { cls := .type "list", data := .seq vs.toArray } (.lst (ns.map V.int)))) := fun c => by rw [← hH]; exact scriptH_cases c
  have hok : HOk P w H s.heap := fun c o e => by
    rcases cs c with q | ⟨_, rfl, q⟩
    · rw [q] at e; cases e
    · rw [q] at e
      cases e
      exact ⟨obj, by rw [List.length_map]; exact len, vs, _, rel, obj⟩
  have dat : DR K (fun _ => none) H (.ref a) (.scr ns) := by
    cases hk : K.lookup a with
    | none =>
      refine .scr (.inl ⟨rfl, { cls := .type "list", data := .seq vs.toArray }, ?_⟩)
      rw [← hH]
      exact if_pos ⟨by rw [hb, hk]; rfl, rfl⟩
    | some o =>
      have e := kin a o hk
      rw [obj] at e
      cases e
      exact .scr (.inr ⟨_, vs.toArray, _, hk, rfl, rfl, rfl, by rw [List.size_toArray, vl]; exact len, by simpa using rel⟩)
  -- the base: the heap without the script
  have nod : ∀ {c : Addr} {o : Obj} {es : Array DictEntry} {ep : Nat}, s.heap.get? c = some o → o.data = .dict es ep → H c = none := fun {c o es ep} e d => by
    rcases cs c with q | ⟨_, rfl, q⟩
    · exact q
    · rw [obj] at e
      cases e
      have d' : Data.seq vs.toArray _ = Data.dict es ep := d
      cases d'
  have keepNs : ∀ {c : Addr} {m : Str → Option Value}, s.heap.Ns c m → (hidT s.heap H).Ns c m := fun {c m} ⟨o, es, ep, e, d, r⟩ => ⟨o, es, ep, hidT_get e (nod e d), d, r⟩
  have kinB : K.In (hidT s.heap H) := fun c o e => hidT_get (kin c o e) (by
    rcases cs c with q | ⟨hb1, rfl, q⟩
    · exact q
    · rw [hb, e] at hb1
      cases hb1)
  have md : Mod K mg (hidT s.heap H) := ⟨kinB, keepNs nsM, ⟨mb, keepNs nsB, boot⟩, match lim with | ⟨mc, h1, h2⟩ => ⟨mc, keepNs h1, h2⟩⟩
  have env : Env0 P w K mg (hidT s.heap H) callerA [] s H := ⟨rfl, md, fun c o e => of_hidT e, Nat.le_of_eq (hidT_size _ _), trivial, fun c hc => (nomatch hc), hok, .of_eq gens⟩
  have run := (F _ kinB (keepNs nsM)).run callerA [] s H ⟨[.ref a], []⟩ [.ref a] [.ref a] [.scr ns] (fun _ => none) _ _ room rfl env (bind s (.ref a)) (.cons rfl .nil) (.cons dat .nil) (fun _ _ e => (nomatch e)) want
  refine codeAny_mono run ?_
  rintro (e | fl) s' q
  · obtain ⟨_, _, _, _, _, _, _, _, _, _, _, _, _, _, z, _⟩ := q
    exact z.elim
  · match fl, q with
    | .ret u, ⟨v, H', os, bare, un, hok', r, d, M', e, dr, _, _⟩ =>
      subst e
      cases dr
      obtain rfl : u = Value.bool true := r
      refine ⟨rfl, OldK.of_keep fun c o e => ?_, os, bare⟩
      rcases cs c with q | ⟨_, rfl, q⟩
      · exact un.keep c o e q (fun z => (nomatch z)) (fun z => (nomatch z))
      · have z := hok' c _ (un.frzs c _ _ q)
        rw [obj] at e
        cases e
        exact z.1
    | .next, q => exact q.elim
    | .brk, q => exact q.elim
    | .cont, q => exact q.elim

/-- the end of a law's row -/
theorem walk_D {l : PySem.W.OpenLaw} {n k : Nat} {q : Program} {loose : List Str} {XP : (Str → Option Value) → Heap → Prop} {YP : World → Heap → Prop} {d : DefRec} {x : Str}
    (hn : l.most = some n) (hn2 : n ≤ sizeLine) (hdf : d.params.defaults = []) (hr : Room k callerA)
    (F : ∀ (w : World) (mg : Str → Option Value) (fa : Addr) (h : Heap), YP w h → h.Ns mainGlobals mg → mg d.name = some (.ref fa) →
      ∃ (K : PySem.W.Frag) (fd : FuncData) (sp : DSp), K.In h ∧ (∀ (s : Shared) (u : Value), BindsTo s fd ⟨[u], []⟩ [(x, u)]) ∧ (∀ ns : List Int, ns.length ≤ n → sp [.scr ns] (fun _ => none) (fun d _ => d = .bl true) (fun _ _ => False)) ∧
        ∀ base : Heap, K.In base → base.Ns mainGlobals mg → FnD l.prog w K mg base k fa fd [x] sp) :
    PySem.W.WalkO q loose XP YP l.row.toRowW d [] (fun f vs => PySem.call f vs) := by
  refine Att.attach_call hn hdf ?_
  intro w s₀ s₁ mg mb fa o pm cd doc a vs ns G Y _ _ _ hmg obj intv len gens
  obtain ⟨K, fd, sp, kin, bind, want, ok⟩ := F w mg fa _ Y G.T.g hmg
  exact law_D kin G.T.g G.T.b G.T.builtins G.T.nolimit gens obj intv (Nat.le_trans len hn2) hr ok bind (want ns len)
end DL

set_option Elab.async false
set_option linter.all false
set_option maxRecDepth 100000
set_option maxHeartbeats 4000000
namespace DL
open PySem PySem.Spec PyProof.Rows L2

/-- a def of the module that keeps a promise: called by its name -/
structure FnC (P : Program) (w : World) (K : PySem.W.Frag) (mg : Str → Option Value) (base : Heap) (k : Nat) (x : Str) (st : Stmt) (ps : List Str) (sp : DSp) : Prop where
  ex : ∃ (f : Addr) (fd : FuncData), mg x = some (.ref f) ∧ FunD K x x (defArgs st) (defBody st) (defScope st) [] [] f fd ∧ BindsD K fd ps [] ∧ FnD P w K mg base k f fd ps sp
/-- a def as the top left it -/
structure Dfn (K : PySem.W.Frag) (mg : Str → Option Value) (x : Str) (st : Stmt) : Prop where
  ex : ∃ (f : Addr) (fd : FuncData), mg x = some (.ref f) ∧ FunD K x x (defArgs st) (defBody st) (defScope st) [] [] f fd
theorem FnC.mono {P w K mg base j k x st ps sp} (C : FnC P w K mg base j x st ps sp) (h : j ≤ k) : FnC P w K mg base k x st ps sp :=
  let ⟨f, fd, a, b, c, d⟩ := C.ex
  ⟨f, fd, a, b, c, d.mono h⟩
theorem FnC.imp {P w K mg base k x st ps} {sp sp' : DSp} (C : FnC P w K mg base k x st ps sp) (h : ∀ ds M Φ Ξ, sp' ds M Φ Ξ → sp ds M Φ Ξ) : FnC P w K mg base k x st ps sp' :=
  let ⟨f, fd, a, b, c, d⟩ := C.ex
  ⟨f, fd, a, b, c, d.imp h⟩
/-- a def by its body -/
theorem fnC_of {P : Program} {w : World} {K : PySem.W.Frag} {mg : Str → Option Value} {base : Heap} {k : Nat} {x : Str} {st : Stmt} {N ps : List Str} {sp : DSp} (D : Dfn K mg x st) (S : FnScope N ps (defScope st))
    (hb : ∀ (kV doc pm : Value) (an : Option Addr) (cdv ct : Value) (us : List Value), us.length = ps.length → bindArgs (PySem.W.fnOf x x (defArgs st) (defBody st) (defScope st) .none kV doc pm an cdv ct) ⟨us, []⟩ = pure (ps.zip us))
    (len : ∀ ds M Φ Ξ, sp ds M Φ Ξ → ds.length = ps.length)
    (hbody : ∀ (f : Addr) (cdv : Value) (A : Around) (outer : List Env) (s : Shared) (H : Hp) (E : XK), Room k (bodyCx P w K mg base N x (defScope st) f cdv A outer s H E).A → (bodyCx P w K mg base N x (defScope st) f cdv A outer s H E).A.guards = some [] →
      ∀ ds M Φ Ξ, sp ds M Φ Ξ → WB (bodyCx P w K mg base N x (defScope st) f cdv A outer s H E) (defBody st) (startD N ds) M { nx := fun _ M' => Φ .non M', rt := Φ, ex := fun e _ M' => Ξ e M' }) : FnC P w K mg base (k + 1) x st ps sp := by
  obtain ⟨f, fd, a, b⟩ := D.ex
  exact ⟨f, fd, a, b, .all (b.bindsN hb), fnD_of b S len (hbody f)⟩
section
variable {X : Cx} {ρ : Sl} {M : MS} {Φ : PD} {Ξ : PX} {k : Nat} {x : Str} {st : Stmt} {ps : List Str} {sp : DSp} {p pos : Pos}
theorem we_callC {e : Expr} {es : List Expr} (C : FnC X.prog X.w X.K X.mg X.base k x st ps sp) (hr : Room k X.A) (gd : X.A.guards = some []) (hg : Gl X x) (h : WA X (e :: es) ρ M (fun ds M1 => sp ds M1 Φ Ξ) Ξ)
    (hdb : (x == ("__debug__" : Str)) = false := by decide) (he : starEach (e :: es) X.env = (false, eval e X.env) :: starEach es X.env := by exact se_of rfl) (hpl : (backTo pos (starEach es X.env)).any (·.1) = false := by exact sa_of rfl) : WE X (.Call (.Name x p) (e :: es) [] pos) ρ M Φ Ξ := by
  obtain ⟨f, fd, a, b, c, d⟩ := C.ex
  refine we_call d hr gd hg a b.kp c ?_ hdb he hpl
  refine fun σ H hσ sto Q q => h σ H hσ sto Q fun vs ds M' H' z => q vs ds M' H' ?_
  show sp (ds ++ []) M' Φ Ξ
  rw [List.append_nil]
  exact z
theorem we_callC0 (C : FnC X.prog X.w X.K X.mg X.base k x st ps sp) (hr : Room k X.A) (gd : X.A.guards = some []) (hg : Gl X x) (h : sp [] M Φ Ξ) (hdb : (x == ("__debug__" : Str)) = false := by decide) : WE X (.Call (.Name x p) [] [] pos) ρ M Φ Ξ := by
  obtain ⟨f, fd, a, b, c, d⟩ := C.ex
  exact we_call0 d hr gd hg a b.kp c h hdb
theorem we_callCK0 {kws : List Keyword} (C : FnC X.prog X.w X.K X.mg X.base k x st ps sp) (hr : Room k X.A) (gd : X.A.guards = some []) (hg : Gl X x) (ks : List Str) (pl : List Nat)
    (hb : ∀ (kV doc pm : Value) (an : Option Addr) (cdv ct : Value) (us ws : List Value), us.length = 0 → ws.length = ks.length →
      bindArgs (PySem.W.fnOf x x (defArgs st) (defBody st) (defScope st) .none kV doc pm an cdv ct) ⟨us, ks.zip ws⟩ = pure (ps.zip (pl.filterMap fun i => (us ++ ws)[i]?)))
    (hp : ∀ i ∈ pl, i < 0 + ks.length) (h : WK X kws ρ M (fun zs M2 => zs.length = ks.length ∧ sp (pl.filterMap fun i => zs[i]?) M2 Φ Ξ) Ξ)
    (hall : (backToKw pos (keywordEach kws X.env)).all (·.1.isSome) = true := by rfl) (hks : (backToKw pos (keywordEach kws X.env)).filterMap (·.1) = ks := by rfl) (hdb : (x == ("__debug__" : Str)) = false := by decide)
    (hpl : ((backTo pos (starEach [] X.env)).any (·.1) || (backToKw pos (keywordEach kws X.env)).any (·.1.isNone)) = false := by rfl) : WE X (.Call (.Name x p) [] kws pos) ρ M Φ Ξ := by
  obtain ⟨f, fd, a, b, c, d⟩ := C.ex
  exact we_callK0 d hr gd hg a b.kp (kb_of b 0 ks pl hb hp) h hall hks hdb hpl
end
/-! ### small helps -/
section
variable {X : Cx} {ρ : Sl} {M : MS} {Φ : PD} {Ξ : PX} {F : Fi}
theorem cd_repr {d : D} {p : PyData} (hp : toP d = some p) (sh : p.showable = true) (dep : p.depth ≤ 64) (sz : p.shown.length ≤ sizeLine) (h : Φ (.str p.shown) M) :
    CD X.K (fun xs H Q => ∃ M v d p, xs = [v] ∧ DR X.K M H v d ∧ toP d = some p ∧ p.showable = true ∧ p.depth ≤ 64 ∧ p.shown.length ≤ sizeLine ∧ Q (.str p.shown) H) [d] M Φ := fun xs H hx st Q q => by
  obtain ⟨v, rfl, r⟩ := hx.one
  exact ⟨M, v, d, p, rfl, r, hp, sh, dep, sz, q _ _ M H h (.str _) (Tr.refl _ _) st⟩
/-- c in z, c one sign -/
theorem od_insign {c : Nat} {z : Str} (h : Φ (.bl (decide (c ∈ z.cps.toList))) M) : OD X.K (fun x y H Q => ∃ c z, x = .str ⟨#[c]⟩ ∧ y = .str z ∧ Q (.bl (decide (c ∈ z.cps.toList))) H) (.str ⟨#[c]⟩) (.str z) M Φ := fun x y H hx hy st Q q => by
  cases hx
  cases hy
  exact ⟨c, z, rfl, rfl, q _ _ M H h (.bl _) (Tr.refl _ _) st⟩
/-- xs[i] = e at a list that may change -/
theorem set_at {p : Addr} {ds : List D} {i : Int} {j : Nat} {d : D} (hm : M p = some (.lst ds)) (hj : ixN ds.length i = some j) (h : F.nx ρ (put M p (.lst (ds.set j d)))) :
    ∀ v x y H σ, DR X.K M H v d → DR X.K M H x (.raw (.ref p)) → DR X.K M H y (.int i) → Sto X.K M H → SlOk X.K M H σ ρ → ∀ Q : Hp → Prop,
      (∀ M' H', F.nx ρ M' → SlOk X.K M' H' σ ρ → Tr M H M' H' → Sto X.K M' H' → Q H') → rSetL x y v H Q := by
  intro v x y H σ hv hx hy sto so Q q
  cases hx
  cases hy
  obtain ⟨xs, hx, rx⟩ := sto p _ hm
  have t : Tr M H (put M p (.lst (ds.set j d))) (upd H p (.lst (xs.set j v))) := Tr.chg hm
  refine ⟨p, xs, i, j, rfl, rfl, hx, by rw [rx.length]; exact hj, q _ _ h (so.mono t) t (sto.chg hm ⟨_, upd_same, (DRs.set hv j rx).mono t⟩)⟩

theorem toPs_map {α : Type} {f : α → D} {g : α → PyData} (h : ∀ a, toP (f a) = some (g a)) : ∀ xs : List α, toPs (xs.map f) = some (xs.map g)
  | [] => by simp only [List.map_nil, toPs]
  | x :: xs => by simp only [List.map_cons, toPs, h, toPs_map h xs, Option.bind_some, Option.map_some]
theorem toP_ints (ns : List Int) : toP (.lst (ns.map .int)) = some (.list (ns.map .int)) := by
  simp only [toP, toPs_map (f := D.int) (g := PyData.int) (fun _ => by simp only [toP]) ns, Option.map_some]
theorem depthAll_flat : ∀ {ps : List PyData}, (∀ p ∈ ps, p.depth = 0) → PyData.depthAll ps = 0
  | [], _ => by simp only [PyData.depthAll]
  | p :: ps, h => by
    simp only [PyData.depthAll]
    rw [h p List.mem_cons_self, depthAll_flat fun q hq => h q (List.mem_cons_of_mem _ hq)]
    rfl
theorem canAll_of : ∀ {ps : List PyData}, (∀ p ∈ ps, p.canLay0 = true) → PyData.canLayAll0 ps = true
  | [], _ => by simp only [PyData.canLayAll0]
  | p :: ps, h => by
    simp only [PyData.canLayAll0, Bool.and_eq_true]
    exact ⟨h p List.mem_cons_self, canAll_of fun q hq => h q (List.mem_cons_of_mem _ hq)⟩
theorem shaped_list {ps : List PyData} (h : ∀ p ∈ ps, p.canLay0 = true ∧ p.depth = 0) : SeqAt.shaped (.list ps) = true := by
  unfold SeqAt.shaped
  have h1 : PyData.canLayAll0 ps = true := canAll_of fun p hp => (h p hp).1
  have h2 : PyData.depthAll ps = 0 := depthAll_flat fun p hp => (h p hp).2
  simp only [PyData.canLay0, PyData.depth, h1, h2, Bool.true_and, decide_eq_true_eq]
  decide
theorem shaped_ints (ns : List Int) : SeqAt.shaped (.list (ns.map .int)) = true := shaped_list fun p hp => by
  obtain ⟨i, _, rfl⟩ := List.mem_map.mp hp
  exact ⟨by simp only [PyData.canLay0], by simp only [PyData.depth]⟩
theorem natmod (a b : Nat) : ((a : Int) % (b : Int)) = ((a % b : Nat) : Int) := by omega
end
end DL

set_option Elab.async false
set_option linter.all false
set_option maxRecDepth 100000
set_option maxHeartbeats 4000000
namespace DL
open PySem PySem.Spec PyProof.Rows L2
section
variable {X : Cx} {ρ : Sl} {M : MS} {Φ : PD} {Ξ : PX} {F : Fi}
/-! ### == of two scalars of one kind -/
theorem od_eqI {i j : Int} (h : Φ (.bl (decide (i = j))) M) : OD X.K rEq (.int i) (.int j) M Φ := fun x y H hx hy st Q q => by
  cases hx
  cases hy
  refine ⟨rfl, ?_⟩
  rw [show decide (V.int i = V.int j) = decide (i = j) by simp]
  exact q _ _ M H h (.bl _) (Tr.refl _ _) st
theorem od_neI {i j : Int} (h : Φ (.bl (!decide (i = j))) M) : OD X.K rNe (.int i) (.int j) M Φ := fun x y H hx hy st Q q => by
  cases hx
  cases hy
  refine ⟨rfl, ?_⟩
  rw [show decide (V.int i = V.int j) = decide (i = j) by simp]
  exact q _ _ M H h (.bl _) (Tr.refl _ _) st
theorem od_eqS {i j : Str} (h : Φ (.bl (decide (i = j))) M) : OD X.K rEq (.str i) (.str j) M Φ := fun x y H hx hy st Q q => by
  cases hx
  cases hy
  refine ⟨rfl, ?_⟩
  rw [show decide (V.str i = V.str j) = decide (i = j) by simp]
  exact q _ _ M H h (.bl _) (Tr.refl _ _) st
theorem od_neS {i j : Str} (h : Φ (.bl (!decide (i = j))) M) : OD X.K rNe (.str i) (.str j) M Φ := fun x y H hx hy st Q q => by
  cases hx
  cases hy
  refine ⟨rfl, ?_⟩
  rw [show decide (V.str i = V.str j) = decide (i = j) by simp]
  exact q _ _ M H h (.bl _) (Tr.refl _ _) st
theorem we_neg {e : Expr} {pos : Pos} (h : WE X e ρ M (fun d M1 => ∃ i : Int, d = .int i ∧ Φ (.int (-i)) M1) Ξ) : WE X (.UnaryOp .USub e pos) ρ M Φ Ξ := fun σ H hs st Q q W tk qx => wE.of (pe_un un_neg pE) (h σ H hs st _ (fun v d M1 H1 ⟨i, e1, a⟩ r t s => by
  subst e1
  cases r
  exact ⟨i, rfl, q _ _ M1 H1 a (.int _) t s⟩) W tk qx)
/-! ### displays of dicts -/
theorem we_dict0 {pos : Pos} (h : Φ (.dct [] []) M) : WE X (.Dict [] [] pos) ρ M Φ Ξ := .of pe_dnewK fun σ H hs st Q q p hp =>
  q _ _ M _ h (.dct (st.fresh hp) upd_same rfl rfl .nil) (Tr.new hp) (st.new hp)
def keyD : Key → D
  | .inl i => .int i
  | .inr x => .str x
theorem key_of {K : PySem.W.Frag} {H : Hp} {v : V} {k : Key} (r : DR K M H v (keyD k)) : v = kV k := by
  cases k <;> (cases r; rfl)
/-- {k: v}; meanwhile the new dict stands empty at a new place -/
theorem we_dict1 {k v : Expr} {pos : Pos} (h : ∀ L, M L = none → WE X k ρ (put M L (.dct [] [])) (fun dk M1 => WE X v ρ M1 (fun dv M2 => ∃ key, dk = keyD key ∧ M2 L = some (.dct [] []) ∧ Φ (.dct [key] [dv]) (cut M2 L)) Ξ) Ξ) : WE X (.Dict [some k] [v] pos) ρ M Φ Ξ :=
  fun σ H hs st Q q W tk qx => wE.of (pe_disp (pps_cons pE pE pps_nil) rfl rfl (fun z => by cases z) (by simp)) (by
    intro L hL
    have mL := st.fresh hL
    have t0 : Tr M H (put M L (.dct [] [])) (upd H L (.dK [])) := Tr.newM hL
    have s0 := st.newM hL (d := .dct [] []) (o := .dK []) ⟨[], upd_same, rfl, .nil⟩
    refine h L mL σ _ (hs.mono t0) s0 _ (fun x dk M1 H1 a rx t1 s1 => ?_) W tk (qx.from t0)
    refine a σ H1 ((hs.mono t0).mono t1) s1 _ (fun y dv M2 H2 ⟨key, ek, mm, b⟩ ry t2 s2 => ?_) W tk ((qx.from t0).from t1)
    subst ek
    obtain ⟨kvs, e1, e2, e3⟩ := s2 L _ mm
    have ez : kvs = [] := List.map_eq_nil_iff.mp e2
    subst ez
    have t3 : Tr M2 H2 (put M2 L (.dct [key] [dv])) (upd H2 L (.dK [(key, y)])) := Tr.chg mm
    have s3 : Sto X.K (put M2 L (.dct [key] [dv])) (upd H2 L (.dK [(key, y)])) := s2.chg mm ⟨_, upd_same, rfl, .cons (ry.mono t3) .nil⟩
    have cc : cut (put M2 L (.dct [key] [dv])) L = cut M2 L := by
      funext z
      unfold cut put
      split <;> rfl
    have fz := DR.frz s3 (p := L) put_same
    refine ⟨e1, [(key, y)], by rw [key_of rx]; rfl, by simp, q _ _ (cut M2 L) _ b ?_ ?_ ?_⟩
    · rw [← cc]
      exact fz
    · rw [← cc]
      exact (((t0.trans t1).trans t2).trans t3).trans Tr.frz
    · rw [← cc]
      exact s3.frz)
/-! ### a module's constant -/
structure GC (K : PySem.W.Frag) (mg : Str → Option Value) (x : Str) (d : D) : Prop where
  ex : ∃ v u, mg x = some u ∧ L2.RelV v u ∧ Fix K v d
theorem we_gc {x : Str} {d : D} {pos : Pos} (g : GC X.K X.mg x d) (hg : Gl X x) (h : Φ d M) (hd : (x == ("__debug__" : Str)) = false := by decide) : WE X (.Name x pos) ρ M Φ Ξ := by
  obtain ⟨v, u, a, b, c⟩ := g.ex
  exact we_glob hg a b c h hd
theorem we_to {e : Expr} {d0 : D} {M0 : MS} (h : WE X e ρ M (fun d M' => d = d0 ∧ M' = M0) Ξ) (k : Φ d0 M0) : WE X e ρ M Φ Ξ := h.imp fun d M' ⟨a, b⟩ => by
  subst a
  subst b
  exact k
/-- a promise of a def that changes nothing: f of the arguments -/
def pureSp (f : List D → Option D) : DSp := fun ds M Φ _ => ∃ d, f ds = some d ∧ Φ d M
end
theorem le_line {n : Nat} (h : Nat.ble n 1000 = true) : n ≤ sizeLine := Nat.le_trans (Nat.le_of_ble_eq_true h) (by decide)
theorem cut_put' {M : MS} {p : Addr} {d : D} (h : M p = none) : cut (put M p d) p = M := cut_put h
end DL

set_option Elab.async false
set_option linter.all false
set_option maxRecDepth 100000
set_option maxHeartbeats 4000000
namespace DL
open PySem PySem.Spec PyProof.Rows L2
/-! ### the head's facts: sys.modules is a dict, tables of the module, defs -/
def sysB (K : PySem.W.Frag) : Bool := match K.lookup sysModules with
  | some ⟨.type c, _, _, _⟩ => decide (c = "dict")
  | _ => false
theorem sysB_ok {K : PySem.W.Frag} (h : sysB K = true) : ∃ o, K.lookup sysModules = some o ∧ o.cls = .type "dict" := by
  unfold sysB at h
  split at h
  · rename_i c od dt sl e
    exact ⟨_, e, by rw [of_decide_eq_true h]⟩
  · cases h
def tabsB (K : PySem.W.Frag) (tb : List (Str × List He.Dv)) : Bool := tb.all fun t => He.tupB K t.1 t.2
def fragX (n : Nat) (g : Addr → Option Obj) : PySem.W.Frag := He.frG g (sysModules :: He.asD g n)
def obsX (n : Nat) (fa : List He.Fa) (fn : List He.DefD) (tb : List (Str × List He.Dv)) (g : Addr → Option Obj) : Bool × He.AlD := (sysB (fragX n g) && tabsB (fragX n g) tb, He.obsD fa fn (fragX n g))
structure SaysX (fa : List He.Fa) (fn : List He.DefD) (tb : List (Str × List He.Dv)) (K : PySem.W.Frag) : Prop where
  sys : sysB K = true
  tab : tabsB K tb = true
  dfs : He.SaysD fa fn K
def hookX (n : Nat) (fa : List He.Fa) (fn : List He.DefD) (tb : List (Str × List He.Dv)) : PySem.W.Hook where
  α := Bool × He.AlD
  obs := fun s => obsX n fa fn tb s.heap.get?
  val := fun _ => (true, He.valD fn)
  says := fun _ h => ∃ K : PySem.W.Frag, K.In h ∧ SaysX fa fn tb K
  of := fun _ s e => by
    have e1 : (sysB (fragX n s.heap.get?) && tabsB (fragX n s.heap.get?) tb) = true := congrArg Prod.fst e
    have e2 : He.obsD fa fn (fragX n s.heap.get?) = He.valD fn := congrArg Prod.snd e
    rw [Bool.and_eq_true] at e1
    exact ⟨fragX n s.heap.get?, He.frG_in, e1.1, e1.2, e2⟩
  keeps := fun _ _ _ ⟨K, hK, c⟩ k => ⟨K, PySem.W.Frag.In.keeps hK k, c⟩
theorem obsX_eq {n : Nat} {fa : List He.Fa} {fn : List He.DefD} {tb : List (Str × List He.Dv)} {g : Addr → Option Obj} {s : Shared} (h : ∀ a, g a = s.heap.get? a) : obsX n fa fn tb g = (hookX n fa fn tb).obs s := by
  have e : g = s.heap.get? := funext h
  rw [e]
  rfl
section
variable {K : PySem.W.Frag} {mg : Str → Option Value} {h : Heap}
theorem gc_int (X : K.In h) (G : h.Ns mainGlobals mg) {x : Str} {i : Int} (c : (He.Fa.int x i).ok K = true) : GC K mg x (.int i) := by
  obtain ⟨t, e⟩ := He.int_ok X G c
  exact ⟨.int i, _, e, ⟨t, rfl⟩, fun _ _ => .int i⟩
theorem gc_str (X : K.In h) (G : h.Ns mainGlobals mg) {x z : Str} (c : (He.Fa.str x z).ok K = true) : GC K mg x (.str z) := by
  obtain ⟨t, e⟩ := He.str_ok X G c
  exact ⟨.str z, _, e, ⟨t, rfl⟩, fun _ _ => .str z⟩
def dvD : He.Dv → D
  | .bl b => .bl b
  | .int i => .int i
  | .str x => .str x
  | _ => .non
def plainDv : He.Dv → Bool
  | .non => true
  | .bl _ => true
  | .int _ => true
  | .str _ => true
  | _ => false
theorem dv_all {M : MS} {H : Hp} : ∀ {vs : List He.Dv}, vs.all plainDv = true → DRs K M H (vs.map (He.Dv.v K)) (vs.map dvD)
  | [], _ => .nil
  | v :: vs, e => by
    rw [List.all_cons, Bool.and_eq_true] at e
    refine .cons ?_ (dv_all e.2)
    cases v <;> first | exact .non | exact .bl _ | exact .int _ | exact .str _ | cases e.1
theorem gc_tup (X : K.In h) (G : h.Ns mainGlobals mg) {x : Str} {vs : List He.Dv} (c : (He.Fa.glo x).ok K = true) (t : He.tupB K x vs = true) (p : vs.all plainDv = true) : GC K mg x (.tup (vs.map dvD)) := by
  refine ⟨.ref (He.ga K x), _, He.glo_ok X G c, rfl, fun M H => ?_⟩
  rcases He.tupB_ok t (fun _ => none) with (q | ⟨_, q⟩) | q
  · cases q
  · cases q
  · exact .tupK q (dv_all p)
theorem tab_at {tb : List (Str × List He.Dv)} (e : tabsB K tb = true) (i : Nat) {t : Str × List He.Dv} (h : tb[i]? = some t) : He.tupB K t.1 t.2 = true := List.all_eq_true.mp e t (List.mem_of_getElem? h)
/-- a def of the module -/
abbrev defn (x : Str) (st : Stmt) : He.DefD := ⟨(x, none), x, x, defArgs st, defBody st, defScope st, [], []⟩
theorem dfn_of (X : K.In h) (G : h.Ns mainGlobals mg) {fa : List He.Fa} {fn : List He.DefD} (c : He.SaysD fa fn K) {x : Str} {st : Stmt} (i j : Nat) (hi : fn[i]? = some (defn x st)) (hj : fa[j]? = some (.glo x)) : Dfn K mg x st := by
  obtain ⟨fd, F⟩ := c.def_ i hi
  exact ⟨_, fd, He.glo_ok X G (c.fact j hj), F⟩
end
end DL

set_option Elab.async false
set_option linter.all false
set_option maxRecDepth 100000
set_option maxHeartbeats 4000000
namespace Lw
open PySem PySem.Spec PyProof.Rows L2 DL
def top (i : Nat) : Stmt := PySem.Challenge.pw_layerseen_k02_names_and_words.main.body.getD i (.Pass ⟨0, 0, 0, 0⟩)

def kept : List Str := ["put", "copy", "if", "else", "say", "fail", "catch", "choose", "or", "none", "stop", "skip", "cell", "log", "failure", "choice"]
abbrev alphabet : Str := "abcdefghijklmnopqrstuvwxyz"
/-- which built-in names the module leaves alone -/
structure Txt (K : PySem.W.Frag) (mg : Str → Option Value) : Prop where
  sm : ∃ o, K.lookup sysModules = some o ∧ o.cls = .type "dict"
  n_len : mg "len" = none
  n_int : mg "int" = none
  n_abs : mg "abs" = none
  n_list : mg "list" = none
  n_range : mg "range" = none
  n_repr : mg "repr" = none
  n_all : mg "all" = none
  n_str : mg "str" = none
  n_isinstance : mg "isinstance" = none
  g_MOST_LETTERS : GC K mg "MOST_LETTERS" (.int 8)
  g_LETTERS : GC K mg "LETTERS" (.str alphabet)
  g_KEPT : GC K mg "KEPT" (.tup (kept.map .str))

/-! ### the pen -/
/-- at p stands a pen that began at most n cells -/
def Pen (M : MS) (p : Addr) (n : Nat) : Prop := ∃ (ns : List Int) (k : Nat) (z : Int), M p = some (.lst [.lst (ns.map .int), .int k, .int z]) ∧ k ≤ n
/-- all but p is as it was -/
def But (p : Addr) (M M' : MS) : Prop := ∀ a, a ≠ p → M' a = M a
theorem But.refl (p : Addr) (M : MS) : But p M M := fun _ _ => rfl
theorem But.trans {p : Addr} {M M1 M2 : MS} (a : But p M M1) (b : But p M1 M2) : But p M M2 := fun x h => (b x h).trans (a x h)
theorem But.put {p : Addr} {M : MS} {d : D} : But p M (put M p d) := fun _ h => put_ne h
theorem Pen.mono {M : MS} {p : Addr} {n m : Nat} (h : Pen M p n) (l : n ≤ m) : Pen M p m := let ⟨a, b, c, d, e⟩ := h; ⟨a, b, c, d, Nat.le_trans e l⟩
def spDraw : DSp := fun ds M Φ _ => ∃ (p : Addr) (many : Int) (n : Nat), ds = [.raw (.ref p), .int many] ∧ Pen M p n ∧ n ≤ 100000 ∧ 0 < many ∧ many < 1000000 ∧
  ∀ (r : Int) (M' : MS), 0 ≤ r → r < many → Pen M' p (n + 1) → But p M M' → Φ (.int r) M'

abbrev s_law_draw : Stmt := top 8
theorem sc_law_draw : FnScope ["_law_pen_here", "_law_many", "_law_digit", "_law_begun", "_law_raw", "_law_great", "_law_stirred"] ["_law_pen_here", "_law_many"] (defScope s_law_draw) := ⟨rfl, rfl, rfl, by decide +kernel, rfl, by decide +kernel, by decide +kernel⟩
variable {P : Program} {w : World} {K : PySem.W.Frag} {mg : Str → Option Value} {base : Heap}
theorem pow_small {i : Int} {n : Int} (h : 0 ≤ n ∧ n ≤ 1000) (l : i.natAbs < 2 ^ 64) : CPow i n := ⟨h.1, by omega, l⟩
theorem ok_draw (T : Txt K mg) (G : Dfn K mg "_law_draw" s_law_draw) : FnC P w K mg base 1 "_law_draw" s_law_draw ["_law_pen_here", "_law_many"] spDraw := by
  refine fnC_of G sc_law_draw (fun _ _ _ _ _ _ us hl => match us, hl with | [_, _], _ => rfl) (fun ds M Φ Ξ ⟨_, _, _, e, _⟩ => by rw [e]; rfl) ?_
  rintro f cdv A outer s H E hr gd ds M Φ Ξ ⟨p, many, n, rfl, ⟨ns, k, z, hM, hk⟩, hn, m0, m1, want⟩
  have md : CDiv 0 many := ⟨m0, by omega⟩
  -- if _law_pen_here[2] > 0:
  refine wb_cons (ws_if (wt_cmp op_gt (nomark _) (we_ix ix_list (fun _ _ => rfl) (we_var 0 rfl (we_int (od_ixM hM rfl (we_int (od_I0 (fix_bl _) ⟨_, rfl, ⟨fun _ => ?_, fun _ => ?_⟩⟩))))))))
  · -- then
    -- _law_digit = int(_law_pen_here[2]) % _law_many
    refine wb_cons (ws_set 2 sc_law_draw.nd (we_op op_mod (we_ty call_int1 rfl T.n_int (by decide +kernel) (wa_cons (we_ix ix_list (fun _ _ => rfl) (we_var 0 rfl (we_int (od_ixM hM rfl (wa_nil (cd_int (we_var 1 rfl (od_I m0 (fix_int _) ?_))))))))))))
    -- _law_pen_here[2] = int(_law_pen_here[2]) // _law_many
    refine wb_cons (ws_sub set_list (we_op op_fdiv (we_ty call_int1 rfl T.n_int (by decide +kernel) (wa_cons (we_ix ix_list (fun _ _ => rfl) (we_var 0 rfl (we_int (od_ixM hM rfl (wa_nil (cd_int (we_var 1 rfl (od_I ⟨m0, by omega⟩ (fix_int _) (we_var 0 rfl (we_int (set_at hM rfl ?_)))))))))))))))
    -- return _law_digit
    refine wb_cons (ws_ret (we_var 2 rfl ?_))
    exact want _ _ (Int.emod_nonneg _ (by omega)) (Int.emod_lt_of_pos _ m0) ⟨ns, k, _, put_same, by omega⟩ But.put
  refine wb_nil ?_
  -- _law_begun = _law_pen_here[1]
  refine wb_cons (ws_set 3 sc_law_draw.nd (we_ix ix_list (fun _ _ => rfl) (we_var 0 rfl (we_int (od_ixM hM rfl ?_)))))
  -- _law_pen_here[1] = _law_begun + 1
  refine wb_cons (ws_sub set_list (we_op op_add (we_var 3 rfl (we_int (od_I0 (fix_int _) (we_var 0 rfl (we_int (set_at hM rfl ?_))))))))
  show WB _ _ _ (put M p (.lst [.lst (ns.map .int), .int (k + 1 : Nat), .int z])) _
  generalize hM1 : put M p (.lst [.lst (ns.map .int), .int (k + 1 : Nat), .int z]) = M1
  have hp : M1 p = some (.lst [.lst (ns.map .int), .int (k + 1 : Nat), .int z]) := by rw [← hM1]; exact put_same
  have bp : But p M M1 := by rw [← hM1]; exact But.put
  have kB : (k : Int) ≤ 100000 := by omega
  -- _law_raw = 61553 * _law_begun + 2713
  refine wb_cons (ws_set 4 sc_law_draw.nd (we_op op_add (we_op op_mul (we_int (we_var 3 rfl (od_I (.inl ⟨by decide, by decide⟩) (fix_int _) (we_int (od_I0 (fix_int _) ?_))))))))
  generalize (61553 * (k : Int) + 2713) = raw0
  -- what follows, from any raw
  have rest : ∀ raw : Int, WB (bodyCx P w K mg base ["_law_pen_here", "_law_many", "_law_digit", "_law_begun", "_law_raw", "_law_great", "_law_stirred"] "_law_draw" (defScope s_law_draw) f cdv A outer s H E) ((defBody s_law_draw).drop 5)
      [some (.raw (.ref p)), some (.int many), none, some (.int k), some (.int raw), none, none] M1 { nx := fun _ M' => Φ .non M', rt := Φ, ex := fun e _ M' => Ξ e M' } := by
    intro raw
    -- if _law_begun < len(_law_pen_here[0]) and abs(_law_raw) >= 10 ** 18:
    refine wb_cons (ws_if (wt_bool (ww_and (wt_cmp op_lt (nomark _) (we_var 3 rfl (we_blt call_len rfl T.n_len PySem.boot_len (wa_cons (we_ix ix_list (fun _ _ => rfl) (we_var 0 rfl (we_int (od_ixM hp rfl (wa_nil (cd_len rfl (od_I0 (fix_bl _) ⟨_, rfl, ⟨fun _ => (ww_and1 (wt_cmp op_ge (nomark _) (we_blt call_abs rfl T.n_abs (by decide +kernel) (wa_cons (we_var 4 rfl (wa_nil (cd_abs (we_op op_pow (we_int (we_int (od_I (pow_small (by decide) (by decide)) (fix_int _) (od_I0 (fix_bl _) ⟨_, rfl, ⟨fun _ => ?_, fun _ => ?_⟩⟩)))))))))))), fun _ => ⟨fun h => Bool.noConfusion h, fun _ => ?_⟩⟩⟩))))))))))))))
    · -- _law_great = 2 * (abs(_law_raw) - 10 ** 18) + int(_law_raw < 0)
      refine wb_cons (ws_set 5 sc_law_draw.nd (we_op op_add (we_op op_mul (we_int (we_op op_sub (we_blt call_abs rfl T.n_abs (by decide +kernel) (wa_cons (we_var 4 rfl (wa_nil (cd_abs (we_op op_pow (we_int (we_int (od_I (pow_small (by decide) (by decide)) (fix_int _) (od_I0 (fix_int _) (od_I (.inl ⟨by decide, by decide⟩) (fix_int _) (we_ty call_int1 rfl T.n_int (by decide +kernel) (wa_cons (we_cmp op_lt (nomark _) (we_var 4 rfl (we_int (od_I0 (fix_bl _) (wa_nil (cd_intB (od_I0 (fix_int _) ?_)))))))))))))))))))))))))
      -- _law_pen_here[2] = int(_law_great) // _law_many
      refine wb_cons (ws_sub set_list (we_op op_fdiv (we_ty call_int1 rfl T.n_int (by decide +kernel) (wa_cons (we_var 5 rfl (wa_nil (cd_int (we_var 1 rfl (od_I ⟨m0, by omega⟩ (fix_int _) (we_var 0 rfl (we_int (set_at hp rfl ?_))))))))))))
      -- return int(_law_great) % _law_many
      refine wb_cons (ws_ret (we_op op_mod (we_ty call_int1 rfl T.n_int (by decide +kernel) (wa_cons (we_var 5 rfl (wa_nil (cd_int (we_var 1 rfl (od_I m0 (fix_int _) ?_)))))))))
      exact want _ _ (Int.emod_nonneg _ (by omega)) (Int.emod_lt_of_pos _ m0) ⟨ns, k + 1, _, put_same, by omega⟩ (bp.trans But.put)
    all_goals
      refine wb_nil ?_
      -- _law_stirred = int((int(_law_raw) % 2147483549 + 77041 * _law_begun + 2713) ** 5) % 2147483629
      have r0 : 0 ≤ raw % 2147483549 := Int.emod_nonneg _ (by decide)
      have r1 : raw % 2147483549 < 2147483549 := Int.emod_lt_of_pos _ (by decide)
      refine wb_cons (ws_set 6 sc_law_draw.nd (we_op op_mod (we_ty call_int1 rfl T.n_int (by decide +kernel) (wa_cons (we_op op_pow (we_op op_add (we_op op_add (we_op op_mod (we_ty call_int1 rfl T.n_int (by decide +kernel) (wa_cons (we_var 4 rfl (wa_nil (cd_int (we_int (od_I (by decide) (fix_int _) (we_op op_mul (we_int (we_var 3 rfl (od_I (.inl ⟨by decide, by decide⟩) (fix_int _) (od_I0 (fix_int _) (we_int (od_I0 (fix_int _) (we_int (od_I (pow_small (by decide) (by omega)) (fix_int _) (wa_nil (cd_int (we_int (od_I (by decide) (fix_int _) ?_))))))))))))))))))))))))))))
      generalize ((raw % 2147483549 + 77041 * (k : Int) + 2713) ^ (5 : Int).toNat) = big
      have b0 : 0 ≤ big % 2147483629 := Int.emod_nonneg _ (by decide)
      have b1 : big % 2147483629 < 2147483629 := Int.emod_lt_of_pos _ (by decide)
      generalize big % 2147483629 = st at b0 b1
      have e1 : st * (2 * (k : Int) + 331) ≤ 2147483629 * 200331 := Int.mul_le_mul (by omega) (by omega) (by omega) (by decide)
      have e2 : 0 ≤ st * (2 * (k : Int) + 331) := Int.mul_nonneg b0 (by omega)
      have e3 : 59009 * (k : Int) * k ≤ 5900900000 * 100000 := Int.mul_le_mul (by omega) kB (by omega) (by decide)
      have e4 : 0 ≤ 59009 * (k : Int) * k := Int.mul_nonneg (by omega) (by omega)
      -- _law_stirred = int((_law_stirred * (2 * _law_begun + 331) + 59009 * _law_begun * _law_begun + 61553) ** 3) % 2147483587
      refine wb_cons (ws_set 6 sc_law_draw.nd (we_op op_mod (we_ty call_int1 rfl T.n_int (by decide +kernel) (wa_cons (we_op op_pow (we_op op_add (we_op op_add (we_op op_mul (we_var 6 rfl (we_op op_add (we_op op_mul (we_int (we_var 3 rfl (od_I (.inl ⟨by decide, by decide⟩) (fix_int _) (we_int (od_I0 (fix_int _) (od_I (.inl ⟨by omega, by omega⟩) (fix_int _) (we_op op_mul (we_op op_mul (we_int (we_var 3 rfl (od_I (.inl ⟨by decide, by decide⟩) (fix_int _) (we_var 3 rfl (od_I (.inr ⟨by omega, by omega⟩) (fix_int _) (od_I0 (fix_int _) (we_int (od_I0 (fix_int _) (we_int (od_I (pow_small (by decide) (by omega)) (fix_int _) (wa_nil (cd_int (we_int (od_I (by decide) (fix_int _) ?_)))))))))))))))))))))))))))))))))
      -- return int(_law_stirred // 32) % _law_many
      refine wb_cons (ws_ret (we_op op_mod (we_ty call_int1 rfl T.n_int (by decide +kernel) (wa_cons (we_op op_fdiv (we_var 6 rfl (we_int (od_I ⟨by decide, by decide⟩ (fix_int _) (wa_nil (cd_int (we_var 1 rfl (od_I m0 (fix_int _) ?_))))))))))))
      exact want _ _ (Int.emod_nonneg _ (by omega)) (Int.emod_lt_of_pos _ m0) ⟨ns, k + 1, _, hp, by omega⟩ bp
  -- if _law_pen_here[0] != []:
  cases ns with
  | nil =>
    refine wb_cons (ws_if (wt_cmp (op_neP hr.units) (nomark _) (we_ix ix_list (fun _ _ => rfl) (we_var 0 rfl (we_int (od_ixM hp rfl (we_lst (wa_nil ⟨by decide, (od_ne rfl rfl (by decide) (by decide) ⟨_, rfl, ⟨fun e => absurd e (by decide), fun _ => ?_⟩⟩)⟩))))))))
    exact wb_nil (rest raw0)
  | cons n0 nr =>
    have lp : 0 < (n0 :: nr).length := by simp
    refine wb_cons (ws_if (wt_cmp (op_neP hr.units) (nomark _) (we_ix ix_list (fun _ _ => rfl) (we_var 0 rfl (we_int (od_ixM hp rfl (we_lst (wa_nil ⟨by decide, (od_ne (toP_ints _) rfl (shaped_ints _) (by decide) ⟨_, rfl, ⟨fun _ => ?_, fun e => absurd e (by simp [PyData.eqv, PyData.eqvAll])⟩⟩)⟩))))))))
    -- _law_raw = _law_pen_here[0][int(_law_begun) % len(_law_pen_here[0])]
    have hlt : k % (n0 :: nr).length < (n0 :: nr).length := Nat.mod_lt _ lp
    refine wb_cons (ws_set 4 sc_law_draw.nd (we_ix ix_list (fun _ _ => rfl) (we_ix ix_list (fun _ _ => rfl) (we_var 0 rfl (we_int (od_ixM hp rfl (we_op op_mod (we_ty call_int1 rfl T.n_int (by decide +kernel) (wa_cons (we_var 3 rfl (wa_nil (cd_int (we_blt call_len rfl T.n_len PySem.boot_len (wa_cons (we_ix ix_list (fun _ _ => rfl) (we_var 0 rfl (we_int (od_ixM hp rfl (wa_nil (cd_len (n := (n0 :: nr).length) (by simp [lenD]) (od_I (by omega) (fix_int _) (od_ixL (d := .int ((n0 :: nr)[k % (n0 :: nr).length])) ?_ ?_))))))))))))))))))))))
    · rw [natmod]
      refine atI_nat ?_
      rw [List.getElem?_map, List.getElem?_eq_getElem hlt]
      rfl
    · exact wb_nil (rest _)
end Lw

set_option Elab.async false
set_option linter.all false
set_option maxRecDepth 100000
set_option maxHeartbeats 4000000
namespace Lw
open PySem PySem.Spec PyProof.Rows L2 DL
variable {P : Program} {w : World} {K : PySem.W.Frag} {mg : Str → Option Value} {base : Heap}
abbrev DrawOk (P : Program) (w : World) (K : PySem.W.Frag) (mg : Str → Option Value) (base : Heap) : Prop := FnC P w K mg base 1 "_law_draw" s_law_draw ["_law_pen_here", "_law_many"] spDraw

/-! ### pick -/
def spPick : DSp := fun ds M Φ _ => ∃ (p : Addr) (n : Nat) (c : D) (xs : List D), ds = [.raw (.ref p), c] ∧ (c = .lst xs ∨ ∃ z, c = .str z ∧ xs = sgnD z ∧ z.length ≤ sizeLine) ∧ Pen M p n ∧ n ≤ 100000 ∧ 0 < xs.length ∧ xs.length < 1000000 ∧
  ∀ (d : D) (M' : MS), d ∈ xs → Pen M' p (n + 1) → But p M M' → Φ d M'
abbrev s_law_pick : Stmt := top 9
theorem sc_law_pick : FnScope ["_law_pen_here", "_law_some"] ["_law_pen_here", "_law_some"] (defScope s_law_pick) := ⟨rfl, rfl, rfl, by decide +kernel, rfl, by decide +kernel, by decide +kernel⟩
theorem atI_lt {α : Type} {xs : List α} {r : Int} (h0 : 0 ≤ r) (h1 : r < xs.length) : ∃ v, atI xs r = some v ∧ v ∈ xs := by
  obtain ⟨j, rfl⟩ := Int.eq_ofNat_of_zero_le h0
  have hj : j < xs.length := by omega
  exact ⟨xs[j], atI_nat (List.getElem?_eq_getElem hj), List.getElem_mem hj⟩
theorem ok_pick (T : Txt K mg) (G : Dfn K mg "_law_pick" s_law_pick) (C_law_draw : DrawOk P w K mg base) : FnC P w K mg base 2 "_law_pick" s_law_pick ["_law_pen_here", "_law_some"] spPick := by
  refine fnC_of G sc_law_pick (fun _ _ _ _ _ _ us hl => match us, hl with | [_, _], _ => rfl) (fun ds M Φ Ξ ⟨_, _, _, _, e, _⟩ => by rw [e]; rfl) ?_
  rintro f cdv A outer s H E hr gd ds M Φ Ξ ⟨p, n, c, xs, rfl, hc, hP0, hn, l0, l1, want⟩
  rcases hc with rfl | ⟨z, rfl, rfl, zl⟩
  · refine wb_cons (ws_ret (we_ix ix_list (fun _ _ => rfl) (we_var 1 rfl (we_callC C_law_draw (hr.mono (by decide)) gd rfl (wa_cons (we_var 0 rfl (wa_cons (we_blt call_len rfl T.n_len PySem.boot_len (wa_cons (we_var 1 rfl (wa_nil (cd_len rfl (wa_nil ⟨p, _, _, rfl, hP0, hn, by omega, by omega, fun r1 M1 r1a r1b hP1 hB1 => ?_⟩)))))))))))))
    obtain ⟨d, e1, e2⟩ := atI_lt r1a r1b
    exact od_ixL e1 (want d M1 e2 hP1 hB1)
  · have el : (sgnD z).length = z.length := by simp [sgnD, Str.length]
    rw [el] at l0 l1
    refine wb_cons (ws_ret (we_ix ix_str (fun _ _ => rfl) (we_var 1 rfl (we_callC C_law_draw (hr.mono (by decide)) gd rfl (wa_cons (we_var 0 rfl (wa_cons (we_blt call_len rfl T.n_len PySem.boot_len (wa_cons (we_var 1 rfl (wa_nil (cd_len (if_pos zl) (wa_nil ⟨p, _, _, rfl, hP0, hn, by omega, by omega, fun r1 M1 r1a r1b hP1 hB1 => ?_⟩)))))))))))))
    obtain ⟨c, e1, e2⟩ := atI_lt (xs := z.cps.toList) r1a (by simpa [Str.length] using r1b)
    exact od_ixS zl e1 (want _ M1 (List.mem_map.mpr ⟨c, e2, rfl⟩) hP1 hB1)
abbrev PickOk (P : Program) (w : World) (K : PySem.W.Frag) (mg : Str → Option Value) (base : Heap) : Prop := FnC P w K mg base 2 "_law_pick" s_law_pick ["_law_pen_here", "_law_some"] spPick

/-! ### the new pen -/
theorem cutD_ints (ns : List Int) (lo hi : Option Int) : ∃ ms : List Int, DL.cutD (ns.map D.int) lo hi = ms.map D.int := ⟨_, by unfold DL.cutD; rw [← List.map_drop, ← List.map_take]⟩
def spPen : DSp := fun ds M Φ _ => ∃ ns : List Int, ds = [.scr ns] ∧ ∀ p M', M p = none → Pen M' p 0 → But p M M' → Φ (.raw (.ref p)) M'
abbrev s_law_pen : Stmt := top 7
theorem sc_law_pen : FnScope ["_law_script"] ["_law_script"] (defScope s_law_pen) := ⟨rfl, rfl, rfl, by decide +kernel, rfl, by decide +kernel, by decide +kernel⟩
theorem ok_pen (T : Txt K mg) (G : Dfn K mg "_law_pen" s_law_pen) : FnC P w K mg base 1 "_law_pen" s_law_pen ["_law_script"] spPen := by
  refine fnC_of G sc_law_pen (fun _ _ _ _ _ _ us hl => match us, hl with | [_], _ => rfl) (fun ds M Φ Ξ ⟨_, e, _⟩ => by rw [e]; rfl) ?_
  rintro f cdv A outer s H E hr gd ds M Φ Ξ ⟨ns, rfl, want⟩
  obtain ⟨ms, hms⟩ := cutD_ints ns none (some 63)
  refine wb_cons (ws_ret (we_lstM (wa_cons (we_ty call_list_of rfl T.n_list (by decide +kernel) (wa_cons (we_slice sl_list (we_var 0 rfl (wo_none (wo_some (we_int ⟨_, rfl, (sd_scr (wa_nil (cd_list (.inl rfl) (wa_cons (we_int (wa_cons (we_int (wa_nil ⟨le_line rfl, fun p hp => want p _ hp ⟨ms, 0, 0, ?_, Nat.le_refl _⟩ But.put⟩))))))))⟩))))))))))
  rw [put_same, hms]
  rfl
abbrev PenOk (P : Program) (w : World) (K : PySem.W.Frag) (mg : Str → Option Value) (base : Heap) : Prop := FnC P w K mg base 1 "_law_pen" s_law_pen ["_law_script"] spPen

/-! ### the kept words -/
abbrev s_law_kept_words : Stmt := top 10
theorem sc_law_kept_words : FnScope ["_law_some"] [] (defScope s_law_kept_words) := ⟨rfl, rfl, rfl, by decide +kernel, rfl, by decide +kernel, by decide +kernel⟩
theorem split_kept : Txt.split "put copy if else say fail catch choose or none stop skip cell log failure choice" " " = kept := by decide +kernel
def spKept : DSp := fun ds M Φ _ => ds = [] ∧ Φ (.lst (kept.map .str)) M
theorem ok_kept (T : Txt K mg) (G : Dfn K mg "_law_kept_words" s_law_kept_words) : FnC P w K mg base 1 "_law_kept_words" s_law_kept_words [] spKept := by
  refine fnC_of G sc_law_kept_words (fun _ _ _ _ _ _ us hl => match us, hl with | [], _ => rfl) (fun ds M Φ Ξ ⟨e, _⟩ => by rw [e]; rfl) ?_
  rintro f cdv A outer s H E hr gd ds M Φ Ξ ⟨rfl, want⟩
  refine wb_cons (ws_set 0 sc_law_kept_words.nd (we_str ?_))
  refine wb_cons (ws_ret (we_bm PySem.F.plainAttrs_str PySem.F.slot_str_split PySem.F.type_str_split mt_split (we_var 0 rfl ⟨rfl, (wa_cons (we_str (wa_nil (md_split (by decide) (by decide) ?_))))⟩)))
  rw [split_kept]
  exact want
abbrev KeptOk (P : Program) (w : World) (K : PySem.W.Frag) (mg : Str → Option Value) (base : Heap) : Prop := FnC P w K mg base 1 "_law_kept_words" s_law_kept_words [] spKept

/-! ### texts -/
def Asc (x : Str) : Prop := ∀ c ∈ x.cps.toList, c < 128
theorem Asc.append {x y : Str} (a : Asc x) (b : Asc y) : Asc (x ++ y) := fun c hc => by
  have h : c ∈ x.cps.toList ++ y.cps.toList := by
    have e : (x ++ y).cps.toList = x.cps.toList ++ y.cps.toList := by rw [Str.cps_append, Array.toList_append]
    rw [e] at hc
    exact hc
  exact (List.mem_append.mp h).elim (a c) (b c)
theorem Asc.cut {x : Str} (a : Asc x) (lo hi : Option Int) : Asc (cutS x lo hi) := fun c hc => a c (by
  have h : c ∈ (x.cps.toList.drop (HT.sIx x.length 0 lo)).take (HT.sIx x.length x.length hi - HT.sIx x.length 0 lo) := by simpa [cutS] using hc
  exact List.mem_of_mem_drop (List.mem_of_mem_take h))
theorem asc_one {c : Nat} (h : c < 128) : Asc ⟨#[c]⟩ := fun d hd => by
  have e : d = c := by simpa using hd
  rw [e]
  exact h
theorem alpha_asc : Asc alphabet := by
  unfold Asc
  decide +kernel
/-! ### letters -/
def spLetters : DSp := fun ds M Φ _ => ∃ (p : Addr) (n many : Nat), ds = [.raw (.ref p), .int many] ∧ many ≤ 20 ∧ Pen M p n ∧ n + many ≤ 100000 ∧ ∀ (x : Str) (M' : MS), x.length = many → Asc x → Pen M' p (n + many) → But p M M' → Φ (.str x) M'
abbrev s_law_letters : Stmt := top 11
theorem sc_law_letters : FnScope ["_law_pen_here", "_law_many", "_law_found", "_law_turn"] ["_law_pen_here", "_law_many"] (defScope s_law_letters) := ⟨rfl, rfl, rfl, by decide +kernel, rfl, by decide +kernel, by decide +kernel⟩
theorem ok_letters (T : Txt K mg) (G : Dfn K mg "_law_letters" s_law_letters) (C_law_pick : PickOk P w K mg base) : FnC P w K mg base 3 "_law_letters" s_law_letters ["_law_pen_here", "_law_many"] spLetters := by
  refine fnC_of G sc_law_letters (fun _ _ _ _ _ _ us hl => match us, hl with | [_, _], _ => rfl) (fun ds M Φ Ξ ⟨_, _, _, e, _⟩ => by rw [e]; rfl) ?_
  rintro f cdv A outer s H E hr gd ds M Φ Ξ ⟨p, n, many, rfl, m1, hP0, hn, want⟩
  refine wb_cons (ws_set 2 sc_law_letters.nd (we_str ?_))
  refine wb_cons (ws_for po_body rfl (wi_range1 rfl T.n_range (wa_cons (we_var 1 rfl (wa_nil ⟨_, rfl, ⟨by omega, by omega⟩, ⟨fun i ρ' M' => ∃ (x : Str) (v : Option D), ρ' = [some (.raw (.ref p)), some (.int many), some (.str x), v] ∧ x.length = i ∧ Asc x ∧ Pen M' p (n + i) ∧ But p M M',
    ⟨"", none, rfl, rfl, (fun c hc => (nomatch hc)), hP0, But.refl _ _⟩, fun i d ρ' M' hi hp => wg_name 3 sc_law_letters.nd ?_, ?_⟩⟩)))))
  · obtain ⟨x, v, rfl, lx, ax, hP, hB⟩ := hp
    have hi2 : i < many := by simpa [rngD] using (List.getElem?_eq_some_iff.mp hi).1
    refine wb_cons (ws_set 2 sc_law_letters.nd (we_op op_add_str (we_var 2 rfl (we_callC C_law_pick (hr.mono (by decide)) gd rfl (wa_cons (we_var 0 rfl (wa_cons (we_str (wa_nil ⟨p, _, _, _, rfl, .inr ⟨_, rfl, rfl, by decide⟩, hP, by omega, by decide, by decide, fun d1 M1 d1m hP1 hB1 => ?_⟩)))))))))
    obtain ⟨c, hc, rfl⟩ := List.mem_map.mp d1m
    refine od_addS (by rw [lx]; show i + 1 ≤ sizeLine; have : 1000 ≤ sizeLine := by decide
                       omega) (wb_nil ⟨_, _, rfl, ?_, ax.append (asc_one (alpha_asc c hc)), hP1, hB.trans hB1⟩)
    show (x ++ (⟨#[c]⟩ : Str)).length = i + 1
    rw [Str.length_append, lx]
    rfl
  · rintro ρ' M' ⟨x, v, rfl, lx, ax, hP, hB⟩
    have e : (rngD 0 (many : Int).toNat).length = many := by simp [rngD]
    rw [e] at lx hP
    exact wb_cons (ws_ret (we_var 2 rfl (want x M' lx ax hP hB)))
abbrev LettersOk (P : Program) (w : World) (K : PySem.W.Frag) (mg : Str → Option Value) (base : Heap) : Prop := FnC P w K mg base 3 "_law_letters" s_law_letters ["_law_pen_here", "_law_many"] spLetters
end Lw

set_option Elab.async false
set_option linter.all false
set_option maxRecDepth 100000
set_option maxHeartbeats 4000000
namespace Lw
open PySem PySem.Spec PyProof.Rows L2 DL
variable {P : Program} {w : World} {K : PySem.W.Frag} {mg : Str → Option Value} {base : Heap}
theorem kept_ok : ∀ d ∈ kept.map D.str, ∃ x : Str, d = .str x ∧ x.length ≤ 10 ∧ Asc x := by
  intro d hd
  obtain ⟨x, hx, rfl⟩ := List.mem_map.mp hd
  have h : ∀ x ∈ kept, x.length ≤ 10 ∧ ∀ c ∈ x.cps.toList, c < 128 := by decide +kernel
  exact ⟨x, rfl, (h x hx).1, (h x hx).2⟩
def spText : DSp := fun ds M Φ _ => ∃ (p : Addr) (n : Nat), ds = [.raw (.ref p)] ∧ Pen M p n ∧ n + 30 ≤ 100000 ∧ ∀ (x : Str) (M' : MS), x.length ≤ 40 → Asc x → Pen M' p (n + 30) → But p M M' → Φ (.str x) M'
abbrev s_law_text : Stmt := top 12
theorem sc_law_text : FnScope ["_law_pen_here", "_law_way", "_law_near", "_law_found", "_law_spot"] ["_law_pen_here"] (defScope s_law_text) := ⟨rfl, rfl, rfl, by decide +kernel, rfl, by decide +kernel, by decide +kernel⟩
theorem small_line {n : Nat} (h : n ≤ 1000) : n ≤ sizeLine := Nat.le_trans h (by decide)
theorem ok_text (T : Txt K mg) (G : Dfn K mg "_law_text" s_law_text) (C_law_draw : DrawOk P w K mg base) (C_law_pick : PickOk P w K mg base) (C_law_kept_words : KeptOk P w K mg base) (C_law_letters : LettersOk P w K mg base) :
    FnC P w K mg base 4 "_law_text" s_law_text ["_law_pen_here"] spText := by
  refine fnC_of G sc_law_text (fun _ _ _ _ _ _ us hl => match us, hl with | [_], _ => rfl) (fun ds M Φ Ξ ⟨_, _, e, _⟩ => by rw [e]; rfl) ?_
  rintro f cdv A outer s H E hr gd ds M Φ Ξ ⟨p, n, rfl, hP0, hn, want⟩
  have kl : 0 < (kept.map D.str).length ∧ (kept.map D.str).length < 1000000 := by decide
  refine wb_cons (ws_set 1 sc_law_text.nd (we_callC C_law_draw (hr.mono (by decide)) gd rfl (wa_cons (we_var 0 rfl (wa_cons (we_int (wa_nil ⟨p, _, _, rfl, hP0, by omega, by decide, by decide, fun r1 M1 r1a r1b hP1 hB1 => ?_⟩)))))))
  -- if _law_way == 0:
  refine wb_cons (ws_if (wt_cmp op_eq (nomark _) (we_var 1 rfl (we_int (od_eqI ⟨_, rfl, ⟨fun _ => ?_, fun _ => wb_nil ?_⟩⟩)))))
  · refine wb_cons (ws_ret (we_callC C_law_pick (hr.mono (by decide)) gd rfl (wa_cons (we_var 0 rfl (wa_cons (we_callC0 C_law_kept_words (hr.mono (by decide)) gd rfl ⟨rfl, (wa_nil ⟨p, _, _, _, rfl, .inl rfl, hP1, by omega, kl.1, kl.2, fun d2 M2 d2m hP2 hB2 => ?_⟩)⟩))))))
    obtain ⟨x, rfl, h1, h2⟩ := kept_ok d2 d2m
    exact want x M2 (by omega) h2 (hP2.mono (by omega)) (hB1.trans hB2)
  -- if _law_way == 1:
  refine wb_cons (ws_if (wt_cmp op_eq (nomark _) (we_var 1 rfl (we_int (od_eqI ⟨_, rfl, ⟨fun _ => ?_, fun _ => wb_nil ?_⟩⟩)))))
  · refine wb_cons (ws_set 2 sc_law_text.nd (we_callC C_law_pick (hr.mono (by decide)) gd rfl (wa_cons (we_var 0 rfl (wa_cons (we_callC0 C_law_kept_words (hr.mono (by decide)) gd rfl ⟨rfl, (wa_nil ⟨p, _, _, _, rfl, .inl rfl, hP1, by omega, kl.1, kl.2, fun d3 M3 d3m hP3 hB3 => ?_⟩)⟩))))))
    obtain ⟨x, rfl, h1, h2⟩ := kept_ok d3 d3m
    refine wb_cons (ws_ret (we_if (wt_cmp op_eq (nomark _) (we_callC C_law_draw (hr.mono (by decide)) gd rfl (wa_cons (we_var 0 rfl (wa_cons (we_int (wa_nil ⟨p, _, _, rfl, hP3, by omega, by decide, by decide, fun r4 M4 r4a r4b hP4 hB4 => (we_int (od_eqI ⟨_, rfl, ⟨fun _ => (we_slice sl_str (we_var 2 rfl (wo_none (wo_some (we_neg (we_int ⟨_, rfl, ⟨_, rfl, (sd_str (small_line (by omega)) ?_)⟩⟩)))))), fun _ => (we_op op_add_str (we_var 2 rfl (we_callC C_law_letters (hr.mono (by decide)) gd rfl (wa_cons (we_var 0 rfl (wa_cons (we_int (wa_nil ⟨p, _, 1, rfl, by omega, hP4, by omega, fun y M5 hy ay hP5 hB5 => (od_addS (small_line (by omega)) ?_)⟩))))))))⟩⟩))⟩)))))))))
    · exact want _ M4 (Nat.le_trans (cutS_length _ _ _) (by omega)) (h2.cut _ _) (hP4.mono (by omega)) ((hB1.trans hB3).trans hB4)
    · exact want _ M5 (by rw [Str.length_append, hy]; omega) (h2.append ay) (hP5.mono (by omega)) (((hB1.trans hB3).trans hB4).trans hB5)
  -- _law_found = _law_letters(_law_pen_here, _law_pick(_law_pen_here, [0, 1, 1, 2, 3, 5, 7, 8, 8, 9, 10]))
  refine wb_cons (ws_set 3 sc_law_text.nd ?_)
  refine we_callC C_law_letters (hr.mono (by decide)) gd rfl ?_
  refine wa_cons (we_var 0 rfl ?_)
  refine wa_cons ?_
  refine we_callC C_law_pick (hr.mono (by decide)) gd rfl ?_
  refine wa_cons (we_var 0 rfl ?_)
  refine wa_cons ?_
  refine we_lst ?_
  refine wa_cons ?_
  refine we_int ?_
  refine wa_cons ?_
  refine we_int ?_
  refine wa_cons ?_
  refine we_int ?_
  refine wa_cons ?_
  refine we_int ?_
  refine wa_cons ?_
  refine we_int ?_
  refine wa_cons ?_
  refine we_int ?_
  refine wa_cons ?_
  refine we_int ?_
  refine wa_cons ?_
  refine we_int ?_
  refine wa_cons ?_
  refine we_int ?_
  refine wa_cons ?_
  refine we_int ?_
  refine wa_cons ?_
  refine we_int ?_
  refine wa_nil ⟨le_line rfl, ?_⟩
  refine wa_nil ?_
  refine ⟨p, _, _, _, rfl, .inl rfl, hP1, by omega, by decide, by decide, fun d5 M5 d5m hP5 hB5 => ?_⟩
  refine wa_nil ?_
  obtain ⟨many, hm, rfl⟩ : ∃ many : Nat, many ≤ 10 ∧ d5 = .int many := by
    simp only [List.mem_cons, List.not_mem_nil, or_false] at d5m
    rcases d5m with rfl | rfl | rfl | rfl | rfl | rfl | rfl | rfl | rfl | rfl | rfl
    · exact ⟨0, by decide, rfl⟩
    · exact ⟨1, by decide, rfl⟩
    · exact ⟨1, by decide, rfl⟩
    · exact ⟨2, by decide, rfl⟩
    · exact ⟨3, by decide, rfl⟩
    · exact ⟨5, by decide, rfl⟩
    · exact ⟨7, by decide, rfl⟩
    · exact ⟨8, by decide, rfl⟩
    · exact ⟨8, by decide, rfl⟩
    · exact ⟨9, by decide, rfl⟩
    · exact ⟨10, by decide, rfl⟩
  refine ⟨p, _, many, rfl, by omega, hP5, by omega, fun x M6 lx ax hP6 hB6 => ?_⟩
  have hB06 := (hB1.trans hB5).trans hB6
  -- if _law_way > 3:
  refine wb_cons (ws_if (wt_cmp op_gt (nomark _) (we_var 1 rfl (we_int (od_I0 (fix_bl _) ⟨_, rfl, ⟨fun _ => ?_, fun _ => wb_nil ?_⟩⟩)))))
  · exact wb_cons (ws_ret (we_var 3 rfl (want x M6 (by omega) ax (hP6.mono (by omega)) hB06)))
  have l1 : (1000 : Nat) ≤ sizeLine := by decide
  refine wb_cons (ws_set 4 sc_law_text.nd (we_callC C_law_draw (hr.mono (by decide)) gd rfl (wa_cons (we_var 0 rfl (wa_cons (we_op op_add (we_blt call_len rfl T.n_len PySem.boot_len (wa_cons (we_var 3 rfl (wa_nil (cd_len (if_pos (small_line (by omega))) (we_int (od_I0 (fix_int _) (wa_nil ⟨p, _, _, rfl, hP6, by omega, by omega, by omega, fun r6 M7 r6a r6b hP7 hB7 => ?_⟩))))))))))))))
  have cl : ∀ (lo hi : Option Int), (cutS x lo hi).length ≤ 10 := fun lo hi => Nat.le_trans (cutS_length _ _ _) (by omega)
  refine wb_cons (ws_ret ?_)
  refine we_op op_add_str ?_
  refine we_op op_add_str ?_
  refine we_slice sl_str (we_var 3 rfl (wo_none (wo_some (we_var 4 rfl ⟨_, rfl, (sd_str (small_line (by omega)) ?_)⟩))))
  refine we_callC C_law_pick (hr.mono (by decide)) gd rfl ?_
  refine wa_cons (we_var 0 rfl ?_)
  refine wa_cons ?_
  refine we_lst ?_
  refine wa_cons ?_
  refine we_str ?_
  refine wa_cons ?_
  refine we_str ?_
  refine wa_cons ?_
  refine we_str ?_
  refine wa_cons ?_
  refine we_str ?_
  refine wa_cons ?_
  refine we_str ?_
  refine wa_cons ?_
  refine we_str ?_
  refine wa_cons ?_
  refine we_str ?_
  refine wa_cons ?_
  refine we_str ?_
  refine wa_cons ?_
  refine we_str ?_
  refine wa_cons ?_
  refine we_str ?_
  refine wa_cons ?_
  refine we_str ?_
  refine wa_cons ?_
  refine we_str ?_
  refine wa_nil ⟨le_line rfl, ?_⟩
  refine wa_nil ?_
  refine ⟨p, _, _, _, rfl, .inl rfl, hP7, by omega, by simp, by simp, fun d7 M8 d7m hP8 hB8 => ?_⟩
  obtain ⟨y, rfl, ly, ay⟩ : ∃ y : Str, d7 = .str y ∧ y.length = 1 ∧ Asc y := by
    simp only [List.mem_cons, List.not_mem_nil, or_false] at d7m
    rcases d7m with rfl | rfl | rfl | rfl | rfl | rfl | rfl | rfl | rfl | rfl | rfl | rfl
    all_goals exact ⟨_, rfl, rfl, by unfold Asc; decide⟩
  have c1 := cl none (some r6)
  have c2 := cl (some r6) none
  refine od_addS (small_line (by omega)) (we_slice sl_str (we_var 3 rfl (wo_some (we_var 4 rfl ⟨_, rfl, (wo_none (sd_str (small_line (by omega)) (od_addS (small_line (by rw [Str.length_append]; omega)) ?_)))⟩))))
  exact want _ M8 (by rw [Str.length_append, Str.length_append]; omega) (((ax.cut _ _).append ay).append (ax.cut _ _)) (hP8.mono (by omega)) ((hB06.trans hB7).trans hB8)
abbrev TextOk (P : Program) (w : World) (K : PySem.W.Frag) (mg : Str → Option Value) (base : Heap) : Prop := FnC P w K mg base 4 "_law_text" s_law_text ["_law_pen_here"] spText

/-! ### is_said, is_word, is_name -/
def said (x : Str) : Bool := decide (1 ≤ x.length) && (decide (x.length ≤ 8) && x.cps.toList.all fun c => decide (97 ≤ c) && decide (c ≤ 122))
def spSaid : DSp := fun ds M Φ _ => ∃ x : Str, ds = [.str x] ∧ x.length ≤ 1000 ∧ Asc x ∧ Φ (.bl (said x)) M
abbrev s_law_is_said : Stmt := top 13
theorem sc_law_is_said : FnScope ["_law_text_here", "_law_sign"] ["_law_text_here"] (defScope s_law_is_said) := ⟨rfl, rfl, rfl, by decide +kernel, rfl, by decide +kernel, by decide +kernel⟩
def bad (c : Nat) : Bool := !(!decide (([c] : List Nat) < [97]) && !decide (([122] : List Nat) < [c]))
theorem bad_eq (c : Nat) : bad c = !(decide (97 ≤ c) && decide (c ≤ 122)) := by
  unfold bad
  have h1 : decide (([c] : List Nat) < [97]) = !decide (97 ≤ c) := by
    rw [← decide_not]
    exact decide_eq_decide.mpr (by simp [List.cons_lt_cons_iff])
  have h2 : decide (([122] : List Nat) < [c]) = !decide (c ≤ 122) := by
    rw [← decide_not]
    exact decide_eq_decide.mpr (by simp [List.cons_lt_cons_iff])
  rw [h1, h2, Bool.not_not, Bool.not_not]
theorem all_bad (l : List Nat) : (l.filter bad).isEmpty = l.all fun c => decide (97 ≤ c) && decide (c ≤ 122) := by
  induction l with
  | nil => rfl
  | cons c l ih =>
    rw [List.filter_cons, List.all_cons, bad_eq]
    cases h : (decide (97 ≤ c) && decide (c ≤ 122)) with
    | true => simpa using ih
    | false => simp
theorem ok_said (T : Txt K mg) (G : Dfn K mg "_law_is_said" s_law_is_said) : FnC P w K mg base 1 "_law_is_said" s_law_is_said ["_law_text_here"] spSaid := by
  refine fnC_of G sc_law_is_said (fun _ _ _ _ _ _ us hl => match us, hl with | [_], _ => rfl) (fun ds M Φ Ξ ⟨_, e, _⟩ => by rw [e]; rfl) ?_
  rintro f cdv A outer s H E hr gd ds M Φ Ξ ⟨x, rfl, lx, ax, want⟩
  have el : x.cps.toList.length = x.length := by simp [Str.length]
  have e1 : decide ((1 : Int) ≤ (x.length : Nat)) = decide (1 ≤ x.length) := decide_eq_decide.mpr (by omega)
  have e2 : decide (((x.length : Nat) : Int) ≤ 8) = decide (x.length ≤ 8) := decide_eq_decide.mpr (by omega)
  unfold said at want
  refine wb_cons (ws_ret (we_and (we_chain op_le op_le (we_int (we_blt call_len rfl T.n_len PySem.boot_len (wa_cons (we_var 0 rfl (wa_nil (cd_len (if_pos (small_line lx)) (od_I0 (fix_bl _) ⟨_, rfl, fun k1 => (we_int (od_I0 (fix_bl _) ⟨_, rfl, fun k2 => ?_, fun k2 => ?_⟩)), fun k1 => ⟨_, rfl, fun h => (nomatch h), fun _ => ?_⟩⟩))))))))))
  · refine (we_one (we_cmp (op_eqP hr.units) (nomark _) (we_lc rfl sc_law_is_said.nd (own := [("_law_sign", 1)]) (blkOk_by (N := ["_law_text_here", "_law_sign"]) (sc := defScope s_law_is_said) (by decide +kernel)) (fun _ _ _ _ _ => pg_name (i := 1) sc_law_is_said.nd rfl (Or.inl rfl)) (tgd_name 1 (by decide)) (wi_str (we_var 0 rfl ⟨_, rfl, ⟨x.cps.toList, _, rfl, small_line (by omega), bad, fun c => .str ⟨#[c]⟩, fun c M' hx hm => ⟨_, rfl, fun _ _ _ _ _ => (wf_one (wt_not (wt_chain op_le_str op_le_str (we_str (we_var 1 rfl (od_strs ⟨_, rfl, fun b1 => we_str (od_strs ⟨_, rfl, ?_⟩), fun b1 => ?_⟩))))))⟩, (we_lst (wa_nil ⟨le_line rfl, ?_⟩))⟩⟩)))))
    · refine ⟨rfl, ?_, fun _ _ _ _ _ _ => we_var 1 rfl ⟨rfl, rfl⟩⟩
      have b1' : (!decide (([c] : List Nat) < [97])) = true := b1
      show (!(!decide (([122] : List Nat) < [c]))) = bad c
      unfold bad
      rw [b1', Bool.true_and]
    · refine ⟨rfl, ?_, fun _ _ _ _ _ _ => we_var 1 rfl ⟨rfl, rfl⟩⟩
      have b1' : (!decide (([c] : List Nat) < [97])) = false := b1
      show (!false) = bad c
      unfold bad
      rw [b1', Bool.false_and]
    · have tp : toP (.lst ((x.cps.toList.filter bad).map fun c => .str ⟨#[c]⟩)) = some (.list ((x.cps.toList.filter bad).map fun c => .str ⟨#[c]⟩)) := by
        simp only [toP, toPs_map (f := fun c : Nat => D.str ⟨#[c]⟩) (g := fun c : Nat => PyData.str ⟨#[c]⟩) (fun _ => by simp only [toP]), Option.map_some]
      refine od_eq tp rfl (shaped_list fun p hp => ?_) (by decide) ?_
      · obtain ⟨c, hc, rfl⟩ := List.mem_map.mp hp
        have := ax c (List.mem_filter.mp hc).1
        refine ⟨?_, by simp only [PyData.depth]⟩
        simp only [PyData.canLay0, PyData.strOk]
        simp
        omega
      · have ev : PyData.eqv (.list ((x.cps.toList.filter bad).map fun c => .str ⟨#[c]⟩)) (.list []) = (x.cps.toList.filter bad).isEmpty := by
          cases x.cps.toList.filter bad with
          | nil => rfl
          | cons c l => rfl
        rw [ev, all_bad]
        rw [← e1, ← e2, k1, k2, Bool.true_and, Bool.true_and] at want
        exact want
  · rw [← e2, k2, Bool.false_and, Bool.and_false] at want
    exact want
  · rw [← e1, k1, Bool.false_and] at want
    exact want
abbrev SaidOk (P : Program) (w : World) (K : PySem.W.Frag) (mg : Str → Option Value) (base : Heap) : Prop := FnC P w K mg base 1 "_law_is_said" s_law_is_said ["_law_text_here"] spSaid
end Lw

set_option Elab.async false
set_option linter.all false
set_option maxRecDepth 100000
set_option maxHeartbeats 4000000
namespace Lw
open PySem PySem.Spec PyProof.Rows L2 DL
variable {P : Program} {w : World} {K : PySem.W.Frag} {mg : Str → Option Value} {base : Heap}
/-- what is_word tells of data -/
def wordD : D → Bool
  | .str x => said x
  | _ => false
def spWord : DSp := fun ds M Φ _ => ∃ d n, ds = [d] ∧ tyD d = some n ∧ (∀ x, d = .str x → x.length ≤ 1000) ∧ Φ (.bl (wordD d)) M
theorem alpha_mem (c : Nat) : decide (c ∈ alphabet.cps.toList) = (decide (97 ≤ c) && decide (c ≤ 122)) := by
  have e : alphabet.cps.toList = [97, 98, 99, 100, 101, 102, 103, 104, 105, 106, 107, 108, 109, 110, 111, 112, 113, 114, 115, 116, 117, 118, 119, 120, 121, 122] := by decide +kernel
  rw [e, ← Bool.decide_and]
  refine decide_eq_decide.mpr ?_
  simp only [List.mem_cons, List.not_mem_nil, or_false]
  omega
abbrev s_is_word : Stmt := top 4
abbrev n_is_word : List Str := ["value", "letter"]
theorem sc_is_word : FnScope ["value", "letter"] ["value"] (defScope s_is_word) := ⟨rfl, rfl, rfl, by decide +kernel, rfl, by decide +kernel, by decide +kernel⟩
def isStr : D → Bool
  | .str _ => true
  | _ => false
theorem kit_str {d : D} {n : String} (h : tyD d = some n) : PySem.W.kitOne K (.type n) (.type "str") = some (isStr d) := by
  cases d with
  | str x => cases h; exact kit_ty (r := true) (by decide +kernel)
  | non => cases h; exact kit_ty (r := false) (by decide +kernel)
  | bl b => cases h; exact kit_ty (r := false) (by decide +kernel)
  | int i => cases h; exact kit_ty (r := false) (by decide +kernel)
  | lst xs => cases h; exact kit_ty (r := false) (by decide +kernel)
  | tup xs => cases h; exact kit_ty (r := false) (by decide +kernel)
  | dct ks vs => cases h; exact kit_ty (r := false) (by decide +kernel)
  | ins _ _ _ => cases h
  | raw _ => cases h
  | scr _ => cases h
theorem ok_word (T : Txt K mg) (G : Dfn K mg "is_word" s_is_word) : FnC P w K mg base 1 "is_word" s_is_word ["value"] spWord := by
  refine fnC_of G sc_is_word (fun _ _ _ _ _ _ us hl => match us, hl with | [_], _ => rfl) (fun ds M Φ Ξ ⟨_, _, e, _⟩ => by rw [e]; rfl) ?_
  rintro f cdv A outer s H E hr gd ds M Φ Ξ ⟨d, n, rfl, ty, lx, want⟩
  have kt := kit_str (K := K) ty
  by_cases hx : ∃ x, d = .str x
  · obtain ⟨x, rfl⟩ := hx
    have lx := lx x rfl
    have e1 : decide ((1 : Int) ≤ (x.length : Nat)) = decide (1 ≤ x.length) := decide_eq_decide.mpr (by omega)
    have e2 : decide (((x.length : Nat) : Int) ≤ 8) = decide (x.length ≤ 8) := decide_eq_decide.mpr (by omega)
    have wd : wordD (.str x) = said x := rfl
    rw [wd] at want
    unfold said at want
    refine wb_cons (ws_if (wt_bool (ww_or (wt_not (wt_val (we_blt call_isi rfl T.n_isinstance (by decide +kernel) (wa_cons (we_var 0 rfl (wa_cons (we_btyp rfl T.n_str (by decide +kernel) (wa_nil (cd_isi ty kt ⟨_, rfl, ⟨fun h => (nomatch h), fun _ => (ww_or1 (wt_not (wt_chain op_le op_le (we_int (we_blt call_len rfl T.n_len PySem.boot_len (wa_cons (we_var 0 rfl (wa_nil (cd_len (if_pos (small_line lx)) (od_I0 (fix_bl _) ⟨_, rfl, fun k1 => (we_gc T.g_MOST_LETTERS rfl (od_I0 (fix_bl _) ⟨_, rfl, ⟨fun k2 => ?_, fun k2 => wb_nil ?_⟩⟩)), fun k1 => ⟨fun _ => ?_, fun h => (nomatch h)⟩⟩))))))))))⟩⟩))))))))))))
    · refine wb_cons (ws_ret (we_bl ?_))
      have k2 : decide (((x.length : Nat) : Int) ≤ 8) = false := by simpa using k2
      rw [← e2, k2, Bool.false_and, Bool.and_false] at want
      exact want
    · have k2 : decide (((x.length : Nat) : Int) ≤ 8) = true := by simpa using k2
      rw [← e1, ← e2, k1, k2, Bool.true_and, Bool.true_and] at want
      refine wb_cons (ws_ret (we_blt (cr_all rfl) rfl T.n_all (by decide +kernel) (wa_cons (we_lc rfl sc_is_word.nd (own := [("letter", 1)]) (blkOk_by (N := n_is_word) (sc := defScope s_is_word) (by decide +kernel)) (fun _ _ _ _ _ => pg_name (i := 1) sc_is_word.nd rfl (Or.inl rfl)) (tgd_name 1 (by decide)) (wi_str (we_var 0 rfl ⟨_, rfl, ⟨x.cps.toList, _, rfl, small_line (by simpa [Str.length] using lx), fun _ => true, fun c => .bl (decide (c ∈ alphabet.cps.toList)), fun c M' hx hm => ⟨_, rfl, fun _ _ _ _ _ => (wf_nil ⟨rfl, rfl, fun _ _ _ _ _ _ => (we_cmp op_in_sign rfl (we_var 1 rfl (we_gc T.g_LETTERS rfl (od_insign ⟨rfl, rfl⟩))))⟩)⟩, (wa_nil ?_)⟩⟩))))))
      have el : ((x.cps.toList.filter fun _ => true).map fun c => D.bl (decide (c ∈ alphabet.cps.toList))) = (x.cps.toList.map fun c => decide (c ∈ alphabet.cps.toList)).map D.bl := by
        rw [List.filter_eq_self.mpr (fun _ _ => rfl), List.map_map]
        rfl
      rw [el]
      refine cd_all ?_
      have ea : (x.cps.toList.map fun c => decide (c ∈ alphabet.cps.toList)).all id = x.cps.toList.all fun c => decide (97 ≤ c) && decide (c ≤ 122) := by
        rw [List.all_map]
        refine List.all_congr rfl fun c => ?_
        exact alpha_mem c
      rw [ea]
      exact want
    · refine wb_cons (ws_ret (we_bl ?_))
      rw [← e1, k1, Bool.false_and] at want
      exact want
  · have wd : wordD d = false := by
      cases d <;> first | rfl | exact absurd ⟨_, rfl⟩ hx
    have kb : isStr d = false := by
      cases d <;> first | rfl | exact absurd ⟨_, rfl⟩ hx
    rw [kb] at kt
    rw [wd] at want
    refine wb_cons (ws_if (wt_bool (ww_or (wt_not (wt_val (we_blt call_isi rfl T.n_isinstance (by decide +kernel) (wa_cons (we_var 0 rfl (wa_cons (we_btyp rfl T.n_str (by decide +kernel) (wa_nil (cd_isi ty kt ⟨_, rfl, ⟨fun _ => ⟨fun _ => ?_, fun h => (nomatch h)⟩, fun h => (nomatch h)⟩⟩))))))))))))
    exact wb_cons (ws_ret (we_bl want))
abbrev WordOk (P : Program) (w : World) (K : PySem.W.Frag) (mg : Str → Option Value) (base : Heap) : Prop := FnC P w K mg base 1 "is_word" s_is_word ["value"] spWord

/-- what is_name tells -/
def nameD : D → Bool
  | .str x => said x && !inD (.str x) (kept.map .str)
  | _ => false
def spName : DSp := fun ds M Φ _ => ∃ d n, ds = [d] ∧ tyD d = some n ∧ (∀ x, d = .str x → x.length ≤ 1000) ∧ Φ (.bl (nameD d)) M
abbrev s_is_name : Stmt := top 5
theorem sc_is_name : FnScope ["value"] ["value"] (defScope s_is_name) := ⟨rfl, rfl, rfl, by decide +kernel, rfl, by decide +kernel, by decide +kernel⟩
theorem ok_name (T : Txt K mg) (G : Dfn K mg "is_name" s_is_name) (C_is_word : WordOk P w K mg base) : FnC P w K mg base 2 "is_name" s_is_name ["value"] spName := by
  refine fnC_of G sc_is_name (fun _ _ _ _ _ _ us hl => match us, hl with | [_], _ => rfl) (fun ds M Φ Ξ ⟨_, _, e, _⟩ => by rw [e]; rfl) ?_
  rintro f cdv A outer s H E hr gd ds M Φ Ξ ⟨d, n, rfl, ty, lx, want⟩
  refine wb_cons (ws_ret (we_and (we_callC C_is_word (hr.mono (by decide)) gd rfl (wa_cons (we_var 0 rfl (wa_nil ⟨d, n, rfl, ty, lx, ⟨_, rfl, fun k1 => ?_, fun k1 => ?_⟩⟩))))))
  · obtain ⟨x, rfl⟩ : ∃ x, d = .str x := by
      cases d <;> first | exact ⟨_, rfl⟩ | cases k1
    refine (we_one (we_cmp op_notIn_seq (by rfl) (we_var 0 rfl (we_gc T.g_KEPT rfl (od_in (neg := true) (.inr rfl) rfl (by decide) ?_)))))
    have e : nameD (.str x) = !inD (.str x) (kept.map .str) := by
      show (said x && !inD (.str x) (kept.map .str)) = _
      rw [show said x = true from k1, Bool.true_and]
    rw [e] at want
    exact want
  · have e : nameD d = false := by
      cases d <;> first | rfl | (show (said _ && _) = false; rw [show said _ = false from k1, Bool.false_and])
    rw [e] at want
    exact want
abbrev NameOk (P : Program) (w : World) (K : PySem.W.Frag) (mg : Str → Option Value) (base : Heap) : Prop := FnC P w K mg base 2 "is_name" s_is_name ["value"] spName
end Lw

set_option Elab.async false
set_option linter.all false
set_option maxRecDepth 100000
set_option maxHeartbeats 1000000
namespace Lw
open PySem PySem.Spec PyProof.Rows L2 DL
variable {P : Program} {w : World} {K : PySem.W.Frag} {mg : Str → Option Value} {base : Heap}
abbrev s_law : Stmt := top 14
abbrev n_law : List Str := ["_law_script", "_law_pen_here", "_law_turn", "_law_text_here", "_law_due", "_law_odd", "_law_some"]
theorem sc_law : FnScope ["_law_script", "_law_pen_here", "_law_turn", "_law_text_here", "_law_due", "_law_odd", "_law_some"] ["_law_script"] (defScope s_law) := ⟨rfl, rfl, rfl, by decide +kernel, rfl, by decide +kernel, by decide +kernel⟩
def spLaw : DSp := fun ds M Φ _ => ∃ ns : List Int, ds = [.scr ns] ∧ M = (fun _ => none) ∧ ∀ M', Φ (.bl true) M'
/-- the text of two truths -/
def two (a b : Bool) : PyData := .list [.bool a, .bool b]
theorem two_ok (a b : Bool) : toP (.lst [.bl a, .bl b]) = some (two a b) ∧ (two a b).showable = true ∧ (two a b).depth ≤ 64 ∧ (two a b).shown.length ≤ sizeLine := by
  cases a <;> cases b <;> exact ⟨rfl, rfl, by decide, by decide +kernel⟩
theorem kept_words : ∀ x ∈ kept, x.length ≤ 1000 ∧ nameD (.str x) = false ∧ wordD (.str x) = true := by decide +kernel
theorem ok_law (T : Txt K mg) (G : Dfn K mg "law" s_law) (C_law_pen : PenOk P w K mg base) (C_law_pick : PickOk P w K mg base) (C_law_kept_words : KeptOk P w K mg base) (C_law_text : TextOk P w K mg base) (C_law_is_said : SaidOk P w K mg base)
    (C_is_word : WordOk P w K mg base) (C_is_name : NameOk P w K mg base) : FnC P w K mg base 5 "law" s_law ["_law_script"] spLaw := by
  refine fnC_of G sc_law (fun _ _ _ _ _ _ us hl => match us, hl with | [_], _ => rfl) (fun ds M Φ Ξ ⟨_, e, _⟩ => by rw [e]; rfl) ?_
  rintro f cdv A outer s H E hr gd ds M Φ Ξ ⟨ns, rfl, rfl, want⟩
  refine wb_cons (ws_set 1 sc_law.nd (we_callC C_law_pen (hr.mono (by decide)) gd rfl (wa_cons (we_var 0 rfl (wa_nil ⟨ns, rfl, fun p M0 _ hP0 hB0 => ?_⟩)))))
  refine wb_cons (ws_for po_body rfl (wi_range1 rfl T.n_range (wa_cons (we_int (wa_nil ⟨_, rfl, ⟨by decide, by decide⟩, ⟨fun i ρ' M' => ∃ a b c d : Option D, ρ' = [some (.scr ns), some (.raw (.ref p)), a, b, c, d, none] ∧ Pen M' p (i * 50), ⟨none, none, none, none, rfl, hP0⟩, fun i d ρ' M' hi hp => wg_name 2 sc_law.nd ?_, ?_⟩⟩)))))
  · obtain ⟨a0, b0, c0, d0, rfl, hP⟩ := hp
    have hi2 : i < 16 := by simpa [rngD] using (List.getElem?_eq_some_iff.mp hi).1
    -- _law_text_here = _law_text(_law_pen_here)
    refine wb_cons (ws_set 3 sc_law.nd (we_callC C_law_text (hr.mono (by decide)) gd rfl (wa_cons (we_var 1 rfl (wa_nil ⟨p, _, rfl, hP, by omega, fun x M1 lx ax hP1 hB1 => ?_⟩)))))
    have ln : ∀ y, D.str x = .str y → y.length ≤ 1000 := fun y e => by cases e; omega
    -- _law_due
    refine wb_cons (ws_set 4 sc_law.nd (we_lst (wa_cons (we_to (d0 := .bl (nameD (.str x))) (M0 := M1) ?and ?rest))))
    case and =>
      refine (we_and (we_callC C_law_is_said (hr.mono (by decide)) gd rfl (wa_cons (we_var 3 rfl (wa_nil ⟨x, rfl, by omega, ax, ⟨_, rfl, fun k1 => (we_one (we_cmp op_notIn_seq (by rfl) (we_var 3 rfl (we_callC0 C_law_kept_words (hr.mono (by decide)) gd rfl ⟨rfl, (od_in (neg := true) (.inl rfl) rfl (by decide) ⟨?_, rfl⟩)⟩)))), fun k1 => ⟨?_, rfl⟩⟩⟩)))))
      · show D.bl _ = D.bl (said x && !inD (.str x) (kept.map .str))
        rw [k1, Bool.true_and]
        rfl
      · show D.bl _ = D.bl (said x && !inD (.str x) (kept.map .str))
        rw [k1, Bool.false_and]
    refine wa_cons (we_callC C_law_is_said (hr.mono (by decide)) gd rfl (wa_cons (we_var 3 rfl (wa_nil ⟨x, rfl, by omega, ax, wa_nil ⟨le_line rfl, ?_⟩⟩))))
    obtain ⟨t1, t2, t3, t4⟩ := two_ok (nameD (.str x)) (said x)
    -- if repr(..) != repr(_law_due) or ..
    refine wb_cons (ws_if (wt_bool (ww_or (wt_cmp op_ne (nomark _) (we_blt (call_reprP gd (by have := hr.un; omega) T.sm) rfl T.n_repr (by decide +kernel) (wa_cons (we_lst (wa_cons (we_callC C_is_name (hr.mono (by decide)) gd rfl (wa_cons (we_var 3 rfl (wa_nil ⟨_, _, rfl, rfl, ln, (wa_cons (we_callC C_is_word (hr.mono (by decide)) gd rfl (wa_cons (we_var 3 rfl (wa_nil ⟨_, _, rfl, rfl, ln, (wa_nil ⟨le_line rfl, (wa_nil (cd_repr t1 t2 t3 t4 (we_blt (call_reprP gd (by have := hr.un; omega) T.sm) rfl T.n_repr (by decide +kernel) (wa_cons (we_var 4 rfl (wa_nil (cd_repr t1 t2 t3 t4 (od_neS ⟨_, rfl, ⟨fun h => absurd h (by simp), fun _ => (ww_or1 (wt_cmp op_ne (nomark _) (we_blt (call_reprP gd (by have := hr.un; omega) T.sm) rfl T.n_repr (by decide +kernel) (wa_cons (we_lst (wa_cons (we_callCK0 C_is_name (hr.mono (by decide)) gd rfl ["value"] [0] (fun _ _ _ _ _ _ us ws h1 h2 => match us, ws, h1, h2 with | [], [_], _, _ => rfl) (by decide) (wk_cons (we_var 3 rfl (wk_nil ⟨rfl, ⟨_, _, rfl, rfl, ln, (wa_cons (we_callCK0 C_is_word (hr.mono (by decide)) gd rfl ["value"] [0] (fun _ _ _ _ _ _ us ws h1 h2 => match us, ws, h1, h2 with | [], [_], _, _ => rfl) (by decide) (wk_cons (we_var 3 rfl (wk_nil ⟨rfl, ⟨_, _, rfl, rfl, ln, (wa_nil ⟨le_line rfl, (wa_nil (cd_repr t1 t2 t3 t4 (we_blt (call_reprP gd (by have := hr.un; omega) T.sm) rfl T.n_repr (by decide +kernel) (wa_cons (we_var 4 rfl (wa_nil (cd_repr t1 t2 t3 t4 (od_neS ⟨_, rfl, ⟨fun h => absurd h (by simp), fun _ => wb_nil ?_⟩⟩))))))))⟩)⟩⟩)))))⟩⟩))))))))))⟩⟩))))))))⟩)⟩)))))⟩))))))))))))
    -- _law_odd
    refine wb_cons (ws_set 5 sc_law.nd ?_)
    refine we_callC C_law_pick (hr.mono (by decide)) gd rfl ?_
    refine wa_cons (we_var 1 rfl ?_)
    refine wa_cons ?_
    refine we_lst ?_
    refine wa_cons ?_
    refine we_non ?_
    refine wa_cons ?_
    refine we_int ?_
    refine wa_cons ?_
    refine we_bl ?_
    refine wa_cons ?_
    refine we_tup ?_
    refine wa_nil ⟨le_line rfl, ?_⟩
    refine wa_cons ?_
    refine we_tup ?_
    refine wa_cons ?_
    refine we_str ?_
    refine wa_nil ⟨le_line rfl, ?_⟩
    refine wa_cons ?_
    refine we_lst ?_
    refine wa_cons ?_
    refine we_str ?_
    refine wa_nil ⟨le_line rfl, ?_⟩
    refine wa_cons ?_
    refine we_dict0 ?_
    refine wa_cons ?_
    refine we_dict1 fun L hL => ?_
    refine we_str ?_
    refine we_int ?_
    refine ⟨.inr "x", rfl, put_same, ?_⟩
    rw [cut_put hL]
    refine wa_cons ?_
    refine we_op op_pow ?_
    refine we_int ?_
    refine we_int ?_
    refine od_I (pow_small (by decide) (by decide)) (fix_int _) ?_
    refine wa_cons ?_
    refine we_lst ?_
    refine wa_cons ?_
    refine we_var 3 rfl ?_
    refine wa_nil ⟨le_line rfl, ?_⟩
    refine wa_cons ?_
    refine we_tup ?_
    refine wa_cons ?_
    refine we_var 3 rfl ?_
    refine wa_nil ⟨le_line rfl, ?_⟩
    refine wa_nil ⟨le_line rfl, ?_⟩
    refine wa_nil ?_
    refine ⟨p, _, _, _, rfl, .inl rfl, hP1, by omega, by simp, by simp, fun d2 M2 d2m hP2 hB2 => ?_⟩
    obtain ⟨n2, ty2, ns2⟩ : ∃ n2, tyD d2 = some n2 ∧ ∀ y, d2 ≠ .str y := by
      simp only [List.mem_cons, List.not_mem_nil, or_false] at d2m
      rcases d2m with rfl | rfl | rfl | rfl | rfl | rfl | rfl | rfl | rfl | rfl | rfl
      all_goals exact ⟨_, rfl, fun y e => by cases e⟩
    have ln2 : ∀ y, d2 = .str y → y.length ≤ 1000 := fun y e => absurd e (ns2 y)
    have f1 : nameD d2 = false := by
      cases d2 <;> first | rfl | exact absurd rfl (ns2 _)
    have f2 : wordD d2 = false := by
      cases d2 <;> first | rfl | exact absurd rfl (ns2 _)
    obtain ⟨u1, u2, u3, u4⟩ := two_ok false false
    refine wb_cons (ws_if (wt_cmp op_ne (nomark _) (we_blt (call_reprP gd (by have := hr.un; omega) T.sm) rfl T.n_repr (by decide +kernel) (wa_cons (we_lst (wa_cons (we_callC C_is_name (hr.mono (by decide)) gd rfl (wa_cons (we_var 5 rfl (wa_nil ⟨_, _, rfl, ty2, ln2, (wa_cons (we_callC C_is_word (hr.mono (by decide)) gd rfl (wa_cons (we_var 5 rfl (wa_nil ⟨_, _, rfl, ty2, ln2, (wa_nil ⟨le_line rfl, ?_⟩)⟩)))))⟩))))))))))
    rw [f1, f2]
    refine (wa_nil (cd_repr u1 u2 u3 u4 (we_blt (call_reprP gd (by have := hr.un; omega) T.sm) rfl T.n_repr (by decide +kernel) (wa_cons (we_lst (wa_cons (we_bl (wa_cons (we_bl (wa_nil ⟨le_line rfl, (wa_nil (cd_repr u1 u2 u3 u4 (od_neS ⟨_, rfl, ⟨fun h => absurd h (by simp), fun _ => wb_nil ?_⟩⟩)))⟩))))))))))
    exact wb_nil ⟨_, _, _, _, rfl, hP2.mono (by omega)⟩
  · rintro ρ' M' ⟨a0, b0, c0, d0, rfl, hP⟩
    -- _law_some
    refine wb_cons (ws_set 6 sc_law.nd (we_op op_cat (we_lc rfl sc_law.nd (own := [("_law_text_here", 3)]) (blkOk_by (N := n_law) (sc := defScope s_law) (by decide +kernel)) (fun _ _ _ _ _ => pg_name (i := 3) sc_law.nd rfl (Or.inl rfl)) (tgd_name 3 (by decide)) (wi_list (we_callC0 C_law_kept_words (hr.mono (by decide)) gd rfl ⟨rfl, ⟨_, rfl, ⟨kept, _, rfl, by decide, fun _ => true, fun _ => .bl false, fun x M2 hx hm => ⟨_, rfl, fun _ _ _ _ _ => (wf_nil ⟨rfl, rfl, fun _ _ _ _ _ _ => ?_⟩)⟩, ?_⟩⟩⟩)))))
    · refine we_callC C_is_name (hr.mono (by decide)) gd rfl (wa_cons (we_var 3 rfl (wa_nil ⟨_, _, rfl, rfl, fun y e => by cases e; exact (kept_words x hx).1, rfl, ?_⟩)))
      rw [(kept_words x hx).2.1]
    refine we_lc rfl sc_law.nd (own := [("_law_text_here", 3)]) (blkOk_by (N := n_law) (sc := defScope s_law) (by decide +kernel)) (fun _ _ _ _ _ => pg_name (i := 3) sc_law.nd rfl (Or.inl rfl)) (tgd_name 3 (by decide)) (wi_list (we_callC0 C_law_kept_words (hr.mono (by decide)) gd rfl ⟨rfl, ⟨_, rfl, ⟨kept, _, rfl, by decide, fun _ => true, fun _ => .bl true, fun x M2 hx hm => ⟨_, rfl, fun _ _ _ _ _ => (wf_nil ⟨rfl, rfl, fun _ _ _ _ _ _ => ?_⟩)⟩, ?_⟩⟩⟩))
    · refine we_callC C_is_word (hr.mono (by decide)) gd rfl (wa_cons (we_var 3 rfl (wa_nil ⟨_, _, rfl, rfl, fun y e => by cases e; exact (kept_words x hx).1, rfl, ?_⟩)))
      rw [(kept_words x hx).2.2]
    refine od_cat (by decide) ?_
    refine wb_cons (ws_ret (we_cmp (op_eqP hr.units) (nomark _) (we_var 6 rfl (we_op op_cat (we_op op_rep (we_lst (wa_cons (we_bl (wa_nil ⟨le_line rfl, (we_int (od_rep (by decide) (by decide) (by decide) (we_op op_rep (we_lst (wa_cons (we_bl (wa_nil ⟨le_line rfl, (we_int (od_rep (by decide) (by decide) (by decide) (od_cat (by decide) (od_eq rfl rfl (by decide) (by decide) ?_))))⟩)))))))⟩)))))))))
    exact want M'
end Lw

set_option Elab.async false
set_option linter.all false
set_option maxRecDepth 100000
set_option maxHeartbeats 0
namespace Lw
open PySem PySem.Spec PyProof.Rows L2 DL
def keptV : List He.Dv := kept.map He.Dv.str
def fn : List He.DefD := [defn "is_word" s_is_word, defn "is_name" s_is_name, defn "_law_pen" s_law_pen, defn "_law_draw" s_law_draw, defn "_law_pick" s_law_pick, defn "_law_kept_words" s_law_kept_words, defn "_law_letters" s_law_letters, defn "_law_text" s_law_text, defn "_law_is_said" s_law_is_said, defn "law" s_law]
def fa : List He.Fa := [.glo "is_word", .glo "is_name", .glo "_law_pen", .glo "_law_draw", .glo "_law_pick", .glo "_law_kept_words", .glo "_law_letters", .glo "_law_text", .glo "_law_is_said", .glo "law",
  .free "len", .free "int", .free "abs", .free "list", .free "range", .free "repr", .free "all", .free "str", .free "isinstance", .int "MOST_LETTERS" 8, .str "LETTERS" alphabet, .glo "KEPT"]
def tb : List (Str × List He.Dv) := [("KEPT", keptV)]
abbrev R : PySem.W.OpenRow := PySem.W.OpenLaw.row PySem.Challenge.rw_layerseen_k02_names_and_words
abbrev hk : PySem.W.Hook := hookX 4 fa fn tb
def ob (s : PySem.W.SharedT) : Bool × He.AlD := obsX 4 fa fn tb (HandSHeadRun.getT s)
theorem ob_eq (s : PySem.W.SharedT) : ob s = hk.obs s.abs := obsX_eq (HandSHeadRun.getT_eq s)
theorem run (w : World) : HandSHeadRun.RunEq R (PySem.W.view R.prog [14]) hk ob 2000 ["__name__", "LETTERS", "MOST_LETTERS", "KEPT", "is_word", "is_name", "_law_pen", "_law_draw", "_law_pick", "_law_kept_words", "_law_letters", "_law_text", "_law_is_said"] w := by
  intro os
  kernel_rfl
end Lw
namespace Lw
open PySem PySem.Spec PyProof.Rows L2 DL
theorem facts {P : Program} {w : World} {K : PySem.W.Frag} {h : Heap} {mg : Str → Option Value} {f : Addr} (X : K.In h) (G : h.Ns mainGlobals mg) (hfa : mg ("law" : Str) = some (.ref f)) (c : SaysX fa fn tb K) :
    ∃ (fd : FuncData) (sp : DSp), (∀ (s : Shared) (v : Value), BindsTo s fd ⟨[v], []⟩ [("_law_script", v)]) ∧ (∀ ns : List Int, ns.length ≤ 63 → sp [.scr ns] (fun _ => none) (fun d _ => d = .bl true) (fun _ _ => False)) ∧
      ∀ base : Heap, K.In base → base.Ns mainGlobals mg → FnD P w K mg base 5 f fd ["_law_script"] sp := by
  have s := c.dfs
  have T : Txt K mg := ⟨sysB_ok c.sys, He.free_ok X G (s.fact 10 (f := .free "len") rfl), He.free_ok X G (s.fact 11 (f := .free "int") rfl), He.free_ok X G (s.fact 12 (f := .free "abs") rfl), He.free_ok X G (s.fact 13 (f := .free "list") rfl), He.free_ok X G (s.fact 14 (f := .free "range") rfl),
    He.free_ok X G (s.fact 15 (f := .free "repr") rfl), He.free_ok X G (s.fact 16 (f := .free "all") rfl), He.free_ok X G (s.fact 17 (f := .free "str") rfl), He.free_ok X G (s.fact 18 (f := .free "isinstance") rfl),
    gc_int X G (s.fact 19 (f := .int "MOST_LETTERS" 8) rfl), gc_str X G (s.fact 20 (f := .str "LETTERS" alphabet) rfl), gc_tup X G (s.fact 21 (f := .glo "KEPT") rfl) (tab_at c.tab 0 (t := ("KEPT", keptV)) rfl) (by decide)⟩
  have D1 : Dfn K mg "is_word" s_is_word := dfn_of X G s 0 0 rfl rfl
  have D2 : Dfn K mg "is_name" s_is_name := dfn_of X G s 1 1 rfl rfl
  have D3 : Dfn K mg "_law_pen" s_law_pen := dfn_of X G s 2 2 rfl rfl
  have D4 : Dfn K mg "_law_draw" s_law_draw := dfn_of X G s 3 3 rfl rfl
  have D5 : Dfn K mg "_law_pick" s_law_pick := dfn_of X G s 4 4 rfl rfl
  have D6 : Dfn K mg "_law_kept_words" s_law_kept_words := dfn_of X G s 5 5 rfl rfl
  have D7 : Dfn K mg "_law_letters" s_law_letters := dfn_of X G s 6 6 rfl rfl
  have D8 : Dfn K mg "_law_text" s_law_text := dfn_of X G s 7 7 rfl rfl
  have D9 : Dfn K mg "_law_is_said" s_law_is_said := dfn_of X G s 8 8 rfl rfl
  obtain ⟨fdL, FL⟩ := s.def_ 9 (d := defn "law" s_law) rfl
  have gl := He.glo_ok X G (s.fact 9 (f := .glo "law") rfl)
  have D10 : Dfn K mg "law" s_law := ⟨_, fdL, gl, FL⟩
  have e := hfa.symm.trans gl
  cases e
  -- the law's own function object is the same for every base
  have bind : ∀ (s : Shared) (v : Value), BindsTo s fdL ⟨[v], []⟩ [("_law_script", v)] := fun s v => (L2.FunD.bindsA (ps := ["_law_script"]) FL (fun _ _ _ _ _ _ us hl => match us, hl with | [_], _ => rfl)) s [v] rfl
  refine ⟨fdL, spLaw, bind, fun ns _ => ⟨ns, rfl, rfl, fun _ => rfl⟩, fun base _ _ => ?_⟩
  have draw := ok_draw (P := P) (w := w) (base := base) T D4
  have pick := ok_pick T D5 draw
  have keptw := ok_kept (P := P) (w := w) (base := base) T D6
  have letters := ok_letters T D7 pick
  have text := ok_text T D8 draw pick keptw letters
  have word := ok_word (P := P) (w := w) (base := base) T D1
  obtain ⟨f2, fd2, a, b, _, d⟩ := (ok_law T D10 (ok_pen T D3) pick keptw text (ok_said T D9) word (ok_name T D2 word)).ex
  rw [gl] at a
  cases a
  have e2 : fd2 = fdL := by
    obtain ⟨_, _, _, _, _, _, _, _, _, _, _, l1, _⟩ := b.ex
    obtain ⟨_, _, _, _, _, _, _, _, _, _, _, l2, _⟩ := FL.ex
    have l2 := l1.symm.trans l2
    injection l2 with l2
    injection l2 with _ _ l3
    injection l3
  rw [e2] at d
  exact d
end Lw
open PySem PySem.W PySem.Calls PyProof.Rows in
set_option maxRecDepth 100000 in
set_option maxHeartbeats 0 in
theorem PySem.Challenge.cw_layerseen_k02_names_and_words_holds : PySem.Challenge.rw_layerseen_k02_names_and_words.Holds := by
  w_on; o_law
  refine HandSHeadRun.head_any (r := OpenLaw.row PySem.Challenge.rw_layerseen_k02_names_and_words) (q := view (OpenLaw.row PySem.Challenge.rw_layerseen_k02_names_and_words).prog [14]) (H := Lw.hk) (ob := Lw.ob) (M := 2000) (loose := ["__name__", "LETTERS", "MOST_LETTERS", "KEPT", "is_word", "is_name", "_law_pen", "_law_draw", "_law_pick", "_law_kept_words", "_law_letters", "_law_text", "_law_is_said"])
    (d := HandSHeadRun.topDef (OpenLaw.row PySem.Challenge.rw_layerseen_k02_names_and_words).prog 14) (kwd := []) Lw.ob_eq
    (by kernel_rfl) (fun s => by kernel_rfl) Lw.run (by kernel_rfl) (by kernel_rfl) (by kernel_rfl) (by rfl) (by first | assumption | decide +kernel) (by decide +kernel) ⟨rfl, rfl, rfl, rfl, rfl, by decide +kernel⟩ ?hw ?hc
  case hw => w_witness2
  case hc =>
    refine DL.walk_D (l := PySem.Challenge.rw_layerseen_k02_names_and_words) (n := 63) (k := 5) (x := "_law_script") rfl (by decide) (by kernel_rfl) ⟨rfl, by decide, by decide⟩ ?F
    intro w mg fa h Y G hmg0
    obtain ⟨K, KX, c⟩ := Y
    have hmg : mg ("law" : PySem.Str) = some (.ref fa) := by
      have e : (HandSHeadRun.topDef (OpenLaw.row PySem.Challenge.rw_layerseen_k02_names_and_words).prog 14).name = ("law" : PySem.Str) := by kernel_rfl
      rw [← e]
      exact hmg0
    obtain ⟨fd, sp, hb, hw, hF⟩ := Lw.facts (P := (PySem.Challenge.rw_layerseen_k02_names_and_words).prog) (w := w) KX G hmg c
    exact ⟨K, fd, sp, KX, hb, hw, hF⟩
