import PyProof.Rows.All
import Wide.All
import OpenK.AllK
import Wide.FinOn
import HandS.ForMost
import HandS.Exc
import HandS.IsInst
import HandS.Flow
import HandS.Style
import HandS.TupAny
import HandS.WordsExc
import HandS.Defaults
import HandS.Walk
import KE.KDictCopyH
import KE.KDictWalk
import HandS.Conv
import PyProof.Rows.TupDisplay
import KE.GoesZip
import KE.GoesMore
import KE.SortData
import HandS.SortOrd
import PyProof.Rows.SortWalkRead
import PyProof.Rows.FactsN_isinstance
import KE.KTupSum
import PyProof.Rows.ReprR
import HandS.DictComp
import HandS.Ends
import HandS.HeadEnd
import HandS.HeadHook1
import HandS.HeadHook2
import PySem.Challenge.RW_threeshapes_k82_whole_facing_rooms_withi
set_option Elab.async false
set_option linter.all false
set_option maxRecDepth 100000
set_option maxHeartbeats 4000000
/-! A program logic over the hand layer: data known in a shadow heap G that nobody changes, local lists and dicts told apart, one "hand". -/
namespace K82
open PySem PySem.Spec PyProof.Rows L2

/-! ### data in a heap -/
mutual
inductive Da (G : Hp) : V → PyData → Prop
  | non : Da G .non .none
  | bl (b : Bool) : Da G (.bl b) (.bool b)
  | int (i : Int) : Da G (.int i) (.int i)
  | str (x : Str) : Da G (.str x) (.str x)
  | lst {a : Addr} {xs : List V} {ds : List PyData} : G a = some (.lst xs) → DaAll G xs ds → Da G (.ref a) (.list ds)
  | tup {a : Addr} {xs : List V} {ds : List PyData} : G a = some (.tup xs) → DaAll G xs ds → Da G (.ref a) (.tuple ds)
inductive DaAll (G : Hp) : List V → List PyData → Prop
  | nil : DaAll G [] []
  | cons {v : V} {vs : List V} {d : PyData} {ds : List PyData} : Da G v d → DaAll G vs ds → DaAll G (v :: vs) (d :: ds)
end

theorem same_new {H : Hp} {p : Addr} {o : HO} (h : H p = none) : Same H (upd H p o) := fun b x e => by
  rw [upd_ne (ne_of_none e h)]
  exact e
theorem same_mut {H H' : Hp} {p : Addr} {o : HO} (e : Same H H') (h : H p = none) : Same H (upd H' p o) := fun b u ha => by
  rw [upd_ne (ne_of_none ha h)]
  exact e b u ha
theorem same_up {G H : Hp} {p : Addr} {o : HO} (e : Same G H) : Same (upd G p o) (upd H p o) := fun b u hb => by
  by_cases q : b = p
  · subst q
    rw [upd_same] at hb ⊢
    exact hb
  · rw [upd_ne q] at hb ⊢
    exact e b u hb

theorem Da.int_inv {G : Hp} {v : V} {i : Int} (h : Da G v (.int i)) : v = .int i := by
  cases h
  rfl
theorem Da.bl_inv {G : Hp} {v : V} {b : Bool} (h : Da G v (.bool b)) : v = .bl b := by
  cases h
  rfl
theorem Da.non_inv {G : Hp} {v : V} (h : Da G v .none) : v = .non := by
  cases h
  rfl
theorem Da.str_inv {G : Hp} {v : V} {x : Str} (h : Da G v (.str x)) : v = .str x := by
  cases h
  rfl
theorem Da.lst_inv {G : Hp} {v : V} {ds : List PyData} (h : Da G v (.list ds)) : ∃ a xs, v = .ref a ∧ G a = some (.lst xs) ∧ DaAll G xs ds := by
  cases h with
  | lst h1 h2 => exact ⟨_, _, rfl, h1, h2⟩
theorem Da.tup_inv {G : Hp} {v : V} {ds : List PyData} (h : Da G v (.tuple ds)) : ∃ a xs, v = .ref a ∧ G a = some (.tup xs) ∧ DaAll G xs ds := by
  cases h with
  | tup h1 h2 => exact ⟨_, _, rfl, h1, h2⟩

mutual
theorem Da.mono {G G' : Hp} (e : Same G G') : ∀ {v : V} {d : PyData}, Da G v d → Da G' v d
  | _, _, .non => .non
  | _, _, .bl b => .bl b
  | _, _, .int i => .int i
  | _, _, .str x => .str x
  | _, _, .lst h t => .lst (e _ _ h) (DaAll.mono e t)
  | _, _, .tup h t => .tup (e _ _ h) (DaAll.mono e t)
theorem DaAll.mono {G G' : Hp} (e : Same G G') : ∀ {vs : List V} {ds : List PyData}, DaAll G vs ds → DaAll G' vs ds
  | _, _, .nil => .nil
  | _, _, .cons h t => .cons (Da.mono e h) (DaAll.mono e t)
end
mutual
theorem Da.dp {K : PySem.W.Frag} {G : Hp} : ∀ {v : V} {d : PyData}, Da G v d → Dp K G v d
  | _, _, .non => .non
  | _, _, .bl b => .bl b
  | _, _, .int i => .int i
  | _, _, .str x => .str x
  | _, _, .lst h t => .lst (SqL.of h) (DaAll.dp t)
  | _, _, .tup h t => .tup (SqT.of h) (DaAll.dp t)
theorem DaAll.dp {K : PySem.W.Frag} {G : Hp} : ∀ {vs : List V} {ds : List PyData}, DaAll G vs ds → DpAll K G vs ds
  | _, _, .nil => .nil
  | _, _, .cons h t => .cons (Da.dp h) (DaAll.dp t)
end
theorem DaAll.length {G : Hp} : ∀ {vs : List V} {ds : List PyData}, DaAll G vs ds → vs.length = ds.length
  | _, _, .nil => rfl
  | _, _, .cons _ t => congrArg (· + 1) (DaAll.length t)
theorem DaAll.append {G : Hp} : ∀ {vs ws : List V} {ds es : List PyData}, DaAll G vs ds → DaAll G ws es → DaAll G (vs ++ ws) (ds ++ es)
  | _, _, _, _, .nil, h => h
  | _, _, _, _, .cons a t, h => .cons a (DaAll.append t h)
theorem DaAll.get {G : Hp} : ∀ {vs : List V} {ds : List PyData} {i : Nat} {d : PyData}, DaAll G vs ds → ds[i]? = some d → ∃ v, vs[i]? = some v ∧ Da G v d
  | _, _, _, _, .nil, e => by simp at e
  | _, _, 0, d, .cons a t, e => by
    simp at e
    subst e
    exact ⟨_, rfl, a⟩
  | _, _, i + 1, d, .cons a t, e => by
    obtain ⟨v, h1, h2⟩ := DaAll.get (i := i) (d := d) t (by simpa using e)
    exact ⟨v, by simpa using h1, h2⟩
theorem DaAll.get' {G : Hp} {vs : List V} {ds : List PyData} {i : Nat} {v : V} (h : DaAll G vs ds) (e : vs[i]? = some v) : ∃ d, ds[i]? = some d ∧ Da G v d := by
  have hl := h.length
  have hi := (List.getElem?_eq_some_iff.mp e).1
  have hi2 : i < ds.length := by omega
  obtain ⟨w, h1, h2⟩ := h.get (List.getElem?_eq_getElem hi2)
  rw [e] at h1
  cases h1
  exact ⟨_, List.getElem?_eq_getElem hi2, h2⟩
theorem DaAll.ints {G : Hp} : ∀ {vs : List V} {ns : List Int}, DaAll G vs (ns.map PyData.int) → vs = ns.map V.int
  | _, [], .nil => rfl
  | _, n :: ns, .cons a t => by
    rw [a.int_inv, DaAll.ints t]
    rfl
theorem DaAll.of_ints {G : Hp} : ∀ (ns : List Int), DaAll G (ns.map V.int) (ns.map PyData.int)
  | [] => .nil
  | n :: ns => .cons (.int n) (DaAll.of_ints ns)

/-! ### what a slot holds -/
inductive Ty where
  | dat (d : PyData)
  | adr (p : Addr)
  | obj (C : Addr) (fs : List (Str × PyData))
  | scr (K : PySem.W.Frag) (ns : List Int)
theorem sql_mono {K : PySem.W.Frag} {G G' : Hp} (e : Same G G') {a : Addr} {xs : List V} (h : SqL K G a xs) : SqL K G' a xs := by
  rcases h with (h | ⟨o, h⟩) | h
  · exact .inl (.inl (e _ _ h))
  · exact .inl (.inr ⟨o, e _ _ h⟩)
  · exact .inr h
def Ho (G : Hp) (v : V) : Ty → Prop
  | .dat d => Da G v d
  | .adr p => v = .ref p
  | .obj C fs => ∃ a dx fsV, v = .ref a ∧ G a = some (.ins C dx fsV) ∧ ∀ f d, fs.lookup f = some d → ∃ u, fsV.lookup f = some u ∧ Da G u d
  | .scr K ns => ∃ a, v = .ref a ∧ SqL K G a (ns.map V.int)
theorem Ho.mono {G G' : Hp} (e : Same G G') {v : V} : ∀ {t : Ty}, Ho G v t → Ho G' v t
  | .dat _, h => Da.mono e h
  | .adr _, h => h
  | .obj _ _, ⟨a, dx, fsV, h1, h2, h3⟩ => ⟨a, dx, fsV, h1, e _ _ h2, fun f d q =>
      let ⟨u, q1, q2⟩ := h3 f d q
      ⟨u, q1, q2.mono e⟩⟩
  | .scr _ _, ⟨a, h1, h2⟩ => ⟨a, h1, sql_mono e h2⟩
inductive MTy where
  | lst (ds : List PyData)
  | dict (ks : List (List Int))
  | ins (C : Addr) (fs : List (Str × PyData))
def keyOf (r : List Int) : List Key := r.map Sum.inl
def Mo (G H : Hp) (l : Addr) : MTy → Prop
  | .lst ds => ∃ vs, H l = some (.lst vs) ∧ DaAll G vs ds
  | .dict ks => H l = some (.dT (ks.map fun r => (keyOf r, V.bl true)))
  | .ins C fs => ∃ dx fsV, H l = some (.ins C dx fsV) ∧ fsV.length ≤ fs.length ∧ ∀ f d, fs.lookup f = some d → ∃ u, fsV.lookup f = some u ∧ Da G u d
def isT : HO → Bool
  | .tup _ => true
  | _ => false
theorem Mo.there {G H : Hp} {l : Addr} : ∀ {m : MTy}, Mo G H l m → ∃ o, H l = some o ∧ isT o = false
  | .lst _, ⟨_, h, _⟩ => ⟨_, h, rfl⟩
  | .dict _, h => ⟨_, h, rfl⟩
  | .ins _ _, ⟨_, _, h, _⟩ => ⟨_, h, rfl⟩

/-! ### the hand -/
def HandOk (G H : Hp) (p : Addr) : Prop := ∃ (q s t m : Int) (c : Addr) (cells : List Int), H p = some (.lst [.int q, .int s, .ref c, .int t, .int m]) ∧ G c = some (.lst (cells.map V.int)) ∧ 0 ≤ t

/-- from (H, G) to (H', G'): what stood stands, what is known grows, and nothing of H that was not known became known -/
structure Fr (hd : Option Addr) (H G H' G' : Hp) : Prop where
  keep : ∀ b o, hd ≠ some b → H b = some o → H' b = some o
  ex : ∀ b o, H b = some o → ∃ o', H' b = some o' ∧ isT o' = isT o
  hand : ∀ p, hd = some p → HandOk G H p → HandOk G' H' p
  gg : Same G G'
  gh : Same G' H'
  fr : ∀ b o, H b = some o → G b = none → isT o = false → G' b = none
theorem Fr.refl {hd : Option Addr} {H G : Hp} (e : Same G H) : Fr hd H G H G := ⟨fun _ _ _ h => h, fun _ o h => ⟨o, h, rfl⟩, fun _ _ h => h, Same.refl G, e, fun _ _ _ h _ => h⟩
theorem Fr.trans {hd : Option Addr} {H G H1 G1 H2 G2 : Hp} (a : Fr hd H G H1 G1) (b : Fr hd H1 G1 H2 G2) : Fr hd H G H2 G2 :=
  ⟨fun c o n h => b.keep c o n (a.keep c o n h), fun c o h => by
    obtain ⟨o', h', t'⟩ := a.ex c o h
    obtain ⟨o2, h2, t2⟩ := b.ex c o' h'
    exact ⟨o2, h2, t2.trans t'⟩, fun p e h => b.hand p e (a.hand p e h), a.gg.trans b.gg, b.gh, fun c o h n t => by
    obtain ⟨o', h', t'⟩ := a.ex c o h
    exact b.fr c o' h' (a.fr c o h n t) (t'.trans t)⟩
theorem HandOk.mono {G G' H H' : Hp} {p : Addr} (h : HandOk G H p) (g : Same G G') (e : ∀ o, H p = some o → H' p = some o) : HandOk G' H' p := by
  obtain ⟨q, s, t, m, c, cells, h1, h2, h3⟩ := h
  exact ⟨q, s, t, m, c, cells, e _ h1, g _ _ h2, h3⟩
/-- all of H stands, G may have grown by what is new -/
theorem Fr.of_same {hd : Option Addr} {H G H' G' : Hp} (e : Same H H') (g : Same G G') (h : Same G' H') (f : ∀ b o, H b = some o → G b = none → isT o = false → G' b = none) : Fr hd H G H' G' :=
  ⟨fun b o _ q => e b o q, fun b o q => ⟨o, e b o q, rfl⟩, fun _ _ k => k.mono g fun o q => e _ o q, g, h, f⟩
/-- a new object, known -/
theorem Fr.new {hd : Option Addr} {H G H1 G1 : Hp} (a : Fr hd H G H1 G1) {p : Addr} {o : HO} (h : H1 p = none) : Fr hd H G (upd H1 p o) (upd G1 p o) :=
  a.trans (Fr.of_same (same_new h) (same_new (a.gh.free h)) (same_up a.gh) fun b u hb n _ => by
    rw [upd_ne (ne_of_none hb h)]
    exact n)
/-- a new object, not told -/
theorem Fr.newT {hd : Option Addr} {H G H1 G1 : Hp} (a : Fr hd H G H1 G1) {p : Addr} {o : HO} (h : H1 p = none) : Fr hd H G (upd H1 p o) G1 :=
  a.trans (Fr.of_same (same_new h) (Same.refl _) (a.gh.trans (same_new h)) fun _ _ _ n _ => n)
/-- an object of one's own is changed: p is no object of H, not known -/
theorem Fr.mut {hd : Option Addr} {H G H1 G1 : Hp} (a : Fr hd H G H1 G1) {p : Addr} {o : HO} (h : H p = none) (g : G1 p = none) (hp : hd ≠ some p) : Fr hd H G (upd H1 p o) G1 := by
  refine ⟨fun b u n e => ?_, fun b u e => ?_, fun q e k => ?_, a.gg, fun b u e => ?_, a.fr⟩
  · rw [upd_ne (ne_of_none e h)]
    exact a.keep b u n e
  · rw [upd_ne (ne_of_none e h)]
    exact a.ex b u e
  · refine (a.hand q e k).mono (Same.refl _) fun u r => ?_
    rw [upd_ne (fun z => hp (by rw [e, z]))]
    exact r
  · rw [upd_ne (fun z => by rw [z, g] at e; cases e)]
    exact a.gh b u e
/-- an object of one's own becomes known -/
theorem Fr.give {hd : Option Addr} {H G H1 G1 : Hp} (a : Fr hd H G H1 G1) {p : Addr} {o : HO} (h : H p = none) (g : G1 p = none) (e : H1 p = some o) : Fr hd H G H1 (upd G1 p o) := by
  refine ⟨a.keep, a.ex, fun q z k => (a.hand q z k).mono (same_new g) fun _ r => r, a.gg.trans (same_new g), fun b u hb => ?_, fun b u hb n t => ?_⟩
  · by_cases q : b = p
    · subst q
      rw [upd_same] at hb
      cases hb
      exact e
    · rw [upd_ne q] at hb
      exact a.gh b u hb
  · rw [upd_ne (ne_of_none hb h)]
    exact a.fr b u hb n t

/-- tuples that stand become known -/
theorem Fr.tell {hd : Option Addr} {H G H1 G1 G2 : Hp} (a : Fr hd H G H1 G1) (g : Same G1 G2) (h : Same G2 H1) (t : ∀ b o, G2 b = some o → G1 b = none → isT o = true) : Fr hd H G H1 G2 := by
  refine a.trans ⟨fun _ _ _ e => e, fun b o e => ⟨o, e, rfl⟩, fun q z k => k.mono g fun _ r => r, g, h, fun b o hb n to => ?_⟩
  cases q : G2 b with
  | none => rfl
  | some u =>
    have h1 := t b u q n
    have h2 := h b u q
    rw [hb] at h2
    cases h2
    rw [to] at h1
    cases h1

/-! ### an abstract state: slots, local mutable objects, the hand -/
structure AS where
  hd : Option Addr
  Γ : List (Option Ty)
  Mu : List (Addr × MTy)
abbrev AS.put (A : AS) (i : Nat) (t : Ty) : AS := { A with Γ := A.Γ.set i (some t) }
structure Cfg (A : AS) (G : Hp) (σ : L2.St) (H : Hp) : Prop where
  gh : Same G H
  hand : ∀ p, A.hd = some p → HandOk G H p ∧ G p = none
  len : σ.length = A.Γ.length
  sl : ∀ (i : Nat) (t : Ty), A.Γ[i]? = some (some t) → ∃ v, σ[i]? = some (some v) ∧ Ho G v t
  mu : ∀ (k : Nat) l m, A.Mu[k]? = some (l, m) → G l = none ∧ A.hd ≠ some l ∧ Mo G H l m
  nd : ∀ (j k : Nat) l m m', A.Mu[j]? = some (l, m) → A.Mu[k]? = some (l, m') → j = k
theorem Mo.step {G H G' H' : Hp} {l : Addr} (g : Same G G') (e : ∀ o, H l = some o → H' l = some o) : ∀ {m : MTy}, Mo G H l m → Mo G' H' l m
  | .lst _, ⟨vs, h1, h2⟩ => ⟨vs, e _ h1, h2.mono g⟩
  | .dict _, h => e _ h
  | .ins _ _, ⟨dx, fsV, h1, h2, h3⟩ => ⟨dx, fsV, e _ h1, h2, fun f d q => let ⟨u, q1, q2⟩ := h3 f d q; ⟨u, q1, q2.mono g⟩⟩
theorem Cfg.step {A : AS} {G G' H H' : Hp} {σ : L2.St} (C : Cfg A G σ H) (F : Fr A.hd H G H' G') : Cfg A G' σ H' := by
  refine ⟨F.gh, fun p e => ?_, C.len, fun i t q => ?_, fun k l m q => ?_, C.nd⟩
  · obtain ⟨h1, h2⟩ := C.hand p e
    obtain ⟨q, s, t, m, c, cells, h3, _⟩ := id h1
    exact ⟨F.hand p e h1, F.fr p _ h3 h2 rfl⟩
  · obtain ⟨v, h1, h2⟩ := C.sl i t q
    exact ⟨v, h1, h2.mono F.gg⟩
  · obtain ⟨h1, h2, h3⟩ := C.mu k l m q
    obtain ⟨o, ho, to⟩ := h3.there
    exact ⟨F.fr l o ho h1 to, h2, h3.step F.gg fun o q => F.keep l o h2 q⟩
theorem Cfg.put {A : AS} {G H : Hp} {σ : L2.St} {v : V} {t : Ty} (C : Cfg A G σ H) (i : Nat) (h : Ho G v t) : Cfg (A.put i t) G (σ.set i (some v)) H := by
  refine ⟨C.gh, C.hand, by simpa using C.len, fun j u q => ?_, C.mu, C.nd⟩
  have q' : (A.Γ.set i (some t))[j]? = some (some u) := q
  by_cases hj : i = j
  · subst hj
    by_cases hi : i < A.Γ.length
    · rw [List.getElem?_set_self hi] at q'
      cases q'
      exact ⟨v, List.getElem?_set_self (by rw [C.len]; exact hi), h⟩
    · rw [List.getElem?_eq_none (by simpa using hi)] at q'
      cases q'
  · rw [List.getElem?_set_ne hj] at q'
    obtain ⟨w, h1, h2⟩ := C.sl j u q'
    exact ⟨w, by rw [List.getElem?_set_ne hj]; exact h1, h2⟩
/-- a slot is forgotten in the state -/
theorem Cfg.wipe1 {A : AS} {G H : Hp} {σ : L2.St} (C : Cfg A G σ H) (i : Nat) : Cfg { A with Γ := A.Γ.set i none } G (σ.set i none) H := by
  refine ⟨C.gh, C.hand, by simpa using C.len, fun j u q => ?_, C.mu, C.nd⟩
  have q' : (A.Γ.set i none)[j]? = some (some u) := q
  by_cases hj : i = j
  · subst hj
    by_cases hi : i < A.Γ.length
    · rw [List.getElem?_set_self hi] at q'
      cases q'
    · rw [List.getElem?_eq_none (by simpa using hi)] at q'
      cases q'
  · rw [List.getElem?_set_ne hj] at q'
    obtain ⟨w, h1, h2⟩ := C.sl j u q'
    exact ⟨w, by rw [List.getElem?_set_ne hj]; exact h1, h2⟩

/-! ### semantic readings -/
def SE (X : Cx) (e : Expr) : TE := fun σ H Q => ∀ pins s, Inv X pins σ H s → wpAny (model X.prog X.w) X.A (eval e X.env) (EP X pins σ Q) X.xe s
def ST (X : Cx) (e : Expr) : TT := fun σ H Q => ∀ pins s, Inv X pins σ H s → wpAny (model X.prog X.w) X.A (isTrue e X.env (eval e X.env)) (TP X pins σ Q) X.xe s
def SA (X : Cx) (es : List Expr) : TA := fun σ H Q => ∀ pos pins s, Inv X pins σ H s → wpAny (model X.prog X.w) X.A (spliced (backTo pos (starEach es X.env))) (AP X pins σ Q) X.xe s
def SS (X : Cx) (st : Stmt) : TS := fun D σ H => ∀ pins s, Inv X pins σ H s → wpAny (model X.prog X.w) X.A (exec st X.env) (SP X pins D) X.xe s
def SSs (X : Cx) (st : List Stmt) : TS := fun D σ H => ∀ pins s, Inv X pins σ H s → wpAny (model X.prog X.w) X.A (execs st X.env) (SP X pins D) X.xe s
section
variable {X : Cx} {e : Expr} {es : List Expr} {st : Stmt} {sts : List Stmt} {σ : L2.St} {H : Hp}
theorem pe_s : PE X e (SE X e) := ⟨fun pins s _ _ _ I h => h pins s I⟩
theorem pt_s : PT X e (ST X e) := ⟨fun pins s _ _ _ I h => h pins s I⟩
theorem pa_s : PA X es (SA X es) := ⟨fun pos pins s _ _ _ I h => h pos pins s I⟩
theorem ps_s : PS X st (SS X st) := ⟨fun pins s _ _ _ I h => h pins s I⟩
theorem pss_s : PSs X sts (SSs X sts) := ⟨fun pins s _ _ _ I h => h pins s I⟩
theorem _root_.L2.PE.s {t : TE} (h : PE X e t) {Q : VK} (q : t σ H Q) : SE X e σ H Q := fun pins s I => h.run pins s σ H Q I q
theorem _root_.L2.PT.s {t : TT} (h : PT X e t) {Q : Bool → Hp → Prop} (q : t σ H Q) : ST X e σ H Q := fun pins s I => h.run pins s σ H Q I q
theorem _root_.L2.PA.s {t : TA} (h : PA X es t) {Q : List V → Hp → Prop} (q : t σ H Q) : SA X es σ H Q := fun pos pins s I => h.run pos pins s σ H Q I q
theorem _root_.L2.PS.s {t : TS} (h : PS X st t) {D : Ends} (q : t D σ H) : SS X st D σ H := fun pins s I => h.run pins s σ H D I q
theorem _root_.L2.PSs.s {t : TS} (h : PSs X sts t) {D : Ends} (q : t D σ H) : SSs X sts D σ H := fun pins s I => h.run pins s σ H D I q
theorem SE.mono {Q Q' : VK} (h : SE X e σ H Q) (q : ∀ v H, Q v H → Q' v H) : SE X e σ H Q' := fun pins s I =>
  thn (h pins s I) fun _ _ ⟨v, H', I', r, k⟩ => ⟨v, H', I', r, q v H' k⟩
theorem ST.mono {Q Q' : Bool → Hp → Prop} (h : ST X e σ H Q) (q : ∀ v H, Q v H → Q' v H) : ST X e σ H Q' := fun pins s I =>
  thn (h pins s I) fun _ _ ⟨H', I', k⟩ => ⟨H', I', q _ H' k⟩
theorem SP.mono {pins : List (Addr × Obj)} {D D' : Ends} (h1 : ∀ σ H, D.nx σ H → D'.nx σ H) (h2 : ∀ v H, D.rt v H → D'.rt v H) (h3 : ∀ σ H, D.bk σ H → D'.bk σ H) (h4 : ∀ σ H, D.ct σ H → D'.ct σ H) {f : Flow} {s : Shared} (h : SP X pins D f s) : SP X pins D' f s := by
  cases f with
  | next => obtain ⟨σ', H', I, q⟩ := h; exact ⟨σ', H', I, h1 _ _ q⟩
  | brk => obtain ⟨σ', H', I, q⟩ := h; exact ⟨σ', H', I, h3 _ _ q⟩
  | cont => obtain ⟨σ', H', I, q⟩ := h; exact ⟨σ', H', I, h4 _ _ q⟩
  | ret u => obtain ⟨v, σ', H', I, r, q⟩ := h; exact ⟨v, σ', H', I, r, h2 _ _ q⟩
theorem SS.mono {D D' : Ends} (h : SS X st D σ H) (h1 : ∀ σ H, D.nx σ H → D'.nx σ H) (h2 : ∀ v H, D.rt v H → D'.rt v H) (h3 : ∀ σ H, D.bk σ H → D'.bk σ H) (h4 : ∀ σ H, D.ct σ H → D'.ct σ H) : SS X st D' σ H := fun pins s I =>
  thn (h pins s I) fun _ _ k => SP.mono h1 h2 h3 h4 k
theorem SSs.mono {D D' : Ends} (h : SSs X sts D σ H) (h1 : ∀ σ H, D.nx σ H → D'.nx σ H) (h2 : ∀ v H, D.rt v H → D'.rt v H) (h3 : ∀ σ H, D.bk σ H → D'.bk σ H) (h4 : ∀ σ H, D.ct σ H → D'.ct σ H) : SSs X sts D' σ H := fun pins s I =>
  thn (h pins s I) fun _ _ k => SP.mono h1 h2 h3 h4 k
end

/-! ### what an expression gives -/
def EvP (A : AS) (X : Cx) (e : Expr) (T : Ty → Prop) : Prop := ∀ G σ H, Cfg A G σ H → ∀ Q : VK, (∀ v H' G' t, Fr A.hd H G H' G' → T t → Ho G' v t → Q v H') → SE X e σ H Q
abbrev EvT (A : AS) (X : Cx) (e : Expr) (t : Ty) : Prop := EvP A X e fun u => u = t
abbrev Ev (A : AS) (X : Cx) (e : Expr) (d : PyData) : Prop := EvT A X e (.dat d)
def TvP (A : AS) (X : Cx) (e : Expr) (B : Bool → Prop) : Prop := ∀ G σ H, Cfg A G σ H → ∀ Q : Bool → Hp → Prop, (∀ b H' G', Fr A.hd H G H' G' → B b → Q b H') → ST X e σ H Q
abbrev Tv (A : AS) (X : Cx) (e : Expr) (b : Bool) : Prop := TvP A X e fun c => c = b
abbrev HoAll (G : Hp) : List V → List Ty → Prop := Paired (Ho G)
def EvA (A : AS) (X : Cx) (es : List Expr) (T : List Ty → Prop) : Prop := ∀ G σ H, Cfg A G σ H → ∀ Q : List V → Hp → Prop, (∀ vs H' G' ts, Fr A.hd H G H' G' → T ts → HoAll G' vs ts → Q vs H') → SA X es σ H Q
theorem HoAll.mono {G G' : Hp} (e : Same G G') : ∀ {vs : List V} {ts : List Ty}, HoAll G vs ts → HoAll G' vs ts
  | _, _, .nil => .nil
  | _, _, .cons a t => .cons (a.mono e) (HoAll.mono e t)
theorem EvP.imp {A : AS} {X : Cx} {e : Expr} {T T' : Ty → Prop} (h : EvP A X e T) (k : ∀ t, T t → T' t) : EvP A X e T' := fun G σ H C Q q => h G σ H C Q fun v H' G' t F p => q v H' G' t F (k t p)
theorem EvT.to {A : AS} {X : Cx} {e : Expr} {t t' : Ty} (h : EvT A X e t) (k : t = t') : EvT A X e t' := by
  subst k
  exact h
theorem Ev.to {A : AS} {X : Cx} {e : Expr} {t t' : PyData} (h : Ev A X e t) (k : t = t') : Ev A X e t' := by
  subst k
  exact h
theorem Tv.to {A : AS} {X : Cx} {e : Expr} {t t' : Bool} (h : Tv A X e t) (k : t = t') : Tv A X e t' := by
  subst k
  exact h

/-! ### what a block does -/
structure Bs where
  H : Hp
  G : Hp
  hd : Option Addr
def Sat (B : Bs) (Z : Hp) (A : AS) (σ : L2.St) (H : Hp) : Prop := A.hd = B.hd ∧ ∃ G, Same Z G ∧ Fr B.hd B.H B.G H G ∧ Cfg A G σ H ∧ ∀ (k : Nat) l m, A.Mu[k]? = some (l, m) → B.H l = none
structure Po where
  nx : AS → Prop
  rt : Ty → Prop
  bk : AS → Prop := fun _ => False
  ct : AS → Prop := fun _ => False
  ra : AS → Prop := fun _ => True
/-- what the own objects are -/
def MuOk (A : AS) (G H : Hp) : Prop := ∀ (k : Nat) l m, A.Mu[k]? = some (l, m) → G l = none ∧ Mo G H l m
def Po.ends (P : Po) (B : Bs) (Z : Hp) : Ends where
  nx := fun σ H => ∃ A, P.nx A ∧ Sat B Z A σ H
  rt := fun v H => ∃ G t, P.rt t ∧ Fr B.hd B.H B.G H G ∧ Ho G v t ∧ ∃ A, P.ra A ∧ MuOk A G H
  bk := fun σ H => ∃ A, P.bk A ∧ Sat B Z A σ H
  ct := fun σ H => ∃ A, P.ct A ∧ Sat B Z A σ H
def So (B : Bs) (X : Cx) (st : Stmt) (A : AS) (P : Po) : Prop := ∀ Z σ H, Sat B Z A σ H → SS X st (P.ends B Z) σ H
def Sos (B : Bs) (X : Cx) (sts : List Stmt) (A : AS) (P : Po) : Prop := ∀ Z σ H, Sat B Z A σ H → SSs X sts (P.ends B Z) σ H
theorem Sat.weak {B : Bs} {Z Z' : Hp} {A : AS} {σ : L2.St} {H : Hp} (h : Sat B Z A σ H) (e : Same Z' Z) : Sat B Z' A σ H := by
  obtain ⟨h0, G, h1, h2, h3, h4⟩ := h
  exact ⟨h0, G, e.trans h1, h2, h3, h4⟩
/-- the state moves on by an evaluation -/
theorem Sat.go {B : Bs} {Z : Hp} {A : AS} {σ : L2.St} {H G H' G' : Hp} (h0 : A.hd = B.hd) (h1 : Same Z G) (h2 : Fr B.hd B.H B.G H G) (h3 : Cfg A G σ H) (h4 : ∀ (k : Nat) l m, A.Mu[k]? = some (l, m) → B.H l = none) (F : Fr A.hd H G H' G') : Sat B Z A σ H' :=
  ⟨h0, G', h1.trans F.gg, h2.trans (h0 ▸ F), h3.step F, h4⟩
end K82
/-! Rules of the logic: expressions, tests, statements. -/
namespace K82
open PySem PySem.Spec PyProof.Rows L2

section
variable {A : AS} {X : Cx} {a b c e : Expr} {es : List Expr} {pos : Pos}

/-! ### names, constants -/
theorem ev_var (i : Nat) {x : Str} {t : Ty} (hΓ : A.Γ[i]? = some (some t) := by rfl) (hN : X.N[i]? = some x := by rfl) (hv : Vis X.env.scope x := by first | exact Or.inl rfl | exact Or.inr (Or.inl rfl) | exact Or.inr (Or.inr rfl))
    (hd : (x == ("__debug__" : Str)) = false := by decide) (hcd : (x == ("__classdict__" : Str)) = false := by decide) : EvT A X (.Name x pos) t := fun G σ H C Q q => by
  obtain ⟨v, h1, h2⟩ := C.sl i t hΓ
  exact (pe_var hN hv hd hcd).s ⟨v, h1, q v H G t (Fr.refl C.gh) rfl h2⟩
theorem ev_int {i : Int} {j : Nat} : Ev A X (.Constant (.int i) j pos) (.int i) := fun G σ H C Q q => pe_int.s (q _ H G _ (Fr.refl C.gh) rfl (Da.int i))
theorem ev_bl {i : Bool} {j : Nat} : Ev A X (.Constant (.bool i) j pos) (.bool i) := fun G σ H C Q q => pe_bl.s (q _ H G _ (Fr.refl C.gh) rfl (Da.bl i))
theorem ev_non {j : Nat} : Ev A X (.Constant .none j pos) .none := fun G σ H C Q q => pe_non.s (q _ H G _ (Fr.refl C.gh) rfl Da.non)
theorem ev_str {i : Str} {j : Nat} : Ev A X (.Constant (.str i) j pos) (.str i) := fun G σ H C Q q => pe_str.s (q _ H G _ (Fr.refl C.gh) rfl (Da.str i))
theorem ev_gint {x : Str} {i : Int} {u : Value} (hg : Gl X x) (hm : X.mg x = some u) (r : RelV (.int i) u) (hd : (x == ("__debug__" : Str)) = false := by decide) : Ev A X (.Name x pos) (.int i) := fun G σ H C Q q => (pe_glob hg hm r hd).s (q _ H G _ (Fr.refl C.gh) rfl (Da.int i))

/-! ### two operands -/
/-- what an operation on values makes of two kinds -/
def Op2 (A : AS) (r : R2) (ta tb : Ty) (T : Ty → Prop) : Prop := ∀ G σ H x y, Cfg A G σ H → Ho G x ta → Ho G y tb → ∀ Q : VK, (∀ v H' G' t, Fr A.hd H G H' G' → T t → Ho G' v t → Q v H') → r x y H Q
theorem ep_2 {r : R2} {Ta Tb T : Ty → Prop} (hp : PE X e (tOp r (SE X a) (SE X b))) (ha : EvP A X a Ta) (hb : EvP A X b Tb) (hr : ∀ ta tb, Ta ta → Tb tb → Op2 A r ta tb T) : EvP A X e T := fun G σ H C Q q =>
  hp.s (show SE X a σ H fun x H1 => SE X b σ H1 fun y H2 => r x y H2 Q from ha G σ H C _ fun x H1 G1 ta F1 p1 h1 => hb G1 σ H1 (C.step F1) _ fun y H2 G2 tb F2 p2 h2 =>
    hr ta tb p1 p2 G2 σ H2 x y ((C.step F1).step F2) (h1.mono F2.gg) h2 Q fun v H' G' t F p h => q v H' G' t ((F1.trans F2).trans F) p h)
theorem ep_op {op : Operator} {r : R2} {Ta Tb T : Ty → Prop} (ho : OpR X (binaryOp op) r) (ha : EvP A X a Ta) (hb : EvP A X b Tb) (hr : ∀ ta tb, Ta ta → Tb tb → Op2 A r ta tb T) : EvP A X (.BinOp a op b pos) T :=
  ep_2 (pe_op ho pe_s pe_s) ha hb hr
theorem ev_op {op : Operator} {r : R2} {ta tb t : Ty} (ho : OpR X (binaryOp op) r) (ha : EvT A X a ta) (hb : EvT A X b tb) (hr : Op2 A r ta tb fun u => u = t) : EvT A X (.BinOp a op b pos) t :=
  ep_op ho ha hb fun _ _ e1 e2 => by
    subst e1 e2
    exact hr
theorem op2_I0 {g : Int → Int → V} {i j : Int} {d : PyData} (hg : ∀ G, Da G (g i j) d) : Op2 A (rI0 g) (.dat (.int i)) (.dat (.int j)) fun u => u = .dat d := fun G σ H x y C hx hy Q q =>
  ⟨i, j, Da.int_inv hx, Da.int_inv hy, q _ H G _ (Fr.refl C.gh) rfl (hg G)⟩
theorem op2_I {c : Int → Int → Prop} {g : Int → Int → V} {i j : Int} {d : PyData} (hc : c i j) (hg : ∀ G, Da G (g i j) d) : Op2 A (rI c g) (.dat (.int i)) (.dat (.int j)) fun u => u = .dat d := fun G σ H x y C hx hy Q q =>
  ⟨i, j, Da.int_inv hx, Da.int_inv hy, hc, q _ H G _ (Fr.refl C.gh) rfl (hg G)⟩
theorem ev_add {i j : Int} (ha : Ev A X a (.int i)) (hb : Ev A X b (.int j)) : Ev A X (.BinOp a .Add b pos) (.int (i + j)) := ev_op op_add ha hb (op2_I0 fun _ => .int _)
theorem ev_sub {i j : Int} (ha : Ev A X a (.int i)) (hb : Ev A X b (.int j)) : Ev A X (.BinOp a .Sub b pos) (.int (i - j)) := ev_op op_sub ha hb (op2_I0 fun _ => .int _)
theorem ev_mul {i j : Int} (ha : Ev A X a (.int i)) (hb : Ev A X b (.int j)) (h : CMul i j) : Ev A X (.BinOp a .Mult b pos) (.int (i * j)) := ev_op op_mul ha hb (op2_I h fun _ => .int _)
theorem ev_mod {i j : Int} (ha : Ev A X a (.int i)) (hb : Ev A X b (.int j)) (h : 0 < j) : Ev A X (.BinOp a .Mod b pos) (.int (i % j)) := ev_op op_mod ha hb (op2_I h fun _ => .int _)
theorem ev_fdiv {i j : Int} (ha : Ev A X a (.int i)) (hb : Ev A X b (.int j)) (h : CDiv i j) : Ev A X (.BinOp a .FloorDiv b pos) (.int (i / j)) := ev_op op_fdiv ha hb (op2_I h fun _ => .int _)
theorem ev_pow {i j : Int} (ha : Ev A X a (.int i)) (hb : Ev A X b (.int j)) (h : CPow i j) : Ev A X (.BinOp a .Pow b pos) (.int (i ^ j.toNat)) := ev_op op_pow ha hb (op2_I h fun _ => .int _)
/-- an int and an unknown one -/
theorem ep_addR {i : Int} {T : Int → Prop} (ha : Ev A X a (.int i)) (hb : EvP A X b fun t => ∃ j, T j ∧ t = .dat (.int j)) : EvP A X (.BinOp a .Add b pos) fun t => ∃ j, T j ∧ t = .dat (.int (i + j)) :=
  ep_op op_add ha hb fun ta tb e1 ⟨j, hj, e2⟩ G σ H x y C hx hy Q q => by
    subst e1 e2
    exact op2_I0 (d := .int (i + j)) (fun _ => .int _) G σ H x y C hx hy Q fun v H' G' t F e h => q v H' G' t F ⟨j, hj, e⟩ h

/-! ### lists and tuples joined -/
theorem ev_catT {ds es : List PyData} (ha : Ev A X a (.tuple ds)) (hb : Ev A X b (.tuple es)) (h : ds.length + es.length ≤ sizeLine) : Ev A X (.BinOp a .Add b pos) (.tuple (ds ++ es)) :=
  ev_op op_catA ha hb fun G σ H x y C hx hy Q q => by
    obtain ⟨a, xs, rfl, h1, h2⟩ := Da.tup_inv hx
    obtain ⟨a', xs', rfl, h1', h2'⟩ := Da.tup_inv hy
    refine ⟨a, a', xs, xs', rfl, rfl, SqT.of (C.gh _ _ h1), SqT.of (C.gh _ _ h1'), by rw [h2.length, h2'.length]; exact h, fun e => ?_, fun _ e => ?_, fun _ _ p hp => ?_⟩
    · subst e
      cases h2
      exact q _ H G _ (Fr.refl C.gh) rfl hy
    · subst e
      cases h2'
      rw [List.append_nil] at q
      exact q _ H G _ (Fr.refl C.gh) rfl hx
    · have F := (Fr.refl (hd := A.hd) C.gh).new (o := .tup (xs ++ xs')) hp
      exact q _ _ _ _ F rfl (.tup upd_same ((h2.append h2').mono F.gg))
theorem ev_catL {ds es : List PyData} (ha : Ev A X a (.list ds)) (hb : Ev A X b (.list es)) (h : ds.length + es.length ≤ sizeLine) : Ev A X (.BinOp a .Add b pos) (.list (ds ++ es)) :=
  ev_op op_cat ha hb fun G σ H x y C hx hy Q q => by
    obtain ⟨a, xs, rfl, h1, h2⟩ := Da.lst_inv hx
    obtain ⟨a', xs', rfl, h1', h2'⟩ := Da.lst_inv hy
    refine ⟨a, a', xs, xs', rfl, rfl, C.gh _ _ h1, C.gh _ _ h1', by rw [h2.length, h2'.length]; exact h, fun p hp => ?_⟩
    have F := (Fr.refl (hd := A.hd) C.gh).new (o := .lst (xs ++ xs')) hp
    exact q _ _ _ _ F rfl (.lst upd_same ((h2.append h2').mono F.gg))

/-! ### comparisons -/
theorem ep_cmp {op : CmpOp} {r : R2} {Ta Tb T : Ty → Prop} (ho : OpR X (compareOp op) r) (ha : EvP A X a Ta) (hb : EvP A X b Tb) (hm : behindInMarks op b = false) (hr : ∀ ta tb, Ta ta → Tb tb → Op2 A r ta tb T) : EvP A X (.Compare a [op] [b] pos) T :=
  ep_2 (pe_cmpR ho pe_s pe_s hm) ha hb hr
theorem tp_cmp {op : CmpOp} {r : R2} {Ta Tb : Ty → Prop} {B : Bool → Prop} (ho : OpR X (compareOp op) r) (ha : EvP A X a Ta) (hb : EvP A X b Tb) (hm : behindInMarks op b = false) (hr : ∀ ta tb, Ta ta → Tb tb → Op2 A r ta tb fun t => ∃ k, B k ∧ t = .dat (.bool k)) :
    TvP A X (.Compare a [op] [b] pos) B := fun G σ H C Q q =>
  (pt_cmpR ho pe_s pe_s hm).s (show SE X a σ H fun x H1 => SE X b σ H1 fun y H2 => r x y H2 fun z H3 => ∃ k, z = .bl k ∧ Q k H3 from ha G σ H C _ fun x H1 G1 ta F1 p1 h1 => hb G1 σ H1 (C.step F1) _ fun y H2 G2 tb F2 p2 h2 =>
    hr ta tb p1 p2 G2 σ H2 x y ((C.step F1).step F2) (h1.mono F2.gg) h2 _ fun v H' G' t F ⟨k, hk, e⟩ h => by
      subst e
      exact ⟨k, Da.bl_inv h, q k H' G' ((F1.trans F2).trans F) hk⟩)
theorem ev_cmp {op : CmpOp} {r : R2} {ta tb : Ty} {k : Bool} (ho : OpR X (compareOp op) r) (ha : EvT A X a ta) (hb : EvT A X b tb) (hr : Op2 A r ta tb fun u => u = .dat (.bool k)) (hm : behindInMarks op b = false := by exact nomark _) : Ev A X (.Compare a [op] [b] pos) (.bool k) :=
  ep_cmp ho ha hb hm fun _ _ e1 e2 => by
    subst e1 e2
    exact hr
theorem tv_cmp {op : CmpOp} {r : R2} {ta tb : Ty} {k : Bool} (ho : OpR X (compareOp op) r) (ha : EvT A X a ta) (hb : EvT A X b tb) (hr : Op2 A r ta tb fun u => u = .dat (.bool k)) (hm : behindInMarks op b = false := by exact nomark _) : Tv A X (.Compare a [op] [b] pos) k :=
  tp_cmp ho ha hb hm fun _ _ e1 e2 G σ H x y C hx hy Q q => by
    subst e1 e2
    exact hr G σ H x y C hx hy Q fun v H' G' t F e h => q v H' G' t F ⟨k, rfl, e⟩ h
theorem op2_bl {g : Int → Int → Bool} {i j : Int} : Op2 A (rI0 fun i j => .bl (g i j)) (.dat (.int i)) (.dat (.int j)) fun u => u = .dat (.bool (g i j)) := op2_I0 fun _ => .bl _
theorem op2_eq {i j : Int} : Op2 A rEq (.dat (.int i)) (.dat (.int j)) fun u => u = .dat (.bool (decide (i = j))) := fun G σ H x y C hx hy Q q => by
  rw [Da.int_inv hx, Da.int_inv hy]
  refine ⟨rfl, q _ H G _ (Fr.refl C.gh) rfl ?_⟩
  have e : decide (V.int i = V.int j) = decide (i = j) := by
    by_cases h : i = j
    · simp [h]
    · simp [h]
  rw [e]
  exact .bl _
theorem op2_ne {i j : Int} : Op2 A rNe (.dat (.int i)) (.dat (.int j)) fun u => u = .dat (.bool (!decide (i = j))) := fun G σ H x y C hx hy Q q => by
  rw [Da.int_inv hx, Da.int_inv hy]
  refine ⟨rfl, q _ H G _ (Fr.refl C.gh) rfl ?_⟩
  have e : decide (V.int i = V.int j) = decide (i = j) := by
    by_cases h : i = j
    · simp [h]
    · simp [h]
  rw [e]
  exact .bl _
theorem tv_lt {i j : Int} (ha : Ev A X a (.int i)) (hb : Ev A X b (.int j)) : Tv A X (.Compare a [.Lt] [b] pos) (decide (i < j)) := tv_cmp op_lt ha hb op2_bl
theorem tv_gt {i j : Int} (ha : Ev A X a (.int i)) (hb : Ev A X b (.int j)) : Tv A X (.Compare a [.Gt] [b] pos) (decide (j < i)) := tv_cmp op_gt ha hb op2_bl
theorem tv_ge {i j : Int} (ha : Ev A X a (.int i)) (hb : Ev A X b (.int j)) : Tv A X (.Compare a [.GtE] [b] pos) (decide (j ≤ i)) := tv_cmp op_ge ha hb op2_bl
theorem ev_le {i j : Int} (ha : Ev A X a (.int i)) (hb : Ev A X b (.int j)) : Ev A X (.Compare a [.LtE] [b] pos) (.bool (decide (i ≤ j))) := ev_cmp op_le ha hb op2_bl
theorem tv_eq {i j : Int} (ha : Ev A X a (.int i)) (hb : Ev A X b (.int j)) : Tv A X (.Compare a [.Eq] [b] pos) (decide (i = j)) := tv_cmp op_eq ha hb op2_eq
theorem tv_ne {i j : Int} (ha : Ev A X a (.int i)) (hb : Ev A X b (.int j)) : Tv A X (.Compare a [.NotEq] [b] pos) (!decide (i = j)) := tv_cmp op_ne ha hb op2_ne
/-- an unknown int == a known one -/
theorem tp_eqL {j : Int} {T : Int → Prop} (ha : EvP A X a fun t => ∃ i, T i ∧ t = .dat (.int i)) (hb : Ev A X b (.int j)) : TvP A X (.Compare a [.Eq] [b] pos) fun _ => True :=
  tp_cmp op_eq ha hb (nomark _) fun ta tb ⟨i, hi, e1⟩ e2 G σ H x y C hx hy Q q => by
    subst e1 e2
    exact op2_eq G σ H x y C hx hy Q fun v H' G' t F e h => q v H' G' t F ⟨_, trivial, e⟩ h
/-- data at any depth -/
theorem op2_eqD {d e : PyData} (h1 : SeqAt.shaped d = true) (h2 : SeqAt.shaped e = true) : Op2 A (rEqD X.K) (.dat d) (.dat e) fun u => u = .dat (.bool (PyData.eqv d e)) := fun G σ H x y C hx hy Q q =>
  ⟨d, e, (Da.mono C.gh hx).dp, (Da.mono C.gh hy).dp, h1, h2, q _ H G _ (Fr.refl C.gh) rfl (.bl _)⟩
theorem op2_neD {d e : PyData} (h1 : SeqAt.shaped d = true) (h2 : SeqAt.shaped e = true) : Op2 A (rNeD X.K) (.dat d) (.dat e) fun u => u = .dat (.bool (!PyData.eqv d e)) := fun G σ H x y C hx hy Q q =>
  ⟨d, e, (Da.mono C.gh hx).dp, (Da.mono C.gh hy).dp, h1, h2, q _ H G _ (Fr.refl C.gh) rfl (.bl _)⟩
theorem tv_eqD {d e : PyData} (hu : X.A.units + 64 < cLine) (ha : Ev A X a d) (hb : Ev A X b e) (h1 : SeqAt.shaped d = true) (h2 : SeqAt.shaped e = true) : Tv A X (.Compare a [.Eq] [b] pos) (PyData.eqv d e) := tv_cmp (op_eqD hu) ha hb (op2_eqD h1 h2)
theorem ev_eqD {d e : PyData} (hu : X.A.units + 64 < cLine) (ha : Ev A X a d) (hb : Ev A X b e) (h1 : SeqAt.shaped d = true) (h2 : SeqAt.shaped e = true) : Ev A X (.Compare a [.Eq] [b] pos) (.bool (PyData.eqv d e)) := ev_cmp (op_eqD hu) ha hb (op2_eqD h1 h2)
theorem tv_neD {d e : PyData} (hu : X.A.units + 64 < cLine) (ha : Ev A X a d) (hb : Ev A X b e) (h1 : SeqAt.shaped d = true) (h2 : SeqAt.shaped e = true) : Tv A X (.Compare a [.NotEq] [b] pos) (!PyData.eqv d e) := tv_cmp (op_neD hu) ha hb (op2_neD h1 h2)
/-- texts, bools -/
theorem tv_eqS {i j : Str} (ha : Ev A X a (.str i)) (hb : Ev A X b (.str j)) : Tv A X (.Compare a [.Eq] [b] pos) (decide (V.str i = V.str j)) := tv_cmp op_eq ha hb fun G σ H x y C hx hy Q q => by
  rw [Da.str_inv hx, Da.str_inv hy]
  exact ⟨rfl, q _ H G _ (Fr.refl C.gh) rfl (.bl _)⟩
theorem ev_eqS {i j : Str} (ha : Ev A X a (.str i)) (hb : Ev A X b (.str j)) : Ev A X (.Compare a [.Eq] [b] pos) (.bool (decide (V.str i = V.str j))) := ev_cmp op_eq ha hb fun G σ H x y C hx hy Q q => by
  rw [Da.str_inv hx, Da.str_inv hy]
  exact ⟨rfl, q _ H G _ (Fr.refl C.gh) rfl (.bl _)⟩
theorem tv_neS {i j : Str} (ha : Ev A X a (.str i)) (hb : Ev A X b (.str j)) : Tv A X (.Compare a [.NotEq] [b] pos) (!decide (V.str i = V.str j)) := tv_cmp op_ne ha hb fun G σ H x y C hx hy Q q => by
  rw [Da.str_inv hx, Da.str_inv hy]
  exact ⟨rfl, q _ H G _ (Fr.refl C.gh) rfl (.bl _)⟩
theorem tv_neB {i j : Bool} (ha : Ev A X a (.bool i)) (hb : Ev A X b (.bool j)) : Tv A X (.Compare a [.NotEq] [b] pos) (!decide (V.bl i = V.bl j)) := tv_cmp op_ne ha hb fun G σ H x y C hx hy Q q => by
  rw [Da.bl_inv hx, Da.bl_inv hy]
  exact ⟨rfl, q _ H G _ (Fr.refl C.gh) rfl (.bl _)⟩
/-- is None, is not None of data -/
def isNone : PyData → Bool
  | .none => true
  | _ => false
theorem isNone_da {G : Hp} {v : V} {d : PyData} (h : Da G v d) : decide (v = .non) = isNone d := by
  cases h <;> simp [isNone]
theorem ev_isN {d : PyData} (ha : Ev A X a d) {j : Nat} {pos' : Pos} : Ev A X (.Compare a [.Is] [.Constant .none j pos'] pos) (.bool (isNone d)) := ev_cmp op_isN ha ev_non fun G σ H x y C hx hy Q q =>
  ⟨Da.non_inv hy, q _ H G _ (Fr.refl C.gh) rfl (by rw [isNone_da hx]; exact .bl _)⟩
theorem tv_notN {d : PyData} (ha : Ev A X a d) {j : Nat} {pos' : Pos} : Tv A X (.Compare a [.IsNot] [.Constant .none j pos'] pos) (!isNone d) := tv_cmp op_notN ha ev_non fun G σ H x y C hx hy Q q =>
  ⟨Da.non_inv hy, q _ H G _ (Fr.refl C.gh) rfl (by rw [isNone_da hx]; exact .bl _)⟩
theorem ev_notN {d : PyData} (ha : Ev A X a d) {j : Nat} {pos' : Pos} : Ev A X (.Compare a [.IsNot] [.Constant .none j pos'] pos) (.bool (!isNone d)) := ev_cmp op_notN ha ev_non fun G σ H x y C hx hy Q q =>
  ⟨Da.non_inv hy, q _ H G _ (Fr.refl C.gh) rfl (by rw [isNone_da hx]; exact .bl _)⟩

/-! ### tests -/
/-- a bool as a test -/
theorem tv_val {k : Bool} (h : Ev A X e (.bool k)) (he : ∀ whole, isTrue e X.env whole = (do let v ← whole; standAt e.pos; holding [v] (truthy v)) := by intro _; rfl) : Tv A X e k := fun G σ H C Q q =>
  (pt_val pe_s he).s (show SE X e σ H fun x H1 => ∃ c, x = .bl c ∧ Q c H1 from h G σ H C _ fun v H' G' t F p h => by
    subst p
    exact ⟨k, Da.bl_inv h, q k H' G' F rfl⟩)
/-- truth of a list or tuple -/
theorem tv_tru {ds : List PyData} (h : Ev A X e (.list ds)) (he : ∀ whole, isTrue e X.env whole = (do let v ← whole; standAt e.pos; holding [v] (truthy v)) := by intro _; rfl) : Tv A X e (!ds.isEmpty) := fun G σ H C Q q =>
  (pt_truth pe_s he).s (show SE X e σ H fun x H1 => ∃ k, TruV X.K x H1 k ∧ Q k H1 from h G σ H C _ fun v H' G' t F p h => by
    subst p
    obtain ⟨a, xs, rfl, h1, h2⟩ := Da.lst_inv h
    refine ⟨_, .inl ⟨xs, SqL.of (F.gh _ _ h1), rfl⟩, q _ H' G' F ?_⟩
    cases h2 <;> rfl)
theorem tv_truT {ds : List PyData} (h : Ev A X e (.tuple ds)) (he : ∀ whole, isTrue e X.env whole = (do let v ← whole; standAt e.pos; holding [v] (truthy v)) := by intro _; rfl) : Tv A X e (!ds.isEmpty) := fun G σ H C Q q =>
  (pt_truth pe_s he).s (show SE X e σ H fun x H1 => ∃ k, TruV X.K x H1 k ∧ Q k H1 from h G σ H C _ fun v H' G' t F p h => by
    subst p
    obtain ⟨a, xs, rfl, h1, h2⟩ := Da.tup_inv h
    refine ⟨_, .inr (.inl ⟨xs, SqT.of (F.gh _ _ h1), rfl⟩), q _ H' G' F ?_⟩
    cases h2 <;> rfl)
theorem tv_not {k : Bool} (h : Tv A X e k) : Tv A X (.UnaryOp .Not e pos) (!k) := fun G σ H C Q q =>
  (pt_not pt_s).s (show ST X e σ H fun c H1 => Q (!c) H1 from h G σ H C _ fun b H' G' F p => q _ H' G' F (by rw [p]))
/-- a or b, a and b as tests -/
theorem tv_or {k l : Bool} (ha : Tv A X a k) (hb : k = false → Tv A X b l) : Tv A X (.BoolOp .Or [a, b] pos) (k || l) := fun G σ H C Q q =>
  (PW.pt (pw_or pt_s (pw_or1 pt_s))).s (show ST X a σ H fun c H1 => if c = true then Q true H1 else ST X b σ H1 Q from ha G σ H C _ fun c H1 G1 F p => by
    subst p
    cases c with
    | true => exact q true H1 G1 F rfl
    | false => exact hb rfl G1 σ H1 (C.step F) Q fun c2 H2 G2 F2 p2 => q c2 H2 G2 (F.trans F2) (by rw [p2] <;> rfl))
theorem tv_or3 {k l m : Bool} (ha : Tv A X a k) (hb : k = false → Tv A X b l) (hc : k = false → l = false → Tv A X c m) : Tv A X (.BoolOp .Or [a, b, c] pos) (k || (l || m)) := fun G σ H C Q q =>
  (PW.pt (pw_or pt_s (pw_or pt_s (pw_or1 pt_s)))).s (show ST X a σ H fun x H1 => if x = true then Q true H1 else ST X b σ H1 fun y H2 => if y = true then Q true H2 else ST X c σ H2 Q from ha G σ H C _ fun x H1 G1 F p => by
    subst p
    cases x with
    | true => exact q true H1 G1 F rfl
    | false =>
      refine hb rfl G1 σ H1 (C.step F) _ fun c2 H2 G2 F2 p2 => ?_
      subst p2
      cases c2 with
      | true => exact q true H2 G2 (F.trans F2) rfl
      | false => exact hc rfl rfl G2 σ H2 ((C.step F).step F2) Q fun c3 H3 G3 F3 p3 => q c3 H3 G3 ((F.trans F2).trans F3) (by rw [p3] <;> rfl))
theorem tv_and {k l : Bool} (ha : Tv A X a k) (hb : k = true → Tv A X b l) : Tv A X (.BoolOp .And [a, b] pos) (k && l) := fun G σ H C Q q =>
  (PW.pt (pw_and pt_s (pw_and1 pt_s))).s (show ST X a σ H fun c H1 => if c = true then ST X b σ H1 Q else Q false H1 from ha G σ H C _ fun c H1 G1 F p => by
    subst p
    cases c with
    | false => exact q false H1 G1 F rfl
    | true => exact hb rfl G1 σ H1 (C.step F) Q fun c2 H2 G2 F2 p2 => q c2 H2 G2 (F.trans F2) (by rw [p2] <;> rfl))
/-- .. as values -/
theorem ev_or {k l : Bool} (ha : Ev A X a (.bool k)) (hb : k = false → Ev A X b (.bool l)) : Ev A X (.BoolOp .Or [a, b] pos) (.bool (k || l)) := fun G σ H C Q q =>
  (pe_or pe_s (pe_one pe_s)).s (show SE X a σ H fun x H1 => ∃ c, x = .bl c ∧ if c = true then Q (.bl true) H1 else SE X b σ H1 Q from ha G σ H C _ fun v H1 G1 t F p h => by
    subst p
    refine ⟨k, Da.bl_inv h, ?_⟩
    cases k with
    | true => exact q _ H1 G1 _ F rfl (.bl _)
    | false => exact hb rfl G1 σ H1 (C.step F) Q fun v2 H2 G2 t2 F2 p2 h2 => q v2 H2 G2 t2 (F.trans F2) (by rw [p2] <;> rfl) h2)
theorem ev_ifExp {k : Bool} {t : Ty} (hc : Tv A X c k) (ha : k = true → EvT A X a t) (hb : k = false → EvT A X b t) : EvT A X (.IfExp c a b pos) t := fun G σ H C Q q =>
  (pe_ifExp pt_s pe_s pe_s).s (show ST X c σ H fun x H1 => if x = true then SE X a σ H1 Q else SE X b σ H1 Q from hc G σ H C _ fun x H1 G1 F p => by
    subst p
    cases x with
    | true => exact ha rfl G1 σ H1 (C.step F) Q fun v2 H2 G2 t2 F2 p2 h2 => q v2 H2 G2 t2 (F.trans F2) p2 h2
    | false => exact hb rfl G1 σ H1 (C.step F) Q fun v2 H2 G2 t2 F2 p2 h2 => q v2 H2 G2 t2 (F.trans F2) p2 h2)
/-- the test unknown -/
theorem ep_ifExp {B : Bool → Prop} {T : Ty → Prop} (hc : TvP A X c B) (ha : EvP A X a T) (hb : EvP A X b T) : EvP A X (.IfExp c a b pos) T := fun G σ H C Q q =>
  (pe_ifExp pt_s pe_s pe_s).s (show ST X c σ H fun x H1 => if x = true then SE X a σ H1 Q else SE X b σ H1 Q from hc G σ H C _ fun x H1 G1 F p => by
    cases x with
    | true => exact ha G1 σ H1 (C.step F) Q fun v2 H2 G2 t2 F2 p2 h2 => q v2 H2 G2 t2 (F.trans F2) p2 h2
    | false => exact hb G1 σ H1 (C.step F) Q fun v2 H2 G2 t2 F2 p2 h2 => q v2 H2 G2 t2 (F.trans F2) p2 h2)

/-! ### argument lists, displays -/
theorem ea_nil : EvA A X [] fun ts => ts = [] := fun G σ H C Q q => pa_nil.s (q [] H G [] (Fr.refl C.gh) rfl .nil)
theorem ea_consP {T : Ty → Prop} {U : List Ty → Prop} (h : EvP A X e T) (hr : EvA A X es U) (hs : starEach (e :: es) X.env = (false, eval e X.env) :: starEach es X.env := by rfl) : EvA A X (e :: es) fun ts => ∃ t us, T t ∧ U us ∧ ts = t :: us := fun G σ H C Q q =>
  (pa_cons pe_s pa_s hs).s (show SE X e σ H fun x H1 => SA X es σ H1 fun xs H2 => Q (x :: xs) H2 from h G σ H C _ fun v H1 G1 t F1 p1 h1 => hr G1 σ H1 (C.step F1) _ fun vs H2 G2 ts F2 p2 h2 =>
    q (v :: vs) H2 G2 (t :: ts) (F1.trans F2) ⟨t, ts, p1, p2, rfl⟩ (.cons (h1.mono F2.gg) h2))
theorem ea_cons {t : Ty} {us : List Ty} (h : EvT A X e t) (hr : EvA A X es fun ts => ts = us) (hs : starEach (e :: es) X.env = (false, eval e X.env) :: starEach es X.env := by rfl) : EvA A X (e :: es) fun ts => ts = t :: us := fun G σ H C Q q =>
  ea_consP h hr hs G σ H C Q fun vs H' G' ts F ⟨t', us', e1, e2, e3⟩ h => q vs H' G' ts F (by rw [e3, e1, e2]) h
theorem hoAll_dat {G : Hp} : ∀ {vs : List V} {ds : List PyData}, HoAll G vs (ds.map Ty.dat) → DaAll G vs ds
  | _, [], .nil => .nil
  | _, d :: ds, .cons a t => .cons a (hoAll_dat t)
theorem ev_tup {ds : List PyData} (h : EvA A X es fun ts => ts = ds.map Ty.dat) (hl : ds.length ≤ sizeLine) {x1} : Ev A X (.Tuple es x1 pos) (.tuple ds) := fun G σ H C Q q =>
  (pe_tup pa_s).s (show SA X es σ H fun xs H1 => xs.length ≤ sizeLine ∧ ∀ p, H1 p = none → Q (.ref p) (upd H1 p (.tup xs)) from h G σ H C _ fun vs H1 G1 ts F p1 h1 => by
    subst p1
    have k := hoAll_dat h1
    refine ⟨by rw [k.length]; exact hl, fun p hp => ?_⟩
    have F2 := F.new (o := .tup vs) hp
    exact q _ _ _ _ F2 rfl (.tup upd_same (k.mono (same_new (F.gh.free hp)))))
theorem ev_lst {ds : List PyData} (h : EvA A X es fun ts => ts = ds.map Ty.dat) (hl : ds.length ≤ sizeLine) : Ev A X (.List es pos) (.list ds) := fun G σ H C Q q =>
  (pe_lst pa_s).s (show SA X es σ H fun xs H1 => xs.length ≤ sizeLine ∧ ∀ p, H1 p = none → Q (.ref p) (upd H1 p (.lst xs)) from h G σ H C _ fun vs H1 G1 ts F p1 h1 => by
    subst p1
    have k := hoAll_dat h1
    refine ⟨by rw [k.length]; exact hl, fun p hp => ?_⟩
    have F2 := F.new (o := .lst vs) hp
    exact q _ _ _ _ F2 rfl (.lst upd_same (k.mono (same_new (F.gh.free hp)))))
/-- a tuple whose items are not all known -/
theorem ep_tup {D : List PyData → Prop} (h : EvA A X es fun ts => ∃ ds, D ds ∧ ts = ds.map Ty.dat) (hl : ∀ ds, D ds → ds.length ≤ sizeLine) {x1} : EvP A X (.Tuple es x1 pos) fun t => ∃ ds, D ds ∧ t = .dat (.tuple ds) := fun G σ H C Q q =>
  (pe_tup pa_s).s (show SA X es σ H fun xs H1 => xs.length ≤ sizeLine ∧ ∀ p, H1 p = none → Q (.ref p) (upd H1 p (.tup xs)) from h G σ H C _ fun vs H1 G1 ts F ⟨ds, hD, p1⟩ h1 => by
    subst p1
    have k := hoAll_dat h1
    refine ⟨by rw [k.length]; exact hl ds hD, fun p hp => ?_⟩
    have F2 := F.new (o := .tup vs) hp
    exact q _ _ _ _ F2 ⟨ds, hD, rfl⟩ (.tup upd_same (k.mono (same_new (F.gh.free hp)))))

/-! ### subscripts -/
theorem ep_ix {r : R2} {Ta Tb T : Ty → Prop} (ho : IxR X r) (ha : EvP A X a Ta) (hb : EvP A X b Tb) (hs : PlainIx b) (hr : ∀ ta tb, Ta ta → Tb tb → Op2 A r ta tb T) : EvP A X (.Subscript a b pos) T :=
  ep_2 (pe_ix ho pe_s pe_s hs) ha hb hr
theorem op2_ixL {ds : List PyData} {i : Int} {d : PyData} (h : atI ds i = some d) : Op2 A (rIxL X.K) (.dat (.list ds)) (.dat (.int i)) fun u => u = .dat d := fun G σ H x y C hx hy Q q => by
  obtain ⟨a, xs, rfl, h1, h2⟩ := Da.lst_inv hx
  have e := Da.int_inv hy
  subst e
  obtain ⟨j, h3, h4⟩ := Option.bind_eq_some_iff.mp h
  obtain ⟨v, h5, h6⟩ := h2.get h4
  refine ⟨a, xs, i, v, rfl, rfl, SqL.of (C.gh _ _ h1), ?_, q _ H G _ (Fr.refl C.gh) rfl h6⟩
  unfold atI
  rw [h2.length, h3]
  exact h5
theorem op2_ixT {ds : List PyData} {i : Int} {d : PyData} (h : atI ds i = some d) : Op2 A (rIxT X.K) (.dat (.tuple ds)) (.dat (.int i)) fun u => u = .dat d := fun G σ H x y C hx hy Q q => by
  obtain ⟨a, xs, rfl, h1, h2⟩ := Da.tup_inv hx
  have e := Da.int_inv hy
  subst e
  obtain ⟨j, h3, h4⟩ := Option.bind_eq_some_iff.mp h
  obtain ⟨v, h5, h6⟩ := h2.get h4
  refine ⟨a, xs, i, v, rfl, rfl, SqT.of (C.gh _ _ h1), ?_, q _ H G _ (Fr.refl C.gh) rfl h6⟩
  unfold atI
  rw [h2.length, h3]
  exact h5
theorem ev_ixL {ds : List PyData} {i : Int} {d : PyData} (ha : Ev A X a (.list ds)) (hb : Ev A X b (.int i)) (h : atI ds i = some d) (hs : PlainIx b := by exact fun _ _ => rfl) : Ev A X (.Subscript a b pos) d :=
  ep_ix ix_list ha hb hs fun _ _ e1 e2 => by
    subst e1 e2
    exact op2_ixL h
theorem ev_ixT {ds : List PyData} {i : Int} {d : PyData} (ha : Ev A X a (.tuple ds)) (hb : Ev A X b (.int i)) (h : atI ds i = some d) (hs : PlainIx b := by exact fun _ _ => rfl) : Ev A X (.Subscript a b pos) d :=
  ep_ix ix_tup ha hb hs fun _ _ e1 e2 => by
    subst e1 e2
    exact op2_ixT h
/-- at an unknown place of a list -/
theorem ep_ixL {ds : List PyData} {T : Int → Prop} {D : PyData → Prop} (ha : Ev A X a (.list ds)) (hb : EvP A X b fun t => ∃ i, T i ∧ t = .dat (.int i)) (h : ∀ i, T i → ∃ d, atI ds i = some d ∧ D d) (hs : PlainIx b := by exact fun _ _ => rfl) : EvP A X (.Subscript a b pos) fun t => ∃ d, D d ∧ t = .dat d :=
  ep_ix ix_list ha hb hs fun ta tb e1 ⟨i, hi, e2⟩ G σ H x y C hx hy Q q => by
    subst e1 e2
    obtain ⟨d, h1, h2⟩ := h i hi
    exact op2_ixL h1 G σ H x y C hx hy Q fun v H' G' t F e k => q v H' G' t F ⟨d, h2, e⟩ k

/-! ### calls of built-ins -/
/-- what a call by values makes of known kinds -/
def Cl (A : AS) (r : List V → Hp → VK → Prop) (ts : List Ty) (t : Ty) : Prop := ∀ G σ H xs, Cfg A G σ H → HoAll G xs ts → ∀ Q : VK, (∀ v H' G', Fr A.hd H G H' G' → Ho G' v t → Q v H') → r xs H Q
theorem ev_callB {x : Str} {p : Pos} {id : String} {r : List V → Hp → VK → Prop} {ts : List Ty} {t : Ty} (hc : CallR X (.builtin id) r) (hg : Gl X x) (hm : X.mg x = none) (hv : bootBuiltins x = some (.builtin id)) (ha : EvA A X (e :: es) fun us => us = ts) (hr : Cl A r ts t)
    (hn : x ≠ "__name__" := by decide) (hdb : (x == ("__debug__" : Str)) = false := by decide) (he : starEach (e :: es) X.env = (false, eval e X.env) :: starEach es X.env := by rfl) (hpl : (backTo pos (starEach es X.env)).any (·.1) = false := by rfl) : EvT A X (.Call (.Name x p) (e :: es) [] pos) t := fun G σ H C Q q =>
  (pe_callB hc hg hm hv pa_s hn hdb he hpl).s (show SA X (e :: es) σ H fun vs H1 => r vs H1 Q from ha G σ H C _ fun vs H1 G1 us F p1 h1 => by
    subst p1
    exact hr G1 σ H1 vs (C.step F) h1 Q fun v H' G' F2 h2 => q v H' G' _ (F.trans F2) rfl h2)
theorem ev_callTy {x : Str} {p : Pos} {id : String} {r : List V → Hp → VK → Prop} {ts : List Ty} {t : Ty} (hc : CallR X (.type id) r) (hg : Gl X x) (hm : X.mg x = none) (hv : bootBuiltins x = some (.type id)) (ha : EvA A X (e :: es) fun us => us = ts) (hr : Cl A r ts t)
    (hn : x ≠ "__name__" := by decide) (hdb : (x == ("__debug__" : Str)) = false := by decide) (he : starEach (e :: es) X.env = (false, eval e X.env) :: starEach es X.env := by rfl) (hpl : (backTo pos (starEach es X.env)).any (·.1) = false := by rfl) : EvT A X (.Call (.Name x p) (e :: es) [] pos) t := fun G σ H C Q q =>
  (pe_callTy hc hg hm hv pa_s hn hdb he hpl).s (show SA X (e :: es) σ H fun vs H1 => r vs H1 Q from ha G σ H C _ fun vs H1 G1 us F p1 h1 => by
    subst p1
    exact hr G1 σ H1 vs (C.step F) h1 Q fun v H' G' F2 h2 => q v H' G' _ (F.trans F2) rfl h2)
theorem ho1 {G : Hp} {xs : List V} {t : Ty} (h : HoAll G xs [t]) : ∃ v, xs = [v] ∧ Ho G v t := by
  cases h with
  | cons a r =>
    cases r
    exact ⟨_, rfl, a⟩
theorem ho2 {G : Hp} {xs : List V} {t u : Ty} (h : HoAll G xs [t, u]) : ∃ v w, xs = [v, w] ∧ Ho G v t ∧ Ho G w u := by
  cases h with
  | cons a r =>
    cases r with
    | cons b r =>
      cases r
      exact ⟨_, _, rfl, a, b⟩
theorem cl_lenL {ds : List PyData} : Cl A (fun xs H Q => ∃ x n, xs = [x] ∧ LenV X.K x H n ∧ Q (.int n) H) [.dat (.list ds)] (.dat (.int (ds.length : Int))) := fun G σ H xs C h Q q => by
  obtain ⟨v, rfl, h1⟩ := ho1 h
  obtain ⟨a, xs, rfl, h2, h3⟩ := Da.lst_inv h1
  exact ⟨_, _, rfl, .inl ⟨xs, SqL.of (C.gh _ _ h2), rfl⟩, by rw [h3.length]; exact q _ H G (Fr.refl C.gh) (Da.int _)⟩
theorem cl_lenT {ds : List PyData} : Cl A (fun xs H Q => ∃ x n, xs = [x] ∧ LenV X.K x H n ∧ Q (.int n) H) [.dat (.tuple ds)] (.dat (.int (ds.length : Int))) := fun G σ H xs C h Q q => by
  obtain ⟨v, rfl, h1⟩ := ho1 h
  obtain ⟨a, xs, rfl, h2, h3⟩ := Da.tup_inv h1
  exact ⟨_, _, rfl, .inr ⟨xs, SqT.of (C.gh _ _ h2), rfl⟩, by rw [h3.length]; exact q _ H G (Fr.refl C.gh) (Da.int _)⟩
theorem cl_min {i j : Int} : Cl A (fun xs H Q => ∃ i j, xs = [.int i, .int j] ∧ Q (.int (if j < i then j else i)) H) [.dat (.int i), .dat (.int j)] (.dat (.int (if j < i then j else i))) := fun G σ H xs C h Q q => by
  obtain ⟨v, w, rfl, h1, h2⟩ := ho2 h
  exact ⟨i, j, by rw [Da.int_inv h1, Da.int_inv h2], q _ H G (Fr.refl C.gh) (Da.int _)⟩
theorem cl_abs {i : Int} : Cl A (fun xs H Q => ∃ i, xs = [.int i] ∧ Q (.int (if i < 0 then -i else i)) H) [.dat (.int i)] (.dat (.int (if i < 0 then -i else i))) := fun G σ H xs C h Q q => by
  obtain ⟨v, rfl, h1⟩ := ho1 h
  exact ⟨i, by rw [Da.int_inv h1], q _ H G (Fr.refl C.gh) (Da.int _)⟩
theorem cl_int {i : Int} : Cl A (fun xs H Q => (∃ i, xs = [.int i] ∧ Q (.int i) H) ∨ ∃ k, xs = [.bl k] ∧ Q (.int (if k then 1 else 0)) H) [.dat (.int i)] (.dat (.int i)) := fun G σ H xs C h Q q => by
  obtain ⟨v, rfl, h1⟩ := ho1 h
  exact .inl ⟨i, by rw [Da.int_inv h1], q _ H G (Fr.refl C.gh) (Da.int _)⟩
theorem cl_tupleL {ds : List PyData} : Cl A (fun xs H Q => ∃ p ys, xs = [.ref p] ∧ ((SqL X.K H p ys ∧ ∀ l, H l = none → Q (.ref l) (upd H l (.tup ys))) ∨ (SqT X.K H p ys ∧ Q (.ref p) H))) [.dat (.list ds)] (.dat (.tuple ds)) := fun G σ H xs C h Q q => by
  obtain ⟨v, rfl, h1⟩ := ho1 h
  obtain ⟨a, xs, rfl, h2, h3⟩ := Da.lst_inv h1
  refine ⟨_, _, rfl, .inl ⟨SqL.of (C.gh _ _ h2), fun l hl => ?_⟩⟩
  have F := (Fr.refl (hd := A.hd) C.gh).new (o := .tup xs) hl
  exact q _ _ _ F (Da.tup upd_same (h3.mono F.gg))
theorem cl_tupleT {ds : List PyData} : Cl A (fun xs H Q => ∃ p ys, xs = [.ref p] ∧ ((SqL X.K H p ys ∧ ∀ l, H l = none → Q (.ref l) (upd H l (.tup ys))) ∨ (SqT X.K H p ys ∧ Q (.ref p) H))) [.dat (.tuple ds)] (.dat (.tuple ds)) := fun G σ H xs C h Q q => by
  obtain ⟨v, rfl, h1⟩ := ho1 h
  obtain ⟨a, xs, rfl, h2, h3⟩ := Da.tup_inv h1
  exact ⟨_, _, rfl, .inr ⟨SqT.of (C.gh _ _ h2), q _ H G (Fr.refl C.gh) (Da.tup h2 h3)⟩⟩
theorem cl_listL {ds : List PyData} : Cl A (fun xs H Q => ∃ p ys, xs = [.ref p] ∧ (SqL X.K H p ys ∨ SqT X.K H p ys) ∧ ∀ l, H l = none → Q (.ref l) (upd H l (.lst ys))) [.dat (.list ds)] (.dat (.list ds)) := fun G σ H xs C h Q q => by
  obtain ⟨v, rfl, h1⟩ := ho1 h
  obtain ⟨a, xs, rfl, h2, h3⟩ := Da.lst_inv h1
  refine ⟨_, _, rfl, .inl (SqL.of (C.gh _ _ h2)), fun l hl => ?_⟩
  have F := (Fr.refl (hd := A.hd) C.gh).new (o := .lst xs) hl
  exact q _ _ _ F (Da.lst upd_same (h3.mono F.gg))
theorem cl_listT {ds : List PyData} : Cl A (fun xs H Q => ∃ p ys, xs = [.ref p] ∧ (SqL X.K H p ys ∨ SqT X.K H p ys) ∧ ∀ l, H l = none → Q (.ref l) (upd H l (.lst ys))) [.dat (.tuple ds)] (.dat (.list ds)) := fun G σ H xs C h Q q => by
  obtain ⟨v, rfl, h1⟩ := ho1 h
  obtain ⟨a, xs, rfl, h2, h3⟩ := Da.tup_inv h1
  refine ⟨_, _, rfl, .inr (SqT.of (C.gh _ _ h2)), fun l hl => ?_⟩
  have F := (Fr.refl (hd := A.hd) C.gh).new (o := .lst xs) hl
  exact q _ _ _ F (Da.lst upd_same (h3.mono F.gg))
/-- a local mutable list is read -/
theorem cl_listMu {p : Addr} {ds : List PyData} {k : Nat} (hk : A.Mu[k]? = some (p, .lst ds)) : Cl A (fun xs H Q => ∃ p ys, xs = [.ref p] ∧ (SqL X.K H p ys ∨ SqT X.K H p ys) ∧ ∀ l, H l = none → Q (.ref l) (upd H l (.lst ys))) [.adr p] (.dat (.list ds)) := fun G σ H xs C h Q q => by
  obtain ⟨v, rfl, h1⟩ := ho1 h
  have e : v = .ref p := h1
  subst e
  obtain ⟨_, _, vs, h2, h3⟩ := C.mu k p _ hk
  refine ⟨_, _, rfl, .inl (SqL.of h2), fun l hl => ?_⟩
  have F := (Fr.refl (hd := A.hd) C.gh).new (o := .lst vs) hl
  exact q _ _ _ F (Da.lst upd_same (h3.mono F.gg))
theorem cl_sumL {ns : List Int} : Cl A (rSum X.K) [.dat (.list (ns.map .int))] (.dat (.int ns.sum)) := fun G σ H xs C h Q q => by
  obtain ⟨v, rfl, h1⟩ := ho1 h
  obtain ⟨a, xs, rfl, h2, h3⟩ := Da.lst_inv h1
  have e := h3.ints
  subst e
  exact ⟨a, ns, rfl, SqL.of (C.gh _ _ h2), q _ H G (Fr.refl C.gh) (Da.int _)⟩

/-! ### a field of an object -/
theorem ev_fld {C₀ : Addr} {fs : List (Str × PyData)} {f : Str} {d : PyData} (ha : EvT A X a (.obj C₀ fs)) (hc : Cls X.K C₀) (hn : NoAttr X.K C₀ f) (hf : fs.lookup f = some d) (hb : attributeBase a f X.env (eval a X.env) = eval a X.env := by rfl) : Ev A X (.Attribute a f pos) d := fun G σ H C Q q =>
  (pe_fld pe_s hb).s (show SE X a σ H fun x H1 => ∃ a C dx fs v, x = .ref a ∧ H1 a = some (.ins C dx fs) ∧ Cls X.K C ∧ NoAttr X.K C f ∧ fs.lookup f = some v ∧ Q v H1 from ha G σ H C _ fun v H1 G1 t F p h => by
    subst p
    obtain ⟨a, dx, fsV, rfl, h1, h2⟩ := h
    obtain ⟨u, h3, h4⟩ := h2 f d hf
    exact ⟨a, C₀, dx, fsV, u, rfl, F.gh _ _ h1, hc, hn, h3, q u H1 G1 _ F rfl h4⟩)
end
end K82
/-! Rules of the logic: statements, loops, defs and their calls. -/
namespace K82
open PySem PySem.Spec PyProof.Rows L2

section
variable {B : Bs} {A : AS} {X : Cx} {a b c e : Expr} {es : List Expr} {pos : Pos} {st : Stmt} {rest body : List Stmt} {P : Po}

theorem sos_nil (h : P.nx A) : Sos B X [] A P := fun Z σ H S => pss_nil.s ⟨A, h, S⟩
theorem sos_cons (h : So B X st A { P with nx := fun A' => Sos B X rest A' P }) : Sos B X (st :: rest) A P := fun Z σ H S =>
  (pss_cons ps_s pss_s).s (show SS X st { P.ends B Z with nx := SSs X rest (P.ends B Z) } σ H from (h Z σ H S).mono (fun σ' H' ⟨A', k, S'⟩ => k Z σ' H' S') (fun _ _ q => q) (fun _ _ q => q) fun _ _ q => q)
theorem Sos.imp {P' : Po} (h : Sos B X rest A P) (h1 : ∀ A, P.nx A → P'.nx A) (h2 : ∀ t, P.rt t → P'.rt t) (h3 : ∀ A, P.bk A → P'.bk A) (h4 : ∀ A, P.ct A → P'.ct A) (h5 : ∀ A, P.ra A → P'.ra A) : Sos B X rest A P' := fun Z σ H S =>
  (h Z σ H S).mono (fun σ' H' ⟨A', k, S'⟩ => ⟨A', h1 A' k, S'⟩) (fun v H' ⟨G, t, k, f, r, A', ka, r'⟩ => ⟨G, t, h2 t k, f, r, A', h5 A' ka, r'⟩) (fun σ' H' ⟨A', k, S'⟩ => ⟨A', h3 A' k, S'⟩) fun σ' H' ⟨A', k, S'⟩ => ⟨A', h4 A' k, S'⟩
/-- the state may be told by less -/
theorem Sos.conv {A' : AS} (h : Sos B X rest A' P) (k : ∀ Z σ H, Sat B Z A σ H → Sat B Z A' σ H) : Sos B X rest A P := fun Z σ H S => h Z σ H (k Z σ H S)
theorem so_pass : P.nx A → So B X (.Pass pos) A P := fun h Z σ H S => ps_pass.s ⟨A, h, S⟩
theorem so_break (h : P.bk A) : So B X (.Break pos) A P := fun Z σ H S => ps_break.s ⟨A, h, S⟩

/-- name = value -/
theorem so_asg (i : Nat) {x : Str} {px : Pos} {T : Ty → Prop} (hNd : X.N.Nodup) (he : EvP A X e T) (k : ∀ t, T t → P.nx (A.put i t)) (hN : X.N[i]? = some x := by rfl) (hx : Loc X.env.scope x := by first | exact Or.inl rfl | exact Or.inr rfl)
    (hs : swapsWith e (some (.Name x px)) pos.line X.env = pure false := by rfl) (hf : X.fn x = true ∨ X.env.scope.names.lookup x = some .local := by first | exact .inl rfl | exact .inr rfl) : So B X (.Assign [.Name x px] e pos) A P := fun Z σ H ⟨h0, G, h1, h2, h3, h4⟩ =>
  (ps_set hNd hN hx pe_s hs hf).s (show SE X e σ H fun x H1 => (P.ends B Z).nx (σ.set i (some x)) H1 from he G σ H h3 _ fun v H' G' t F p h =>
    ⟨A.put i t, k t p, h0, G', h1.trans F.gg, h2.trans (h0 ▸ F), (h3.step F).put i h, h4⟩)
theorem so_ret {T : Ty → Prop} (he : EvP A X e T) (k : ∀ t, T t → P.rt t) (ka : P.ra A := by exact trivial) : So B X (.Return (some e) pos) A P := fun Z σ H ⟨h0, G, h1, h2, h3, h4⟩ =>
  (ps_ret pe_s).s (show SE X e σ H (P.ends B Z).rt from he G σ H h3 _ fun v H' G' t F p h => ⟨G', t, k t p, h2.trans (h0 ▸ F), h, A, ka, fun j l m q => let ⟨f0, _, f2⟩ := (h3.step F).mu j l m q; ⟨f0, f2⟩⟩)
theorem so_if {Bp : Bool → Prop} {x y : List Stmt} (hc : TvP A X c Bp) (h1 : Bp true → Sos B X x A P) (h2 : Bp false → Sos B X y A P) : So B X (.If c x y pos) A P := fun Z σ H ⟨h0, G, g1, g2, g3, g4⟩ =>
  (ps_if pt_s pss_s pss_s).s (show ST X c σ H fun b H1 => if b = true then SSs X x (P.ends B Z) σ H1 else SSs X y (P.ends B Z) σ H1 from hc G σ H g3 _ fun b H' G' F p => by
    have S : Sat B Z A σ H' := Sat.go h0 g1 g2 g3 g4 F
    cases b with
    | true => exact h1 p Z σ H' S
    | false => exact h2 p Z σ H' S)
/-- .. where it is known what comes -/
theorem so_set (i : Nat) {x : Str} {px : Pos} {t : Ty} (hNd : X.N.Nodup) (he : EvT A X e t) (k : P.nx (A.put i t)) (hN : X.N[i]? = some x := by rfl) (hx : Loc X.env.scope x := by first | exact Or.inl rfl | exact Or.inr rfl)
    (hs : swapsWith e (some (.Name x px)) pos.line X.env = pure false := by rfl) (hf : X.fn x = true ∨ X.env.scope.names.lookup x = some .local := by first | exact .inl rfl | exact .inr rfl) : So B X (.Assign [.Name x px] e pos) A P := so_asg i hNd he (fun _ e => by rw [e]; exact k) hN hx hs hf
theorem so_retE {t : Ty} (he : EvT A X e t) (k : P.rt t) (ka : P.ra A := by exact trivial) : So B X (.Return (some e) pos) A P := so_ret he (fun _ e => by rw [e]; exact k) ka
theorem so_ifE {k : Bool} {x y : List Stmt} (hc : Tv A X c k) (h1 : k = true → Sos B X x A P) (h2 : k = false → Sos B X y A P) : So B X (.If c x y pos) A P := so_if hc (fun e => h1 e.symm) fun e => h2 e.symm
/-- a raise that is never come to -/
theorem so_never (h : False) : So B X st A P := h.elim
/-- an own object is changed -/
theorem Cfg.mutate {G H : Hp} {σ : L2.St} {k : Nat} {l : Addr} {m m' : MTy} {o : HO} (C : Cfg A G σ H) (hk : A.Mu[k]? = some (l, m)) (hm : Mo G (upd H l o) l m') : Cfg { A with Mu := A.Mu.set k (l, m') } G σ (upd H l o) := by
  obtain ⟨g0, g1, _⟩ := C.mu k l m hk
  have kl : k < A.Mu.length := (List.getElem?_eq_some_iff.mp hk).1
  have look : ∀ (j : Nat) l' (n : MTy), (A.Mu.set k (l, m'))[j]? = some (l', n) → (j = k ∧ l' = l ∧ n = m') ∨ (j ≠ k ∧ A.Mu[j]? = some (l', n)) := fun j l' n q => by
    by_cases hj : k = j
    · subst hj
      rw [List.getElem?_set_self kl] at q
      cases q
      exact .inl ⟨rfl, rfl, rfl⟩
    · rw [List.getElem?_set_ne hj] at q
      exact .inr ⟨fun e => hj e.symm, q⟩
  refine ⟨fun b u e => ?_, fun p e => ?_, C.len, C.sl, fun j l' n q => ?_, fun i j l' n n' q1 q2 => ?_⟩
  · rw [upd_ne (fun z => by rw [z, g0] at e; cases e)]
    exact C.gh b u e
  · obtain ⟨h1, h2⟩ := C.hand p e
    refine ⟨h1.mono (Same.refl _) fun u r => ?_, h2⟩
    rw [upd_ne (fun z => g1 (by rw [e, z]))]
    exact r
  · rcases look j l' n q with ⟨rfl, rfl, rfl⟩ | ⟨hj, qq⟩
    · exact ⟨g0, g1, hm⟩
    · obtain ⟨f0, f1, f2⟩ := C.mu j l' n qq
      have ne : l' ≠ l := fun z => by
        subst z
        exact hj (C.nd j k l' n m qq hk)
      exact ⟨f0, f1, f2.step (Same.refl _) fun u r => by rw [upd_ne ne]; exact r⟩
  · rcases look i l' n q1 with ⟨rfl, e1, e2⟩ | ⟨hi, p1⟩
    · rcases look j l' n' q2 with ⟨rfl, _, _⟩ | ⟨hj, p2⟩
      · rfl
      · subst e1
        exact absurd (C.nd j i l' n' m p2 hk) hj
    · rcases look j l' n' q2 with ⟨rfl, e1, _⟩ | ⟨hj, p2⟩
      · subst e1
        exact absurd (C.nd i j l' n m p1 hk) hi
      · exact C.nd i j l' n n' p1 p2
/-- a new own object -/
theorem Cfg.own {G H : Hp} {σ : L2.St} {l : Addr} {m : MTy} {o : HO} (C : Cfg A G σ H) (hl : H l = none) (hm : Mo G (upd H l o) l m) : Cfg { A with Mu := (l, m) :: A.Mu } G σ (upd H l o) := by
  have gl : G l = none := C.gh.free hl
  refine ⟨C.gh.trans (same_new hl), fun p e => ?_, C.len, C.sl, fun j l' n q => ?_, fun i j l' n n' q1 q2 => ?_⟩
  · obtain ⟨h1, h2⟩ := C.hand p e
    exact ⟨h1.mono (Same.refl _) fun u r => same_new hl _ _ r, h2⟩
  · cases j with
    | zero =>
      have q : some (l, m) = some (l', n) := q
      cases q
      refine ⟨gl, fun e => ?_, hm⟩
      obtain ⟨⟨_, _, _, _, _, _, h1, _⟩, _⟩ := C.hand l e
      rw [hl] at h1
      cases h1
    | succ j =>
      have q : A.Mu[j]? = some (l', n) := q
      obtain ⟨f0, f1, f2⟩ := C.mu j l' n q
      exact ⟨f0, f1, f2.step (Same.refl _) fun u r => same_new hl _ _ r⟩
  · have no : ∀ (j : Nat) (n : MTy), A.Mu[j]? = some (l, n) → False := fun j n q => by
      obtain ⟨_, _, f2⟩ := C.mu j l n q
      obtain ⟨o, h, _⟩ := f2.there
      rw [hl] at h
      cases h
    cases i with
    | zero =>
      have q1 : some (l, m) = some (l', n) := q1
      cases q1
      cases j with
      | zero => rfl
      | succ j => exact (no j n' q2).elim
    | succ i =>
      have q1 : A.Mu[i]? = some (l', n) := q1
      cases j with
      | zero =>
        have q2 : some (l, m) = some (l', n') := q2
        cases q2
        exact (no i n q1).elim
      | succ j => exact congrArg _ (C.nd i j l' n n' q1 q2)
/-- name = a new own object, by its reading -/
theorem so_own (i : Nat) {x : Str} {px : Pos} {m : MTy} (hNd : X.N.Nodup) (he : ∀ G σ H, Cfg A G σ H → ∀ Q : VK, (∀ v H1 G1 l o, Fr A.hd H G H1 G1 → H1 l = none → v = .ref l → Mo G1 (upd H1 l o) l m → Q v (upd H1 l o)) → SE X e σ H Q)
    (k : ∀ l, P.nx { hd := A.hd, Γ := A.Γ.set i (some (.adr l)), Mu := (l, m) :: A.Mu }) (hN : X.N[i]? = some x := by rfl) (hx : Loc X.env.scope x := by first | exact Or.inl rfl | exact Or.inr rfl)
    (hs : swapsWith e (some (.Name x px)) pos.line X.env = pure false := by rfl) (hf : X.fn x = true ∨ X.env.scope.names.lookup x = some .local := by first | exact .inl rfl | exact .inr rfl) : So B X (.Assign [.Name x px] e pos) A P := fun Z σ H ⟨h0, G, h1, h2, h3, h4⟩ =>
  (ps_set hNd hN hx pe_s hs hf).s (show SE X e σ H fun x H1 => (P.ends B Z).nx (σ.set i (some x)) H1 from he G σ H h3 _ fun v H1 G1 l o F hl ev hm => by
    subst ev
    have F2 : Fr B.hd B.H B.G H1 G1 := h2.trans (h0 ▸ F)
    have C2 := ((h3.step F).own hl hm).put (t := .adr l) (v := .ref l) i rfl
    refine ⟨_, k l, h0, G1, h1.trans F.gg, F2.newT hl, C2, fun j l' n q => ?_⟩
    cases j with
    | zero =>
      have q : some (l, m) = some (l', n) := q
      cases q
      cases z : B.H l with
      | none => rfl
      | some u =>
        obtain ⟨o', h', _⟩ := F2.ex l u z
        rw [hl] at h'
        cases h'
    | succ j => exact h4 j l' n q)
/-- name = [] -/
theorem so_newL (i : Nat) {x : Str} {px : Pos} (hNd : X.N.Nodup) (k : ∀ l, P.nx { hd := A.hd, Γ := A.Γ.set i (some (.adr l)), Mu := (l, .lst []) :: A.Mu }) (hN : X.N[i]? = some x := by rfl) (hx : Loc X.env.scope x := by first | exact Or.inl rfl | exact Or.inr rfl)
    (hs : swapsWith (.List [] pos) (some (.Name x px)) pos.line X.env = pure false := by rfl) (hf : X.fn x = true ∨ X.env.scope.names.lookup x = some .local := by first | exact .inl rfl | exact .inr rfl) {pos' : Pos} (hs' : swapsWith (.List [] pos') (some (.Name x px)) pos.line X.env = pure false := by rfl) : So B X (.Assign [.Name x px] (.List [] pos') pos) A P :=
  so_own (m := .lst []) i hNd (fun G σ H C Q q => (pe_lst pa_nil).s ⟨Nat.zero_le _, fun p hp => q _ H G p _ (Fr.refl C.gh) hp rfl ⟨[], upd_same, .nil⟩⟩) k hN hx hs' hf
/-- name = {} -/
theorem so_newD (i : Nat) {x : Str} {px : Pos} (hNd : X.N.Nodup) {pos' : Pos} (k : ∀ l, P.nx { hd := A.hd, Γ := A.Γ.set i (some (.adr l)), Mu := (l, .dict []) :: A.Mu }) (hN : X.N[i]? = some x := by rfl) (hx : Loc X.env.scope x := by first | exact Or.inl rfl | exact Or.inr rfl)
    (hf : X.fn x = true ∨ X.env.scope.names.lookup x = some .local := by first | exact .inl rfl | exact .inr rfl) (hs' : swapsWith (.Dict [] [] pos') (some (.Name x px)) pos.line X.env = pure false := by rfl) : So B X (.Assign [.Name x px] (.Dict [] [] pos') pos) A P :=
  so_own (m := .dict []) i hNd (fun G σ H C Q q => pe_dnewT.s fun p hp => q _ H G p (.dT []) (Fr.refl C.gh) hp rfl (show upd H p (.dT []) p = some (.dT []) from upd_same)) k hN hx hs' hf
/-- xs.append(e) -/
theorem so_app (i k : Nat) {x : Str} {l : Addr} {ds : List PyData} {D : PyData → Prop} {px apos cpos : Pos} (hk : A.Mu[k]? = some (l, .lst ds)) (hl : ds.length < 100000) (he : EvP A X e fun t => ∃ d, D d ∧ t = .dat d) (h : ∀ d, D d → P.nx { A with Mu := A.Mu.set k (l, .lst (ds ++ [d])) })
    (hΓ : A.Γ[i]? = some (some (.adr l)) := by rfl) (hN : X.N[i]? = some x := by rfl) (hv : Vis X.env.scope x := by first | exact Or.inl rfl | exact Or.inr (Or.inl rfl) | exact Or.inr (Or.inr rfl))
    (hd : (x == ("__debug__" : Str)) = false := by decide) (hcd : (x == ("__classdict__" : Str)) = false := by decide)
    (hbase : attributeBase (.Name x px) ("append" : Str) X.env (eval (.Name x px) X.env) = eval (.Name x px) X.env := by rfl)
    (hfew : ((backTo cpos (starEach [e] X.env)).all (fun x => !x.1) && (backToKw cpos (keywordEach [] X.env)).all (fun x => x.1.isSome) && decide ([e].length + ([] : List Keyword).length + (if ([] : List Keyword).isEmpty then 0 else 1) < 30)) = true := by rfl)
    (hline : (apos.endLine == cpos.line) = true := by rfl) (hst : starEach [e] X.env = (false, eval e X.env) :: starEach [] X.env := by rfl) (hplain : (backTo cpos (starEach [] X.env)).any (·.1) = false := by rfl)
    (hsw : swapsWith (.Call (.Attribute (.Name x px) ("append" : Str) apos) [e] [] cpos) none pos.line X.env = pure false := by rfl) :
    So B X (.Expr (.Call (.Attribute (.Name x px) ("append" : Str) apos) [e] [] cpos) pos) A P := fun Z σ H ⟨h0, G, h1, h2, h3, h4⟩ => by
  refine (ps_expr (pe_bm PySem.F.plainAttrs_list PySem.F.slot_list_append PySem.F.type_list_append mt_append (pe_var hN hv hd hcd) (pa_cons pe_s pa_nil hst) hbase hfew hline hst hplain) hsw).s ?_
  obtain ⟨v, e1, e2⟩ := h3.sl i _ hΓ
  have e2 : v = .ref l := e2
  subst e2
  obtain ⟨g0, g1, vs, g2, g3⟩ := h3.mu k l _ hk
  show ∃ v, σ[i]? = some (some v) ∧ tyV X.K "list" v H ∧ SE X e σ H fun x H1 => rAppend v [x] H1 fun _ H2 => (P.ends B Z).nx σ H2
  refine ⟨.ref l, e1, .inl ⟨rfl, _, SqL.of g2⟩, he G σ H h3 _ fun w H1 G1 t F ⟨d, hD, p⟩ hw => ?_⟩
  subst p
  have g4 := F.keep l _ g1 g2
  refine ⟨l, vs, w, rfl, rfl, g4, Nat.lt_of_lt_of_le (by rw [g3.length]; exact hl) (by decide), ?_⟩
  have gl : G1 l = none := F.fr l _ g2 g0 rfl
  have F2 : Fr B.hd B.H B.G H1 G1 := h2.trans (h0 ▸ F)
  refine ⟨_, h d hD, h0, G1, h1.trans F.gg, F2.mut (h4 k l _ hk) gl (by rw [← h0]; exact g1), (h3.step F).mutate hk ⟨vs ++ [w], upd_same, (g3.mono F.gg).append (.cons hw .nil)⟩, fun j l' n q => ?_⟩
  have q : (A.Mu.set k (l, MTy.lst (ds ++ [d])))[j]? = some (l', n) := q
  by_cases hj : k = j
  · subst hj
    rw [List.getElem?_set_self (List.getElem?_eq_some_iff.mp hk).1] at q
    cases q
    exact h4 k l _ hk
  · rw [List.getElem?_set_ne hj] at q
    exact h4 j l' n q
/-- .. of a known thing -/
theorem so_appE (i k : Nat) {x : Str} {l : Addr} {ds ds' : List PyData} {d : PyData} {px apos cpos : Pos} (hk : A.Mu[k]? = some (l, .lst ds)) (hl : ds.length < 100000) (he : Ev A X e d) (hds : ds ++ [d] = ds') (h : P.nx { A with Mu := A.Mu.set k (l, .lst ds') })
    (hΓ : A.Γ[i]? = some (some (.adr l)) := by rfl) (hN : X.N[i]? = some x := by rfl) (hv : Vis X.env.scope x := by first | exact Or.inl rfl | exact Or.inr (Or.inl rfl) | exact Or.inr (Or.inr rfl))
    (hd : (x == ("__debug__" : Str)) = false := by decide) (hcd : (x == ("__classdict__" : Str)) = false := by decide)
    (hbase : attributeBase (.Name x px) ("append" : Str) X.env (eval (.Name x px) X.env) = eval (.Name x px) X.env := by rfl)
    (hfew : ((backTo cpos (starEach [e] X.env)).all (fun x => !x.1) && (backToKw cpos (keywordEach [] X.env)).all (fun x => x.1.isSome) && decide ([e].length + ([] : List Keyword).length + (if ([] : List Keyword).isEmpty then 0 else 1) < 30)) = true := by rfl)
    (hline : (apos.endLine == cpos.line) = true := by rfl) (hst : starEach [e] X.env = (false, eval e X.env) :: starEach [] X.env := by rfl) (hplain : (backTo cpos (starEach [] X.env)).any (·.1) = false := by rfl)
    (hsw : swapsWith (.Call (.Attribute (.Name x px) ("append" : Str) apos) [e] [] cpos) none pos.line X.env = pure false := by rfl) :
    So B X (.Expr (.Call (.Attribute (.Name x px) ("append" : Str) apos) [e] [] cpos) pos) A P :=
  so_app (D := fun d' => d' = d) i k hk hl (EvP.imp he fun t e => ⟨_, rfl, e⟩) (fun d' e => by rw [e, hds]; exact h) hΓ hN hv hd hcd hbase hfew hline hst hplain hsw
/-- a local list is not changed any more: it is known data from here on -/
theorem sos_freeze (i k : Nat) {l : Addr} {ds : List PyData} (hk : A.Mu[k]? = some (l, .lst ds)) (hΓ : A.Γ[i]? = some (some (.adr l))) (h : Sos B X rest { hd := A.hd, Γ := A.Γ.set i (some (.dat (.list ds))), Mu := A.Mu.eraseIdx k } P) : Sos B X rest A P := h.conv fun Z σ H ⟨h0, G, h1, h2, h3, h4⟩ => by
  obtain ⟨g0, g1, vs, g2, g3⟩ := h3.mu k l _ hk
  have hB := h4 k l _ hk
  have F := (h2.give hB g0 g2)
  have gg : Same G (upd G l (.lst vs)) := same_new g0
  obtain ⟨v, e1, e2⟩ := h3.sl i _ hΓ
  have e2 : v = .ref l := e2
  subst e2
  have er : ∀ (j : Nat) l' (n : MTy), (A.Mu.eraseIdx k)[j]? = some (l', n) → ∃ j', j' ≠ k ∧ A.Mu[j']? = some (l', n) ∧ j' = if j < k then j else j + 1 := fun j l' n q => by
    rw [List.getElem?_eraseIdx] at q
    by_cases hj : j < k
    · rw [if_pos hj] at q
      exact ⟨j, by omega, q, by rw [if_pos hj]⟩
    · rw [if_neg hj] at q
      exact ⟨j + 1, by omega, q, by rw [if_neg hj]⟩
  have e3 : σ.set i (some (.ref l)) = σ := by
    refine List.ext_getElem? fun j => ?_
    by_cases hj : i = j
    · subst hj
      rw [List.getElem?_set_self (List.getElem?_eq_some_iff.mp e1).1]
      exact e1.symm
    · rw [List.getElem?_set_ne hj]
  have C2 : Cfg { A with Mu := A.Mu.eraseIdx k } (upd G l (.lst vs)) σ H := by
    refine ⟨F.gh, fun p e => ?_, h3.len, fun j u q => ?_, fun j l' n q => ?_, fun a b l' n n' q1 q2 => ?_⟩
    · obtain ⟨f1, f2⟩ := h3.hand p e
      refine ⟨f1.mono gg fun _ r => r, ?_⟩
      rw [upd_ne (fun z => g1 (by rw [← z]; exact e))]
      exact f2
    · obtain ⟨w, w1, w2⟩ := h3.sl j u q
      exact ⟨w, w1, w2.mono gg⟩
    · obtain ⟨j', hj, q', _⟩ := er j l' n q
      obtain ⟨f0, f1, f2⟩ := h3.mu j' l' n q'
      have ne : l' ≠ l := fun z => by
        subst z
        exact hj (h3.nd j' k l' n _ q' hk)
      exact ⟨by rw [upd_ne ne]; exact f0, f1, f2.step gg fun _ r => r⟩
    · obtain ⟨a', ha, q1', ea⟩ := er a l' n q1
      obtain ⟨b', hb, q2', eb⟩ := er b l' n' q2
      have z := h3.nd a' b' l' n n' q1' q2'
      rw [ea, eb] at z
      by_cases x1 : a < k
      · by_cases x2 : b < k
        · rw [if_pos x1, if_pos x2] at z
          exact z
        · rw [if_pos x1, if_neg x2] at z
          omega
      · by_cases x2 : b < k
        · rw [if_neg x1, if_pos x2] at z
          omega
        · rw [if_neg x1, if_neg x2] at z
          omega
  have C3 := C2.put (t := .dat (.list ds)) (v := .ref l) i (Da.lst upd_same (g3.mono gg))
  rw [e3] at C3
  exact ⟨h0, _, h1.trans gg, F, C3, fun j l' n q => by
    obtain ⟨j', _, q', _⟩ := er j l' n q
    exact h4 j' l' n q'⟩
/-- x += e, x -= e of ints -/
theorem so_augAdd (i : Nat) {x : Str} {px : Pos} {n m : Int} (hNd : X.N.Nodup) (he : Ev A X e (.int m)) (k : P.nx (A.put i (.dat (.int (n + m))))) (hΓ : A.Γ[i]? = some (some (.dat (.int n))) := by rfl) (hN : X.N[i]? = some x := by rfl) (hx : Loc X.env.scope x := by first | exact Or.inl rfl | exact Or.inr rfl)
    (hf : X.fn x = true ∨ X.env.scope.names.lookup x = some .local := by first | exact .inl rfl | exact .inr rfl) : So B X (.AugAssign (.Name x px) .Add e pos) A P := fun Z σ H ⟨h0, G, h1, h2, h3, h4⟩ => by
  refine (ps_aug hNd hN hx pe_s ip_add hf).s ?_
  obtain ⟨v, e1, e2⟩ := h3.sl i _ hΓ
  have e2 := Da.int_inv e2
  subst e2
  refine ⟨_, e1, he G σ H h3 _ fun w H1 G1 t F p hw => ?_⟩
  subst p
  have hw := Da.int_inv hw
  subst hw
  exact ⟨n, m, rfl, rfl, _, k, h0, G1, h1.trans F.gg, h2.trans (h0 ▸ F), (h3.step F).put i (Da.int _), h4⟩
theorem so_augSub (i : Nat) {x : Str} {px : Pos} {n m : Int} (hNd : X.N.Nodup) (he : Ev A X e (.int m)) (k : P.nx (A.put i (.dat (.int (n - m))))) (hΓ : A.Γ[i]? = some (some (.dat (.int n))) := by rfl) (hN : X.N[i]? = some x := by rfl) (hx : Loc X.env.scope x := by first | exact Or.inl rfl | exact Or.inr rfl)
    (hf : X.fn x = true ∨ X.env.scope.names.lookup x = some .local := by first | exact .inl rfl | exact .inr rfl) : So B X (.AugAssign (.Name x px) .Sub e pos) A P := fun Z σ H ⟨h0, G, h1, h2, h3, h4⟩ => by
  refine (ps_aug hNd hN hx pe_s ip_sub hf).s ?_
  obtain ⟨v, e1, e2⟩ := h3.sl i _ hΓ
  have e2 := Da.int_inv e2
  subst e2
  refine ⟨_, e1, he G σ H h3 _ fun w H1 G1 t F p hw => ?_⟩
  subst p
  have hw := Da.int_inv hw
  subst hw
  exact ⟨n, m, rfl, rfl, _, k, h0, G1, h1.trans F.gg, h2.trans (h0 ▸ F), (h3.step F).put i (Da.int _), h4⟩
/-- a, b = e1, e2 of local names -/
theorem so_par (i j : Nat) {x y : Str} {px py pt : Pos} {kt k2 : Nat} {pt2 : Pos} {T : List Ty → Prop} (hNd : X.N.Nodup) (ha : EvA A X [a, b] T) (k : ∀ t u, T [t, u] → P.nx ((A.put i t).put j u)) (hlen : ∀ ts, T ts → ts.length = 2)
    (hi : X.N[i]? = some x := by rfl) (hj : X.N[j]? = some y := by rfl) (hij : i ≠ j := by decide) (hx : X.env.scope.names.lookup x = some .local := by rfl) (hy : X.env.scope.names.lookup y = some .local := by rfl) (hc : X.calm = true := by rfl)
    (hw : swappedStores [.Tuple [.Name x px, .Name y py] kt pt] (.Tuple [a, b] k2 pt2) X.env = pure (some [x, y]) := by rfl)
    (hs : swapsWithSole [.Tuple [.Name x px, .Name y py] kt pt] (.Tuple [a, b] k2 pt2) pos.line X.env = pure false := by rfl) : So B X (.Assign [.Tuple [.Name x px, .Name y py] kt pt] (.Tuple [a, b] k2 pt2) pos) A P := fun Z σ H ⟨h0, G, h1, h2, h3, h4⟩ => by
  refine (ps_par hc hNd hi hj hij hx hy pa_s hw hs).s (show SA X [a, b] σ H fun vs H1 => ∃ v w, vs = [v, w] ∧ (P.ends B Z).nx ((σ.set i (some v)).set j (some w)) H1 from ha G σ H h3 _ fun vs H1 G1 ts F p hv => ?_)
  obtain ⟨t, u, rfl⟩ : ∃ t u, ts = [t, u] := by
    match ts, hlen ts p with
    | [t, u], _ => exact ⟨t, u, rfl⟩
  obtain ⟨v, w, rfl, f1, f2⟩ := ho2 hv
  exact ⟨v, w, rfl, _, k t u p, h0, G1, h1.trans F.gg, h2.trans (h0 ▸ F), ((h3.step F).put i f1).put j f2, h4⟩
theorem ho3 {G : Hp} {xs : List V} {t u r : Ty} (h : HoAll G xs [t, u, r]) : ∃ v w z, xs = [v, w, z] ∧ Ho G v t ∧ Ho G w u ∧ Ho G z r := by
  cases h with
  | cons a r =>
    cases r with
    | cons b r =>
      cases r with
      | cons c r =>
        cases r
        exact ⟨_, _, _, rfl, a, b, c⟩
theorem so_par3 (i j l : Nat) {x y z : Str} {px py pz pt : Pos} {kt k2 : Nat} {pt2 : Pos} {t u r : Ty} (hNd : X.N.Nodup) (ha : EvA A X [a, b, c] fun ts => ts = [t, u, r]) (k : P.nx (((A.put i t).put j u).put l r))
    (hi : X.N[i]? = some x := by rfl) (hj : X.N[j]? = some y := by rfl) (hl : X.N[l]? = some z := by rfl) (hij : i ≠ j := by decide) (hil : i ≠ l := by decide) (hjl : j ≠ l := by decide)
    (hx : X.env.scope.names.lookup x = some .local := by rfl) (hy : X.env.scope.names.lookup y = some .local := by rfl) (hz : X.env.scope.names.lookup z = some .local := by rfl) (hc : X.calm = true := by rfl)
    (hw : swappedStores [.Tuple [.Name x px, .Name y py, .Name z pz] kt pt] (.Tuple [a, b, c] k2 pt2) X.env = pure (some [x, y, z]) := by rfl)
    (hs : swapsWithSole [.Tuple [.Name x px, .Name y py, .Name z pz] kt pt] (.Tuple [a, b, c] k2 pt2) pos.line X.env = pure false := by rfl) : So B X (.Assign [.Tuple [.Name x px, .Name y py, .Name z pz] kt pt] (.Tuple [a, b, c] k2 pt2) pos) A P := fun Z σ H ⟨h0, G, h1, h2, h3, h4⟩ => by
  refine (ps_par3 hc hNd hi hj hl hij hil hjl hx hy hz pa_s hw hs).s (show SA X [a, b, c] σ H fun vs H1 => ∃ u v w, vs = [u, v, w] ∧ (P.ends B Z).nx (((σ.set i (some u)).set j (some v)).set l (some w)) H1 from ha G σ H h3 _ fun vs H1 G1 ts F p hv => ?_)
  subst p
  obtain ⟨v, w, z, rfl, f1, f2, f3⟩ := ho3 hv
  exact ⟨v, w, z, rfl, _, k, h0, G1, h1.trans F.gg, h2.trans (h0 ▸ F), (((h3.step F).put i f1).put j f2).put l f3, h4⟩
/-- a, b = a tuple of two -/
theorem so_unpack2 (i j : Nat) {x y : Str} {px py pt : Pos} {kt : Nat} {D : PyData → PyData → Prop} (hNd : X.N.Nodup) (he : EvP A X e fun t => ∃ d d', D d d' ∧ t = .dat (.tuple [d, d'])) (k : ∀ d d', D d d' → P.nx ((A.put i (.dat d)).put j (.dat d')))
    (hi : X.N[i]? = some x := by rfl) (hj : X.N[j]? = some y := by rfl) (hx : Loc X.env.scope x := by first | exact Or.inl rfl | exact Or.inr rfl) (hy : Loc X.env.scope y := by first | exact Or.inl rfl | exact Or.inr rfl)
    (hfx : X.fn x = true ∨ X.env.scope.names.lookup x = some .local := by first | exact .inl rfl | exact .inr rfl) (hfy : X.fn y = true ∨ X.env.scope.names.lookup y = some .local := by first | exact .inl rfl | exact .inr rfl) (hc : X.calm = true := by rfl)
    (hn : (assignEach [.Name x px, .Name y py] X.env).length = 2 := by rfl) (hst : (assignEach [.Name x px, .Name y py] X.env).findIdx? (·.1) = none := by rfl)
    (hs1 : (assignEach [.Name x px, .Name y py] X.env).map (·.2) = assign (.Name x px) X.env :: (assignEach [.Name y py] X.env).map (·.2) := by rfl) (hs2 : (assignEach [.Name y py] X.env).map (·.2) = assign (.Name y py) X.env :: (assignEach [] X.env).map (·.2) := by rfl)
    (hs : swapsWithSole [.Tuple [.Name x px, .Name y py] kt pt] e pos.line X.env = pure false := by rfl) (hw : swappedStores [.Tuple [.Name x px, .Name y py] kt pt] e X.env = pure none := by rfl)
    (h1 : (assignEach [.Tuple [.Name x px, .Name y py] kt pt] X.env).map (·.2) = [assign (.Tuple [.Name x px, .Name y py] kt pt) X.env] := by rfl) : So B X (.Assign [.Tuple [.Name x px, .Name y py] kt pt] e pos) A P := fun Z σ H ⟨h0, G, g1, h2, h3, h4⟩ => by
  refine (ps_asg pe_s (pg_tup hc (pgs_cons (pg_name hNd hi hx hfx) (pgs_cons (pg_name hNd hj hy hfy) pgs_nil hs2) hs1) hn hst) hs hw h1).s ?_
  show SE X e σ H fun x H1 => gTup X.K 2 (gCons (gName i) (gCons (gName j) gNil)) x σ H1 (P.ends B Z).nx
  refine he G σ H h3 _ fun v H1 G1 t F ⟨d, d', hD, p⟩ hv => ?_
  subst p
  obtain ⟨q, xs, rfl, f1, f2⟩ := Da.tup_inv hv
  cases f2 with
  | cons f3 f4 =>
    cases f4 with
    | cons f5 f6 =>
      cases f6
      exact ⟨q, _, rfl, SqT.of (F.gh _ _ f1), rfl, _, _, rfl, _, _, rfl, rfl, _, k d d' hD, h0, G1, g1.trans F.gg, h2.trans (h0 ▸ F), ((h3.step F).put (t := .dat d) i f3).put (t := .dat d') j f5, h4⟩

/-! ### loops -/
theorem so_while {x : Expr} (I : Nat → AS → Prop) (m0 : Nat) (h0 : I m0 A) (hs : ∀ m A', I m A' → ∃ b, Tv A' X x b ∧ (b = true → Sos B X body A' { P with nx := fun A2 => ∃ m', m' < m ∧ I m' A2, ct := fun A2 => ∃ m', m' < m ∧ I m' A2, bk := P.nx }) ∧ (b = false → P.nx A'))
    (hp : PassesOwn (model X.prog X.w) X.A X.env X.xe := by exact PassesOwn.never) : So B X (.While x body [] pos) A P := fun Z σ H S => by
  refine (ps_while hp pt_s pss_s).s ⟨fun m σ H => ∃ A', I m A' ∧ Sat B Z A' σ H, ⟨m0, A, h0, S⟩, fun m σ1 H1 ⟨A', hI, S1⟩ => ?_⟩
  obtain ⟨b, h1, h2, h3⟩ := hs m A' hI
  obtain ⟨g0, G, g1, g2, g3, g4⟩ := id S1
  refine h1 G σ1 H1 g3 _ fun b' H' G' F p => ?_
  subst p
  have S2 : Sat B Z A' σ1 H' := Sat.go g0 g1 g2 g3 g4 F
  cases b' with
  | true =>
    refine ⟨fun σ H => ∃ A2, (∃ m', m' < m ∧ I m' A2) ∧ Sat B Z A2 σ H, fun σ' H' ⟨A2, ⟨m', q1, q2⟩, q3⟩ => ⟨m', q1, A2, q2, q3⟩, ?_⟩
    exact (h2 rfl Z σ1 H' S2).mono (fun _ _ q => q) (fun _ _ q => q) (fun _ _ q => q) fun _ _ q => q
  | false => exact ⟨A', h3 rfl, S2⟩
theorem for_read {tb : TS} {J : It} {n : Nat} {Gw : Hp → Prop} {Y : Nat → Hp → V → Hp → Prop} {g : TG} {D : Ends} (w : Walk J n Gw Y) (I : Nat → AS → Prop) {G1 : Hp} {σ : L2.St} {H : Hp} (h0 : I 0 A) (S : Sat B G1 A σ H) (hG : ∀ H2, Same G1 H2 → Gw H2)
    (hs : ∀ i x A2 σ2 H2 H3, i < n → I i A2 → Sat B G1 A2 σ2 H2 → Y i H2 x H3 → g x σ2 H3 fun σ3 H4 => tb { D with nx := fun σ H => ∃ A3, I (i + 1) A3 ∧ Sat B G1 A3 σ H, ct := fun σ H => ∃ A3, I (i + 1) A3 ∧ Sat B G1 A3 σ H, bk := D.nx } σ3 H4)
    (hd : ∀ A2 σ2 H2, I n A2 → Sat B G1 A2 σ2 H2 → D.nx σ2 H2) :
    ∃ W : Nat → Nat → L2.St → Hp → Prop, (∃ m, W 0 m σ H) ∧ ∀ i m σ H, W i m σ H →
      (J.stop i H ∧ D.nx σ H) ∨ (J.go i H ∧ ∃ N : L2.St → Hp → Prop, (∀ σ' H', N σ' H' → ∃ m', m' < m ∧ W (i + 1) m' σ' H') ∧ ∀ x H', J.yld i H x H' → g x σ H' fun σ2 H2 => tb { D with nx := N, ct := N, bk := D.nx } σ2 H2) :=
  for_it w (fun i σ H => ∃ A2, I i A2 ∧ Sat B G1 A2 σ H) ⟨A, h0, S⟩ (fun i σ2 H2 _ ⟨A2, _, S2⟩ => hG H2 (by
    obtain ⟨_, G', g1, _, g3, _⟩ := S2
    exact g1.trans g3.gh)) (fun i x σ2 H2 H3 hi ⟨A2, hI, S2⟩ y => hs i x A2 σ2 H2 H3 hi hI S2 y) fun σ2 H2 ⟨A2, hI, S2⟩ => hd A2 σ2 H2 hI S2
theorem body_run {Z G1 : Hp} {σ : L2.St} {H : Hp} {J : AS → Prop} (h : Sos B X body A { P with nx := J, ct := J, bk := P.nx }) (S : Sat B G1 A σ H) (z : Same Z G1) :
    SSs X body { P.ends B Z with nx := fun σ H => ∃ A3, J A3 ∧ Sat B G1 A3 σ H, ct := fun σ H => ∃ A3, J A3 ∧ Sat B G1 A3 σ H, bk := (P.ends B Z).nx } σ H :=
  (h G1 σ H S).mono (fun _ _ q => q) (fun _ _ q => q) (fun σ' H' ⟨A3, q1, q2⟩ => ⟨A3, q1, q2.weak z⟩) fun _ _ q => q
theorem Sat.put {Z : Hp} {σ : L2.St} {H : Hp} {v : V} {t : Ty} (S : Sat B Z A σ H) (i : Nat) (h : ∀ G, Same Z G → Ho G v t) : Sat B Z (A.put i t) (σ.set i (some v)) H := by
  obtain ⟨h0, G, h1, h2, h3, h4⟩ := S
  exact ⟨h0, G, h1, h2, h3.put i (h G h1), h4⟩
/-- for x in a list -/
theorem so_forL (j : Nat) {x : Str} {px : Pos} {it : Expr} {ds : List PyData} (hNd : X.N.Nodup) (hit : Ev A X it (.list ds)) (I : Nat → AS → Prop) (h0 : I 0 A)
    (hs : ∀ i A' d, ds[i]? = some d → I i A' → Sos B X body (A'.put j (.dat d)) { P with nx := I (i + 1), ct := I (i + 1), bk := P.nx }) (hd : ∀ A', I ds.length A' → P.nx A')
    (hN : X.N[j]? = some x := by rfl) (hx : Loc X.env.scope x := by first | exact Or.inl rfl | exact Or.inr rfl) (hf : X.fn x = true ∨ X.env.scope.names.lookup x = some .local := by first | exact .inl rfl | exact .inr rfl) (hc : X.calm = true := by rfl)
    (hp : PassesOwn (model X.prog X.w) X.A X.env X.xe := by exact PassesOwn.never) (hfs : ∀ x, foldedSetIterable it X.env x = pure x := by intro _; rfl) : So B X (.For (.Name x px) it body [] pos) A P := fun Z σ H ⟨k0, G, k1, k2, k3, k4⟩ => by
  refine (ps_for hp hc (pi_list pe_s) (pg_name hNd hN hx hf) pss_s hfs).s (show SE X it σ H fun x H1 => _ from hit G σ H k3 _ fun v H1 G1 t F p hv => ?_)
  subst p
  obtain ⟨a, xs, rfl, f1, f2⟩ := Da.lst_inv hv
  have S : Sat B G1 A σ H1 := ⟨k0, G1, Same.refl _, k2.trans (k0 ▸ F), k3.step F, k4⟩
  have z : Same Z G1 := k1.trans F.gg
  refine ⟨a, rfl, ⟨xs, SqL.of (F.gh _ _ f1)⟩, for_read (G1 := G1) (walk_list (xs := xs)) I h0 S (fun H2 e => SqL.of (e _ _ f1)) (fun i x A2 σ2 H2 H3 hi hI S2 y => ?_) fun A2 σ2 H2 hI S2 => ?_⟩
  · obtain ⟨rfl, y⟩ := y
    obtain ⟨d, e1, e2⟩ := f2.get' y
    exact body_run (hs i A2 d e1 hI) (S2.put j fun G e => Da.mono e e2) z
  · rw [f2.length] at hI
    exact ⟨A2, hd A2 hI, S2.weak z⟩
/-- for x in a tuple -/
theorem so_forT (j : Nat) {x : Str} {px : Pos} {it : Expr} {ds : List PyData} (hNd : X.N.Nodup) (hit : Ev A X it (.tuple ds)) (I : Nat → AS → Prop) (h0 : I 0 A)
    (hs : ∀ i A' d, ds[i]? = some d → I i A' → Sos B X body (A'.put j (.dat d)) { P with nx := I (i + 1), ct := I (i + 1), bk := P.nx }) (hd : ∀ A', I ds.length A' → P.nx A')
    (hN : X.N[j]? = some x := by rfl) (hx : Loc X.env.scope x := by first | exact Or.inl rfl | exact Or.inr rfl) (hf : X.fn x = true ∨ X.env.scope.names.lookup x = some .local := by first | exact .inl rfl | exact .inr rfl) (hc : X.calm = true := by rfl)
    (hp : PassesOwn (model X.prog X.w) X.A X.env X.xe := by exact PassesOwn.never) (hfs : ∀ x, foldedSetIterable it X.env x = pure x := by intro _; rfl) : So B X (.For (.Name x px) it body [] pos) A P := fun Z σ H ⟨k0, G, k1, k2, k3, k4⟩ => by
  refine (ps_for hp hc (pi_tup pe_s) (pg_name hNd hN hx hf) pss_s hfs).s (show SE X it σ H fun x H1 => _ from hit G σ H k3 _ fun v H1 G1 t F p hv => ?_)
  subst p
  obtain ⟨a, xs, rfl, f1, f2⟩ := Da.tup_inv hv
  have S : Sat B G1 A σ H1 := ⟨k0, G1, Same.refl _, k2.trans (k0 ▸ F), k3.step F, k4⟩
  have z : Same Z G1 := k1.trans F.gg
  refine ⟨a, rfl, ⟨xs, SqT.of (F.gh _ _ f1)⟩, for_read (G1 := G1) (walk_tup (xs := xs)) I h0 S (fun H2 e => SqT.of (e _ _ f1)) (fun i x A2 σ2 H2 H3 hi hI S2 y => ?_) fun A2 σ2 H2 hI S2 => ?_⟩
  · obtain ⟨rfl, y⟩ := y
    obtain ⟨d, e1, e2⟩ := f2.get' y
    exact body_run (hs i A2 d e1 hI) (S2.put j fun G e => Da.mono e e2) z
  · rw [f2.length] at hI
    exact ⟨A2, hd A2 hI, S2.weak z⟩
/-- for x in range(n) -/
theorem so_forR (j : Nat) {x : Str} {px pr : Pos} {n : Int} {pos1 : Pos} (hNd : X.N.Nodup) (hg : Gl X "range") (hm : X.mg "range" = none) (hit : Ev A X a (.int n)) (hn : n < 2 ^ 62 ∧ -(2 ^ 62) ≤ n) (I : Nat → AS → Prop) (h0 : I 0 A)
    (hs : ∀ (i : Nat) A', (i : Int) < n → I i A' → Sos B X body (A'.put j (.dat (.int (i : Int)))) { P with nx := I (i + 1), ct := I (i + 1), bk := P.nx }) (hd : ∀ A', I n.toNat A' → P.nx A')
    (hN : X.N[j]? = some x := by rfl) (hx : Loc X.env.scope x := by first | exact Or.inl rfl | exact Or.inr rfl) (hf : X.fn x = true ∨ X.env.scope.names.lookup x = some .local := by first | exact .inl rfl | exact .inr rfl) (hc : X.calm = true := by rfl)
    (hp : PassesOwn (model X.prog X.w) X.A X.env X.xe := by exact PassesOwn.never) (hst : starEach [a] X.env = (false, eval a X.env) :: starEach [] X.env := by rfl) (hst1 : starEach [a] X.env = [(false, eval a X.env)] := by rfl) (hfs : ∀ x, foldedSetIterable (.Call (.Name "range" pr) [a] [] pos1) X.env x = pure x := by intro _; rfl) :
    So B X (.For (.Name x px) (.Call (.Name "range" pr) [a] [] pos1) body [] pos) A P := fun Z σ H ⟨k0, G, k1, k2, k3, k4⟩ => by
  refine (ps_for hp hc (pi_range1 hg hm (pa_cons pe_s pa_nil hst) hst1) (pg_name hNd hN hx hf) pss_s hfs).s ?_
  show SE X a σ H fun x H1 => ∃ j : Int, [x] = [.int j] ∧ _
  refine hit G σ H k3 _ fun v H1 G1 t F p hv => ?_
  subst p
  have hv := Da.int_inv hv
  subst hv
  have S : Sat B G1 A σ H1 := ⟨k0, G1, Same.refl _, k2.trans (k0 ▸ F), k3.step F, k4⟩
  have z : Same Z G1 := k1.trans F.gg
  refine ⟨n, rfl, hn.2, hn.1, for_read (G1 := G1) (walk_range (lo := 0) (n := n.toNat)) I h0 S (fun H2 e => trivial) (fun i x A2 σ2 H2 H3 hi hI S2 y => ?_) fun A2 σ2 H2 hI S2 => ?_⟩
  · obtain ⟨rfl, rfl⟩ := y
    have q := body_run (hs i A2 (by omega) hI) (S2.put (v := .int (i : Int)) j fun G e => Da.int _) z
    show gName j (.int (0 + (i : Int))) σ2 _ _
    rw [Int.zero_add]
    exact q
  · exact ⟨A2, hd A2 hI, S2.weak z⟩
/-- for x in range(lo, n) -/
theorem so_forR2 (j : Nat) {x : Str} {px pr : Pos} {lo n : Int} {pos1 : Pos} (hNd : X.N.Nodup) (hg : Gl X "range") (hm : X.mg "range" = none) (hlo : Ev A X a (.int lo)) (hit : Ev A X b (.int n)) (hn : (-(2 ^ 62) ≤ lo ∧ lo < 2 ^ 62) ∧ -(2 ^ 62) ≤ n ∧ n < 2 ^ 62) (I : Nat → AS → Prop) (h0 : I 0 A)
    (hs : ∀ (i : Nat) A', lo + (i : Int) < n → I i A' → Sos B X body (A'.put j (.dat (.int (lo + (i : Int))))) { P with nx := I (i + 1), ct := I (i + 1), bk := P.nx }) (hd : ∀ A', I (n - lo).toNat A' → P.nx A')
    (hN : X.N[j]? = some x := by rfl) (hx : Loc X.env.scope x := by first | exact Or.inl rfl | exact Or.inr rfl) (hf : X.fn x = true ∨ X.env.scope.names.lookup x = some .local := by first | exact .inl rfl | exact .inr rfl) (hc : X.calm = true := by rfl)
    (hp : PassesOwn (model X.prog X.w) X.A X.env X.xe := by exact PassesOwn.never) (hst : starEach [a, b] X.env = (false, eval a X.env) :: starEach [b] X.env := by rfl) (hst2 : starEach [b] X.env = (false, eval b X.env) :: starEach [] X.env := by rfl) (hst1 : starEach [a, b] X.env = [(false, eval a X.env), (false, eval b X.env)] := by rfl) (hst3 : starEach [b] X.env = [(false, eval b X.env)] := by rfl)
    (hfs : ∀ x, foldedSetIterable (.Call (.Name "range" pr) [a, b] [] pos1) X.env x = pure x := by intro _; rfl) :
    So B X (.For (.Name x px) (.Call (.Name "range" pr) [a, b] [] pos1) body [] pos) A P := fun Z σ H ⟨k0, G, k1, k2, k3, k4⟩ => by
  refine (ps_for hp hc (pi_range2 hg hm (pa_cons pe_s (pa_cons pe_s pa_nil hst2) hst) hst1 hst3) (pg_name hNd hN hx hf) pss_s hfs).s ?_
  show SE X a σ H fun x H1 => SE X b σ H1 fun y H2 => ∃ i j : Int, [x, y] = [.int i, .int j] ∧ _
  refine hlo G σ H k3 _ fun v0 H0 G0 t0 F0 p0 hv0 => ?_
  subst p0
  have hv0 := Da.int_inv hv0
  subst hv0
  refine hit G0 σ H0 (k3.step F0) _ fun v H1 G1 t F1 p hv => ?_
  subst p
  have hv := Da.int_inv hv
  subst hv
  have F := F0.trans F1
  have S : Sat B G1 A σ H1 := ⟨k0, G1, Same.refl _, k2.trans (k0 ▸ F), k3.step F, k4⟩
  have z : Same Z G1 := k1.trans F.gg
  refine ⟨lo, n, rfl, ⟨hn.1.1, hn.1.2, hn.2.1, hn.2.2⟩, for_read (G1 := G1) (walk_range (lo := lo) (n := (n - lo).toNat)) I h0 S (fun H2 e => trivial) (fun i x A2 σ2 H2 H3 hi hI S2 y => ?_) fun A2 σ2 H2 hI S2 => ?_⟩
  · obtain ⟨rfl, rfl⟩ := y
    exact body_run (hs i A2 (by omega) hI) (S2.put (v := .int (lo + (i : Int))) j fun G e => Da.int _) z
  · exact ⟨A2, hd A2 hI, S2.weak z⟩
/-- try: body except ..: .. where nothing is raised -/
theorem so_try {h₀ : ExceptHandler} {hs : List ExceptHandler} (h : Sos B X.nox body A P) : So B X (.Try body (h₀ :: hs) [] [] pos) A P := fun Z σ H S =>
  (ps_try_thru0 (t := SSs X.nox body) pss_s).s (h Z σ H S)
end

/-! ### defs -/
def startT (N : List Str) (ts : List Ty) : List (Option Ty) := ts.map some ++ List.replicate (N.length - ts.length) none
theorem HoAll.length {G : Hp} {vs : List V} {ts : List Ty} (h : HoAll G vs ts) : vs.length = ts.length := Paired.length h
theorem HoAll.get {G : Hp} : ∀ {vs : List V} {ts : List Ty} {i : Nat} {t : Ty}, HoAll G vs ts → ts[i]? = some t → ∃ v, vs[i]? = some v ∧ Ho G v t
  | _, _, _, _, .nil, e => by simp at e
  | _, _, 0, d, .cons a t, e => by
    simp at e
    subst e
    exact ⟨_, rfl, a⟩
  | _, _, i + 1, d, .cons a t, e => by
    obtain ⟨v, h1, h2⟩ := HoAll.get (i := i) (t := d) t (by simpa using e)
    exact ⟨v, by simpa using h1, h2⟩
theorem start_sl {G : Hp} {N : List Str} {vs : List V} {ts : List Ty} (h : HoAll G vs ts) : (L2.start N vs).length = (startT N ts).length ∧ ∀ (i : Nat) (t : Ty), (startT N ts)[i]? = some (some t) → ∃ v, (L2.start N vs)[i]? = some (some v) ∧ Ho G v t := by
  have hl := h.length
  refine ⟨by simp [L2.start, startT, hl], fun i t e => ?_⟩
  unfold startT at e
  unfold L2.start
  by_cases hi : i < ts.length
  · rw [List.getElem?_append_left (by simpa using hi), List.getElem?_map] at e
    cases q : ts[i]? with
    | none =>
      rw [q] at e
      cases e
    | some u =>
      rw [q] at e
      cases e
      obtain ⟨v, h1, h2⟩ := h.get q
      refine ⟨v, ?_, h2⟩
      rw [List.getElem?_append_left (by simpa [hl] using hi), List.getElem?_map, h1] <;> rfl
  · rw [List.getElem?_append_right (by simpa using hi), List.getElem?_replicate] at e
    split at e <;> cases e
/-- what a def promises: which arguments it takes, what it gives back -/
abbrev Pr := List Ty → (Ty → Prop) → Prop
def spD (Pre : Pr) : Sp := fun vs H Q _ => ∃ G ts T, Same G H ∧ HoAll G vs ts ∧ Pre ts T ∧ ∀ v H' G' t, Fr none H G H' G' → T t → Ho G' v t → Q v H'
/-- .. that draws by the hand p, its first argument -/
def spH (Pre : Pr) : Sp := fun vs H Q _ => ∃ G p ts T, Same G H ∧ HandOk G H p ∧ G p = none ∧ HoAll G vs (.adr p :: ts) ∧ Pre ts T ∧ ∀ v H' G' t, Fr (some p) H G H' G' → T t → Ho G' v t → Q v H'
section
variable {P : Program} {w : World} {K : PySem.W.Frag} {mg : Str → Option Value} {base : Heap}
abbrev cxx (P : Program) (w : World) (K : PySem.W.Frag) (mg : Str → Option Value) (base : Heap) (N : List Str) (qual : Str) (sc : Scope) (f : Addr) (cdv : Value) (A : Around) (outer : List Env) (s : Shared) (H : Hp) (E : XK) : Cx := (cxOf CX0 P w K mg base N qual sc f cdv A outer s H E).nox
theorem def_ok {x qual : Str} {params : Arguments} {body : List Stmt} {sc : Scope} {dvs : List V} {f : Addr} {fd : FuncData} {N ps : List Str} {k : Nat} {Pre : Pr} (F : FunD K x qual params body sc dvs [] f fd) (S : FnScope N ps sc) (len : ∀ ts T, Pre ts T → ts.length = ps.length)
    (h : ∀ (cdv : Value) (A : Around) (outer : List Env) (s : Shared) (H : Hp) (E : XK) (G : Hp) ts T, Room k (A.deeper (envOfC qual sc s.heap.objs.size f cdv)) → Pre ts T → Sos ⟨H, G, none⟩ (cxx P w K mg base N qual sc f cdv A outer s H E) body ⟨none, startT N ts, []⟩ { nx := fun _ => T (.dat .none), rt := T }) :
    FnOk P w K mg base CX0 (k + 1) f fd ps (spD Pre) := by
  refine F.ok S (fun vs H Q E ⟨G, ts, T, h1, h2, h3, _⟩ => h2.length.trans (len ts T h3)) fun cdv A outer s H vs Q E hr ⟨G, ts, T, h1, h2, h3, h4⟩ => ?_
  refine ⟨SSs (cxx P w K mg base N qual sc f cdv A outer s H E) body, PSs.nox pss_s, ?_⟩
  obtain ⟨e1, e2⟩ := start_sl (N := N) h2
  refine (h cdv A outer s H E G ts T hr h3 (fun _ => none) (L2.start N vs) H ⟨rfl, G, (fun b o e => nomatch e), Fr.refl h1, ⟨h1, (fun p e => nomatch e), e1, e2, (fun k l m q => nomatch q), (fun j k l m m' q => nomatch q)⟩, (fun k l m q => nomatch q)⟩).mono (fun σ' H' ⟨A', q, _, G', _, g2, _⟩ => ?_) (fun v H' ⟨G', t, q1, q2, q3, _⟩ => h4 v H' G' t q2 q1 q3) (fun _ _ ⟨_, q, _⟩ => q.elim) fun _ _ ⟨_, q, _⟩ => q.elim
  exact h4 .non H' G' (.dat .none) g2 q .non
theorem defH_ok {x qual : Str} {params : Arguments} {body : List Stmt} {sc : Scope} {dvs : List V} {f : Addr} {fd : FuncData} {N ps : List Str} {k : Nat} {Pre : Pr} (F : FunD K x qual params body sc dvs [] f fd) (S : FnScope N ps sc) (len : ∀ ts T, Pre ts T → ts.length + 1 = ps.length)
    (h : ∀ (cdv : Value) (A : Around) (outer : List Env) (s : Shared) (H : Hp) (E : XK) (G : Hp) p ts T, Room k (A.deeper (envOfC qual sc s.heap.objs.size f cdv)) → Pre ts T → Sos ⟨H, G, some p⟩ (cxx P w K mg base N qual sc f cdv A outer s H E) body ⟨some p, startT N (.adr p :: ts), []⟩ { nx := fun _ => T (.dat .none), rt := T }) :
    FnOk P w K mg base CX0 (k + 1) f fd ps (spH Pre) := by
  refine F.ok S (fun vs H Q E ⟨G, p, ts, T, h1, _, _, h2, h3, _⟩ => h2.length.trans (len ts T h3)) fun cdv A outer s H vs Q E hr ⟨G, p, ts, T, h1, k1, k2, h2, h3, h4⟩ => ?_
  refine ⟨SSs (cxx P w K mg base N qual sc f cdv A outer s H E) body, PSs.nox pss_s, ?_⟩
  obtain ⟨e1, e2⟩ := start_sl (N := N) h2
  refine (h cdv A outer s H E G p ts T hr h3 (fun _ => none) (L2.start N vs) H ⟨rfl, G, (fun b o e => nomatch e), Fr.refl h1, ⟨h1, (fun p' e => by cases e; exact ⟨k1, k2⟩), e1, e2, (fun k l m q => nomatch q), (fun j k l m m' q => nomatch q)⟩, (fun k l m q => nomatch q)⟩).mono (fun σ' H' ⟨A', q, _, G', _, g2, _⟩ => ?_) (fun v H' ⟨G', t, q1, q2, q3, _⟩ => h4 v H' G' t q2 q1 q3) (fun _ _ ⟨_, q, _⟩ => q.elim) fun _ _ ⟨_, q, _⟩ => q.elim
  exact h4 .non H' G' (.dat .none) g2 q .non

/-- a def by its name, called with all but the defaults -/
structure Fd (P : Program) (w : World) (K : PySem.W.Frag) (mg : Str → Option Value) (base : Heap) (x : Str) (k : Nat) (ps : List Str) (dvs : List V) (sp : Sp) : Prop where
  ex : ∃ f fd ds, FnOk P w K mg base CX0 k f fd ps sp ∧ mg x = some (.ref f) ∧ PySem.W.keepIn K (.ref f) = true ∧ Binds K fd ps ds ∧ Vals dvs ds
end
theorem Fr.up {hd : Option Addr} {H G H' G' : Hp} (F : Fr none H G H' G') : Fr hd H G H' G' :=
  ⟨fun b o _ h => F.keep b o (fun z => by cases z) h, F.ex, fun p _ k => k.mono F.gg fun o h => F.keep p o (fun z => by cases z) h, F.gg, F.gh, F.fr⟩
section
variable {A : AS} {X : Cx} {e : Expr} {es : List Expr} {pos p : Pos} {x : Str} {k : Nat} {ps : List Str} {dvs : List V}
theorem HoAll.append {G : Hp} : ∀ {vs ws : List V} {ts us : List Ty}, HoAll G vs ts → HoAll G ws us → HoAll G (vs ++ ws) (ts ++ us)
  | _, _, _, _, .nil, h => h
  | _, _, _, _, .cons a t, h => .cons a (HoAll.append t h)
/-- f(e, ..) -/
theorem ep_callD {Pre : Pr} {U : List Ty → Prop} {dts : List Ty} {T : Ty → Prop} (hF : Fd X.prog X.w X.K X.mg X.base x k ps dvs (spD Pre)) (hr : Room k X.A) (ha : EvA A X (e :: es) U) (hp : ∀ ts, U ts → Pre (ts ++ dts) T) (hdt : ∀ G, HoAll G dvs dts)
    (hg : Gl X x := by rfl) (hdb : (x == ("__debug__" : Str)) = false := by decide) (he : starEach (e :: es) X.env = (false, eval e X.env) :: starEach es X.env := by rfl) (hpl : (backTo pos (starEach es X.env)).any (·.1) = false := by rfl) : EvP A X (.Call (.Name x p) (e :: es) [] pos) T := fun G σ H C Q q => by
  obtain ⟨f, fd, ds, h1, h2, h3, h4, h5⟩ := hF.ex
  refine (pe_call h1 hr hg h2 h3 h4 h5 pass0 pa_s hdb he hpl).s (show SA X (e :: es) σ H fun vs H1 => spD Pre (vs ++ dvs) H1 Q E0 from ha G σ H C _ fun vs H1 G1 ts F hU hv => ?_)
  exact ⟨G1, ts ++ dts, T, F.gh, HoAll.append hv (hdt G1), hp ts hU, fun v H' G' t F2 ht hv => q v H' G' t (F.trans F2.up) ht hv⟩
theorem ep_call {Pre : Pr} {U : List Ty → Prop} {T : Ty → Prop} (hF : Fd X.prog X.w X.K X.mg X.base x k ps [] (spD Pre)) (hr : Room k X.A) (ha : EvA A X (e :: es) U) (hp : ∀ ts, U ts → Pre ts T)
    (hg : Gl X x := by rfl) (hdb : (x == ("__debug__" : Str)) = false := by decide) (he : starEach (e :: es) X.env = (false, eval e X.env) :: starEach es X.env := by rfl) (hpl : (backTo pos (starEach es X.env)).any (·.1) = false := by rfl) : EvP A X (.Call (.Name x p) (e :: es) [] pos) T :=
  ep_callD (dts := []) hF hr ha (fun ts h => by rw [List.append_nil]; exact hp ts h) (fun _ => .nil) hg hdb he hpl
/-- known arguments, a known result -/
theorem ev_call {Pre : Pr} {ts : List Ty} {t : Ty} (hF : Fd X.prog X.w X.K X.mg X.base x k ps [] (spD Pre)) (hr : Room k X.A) (ha : EvA A X (e :: es) fun us => us = ts) (hp : Pre ts fun u => u = t)
    (hg : Gl X x := by rfl) (hdb : (x == ("__debug__" : Str)) = false := by decide) (he : starEach (e :: es) X.env = (false, eval e X.env) :: starEach es X.env := by rfl) (hpl : (backTo pos (starEach es X.env)).any (·.1) = false := by rfl) : EvT A X (.Call (.Name x p) (e :: es) [] pos) t :=
  ep_call hF hr ha (fun us h => by rw [h]; exact hp) hg hdb he hpl
/-- f(hand, e, ..) -/
theorem ep_callH {Pre : Pr} {U : List Ty → Prop} {T : Ty → Prop} {h : Addr} (hh : A.hd = some h) (hF : Fd X.prog X.w X.K X.mg X.base x k ps [] (spH Pre)) (hr : Room k X.A) (ha : EvA A X (e :: es) fun ts => ∃ us, U us ∧ ts = .adr h :: us) (hp : ∀ ts, U ts → Pre ts T)
    (hg : Gl X x := by rfl) (hdb : (x == ("__debug__" : Str)) = false := by decide) (he : starEach (e :: es) X.env = (false, eval e X.env) :: starEach es X.env := by rfl) (hpl : (backTo pos (starEach es X.env)).any (·.1) = false := by rfl) : EvP A X (.Call (.Name x p) (e :: es) [] pos) T := fun G σ H C Q q => by
  obtain ⟨f, fd, ds, h1, h2, h3, h4, h5⟩ := hF.ex
  refine (pe_call h1 hr hg h2 h3 h4 h5 pass0 pa_s hdb he hpl).s (show SA X (e :: es) σ H fun vs H1 => spH Pre (vs ++ []) H1 Q E0 from ha G σ H C _ fun vs H1 G1 ts F ⟨us, hU, et⟩ hv => ?_)
  subst et
  obtain ⟨k1, k2⟩ := (C.step F).hand h hh
  rw [List.append_nil]
  exact ⟨G1, h, us, T, F.gh, k1, k2, hv, hp us hU, fun v H' G' t F2 ht hv => q v H' G' t (F.trans (hh ▸ F2)) ht hv⟩
end
end K82
/-! Rules of the logic: list comprehensions. -/
namespace K82
open PySem PySem.Spec PyProof.Rows L2

/-- a reading gives something of the kind T -/
def TeOk (A : AS) (t : TE) (T : Ty → Prop) : Prop := ∀ G σ H, Cfg A G σ H → ∀ Q : VK, (∀ v H' G' u, Fr A.hd H G H' G' → T u → Ho G' v u → Q v H') → t σ H Q
section
variable {A : AS} {X : Cx} {e : Expr} {t : TE} {T : Ty → Prop}
theorem ep_te (hp : PE X e t) (h : TeOk A t T) : EvP A X e T := fun G σ H C Q q => hp.s (h G σ H C Q q)
theorem so_asgTe {B : Bs} {P : Po} {st : Stmt} (i : Nat) (hp : PS X st (tAsg t (gName i))) (h : TeOk A t T) (k : ∀ u, T u → P.nx (A.put i u)) : So B X st A P := fun Z σ H ⟨h0, G, h1, h2, h3, h4⟩ =>
  hp.s (show t σ H fun x H1 => (P.ends B Z).nx (σ.set i (some x)) H1 from h G σ H h3 _ fun v H' G' u F p hv => ⟨A.put i u, k u p, h0, G', h1.trans F.gg, h2.trans (h0 ▸ F), (h3.step F).put i hv, h4⟩)
end

/-- the parts of a comprehension, in whatever block they run -/
def blkE (X : Cx) (scope : Scope) (e : Expr) : TE := fun σ H Q => ∀ s0 H0 C cl fp, SE (X.blk s0 H0 scope (compEnvC scope cl C X.env) fp) e σ H Q
def blkT (X : Cx) (scope : Scope) (e : Expr) : TT := fun σ H Q => ∀ s0 H0 C cl fp, ST (X.blk s0 H0 scope (compEnvC scope cl C X.env) fp) e σ H Q
def EvB (A : AS) (X : Cx) (scope : Scope) (e : Expr) (d : PyData) : Prop := ∀ s0 H0 C cl fp, Ev A (X.blk s0 H0 scope (compEnvC scope cl C X.env) fp) e d
def TvB (A : AS) (X : Cx) (scope : Scope) (e : Expr) (b : Bool) : Prop := ∀ s0 H0 C cl fp, Tv A (X.blk s0 H0 scope (compEnvC scope cl C X.env) fp) e b
section
variable {A : AS} {X : Cx} {scope : Scope} {e : Expr}
theorem blkE_pe (s : Shared) (H : Hp) (C : Addr) (cl : List (Str × Addr)) (fp : List Addr) : PE (X.blk s H scope (compEnvC scope cl C X.env) fp) e (blkE X scope e) := ⟨fun pins s' σ H' Q I h => h s H C cl fp pins s' I⟩
theorem blkT_pt (s : Shared) (H : Hp) (C : Addr) (cl : List (Str × Addr)) (fp : List Addr) : PTs (X.blk s H scope (compEnvC scope cl C X.env) fp) [e] (blkT X scope e) := pts_one ⟨fun pins s' σ H' Q I h => h s H C cl fp pins s' I⟩
def wipeT (Γ : List (Option Ty)) : List Nat → List (Option Ty)
  | [] => Γ
  | v :: vs => (wipeT Γ vs).set v none
theorem Cfg.wipe {G H : Hp} {σ : L2.St} (C : Cfg A G σ H) : ∀ vs : List Nat, Cfg { A with Γ := wipeT A.Γ vs } G (L2.wipe σ vs) H
  | [] => C
  | v :: vs => (Cfg.wipe C vs).wipe1 v
end

theorem take_succ_filter {α β : Type} {xs : List α} {b : α → Bool} {g : α → β} {i : Nat} {a : α} (h : xs[i]? = some a) : ((xs.take (i + 1)).filter b).map g = if b a = true then ((xs.take i).filter b).map g ++ [g a] else ((xs.take i).filter b).map g := by
  rw [List.take_add_one, h, List.filter_append, List.map_append]
  cases hb : b a with
  | true => simp [hb]
  | false => simp [hb]

/-- the reading of a comprehension over a walk: At a is the state in which the item a is looked at -/
theorem lc_read {A : AS} {α : Type} {J : It} {Gw : Hp → Prop} {Y : Nat → Hp → V → Hp → Prop} {g : TG} {tt : TT} {te : TE} {vs : List Nat} {σ : L2.St} {H1 G1 : Hp} {Q : VK} {D : Addr} (xs : List α) (At : α → AS) (b : α → Bool) (gd : α → PyData)
    (w : Walk J xs.length Gw Y) (C : Cfg A G1 σ H1) (hGw : ∀ H2, Same G1 H2 → Gw H2) (hD : H1 D = none) (hlen : xs.length < 100000) (hAt : ∀ a, (At a).hd = A.hd)
    (ht : ∀ (i : Nat) a x H2 G2 H3 (Q' : L2.St → Hp → Prop), xs[i]? = some a → Fr A.hd H1 G1 H2 G2 → Cfg A G2 σ H2 → Y i H2 x H3 → (∀ σ2 H4 G4, Fr A.hd H2 G2 H4 G4 → L2.wipe σ2 vs = L2.wipe σ vs → Cfg (At a) G4 σ2 H4 → Q' σ2 H4) → g x (L2.wipe σ vs) H3 Q')
    (htt : ∀ a ∈ xs, ∀ G σ2 H2, Cfg (At a) G σ2 H2 → ∀ Q : Bool → Hp → Prop, (∀ H3 G3, Fr A.hd H2 G H3 G3 → Q (b a) H3) → tt σ2 H2 Q)
    (hte : ∀ a ∈ xs, b a = true → ∀ G σ2 H2, Cfg (At a) G σ2 H2 → ∀ Q : VK, (∀ v H3 G3, Fr A.hd H2 G H3 G3 → Da G3 v (gd a) → Q v H3) → te σ2 H2 Q)
    (hQ : ∀ H' G', Fr A.hd H1 G1 H' G' → Da G' (.ref D) (.list ((xs.filter b).map gd)) → Q (.ref D) H') :
    ∃ W : Nat → Nat → Hp → Prop, (∃ m, W 0 m (upd H1 D (.lst []))) ∧ ∀ i m H, W i m H →
      (J.stop i H ∧ Q (.ref D) H) ∨ (J.go i H ∧ ∃ Nx : Hp → Prop, (∀ H', Nx H' → ∃ m', m' < m ∧ W (i + 1) m' H') ∧ ∀ x H', J.yld i H x H' → g x (L2.wipe σ vs) H' fun σ2 H2 => L2.wipe σ2 vs = L2.wipe σ vs ∧ tt σ2 H2 fun b H3 =>
        if b = true then te σ2 H3 fun y H4 => ∃ acc, H4 D = some (.lst acc) ∧ acc.length < sizeLine ∧ Nx (upd H4 D (.lst (acc ++ [y]))) else Nx H3) := by
  have hdD : A.hd ≠ some D := fun e => by
    obtain ⟨⟨_, _, _, _, _, _, h1, _⟩, _⟩ := C.hand D e
    rw [hD] at h1
    cases h1
  refine lc_it w (Qd := Q (.ref D)) (fun i H => ∃ G acc, Fr A.hd H1 G1 H G ∧ G D = none ∧ H D = some (.lst acc) ∧ DaAll G acc (((xs.take i).filter b).map gd)) ⟨G1, [], (Fr.refl C.gh).newT hD, C.gh.free hD, upd_same, .nil⟩
    (fun i H _ ⟨G, acc, F, _, _, _⟩ => hGw H (F.gg.trans F.gh)) (fun i x H2 H3 hi ⟨G2, acc, F, d1, d2, d3⟩ y => ?_) fun H ⟨G, acc, F, d1, d2, d3⟩ => ?_
  · have hx : xs[i]? = some xs[i] := List.getElem?_eq_getElem hi
    have hmem : xs[i] ∈ xs := List.getElem_mem hi
    have hacc : acc.length < sizeLine := by
      have e := d3.length
      rw [List.length_map] at e
      have e2 := List.length_filter_le b (xs.take i)
      rw [List.length_take] at e2
      exact Nat.lt_of_lt_of_le (by omega : acc.length < 100000) (by decide)
    refine ht i _ x H2 G2 H3 _ hx F (C.step F) y fun σ2 H4 G4 F4 hwp C4 => ⟨hwp, ?_⟩
    refine htt _ hmem G4 σ2 H4 C4 _ fun H5 G5 F5 => ?_
    have C5 : Cfg (At xs[i]) G5 σ2 H5 := C4.step ((hAt _).symm ▸ F5)
    have d5 : H5 D = some (.lst acc) := F5.keep D _ hdD (F4.keep D _ hdD d2)
    have g5 : G5 D = none := F5.fr D _ (F4.keep D _ hdD d2) (F4.fr D _ d2 d1 rfl) rfl
    have a5 : DaAll G5 acc (((xs.take i).filter b).map gd) := (d3.mono F4.gg).mono F5.gg
    cases hb : b xs[i] with
    | true =>
      rw [if_pos rfl]
      refine hte _ hmem hb G5 σ2 H5 C5 _ fun v H6 G6 F6 hv => ?_
      refine ⟨acc, F6.keep D _ hdD d5, hacc, G6, acc ++ [v], (((F.trans F4).trans F5).trans F6).mut hD (F6.fr D _ d5 g5 rfl) hdD, F6.fr D _ d5 g5 rfl, upd_same, ?_⟩
      rw [take_succ_filter hx, if_pos hb]
      exact (a5.mono F6.gg).append (.cons hv .nil)
    | false =>
      rw [if_neg Bool.false_ne_true]
      refine ⟨G5, acc, (F.trans F4).trans F5, g5, d5, ?_⟩
      rw [take_succ_filter hx, if_neg (by rw [hb]; exact Bool.false_ne_true)]
      exact a5
  · have F2 := F.give hD d1 d2
    refine hQ H _ F2 ?_
    rw [List.take_length] at d3
    exact .lst upd_same (d3.mono (same_new d1))

section
variable {A : AS} {X : Cx} {scope : Scope} {elt it c a : Expr} {pos pos' : Pos} {x : Str} {px : Pos}
theorem set_none {σ : L2.St} {j : Nat} {v : V} : L2.wipe ((L2.wipe σ [j]).set j (some v)) [j] = L2.wipe σ [j] := by
  show (((σ.set j none).set j (some v)).set j none) = σ.set j none
  rw [List.set_set, List.set_set]
/-- a walk whose items are data at one slot -/
theorem tgt_one {α : Type} {xs : List α} {enc : α → PyData} {xv : List V} {j : Nat} {σ : L2.St} {G1 H1 : Hp} (h : DaAll G1 xv (xs.map enc)) (i : Nat) (a : α) (x : V) (H2 G2 H3 : Hp) (Q' : L2.St → Hp → Prop) (hx : xs[i]? = some a) (F : Fr A.hd H1 G1 H2 G2) (C : Cfg A G2 σ H2) (y : YAt xv i H2 x H3)
    (k : ∀ σ2 H4 G4, Fr A.hd H2 G2 H4 G4 → L2.wipe σ2 [j] = L2.wipe σ [j] → Cfg (A.put j (.dat (enc a))) G4 σ2 H4 → Q' σ2 H4) : gName j x (L2.wipe σ [j]) H3 Q' := by
  obtain ⟨rfl, y⟩ := y
  obtain ⟨d, e1, e2⟩ := h.get' y
  rw [List.getElem?_map, hx] at e1
  cases e1
  refine k _ _ G2 (Fr.refl C.gh) set_none ?_
  have q := (C.wipe [j]).put (t := .dat (enc a)) (v := x) j (Da.mono F.gg e2)
  have e : (wipeT A.Γ [j]).set j (some (Ty.dat (enc a))) = A.Γ.set j (some (Ty.dat (enc a))) := List.set_set ..
  have q' : Cfg { A with Γ := (wipeT A.Γ [j]).set j (some (Ty.dat (enc a))) } G2 ((L2.wipe σ [j]).set j (some x)) _ := q
  rw [e] at q'
  exact q'
theorem lcL_ok {α : Type} {tt : TT} {te : TE} (j : Nat) (xs : List α) (enc : α → PyData) (b : α → Bool) (gd : α → PyData) (hit : Ev A X it (.list (xs.map enc))) (hlen : xs.length < 100000)
    (htt : ∀ a ∈ xs, ∀ G σ2 H2, Cfg (A.put j (.dat (enc a))) G σ2 H2 → ∀ Q : Bool → Hp → Prop, (∀ H3 G3, Fr A.hd H2 G H3 G3 → Q (b a) H3) → tt σ2 H2 Q)
    (hte : ∀ a ∈ xs, b a = true → ∀ G σ2 H2, Cfg (A.put j (.dat (enc a))) G σ2 H2 → ∀ Q : VK, (∀ v H3 G3, Fr A.hd H2 G H3 G3 → Da G3 v (gd a) → Q v H3) → te σ2 H2 Q) :
    TeOk A (tLc (iList X.K (SE X it)) (gName j) tt te [j]) fun u => u = .dat (.list ((xs.filter b).map gd)) := fun G σ H C Q q => by
  show SE X it σ H fun x H1 => _
  refine hit G σ H C _ fun v H1 G1 t F p hv => ?_
  subst p
  obtain ⟨l, xv, rfl, f1, f2⟩ := Da.lst_inv hv
  have el : xv.length = xs.length := by rw [f2.length, List.length_map]
  refine ⟨l, rfl, ⟨xv, SqL.of (F.gh _ _ f1)⟩, fun D hD => lc_read xs (fun a => A.put j (.dat (enc a))) b gd (el ▸ walk_list (xs := xv)) (C.step F) (fun H2 e => SqL.of (e _ _ f1)) hD hlen (fun _ => rfl) (tgt_one f2) htt hte fun H' G' F2 hv => q _ H' G' _ (F.trans F2) rfl hv⟩
theorem lcT_ok {α : Type} {tt : TT} {te : TE} (j : Nat) (xs : List α) (enc : α → PyData) (b : α → Bool) (gd : α → PyData) (hit : Ev A X it (.tuple (xs.map enc))) (hlen : xs.length < 100000)
    (htt : ∀ a ∈ xs, ∀ G σ2 H2, Cfg (A.put j (.dat (enc a))) G σ2 H2 → ∀ Q : Bool → Hp → Prop, (∀ H3 G3, Fr A.hd H2 G H3 G3 → Q (b a) H3) → tt σ2 H2 Q)
    (hte : ∀ a ∈ xs, b a = true → ∀ G σ2 H2, Cfg (A.put j (.dat (enc a))) G σ2 H2 → ∀ Q : VK, (∀ v H3 G3, Fr A.hd H2 G H3 G3 → Da G3 v (gd a) → Q v H3) → te σ2 H2 Q) :
    TeOk A (tLc (iTup X.K (SE X it)) (gName j) tt te [j]) fun u => u = .dat (.list ((xs.filter b).map gd)) := fun G σ H C Q q => by
  show SE X it σ H fun x H1 => _
  refine hit G σ H C _ fun v H1 G1 t F p hv => ?_
  subst p
  obtain ⟨l, xv, rfl, f1, f2⟩ := Da.tup_inv hv
  have el : xv.length = xs.length := by rw [f2.length, List.length_map]
  refine ⟨l, rfl, ⟨xv, SqT.of (F.gh _ _ f1)⟩, fun D hD => lc_read xs (fun a => A.put j (.dat (enc a))) b gd (el ▸ walk_tup (xs := xv)) (C.step F) (fun H2 e => SqT.of (e _ _ f1)) hD hlen (fun _ => rfl) (tgt_one f2) htt hte fun H' G' F2 hv => q _ H' G' _ (F.trans F2) rfl hv⟩
theorem lcR_ok {tt : TT} {te : TE} (j : Nat) (n : Nat) (b : Nat → Bool) (gd : Nat → PyData) {hs : starEach [a] X.env = (false, eval a X.env) :: starEach [] X.env} (hit : Ev A X a (.int (n : Int))) (hlen : n < 100000)
    (htt : ∀ i ∈ List.range n, ∀ G σ2 H2, Cfg (A.put j (.dat (.int (i : Int)))) G σ2 H2 → ∀ Q : Bool → Hp → Prop, (∀ H3 G3, Fr A.hd H2 G H3 G3 → Q (b i) H3) → tt σ2 H2 Q)
    (hte : ∀ i ∈ List.range n, b i = true → ∀ G σ2 H2, Cfg (A.put j (.dat (.int (i : Int)))) G σ2 H2 → ∀ Q : VK, (∀ v H3 G3, Fr A.hd H2 G H3 G3 → Da G3 v (gd i) → Q v H3) → te σ2 H2 Q) :
    TeOk A (tLc (iRng1 (tCons (SE X a) tNil)) (gName j) tt te [j]) fun u => u = .dat (.list (((List.range n).filter b).map gd)) := fun G σ H C Q q => by
  show SE X a σ H fun x H1 => ∃ j : Int, [x] = [.int j] ∧ _
  refine hit G σ H C _ fun v H1 G1 t F p hv => ?_
  subst p
  have hv := Da.int_inv hv
  subst hv
  have el : (n : Int).toNat = (List.range n).length := by simp
  have wk : Walk (Itr 0 (n : Int).toNat) (List.range n).length (fun _ => True) (YFn fun i => .int (0 + (i : Int))) := by
    rw [← el]
    exact walk_range
  refine ⟨(n : Int), rfl, by omega, by omega, fun D hD => lc_read (List.range n) (fun i => A.put j (.dat (.int (i : Int)))) b gd wk (C.step F) (fun H2 e => trivial) hD (by simpa using hlen) (fun _ => rfl) (fun i k x H2 G2 H3 Q' hx F2 C2 y kk => ?_) htt hte fun H' G' F2 hv => q _ H' G' _ (F.trans F2) rfl hv⟩
  obtain ⟨rfl, rfl⟩ := y
  have ei : k = i := by
    obtain ⟨h1, h2⟩ := List.getElem?_eq_some_iff.mp hx
    simpa using h2.symm
  subst ei
  refine kk _ _ G2 (Fr.refl C2.gh) set_none ?_
  have q2 := (C2.wipe [j]).put (t := .dat (.int (k : Int))) (v := .int (0 + (k : Int))) j (by rw [Int.zero_add]; exact Da.int _)
  have e : (wipeT A.Γ [j]).set j (some (Ty.dat (.int (k : Int)))) = A.Γ.set j (some (Ty.dat (.int (k : Int)))) := List.set_set ..
  have q' : Cfg { A with Γ := (wipeT A.Γ [j]).set j (some (Ty.dat (.int (k : Int)))) } G2 ((L2.wipe σ [j]).set j (some (.int (0 + (k : Int))))) _ := q2
  rw [e] at q'
  exact q'

/-! ### the expressions -/
theorem tt_yes {α : Type} {At : α → AS} (hAt : ∀ a, (At a).hd = A.hd) (a : α) (G : Hp) (σ2 : L2.St) (H2 : Hp) (C : Cfg (At a) G σ2 H2) (Q : Bool → Hp → Prop) (k : ∀ H3 G3, Fr A.hd H2 G H3 G3 → Q true H3) : tYes σ2 H2 Q := k H2 G (Fr.refl C.gh)
theorem tt_blk {A' : AS} (hAt : A'.hd = A.hd) {b : Bool} (h : TvB A' X scope c b) (G : Hp) (σ2 : L2.St) (H2 : Hp) (C : Cfg A' G σ2 H2) (Q : Bool → Hp → Prop) (k : ∀ H3 G3, Fr A.hd H2 G H3 G3 → Q b H3) : blkT X scope c σ2 H2 Q := fun s0 H0 Cc cl fp =>
  h s0 H0 Cc cl fp G σ2 H2 C Q fun b' H' G' F p => by
    subst p
    exact k H' G' (hAt ▸ F)
theorem te_blk {A' : AS} (hAt : A'.hd = A.hd) {d : PyData} (h : EvB A' X scope elt d) (G : Hp) (σ2 : L2.St) (H2 : Hp) (C : Cfg A' G σ2 H2) (Q : VK) (k : ∀ v H3 G3, Fr A.hd H2 G H3 G3 → Da G3 v d → Q v H3) : blkE X scope elt σ2 H2 Q := fun s0 H0 Cc cl fp =>
  h s0 H0 Cc cl fp G σ2 H2 C Q fun v H' G' t F p hv => by
    subst p
    exact k v H' G' (hAt ▸ F) hv

theorem filter_true {α : Type} (xs : List α) : xs.filter (fun _ => true) = xs := List.filter_eq_self.mpr fun _ _ => rfl
/-- [elt for x in a list] -/
theorem ev_lcL {α : Type} (j : Nat) (xs : List α) (enc : α → PyData) (gd : α → PyData) (hNd : X.N.Nodup) (ok : BlkOk X.N X.env.scope scope [(x, j)]) (hit : Ev A X it (.list (xs.map enc))) (hlen : xs.length < 100000) (hte : ∀ a ∈ xs, EvB (A.put j (.dat (enc a))) X scope elt (gd a))
    (hg : ∀ (s : Shared) (H : Hp) (C : Addr) (cl : List (Str × Addr)) (fp : List Addr), PG (X.blk s H scope (compEnvC scope cl C X.env) fp) (.Name x px) (gName j)) (hc : X.calm = true := by rfl) (hs : ∀ x, foldedSetIterable it X.env x = pure x := by intro _; rfl) :
    Ev A X (.ListComp elt [⟨.Name x px, it, [], 0⟩] scope pos) (.list (xs.map gd)) := by
  have h := ep_te (pe_lc (pos := pos) hc hNd (pi_list pe_s) ok hg (fun _ _ _ _ _ => pts_nil) (blkE_pe (e := elt)) hs) (lcL_ok (A := A) j xs enc (fun _ => true) gd hit hlen (fun a _ => tt_yes (At := fun a => A.put j (.dat (enc a))) (fun _ => rfl) a) fun a ha _ => te_blk rfl (hte a ha))
  rw [filter_true] at h
  exact h
/-- .. with a test -/
theorem ev_lcLif {α : Type} (j : Nat) (xs : List α) (enc : α → PyData) (b : α → Bool) (gd : α → PyData) (hNd : X.N.Nodup) (ok : BlkOk X.N X.env.scope scope [(x, j)]) (hit : Ev A X it (.list (xs.map enc))) (hlen : xs.length < 100000) (htt : ∀ a ∈ xs, TvB (A.put j (.dat (enc a))) X scope c (b a)) (hte : ∀ a ∈ xs, b a = true → EvB (A.put j (.dat (enc a))) X scope elt (gd a))
    (hg : ∀ (s : Shared) (H : Hp) (C : Addr) (cl : List (Str × Addr)) (fp : List Addr), PG (X.blk s H scope (compEnvC scope cl C X.env) fp) (.Name x px) (gName j)) (hc : X.calm = true := by rfl) (hs : ∀ x, foldedSetIterable it X.env x = pure x := by intro _; rfl) :
    Ev A X (.ListComp elt [⟨.Name x px, it, [c], 0⟩] scope pos) (.list ((xs.filter b).map gd)) :=
  ep_te (pe_lc (pos := pos) hc hNd (pi_list pe_s) ok hg (blkT_pt (e := c)) (blkE_pe (e := elt)) hs) (lcL_ok (A := A) j xs enc b gd hit hlen (fun a ha => tt_blk rfl (htt a ha)) fun a ha hb => te_blk rfl (hte a ha hb))
/-- [elt for x in a tuple] -/
theorem ev_lcT {α : Type} (j : Nat) (xs : List α) (enc : α → PyData) (gd : α → PyData) (hNd : X.N.Nodup) (ok : BlkOk X.N X.env.scope scope [(x, j)]) (hit : Ev A X it (.tuple (xs.map enc))) (hlen : xs.length < 100000) (hte : ∀ a ∈ xs, EvB (A.put j (.dat (enc a))) X scope elt (gd a))
    (hg : ∀ (s : Shared) (H : Hp) (C : Addr) (cl : List (Str × Addr)) (fp : List Addr), PG (X.blk s H scope (compEnvC scope cl C X.env) fp) (.Name x px) (gName j)) (hc : X.calm = true := by rfl) (hs : ∀ x, foldedSetIterable it X.env x = pure x := by intro _; rfl) :
    Ev A X (.ListComp elt [⟨.Name x px, it, [], 0⟩] scope pos) (.list (xs.map gd)) := by
  have h := ep_te (pe_lc (pos := pos) hc hNd (pi_tup pe_s) ok hg (fun _ _ _ _ _ => pts_nil) (blkE_pe (e := elt)) hs) (lcT_ok (A := A) j xs enc (fun _ => true) gd hit hlen (fun a _ => tt_yes (At := fun a => A.put j (.dat (enc a))) (fun _ => rfl) a) fun a ha _ => te_blk rfl (hte a ha))
  rw [filter_true] at h
  exact h
theorem ev_lcTif {α : Type} (j : Nat) (xs : List α) (enc : α → PyData) (b : α → Bool) (gd : α → PyData) (hNd : X.N.Nodup) (ok : BlkOk X.N X.env.scope scope [(x, j)]) (hit : Ev A X it (.tuple (xs.map enc))) (hlen : xs.length < 100000) (htt : ∀ a ∈ xs, TvB (A.put j (.dat (enc a))) X scope c (b a)) (hte : ∀ a ∈ xs, b a = true → EvB (A.put j (.dat (enc a))) X scope elt (gd a))
    (hg : ∀ (s : Shared) (H : Hp) (C : Addr) (cl : List (Str × Addr)) (fp : List Addr), PG (X.blk s H scope (compEnvC scope cl C X.env) fp) (.Name x px) (gName j)) (hc : X.calm = true := by rfl) (hs : ∀ x, foldedSetIterable it X.env x = pure x := by intro _; rfl) :
    Ev A X (.ListComp elt [⟨.Name x px, it, [c], 0⟩] scope pos) (.list ((xs.filter b).map gd)) :=
  ep_te (pe_lc (pos := pos) hc hNd (pi_tup pe_s) ok hg (blkT_pt (e := c)) (blkE_pe (e := elt)) hs) (lcT_ok (A := A) j xs enc b gd hit hlen (fun a ha => tt_blk rfl (htt a ha)) fun a ha hb => te_blk rfl (hte a ha hb))
/-- [elt for x in range(n)] -/
theorem ev_lcR (j : Nat) (n : Nat) (gd : Nat → PyData) {pr pos1 : Pos} (hgr : Gl X "range") (hm : X.mg "range" = none) (hNd : X.N.Nodup) (ok : BlkOk X.N X.env.scope scope [(x, j)]) (hit : Ev A X a (.int (n : Int))) (hlen : n < 100000) (hte : ∀ i, i < n → EvB (A.put j (.dat (.int (i : Int)))) X scope elt (gd i))
    (hg : ∀ (s : Shared) (H : Hp) (C : Addr) (cl : List (Str × Addr)) (fp : List Addr), PG (X.blk s H scope (compEnvC scope cl C X.env) fp) (.Name x px) (gName j)) (hc : X.calm = true := by rfl) (hst : starEach [a] X.env = (false, eval a X.env) :: starEach [] X.env := by rfl) (hst1 : starEach [a] X.env = [(false, eval a X.env)] := by rfl) (hs : ∀ x, foldedSetIterable (.Call (.Name "range" pr) [a] [] pos1) X.env x = pure x := by intro _; rfl) :
    Ev A X (.ListComp elt [⟨.Name x px, .Call (.Name "range" pr) [a] [] pos1, [], 0⟩] scope pos) (.list ((List.range n).map gd)) := by
  have h := ep_te (pe_lc (pos := pos) hc hNd (pi_range1 (pos := pos1) (p := pr) hgr hm (pa_cons pe_s pa_nil hst) hst1) ok hg (fun _ _ _ _ _ => pts_nil) (blkE_pe (e := elt)) hs) (lcR_ok (A := A) (hs := hst) j n (fun _ => true) gd hit hlen (fun a _ => tt_yes (At := fun i : Nat => A.put j (.dat (.int (i : Int)))) (fun _ => rfl) a) fun i hi _ => te_blk rfl (hte i (List.mem_range.mp hi)))
  rw [filter_true] at h
  exact h
/-! ### name = [..] -/
theorem so_lcL {B : Bs} {P : Po} {α : Type} (i j : Nat) (xs : List α) (enc : α → PyData) (gd : α → PyData) {y : Str} {py spos : Pos} (hNd : X.N.Nodup) (ok : BlkOk X.N X.env.scope scope [(x, j)]) (hit : Ev A X it (.list (xs.map enc))) (hlen : xs.length < 100000) (hte : ∀ a ∈ xs, EvB (A.put j (.dat (enc a))) X scope elt (gd a))
    (k : P.nx (A.put i (.dat (.list (xs.map gd)))))
    (hg : ∀ (s : Shared) (H : Hp) (C : Addr) (cl : List (Str × Addr)) (fp : List Addr), PG (X.blk s H scope (compEnvC scope cl C X.env) fp) (.Name x px) (gName j)) (hsw : swapsWith (.ListComp elt [⟨.Name x px, it, [], 0⟩] scope pos) (some (.Name y py)) spos.line X.env = pure true) (hy : X.N[i]? = some y := by rfl) (hyl : X.env.scope.names.lookup y = some .local := by rfl)
    (hc : X.calm = true := by rfl) (hs : ∀ x, foldedSetIterable it X.env x = pure x := by intro _; rfl) :
    So B X (.Assign [.Name y py] (.ListComp elt [⟨.Name x px, it, [], 0⟩] scope pos) spos) A P := by
  refine so_asgTe i (ps_setLc (spos := spos) hc hNd hy hyl hsw (pi_list pe_s) ok hg (fun _ _ _ _ _ => pts_nil) (blkE_pe (e := elt)) hs) (lcL_ok (A := A) j xs enc (fun _ => true) gd hit hlen (fun a _ => tt_yes (At := fun a => A.put j (.dat (enc a))) (fun _ => rfl) a) fun a ha _ => te_blk rfl (hte a ha)) fun u e => ?_
  rw [filter_true] at e
  rw [e]
  exact k
theorem so_lcT {B : Bs} {P : Po} {α : Type} (i j : Nat) (xs : List α) (enc : α → PyData) (gd : α → PyData) {y : Str} {py spos : Pos} (hNd : X.N.Nodup) (ok : BlkOk X.N X.env.scope scope [(x, j)]) (hit : Ev A X it (.tuple (xs.map enc))) (hlen : xs.length < 100000) (hte : ∀ a ∈ xs, EvB (A.put j (.dat (enc a))) X scope elt (gd a))
    (k : P.nx (A.put i (.dat (.list (xs.map gd)))))
    (hg : ∀ (s : Shared) (H : Hp) (C : Addr) (cl : List (Str × Addr)) (fp : List Addr), PG (X.blk s H scope (compEnvC scope cl C X.env) fp) (.Name x px) (gName j)) (hsw : swapsWith (.ListComp elt [⟨.Name x px, it, [], 0⟩] scope pos) (some (.Name y py)) spos.line X.env = pure true) (hy : X.N[i]? = some y := by rfl) (hyl : X.env.scope.names.lookup y = some .local := by rfl)
    (hc : X.calm = true := by rfl) (hs : ∀ x, foldedSetIterable it X.env x = pure x := by intro _; rfl) :
    So B X (.Assign [.Name y py] (.ListComp elt [⟨.Name x px, it, [], 0⟩] scope pos) spos) A P := by
  refine so_asgTe i (ps_setLc (spos := spos) hc hNd hy hyl hsw (pi_tup pe_s) ok hg (fun _ _ _ _ _ => pts_nil) (blkE_pe (e := elt)) hs) (lcT_ok (A := A) j xs enc (fun _ => true) gd hit hlen (fun a _ => tt_yes (At := fun a => A.put j (.dat (enc a))) (fun _ => rfl) a) fun a ha _ => te_blk rfl (hte a ha)) fun u e => ?_
  rw [filter_true] at e
  rw [e]
  exact k
theorem so_lcR {B : Bs} {P : Po} (i j : Nat) (n : Nat) (gd : Nat → PyData) {y : Str} {py spos pr pos1 : Pos} (hgr : Gl X "range") (hm : X.mg "range" = none) (hNd : X.N.Nodup) (ok : BlkOk X.N X.env.scope scope [(x, j)]) (hit : Ev A X a (.int (n : Int))) (hlen : n < 100000) (hte : ∀ i, i < n → EvB (A.put j (.dat (.int (i : Int)))) X scope elt (gd i))
    (k : P.nx (A.put i (.dat (.list ((List.range n).map gd)))))
    (hg : ∀ (s : Shared) (H : Hp) (C : Addr) (cl : List (Str × Addr)) (fp : List Addr), PG (X.blk s H scope (compEnvC scope cl C X.env) fp) (.Name x px) (gName j)) (hsw : swapsWith (.ListComp elt [⟨.Name x px, .Call (.Name "range" pr) [a] [] pos1, [], 0⟩] scope pos) (some (.Name y py)) spos.line X.env = pure true) (hy : X.N[i]? = some y := by rfl) (hyl : X.env.scope.names.lookup y = some .local := by rfl)
    (hc : X.calm = true := by rfl) (hst : starEach [a] X.env = (false, eval a X.env) :: starEach [] X.env := by rfl) (hst1 : starEach [a] X.env = [(false, eval a X.env)] := by rfl) (hs : ∀ x, foldedSetIterable (.Call (.Name "range" pr) [a] [] pos1) X.env x = pure x := by intro _; rfl) :
    So B X (.Assign [.Name y py] (.ListComp elt [⟨.Name x px, .Call (.Name "range" pr) [a] [] pos1, [], 0⟩] scope pos) spos) A P := by
  refine so_asgTe i (ps_setLc (spos := spos) hc hNd hy hyl hsw (pi_range1 (pos := pos1) (p := pr) hgr hm (pa_cons pe_s pa_nil hst) hst1) ok hg (fun _ _ _ _ _ => pts_nil) (blkE_pe (e := elt)) hs) (lcR_ok (A := A) (hs := hst) j n (fun _ => true) gd hit hlen (fun a _ => tt_yes (At := fun i : Nat => A.put j (.dat (.int (i : Int)))) (fun _ => rfl) a) fun i hi _ => te_blk rfl (hte i (List.mem_range.mp hi))) fun u e => ?_
  rw [filter_true] at e
  rw [e]
  exact k
end
end K82
/-! The text by places. -/
namespace K82
open PySem PySem.Spec PyProof.Rows L2
def topS (i : Nat) : Stmt := PySem.Challenge.pw_threeshapes_k82_whole_facing_rooms_withi.main.body.getD i (.Pass ⟨0, 0, 0, 0⟩)
abbrev FunT (K : PySem.W.Frag) (x : Str) (st : Stmt) (dvs : List V) (f : Addr) (fd : FuncData) : Prop := FunD K x x (defArgs st) (defBody st) (defScope st) dvs [] f fd
end K82
/-! The mirrors: what each def computes, in plain Lean. -/
namespace K82
/-- the moduli of a kind -/
def mods (p : Nat) (kind : List Nat) : List Int := kind.map fun c => ((p ^ c : Nat) : Int)
def membStep (rows : List (List Int)) (m : Int) : List (List Int) := rows.flatMap fun r => (List.range m.toNat).map fun (n : Nat) => r ++ [(n : Int)]
/-- all members, ascending -/
def memb (ms : List Int) : List (List Int) := ms.foldl membStep [[]]
def plusR : List Int → List Int → List Int → List Int
  | m :: ms, x :: xs, y :: ys => ((x + y) % m) :: plusR ms xs ys
  | _, _, _ => []
def timesR : List Int → Int → List Int → List Int
  | m :: ms, n, x :: xs => (n * x % m) :: timesR ms n xs
  | _, _, _ => []
def noughtR (ms : List Int) : List Int := ms.map fun _ => 0
/-- how often p divides, at most so often -/
def expGo (p : Int) : Nat → Int → Int → Int
  | 0, _, f => f
  | n + 1, l, f => if l % p ≠ 0 then f else expGo p n (l / p) (f + 1)
def absI (x : Int) : Int := if x < 0 then -x else x
def lawExp (p x : Int) : Int := expGo p 5000 (absI x) 0
theorem expGo_le (p : Int) : ∀ (n : Nat) (l f : Int), f ≤ expGo p n l f ∧ expGo p n l f ≤ f + n
  | 0, _, f => by
    unfold expGo
    omega
  | n + 1, l, f => by
    unfold expGo
    by_cases h : l % p ≠ 0
    · rw [if_pos h]
      omega
    · rw [if_neg h]
      have := expGo_le p n (l / p) (f + 1)
      omega
theorem lawExp_le (p x : Int) : 0 ≤ lawExp p x ∧ lawExp p x ≤ 5000 := by
  have := expGo_le p 5000 (absI x) 0
  unfold lawExp
  omega
def stepsOf (p : Int) (counts : List Int) : List Int := (List.range (counts.length - 1)).map fun k => lawExp p (counts.getD (k + 1) 0 / counts.getD k 0)
def kindOfSteps (steps : List Int) : List Int := (List.range (steps.headD 0).toNat).map fun (row : Nat) => ((steps.filter fun s => decide ((row : Int) < s)).length : Int)
def fromCounts (p : Int) (counts : List Int) : List Int := kindOfSteps (stepsOf p counts)
/-- lies: whether a row is a sum of multiples of the columns -/
def subRow (rest col : List Int) (by_ : Int) : List Int := (List.range rest.length).map fun k => rest.getD k 0 - by_ * col.getD k 0
def liesGo (cols : List (List Int)) : Nat → Nat → List Int → Bool
  | 0, _, _ => true
  | n + 1, at_, rest =>
    if rest.getD at_ 0 % (cols.getD at_ []).getD at_ 0 ≠ 0 then false
    else liesGo cols n (at_ + 1) (subRow rest (cols.getD at_ []) (rest.getD at_ 0 / (cols.getD at_ []).getD at_ 0))
def liesR (cols : List (List Int)) (row : List Int) : Bool := liesGo cols cols.length 0 row
/-- lowers: all rows below the numbers on the diagonal -/
def diagR (cols : List (List Int)) : List Int := (List.range cols.length).map fun k => (cols.getD k []).getD k 0
def lowersR (cols : List (List Int)) : List (List Int) := memb (diagR cols)
def belowR (grid : List (List Int)) : List (List Int) := grid.map fun c => 0 :: c
def gridHigh (p part : Nat) (grid : List (List Int)) (h : Nat) : List (List (List Int)) :=
  ((lowersR grid).filter fun lower => liesR grid (lower.map fun n => ((p ^ (part - h) : Nat) : Int) * n)).map fun lower => (((p ^ h : Nat) : Int) :: lower) :: belowR grid
def gridStep (p : Nat) (grids : List (List (List Int))) (part : Nat) : List (List (List Int)) := grids.flatMap fun grid => (List.range (part + 1)).flatMap (gridHigh p part grid)
/-- the columns of all lower triangular tables that hold the diagonal one -/
def gridsR (p : Nat) (kind : List Nat) : List (List (List Int)) := kind.reverse.foldl (gridStep p) [[]]
/-- the members that the columns make -/
def rowsStep (ms : List Int) (grid : List (List Int)) (rows : List (List Int)) (at_ : Nat) : List (List Int) :=
  (List.range (ms.getD at_ 0 / (grid.getD at_ []).getD at_ 0).toNat).flatMap fun (n : Nat) => rows.map fun row => plusR ms row (timesR ms (n : Int) (grid.getD at_ []))
def gridRows0 (ms : List Int) (grid : List (List Int)) : List (List Int) := (List.range grid.length).foldl (rowsStep ms grid) [noughtR ms]
/-- the order of rows -/
def lexLe (x y : List Int) : Bool := decide (x ≤ y)
def sortR (rows : List (List Int)) : List (List Int) := rows.mergeSort lexLe
def gridRows (ms : List Int) (grid : List (List Int)) : List (List Int) := sortR (gridRows0 ms grid)
/-- the weighted product -/
def dotR : List Int → List Int → List Int → Int
  | w :: ws, x :: xs, y :: ys => w * x * y + dotR ws xs ys
  | _, _, _ => 0
def weightsR (p : Nat) (kind : List Nat) : List Int := kind.map fun c => ((p ^ (kind.headD 0 - c) : Nat) : Int)
def facesB (p : Nat) (kind : List Nat) (rows : List (List Int)) (y : List Int) : Bool := rows.all fun x => dotR (weightsR p kind) x y % ((p ^ kind.headD 0 : Nat) : Int) == 0
def facesR (p : Nat) (kind : List Nat) (rows : List (List Int)) : List (List Int) := (memb (mods p kind)).filter (facesB p kind rows)
def kindCounts (p : Nat) (kind : List Nat) (rows : List (List Int)) : List Int :=
  (List.range (kind.headD 0 + 1)).map fun e => (((rows.filter fun r => timesR (mods p kind) ((p ^ e : Nat) : Int) r == noughtR (mods p kind)).length : Nat) : Int)
def restCounts (p : Nat) (kind : List Nat) (rows : List (List Int)) : List Int :=
  (List.range (kind.headD 0 + 1)).map fun e => ((((memb (mods p kind)).filter fun r => decide (timesR (mods p kind) ((p ^ e : Nat) : Int) r ∈ rows)).length : Nat) : Int) / ((rows.length : Nat) : Int)
def kindOfR (p : Nat) (kind : List Nat) (rows : List (List Int)) : List Int := fromCounts p (kindCounts p kind rows)
def restOfR (p : Nat) (kind : List Nat) (rows : List (List Int)) : List Int := fromCounts p (restCounts p kind rows)
def holdsR (one other : List (List Int)) : Bool := other.all fun r => decide (r ∈ one)

/-- the rooms that are drawn -/
structure RoomOk (p : Nat) (kind : List Nat) : Prop where
  pr : p = 2 ∨ p = 3 ∨ p = 5
  len : kind.length ≤ 4
  pos : ∀ c ∈ kind, 1 ≤ c
  fall : kind.Pairwise (· ≥ ·)
  sum : kind.sum ≤ 6
  size : p ^ kind.sum ≤ 81
end K82
/-! Rows as data, and the rules for them. -/
namespace K82
open PySem PySem.Spec PyProof.Rows L2
abbrev iD (r : List Int) : List PyData := r.map PyData.int
abbrev iL (r : List Int) : PyData := .list (r.map PyData.int)
abbrev iT (r : List Int) : PyData := .tuple (r.map PyData.int)
abbrev rL (rs : List (List Int)) : PyData := .list (rs.map iT)
abbrev rT (rs : List (List Int)) : PyData := .tuple (rs.map iT)
abbrev lL (rs : List (List Int)) : PyData := .list (rs.map iL)
abbrev nT (ns : List Nat) : PyData := .tuple (ns.map fun (n : Nat) => PyData.int (n : Int))
theorem at_map {α : Type} {xs : List α} {enc : α → PyData} {k : Nat} {x : α} (h : xs[k]? = some x) : atI (xs.map enc) (k : Int) = some (enc x) := atI_nat (by rw [List.getElem?_map, h] <;> rfl)
theorem at_int {r : List Int} {k : Nat} (h : k < r.length) : atI (r.map PyData.int) (k : Int) = some (.int (r.getD k 0)) := at_map (by rw [List.getD_eq_getElem?_getD, List.getElem?_eq_getElem h] <;> rfl)
theorem at_row {rs : List (List Int)} {enc : List Int → PyData} {k : Nat} (h : k < rs.length) : atI (rs.map enc) (k : Int) = some (enc (rs.getD k [])) := at_map (by rw [List.getD_eq_getElem?_getD, List.getElem?_eq_getElem h] <;> rfl)
section
variable {A : AS} {X : Cx} {a b e : Expr} {pos : Pos}
theorem ev_ixI {r : List Int} {k : Nat} (ha : Ev A X a (iL r)) (hb : Ev A X b (.int (k : Int))) (h : k < r.length) (hs : PlainIx b := by exact fun _ _ => rfl) : Ev A X (.Subscript a b pos) (.int (r.getD k 0)) := ev_ixL ha hb (at_int h) hs
theorem ev_ixIT {r : List Int} {k : Nat} (ha : Ev A X a (iT r)) (hb : Ev A X b (.int (k : Int))) (h : k < r.length) (hs : PlainIx b := by exact fun _ _ => rfl) : Ev A X (.Subscript a b pos) (.int (r.getD k 0)) := ev_ixT ha hb (at_int h) hs
/-- tuple(list), len(list) .. by their names -/
theorem ev_tupleL {p : Pos} {ds : List PyData} (hm : X.mg "tuple" = none) (ha : Ev A X e (.list ds)) (hs : starEach [e] X.env = (false, eval e X.env) :: starEach [] X.env := by rfl) (hg : Gl X "tuple" := by rfl) (hpl : (backTo pos (starEach [] X.env)).any (·.1) = false := by rfl) :
    Ev A X (.Call (.Name "tuple" p) [e] [] pos) (.tuple ds) := ev_callTy call_tuple_of hg hm (by decide +kernel) (ea_cons ha ea_nil hs) cl_tupleL (by decide) (by decide) hs hpl
theorem ev_tupleT {p : Pos} {ds : List PyData} (hm : X.mg "tuple" = none) (ha : Ev A X e (.tuple ds)) (hs : starEach [e] X.env = (false, eval e X.env) :: starEach [] X.env := by rfl) (hg : Gl X "tuple" := by rfl) (hpl : (backTo pos (starEach [] X.env)).any (·.1) = false := by rfl) :
    Ev A X (.Call (.Name "tuple" p) [e] [] pos) (.tuple ds) := ev_callTy call_tuple_of hg hm (by decide +kernel) (ea_cons ha ea_nil hs) cl_tupleT (by decide) (by decide) hs hpl
theorem ev_listL {p : Pos} {ds : List PyData} (hm : X.mg "list" = none) (ha : Ev A X e (.list ds)) (hs : starEach [e] X.env = (false, eval e X.env) :: starEach [] X.env := by rfl) (hg : Gl X "list" := by rfl) (hpl : (backTo pos (starEach [] X.env)).any (·.1) = false := by rfl) :
    Ev A X (.Call (.Name "list" p) [e] [] pos) (.list ds) := ev_callTy call_list_of hg hm (by decide +kernel) (ea_cons ha ea_nil hs) cl_listL (by decide) (by decide) hs hpl
theorem ev_listT {p : Pos} {ds : List PyData} (hm : X.mg "list" = none) (ha : Ev A X e (.tuple ds)) (hs : starEach [e] X.env = (false, eval e X.env) :: starEach [] X.env := by rfl) (hg : Gl X "list" := by rfl) (hpl : (backTo pos (starEach [] X.env)).any (·.1) = false := by rfl) :
    Ev A X (.Call (.Name "list" p) [e] [] pos) (.list ds) := ev_callTy call_list_of hg hm (by decide +kernel) (ea_cons ha ea_nil hs) cl_listT (by decide) (by decide) hs hpl
theorem ev_listMu {p : Pos} {l : Addr} {ds : List PyData} (k : Nat) (hm : X.mg "list" = none) (ha : EvT A X e (.adr l)) (hk : A.Mu[k]? = some (l, .lst ds)) (hs : starEach [e] X.env = (false, eval e X.env) :: starEach [] X.env := by rfl) (hg : Gl X "list" := by rfl) (hpl : (backTo pos (starEach [] X.env)).any (·.1) = false := by rfl) :
    Ev A X (.Call (.Name "list" p) [e] [] pos) (.list ds) := ev_callTy call_list_of hg hm (by decide +kernel) (ea_cons ha ea_nil hs) (cl_listMu hk) (by decide) (by decide) hs hpl
theorem ev_lenL {p : Pos} {ds : List PyData} (hm : X.mg "len" = none) (ha : Ev A X e (.list ds)) (hs : starEach [e] X.env = (false, eval e X.env) :: starEach [] X.env := by rfl) (hg : Gl X "len" := by rfl) (hpl : (backTo pos (starEach [] X.env)).any (·.1) = false := by rfl) :
    Ev A X (.Call (.Name "len" p) [e] [] pos) (.int (ds.length : Int)) := ev_callB call_len hg hm PySem.boot_len (ea_cons ha ea_nil hs) cl_lenL (by decide) (by decide) hs hpl
theorem ev_lenT {p : Pos} {ds : List PyData} (hm : X.mg "len" = none) (ha : Ev A X e (.tuple ds)) (hs : starEach [e] X.env = (false, eval e X.env) :: starEach [] X.env := by rfl) (hg : Gl X "len" := by rfl) (hpl : (backTo pos (starEach [] X.env)).any (·.1) = false := by rfl) :
    Ev A X (.Call (.Name "len" p) [e] [] pos) (.int (ds.length : Int)) := ev_callB call_len hg hm PySem.boot_len (ea_cons ha ea_nil hs) cl_lenT (by decide) (by decide) hs hpl
theorem ev_int1 {p : Pos} {i : Int} (hm : X.mg "int" = none) (ha : Ev A X e (.int i)) (hs : starEach [e] X.env = (false, eval e X.env) :: starEach [] X.env := by rfl) (hg : Gl X "int" := by rfl) (hpl : (backTo pos (starEach [] X.env)).any (·.1) = false := by rfl) :
    Ev A X (.Call (.Name "int" p) [e] [] pos) (.int i) := ev_callTy call_int1 hg hm (by decide +kernel) (ea_cons ha ea_nil hs) cl_int (by decide) (by decide) hs hpl
theorem ev_abs {p : Pos} {i : Int} (hm : X.mg "abs" = none) (ha : Ev A X e (.int i)) (hs : starEach [e] X.env = (false, eval e X.env) :: starEach [] X.env := by rfl) (hg : Gl X "abs" := by rfl) (hpl : (backTo pos (starEach [] X.env)).any (·.1) = false := by rfl) :
    Ev A X (.Call (.Name "abs" p) [e] [] pos) (.int (absI i)) := ev_callB call_abs hg hm (by decide +kernel) (ea_cons ha ea_nil hs) cl_abs (by decide) (by decide) hs hpl
theorem ev_min {p : Pos} {i j : Int} (hm : X.mg "min" = none) (ha : Ev A X a (.int i)) (hb : Ev A X b (.int j)) (hc : X.calm = true := by rfl) (hs : starEach [a, b] X.env = (false, eval a X.env) :: starEach [b] X.env := by rfl) (hs1 : starEach [b] X.env = (false, eval b X.env) :: starEach [] X.env := by rfl) (hg : Gl X "min" := by rfl) (hpl : (backTo pos (starEach [b] X.env)).any (·.1) = false := by rfl) :
    Ev A X (.Call (.Name "min" p) [a, b] [] pos) (.int (if j < i then j else i)) := ev_callB (call_min2 hc) hg hm (by decide +kernel) (ea_cons ha (ea_cons hb ea_nil hs1) hs) cl_min (by decide) (by decide) hs hpl
theorem ev_sum {p : Pos} {ns : List Int} (hm : X.mg "sum" = none) (ha : Ev A X e (iL ns)) (hc : X.calm = true := by rfl) (hs : starEach [e] X.env = (false, eval e X.env) :: starEach [] X.env := by rfl) (hg : Gl X "sum" := by rfl) (hpl : (backTo pos (starEach [] X.env)).any (·.1) = false := by rfl) :
    Ev A X (.Call (.Name "sum" p) [e] [] pos) (.int ns.sum) := ev_callB (cr_sum hc) hg hm (by decide +kernel) (ea_cons ha ea_nil hs) cl_sumL (by decide) (by decide) hs hpl
end
end K82
/-! Rules of the logic: dicts whose keys are rows (tuples of ints), every value True. -/
namespace K82
open PySem PySem.Spec PyProof.Rows L2

/-! ### keys -/
def addK (ks : List (List Int)) (r : List Int) : List (List Int) := if r ∈ ks then ks else ks ++ [r]
def tabT (ks : List (List Int)) : List (List Key × V) := ks.map fun r => (keyOf r, V.bl true)
theorem keyOf_inj {r t : List Int} (h : keyOf r = keyOf t) : r = t := by
  unfold keyOf at h
  induction r generalizing t with
  | nil =>
    cases t with
    | nil => rfl
    | cons b t => simp at h
  | cons a r ih =>
    cases t with
    | nil => simp at h
    | cons b t =>
      rw [List.map_cons, List.map_cons] at h
      injection h with h1 h2
      injection h1 with h1
      rw [h1, ih h2]
theorem keyOf_kV (r : List Int) : (keyOf r).map kV = r.map V.int := by
  unfold keyOf
  rw [List.map_map]
  rfl
theorem tab_val (ks : List (List Int)) (r : List Int) : (valV (tabT ks) (keyOf r)).isSome = decide (r ∈ ks) := by
  rw [← valV_any]
  unfold tabT
  rw [List.any_map]
  induction ks with
  | nil => rfl
  | cons k ks ih =>
    rw [List.any_cons, ih]
    by_cases e : k = r
    · subst e
      simp
    · have e2 : ¬ keyOf k = keyOf r := fun z => e (keyOf_inj z)
      have e3 : ¬ r = k := fun z => e z.symm
      simp [e2, e3]
theorem tab_put (ks : List (List Int)) (r : List Int) : putK (tabT ks) (keyOf r) (V.bl true) = tabT (addK ks r) := by
  unfold putK
  rw [valV_any, tab_val]
  unfold addK
  by_cases e : r ∈ ks
  · rw [if_pos (by simpa using e), if_pos e]
    unfold tabT
    rw [List.map_map]
    refine List.map_congr_left fun k _ => ?_
    show (if keyOf k = keyOf r then (keyOf k, V.bl true) else (keyOf k, V.bl true)) = _
    split <;> rfl
  · rw [if_neg (by simpa using e), if_neg e]
    unfold tabT
    rw [List.map_append] <;> rfl
theorem da_key {G : Hp} {v : V} {r : List Int} (h : Da G v (iT r)) : ∃ b, v = .ref b ∧ G b = some (.tup ((keyOf r).map kV)) := by
  obtain ⟨a, xs, rfl, h1, h2⟩ := h.tup_inv
  rw [h2.ints] at h1
  exact ⟨a, rfl, by rw [keyOf_kV]; exact h1⟩

section
variable {B : Bs} {A : AS} {X : Cx} {a b c e : Expr} {es : List Expr} {pos : Pos} {st : Stmt} {rest body : List Stmt} {P : Po}
theorem sizeLine_big : 100001 ≤ sizeLine := by decide
/-- a known thing of one's own that was made underway -/
theorem Cfg.own' {G0 H0 G H : Hp} {σ : L2.St} {l : Addr} {m : MTy} (C : Cfg A G0 σ H0) (hl : H0 l = none) (F : Fr A.hd H0 G0 H G) (gl : G l = none) (hm : Mo G H l m) : Cfg { A with Mu := (l, m) :: A.Mu } G σ H := by
  have C2 := C.step F
  have nh : A.hd ≠ some l := fun e => by
    obtain ⟨⟨_, _, _, _, _, _, h1, _⟩, _⟩ := C.hand l e
    rw [hl] at h1
    cases h1
  have no : ∀ (j : Nat) (n : MTy), A.Mu[j]? = some (l, n) → False := fun j n q => by
    obtain ⟨_, _, f2⟩ := C.mu j l n q
    obtain ⟨o, h, _⟩ := f2.there
    rw [hl] at h
    cases h
  refine ⟨C2.gh, C2.hand, C2.len, C2.sl, fun j l' n q => ?_, fun i j l' n n' q1 q2 => ?_⟩
  · cases j with
    | zero =>
      have q : some (l, m) = some (l', n) := q
      cases q
      exact ⟨gl, nh, hm⟩
    | succ j => exact C2.mu j l' n q
  · cases i with
    | zero =>
      have q1 : some (l, m) = some (l', n) := q1
      cases q1
      cases j with
      | zero => rfl
      | succ j => exact (no j n' q2).elim
    | succ i =>
      have q1 : A.Mu[i]? = some (l', n) := q1
      cases j with
      | zero =>
        have q2 : some (l, m) = some (l', n') := q2
        cases q2
        exact (no i n q1).elim
      | succ j => exact congrArg _ (C.nd i j l' n n' q1 q2)
/-- name = a new own object made underway -/
theorem so_own' (i : Nat) {x : Str} {px : Pos} {m : MTy} (hNd : X.N.Nodup) (he : ∀ G σ H, Cfg A G σ H → ∀ Q : VK, (∀ H2 G2 l, Fr A.hd H G H2 G2 → H l = none → G2 l = none → Mo G2 H2 l m → Q (.ref l) H2) → SE X e σ H Q)
    (k : ∀ l, P.nx { hd := A.hd, Γ := A.Γ.set i (some (.adr l)), Mu := (l, m) :: A.Mu }) (hN : X.N[i]? = some x := by rfl) (hx : Loc X.env.scope x := by first | exact Or.inl rfl | exact Or.inr rfl)
    (hs : swapsWith e (some (.Name x px)) pos.line X.env = pure false := by rfl) (hf : X.fn x = true ∨ X.env.scope.names.lookup x = some .local := by first | exact .inl rfl | exact .inr rfl) : So B X (.Assign [.Name x px] e pos) A P := fun Z σ H ⟨h0, G, h1, h2, h3, h4⟩ =>
  (ps_set hNd hN hx pe_s hs hf).s (show SE X e σ H fun x H1 => (P.ends B Z).nx (σ.set i (some x)) H1 from he G σ H h3 _ fun H2 G2 l F hl gl hm => by
    have C2 := (h3.own' hl F gl hm).put (t := .adr l) (v := .ref l) i rfl
    refine ⟨_, k l, h0, G2, h1.trans F.gg, h2.trans (h0 ▸ F), C2, fun j l' n q => ?_⟩
    cases j with
    | zero =>
      have q : some (l, m) = some (l', n) := q
      cases q
      cases z : B.H l with
      | none => rfl
      | some u =>
        obtain ⟨o', h', _⟩ := h2.ex l u z
        rw [hl] at h'
        cases h'
    | succ j => exact h4 j l' n q)

/-! ### stores and tests -/
/-- d[row] = True -/
theorem so_dput (i k : Nat) {x : Str} {l : Addr} {ks : List (List Int)} {r : List Int} {px ps : Pos} {j : Nat} {pc : Pos} (hu : X.A.units + 1 < cLine) (hk : A.Mu[k]? = some (l, .dict ks)) (hl : ks.length < 100000) (he : Ev A X e (iT r)) (h : P.nx { A with Mu := A.Mu.set k (l, .dict (addK ks r)) })
    (hΓ : A.Γ[i]? = some (some (.adr l)) := by rfl) (hN : X.N[i]? = some x := by rfl) (hv : Vis X.env.scope x := by first | exact Or.inl rfl | exact Or.inr (Or.inl rfl) | exact Or.inr (Or.inr rfl))
    (hd : (x == ("__debug__" : Str)) = false := by decide) (hcd : (x == ("__classdict__" : Str)) = false := by decide)
    (hs : swapsWith (.Constant (.bool true) j pc) (some (.Subscript (.Name x px) e ps)) pos.line X.env = pure false := by rfl) :
    So B X (.Assign [.Subscript (.Name x px) e ps] (.Constant (.bool true) j pc) pos) A P := fun Z σ H ⟨h0, G, h1, h2, h3, h4⟩ => by
  refine (ps_dput hu (pe_var hN hv hd hcd) pe_s pe_bl hs).s ?_
  obtain ⟨v, e1, e2⟩ := h3.sl i _ hΓ
  have e2 : v = .ref l := e2
  subst e2
  obtain ⟨g0, g1, g2⟩ := h3.mu k l _ hk
  show ∃ v, σ[i]? = some (some v) ∧ SE X e σ H fun y H3 => ∃ a H4, v = .ref a ∧ DPut H3 a y (.bl true) H4 ∧ (P.ends B Z).nx σ H4
  refine ⟨.ref l, e1, he G σ H h3 _ fun w H1 G1 t F p hw => ?_⟩
  subst p
  obtain ⟨b, rfl, hb⟩ := da_key hw
  have g2 : H l = some (.dT (tabT ks)) := g2
  have g4 := F.keep l _ g1 g2
  have gl : G1 l = none := F.fr l _ g2 g0 rfl
  have F2 : Fr B.hd B.H B.G H1 G1 := h2.trans (h0 ▸ F)
  have sz : (tabT ks).length < sizeLine := by
    unfold tabT
    rw [List.length_map]
    exact Nat.lt_of_lt_of_le hl (Nat.le_trans (by omega) sizeLine_big)
  refine ⟨l, _, rfl, DPut.t g4 (F.gh _ _ hb) sz, _, h, h0, G1, h1.trans F.gg, F2.mut (h4 k l _ hk) gl (by rw [← h0]; exact g1), (h3.step F).mutate hk (show upd H1 l _ l = _ by rw [upd_same, tab_put] <;> rfl), fun j l' n q => ?_⟩
  have q : (A.Mu.set k (l, MTy.dict (addK ks r)))[j]? = some (l', n) := q
  by_cases hj : k = j
  · subst hj
    rw [List.getElem?_set_self (List.getElem?_eq_some_iff.mp hk).1] at q
    cases q
    exact h4 k l _ hk
  · rw [List.getElem?_set_ne hj] at q
    exact h4 j l' n q
/-- row in d, row not in d -/
theorem tv_din (k : Nat) {l : Addr} {ks : List (List Int)} {r : List Int} (hu : X.A.units + 1 < cLine) (ha : Ev A X a (iT r)) (hb : EvT A X b (.adr l)) (hk : A.Mu[k]? = some (l, .dict ks)) (hm : behindInMarks .In b = false := by rfl) : Tv A X (.Compare a [.In] [b] pos) (decide (r ∈ ks)) := fun G σ H C Q q =>
  (pt_cmp (pc_din hu pe_s pe_s) hm).s (show SE X a σ H fun y H1 => SE X b σ H1 fun x H2 => ∃ d o, x = .ref d ∧ DGet H2 d y o ∧ ∃ c, V.bl o.isSome = .bl c ∧ Q c H2 from ha G σ H C _ fun y H1 G1 ta F1 p1 h1 => hb G1 σ H1 (C.step F1) _ fun x H2 G2 tb F2 p2 h2 => by
    subst p1 p2
    have h2 : x = .ref l := h2
    subst h2
    obtain ⟨b, rfl, hb⟩ := da_key h1
    obtain ⟨_, _, g2⟩ := ((C.step F1).step F2).mu k l _ hk
    have g2 : H2 l = some (.dT (tabT ks)) := g2
    exact ⟨l, _, rfl, DGet.t g2 (F2.gh _ _ (F2.gg _ _ hb)), _, rfl, q _ H2 G2 (F1.trans F2) (tab_val ks r)⟩)
theorem tv_dnotin (k : Nat) {l : Addr} {ks : List (List Int)} {r : List Int} (hu : X.A.units + 1 < cLine) (ha : Ev A X a (iT r)) (hb : EvT A X b (.adr l)) (hk : A.Mu[k]? = some (l, .dict ks)) (hm : behindInMarks .NotIn b = false := by rfl) : Tv A X (.Compare a [.NotIn] [b] pos) (!decide (r ∈ ks)) := fun G σ H C Q q =>
  (pt_cmp (pc_dnotin hu pe_s pe_s) hm).s (show SE X a σ H fun y H1 => SE X b σ H1 fun x H2 => ∃ d o, x = .ref d ∧ DGet H2 d y o ∧ ∃ c, V.bl (!o.isSome) = .bl c ∧ Q c H2 from ha G σ H C _ fun y H1 G1 ta F1 p1 h1 => hb G1 σ H1 (C.step F1) _ fun x H2 G2 tb F2 p2 h2 => by
    subst p1 p2
    have h2 : x = .ref l := h2
    subst h2
    obtain ⟨b, rfl, hb⟩ := da_key h1
    obtain ⟨_, _, g2⟩ := ((C.step F1).step F2).mu k l _ hk
    have g2 : H2 l = some (.dT (tabT ks)) := g2
    exact ⟨l, _, rfl, DGet.t g2 (F2.gh _ _ (F2.gg _ _ hb)), _, rfl, q _ H2 G2 (F1.trans F2) (by rw [tab_val])⟩)

/-! ### {row: True} -/
theorem d_set1 {pins : List (Addr × Obj)} {σ : L2.St} {H : Hp} {s : Shared} {d b : Addr} {kvs : List (List Key × V)} {k : List Key} {v : V} {u : Value} {Q : Unit → Shared → Prop} (hu : X.A.units < cLine) (I : Inv X pins σ H s) (hd : H d = some (.dT kvs)) (hb : H b = some (.tup (k.map kV))) (hz : kvs.length < sizeLine) (rv : RelV v u)
    (h : ∀ s', Inv X pins σ (upd H d (.dT (putK kvs k v))) s' → Q () s') : wpAny (model X.prog X.w) X.A (dictSet d (.ref b) u) Q X.xe s := by
  obtain ⟨z, nm, ents, rel, dd⟩ := dt_of I.hok hd
  have el := Paired.length rel
  have l2 := length_putK kvs k v
  refine wpAny_dictSet_heap (hsz := by omega) (show (tupleKind (mixKind X.prog X.w)).room X.A from hu) (key_of I.hok hb) dd fun h' dd' hs => h _ ?_
  obtain ⟨q, es, ep, hq, f2, f3, f4, _, f5⟩ := dd'
  refine d_write I (by rw [hd]; exact True.intro) hs ⟨q, hq⟩ ⟨by omega, nm, _, (rel.put k hb rv).keeps fun c ys ec => ?_, q, es, ep, hq, f2, f3, f4, f5⟩
  rw [upd_ne (ne_of ec hd fun z => nomatch z)]
  exact ec
def tDisp1 (tk tv : TE) : TE := fun σ H Q => ∀ p, H p = none → tk σ (upd H p (.dT [])) fun x H1 => tv σ H1 fun y H2 => ∃ b k, x = .ref b ∧ H2 b = some (.tup (k.map kV)) ∧ H2 p = some (.dT []) ∧ Q (.ref p) (upd H2 p (.dT (putK [] k y)))
theorem pe_disp1 {ke ve : Expr} {tk tv : TE} (hu : X.A.units < cLine) (hk : PE X ke tk) (hv : PE X ve tv) : PE X (.Dict [some ke] [ve] pos) (tDisp1 tk tv) := by
  refine ⟨fun pins s σ H Q I q => ?_⟩
  have hn := I.hok.fresh (Nat.le_refl s.heap.objs.size)
  have I1 := I.laid (o := .dT []) (t' := s.toks) (fun _ _ e => Heap.get?_push_of_some _ e) (Nat.le_refl s.heap.objs.size) (dt_empty s.heap I.big)
  refine wpAny_Dict_any rfl rfl (fun e => nomatch e) (show 1 ≤ 15 by decide) ?_
  refine pairTrees_cons_walk (thn (hk.run pins _ σ _ _ I1 (q _ hn)) fun kv s1 ⟨x, H1, I2, rx, q1⟩ => thn (hv.run pins s1 σ H1 _ I2 q1) fun vv s2 ⟨y, H2, I3, ry, b, k, ex, hb, hp, q2⟩ => pairTrees_nil_walk ?_)
  subst ex
  obtain rfl : kv = Value.ref b := rx
  show wpAny _ _ (forIn [(Value.ref b, vv)] PUnit.unit _) _ _ _
  rw [List.forIn_cons]
  refine wpAny_bind (wpAny_bind (d_set1 hu I3 hp hb (by decide) ry fun s3 I4 => wpAny_pure ?_))
  show wpAny _ _ (forIn ([] : List (Value × Value)) PUnit.unit _) _ _ _
  rw [List.forIn_nil]
  exact wpAny_pure ⟨.ref s.heap.objs.size, _, I4, rfl, q2⟩
theorem so_disp1 (i : Nat) {x : Str} {px pd pc : Pos} {n : Nat} {r : List Int} (hu : X.A.units < cLine) (hNd : X.N.Nodup) (he : Ev A X e (iT r))
    (k : ∀ l, P.nx { hd := A.hd, Γ := A.Γ.set i (some (.adr l)), Mu := (l, .dict [r]) :: A.Mu }) (hN : X.N[i]? = some x := by rfl) (hx : Loc X.env.scope x := by first | exact Or.inl rfl | exact Or.inr rfl)
    (hs : swapsWith (.Dict [some e] [.Constant (.bool true) n pc] pd) (some (.Name x px)) pos.line X.env = pure false := by rfl) (hf : X.fn x = true ∨ X.env.scope.names.lookup x = some .local := by first | exact .inl rfl | exact .inr rfl) :
    So B X (.Assign [.Name x px] (.Dict [some e] [.Constant (.bool true) n pc] pd) pos) A P :=
  so_own' (m := .dict [r]) i hNd (fun G σ H C Q q => (pe_disp1 hu pe_s pe_bl).s (show ∀ p, H p = none → SE X e σ (upd H p (.dT [])) fun y H1 => ∃ b k, y = .ref b ∧ H1 b = some (.tup (k.map kV)) ∧ H1 p = some (.dT []) ∧ Q (.ref p) (upd H1 p (.dT (putK [] k (.bl true)))) from fun p hp => by
    have F0 := (Fr.refl (hd := A.hd) C.gh).newT (o := .dT []) hp
    have nh : A.hd ≠ some p := fun e => by
      obtain ⟨⟨_, _, _, _, _, _, h1, _⟩, _⟩ := C.hand p e
      rw [hp] at h1
      cases h1
    have gp : G p = none := C.gh.free hp
    refine he G σ _ (C.step F0) _ fun v H1 G1 t F pt hv => ?_
    subst pt
    obtain ⟨b, rfl, hb⟩ := da_key hv
    have p1 := F.keep p _ nh upd_same
    have g1 : G1 p = none := F.fr p _ upd_same gp rfl
    refine ⟨b, keyOf r, rfl, F.gh _ _ hb, p1, q _ G1 p ((F0.trans F).mut hp g1 nh) hp g1 ?_⟩
    show upd H1 p _ p = some (.dT (tabT [r]))
    rw [upd_same, show putK [] (keyOf r) (V.bl true) = tabT [r] from tab_put [] r])) k hN hx hs hf

/-! ### list(d.keys()) -/
def tKeysL (td : TE) : TE := fun σ H Q => td σ H fun x H1 => ∃ d kvs, x = .ref d ∧ H1 d = some (.dT kvs) ∧ ∀ p bs, H1 p = none → IsKeys H1 kvs bs → Q (.ref p) (upd H1 p (.lst (bs.map V.ref)))
theorem pe_keysL {td : TE} {ap cp p : Pos} (hc : X.calm = true) (hg : Gl X "list") (hm : X.mg "list" = none) (he : PE X e td) (hbase : attributeBase e "keys" X.env (eval e X.env) = eval e X.env := by rfl) (hline : (ap.endLine == cp.line) = true := by rfl)
    (na : starEach [.Call (.Attribute e "keys" ap) [] [] cp] X.env = (false, eval (.Call (.Attribute e "keys" ap) [] [] cp) X.env) :: starEach [] X.env := by rfl) : PE X (.Call (.Name "list" p) [.Call (.Attribute e "keys" ap) [] [] cp] [] pos) (tKeysL td) := by
  refine ⟨fun pins s σ H Q I h => ?_⟩
  refine Call_ (ld_blt I hg hm boot_list (PyProof.Rows.callWith_type1 (args_cons ?_ na) na))
  refine wpAny_Call_method (T := "dict") (id := "dict.keys") hbase rfl hline F.plainAttrs_dict F.slot_dict_keys F.type_dict_keys (thn (he.run pins s σ H _ I h) fun u s1 ⟨x, H1, I1, rx, d, kvs, ex, hd, q⟩ => ?_)
  subst ex
  obtain rfl : u = Value.ref d := rx
  obtain ⟨z, nm, ks, rel, o, es, ep, ho, hx, hdt, ent, nd⟩ := (show ObjOk X.prog X.w H1 s1.heap d (.dT kvs) from I1.hok d _ hd)
  have l1 : es.size = ks.length := size_of_entries ent
  have l2 : kvs.length = ks.length := Paired.length rel
  have raw : s1.heap.DictRaw d es ep := ⟨o, ho, hx, hdt⟩
  refine ⟨⟨o, ho, hx.1⟩, fun a ea => ?_, ?_⟩
  · cases ea
    exact ⟨o, ho, hx.2.1⟩
  · show wpAny _ _ (callWith cp (.builtin "dict.keys") [.ref d] [] []) _ X.xe s1
    refine method_meetsIn F.slot_dict_keys F.entry_dict_keys rfl (PySem.evalArgs_none ⟨rfl, ⟨o, ho, hx.1⟩, F.args_dict_keys_1 _, _, meets_dict_keys_raw d nm, ⟨es, ep, raw⟩, ?_⟩)
    refine args_nil ?_
    have I2 : Inv X pins σ H1 { s1 with heap := s1.heap.push { cls := .type "dict_keys", data := .fields #[.ref d] } } := I1.kept (t' := s1.toks) fun b ob w => Heap.get?_push_of_some _ w
    refine PySem.W.kdl_call (KdlSrc.rawKeys (r := s1.heap.objs.size) (d := d) (es := es) (ep := ep)) (I2.ok.hd hc) ⟨⟨_, Heap.get?_push_size _ rfl, rfl, rfl⟩, raw.push _⟩ (by omega) fun h' tk acc' c' kp el it => ?_
    have ea : acc'.toList = ks.map fun w => Value.ref w.2.1 := by
      have hl : acc'.toList.length = ks.length := by rw [Array.length_toList, it.1, l1]
      refine List.ext_getElem? fun j => ?_
      rw [List.getElem?_map]
      by_cases hj : j < ks.length
      · have hj2 : j < acc'.toList.length := by omega
        obtain ⟨hi, hv⟩ := it.2 j acc'.toList[j] (by rw [← Array.getElem?_toList]; exact List.getElem?_eq_getElem hj2)
        have qe := entry_at ent j
        rw [Array.getElem?_eq_getElem hi, List.getElem?_eq_getElem hj, Option.map_some] at qe
        have e2 := Option.some.inj qe
        rw [List.getElem?_eq_getElem hj2, List.getElem?_eq_getElem hj, Option.map_some, hv, e2] <;> rfl
      · rw [List.getElem?_eq_none (by omega), List.getElem?_eq_none (by omega)] <;> rfl
    have eb : acc'.toList = (ks.map fun w => w.2.1).map Value.ref := by rw [ea, List.map_map] <;> rfl
    have hz : ((ks.map fun w => w.2.1).map V.ref).length ≤ sizeLine := by rw [List.length_map, List.length_map]; omega
    refine ⟨.ref _, _, I2.laid (t' := tk) (o := .lst ((ks.map fun w => w.2.1).map V.ref)) kp (Nat.le_refl _) ⟨hz, acc'.toList, c', by rw [eb]; exact vals_refs _, ?_⟩, rfl, q _ _ (I2.hok.fresh (Nat.le_refl _)) (isKeys_of rel)⟩
    rw [Array.toArray_toList]
    exact el
/-- what is known grows by tuples that stand -/
def tellG (G H : Hp) (bs : List Addr) : Hp := fun b => match G b with
  | some o => some o
  | none => if b ∈ bs then H b else none
theorem tell_at {G H : Hp} {bs : List Addr} (e : Same G H) {b : Addr} (h : b ∈ bs) : tellG G H bs b = H b := by
  unfold tellG
  cases q : G b with
  | some o => exact (e b o q).symm
  | none => exact if_pos h
theorem isKeys_all {H : Hp} : ∀ {ks : List (List Int)} {bs : List Addr}, IsKeys H (tabT ks) bs → Paired (fun r b => H b = some (.tup (r.map V.int))) ks bs
  | [], _, h => by
    cases h
    exact .nil
  | r :: ks, _, h => by
    cases h with
    | cons h t => exact .cons (by rw [← keyOf_kV]; exact h) (isKeys_all t)
theorem keys_da {G : Hp} : ∀ {ks : List (List Int)} {bs : List Addr}, Paired (fun r b => G b = some (.tup (r.map V.int))) ks bs → DaAll G (bs.map V.ref) (ks.map iT)
  | _, _, .nil => .nil
  | _, _, .cons h t => .cons (.tup h (DaAll.of_ints _)) (keys_da t)
theorem paired_mem {α β : Type} {R R' : α → β → Prop} : ∀ {xs : List α} {ys : List β}, Paired R xs ys → (∀ x y, y ∈ ys → R x y → R' x y) → Paired R' xs ys
  | _, _, .nil, _ => .nil
  | _, _, .cons h t, k => .cons (k _ _ List.mem_cons_self h) (paired_mem t fun x y hy => k x y (List.mem_cons_of_mem _ hy))
theorem paired_all {α β : Type} {R : α → β → Prop} : ∀ {xs : List α} {ys : List β}, Paired R xs ys → ∀ y ∈ ys, ∃ x, R x y
  | _, _, .nil, _, h => nomatch h
  | _, _, .cons h t, y, hy => by
    rcases List.mem_cons.mp hy with e | hy
    · subst e
      exact ⟨_, h⟩
    · exact paired_all t y hy
theorem ev_keysL (k : Nat) {l : Addr} {ks : List (List Int)} {ap cp p : Pos} (hc : X.calm = true) (hg : Gl X "list") (hm : X.mg "list" = none) (he : EvT A X e (.adr l)) (hk : A.Mu[k]? = some (l, .dict ks)) (hbase : attributeBase e "keys" X.env (eval e X.env) = eval e X.env := by rfl) (hline : (ap.endLine == cp.line) = true := by rfl)
    (na : starEach [.Call (.Attribute e "keys" ap) [] [] cp] X.env = (false, eval (.Call (.Attribute e "keys" ap) [] [] cp) X.env) :: starEach [] X.env := by rfl) : Ev A X (.Call (.Name "list" p) [.Call (.Attribute e "keys" ap) [] [] cp] [] pos) (rL ks) := fun G σ H C Q q =>
  (pe_keysL hc hg hm pe_s hbase hline na).s (show SE X e σ H fun x H1 => ∃ d kvs, x = .ref d ∧ H1 d = some (.dT kvs) ∧ ∀ p bs, H1 p = none → IsKeys H1 kvs bs → Q (.ref p) (upd H1 p (.lst (bs.map V.ref))) from he G σ H C _ fun x H1 G1 t F pt hx => by
    subst pt
    have hx : x = .ref l := hx
    subst hx
    obtain ⟨_, _, g2⟩ := (C.step F).mu k l _ hk
    refine ⟨l, tabT ks, rfl, g2, fun d bs hd hb => ?_⟩
    have hp := isKeys_all hb
    have same1 : Same G1 (tellG G1 H1 bs) := fun b o e => by
      unfold tellG
      rw [e] <;> rfl
    have same2 : Same (tellG G1 H1 bs) H1 := fun b o e => by
      unfold tellG at e
      cases z : G1 b with
      | some u =>
        rw [z] at e
        cases e
        exact F.gh b _ z
      | none =>
        rw [z] at e
        have e : (if b ∈ bs then H1 b else none) = some o := e
        split at e
        · exact e
        · cases e
    have F2 := F.tell same1 same2 fun b o e n => by
      unfold tellG at e
      rw [n] at e
      have e : (if b ∈ bs then H1 b else none) = some o := e
      split at e
      · rename_i hmem
        obtain ⟨r, hr⟩ := paired_all hp b hmem
        rw [hr] at e
        cases e
        rfl
      · cases e
    have F3 := F2.new (o := .lst (bs.map V.ref)) hd
    refine q _ _ _ _ F3 rfl (.lst upd_same ((keys_da (paired_mem hp fun r b hb h => ?_)).mono (same_new (F2.gh.free hd))))
    rw [tell_at F.gh hb]
    exact h)
end
end K82
/-! Rules of the logic: zip of two or three, each a list or a tuple. -/
namespace K82
open PySem PySem.Spec PyProof.Rows L2

/-! ### one source: a tuple (true) or a list (false) -/
def SqS (K : PySem.W.Frag) (H : Hp) : Bool → Addr → List V → Prop
  | true, a, xs => SqT K H a xs
  | false, a, xs => SqL K H a xs
def srcIt (h : Heap) : Bool → Addr → Addr → Nat → Prop
  | true, it, a, i => h.IsTupleIter it a i
  | false, it, a, i => h.IsListIter it a i
def srcAt (h : Heap) : Bool → Addr → Array Value → Prop
  | true, a, its => h.IsTuple a its
  | false, a, its => h.IsList a its
def srcO : Bool → Addr → Obj
  | true, a => { cls := .type "tuple_iterator", data := .fields #[.ref a, .int 0 0] }
  | false, a => { cls := .type "list_iterator", data := .fields #[.ref a, .int 0 0] }
theorem src_inv {X : Cx} {pins : List (Addr × Obj)} {σ : L2.St} {H : Hp} {s : Shared} (I : Inv X pins σ H s) : ∀ {k : Bool} {a : Addr} {xs : List V}, SqS X.K H k a xs → ∃ its : List Value, Vals xs its ∧ srcAt s.heap k a its.toArray
  | true, _, _, h => let ⟨its, r, p, _⟩ := I.tuple h; ⟨its, r, p⟩
  | false, _, _, h => let ⟨its, r, p, _⟩ := I.list h; ⟨its, r, p.isList⟩
theorem src_inj {X : Cx} {pins : List (Addr × Obj)} {σ : L2.St} {H : Hp} {s : Shared} (I : Inv X pins σ H s) : ∀ {k : Bool} {a : Addr} {xs ys : List V}, SqS X.K H k a xs → SqS X.K H k a ys → xs = ys
  | true, _, _, _, h, h' => I.tuple_inj h h'
  | false, _, _, _, h, h' => I.list_inj h h'
theorem src_lt {h : Heap} : ∀ {k : Bool} {a : Addr} {its : Array Value}, srcAt h k a its → a < h.objs.size
  | true, _, _, ⟨_, e, _⟩ => Heap.lt_size e
  | false, _, _, ⟨_, e, _⟩ => Heap.lt_size e
theorem src_draws {prog : Program} {w : World} {A : Around} (hh : A.handled = none) (it a : Addr) (hne : a ≠ it) (its : Array Value) : ∀ k : Bool, Draws prog w A it [it, a] its.size (fun i v => its[i]? = some v) (fun i h => srcIt h k it a i ∧ srcAt h k a its)
  | true => Draws.tuple hh it a hne its
  | false => Draws.list hh it a hne its
theorem src_begins (a : Addr) (its : Array Value) : ∀ k : Bool, Begins (.ref a) (srcO k a) fun h => srcAt h k a its
  | true => begins_tuple a its
  | false => begins_list a its
theorem src_start {h : Heap} {it a : Addr} : ∀ k : Bool, h.get? it = some (srcO k a) → srcIt h k it a 0
  | true, e => ⟨_, e, rfl, rfl⟩
  | false, e => ⟨_, e, rfl, rfl⟩
theorem srcIt.keep {h h' : Heap} {it a : Addr} {i : Nat} (e : ∀ o, h.get? it = some o → h'.get? it = some o) : ∀ {k : Bool}, srcIt h k it a i → srcIt h' k it a i
  | true, ⟨o, x, r⟩ => ⟨o, e o x, r⟩
  | false, ⟨o, x, r⟩ => ⟨o, e o x, r⟩
theorem srcIt.obj {h : Heap} {it a : Addr} {i : Nat} : ∀ {k : Bool}, srcIt h k it a i → ∃ o, h.get? it = some o ∧ ∀ v, o.data ≠ .cell v
  | true, ⟨o, x, _, d⟩ => ⟨o, x, fun v z => by rw [d] at z; cases z⟩
  | false, ⟨o, x, _, d⟩ => ⟨o, x, fun v z => by rw [d] at z; cases z⟩

/-! ### three -/
structure Zk3 where
  k1 : Bool
  a1 : Addr
  k2 : Bool
  a2 : Addr
  k3 : Bool
  a3 : Addr
def It3 (K : PySem.W.Frag) (z : Zk3) : It :=
  ⟨fun i H => ∃ xs ys zs, SqS K H z.k1 z.a1 xs ∧ SqS K H z.k2 z.a2 ys ∧ SqS K H z.k3 z.a3 zs ∧ i < xs.length ∧ xs.length = ys.length ∧ xs.length = zs.length,
    fun i H v H' => ∃ T x y u, v = .ref T ∧ H T = none ∧ H' = upd H T (.tup [x, y, u]) ∧ (∀ xs, SqS K H z.k1 z.a1 xs → xs[i]? = some x) ∧ (∀ ys, SqS K H z.k2 z.a2 ys → ys[i]? = some y) ∧ ∀ zs, SqS K H z.k3 z.a3 zs → zs[i]? = some u,
    fun i H => ∃ xs ys zs, SqS K H z.k1 z.a1 xs ∧ SqS K H z.k2 z.a2 ys ∧ SqS K H z.k3 z.a3 zs ∧ i = xs.length ∧ xs.length = ys.length ∧ xs.length = zs.length⟩
abbrev cells3 (n : Nat) : List Addr := [n + 5, n + 3, n + 4, n, n + 1, n + 2]
theorem mem3 {n c : Nat} (h : c ∈ cells3 n) : c = n + 5 ∨ c = n + 3 ∨ c = n + 4 ∨ c = n ∨ c = n + 1 ∨ c = n + 2 := by simpa [cells3] using h
theorem sub3 {n c : Addr} (h : c ∈ [n + 5, n + 4, n, n + 1, n + 2]) : c ∈ cells3 n := by
  have q : c = n + 5 ∨ c = n + 4 ∨ c = n ∨ c = n + 1 ∨ c = n + 2 := by simpa using h
  rcases q with q | q | q | q | q <;> rw [q] <;> simp [cells3]
theorem nn {a b : Nat} (h : a ≠ b) : @Ne Addr a b := h
theorem nm2 {c x y : Nat} (h1 : c ≠ x) (h2 : c ≠ y) : ¬ (@List.Mem Addr c [x, y]) := fun h => by
  rcases List.mem_cons.mp (show c ∈ [x, y] from h) with e | h
  · exact h1 e
  · exact h2 (List.mem_singleton.mp h)
theorem sep3n (n a1 a2 a3 : Nat) (h1 : a1 < n) (h2 : a2 < n) (h3 : a3 < n) : ZipSep3 (n + 5) (n + 3) (n + 4) n (n + 1) (n + 2) [n, a1] [n + 1, a2] [n + 2, a3] :=
  ⟨nn (by omega), nn (by omega), nn (by omega), nn (by omega), List.mem_cons_self, nm2 (by omega) (by omega), nm2 (by omega) (by omega), nn (by omega), List.mem_cons_self, nm2 (by omega) (by omega), nm2 (by omega) (by omega), nn (by omega), List.mem_cons_self, nm2 (by omega) (by omega), nm2 (by omega) (by omega),
    nm2 (by omega) (by omega), nm2 (by omega) (by omega), nm2 (by omega) (by omega), nm2 (by omega) (by omega), nm2 (by omega) (by omega), nm2 (by omega) (by omega)⟩
theorem sep3 {n : Nat} {z : Zk3} (h1 : z.a1 < n) (h2 : z.a2 < n) (h3 : z.a3 < n) : ZipSep3 (n + 5) (n + 3) (n + 4) n (n + 1) (n + 2) [n, z.a1] [n + 1, z.a2] [n + 2, z.a3] := sep3n n z.a1 z.a2 z.a3 h1 h2 h3
theorem turn3 {P : Program} {w : World} {K : PySem.W.Frag} {elts : List Expr} {kk : Nat} {tpos : Pos} (n : Nat) (z : Zk3) (h1 : z.a1 < n) (h2 : z.a2 < n) (h3 : z.a3 < n) :
    Turn P w K (.Tuple elts kk tpos) (It3 K z) (cells3 n) (n + 5) (fun i h => IsZip h (n + 5) (n + 3) (n + 4) .none ∧ IsTupOf3 h (n + 3) (.ref n) (.ref (n + 1)) (.ref (n + 2)) ∧ (∃ a b c, IsTupOf3 h (n + 4) a b c) ∧ srcIt h z.k1 n z.a1 i ∧ srcIt h z.k2 (n + 1) z.a2 i ∧ srcIt h z.k3 (n + 2) z.a3 i) where
  mem := List.mem_cons_self
  obj := fun i h st c hc => by
    obtain ⟨f1, f2, ⟨_, _, _, f3⟩, f4, f5, f6⟩ := st
    rcases mem3 hc with q | q | q | q | q | q <;> subst q
    · exact ⟨_, f1, fun v q => nomatch q⟩
    · exact ⟨_, f2, fun v q => nomatch q⟩
    · exact ⟨_, f3, fun v q => nomatch q⟩
    · exact f4.obj
    · exact f5.obj
    · exact f6.obj
  keep := fun i h h' st k => by
    obtain ⟨f1, f2, ⟨x, y, u, f3⟩, f4, f5, f6⟩ := st
    exact ⟨k _ (by simp) _ f1, k _ (by simp) _ f2, ⟨x, y, u, k _ (by simp) _ f3⟩, f4.keep fun o q => k _ (by simp) o q, f5.keep fun o q => k _ (by simp) o q, f6.keep fun o q => k _ (by simp) o q⟩
  item := by
    intro X hP hw hK hc i pins s σ H E I hf st hg
    subst hP hw hK
    obtain ⟨f1, f2, f3, f4, f5, f6⟩ := st
    obtain ⟨xs, ys, zs, q1, q2, q3, hi, e1, e2⟩ := hg
    obtain ⟨its1, r1, p1⟩ := src_inv I q1
    obtain ⟨its2, r2, p2⟩ := src_inv I q2
    obtain ⟨its3, r3, p3⟩ := src_inv I q3
    have l1 := r1.length
    have l2 := r2.length
    have l3 := r3.length
    have hh : X.A.in1.handled = none := I.ok.hd hc
    have W := WalksT.zipD3 (prog := X.prog) (w := X.w) (A := X.A) (sep3 (z := z) h1 h2 h3) (src_draws hh _ _ (Nat.ne_of_lt h1) its1.toArray z.k1) (src_draws hh _ _ (Nat.ne_of_lt (Nat.lt_succ_of_lt h2)) its2.toArray z.k2) (src_draws hh _ _ (Nat.ne_of_lt (Nat.lt_add_right 2 h3)) its3.toArray z.k3)
    refine W.item i s _ E (by simp only [List.size_toArray]; omega) ⟨f1, f2, f3, ⟨f4, p1⟩, ⟨f5, p2⟩, f6, p3⟩ fun T vals h' tk hv hle hT hm hk => ?_
    obtain ⟨u1, u2, u3, v1, v2, v3, rfl⟩ := hv
    have hT2 : T ∉ cells3 n := fun hc => by
      have hlt : T < s.heap.objs.size := by
        obtain ⟨a, b, c, f3⟩ := f3
        rcases mem3 hc with q | q | q | q | q | q <;> subst q
        · exact Heap.lt_size f1
        · exact Heap.lt_size f2
        · exact Heap.lt_size f3
        · obtain ⟨_, e, _⟩ := f4.obj
          exact Heap.lt_size e
        · obtain ⟨_, e, _⟩ := f5.obj
          exact Heap.lt_size e
        · obtain ⟨_, e, _⟩ := f6.obj
          exact Heap.lt_size e
      omega
    refine ⟨_, rfl, W.go elts kk tpos i T { s with heap := h', toks := tk } _ E hm fun h2 st2 hk2 => ?_⟩
    obtain ⟨g1, g2, g3, ⟨g4, _⟩, ⟨g5, _⟩, g6, _⟩ := st2
    have i1 : i < xs.length := hi
    have i2 : i < ys.length := by omega
    have i3 : i < zs.length := by omega
    have b1 : its1[i]? = some u1 := by simpa using v1
    have b2 : its2[i]? = some u2 := by simpa using v2
    have b3 : its3[i]? = some u3 := by simpa using v3
    obtain ⟨w1, c1, d1⟩ := r1.get (List.getElem?_eq_getElem i1)
    obtain ⟨w2, c2, d2⟩ := r2.get (List.getElem?_eq_getElem i2)
    obtain ⟨w3, c3, d3⟩ := r3.get (List.getElem?_eq_getElem i3)
    rw [b1] at c1
    rw [b2] at c2
    rw [b3] at c3
    cases c1
    cases c2
    cases c3
    have sub : ∀ b, b ∉ cells3 n → b ∉ [n + 5, n + 4, n, n + 1, n + 2] := fun b hb q => hb (sub3 q)
    have hT3 : h2.IsTuple T #[u1, u2, u3] := by
      obtain ⟨o, e, r⟩ := hT
      exact ⟨o, hk2 T o (sub T hT2) e, r⟩
    have new : ObjOk X.prog X.w (upd H T (.tup [xs[i], ys[i], zs[i]])) h2 T (.tup [xs[i], ys[i], zs[i]]) := ⟨by show 3 ≤ sizeLine; decide, [u1, u2, u3], .cons d1 (.cons d2 (.cons d3 .nil)), hT3⟩
    have I1 : Inv X pins σ (upd H T (.tup [xs[i], ys[i], zs[i]])) { s with heap := h2, toks := tk } :=
      I.turnedNew (t' := tk) (ch := cells3 n) (fun c o hb q => hk2 c o (sub c hb) (hk c o (sub c hb) q)) hf hle new
    refine ⟨.ref T, _, I1, rfl, ⟨T, _, _, _, rfl, I.hok.fresh hle, rfl, fun l hl => by rw [src_inj I hl q1]; exact List.getElem?_eq_getElem i1, fun l hl => by rw [src_inj I hl q2]; exact List.getElem?_eq_getElem i2, fun l hl => by rw [src_inj I hl q3]; exact List.getElem?_eq_getElem i3⟩, ⟨g1, g2, g3, g4, g5, g6⟩, fun b hb => ?_⟩
    rw [upd_ne (fun e => hT2 (by rw [← e]; exact hb))]
    exact (hf b hb).1
  done := by
    intro X hP hw hK hc i pins s σ H E I hf st hg
    subst hP hw hK
    obtain ⟨f1, f2, f3, f4, f5, f6⟩ := st
    obtain ⟨xs, ys, zs, q1, q2, q3, hi, e1, e2⟩ := hg
    obtain ⟨its1, r1, p1⟩ := src_inv I q1
    obtain ⟨its2, r2, p2⟩ := src_inv I q2
    obtain ⟨its3, r3, p3⟩ := src_inv I q3
    have l1 := r1.length
    have l2 := r2.length
    have l3 := r3.length
    have hh : X.A.in1.handled = none := I.ok.hd hc
    have W := WalksT.zipD3 (prog := X.prog) (w := X.w) (A := X.A) (sep3 (z := z) h1 h2 h3) (src_draws hh _ _ (Nat.ne_of_lt h1) its1.toArray z.k1) (src_draws hh _ _ (Nat.ne_of_lt (Nat.lt_succ_of_lt h2)) its2.toArray z.k2) (src_draws hh _ _ (Nat.ne_of_lt (Nat.lt_add_right 2 h3)) its3.toArray z.k3)
    have en : min (min its1.toArray.size its2.toArray.size) its3.toArray.size = i := by
      simp only [List.size_toArray]
      omega
    refine W.done s _ E (by rw [en]; exact ⟨f1, f2, f3, ⟨f4, p1⟩, ⟨f5, p2⟩, f6, p3⟩) fun h' tk hk => ⟨rfl, I.turnedL (t' := tk) (ch := cells3 n) (fun c o hb q => hk c o (fun q => hb (sub3 q)) q) hf⟩
  self := fun A i s Q E st h => wpAny_pyIter_zip st.1 h
def i3 (K : PySem.W.Frag) (ta : TA) : TI := fun σ H R => ta σ H fun vs H1 => ∃ z xs ys zs, vs = [.ref z.a1, .ref z.a2, .ref z.a3] ∧ SqS K H1 z.k1 z.a1 xs ∧ SqS K H1 z.k2 z.a2 ys ∧ SqS K H1 z.k3 z.a3 zs ∧ R (It3 K z) H1
theorem vals3 {x y z : V} {us : List Value} (h : Vals [x, y, z] us) : ∃ a b c, us = [a, b, c] ∧ RelV x a ∧ RelV y b ∧ RelV z c := by
  cases h with
  | cons h1 t =>
    cases t with
    | cons h2 t =>
      cases t with
      | cons h3 t =>
        cases t
        exact ⟨_, _, _, rfl, h1, h2, h3⟩
theorem pi3 {X : Cx} {e e2 e3 : Expr} {ta : TA} {p pos tpos : Pos} {elts : List Expr} {kk : Nat} (hg : Gl X "zip") (hm : X.mg "zip" = none) (ha : PA X [e, e2, e3] ta)
    (hs : starEach [e, e2, e3] X.env = (false, eval e X.env) :: starEach [e2, e3] X.env := by rfl) (hpl : (backTo pos (starEach [e2, e3] X.env)).any (·.1) = false := by rfl) :
    PI X (.Tuple elts kk tpos) (.Call (.Name "zip" p) [e, e2, e3] [] pos) (i3 X.K ta) := by
  refine ⟨fun pins s σ H R I h => ?_⟩
  refine Call_ (ld_blt I hg hm PyProof.Rows.boot_zip (PyProof.Rows.callWith_type1 (thn (ha.run pos pins s σ H _ I h) fun us s1 ⟨vs, H1, I1, r1, z, xs, ys, zs, ex, q1, q2, q3, q⟩ => ?_) hs hpl))
  subst ex
  obtain ⟨u1, u2, u3, rfl, e1, e2, e3⟩ := vals3 r1
  cases e1
  cases e2
  cases e3
  obtain ⟨its1, _, p1⟩ := src_inv I1 q1
  obtain ⟨its2, _, p2⟩ := src_inv I1 q2
  obtain ⟨its3, _, p3⟩ := src_inv I1 q3
  refine zip_begins3 (src_begins _ _ z.k1) (src_begins _ _ z.k2) (src_begins _ _ z.k3) p1 p2 p3 fun h' hz hTI hTO o1 o2 o3 hsz hk => wpAny_pyIter_zip hz ?_
  have I2 : Inv X pins σ H1 { s1 with heap := h' } := I1.kept (t' := s1.toks) hk
  refine ⟨_, cells3 s1.heap.objs.size, _, It3 X.K z, H1, rfl, I2, turn3 _ z (src_lt p1) (src_lt p2) (src_lt p3), ⟨hz, hTI, ⟨_, _, _, hTO⟩, src_start _ o1, src_start _ o2, src_start _ o3⟩, fun c hc => ?_, q⟩
  have hle : s1.heap.objs.size ≤ c := by
    rcases mem3 hc with q | q | q | q | q | q <;> subst q <;> omega
  exact I1.fpOk hle (I1.hok.fresh hle)
theorem walk3 {K : PySem.W.Frag} {z : Zk3} {xs ys zs : List V} (h1 : xs.length = ys.length) (h2 : xs.length = zs.length) : Walk (It3 K z) xs.length (fun H => SqS K H z.k1 z.a1 xs ∧ SqS K H z.k2 z.a2 ys ∧ SqS K H z.k3 z.a3 zs)
    (fun i H v H' => ∃ T x y u, v = .ref T ∧ H T = none ∧ H' = upd H T (.tup [x, y, u]) ∧ xs[i]? = some x ∧ ys[i]? = some y ∧ zs[i]? = some u) :=
  ⟨fun i H hi ⟨q1, q2, q3⟩ => ⟨xs, ys, zs, q1, q2, q3, hi, h1, h2⟩, fun H ⟨q1, q2, q3⟩ => ⟨xs, ys, zs, q1, q2, q3, rfl, h1, h2⟩, fun i H v H' hi ⟨q1, q2, q3⟩ ⟨T, x, y, u, e1, e2, e3, e4, e5, e6⟩ => ⟨T, x, y, u, e1, e2, e3, e4 xs q1, e5 ys q2, e6 zs q3⟩⟩
/-! ### two -/
structure Zk2 where
  k1 : Bool
  a1 : Addr
  k2 : Bool
  a2 : Addr
def It2 (K : PySem.W.Frag) (z : Zk2) : It :=
  ⟨fun i H => ∃ xs ys, SqS K H z.k1 z.a1 xs ∧ SqS K H z.k2 z.a2 ys ∧ i < xs.length ∧ xs.length = ys.length,
    fun i H v H' => ∃ T x y, v = .ref T ∧ H T = none ∧ H' = upd H T (.tup [x, y]) ∧ (∀ xs, SqS K H z.k1 z.a1 xs → xs[i]? = some x) ∧ ∀ ys, SqS K H z.k2 z.a2 ys → ys[i]? = some y,
    fun i H => ∃ xs ys, SqS K H z.k1 z.a1 xs ∧ SqS K H z.k2 z.a2 ys ∧ i = xs.length ∧ xs.length = ys.length⟩
abbrev cells2 (n : Nat) : List Addr := [n + 4, n + 2, n + 3, n, n + 1]
theorem mem2 {n c : Nat} (h : c ∈ cells2 n) : c = n + 4 ∨ c = n + 2 ∨ c = n + 3 ∨ c = n ∨ c = n + 1 := by simpa [cells2] using h
theorem sub2 {n c : Addr} (h : c ∈ [n + 4, n + 3, n, n + 1]) : c ∈ cells2 n := by
  have q : c = n + 4 ∨ c = n + 3 ∨ c = n ∨ c = n + 1 := by simpa using h
  rcases q with q | q | q | q <;> rw [q] <;> simp [cells2]
theorem sep2n (n a1 a2 : Nat) (h1 : a1 < n) (h2 : a2 < n) : ZipSep2 (n + 4) (n + 2) (n + 3) n (n + 1) [n, a1] [n + 1, a2] :=
  ⟨nn (by omega), nn (by omega), nn (by omega), nn (by omega), List.mem_cons_self, nm2 (by omega) (by omega), nm2 (by omega) (by omega), nn (by omega), List.mem_cons_self, nm2 (by omega) (by omega), nm2 (by omega) (by omega), nm2 (by omega) (by omega), nm2 (by omega) (by omega)⟩
theorem sep2 {n : Nat} {z : Zk2} (h1 : z.a1 < n) (h2 : z.a2 < n) : ZipSep2 (n + 4) (n + 2) (n + 3) n (n + 1) [n, z.a1] [n + 1, z.a2] := sep2n n z.a1 z.a2 h1 h2
theorem turn2 {P : Program} {w : World} {K : PySem.W.Frag} {elts : List Expr} {kk : Nat} {tpos : Pos} (n : Nat) (z : Zk2) (h1 : z.a1 < n) (h2 : z.a2 < n) :
    Turn P w K (.Tuple elts kk tpos) (It2 K z) (cells2 n) (n + 4) (fun i h => IsZip h (n + 4) (n + 2) (n + 3) .none ∧ IsTupOf2 h (n + 2) (.ref n) (.ref (n + 1)) ∧ (∃ a b, IsTupOf2 h (n + 3) a b) ∧ srcIt h z.k1 n z.a1 i ∧ srcIt h z.k2 (n + 1) z.a2 i) where
  mem := List.mem_cons_self
  obj := fun i h st c hc => by
    obtain ⟨f1, f2, ⟨_, _, f3⟩, f4, f5⟩ := st
    rcases mem2 hc with q | q | q | q | q <;> subst q
    · exact ⟨_, f1, fun v q => nomatch q⟩
    · exact ⟨_, f2, fun v q => nomatch q⟩
    · exact ⟨_, f3, fun v q => nomatch q⟩
    · exact f4.obj
    · exact f5.obj
  keep := fun i h h' st k => by
    obtain ⟨f1, f2, ⟨x, y, f3⟩, f4, f5⟩ := st
    exact ⟨k _ (by simp) _ f1, k _ (by simp) _ f2, ⟨x, y, k _ (by simp) _ f3⟩, f4.keep fun o q => k _ (by simp) o q, f5.keep fun o q => k _ (by simp) o q⟩
  item := by
    intro X hP hw hK hc i pins s σ H E I hf st hg
    subst hP hw hK
    obtain ⟨f1, f2, f3, f4, f5⟩ := st
    obtain ⟨xs, ys, q1, q2, hi, e1⟩ := hg
    obtain ⟨its1, r1, p1⟩ := src_inv I q1
    obtain ⟨its2, r2, p2⟩ := src_inv I q2
    have l1 := r1.length
    have l2 := r2.length
    have hh : X.A.in1.handled = none := I.ok.hd hc
    have W := WalksT.zipD2 (prog := X.prog) (w := X.w) (A := X.A) (sep2 (z := z) h1 h2) (src_draws hh _ _ (Nat.ne_of_lt h1) its1.toArray z.k1) (src_draws hh _ _ (Nat.ne_of_lt (Nat.lt_succ_of_lt h2)) its2.toArray z.k2)
    refine W.item i s _ E (by simp only [List.size_toArray]; omega) ⟨f1, f2, f3, ⟨f4, p1⟩, f5, p2⟩ fun T vals h' tk hv hle hT hm hk => ?_
    obtain ⟨u1, u2, v1, v2, rfl⟩ := hv
    have hT2 : T ∉ cells2 n := fun hc => by
      have hlt : T < s.heap.objs.size := by
        obtain ⟨a, b, f3⟩ := f3
        rcases mem2 hc with q | q | q | q | q <;> subst q
        · exact Heap.lt_size f1
        · exact Heap.lt_size f2
        · exact Heap.lt_size f3
        · obtain ⟨_, e, _⟩ := f4.obj
          exact Heap.lt_size e
        · obtain ⟨_, e, _⟩ := f5.obj
          exact Heap.lt_size e
      omega
    refine ⟨_, rfl, W.go elts kk tpos i T { s with heap := h', toks := tk } _ E hm fun h2 st2 hk2 => ?_⟩
    obtain ⟨g1, g2, g3, ⟨g4, _⟩, g5, _⟩ := st2
    have i1 : i < xs.length := hi
    have i2 : i < ys.length := by omega
    have b1 : its1[i]? = some u1 := by simpa using v1
    have b2 : its2[i]? = some u2 := by simpa using v2
    obtain ⟨w1, c1, d1⟩ := r1.get (List.getElem?_eq_getElem i1)
    obtain ⟨w2, c2, d2⟩ := r2.get (List.getElem?_eq_getElem i2)
    rw [b1] at c1
    rw [b2] at c2
    cases c1
    cases c2
    have sub : ∀ b, b ∉ cells2 n → b ∉ [n + 4, n + 3, n, n + 1] := fun b hb q => hb (sub2 q)
    have hT3 : h2.IsTuple T #[u1, u2] := by
      obtain ⟨o, e, r⟩ := hT
      exact ⟨o, hk2 T o (sub T hT2) e, r⟩
    have new : ObjOk X.prog X.w (upd H T (.tup [xs[i], ys[i]])) h2 T (.tup [xs[i], ys[i]]) := ⟨by show 2 ≤ sizeLine; decide, [u1, u2], .cons d1 (.cons d2 .nil), hT3⟩
    have I1 : Inv X pins σ (upd H T (.tup [xs[i], ys[i]])) { s with heap := h2, toks := tk } :=
      I.turnedNew (t' := tk) (ch := cells2 n) (fun c o hb q => hk2 c o (sub c hb) (hk c o (sub c hb) q)) hf hle new
    refine ⟨.ref T, _, I1, rfl, ⟨T, _, _, rfl, I.hok.fresh hle, rfl, fun l hl => by rw [src_inj I hl q1]; exact List.getElem?_eq_getElem i1, fun l hl => by rw [src_inj I hl q2]; exact List.getElem?_eq_getElem i2⟩, ⟨g1, g2, g3, g4, g5⟩, fun b hb => ?_⟩
    rw [upd_ne (fun e => hT2 (by rw [← e]; exact hb))]
    exact (hf b hb).1
  done := by
    intro X hP hw hK hc i pins s σ H E I hf st hg
    subst hP hw hK
    obtain ⟨f1, f2, f3, f4, f5⟩ := st
    obtain ⟨xs, ys, q1, q2, hi, e1⟩ := hg
    obtain ⟨its1, r1, p1⟩ := src_inv I q1
    obtain ⟨its2, r2, p2⟩ := src_inv I q2
    have l1 := r1.length
    have l2 := r2.length
    have hh : X.A.in1.handled = none := I.ok.hd hc
    have W := WalksT.zipD2 (prog := X.prog) (w := X.w) (A := X.A) (sep2 (z := z) h1 h2) (src_draws hh _ _ (Nat.ne_of_lt h1) its1.toArray z.k1) (src_draws hh _ _ (Nat.ne_of_lt (Nat.lt_succ_of_lt h2)) its2.toArray z.k2)
    have en : min its1.toArray.size its2.toArray.size = i := by
      simp only [List.size_toArray]
      omega
    refine W.done s _ E (by rw [en]; exact ⟨f1, f2, f3, ⟨f4, p1⟩, f5, p2⟩) fun h' tk hk => ⟨rfl, I.turnedL (t' := tk) (ch := cells2 n) (fun c o hb q => hk c o (fun q => hb (sub2 q)) q) hf⟩
  self := fun A i s Q E st h => wpAny_pyIter_zip st.1 h
def i2 (K : PySem.W.Frag) (ta : TA) : TI := fun σ H R => ta σ H fun vs H1 => ∃ z xs ys, vs = [.ref z.a1, .ref z.a2] ∧ SqS K H1 z.k1 z.a1 xs ∧ SqS K H1 z.k2 z.a2 ys ∧ R (It2 K z) H1
theorem vals2 {x y : V} {us : List Value} (h : Vals [x, y] us) : ∃ a b, us = [a, b] ∧ RelV x a ∧ RelV y b := by
  cases h with
  | cons h1 t =>
    cases t with
    | cons h2 t =>
      cases t
      exact ⟨_, _, rfl, h1, h2⟩
theorem pi2 {X : Cx} {e e2 : Expr} {ta : TA} {p pos tpos : Pos} {elts : List Expr} {kk : Nat} (hg : Gl X "zip") (hm : X.mg "zip" = none) (ha : PA X [e, e2] ta)
    (hs : starEach [e, e2] X.env = (false, eval e X.env) :: starEach [e2] X.env := by rfl) (hpl : (backTo pos (starEach [e2] X.env)).any (·.1) = false := by rfl) :
    PI X (.Tuple elts kk tpos) (.Call (.Name "zip" p) [e, e2] [] pos) (i2 X.K ta) := by
  refine ⟨fun pins s σ H R I h => ?_⟩
  refine Call_ (ld_blt I hg hm PyProof.Rows.boot_zip (PyProof.Rows.callWith_type1 (thn (ha.run pos pins s σ H _ I h) fun us s1 ⟨vs, H1, I1, r1, z, xs, ys, ex, q1, q2, q⟩ => ?_) hs hpl))
  subst ex
  obtain ⟨u1, u2, rfl, e1, e2⟩ := vals2 r1
  cases e1
  cases e2
  obtain ⟨its1, _, p1⟩ := src_inv I1 q1
  obtain ⟨its2, _, p2⟩ := src_inv I1 q2
  refine zip_begins2 (src_begins _ _ z.k1) (src_begins _ _ z.k2) p1 p2 fun h' hz hTI hTO o1 o2 hsz hk => wpAny_pyIter_zip hz ?_
  have I2 : Inv X pins σ H1 { s1 with heap := h' } := I1.kept (t' := s1.toks) hk
  refine ⟨_, cells2 s1.heap.objs.size, _, It2 X.K z, H1, rfl, I2, turn2 _ z (src_lt p1) (src_lt p2), ⟨hz, hTI, ⟨_, _, hTO⟩, src_start _ o1, src_start _ o2⟩, fun c hc => ?_, q⟩
  have hle : s1.heap.objs.size ≤ c := by
    rcases mem2 hc with q | q | q | q | q <;> subst q <;> omega
  exact I1.fpOk hle (I1.hok.fresh hle)
theorem walk2 {K : PySem.W.Frag} {z : Zk2} {xs ys : List V} (h1 : xs.length = ys.length) : Walk (It2 K z) xs.length (fun H => SqS K H z.k1 z.a1 xs ∧ SqS K H z.k2 z.a2 ys)
    (fun i H v H' => ∃ T x y, v = .ref T ∧ H T = none ∧ H' = upd H T (.tup [x, y]) ∧ xs[i]? = some x ∧ ys[i]? = some y) :=
  ⟨fun i H hi ⟨q1, q2⟩ => ⟨xs, ys, q1, q2, hi, h1⟩, fun H ⟨q1, q2⟩ => ⟨xs, ys, q1, q2, rfl, h1⟩, fun i H v H' hi ⟨q1, q2⟩ ⟨T, x, y, e1, e2, e3, e4, e5⟩ => ⟨T, x, y, e1, e2, e3, e4 xs q1, e5 ys q2⟩⟩
end K82
/-! Rules of the logic: loops and comprehensions over zip. -/
namespace K82
open PySem PySem.Spec PyProof.Rows L2

def seqD : Bool → List PyData → PyData
  | true, ds => .tuple ds
  | false, ds => .list ds
theorem seq_inv {G : Hp} {v : V} : ∀ {k : Bool} {ds : List PyData}, Da G v (seqD k ds) → ∃ a xs, v = .ref a ∧ DaAll G xs ds ∧ ∀ K H, Same G H → SqS K H k a xs
  | true, _, h => by
    obtain ⟨a, xs, e, h1, h2⟩ := h.tup_inv
    exact ⟨a, xs, e, h2, fun K H s => SqT.of (s _ _ h1)⟩
  | false, _, h => by
    obtain ⟨a, xs, e, h1, h2⟩ := h.lst_inv
    exact ⟨a, xs, e, h2, fun K H s => SqL.of (s _ _ h1)⟩
theorem wipe_set (σ : L2.St) (j : Nat) (v : Option V) : ∀ vs : List Nat, L2.wipe (σ.set j v) vs = if j ∈ vs then L2.wipe σ vs else (L2.wipe σ vs).set j v
  | [] => rfl
  | w :: ws => by
    show (L2.wipe (σ.set j v) ws).set w none = if j ∈ w :: ws then (L2.wipe σ ws).set w none else ((L2.wipe σ ws).set w none).set j v
    rw [wipe_set σ j v ws]
    by_cases h1 : j ∈ ws
    · rw [if_pos h1, if_pos (List.mem_cons_of_mem _ h1)]
    · rw [if_neg h1]
      by_cases h2 : j = w
      · subst h2
        rw [if_pos List.mem_cons_self, List.set_set]
      · rw [if_neg (fun h => by
          rcases List.mem_cons.mp h with e | h
          · exact h2 e
          · exact h1 h), List.set_comm _ _ h2]
theorem wipe_wipe (σ : L2.St) (vs : List Nat) : ∀ us : List Nat, (∀ u ∈ us, u ∈ vs) → L2.wipe (L2.wipe σ us) vs = L2.wipe σ vs
  | [], _ => rfl
  | u :: us, h => by
    show L2.wipe ((L2.wipe σ us).set u none) vs = _
    rw [wipe_set, if_pos (h u List.mem_cons_self), wipe_wipe σ vs us fun x hx => h x (List.mem_cons_of_mem _ hx)]

section
variable {B : Bs} {A : AS} {X : Cx} {a b c elt : Expr} {es : List Expr} {pos pos1 : Pos} {st : Stmt} {rest body : List Stmt} {P : Po}
/-- for x, y, z in zip(a, b, c) -/
theorem so_for3 (i1 i2 i3 : Nat) {x y z : Str} {px py pz pt pr : Pos} {kt : Nat} {ka kb kc : Bool} {da db dc : List PyData} (hNd : X.N.Nodup) (hg : Gl X "zip") (hm : X.mg "zip" = none) (ha : EvA A X [a, b, c] fun ts => ts = [.dat (seqD ka da), .dat (seqD kb db), .dat (seqD kc dc)]) (hl1 : da.length = db.length) (hl2 : da.length = dc.length)
    (I : Nat → AS → Prop) (h0 : I 0 A) (hs : ∀ i A' u v w, da[i]? = some u → db[i]? = some v → dc[i]? = some w → I i A' → Sos B X body (((A'.put i1 (.dat u)).put i2 (.dat v)).put i3 (.dat w)) { P with nx := I (i + 1), ct := I (i + 1), bk := P.nx }) (hd : ∀ A', I da.length A' → P.nx A')
    (hN1 : X.N[i1]? = some x := by rfl) (hN2 : X.N[i2]? = some y := by rfl) (hN3 : X.N[i3]? = some z := by rfl)
    (hx : Loc X.env.scope x := by first | exact Or.inl rfl | exact Or.inr rfl) (hy : Loc X.env.scope y := by first | exact Or.inl rfl | exact Or.inr rfl) (hz : Loc X.env.scope z := by first | exact Or.inl rfl | exact Or.inr rfl)
    (hfx : X.fn x = true ∨ X.env.scope.names.lookup x = some .local := by first | exact .inl rfl | exact .inr rfl) (hfy : X.fn y = true ∨ X.env.scope.names.lookup y = some .local := by first | exact .inl rfl | exact .inr rfl) (hfz : X.fn z = true ∨ X.env.scope.names.lookup z = some .local := by first | exact .inl rfl | exact .inr rfl) (hc : X.calm = true := by rfl)
    (hn : (assignEach [.Name x px, .Name y py, .Name z pz] X.env).length = 3 := by rfl) (hst : (assignEach [.Name x px, .Name y py, .Name z pz] X.env).findIdx? (·.1) = none := by rfl)
    (hs1 : (assignEach [.Name x px, .Name y py, .Name z pz] X.env).map (·.2) = assign (.Name x px) X.env :: (assignEach [.Name y py, .Name z pz] X.env).map (·.2) := by rfl) (hs2 : (assignEach [.Name y py, .Name z pz] X.env).map (·.2) = assign (.Name y py) X.env :: (assignEach [.Name z pz] X.env).map (·.2) := by rfl) (hs3 : (assignEach [.Name z pz] X.env).map (·.2) = assign (.Name z pz) X.env :: (assignEach [] X.env).map (·.2) := by rfl)
    (hp : PassesOwn (model X.prog X.w) X.A X.env X.xe := by exact PassesOwn.never) (hsa : starEach [a, b, c] X.env = (false, eval a X.env) :: starEach [b, c] X.env := by rfl) (hpl : (backTo pos1 (starEach [b, c] X.env)).any (·.1) = false := by rfl)
    (hfs : ∀ x, foldedSetIterable (.Call (.Name "zip" pr) [a, b, c] [] pos1) X.env x = pure x := by intro _; rfl) :
    So B X (.For (.Tuple [.Name x px, .Name y py, .Name z pz] kt pt) (.Call (.Name "zip" pr) [a, b, c] [] pos1) body [] pos) A P := fun Z σ H ⟨k0, G, k1, k2, k3, k4⟩ => by
  refine (ps_for hp hc (pi3 hg hm (pa_s (es := [a, b, c])) hsa hpl) (pg_tup hc (pgs_cons (pg_name hNd hN1 hx hfx) (pgs_cons (pg_name hNd hN2 hy hfy) (pgs_cons (pg_name hNd hN3 hz hfz) pgs_nil hs3) hs2) hs1) hn hst) pss_s hfs).s (show SA X [a, b, c] σ H fun vs H1 => _ from ha G σ H k3 _ fun vs H1 G1 ts F p hv => ?_)
  subst p
  obtain ⟨v1, v2, v3, rfl, f1, f2, f3⟩ := ho3 hv
  obtain ⟨a1, xs, rfl, g1, s1⟩ := seq_inv f1
  obtain ⟨a2, ys, rfl, g2, s2⟩ := seq_inv f2
  obtain ⟨a3, zs, rfl, g3, s3⟩ := seq_inv f3
  have l1 := g1.length
  have l2 := g2.length
  have l3 := g3.length
  have S : Sat B G1 A σ H1 := ⟨k0, G1, Same.refl _, k2.trans (k0 ▸ F), k3.step F, k4⟩
  have zz : Same Z G1 := k1.trans F.gg
  refine ⟨⟨ka, a1, kb, a2, kc, a3⟩, xs, ys, zs, rfl, s1 _ _ F.gh, s2 _ _ F.gh, s3 _ _ F.gh, for_read (G1 := G1) (walk3 (z := ⟨ka, a1, kb, a2, kc, a3⟩) (xs := xs) (ys := ys) (zs := zs) (by omega) (by omega)) I h0 S (fun H2 e => ⟨s1 _ _ e, s2 _ _ e, s3 _ _ e⟩) (fun i v A2 σ2 H2 H3 hi hI S2 yy => ?_) fun A2 σ2 H2 hI S2 => ?_⟩
  · obtain ⟨T, w1, w2, w3, rfl, hT, rfl, e1, e2, e3⟩ := yy
    obtain ⟨d1, c1, m1⟩ := g1.get' e1
    obtain ⟨d2, c2, m2⟩ := g2.get' e2
    obtain ⟨d3, c3, m3⟩ := g3.get' e3
    obtain ⟨q0, G2, q1, q2, q3, q4⟩ := S2
    have S3 := Sat.go q0 q1 q2 q3 q4 ((Fr.refl (hd := A2.hd) q3.gh).newT (o := .tup [w1, w2, w3]) hT)
    exact ⟨T, _, rfl, SqT.of upd_same, rfl, w1, _, rfl, w2, _, rfl, w3, _, rfl, rfl, body_run (hs i A2 d1 d2 d3 c1 c2 c3 hI) (((S3.put (t := .dat d1) i1 fun G e => Da.mono e m1).put (t := .dat d2) i2 fun G e => Da.mono e m2).put (t := .dat d3) i3 fun G e => Da.mono e m3) zz⟩
  · rw [l1] at hI
    exact ⟨A2, hd A2 hI, S2.weak zz⟩
/-- for x, y in zip(a, b) -/
theorem so_for2 (i1 i2 : Nat) {x y : Str} {px py pt pr : Pos} {kt : Nat} {ka kb : Bool} {da db : List PyData} (hNd : X.N.Nodup) (hg : Gl X "zip") (hm : X.mg "zip" = none) (ha : EvA A X [a, b] fun ts => ts = [.dat (seqD ka da), .dat (seqD kb db)]) (hl1 : da.length = db.length)
    (I : Nat → AS → Prop) (h0 : I 0 A) (hs : ∀ i A' u v, da[i]? = some u → db[i]? = some v → I i A' → Sos B X body ((A'.put i1 (.dat u)).put i2 (.dat v)) { P with nx := I (i + 1), ct := I (i + 1), bk := P.nx }) (hd : ∀ A', I da.length A' → P.nx A')
    (hN1 : X.N[i1]? = some x := by rfl) (hN2 : X.N[i2]? = some y := by rfl)
    (hx : Loc X.env.scope x := by first | exact Or.inl rfl | exact Or.inr rfl) (hy : Loc X.env.scope y := by first | exact Or.inl rfl | exact Or.inr rfl)
    (hfx : X.fn x = true ∨ X.env.scope.names.lookup x = some .local := by first | exact .inl rfl | exact .inr rfl) (hfy : X.fn y = true ∨ X.env.scope.names.lookup y = some .local := by first | exact .inl rfl | exact .inr rfl) (hc : X.calm = true := by rfl)
    (hn : (assignEach [.Name x px, .Name y py] X.env).length = 2 := by rfl) (hst : (assignEach [.Name x px, .Name y py] X.env).findIdx? (·.1) = none := by rfl)
    (hs1 : (assignEach [.Name x px, .Name y py] X.env).map (·.2) = assign (.Name x px) X.env :: (assignEach [.Name y py] X.env).map (·.2) := by rfl) (hs2 : (assignEach [.Name y py] X.env).map (·.2) = assign (.Name y py) X.env :: (assignEach [] X.env).map (·.2) := by rfl)
    (hp : PassesOwn (model X.prog X.w) X.A X.env X.xe := by exact PassesOwn.never) (hsa : starEach [a, b] X.env = (false, eval a X.env) :: starEach [b] X.env := by rfl) (hpl : (backTo pos1 (starEach [b] X.env)).any (·.1) = false := by rfl)
    (hfs : ∀ x, foldedSetIterable (.Call (.Name "zip" pr) [a, b] [] pos1) X.env x = pure x := by intro _; rfl) :
    So B X (.For (.Tuple [.Name x px, .Name y py] kt pt) (.Call (.Name "zip" pr) [a, b] [] pos1) body [] pos) A P := fun Z σ H ⟨k0, G, k1, k2, k3, k4⟩ => by
  refine (ps_for hp hc (pi2 hg hm (pa_s (es := [a, b])) hsa hpl) (pg_tup hc (pgs_cons (pg_name hNd hN1 hx hfx) (pgs_cons (pg_name hNd hN2 hy hfy) pgs_nil hs2) hs1) hn hst) pss_s hfs).s (show SA X [a, b] σ H fun vs H1 => _ from ha G σ H k3 _ fun vs H1 G1 ts F p hv => ?_)
  subst p
  obtain ⟨v1, v2, rfl, f1, f2⟩ := ho2 hv
  obtain ⟨a1, xs, rfl, g1, s1⟩ := seq_inv f1
  obtain ⟨a2, ys, rfl, g2, s2⟩ := seq_inv f2
  have l1 := g1.length
  have l2 := g2.length
  have S : Sat B G1 A σ H1 := ⟨k0, G1, Same.refl _, k2.trans (k0 ▸ F), k3.step F, k4⟩
  have zz : Same Z G1 := k1.trans F.gg
  refine ⟨⟨ka, a1, kb, a2⟩, xs, ys, rfl, s1 _ _ F.gh, s2 _ _ F.gh, for_read (G1 := G1) (walk2 (z := ⟨ka, a1, kb, a2⟩) (xs := xs) (ys := ys) (by omega)) I h0 S (fun H2 e => ⟨s1 _ _ e, s2 _ _ e⟩) (fun i v A2 σ2 H2 H3 hi hI S2 yy => ?_) fun A2 σ2 H2 hI S2 => ?_⟩
  · obtain ⟨T, w1, w2, rfl, hT, rfl, e1, e2⟩ := yy
    obtain ⟨d1, c1, m1⟩ := g1.get' e1
    obtain ⟨d2, c2, m2⟩ := g2.get' e2
    obtain ⟨q0, G2, q1, q2, q3, q4⟩ := S2
    have S3 := Sat.go q0 q1 q2 q3 q4 ((Fr.refl (hd := A2.hd) q3.gh).newT (o := .tup [w1, w2]) hT)
    exact ⟨T, _, rfl, SqT.of upd_same, rfl, w1, _, rfl, w2, _, rfl, rfl, body_run (hs i A2 d1 d2 c1 c2 hI) ((S3.put (t := .dat d1) i1 fun G e => Da.mono e m1).put (t := .dat d2) i2 fun G e => Da.mono e m2) zz⟩
  · rw [l1] at hI
    exact ⟨A2, hd A2 hI, S2.weak zz⟩

theorem set_wipeT (Γ : List (Option Ty)) (vs : List Nat) (t1 t2 t3 : Ty) (j1 j2 j3 : Nat) (hv : vs = [j1, j2, j3]) (h12 : j1 ≠ j2) (h13 : j1 ≠ j3) (h23 : j2 ≠ j3) : (((wipeT Γ vs).set j1 (some t1)).set j2 (some t2)).set j3 (some t3) = ((Γ.set j1 (some t1)).set j2 (some t2)).set j3 (some t3) := by
  subst hv
  show (((((Γ.set j3 none).set j2 none).set j1 none).set j1 (some t1)).set j2 (some t2)).set j3 (some t3) = _
  refine List.ext_getElem? fun k => ?_
  simp only [List.getElem?_set, List.length_set]
  by_cases e3 : j3 = k
  · simp [e3]
  · by_cases e2 : j2 = k
    · simp [e3, e2]
    · by_cases e1 : j1 = k
      · simp [e3, e2, e1]
      · simp [e3, e2, e1]
/-- [elt for x, y, z in zip(a, b, c)], the i-th items d1 i, d2 i, d3 i -/
theorem ev_lc3 {x y z : Str} {px py pz pt pr : Pos} {kt : Nat} {ka kb kc : Bool} {scope : Scope} (j1 j2 j3 n : Nat) (d1 d2 d3 gd : Nat → PyData) (hNd : X.N.Nodup) (hg : Gl X "zip") (hm : X.mg "zip" = none) (ok : BlkOk X.N X.env.scope scope [(x, j1), (y, j2), (z, j3)])
    (ha : EvA A X [a, b, c] fun ts => ts = [.dat (seqD ka ((List.range n).map d1)), .dat (seqD kb ((List.range n).map d2)), .dat (seqD kc ((List.range n).map d3))]) (hlen : n < 100000)
    (hte : ∀ i, i < n → EvB (((A.put j1 (.dat (d1 i))).put j2 (.dat (d2 i))).put j3 (.dat (d3 i))) X scope elt (gd i))
    (hpg : ∀ (s : Shared) (H : Hp) (C : Addr) (cl : List (Str × Addr)) (fp : List Addr), PG (X.blk s H scope (compEnvC scope cl C X.env) fp) (.Tuple [.Name x px, .Name y py, .Name z pz] kt pt) (gTup X.K 3 (gCons (gName j1) (gCons (gName j2) (gCons (gName j3) gNil)))))
    (h12 : j1 ≠ j2 := by decide) (h13 : j1 ≠ j3 := by decide) (h23 : j2 ≠ j3 := by decide) (hc : X.calm = true := by rfl) (hsa : starEach [a, b, c] X.env = (false, eval a X.env) :: starEach [b, c] X.env := by rfl) (hpl : (backTo pos1 (starEach [b, c] X.env)).any (·.1) = false := by rfl)
    (hs : ∀ x, foldedSetIterable (.Call (.Name "zip" pr) [a, b, c] [] pos1) X.env x = pure x := by intro _; rfl) :
    Ev A X (.ListComp elt [⟨.Tuple [.Name x px, .Name y py, .Name z pz] kt pt, .Call (.Name "zip" pr) [a, b, c] [] pos1, [], 0⟩] scope pos) (.list ((List.range n).map gd)) := fun G σ H C Q q => by
  refine (pe_lc (pos := pos) hc hNd (pi3 hg hm (pa_s (es := [a, b, c])) hsa hpl) ok hpg (fun _ _ _ _ _ => pts_nil) (blkE_pe (e := elt)) hs).s (show SA X [a, b, c] σ H fun vs H1 => _ from ha G σ H C _ fun vs H1 G1 ts F p hv => ?_)
  subst p
  obtain ⟨v1, v2, v3, rfl, f1, f2, f3⟩ := ho3 hv
  obtain ⟨a1, xs, rfl, g1, s1⟩ := seq_inv f1
  obtain ⟨a2, ys, rfl, g2, s2⟩ := seq_inv f2
  obtain ⟨a3, zs, rfl, g3, s3⟩ := seq_inv f3
  have l1 : xs.length = n := by rw [g1.length, List.length_map, List.length_range]
  have l2 : ys.length = n := by rw [g2.length, List.length_map, List.length_range]
  have l3 : zs.length = n := by rw [g3.length, List.length_map, List.length_range]
  have wk := walk3 (K := X.K) (z := ⟨ka, a1, kb, a2, kc, a3⟩) (xs := xs) (ys := ys) (zs := zs) (by omega) (by omega)
  rw [show xs.length = (List.range n).length by rw [l1, List.length_range]] at wk
  refine ⟨⟨ka, a1, kb, a2, kc, a3⟩, xs, ys, zs, rfl, s1 _ _ F.gh, s2 _ _ F.gh, s3 _ _ F.gh, fun D hD => lc_read (List.range n) (fun i => ((A.put j1 (.dat (d1 i))).put j2 (.dat (d2 i))).put j3 (.dat (d3 i))) (fun _ => true) gd wk (C.step F) (fun H2 e => ⟨s1 _ _ e, s2 _ _ e, s3 _ _ e⟩) hD (by rw [List.length_range]; exact hlen) (fun _ => rfl) (fun i k v H2 G2 H3 Q' hx F2 C2 yy kk => ?_) (fun a _ => tt_yes (At := fun i => ((A.put j1 (.dat (d1 i))).put j2 (.dat (d2 i))).put j3 (.dat (d3 i))) (fun _ => rfl) a) (fun a ha _ => te_blk rfl (hte a (List.mem_range.mp ha))) fun H' G' F2 hv => ?_⟩
  · have ei : k = i := by
      obtain ⟨h1, h2⟩ := List.getElem?_eq_some_iff.mp hx
      simpa using h2.symm
    subst ei
    obtain ⟨T, w1, w2, w3, rfl, hT, rfl, e1, e2, e3⟩ := yy
    have hk : k < n := by
      have := (List.getElem?_eq_some_iff.mp e1).1
      omega
    obtain ⟨t1, c1, m1⟩ := g1.get' e1
    obtain ⟨t2, c2, m2⟩ := g2.get' e2
    obtain ⟨t3, c3, m3⟩ := g3.get' e3
    rw [List.getElem?_map, List.getElem?_range hk] at c1 c2 c3
    cases c1
    cases c2
    cases c3
    have FT := (Fr.refl (hd := A.hd) C2.gh).newT (o := .tup [w1, w2, w3]) hT
    refine ⟨T, _, rfl, SqT.of upd_same, rfl, w1, _, rfl, w2, _, rfl, w3, _, rfl, rfl, kk _ _ G2 FT ?_ ?_⟩
    · show L2.wipe ((((L2.wipe σ [j1, j2, j3]).set j1 (some w1)).set j2 (some w2)).set j3 (some w3)) [j1, j2, j3] = L2.wipe σ [j1, j2, j3]
      rw [wipe_set, if_pos (by simp), wipe_set, if_pos (by simp), wipe_set, if_pos (by simp), wipe_wipe _ _ _ fun _ h => h]
    · have C3 := (((C2.wipe [j1, j2, j3]).step FT).put (t := .dat (d1 k)) (v := w1) j1 (Da.mono F2.gg m1)).put (t := .dat (d2 k)) (v := w2) j2 (Da.mono F2.gg m2)
      have C4 := C3.put (t := .dat (d3 k)) (v := w3) j3 (Da.mono F2.gg m3)
      have C5 : Cfg { A with Γ := (((wipeT A.Γ [j1, j2, j3]).set j1 (some (Ty.dat (d1 k)))).set j2 (some (Ty.dat (d2 k)))).set j3 (some (Ty.dat (d3 k))) } G2 ((((L2.wipe σ [j1, j2, j3]).set j1 (some w1)).set j2 (some w2)).set j3 (some w3)) _ := C4
      rw [set_wipeT A.Γ _ _ _ _ j1 j2 j3 rfl h12 h13 h23] at C5
      exact C5
  · rw [filter_true] at hv
    exact q _ H' G' _ (F.trans F2) rfl hv
end
end K82
/-! Rules of the logic: sorted. -/
namespace K82
open PySem PySem.Spec PyProof.Rows L2

section
variable {β : Type} {X : Cx}
theorem mk_each {G : Hp} {enc : β → PyData} : ∀ {xs : List V} {us : List Value} {bs : List β}, Vals xs us → DaAll G xs (bs.map enc) → PySem.W.EachIs (fun u b => ∃ x, RelV x u ∧ Da G x (enc b)) us bs
  | _, _, [], r, h => by
    cases h
    cases r
    exact .nil
  | _, _, b :: bs, r, h => by
    cases h with
    | cons h t =>
      cases r with
      | cons r rt => exact .cons ⟨_, r, h⟩ (mk_each rt t)
theorem of_each {G : Hp} {enc : β → PyData} : ∀ {us : List Value} {bs : List β}, PySem.W.EachIs (fun u b => ∃ x, RelV x u ∧ Da G x (enc b)) us bs → ∃ xs, Vals xs us ∧ DaAll G xs (bs.map enc)
  | _, _, .nil => ⟨[], .nil, .nil⟩
  | _, _, .cons ⟨x, r, h⟩ t => by
    obtain ⟨xs, rt, ht⟩ := of_each t
    exact ⟨x :: xs, .cons r rt, .cons h ht⟩
theorem each_mono {R R' : Value → β → Prop} : ∀ {us : List Value} {bs : List β}, PySem.W.EachIs R us bs → (∀ u b, b ∈ bs → R u b → R' u b) → PySem.W.EachIs R' us bs
  | _, _, .nil, _ => .nil
  | _, _, .cons h t, k => .cons (k _ _ List.mem_cons_self h) (each_mono t fun u b hb => k u b (List.mem_cons_of_mem _ hb))
theorem perm_short {α : Type} {l m : List α} (p : m.Perm l) (h : l.length < 2) : m = l := by
  cases l with
  | nil => exact p.eq_nil
  | cons x l =>
    cases l with
    | nil => exact List.perm_singleton.mp p
    | cons y l => exact absurd h (by simp)
theorem sort_short {α : Type} {l : List α} (f : α → α → Bool) (h : l.length < 2) : l.mergeSort f = l := by
  cases l with
  | nil => exact List.mergeSort_nil
  | cons x l =>
    cases l with
    | nil => exact List.mergeSort_singleton x
    | cons y l => exact absurd h (by simp)
def rSortD (enc : β → PyData) (bs : List β) : List V → Hp → VK → Prop := fun vs H Q => ∃ a xs G, vs = [V.ref a] ∧ Same G H ∧ G a = some (.lst xs) ∧ DaAll G xs (bs.map enc) ∧ ∀ p ys, H p = none → DaAll G ys ((bs.mergeSort (PySem.W.dataLe false enc)).map enc) → Q (.ref p) (upd H p (.lst ys))
theorem cr_sortD {enc : β → PyData} {bs : List β} (hal : PySem.W.AllAlike (bs.map enc)) (hk : PySem.W.Sortable (bs.map enc)) (hL : bs.length ≤ sizeLine) (hu : X.A.units + 64 < cLine) (hd : ∀ b ∈ bs, (enc b).depth ≤ 8) : CallR X (.builtin "sorted") (rSortD enc bs) := by
  intro pins s σ H vs us Q I r h
  obtain ⟨a, xs, G, rfl, same, ha, hx, q⟩ := h
  obtain ⟨its, rv, hl, hz⟩ := I.list (SqL.of (same _ _ ha))
  obtain ⟨u, rfl, ru⟩ := vals1 r
  obtain rfl : u = Value.ref a := ru
  have e := mk_each rv hx
  refine PySem.W.sorted_data hl.isList e (each_mono e fun u b hb ⟨x, rx, hx⟩ => (Da.mono same hx).dp.reads I _ _ _ rx) hal hk hL (fun b hb => by
    have := hd b hb
    omega) fun out el eo => ?_
  obtain ⟨ys, ry, hy⟩ := of_each eo
  obtain ⟨n, hn⟩ := sortedAll_at s.heap its (List.toArray out)
  refine ⟨.ref _, upd H (s.heap.objs.size + 1) (.lst ys), I.laid (t' := s.toks) (fun _ _ => sortedAll_old) (Nat.le_succ _) ⟨?_, out, n, ry, hn⟩, rfl, q _ _ (I.hok.fresh (Nat.le_succ _)) hy⟩
  rw [ry.length, el]
  exact hL
/-- of at most one item -/
theorem cr_sort1 {enc : β → PyData} {bs : List β} (hL : bs.length < 2) : CallR X (.builtin "sorted") (rSortD enc bs) := by
  intro pins s σ H vs us Q I r h
  obtain ⟨a, xs, G, rfl, same, ha, hx, q⟩ := h
  obtain ⟨its, rv, hl, hz⟩ := I.list (SqL.of (same _ _ ha))
  obtain ⟨u, rfl, ru⟩ := vals1 r
  obtain rfl : u = Value.ref a := ru
  have el := hx.length
  rw [List.length_map] at el
  have ev := rv.length
  have O : SrtO.Swo (fun _ _ : Value => false) := ⟨fun _ _ h => (Bool.false_ne_true h).elim, fun _ _ _ _ _ => rfl⟩
  refine SrtO.sorted_ord O hl.isList (by rw [← ev]; exact hz) (fun h2 => absurd h2 (by omega)) fun out h1 h2 => ?_
  obtain ⟨n, hn⟩ := sortedAll_at s.heap its (List.toArray out)
  have eo : out = its := perm_short h2.perm (by omega)
  subst eo
  refine ⟨.ref _, upd H (s.heap.objs.size + 1) (.lst xs), I.laid (t' := s.toks) (fun _ _ => sortedAll_old) (Nat.le_succ _) ⟨hz, out, n, rv, hn⟩, rfl, q _ _ (I.hok.fresh (Nat.le_succ _)) ?_⟩
  rw [sort_short _ hL]
  exact hx
end
section
variable {β : Type} {A : AS} {X : Cx} {e : Expr} {pos p : Pos}
theorem cl_sort {enc : β → PyData} {bs : List β} : Cl A (rSortD enc bs) [.dat (.list (bs.map enc))] (.dat (.list ((bs.mergeSort (PySem.W.dataLe false enc)).map enc))) := fun G σ H xs C h Q q => by
  obtain ⟨v, rfl, h1⟩ := ho1 h
  obtain ⟨a, xs, rfl, h2, h3⟩ := Da.lst_inv h1
  refine ⟨a, xs, G, rfl, C.gh, h2, h3, fun p ys hp hy => ?_⟩
  have F := (Fr.refl (hd := A.hd) C.gh).new (o := .lst ys) hp
  exact q _ _ _ F (Da.lst upd_same (hy.mono F.gg))
theorem ev_sortD {enc : β → PyData} {bs : List β} (hm : X.mg "sorted" = none) (ha : Ev A X e (.list (bs.map enc))) (h : bs.length < 2 ∨ (PySem.W.AllAlike (bs.map enc) ∧ PySem.W.Sortable (bs.map enc) ∧ ∀ b ∈ bs, (enc b).depth ≤ 8)) (hL : bs.length ≤ sizeLine) (hu : X.A.units + 64 < cLine)
    (hs : starEach [e] X.env = (false, eval e X.env) :: starEach [] X.env := by rfl) (hg : Gl X "sorted" := by rfl) (hpl : (backTo pos (starEach [] X.env)).any (·.1) = false := by rfl) :
    Ev A X (.Call (.Name "sorted" p) [e] [] pos) (.list ((bs.mergeSort (PySem.W.dataLe false enc)).map enc)) := by
  rcases h with h | ⟨h1, h2, h3⟩
  · exact ev_callB (cr_sort1 h) hg hm boot_sorted (ea_cons ha ea_nil hs) cl_sort (by decide) (by decide) hs hpl
  · exact ev_callB (cr_sortD h1 h2 hL hu h3) hg hm boot_sorted (ea_cons ha ea_nil hs) cl_sort (by decide) (by decide) hs hpl
theorem dataLe_iT : PySem.W.dataLe false iT = lexLe := by
  funext x y
  show (!PySem.W.dataLt (iT y) (iT x)) = _
  have e : PySem.W.dataLt (iT y) (iT x) = decide (y < x) := by
    rw [← PySem.W.dataLt_ints]
    rw [PySem.W.dataLt_tuple] <;> rfl
  rw [e]
  unfold lexLe
  by_cases h : y < x
  · have h' : ¬ x ≤ y := fun r => List.not_lt.mpr r h
    simp [h, h']
  · have h' : x ≤ y := List.not_lt.mp h
    simp [h, h']
theorem depth_iT (r : List Int) : (iT r).depth ≤ 8 := by
  show (PyData.tuple (r.map .int)).depth ≤ 8
  rw [PyData.depth, PySem.W.depth_ints]
  decide
/-- sorted rows, all of one length -/
theorem ev_sortR {rs : List (List Int)} (hm : X.mg "sorted" = none) (ha : Ev A X e (rL rs)) (h : rs.length < 2 ∨ ∀ r ∈ rs, r ≠ []) (hL : rs.length < 100000) (hu : X.A.units + 64 < cLine)
    (hs : starEach [e] X.env = (false, eval e X.env) :: starEach [] X.env := by rfl) (hg : Gl X "sorted" := by rfl) (hpl : (backTo pos (starEach [] X.env)).any (·.1) = false := by rfl) :
    Ev A X (.Call (.Name "sorted" p) [e] [] pos) (rL (sortR rs)) := by
  have q := ev_sortD (pos := pos) (p := p) hm ha (h.imp id fun h => ⟨PySem.W.AllAlike.of fun x y => by
    show PySem.W.alike (.tuple (x.map .int)) (.tuple (y.map .int)) = true
    rw [PySem.W.alike]
    exact PySem.W.alike_ints x y, .inl fun d hd => by
    obtain ⟨r, hr, rfl⟩ := List.mem_map.mp hd
    cases r with
    | nil => exact absurd rfl (h _ hr)
    | cons x r => exact ⟨_, _, rfl⟩, fun b _ => depth_iT b⟩) (Nat.le_trans (Nat.le_of_lt hL) (Nat.le_trans (by omega) sizeLine_big)) hu hs hg hpl
  rw [dataLe_iT] at q
  exact q
end
end K82
/-! Rows compared. -/
namespace K82
open PySem PySem.Spec PyProof.Rows L2
theorem eqv_ints : ∀ x y : List Int, PyData.eqvAll (x.map PyData.int) (y.map PyData.int) = (x == y)
  | [], [] => by simp [PyData.eqvAll]
  | [], _ :: _ => by simp [PyData.eqvAll]
  | _ :: _, [] => by simp [PyData.eqvAll]
  | a :: x, b :: y => by
    show PyData.eqvAll (.int a :: x.map PyData.int) (.int b :: y.map PyData.int) = (a :: x == b :: y)
    rw [PyData.eqvAll, eqv_ints x y, PyData.eqv]
    rfl
theorem eqv_iT (x y : List Int) : PyData.eqv (iT x) (iT y) = (x == y) := by
  show PyData.eqv (.tuple (x.map PyData.int)) (.tuple (y.map PyData.int)) = _
  rw [PyData.eqv]
  exact eqv_ints x y
theorem shaped_iT (x : List Int) : SeqAt.shaped (iT x) = true := by
  unfold SeqAt.shaped
  rw [show (iT x).canLay0 = PyData.canLayAll0 (x.map .int) by rw [PyData.canLay0], canLayAll_ints x, Bool.true_and, decide_eq_true_eq]
  exact Nat.le_trans (depth_iT x) (by decide)
theorem shaped_pair {x y : List Int} : SeqAt.shaped (.tuple [iT x, iT y]) = true := by
  unfold SeqAt.shaped
  have c : ∀ z : List Int, (iT z).canLay0 = true := fun z => by rw [show (iT z).canLay0 = PyData.canLayAll0 (z.map .int) by rw [PyData.canLay0], canLayAll_ints z]
  have d : ∀ z : List Int, (iT z).depth = 1 := fun z => by
    show (PyData.tuple (z.map .int)).depth = 1
    rw [PyData.depth, PySem.W.depth_ints]
  rw [PyData.canLay0, PyData.canLayAll0, PyData.canLayAll0, PyData.canLayAll0, c, c, PyData.depth, PyData.depthAll, PyData.depthAll, PyData.depthAll, d, d]
  decide
theorem eqv_pair {x y x' y' : List Int} : PyData.eqv (.tuple [iT x, iT y]) (.tuple [iT x', iT y']) = (x == x' && y == y') := by
  rw [PyData.eqv, PyData.eqvAll, PyData.eqvAll, PyData.eqvAll, eqv_iT, eqv_iT, Bool.and_true]
theorem shaped_nil : SeqAt.shaped (.list []) = true := by decide
theorem canLay_rows : ∀ rs : List (List Int), PyData.canLayAll0 (rs.map iT) = true
  | [] => by rw [List.map_nil, PyData.canLayAll0]
  | r :: rs => by rw [List.map_cons, PyData.canLayAll0, canLay_rows rs, show (iT r).canLay0 = PyData.canLayAll0 (r.map .int) by rw [PyData.canLay0], canLayAll_ints r] <;> rfl
theorem depth_rows : ∀ rs : List (List Int), PyData.depthAll (rs.map iT) ≤ 1
  | [] => by
    rw [List.map_nil, PyData.depthAll]
    omega
  | r :: rs => by
    rw [List.map_cons, PyData.depthAll, show (iT r).depth = 1 by
      show (PyData.tuple (r.map .int)).depth = 1
      rw [PyData.depth, PySem.W.depth_ints]]
    have := depth_rows rs
    omega
theorem shaped_rL (rs : List (List Int)) : SeqAt.shaped (rL rs) = true := by
  unfold SeqAt.shaped
  rw [show (rL rs).canLay0 = PyData.canLayAll0 (rs.map iT) by rw [PyData.canLay0], canLay_rows, Bool.true_and, decide_eq_true_eq, show (rL rs).depth = PyData.depthAll (rs.map iT) + 1 by rw [PyData.depth]]
  have := depth_rows rs
  omega
theorem shaped_nT (ns : List Nat) : SeqAt.shaped (nT ns) = true := by
  have e : nT ns = iT (ns.map fun (n : Nat) => (n : Int)) := by
    show PyData.tuple _ = PyData.tuple _
    rw [List.map_map] <;> rfl
  rw [e]
  exact shaped_iT _
theorem eqv_rL0 (rs : List (List Int)) : PyData.eqv (rL rs) (.list []) = rs.isEmpty := by
  show PyData.eqv (.list (rs.map iT)) (.list []) = _
  rw [PyData.eqv]
  cases rs with
  | nil => rw [List.map_nil, PyData.eqvAll] <;> rfl
  | cons r rs => rw [List.map_cons, PyData.eqvAll] <;> rfl
theorem eqv_nT0 (ns : List Nat) : PyData.eqv (nT ns) (.tuple []) = ns.isEmpty := by
  show PyData.eqv (.tuple (ns.map _)) (.tuple []) = _
  rw [PyData.eqv]
  cases ns with
  | nil => rw [List.map_nil, PyData.eqvAll] <;> rfl
  | cons r rs => rw [List.map_cons, PyData.eqvAll] <;> rfl
theorem nT_iT (ns : List Nat) : nT ns = iT (ns.map fun (n : Nat) => (n : Int)) := by
  show PyData.tuple _ = PyData.tuple _
  rw [List.map_map] <;> rfl
section
variable {A : AS} {X : Cx} {a b : Expr} {pos : Pos}
theorem tv_eqT {x y : List Int} (hu : X.A.units + 64 < cLine) (ha : Ev A X a (iT x)) (hb : Ev A X b (iT y)) : Tv A X (.Compare a [.Eq] [b] pos) (x == y) := Tv.to (tv_eqD hu ha hb (shaped_iT x) (shaped_iT y)) (eqv_iT x y)
/-- kind[0] if kind else 0 -/
theorem ev_head {c c' : Expr} {ns : List Nat} {i0 j0 : Nat} {p0 p1 p2 p3 : Pos} (hc : Ev A X c (nT ns)) (hc' : Ev A X c' (nT ns)) (he : ∀ whole, isTrue c X.env whole = (do let v ← whole; standAt c.pos; holding [v] (truthy v)) := by intro _; rfl) : Ev A X (.IfExp c (.Subscript c' (.Constant (.int 0) i0 p0) p1) (.Constant (.int 0) j0 p2) p3) (.int ((ns.headD 0 : Nat) : Int)) :=
  ev_ifExp (tv_truT hc he) (fun hb => by
    cases ns with
    | nil => simp at hb
    | cons n ns => exact ev_ixT hc' ev_int (at_map (k := 0) rfl)) fun hb => by
    cases ns with
    | nil => exact ev_int
    | cons n ns => simp at hb
end
section
variable {B : Bs} {A : AS} {X : Cx} {st : Stmt} {P : Po}
/-- what holds behind a statement is told once -/
theorem so_conseq (J : AS → Prop) (h : So B X st A { P with nx := J }) (k : ∀ A', J A' → P.nx A') : So B X st A P := fun Z σ H S =>
  (h Z σ H S).mono (fun σ' H' ⟨A', q, S'⟩ => ⟨A', k A' q, S'⟩) (fun v H' q => q) (fun σ' H' q => q) fun σ' H' q => q
end
end K82
/-! Rules of the logic: isinstance, not in a tuple of ints. -/
namespace K82
open PySem PySem.Spec PyProof.Rows L2
def tyD : PyData → String
  | .none => "NoneType"
  | .bool _ => "bool"
  | .int _ => "int"
  | .str _ => "str"
  | .list _ => "list"
  | .tuple _ => "tuple"
  | .dict _ => "dict"
theorem tyD_da {K : PySem.W.Frag} {G H : Hp} {v : V} {d : PyData} (e : Same G H) (h : Da G v d) : TyX K H v (.type (tyD d)) := by
  cases h with
  | non => exact .base .non
  | bl b => exact .base (.bl b)
  | int i => exact .base (.int i)
  | str x => exact .base (.str x)
  | lst h _ => exact .base (.lst (e _ _ h))
  | tup h _ => exact .base (.tup (e _ _ h))
theorem inV_ints (i : Int) : ∀ ns : List Int, inV (V.int i) (ns.map V.int) = decide (i ∈ ns)
  | [] => by simp [inV]
  | n :: ns => by
    have ih := inV_ints i ns
    unfold inV at ih ⊢
    rw [List.map_cons, List.any_cons, ih]
    by_cases h : n = i
    · simp [eqV, h]
    · have h' : ¬ i = n := fun e => h e.symm
      simp [eqV, h, h']
section
variable {A : AS} {X : Cx} {a b e : Expr} {pos : Pos}
theorem ev_isi {T : Str} {tn : String} {p p2 : Pos} {d : PyData} {k : Bool} (ha : Ev A X a d) (hm : X.mg "isinstance" = none) (hmT : X.mg T = none) (hb : bootBuiltins T = some (.type tn)) (hk : kitB (tyD d) tn = some k)
    (hg : Gl X "isinstance" := by rfl) (hgT : Gl X T := by rfl) (hn : T ≠ "__name__" := by decide) (hd : (T == ("__debug__" : Str)) = false := by decide)
    (hs : starEach [a, .Name T p2] X.env = (false, eval a X.env) :: starEach [.Name T p2] X.env := by rfl) (hs1 : starEach [.Name T p2] X.env = (false, eval (.Name T p2) X.env) :: starEach [] X.env := by rfl) (hpl : (backTo pos (starEach [.Name T p2] X.env)).any (·.1) = false := by rfl) :
    Ev A X (.Call (.Name "isinstance" p) [a, .Name T p2] [] pos) (.bool k) := fun G σ H C Q q =>
  (pe_callB call_isi hg hm boot_isinstance (pa_cons pe_s (pa_cons (pe_bltn (v := .ty tn) hgT hmT hb rfl hn hd) pa_nil hs1) hs) (by decide) (by decide) hs hpl).s (show SE X a σ H fun x H1 => rIsi X.K [x, .ty tn] H1 Q from ha G σ H C _ fun v H1 G1 t F pt hv => by
    subst pt
    exact ⟨v, .ty tn, .type (tyD d), .type tn, k, rfl, .ty tn, tyD_da F.gh hv, kit_ty hk, q _ H1 G1 _ F rfl (Da.bl k)⟩)
theorem tv_notIn {i : Int} {ns : List Int} (ha : Ev A X a (.int i)) (hb : Ev A X b (iT ns)) (hm : behindInMarks .NotIn b = false := by rfl) : Tv A X (.Compare a [.NotIn] [b] pos) (!decide (i ∈ ns)) := tv_cmp op_notIn_seq ha hb (fun G σ H x y C hx hy Q q => by
  have ex := Da.int_inv hx
  subst ex
  obtain ⟨p, xs, rfl, h1, h2⟩ := Da.tup_inv hy
  have e := h2.ints
  subst e
  refine ⟨p, _, rfl, .inr (SqT.of (C.gh _ _ h1)), rfl, ?_, ?_⟩
  · rw [List.all_eq_true]
    intro v hv
    obtain ⟨j, _, rfl⟩ := List.mem_map.mp hv
    rfl
  · show Q (.bl (!inV (V.int i) (ns.map V.int))) H
    rw [inV_ints]
    exact q _ H G _ (Fr.refl C.gh) rfl (Da.bl _)) hm
end
end K82
/-! Rules of the logic: a comprehension of two clauses, the second over range(n). -/
namespace K82
open PySem PySem.Spec PyProof.Rows L2
theorem flat_take {α β : Type} {f : α → List β} {xs : List α} {i : Nat} {a : α} (h : xs[i]? = some a) : (xs.take (i + 1)).flatMap f = (xs.take i).flatMap f ++ f a := by
  rw [List.take_add_one, h, List.flatMap_append]
  simp
section
variable {A : AS} {X : Cx} {scope : Scope} {elt it e1 : Expr} {pos : Pos}
theorem lc2_ok {α : Type} (j1 j2 : Nat) (h12 : j1 ≠ j2) (xs : List α) (enc : α → PyData) (n : Nat) (gd : α → Nat → PyData) (hit : Ev A X it (.list (xs.map enc))) (hlen : xs.length * n + n < 100000) (hn : ∀ a ∈ xs, EvB ({ A with Γ := A.Γ.set j2 none }.put j1 (.dat (enc a))) X scope e1 (.int (n : Int)))
    (hte : ∀ a ∈ xs, ∀ k, k < n → EvB ((A.put j1 (.dat (enc a))).put j2 (.dat (.int (k : Int)))) X scope elt (gd a k)) :
    TeOk A (tLc2 (iList X.K (SE X it)) (gName j1) tYes (iRng1 (tCons (blkE X scope e1) tNil)) (gName j2) tYes (blkE X scope elt) [j1, j2] [j2]) fun u => u = .dat (.list (xs.flatMap fun a => (List.range n).map (gd a))) := fun G σ H C Q q => by
  show SE X it σ H fun x H1 => _
  refine hit G σ H C _ fun v H1 G1 t F p hv => ?_
  subst p
  obtain ⟨l, xv, rfl, f1, f2⟩ := Da.lst_inv hv
  have el : xv.length = xs.length := by rw [f2.length, List.length_map]
  have C1 := C.step F
  refine ⟨l, rfl, ⟨xv, SqL.of (F.gh _ _ f1)⟩, fun D hD => ?_⟩
  have hdD : A.hd ≠ some D := fun e => by
    obtain ⟨⟨_, _, _, _, _, _, h1, _⟩, _⟩ := C1.hand D e
    rw [hD] at h1
    cases h1
  have wl : Walk (Itl X.K l) xs.length (fun H => SqL X.K H l xv) (YAt xv) := el ▸ walk_list (xs := xv)
  let f := fun a => (List.range n).map (gd a)
  have fl : ∀ i, ((xs.take i).flatMap f).length ≤ xs.length * n := fun i => by
    have h1 : ∀ ys : List α, (ys.flatMap f).length = ys.length * n := fun ys => by
      induction ys with
      | nil => simp
      | cons y ys ih => rw [List.flatMap_cons, List.length_append, ih, List.length_cons, Nat.succ_mul]; simp [f, Nat.add_comm]
    rw [h1, List.length_take]
    exact Nat.mul_le_mul_right _ (by omega)
  refine ⟨fun i m H => m = xs.length - i ∧ i ≤ xs.length ∧ ∃ G acc, Fr A.hd H1 G1 H G ∧ G D = none ∧ H D = some (.lst acc) ∧ DaAll G acc ((xs.take i).flatMap f), ⟨xs.length, by simp, Nat.zero_le _, G1, [], (Fr.refl C1.gh).newT hD, C1.gh.free hD, upd_same, .nil⟩, ?_⟩
  rintro i m H2 ⟨rfl, hi, G2, acc, F2, d1, d2, d3⟩
  have hG2 : SqL X.K H2 l xv := SqL.of (F2.gh _ _ (F2.gg _ _ f1))
  by_cases hlt : i < xs.length
  · refine .inr ⟨wl.goes i H2 hlt hG2, fun H' => ∃ G acc, Fr A.hd H1 G1 H' G ∧ G D = none ∧ H' D = some (.lst acc) ∧ DaAll G acc ((xs.take (i + 1)).flatMap f), fun H' h' => ⟨xs.length - (i + 1), by omega, rfl, hlt, h'⟩, fun x H3 y => ?_⟩
    obtain ⟨rfl, y1⟩ := wl.yields i H2 x H3 hlt hG2 y
    obtain ⟨a, ha, hamem⟩ : ∃ a, xs[i]? = some a ∧ a ∈ xs := ⟨xs[i], List.getElem?_eq_getElem hlt, List.getElem_mem hlt⟩
    have hx : Da G2 x (enc a) := by
      obtain ⟨d, e2, e3⟩ := f2.get' y1
      rw [List.getElem?_map, ha] at e2
      cases e2
      exact e3.mono F2.gg
    have st1 : ∀ {H5 G5 : Hp}, Fr A.hd H1 G1 H5 G5 → Same G2 G5 → Cfg ({ A with Γ := A.Γ.set j2 none }.put j1 (.dat (enc a))) G5 ((L2.wipe σ [j1, j2]).set j1 (some x)) H5 := fun {H5 G5} F5 s5 => by
      have q3 := ((C1.step F5).wipe [j1, j2]).put (t := .dat (enc a)) (v := x) j1 (hx.mono s5)
      have e : (wipeT A.Γ [j1, j2]).set j1 (some (Ty.dat (enc a))) = (A.Γ.set j2 none).set j1 (some (Ty.dat (enc a))) := List.set_set ..
      have q4 : Cfg { A with Γ := (wipeT A.Γ [j1, j2]).set j1 (some (Ty.dat (enc a))) } G5 ((L2.wipe σ [j1, j2]).set j1 (some x)) H5 := q3
      rw [e] at q4
      exact q4
    have C3 := st1 F2 (Same.refl _)
    refine ⟨?_, ?_⟩
    · show L2.wipe ((L2.wipe σ [j1, j2]).set j1 (some x)) [j1, j2] = L2.wipe σ [j1, j2]
      rw [wipe_set, if_pos List.mem_cons_self, wipe_wipe _ _ _ fun _ h => h]
    · show blkE X scope e1 ((L2.wipe σ [j1, j2]).set j1 (some x)) H3 fun w H4 => ∃ j : Int, [w] = [.int j] ∧ _
      refine fun s0 H0 Cc cl fp => hn a hamem s0 H0 Cc cl fp G2 _ H3 C3 _ fun v4 H4 G4 t4 F4 p4 h4 => ?_
      subst p4
      have h4 := Da.int_inv h4
      subst h4
      refine ⟨(n : Int), rfl, by omega, by omega, ?_⟩
      have dk4 := F4.keep D _ hdD d2
      refine ⟨fun j m H => m = n - j ∧ j ≤ n ∧ ∃ G acc, Fr A.hd H1 G1 H G ∧ Same G2 G ∧ G D = none ∧ H D = some (.lst acc) ∧ DaAll G acc ((xs.take i).flatMap f ++ (List.range j).map (gd a)), ⟨n, by simp, Nat.zero_le _, G4, acc, F2.trans F4, F4.gg, F4.fr D _ d2 d1 rfl, dk4, by rw [List.range_zero, List.map_nil, List.append_nil]; exact d3.mono F4.gg⟩, ?_⟩
      rintro j m H5 ⟨rfl, hj, G5, acc5, F5, s5, b1, b2, b3⟩
      by_cases hjn : j < n
      · refine .inr ⟨show j < (n : Int).toNat by omega, fun H => ∃ G acc, Fr A.hd H1 G1 H G ∧ Same G2 G ∧ G D = none ∧ H D = some (.lst acc) ∧ DaAll G acc ((xs.take i).flatMap f ++ (List.range (j + 1)).map (gd a)), fun H' h' => ⟨n - (j + 1), by omega, rfl, hjn, h'⟩, fun x6 H6 y6 => ?_⟩
        obtain ⟨rfl, rfl⟩ := (y6 : H6 = H5 ∧ x6 = .int (0 + (j : Int)))
        have C5 : Cfg ((A.put j1 (.dat (enc a))).put j2 (.dat (.int (j : Int)))) G5 ((L2.wipe ((L2.wipe σ [j1, j2]).set j1 (some x)) [j2]).set j2 (some (.int (0 + (j : Int))))) H6 := by
          have q5 := ((st1 F5 s5).wipe [j2]).put (t := .dat (.int (j : Int))) (v := .int (0 + (j : Int))) j2 (by rw [Int.zero_add]; exact Da.int _)
          have e : (wipeT ((A.Γ.set j2 none).set j1 (some (Ty.dat (enc a)))) [j2]).set j2 (some (Ty.dat (.int (j : Int)))) = (A.Γ.set j1 (some (Ty.dat (enc a)))).set j2 (some (Ty.dat (.int (j : Int)))) := by
            show ((((A.Γ.set j2 none).set j1 _).set j2 none).set j2 _) = _
            rw [List.set_set, List.set_comm _ _ h12.symm, List.set_set, List.set_comm _ _ h12]
          have q6 : Cfg { A with Γ := (wipeT ((A.Γ.set j2 none).set j1 (some (Ty.dat (enc a)))) [j2]).set j2 (some (Ty.dat (.int (j : Int)))) } G5 _ H6 := q5
          rw [e] at q6
          exact q6
        refine ⟨?_, ?_⟩
        · show L2.wipe ((L2.wipe _ [j2]).set j2 _) [j2] = L2.wipe _ [j2]
          rw [wipe_set, if_pos List.mem_cons_self, wipe_wipe _ _ _ fun _ h => h]
        · show blkE X scope elt _ H6 fun y H7 => _
          refine fun s0 H0 Cc cl fp => hte a hamem j hjn s0 H0 Cc cl fp G5 _ H6 C5 _ fun v7 H7 G7 t7 F7 p7 h7 => ?_
          subst p7
          have dk := F7.keep D _ hdD b2
          have dg := F7.fr D _ b2 b1 rfl
          have F57 := F5.trans F7
          have la := b3.length
          have l2 := fl i
          rw [List.length_append, List.length_map, List.length_range] at la
          refine ⟨acc5, dk, Nat.lt_of_lt_of_le (show acc5.length < 100000 by omega) (Nat.le_trans (by omega) sizeLine_big), G7, acc5 ++ [v7], F57.mut hD dg hdD, s5.trans F7.gg, dg, upd_same, ?_⟩
          rw [List.range_succ, List.map_append, ← List.append_assoc]
          exact (b3.mono F7.gg).append (.cons h7 .nil)
      · have e : j = n := by omega
        subst e
        refine .inl ⟨show (j : Int).toNat ≤ j by omega, G5, acc5, F5, b1, b2, ?_⟩
        rw [flat_take ha]
        exact b3
  · have e : i = xs.length := by omega
    subst e
    rw [List.take_length] at d3
    have F3 := F2.give hD d1 d2
    exact .inl ⟨wl.stops H2 hG2, q _ H2 _ _ (F.trans F3) rfl (.lst upd_same (d3.mono (same_new d1)))⟩
theorem so_lc2 {B : Bs} {P : Po} {α : Type} {x1 x2 y : Str} {px1 px2 py pr pos1 spos : Pos} (i j1 j2 : Nat) (h12 : j1 ≠ j2) (xs : List α) (enc : α → PyData) (n : Nat) (gd : α → Nat → PyData) (hNd : X.N.Nodup) (ok : BlkOk X.N X.env.scope scope [(x1, j1), (x2, j2)]) (hit : Ev A X it (.list (xs.map enc))) (hlen : xs.length * n + n < 100000)
    (hn : ∀ a ∈ xs, EvB ({ A with Γ := A.Γ.set j2 none }.put j1 (.dat (enc a))) X scope e1 (.int (n : Int))) (hte : ∀ a ∈ xs, ∀ k, k < n → EvB ((A.put j1 (.dat (enc a))).put j2 (.dat (.int (k : Int)))) X scope elt (gd a k))
    (k : P.nx (A.put i (.dat (.list (xs.flatMap fun a => (List.range n).map (gd a))))))
    (hi1 : ∀ (s : Shared) (H : Hp) (C : Addr) (cl : List (Str × Addr)) (fp : List Addr), PI (X.blk s H scope (compEnvC scope cl C X.env) fp) (.Name x2 px2) (.Call (.Name "range" pr) [e1] [] pos1) (iRng1 (tCons (blkE X scope e1) tNil)))
    (hg : ∀ (s : Shared) (H : Hp) (C : Addr) (cl : List (Str × Addr)) (fp : List Addr), PG (X.blk s H scope (compEnvC scope cl C X.env) fp) (.Name x1 px1) (gName j1)) (hg1 : ∀ (s : Shared) (H : Hp) (C : Addr) (cl : List (Str × Addr)) (fp : List Addr), PG (X.blk s H scope (compEnvC scope cl C X.env) fp) (.Name x2 px2) (gName j2))
    (hsw : swapsWith (.ListComp elt [⟨.Name x1 px1, it, [], 0⟩, ⟨.Name x2 px2, .Call (.Name "range" pr) [e1] [] pos1, [], 0⟩] scope pos) (some (.Name y py)) spos.line X.env = pure true) (hy : X.N[i]? = some y := by rfl) (hyl : X.env.scope.names.lookup y = some .local := by rfl)
    (hc : X.calm = true := by rfl) (hs : ∀ x, foldedSetIterable it X.env x = pure x := by intro _; rfl) (hs1 : ∀ env x, foldedSetIterable (.Call (.Name "range" pr) [e1] [] pos1) env x = pure x := by intro _ _; rfl) :
    So B X (.Assign [.Name y py] (.ListComp elt [⟨.Name x1 px1, it, [], 0⟩, ⟨.Name x2 px2, .Call (.Name "range" pr) [e1] [] pos1, [], 0⟩] scope pos) spos) A P :=
  so_asgTe i (ps_setLc2 (spos := spos) (vs1 := [j2]) hc hNd hy hyl hsw (pi_list pe_s) ok (fun v hv => by
    have e : v = j2 := by simpa using hv
    subst e
    simp) hg (fun _ _ _ _ _ => pts_nil) hi1 hg1 (fun _ _ _ _ _ => pts_nil) (blkE_pe (e := elt)) hs hs1) (lc2_ok (A := A) j1 j2 h12 xs enc n gd hit hlen hn hte) fun u e => by
      rw [e]
      exact k
end
end K82
/-! Rules of the logic: an object that is made, its fields set. -/
namespace K82
open PySem PySem.Spec PyProof.Rows L2
section
variable {B : Bs} {A : AS} {X : Cx} {a b e : Expr} {es : List Expr} {pos : Pos} {P : Po}
/-- a field of an own object -/
theorem ev_fldM (k : Nat) {C : Addr} {l : Addr} {fs : List (Str × PyData)} {f : Str} {d : PyData} (ha : EvT A X a (.adr l)) (hk : A.Mu[k]? = some (l, .ins C fs)) (hc : Cls X.K C) (hn : NoAttr X.K C f) (hf : fs.lookup f = some d) (hb : attributeBase a f X.env (eval a X.env) = eval a X.env := by rfl) : Ev A X (.Attribute a f pos) d := fun G σ H Cf Q q =>
  (pe_fld pe_s hb).s (show SE X a σ H fun x H1 => ∃ a C dx fs v, x = .ref a ∧ H1 a = some (.ins C dx fs) ∧ Cls X.K C ∧ NoAttr X.K C f ∧ fs.lookup f = some v ∧ Q v H1 from ha G σ H Cf _ fun v H1 G1 t F p h => by
    subst p
    have h : v = .ref l := h
    subst h
    obtain ⟨_, _, dx, fsV, h1, _, h3⟩ := (Cf.step F).mu k l _ hk
    obtain ⟨u, h4, h5⟩ := h3 f d hf
    exact ⟨l, C, dx, fsV, u, rfl, h1, hc, hn, h4, q u H1 G1 _ F rfl h5⟩)
/-- self.f = e -/
theorem so_setF (i k : Nat) {C : Addr} {l : Addr} {fs : List (Str × PyData)} {f x : Str} {d : PyData} {px ap : Pos} (hk : A.Mu[k]? = some (l, .ins C fs)) (hc : Cls X.K C) (hn : NoAttr X.K C f) (hl : fs.length < 100) (he : Ev A X e d) (h : P.nx { A with Mu := A.Mu.set k (l, .ins C ((f, d) :: fs)) })
    (hΓ : A.Γ[i]? = some (some (.adr l)) := by rfl) (hN : X.N[i]? = some x := by rfl) (hv : Vis X.env.scope x := by first | exact Or.inl rfl | exact Or.inr (Or.inl rfl) | exact Or.inr (Or.inr rfl))
    (hd : (x == ("__debug__" : Str)) = false := by decide) (hcd : (x == ("__classdict__" : Str)) = false := by decide) (hs : swapsWith e (some (.Attribute (.Name x px) f ap)) pos.line X.env = pure false := by rfl) :
    So B X (.Assign [.Attribute (.Name x px) f ap] e pos) A P := fun Z σ H ⟨h0, G, h1, h2, h3, h4⟩ => by
  refine (ps_fld (pe_var hN hv hd hcd) pe_s hs).s ?_
  obtain ⟨v, e1, e2⟩ := h3.sl i _ hΓ
  have e2 : v = .ref l := e2
  subst e2
  show SE X e σ H fun y H1 => ∃ v, σ[i]? = some (some v) ∧ ∃ a C dx fs, v = .ref a ∧ H1 a = some (.ins C dx fs) ∧ Cls X.K C ∧ NoAttr X.K C f ∧ fs.length < 1000 ∧ (P.ends B Z).nx σ (upd H1 a (.ins C dx (putF f y fs)))
  refine he G σ H h3 _ fun w H1 G1 t F p hw => ⟨.ref l, e1, ?_⟩
  subst p
  obtain ⟨g0, g1, dx, fsV, g2, g3, g4⟩ := (h3.step F).mu k l _ hk
  have F2 : Fr B.hd B.H B.G H1 G1 := h2.trans (h0 ▸ F)
  refine ⟨l, C, dx, fsV, rfl, g2, hc, hn, by omega, _, h, h0, G1, h1.trans F.gg, F2.mut (h4 k l _ hk) g0 (by rw [← h0]; exact g1), (h3.step F).mutate hk ⟨dx, putF f w fsV, upd_same, ?_, fun g d' q => ?_⟩, fun j l' n q => ?_⟩
  · have := length_putF f w fsV
    rw [List.length_cons]
    omega
  · rw [lookup_putF]
    rw [List.lookup_cons] at q
    by_cases hg : g = f
    · subst hg
      rw [beq_self_eq_true] at q
      cases q
      exact ⟨w, if_pos rfl, hw⟩
    · rw [beq_false_of_ne hg] at q
      rw [if_neg hg]
      exact g4 g d' q
  · have q : (A.Mu.set k (l, MTy.ins C ((f, d) :: fs)))[j]? = some (l', n) := q
    by_cases hj : k = j
    · subst hj
      rw [List.getElem?_set_self (List.getElem?_eq_some_iff.mp hk).1] at q
      cases q
      exact h4 k l _ hk
    · rw [List.getElem?_set_ne hj] at q
      exact h4 j l' n q
end
section
variable {B : Bs} {A : AS} {X : Cx} {a b e : Expr} {es : List Expr} {pos : Pos} {P : Po}
/-- name = [e], a list to be changed -/
theorem so_newL1 (i : Nat) {x : Str} {px pl : Pos} {d : PyData} (hNd : X.N.Nodup) (he : Ev A X e d) (k : ∀ l, P.nx { hd := A.hd, Γ := A.Γ.set i (some (.adr l)), Mu := (l, .lst [d]) :: A.Mu }) (hN : X.N[i]? = some x := by rfl) (hx : Loc X.env.scope x := by first | exact Or.inl rfl | exact Or.inr rfl)
    (hst : starEach [e] X.env = (false, eval e X.env) :: starEach [] X.env := by rfl) (hs : swapsWith (.List [e] pl) (some (.Name x px)) pos.line X.env = pure false := by rfl) (hf : X.fn x = true ∨ X.env.scope.names.lookup x = some .local := by first | exact .inl rfl | exact .inr rfl) : So B X (.Assign [.Name x px] (.List [e] pl) pos) A P :=
  so_own (m := .lst [d]) i hNd (fun G σ H C Q q => (pe_lst pa_s).s (show SA X [e] σ H fun xs H1 => xs.length ≤ sizeLine ∧ ∀ p, H1 p = none → Q (.ref p) (upd H1 p (.lst xs)) from ea_cons he ea_nil hst G σ H C _ fun vs H1 G1 ts F pt hv => by
    subst pt
    obtain ⟨v, rfl, h1⟩ := ho1 hv
    exact ⟨by show 1 ≤ sizeLine; decide, fun p hp => q _ H1 G1 p _ F hp rfl ⟨[v], upd_same, .cons h1 .nil⟩⟩)) k hN hx hs hf
/-- at a place of an own list -/
theorem ev_ixMu (k : Nat) {l : Addr} {ds : List PyData} {i : Int} {d : PyData} (ha : EvT A X a (.adr l)) (hk : A.Mu[k]? = some (l, .lst ds)) (hb : Ev A X b (.int i)) (h : atI ds i = some d) (hs : PlainIx b := by exact fun _ _ => rfl) : Ev A X (.Subscript a b pos) d :=
  ep_ix ix_list ha hb hs fun _ _ e1 e2 G σ H x y C hx hy Q q => by
    subst e1 e2
    have hx : x = .ref l := hx
    subst hx
    have ey := Da.int_inv hy
    subst ey
    obtain ⟨_, _, vs, h1, h2⟩ := C.mu k l _ hk
    obtain ⟨j, h3, h4⟩ := Option.bind_eq_some_iff.mp h
    obtain ⟨v, h5, h6⟩ := h2.get h4
    refine ⟨l, vs, i, v, rfl, rfl, SqL.of h1, ?_, q _ H G _ (Fr.refl C.gh) rfl h6⟩
    unfold atI
    rw [h2.length, h3]
    exact h5
end
/-- what stands but the object at l -/
def less (H : Hp) (l : Addr) : Hp := fun b => if b = l then none else H b
theorem less_same {H : Hp} {l : Addr} : less H l l = none := if_pos rfl
theorem less_ne {H : Hp} {l b : Addr} (h : b ≠ l) : less H l b = H b := if_neg h
/-- what an __init__ promises: the fields -/
abbrev PrC := List Ty → List (Str × PyData) → Prop
def spC (C : Addr) (Pre : PrC) : Sp := fun vs H Q _ => ∃ G l dx ts fs, Same G H ∧ G l = none ∧ H l = some (.ins C dx []) ∧ HoAll G vs (.adr l :: ts) ∧ Pre ts fs ∧ ∀ H' G', Fr none (less H l) G H' G' → G' l = none → Mo G' H' l (.ins C fs) → Q .non H'
section
variable {P : Program} {w : World} {K : PySem.W.Frag} {mg : Str → Option Value} {base : Heap}
theorem defC_ok {x qual : Str} {params : Arguments} {body : List Stmt} {sc : Scope} {dvs : List V} {f : Addr} {fd : FuncData} {N ps : List Str} {k : Nat} {C : Addr} {Pre : PrC} (F : FunD K x qual params body sc dvs [] f fd) (S : FnScope N ps sc) (len : ∀ ts T, Pre ts T → ts.length + 1 = ps.length)
    (h : ∀ (cdv : Value) (A : Around) (outer : List Env) (s : Shared) (H : Hp) (E : XK) (G : Hp) l ts fs Hl, Room k (A.deeper (envOfC qual sc s.heap.objs.size f cdv)) → Pre ts fs → Sos ⟨Hl, G, none⟩ (cxx P w K mg base N qual sc f cdv A outer s H E) body ⟨none, startT N (.adr l :: ts), [(l, .ins C [])]⟩ { nx := fun A' => A'.Mu[0]? = some (l, .ins C fs), rt := fun _ => False }) :
    FnOk P w K mg base CX0 (k + 1) f fd ps (spC C Pre) := by
  refine F.ok S (fun vs H Q E ⟨G, l, dx, ts, fs, _, _, _, h2, h3, _⟩ => h2.length.trans (len ts fs h3)) fun cdv A outer s H vs Q E hr ⟨G, l, dx, ts, fs, h1, g0, hl, h2, h3, h4⟩ => ?_
  refine ⟨SSs (cxx P w K mg base N qual sc f cdv A outer s H E) body, PSs.nox pss_s, ?_⟩
  obtain ⟨e1, e2⟩ := start_sl (N := N) h2
  have s1 : Same G (less H l) := fun b o e => by
    rw [less_ne (fun z => by rw [z, g0] at e; cases e)]
    exact h1 b o e
  have s2 : Same (less H l) H := fun b o e => by
    by_cases z : b = l
    · rw [z, less_same] at e
      cases e
    · rw [less_ne z] at e
      exact e
  refine (h cdv A outer s H E G l ts fs (less H l) hr h3 (fun _ => none) (L2.start N vs) H ⟨rfl, G, (fun b o e => nomatch e), Fr.of_same s2 (Same.refl _) h1 (fun _ _ _ n _ => n), ⟨h1, (fun p e => nomatch e), e1, e2, (fun k l' m q => ?_), (fun i j l' m m' q1 q2 => ?_)⟩, (fun k l' m q => ?_)⟩).mono (fun σ' H' ⟨A', q, _, G', _, g2, g3, _⟩ => ?_) (fun v H' ⟨G', t, q1, q2, q3⟩ => q1.elim) (fun _ _ ⟨_, q, _⟩ => q.elim) fun _ _ ⟨_, q, _⟩ => q.elim
  · cases k with
    | zero =>
      have q : some (l, MTy.ins C []) = some (l', m) := q
      cases q
      exact ⟨g0, (fun z => nomatch z), dx, [], hl, Nat.le_refl _, fun f d q => nomatch q⟩
    | succ k => exact absurd q (by simp)
  · cases i with
    | zero =>
      cases j with
      | zero => rfl
      | succ j => exact absurd q2 (by simp)
    | succ i => exact absurd q1 (by simp)
  · cases k with
    | zero =>
      have q : some (l, MTy.ins C []) = some (l', m) := q
      cases q
      exact less_same
    | succ k => exact absurd q (by simp)
  · obtain ⟨f0, _, f2⟩ := g3.mu 0 l _ q
    exact h4 H' G' g2 f0 f2
end
/-- a class by its name -/
structure Cd (P : Program) (w : World) (K : PySem.W.Frag) (mg : Str → Option Value) (base : Heap) (x : Str) (C : Addr) (k : Nat) (ps : List Str) (sp : Sp) : Prop where
  ex : ∃ f fd, Mk K C f ∧ FnOk P w K mg base CX0 k f fd ps sp ∧ mg x = some (.ref C) ∧ Binds K fd ps []
section
variable {A : AS} {X : Cx} {e : Expr} {es : List Expr} {pos p : Pos} {x : Str} {k : Nat} {ps : List Str}
/-- C(e, ..) -/
theorem ev_make {C : Addr} {Pre : PrC} {ts : List Ty} {fs : List (Str × PyData)} (hF : Cd X.prog X.w X.K X.mg X.base x C k ps (spC C Pre)) (hr : Room (k + 1) X.A) (ha : EvA A X (e :: es) fun us => us = ts) (hp : Pre ts fs)
    (hg : Gl X x := by rfl) (hdb : (x == ("__debug__" : Str)) = false := by decide) (he : starEach (e :: es) X.env = (false, eval e X.env) :: starEach es X.env := by rfl) (hpl : (backTo pos (starEach es X.env)).any (·.1) = false := by rfl) : EvT A X (.Call (.Name x p) (e :: es) [] pos) (.obj C fs) := fun G σ H Cf Q q => by
  obtain ⟨f, fd, h1, h2, h3, h4⟩ := hF.ex
  refine (pe_make h1 h2 hr hg h3 h4 .nil pass0 pa_s hdb he hpl).s (show SA X (e :: es) σ H fun vs H1 => ∀ x dx, H1 x = none → H1 dx = none → dx ≠ x → spC C Pre (.ref x :: (vs ++ [])) (upd (upd H1 dx (.own x)) x (.ins C dx [])) (fun v H2 => v = .non ∧ Q (.ref x) H2) E0 from ha G σ H Cf _ fun vs H1 G1 us F pu hv l dx hl hdx hne => ?_)
  subst pu
  rw [List.append_nil]
  have gl : G1 l = none := F.gh.free hl
  have sdx : Same H1 (upd H1 dx (.own l)) := same_new hdx
  have hl2 : upd H1 dx (.own l) l = none := by rw [upd_ne (Ne.symm hne)]; exact hl
  have sH : Same H1 (upd (upd H1 dx (.own l)) l (.ins C dx [])) := sdx.trans (same_new hl2)
  have sL : Same H1 (less (upd (upd H1 dx (.own l)) l (.ins C dx [])) l) := fun b o z => by
    rw [less_ne (ne_of_none z hl)]
    exact sH b o z
  refine ⟨G1, l, dx, us, fs, F.gh.trans sH, gl, upd_same, .cons rfl hv, hp, fun H' G' F2 g' hm => ⟨rfl, ?_⟩⟩
  obtain ⟨dx', fsV, m1, m2, m3⟩ := hm
  have F3 : Fr A.hd H1 G1 H' G' := ⟨fun b o _ z => F2.keep b o (fun z => by cases z) (sL b o z), fun b o z => F2.ex b o (sL b o z), fun p _ kk => kk.mono F2.gg fun o z => F2.keep p o (fun z => by cases z) (sL p o z), F2.gg, F2.gh, fun b o z n t => F2.fr b o (sL b o z) n t⟩
  have F4 := F3.give hl g' m1
  exact q _ H' _ _ (F.trans F4) rfl ⟨l, dx', fsV, rfl, upd_same, fun f d z => let ⟨u, u1, u2⟩ := m3 f d z; ⟨u, u1, u2.mono (same_new g')⟩⟩
end
end K82
namespace K82
open PySem PySem.Spec PyProof.Rows L2
abbrev sPower : Stmt := topS 34
theorem scPower : FnScope ["_law_prime", "_law_exponent_here", "_law_total", "_law_k"] ["_law_prime", "_law_exponent_here"] (defScope sPower) := ⟨rfl, rfl, rfl, by decide +kernel, rfl, by decide +kernel, by decide +kernel⟩
def prPower : Pr := fun ts T => ∃ p e : Nat, ts = [.dat (.int p), .dat (.int e)] ∧ p ≤ 5 ∧ e ≤ 6 ∧ T = fun u => u = .dat (.int ((p ^ e : Nat) : Int))
section
variable {P : Program} {w : World} {K : PySem.W.Frag} {mg : Str → Option Value} {base : Heap} {f : Addr} {fd : FuncData}
theorem ok_power (F : FunT K "_law_power" sPower [] f fd) (mr : mg "range" = none) : FnOk P w K mg base CX0 1 f fd ["_law_prime", "_law_exponent_here"] (spD prPower) := by
  refine def_ok F scPower (fun ts T h => ?_) (fun cdv A outer s H E G ts T hr h => ?_)
  · obtain ⟨p, e, rfl, _⟩ := h
    rfl
  · obtain ⟨p, e, rfl, hp, he, rfl⟩ := h
    refine sos_cons (so_set 2 scPower.nd ev_int ?_)
    refine sos_cons (so_forR 3 scPower.nd (by rfl) mr (ev_var 1) (by omega) (fun i A => ∃ v, A = ⟨none, [some (.dat (.int p)), some (.dat (.int e)), some (.dat (.int ((p ^ i : Nat) : Int))), v], []⟩) ⟨_, rfl⟩ ?_ ?_)
    · rintro i A' hi ⟨v, rfl⟩
      exact sos_cons (so_set 2 scPower.nd (Ev.to (ev_mul (ev_var 2) (ev_var 0) (.inr ⟨by omega, by omega⟩)) (by rw [Nat.pow_succ, Int.natCast_mul])) (sos_nil ⟨_, rfl⟩))
    · rintro A' ⟨v, rfl⟩
      exact sos_cons (so_retE (ev_var 2) rfl)
end
end K82
namespace K82
open PySem PySem.Spec PyProof.Rows L2
section
variable {P : Program} {w : World} {K : PySem.W.Frag} {mg : Str → Option Value} {base : Heap} {f : Addr} {fd : FuncData}
/-! ### _law_exponent -/
abbrev sExp : Stmt := topS 35
theorem scExp : FnScope ["_law_prime", "_law_number", "_law_found", "_law_left", "_law_k"] ["_law_prime", "_law_number"] (defScope sExp) := ⟨rfl, rfl, rfl, by decide +kernel, rfl, by decide +kernel, by decide +kernel⟩
def prExp : Pr := fun ts T => ∃ p x : Int, ts = [.dat (.int p), .dat (.int x)] ∧ 0 < p ∧ p < 100 ∧ T = fun u => u = .dat (.int (lawExp p x))
theorem ok_exp (F : FunT K "_law_exponent" sExp [] f fd) (mr : mg "range" = none) (ma : mg "abs" = none) (mi : mg "int" = none) : FnOk P w K mg base CX0 1 f fd ["_law_prime", "_law_number"] (spD prExp) := by
  refine def_ok F scExp (fun ts T h => ?_) (fun cdv A outer s H E G ts T hr h => ?_)
  · obtain ⟨p, e, rfl, _⟩ := h
    rfl
  · obtain ⟨p, x, rfl, hp, hp2, rfl⟩ := h
    refine sos_cons (so_par 2 3 scExp.nd (T := fun ts => ts = [.dat (.int 0), .dat (.int (absI x))]) (ea_cons ev_int (ea_cons (ev_abs ma (ev_var 1)) ea_nil)) (fun t u e => ?_) (fun ts e => by rw [e] <;> rfl))
    cases e
    refine sos_cons (so_forR 4 scExp.nd (by rfl) mr ev_int (by omega) (fun i A => ∃ l f v, A = ⟨none, [some (.dat (.int p)), some (.dat (.int x)), some (.dat (.int f)), some (.dat (.int l)), v], []⟩ ∧ i ≤ 5000 ∧ expGo p (5000 - i) l f = lawExp p x) ⟨_, _, _, rfl, by omega, rfl⟩ ?_ ?_)
    · rintro i A' hi ⟨l, f, v, rfl, h1, h2⟩
      have e1 : 5000 - i = (5000 - (i + 1)) + 1 := by omega
      rw [e1] at h2
      unfold expGo at h2
      refine sos_cons (so_ifE (tv_ne (ev_mod (ev_int1 mi (ev_var 3)) (ev_var 0) hp) ev_int) (fun hb => ?_) fun hb => ?_)
      · have hb : l % p ≠ 0 := by simpa using hb
        rw [if_pos hb] at h2
        exact sos_cons (so_break (sos_cons (so_retE (ev_var 2) (by rw [h2]))))
      · have hb : l % p = 0 := by simpa using hb
        rw [if_neg (by simpa using hb)] at h2
        refine sos_nil (sos_cons (so_set 3 scExp.nd (ev_fdiv (ev_var 3) (ev_var 0) ⟨hp, by omega⟩) (sos_cons (so_augAdd 2 scExp.nd ev_int (sos_nil ⟨_, _, _, rfl, by omega, h2⟩)))))
    · rintro A' ⟨l, f, v, rfl, h1, h2⟩
      have e : expGo p (5000 - (5000 : Int).toNat) l f = f := rfl
      exact sos_cons (so_retE (ev_var 2) (by rw [← h2, e]))
/-! ### _law_nought -/
abbrev sNought : Stmt := topS 42
theorem scNought : FnScope ["_law_moduli_here", "_law_modulus"] ["_law_moduli_here"] (defScope sNought) := ⟨rfl, rfl, rfl, by decide +kernel, rfl, by decide +kernel, by decide +kernel⟩
def prNought : Pr := fun ts T => ∃ ms : List Int, ts = [.dat (iL ms)] ∧ ms.length ≤ 4 ∧ T = fun u => u = .dat (iT (noughtR ms))
theorem ok_nought (F : FunT K "_law_nought" sNought [] f fd) (mt : mg "tuple" = none) : FnOk P w K mg base CX0 1 f fd ["_law_moduli_here"] (spD prNought) := by
  refine def_ok F scNought (fun ts T h => ?_) (fun cdv A outer s H E G ts T hr h => ?_)
  · obtain ⟨p, rfl, _⟩ := h
    rfl
  · obtain ⟨ms, rfl, hl, rfl⟩ := h
    refine sos_cons (so_retE (ev_tupleL mt (ev_lcL 1 ms PyData.int (fun _ => .int 0) scNought.nd (blkOk_by (N := ["_law_moduli_here", "_law_modulus"]) (sc := defScope sNought) (by decide +kernel)) (ev_var 0) (by omega) (fun a ha _ _ _ _ _ => ev_int) (fun _ _ _ _ _ => pg_name scNought.nd rfl (Or.inl rfl)))) ?_)
    show Ty.dat (.tuple (ms.map fun _ => PyData.int 0)) = .dat (.tuple ((noughtR ms).map PyData.int))
    unfold noughtR
    rw [List.map_map] <;> rfl
end
end K82
namespace K82
open PySem PySem.Spec PyProof.Rows L2
/-! ### rows by places -/
theorem range_map_get {f : Nat → Int} {r : List Int} {n : Nat} (hl : r.length = n) (h : ∀ i, i < n → r.getD i 0 = f i) : (List.range n).map f = r := by
  refine List.ext_getElem (by simp [hl]) fun i h1 h2 => ?_
  rw [List.getElem_map, List.getElem_range]
  have hi : i < n := by simpa using h1
  have q := h i hi
  rw [List.getD_eq_getElem?_getD, List.getElem?_eq_getElem h2] at q
  exact q.symm
theorem plusR_len : ∀ {m x y : List Int}, x.length = m.length → y.length = m.length → (plusR m x y).length = m.length
  | [], _, _, _, _ => by simp [plusR]
  | _ :: m, x :: xs, y :: ys, h1, h2 => by
    simp only [plusR, List.length_cons] at *
    rw [plusR_len (by omega) (by omega)]
  | _ :: _, [], _, h1, _ => by simp at h1
  | _ :: _, _ :: _, [], _, h2 => by simp at h2
theorem plusR_get : ∀ {m x y : List Int} (i : Nat), x.length = m.length → y.length = m.length → i < m.length → (plusR m x y).getD i 0 = (x.getD i 0 + y.getD i 0) % m.getD i 0
  | [], _, _, _, _, _, h => by simp at h
  | _ :: m, x :: xs, y :: ys, 0, h1, h2, h3 => by simp [plusR]
  | _ :: m, x :: xs, y :: ys, i + 1, h1, h2, h3 => by
    simp only [plusR, List.length_cons, List.getD_cons_succ] at *
    exact plusR_get i (by omega) (by omega) (by omega)
  | _ :: _, [], _, _, h1, _, _ => by simp at h1
  | _ :: _, _ :: _, [], _, _, h2, _ => by simp at h2
theorem timesR_len : ∀ {m x : List Int} {n : Int}, x.length = m.length → (timesR m n x).length = m.length
  | [], _, _, _ => by simp [timesR]
  | _ :: m, x :: xs, n, h1 => by
    simp only [timesR, List.length_cons] at *
    rw [timesR_len (by omega)]
  | _ :: _, [], _, h1 => by simp at h1
theorem timesR_get : ∀ {m x : List Int} {n : Int} (i : Nat), x.length = m.length → i < m.length → (timesR m n x).getD i 0 = (n * x.getD i 0) % m.getD i 0
  | [], _, _, _, _, h => by simp at h
  | _ :: m, x :: xs, n, 0, h1, h3 => by simp [timesR]
  | _ :: m, x :: xs, n, i + 1, h1, h3 => by
    simp only [timesR, List.length_cons, List.getD_cons_succ] at *
    exact timesR_get i (by omega) (by omega)
  | _ :: _, [], _, _, h1, _ => by simp at h1
theorem getD_mem {r : List Int} {i : Nat} (h : i < r.length) : r.getD i 0 ∈ r := by
  rw [List.getD_eq_getElem?_getD, List.getElem?_eq_getElem h]
  exact List.getElem_mem h

section
variable {P : Program} {w : World} {K : PySem.W.Frag} {mg : Str → Option Value} {base : Heap} {f : Addr} {fd : FuncData}
/-! ### _law_moduli -/
abbrev sModuli : Stmt := topS 38
theorem scModuli : FnScope ["_law_prime", "_law_kind_here", "_law_part"] ["_law_prime", "_law_kind_here"] (defScope sModuli) := ⟨rfl, rfl, rfl, by decide +kernel, rfl, by decide +kernel, by decide +kernel⟩
def prModuli : Pr := fun ts T => ∃ (p : Nat) (kind : List Nat), ts = [.dat (.int p), .dat (nT kind)] ∧ p ≤ 5 ∧ (∀ c ∈ kind, c ≤ 6) ∧ kind.length ≤ 4 ∧ T = fun u => u = .dat (iL (mods p kind))
theorem ok_moduli (F : FunT K "_law_moduli" sModuli [] f fd) (hP : Fd P w K mg base "_law_power" 1 ["_law_prime", "_law_exponent_here"] [] (spD prPower)) : FnOk P w K mg base CX0 2 f fd ["_law_prime", "_law_kind_here"] (spD prModuli) := by
  refine def_ok F scModuli (fun ts T h => ?_) (fun cdv A outer s H E G ts T hr h => ?_)
  · obtain ⟨p, kind, rfl, _⟩ := h
    rfl
  · obtain ⟨p, kind, rfl, hp, hk, hl, rfl⟩ := h
    refine sos_cons (so_retE (ev_lcT 2 kind (fun (n : Nat) => PyData.int (n : Int)) (fun c => .int ((p ^ c : Nat) : Int)) scModuli.nd (blkOk_by (N := ["_law_prime", "_law_kind_here", "_law_part"]) (sc := defScope sModuli) (by decide +kernel)) (ev_var 1) (by omega)
      (fun c hc _ _ _ _ _ => ev_call hP hr (ea_cons (ev_var 0) (ea_cons (ev_var 2) ea_nil)) ⟨p, c, rfl, hp, hk c hc, rfl⟩) (fun _ _ _ _ _ => pg_name scModuli.nd rfl (Or.inl rfl))) ?_)
    show Ty.dat (.list (kind.map fun c => PyData.int ((p ^ c : Nat) : Int))) = .dat (.list ((mods p kind).map PyData.int))
    unfold mods
    rw [List.map_map] <;> rfl
/-! ### _law_plus, _law_times -/
abbrev sPlus : Stmt := topS 40
theorem scPlus : FnScope ["_law_moduli_here", "_law_one", "_law_other", "_law_k"] ["_law_moduli_here", "_law_one", "_law_other"] (defScope sPlus) := ⟨rfl, rfl, rfl, by decide +kernel, rfl, by decide +kernel, by decide +kernel⟩
def prPlus : Pr := fun ts T => ∃ ms x y : List Int, ts = [.dat (iL ms), .dat (iT x), .dat (iT y)] ∧ ms.length ≤ 4 ∧ x.length = ms.length ∧ y.length = ms.length ∧ (∀ m ∈ ms, 0 < m) ∧ T = fun u => u = .dat (iT (plusR ms x y))
theorem ok_plus (F : FunT K "_law_plus" sPlus [] f fd) (mr : mg "range" = none) (mt : mg "tuple" = none) (mi : mg "int" = none) (ml : mg "len" = none) : FnOk P w K mg base CX0 1 f fd ["_law_moduli_here", "_law_one", "_law_other"] (spD prPlus) := by
  refine def_ok F scPlus (fun ts T h => ?_) (fun cdv A outer s H E G ts T hr h => ?_)
  · obtain ⟨ms, x, y, rfl, _⟩ := h
    rfl
  · obtain ⟨ms, x, y, rfl, hl, hx, hy, hm, rfl⟩ := h
    refine sos_cons (so_retE (ev_tupleL mt (ev_lcR 3 ms.length (fun k => .int ((x.getD k 0 + y.getD k 0) % ms.getD k 0)) (by rfl) mr scPlus.nd (blkOk_by (N := ["_law_moduli_here", "_law_one", "_law_other", "_law_k"]) (sc := defScope sPlus) (by decide +kernel))
      (Ev.to (ev_lenL ml (ev_var 0)) (by rw [List.length_map])) (by omega)
      (fun k hk _ _ _ _ _ => ev_mod (ev_int1 mi (ev_add (ev_ixIT (ev_var 1) (ev_var 3) (by omega)) (ev_ixIT (ev_var 2) (ev_var 3) (by omega)))) (ev_ixI (ev_var 0) (ev_var 3) hk) (hm _ (getD_mem hk))) (fun _ _ _ _ _ => pg_name scPlus.nd rfl (Or.inl rfl)))) ?_)
    show Ty.dat (.tuple ((List.range ms.length).map fun k => PyData.int ((x.getD k 0 + y.getD k 0) % ms.getD k 0))) = .dat (.tuple ((plusR ms x y).map PyData.int))
    rw [← range_map_get (f := fun k => (x.getD k 0 + y.getD k 0) % ms.getD k 0) (plusR_len hx hy) fun i hi => plusR_get i hx hy hi, List.map_map] <;> rfl
abbrev sTimes : Stmt := topS 41
theorem scTimes : FnScope ["_law_moduli_here", "_law_number", "_law_row", "_law_k"] ["_law_moduli_here", "_law_number", "_law_row"] (defScope sTimes) := ⟨rfl, rfl, rfl, by decide +kernel, rfl, by decide +kernel, by decide +kernel⟩
/-- the row a tuple or a list -/
def prTimes : Pr := fun ts T => ∃ (ms x : List Int) (n : Int) (d : PyData), ts = [.dat (iL ms), .dat (.int n), .dat d] ∧ (d = iT x ∨ d = iL x) ∧ ms.length ≤ 4 ∧ x.length = ms.length ∧ (∀ m ∈ ms, 0 < m) ∧ (-(2 ^ 64) < n ∧ n < 2 ^ 64) ∧ T = fun u => u = .dat (iT (timesR ms n x))
theorem ok_times (F : FunT K "_law_times" sTimes [] f fd) (mr : mg "range" = none) (mt : mg "tuple" = none) (mi : mg "int" = none) (ml : mg "len" = none) : FnOk P w K mg base CX0 1 f fd ["_law_moduli_here", "_law_number", "_law_row"] (spD prTimes) := by
  refine def_ok F scTimes (fun ts T h => ?_) (fun cdv A outer s H E G ts T hr h => ?_)
  · obtain ⟨ms, x, n, d, rfl, _⟩ := h
    rfl
  · obtain ⟨ms, x, n, d, rfl, hd, hl, hx, hm, hn, rfl⟩ := h
    have fin : Ty.dat (.tuple ((List.range ms.length).map fun k => PyData.int ((n * x.getD k 0) % ms.getD k 0))) = .dat (.tuple ((timesR ms n x).map PyData.int)) := by
      rw [← range_map_get (f := fun k => (n * x.getD k 0) % ms.getD k 0) (timesR_len hx) fun i hi => timesR_get i hx hi, List.map_map] <;> rfl
    rcases hd with rfl | rfl
    · exact sos_cons (so_retE (ev_tupleL mt (ev_lcR 3 ms.length (fun k => .int ((n * x.getD k 0) % ms.getD k 0)) (by rfl) mr scTimes.nd (blkOk_by (N := ["_law_moduli_here", "_law_number", "_law_row", "_law_k"]) (sc := defScope sTimes) (by decide +kernel))
        (Ev.to (ev_lenL ml (ev_var 0)) (by rw [List.length_map])) (by omega)
        (fun k hk _ _ _ _ _ => ev_mod (ev_int1 mi (ev_mul (ev_var 1) (ev_ixIT (ev_var 2) (ev_var 3) (by omega)) (.inl hn))) (ev_ixI (ev_var 0) (ev_var 3) hk) (hm _ (getD_mem hk))) (fun _ _ _ _ _ => pg_name scTimes.nd rfl (Or.inl rfl)))) fin)
    · exact sos_cons (so_retE (ev_tupleL mt (ev_lcR 3 ms.length (fun k => .int ((n * x.getD k 0) % ms.getD k 0)) (by rfl) mr scTimes.nd (blkOk_by (N := ["_law_moduli_here", "_law_number", "_law_row", "_law_k"]) (sc := defScope sTimes) (by decide +kernel))
        (Ev.to (ev_lenL ml (ev_var 0)) (by rw [List.length_map])) (by omega)
        (fun k hk _ _ _ _ _ => ev_mod (ev_int1 mi (ev_mul (ev_var 1) (ev_ixI (ev_var 2) (ev_var 3) (by omega)) (.inl hn))) (ev_ixI (ev_var 0) (ev_var 3) hk) (hm _ (getD_mem hk))) (fun _ _ _ _ _ => pg_name scTimes.nd rfl (Or.inl rfl)))) fin)
/-! ### _law_members -/
abbrev sMembers : Stmt := topS 39
theorem scMembers : FnScope ["_law_prime", "_law_kind_here", "_law_rows", "_law_modulus", "_law_longer", "_law_row", "_law_number"] ["_law_prime", "_law_kind_here"] (defScope sMembers) := ⟨rfl, rfl, rfl, by decide +kernel, rfl, by decide +kernel, by decide +kernel⟩
def prMembers : Pr := fun ts T => ∃ (p : Nat) (kind : List Nat), ts = [.dat (.int p), .dat (nT kind)] ∧ RoomOk p kind ∧ T = fun u => u = .dat (rL (memb (mods p kind)))
end
theorem sum_ge {c : Nat} : ∀ {l : List Nat}, c ∈ l → c ≤ l.sum
  | x :: l, h => by
    rw [List.sum_cons]
    rcases List.mem_cons.mp h with e | h
    · omega
    · have := sum_ge h
      omega
theorem RoomOk.le6 {p : Nat} {kind : List Nat} (h : RoomOk p kind) : ∀ c ∈ kind, c ≤ 6 := fun c hc => Nat.le_trans (sum_ge hc) h.sum
theorem RoomOk.p5 {p : Nat} {kind : List Nat} (h : RoomOk p kind) : p ≤ 5 := by
  rcases h.pr with e | e | e <;> omega
theorem RoomOk.p2 {p : Nat} {kind : List Nat} (h : RoomOk p kind) : 2 ≤ p := by
  rcases h.pr with e | e | e <;> omega
theorem RoomOk.pow81 {p : Nat} {kind : List Nat} (h : RoomOk p kind) {c : Nat} (hc : c ≤ kind.sum) : p ^ c ≤ 81 := Nat.le_trans (Nat.pow_le_pow_right (by have := h.p2; omega) hc) h.size
theorem mods_pos {p : Nat} {kind : List Nat} (h : 2 ≤ p) : ∀ m ∈ mods p kind, 0 < m := fun m hm => by
  obtain ⟨c, _, rfl⟩ := List.mem_map.mp hm
  have : 0 < p ^ c := Nat.pow_pos (by omega)
  omega
theorem mods_len {p : Nat} {kind : List Nat} : (mods p kind).length = kind.length := by simp [mods]
theorem membStep_len (rows : List (List Int)) (m : Int) : (membStep rows m).length = rows.length * m.toNat := by
  unfold membStep
  induction rows with
  | nil => simp
  | cons r rs ih =>
    rw [List.flatMap_cons, List.length_append, ih]
    simp [Nat.succ_mul, Nat.add_comm]
theorem foldl_memb_len : ∀ (ms : List Int) (rows : List (List Int)), (ms.foldl membStep rows).length = rows.length * (ms.map Int.toNat).prod
  | [], rows => by simp
  | m :: ms, rows => by
    rw [List.foldl_cons, foldl_memb_len ms, membStep_len, List.map_cons, List.prod_cons, Nat.mul_assoc]
theorem mods_prod {p : Nat} : ∀ kind : List Nat, ((mods p kind).map Int.toNat).prod = p ^ kind.sum
  | [] => by simp [mods]
  | c :: kind => by
    have ih := mods_prod (p := p) kind
    unfold mods at ih ⊢
    rw [List.map_cons, List.map_cons, List.prod_cons, ih, List.sum_cons, Nat.pow_add, Int.toNat_natCast]
theorem memb_len (p : Nat) (kind : List Nat) : (memb (mods p kind)).length = p ^ kind.sum := by
  unfold memb
  rw [foldl_memb_len, mods_prod]
  simp
end K82
namespace K82
open PySem PySem.Spec PyProof.Rows L2
theorem memb_take_succ {ms : List Int} {i : Nat} {m : Int} (h : ms[i]? = some m) : memb (ms.take (i + 1)) = membStep (memb (ms.take i)) m := by
  unfold memb
  rw [List.take_add_one, h, List.foldl_append]
  rfl
theorem mods_take {p : Nat} {kind : List Nat} {i : Nat} : (mods p kind).take i = mods p (kind.take i) := by
  unfold mods
  rw [List.map_take]
theorem take_sum_le (kind : List Nat) (i : Nat) : (kind.take i).sum ≤ kind.sum := by
  have h := List.take_append_drop i kind
  have h2 : (kind.take i ++ kind.drop i).sum = kind.sum := by rw [h]
  rw [List.sum_append] at h2
  omega
theorem memb_take_len {p : Nat} {kind : List Nat} (h : RoomOk p kind) (i : Nat) : (memb ((mods p kind).take i)).length ≤ 81 := by
  rw [mods_take, memb_len]
  exact h.pow81 (take_sum_le kind i)
theorem membStep_take_succ {rows : List (List Int)} {j : Nat} {m : Int} {r : List Int} (h : rows[j]? = some r) : membStep (rows.take (j + 1)) m = membStep (rows.take j) m ++ (List.range m.toNat).map fun (n : Nat) => r ++ [(n : Int)] := by
  unfold membStep
  rw [List.take_add_one, h, List.flatMap_append]
  simp
theorem range_succ_map {α : Type} (f : Nat → α) (k : Nat) : (List.range (k + 1)).map f = (List.range k).map f ++ [f k] := by
  rw [List.range_succ, List.map_append] <;> rfl
theorem get_map_some {α β : Type} {xs : List α} {enc : α → β} {i : Nat} {d : β} (h : (xs.map enc)[i]? = some d) : ∃ x, xs[i]? = some x ∧ d = enc x := by
  rw [List.getElem?_map] at h
  cases e : xs[i]? with
  | none =>
    rw [e] at h
    cases h
  | some x =>
    rw [e] at h
    exact ⟨x, rfl, (Option.some.inj h).symm⟩
theorem mem_membStep {rows : List (List Int)} {m : Int} {x : List Int} : x ∈ membStep rows m ↔ ∃ r ∈ rows, ∃ n : Nat, (n : Int) < m ∧ x = r ++ [(n : Int)] := by
  unfold membStep
  rw [List.mem_flatMap]
  constructor
  · rintro ⟨r, hr, hx⟩
    obtain ⟨n, hn, rfl⟩ := List.mem_map.mp hx
    have := List.mem_range.mp hn
    exact ⟨r, hr, n, by omega, rfl⟩
  · rintro ⟨r, hr, n, hn, rfl⟩
    exact ⟨r, hr, List.mem_map.mpr ⟨n, List.mem_range.mpr (by omega), rfl⟩⟩
theorem foldl_row_len : ∀ (ms : List Int) (rows : List (List Int)) (k : Nat), (∀ r ∈ rows, r.length = k) → ∀ r ∈ ms.foldl membStep rows, r.length = k + ms.length
  | [], rows, k, h, r, hr => by simpa using h r hr
  | m :: ms, rows, k, h, r, hr => by
    rw [List.foldl_cons] at hr
    have := foldl_row_len ms (membStep rows m) (k + 1) (fun x hx => by
      obtain ⟨r, hr, n, _, rfl⟩ := mem_membStep.mp hx
      rw [List.length_append, h r hr] <;> rfl) r hr
    rw [this, List.length_cons]
    omega
theorem memb_row_len {ms : List Int} {r : List Int} (h : r ∈ memb ms) : r.length = ms.length := by
  have := foldl_row_len ms [[]] 0 (fun r hr => by simp at hr; simp [hr]) r h
  omega
section
variable {P : Program} {w : World} {K : PySem.W.Frag} {mg : Str → Option Value} {base : Heap} {f : Addr} {fd : FuncData}
theorem ok_members (F : FunT K "_law_members" sMembers [] f fd) (hM : Fd P w K mg base "_law_moduli" 2 ["_law_prime", "_law_kind_here"] [] (spD prModuli)) (mr : mg "range" = none) (ml : mg "list" = none) : FnOk P w K mg base CX0 3 f fd ["_law_prime", "_law_kind_here"] (spD prMembers) := by
  refine def_ok F scMembers (fun ts T h => ?_) (fun cdv A outer s H E G ts T hr h => ?_)
  · obtain ⟨p, kind, rfl, _⟩ := h
    rfl
  · obtain ⟨p, kind, rfl, hR, rfl⟩ := h
    refine sos_cons (so_set 2 scMembers.nd (ev_lst (ds := [iT []]) (ea_cons (ev_tup (ds := []) ea_nil (by decide)) ea_nil) (by show 1 ≤ sizeLine; decide)) ?_)
    refine sos_cons (so_forL 3 scMembers.nd (ev_call hM hr (ea_cons (ev_var 0) (ea_cons (ev_var 1) ea_nil)) ⟨p, kind, rfl, hR.p5, hR.le6, hR.len, rfl⟩)
      (fun i A => ∃ v3 v4 v5 v6 Mu, A = ⟨none, [some (.dat (.int p)), some (.dat (nT kind)), some (.dat (rL (memb ((mods p kind).take i)))), v3, v4, v5, v6], Mu⟩) ⟨_, _, _, _, _, rfl⟩ ?_ ?_)
    · rintro i A' d hd ⟨v3, v4, v5, v6, Mu, rfl⟩
      obtain ⟨m, hm, rfl⟩ := get_map_some hd
      have hmp : 0 < m := mods_pos hR.p2 m (List.mem_of_getElem? hm)
      have hl := memb_take_len hR i
      have hl2 := memb_take_len hR (i + 1)
      rw [memb_take_succ hm] at hl2
      generalize hrows : memb ((mods p kind).take i) = rows at hl hl2 ⊢
      rw [membStep_len] at hl2
      refine sos_cons (so_newL 4 scMembers.nd fun l => ?_)
      refine sos_cons (so_forL 5 scMembers.nd (ev_var 2) (fun j A => ∃ v5 v6, A = ⟨none, [some (.dat (.int p)), some (.dat (nT kind)), some (.dat (rL rows)), some (.dat (.int m)), some (.adr l), v5, v6], (l, .lst ((membStep (rows.take j) m).map iT)) :: Mu⟩) ⟨_, _, rfl⟩ ?_ ?_)
      · rintro j A' d hd ⟨v5, v6, rfl⟩
        obtain ⟨r, hrj, rfl⟩ := get_map_some hd
        have hj : j < rows.length := (List.getElem?_eq_some_iff.mp hrj).1
        have e1 : (membStep (rows.take j) m).length + m.toNat ≤ 81 := by
          rw [membStep_len, List.length_take, Nat.min_eq_left (by omega)]
          have q : (j + 1) * m.toNat ≤ rows.length * m.toNat := Nat.mul_le_mul_right _ hj
          rw [Nat.succ_mul] at q
          omega
        refine sos_cons (so_forR 6 scMembers.nd (by rfl) mr (ev_var 3) (by omega) (fun k A => ∃ v6, A = ⟨none, [some (.dat (.int p)), some (.dat (nT kind)), some (.dat (rL rows)), some (.dat (.int m)), some (.adr l), some (.dat (iT r)), v6], (l, .lst ((membStep (rows.take j) m ++ (List.range k).map fun (n : Nat) => r ++ [(n : Int)]).map iT)) :: Mu⟩) ⟨_, by rw [List.range_zero, List.map_nil, List.append_nil] <;> rfl⟩ ?_ ?_)
        · rintro k A' hk ⟨v6, rfl⟩
          refine sos_cons (so_appE (d := iT (r ++ [(k : Int)])) 4 0 rfl ?_ (Ev.to (ev_catT (ev_var 5) (ev_tup (ds := [.int (k : Int)]) (ea_cons (ev_var 6) ea_nil) (by show 1 ≤ sizeLine; decide)) ?_) ?_) ?_ (sos_nil ⟨_, rfl⟩))
          · rw [List.length_map, List.length_append, List.length_map, List.length_range]
            omega
          · have q := memb_row_len (hrows ▸ List.mem_of_getElem? hrj)
            rw [List.length_take, mods_len] at q
            have := hR.len
            rw [List.length_map]
            exact Nat.le_trans (show r.length + [PyData.int (k : Int)].length ≤ 5 by simp; omega) (by decide)
          · show PyData.tuple _ = PyData.tuple ((r ++ [(k : Int)]).map PyData.int)
            rw [List.map_append] <;> rfl
          · rw [range_succ_map, ← List.append_assoc, List.map_append (l₁ := _ ++ _)] <;> rfl
        · rintro A' ⟨v6, rfl⟩
          exact sos_nil ⟨_, _, by rw [membStep_take_succ hrj]⟩
      · rintro A' ⟨v5, v6, rfl⟩
        refine sos_cons (so_set 2 scMembers.nd (ev_listMu 0 ml (ev_var 4) rfl) (sos_nil ⟨_, _, _, _, _, by rw [memb_take_succ hm, hrows, List.length_map, List.take_length] <;> rfl⟩))
    · rintro A' ⟨v3, v4, v5, v6, Mu, rfl⟩
      refine sos_cons (so_retE (ev_var 2) ?_)
      rw [List.length_map, List.take_length]
end
end K82
namespace K82
open PySem PySem.Spec PyProof.Rows L2
theorem iD_snoc {r : List Int} {x : Int} : iD (r ++ [x]) = iD r ++ [.int x] := List.map_append ..
theorem getD_some {r : List Int} {k : Nat} (h : k < r.length) : r[k]? = some (r.getD k 0) := by
  rw [List.getD_eq_getElem?_getD, List.getElem?_eq_getElem h] <;> rfl
theorem getD_nil_mem {α : Type} {rs : List (List α)} {k : Nat} (h : k < rs.length) : rs.getD k [] ∈ rs := by
  rw [List.getD_eq_getElem?_getD, List.getElem?_eq_getElem h]
  exact List.getElem_mem h
theorem stepsOf_mem {p : Int} {counts : List Int} {x : Int} (h : x ∈ stepsOf p counts) : 0 ≤ x ∧ x ≤ 5000 := by
  obtain ⟨k, _, rfl⟩ := List.mem_map.mp h
  exact lawExp_le _ _
theorem headD_le {p : Int} {counts : List Int} : 0 ≤ (stepsOf p counts).headD 0 ∧ (stepsOf p counts).headD 0 ≤ 5000 := by
  cases h : stepsOf p counts with
  | nil => exact ⟨Int.le_refl _, by show (0 : Int) ≤ 5000; omega⟩
  | cons x xs => exact stepsOf_mem (counts := counts) (p := p) (by rw [h]; exact List.mem_cons_self)
section
variable {P : Program} {w : World} {K : PySem.W.Frag} {mg : Str → Option Value} {base : Heap} {f : Addr} {fd : FuncData}
abbrev sFrom : Stmt := topS 43
theorem scFrom : FnScope ["_law_prime", "_law_counts", "_law_steps", "_law_k", "_law_kind_here", "_law_row", "_law_step"] ["_law_prime", "_law_counts"] (defScope sFrom) := ⟨rfl, rfl, rfl, by decide +kernel, rfl, by decide +kernel, by decide +kernel⟩
def prFrom : Pr := fun ts T => ∃ (p : Int) (counts : List Int), ts = [.dat (.int p), .dat (iL counts)] ∧ 0 < p ∧ p < 100 ∧ counts.length ≤ 100 ∧ (∀ c ∈ counts, 0 < c ∧ c < 1073741824) ∧ T = fun u => u = .dat (iT (fromCounts p counts))
theorem ok_from (F : FunT K "_law_from_counts" sFrom [] f fd) (hE : Fd P w K mg base "_law_exponent" 1 ["_law_prime", "_law_number"] [] (spD prExp)) (mr : mg "range" = none) (ml : mg "len" = none) (mt : mg "tuple" = none) : FnOk P w K mg base CX0 2 f fd ["_law_prime", "_law_counts"] (spD prFrom) := by
  refine def_ok F scFrom (fun ts T h => ?_) (fun cdv A outer s H E G ts T hr h => ?_)
  · obtain ⟨p, counts, rfl, _⟩ := h
    rfl
  · obtain ⟨p, counts, rfl, hp, hp2, hl, hc, rfl⟩ := h
    refine sos_cons (so_newL 2 scFrom.nd fun l => ?_)
    refine sos_cons (so_forR2 3 scFrom.nd (by rfl) mr ev_int (ev_lenL ml (ev_var 1)) (by rw [List.length_map]; omega)
      (fun i A => ∃ v, A = ⟨none, [some (.dat (.int p)), some (.dat (iL counts)), some (.adr l), v, none, none, none], [(l, .lst (iD ((List.range i).map fun k => lawExp p (counts.getD (k + 1) 0 / counts.getD k 0))))]⟩) ⟨_, rfl⟩ ?_ ?_)
    · rintro i A' hi ⟨v, rfl⟩
      rw [List.length_map] at hi
      have h1 : i + 1 < counts.length := by omega
      have c1 := hc _ (getD_mem (i := i) (by omega))
      refine sos_cons (so_appE (d := .int (lawExp p (counts.getD (i + 1) 0 / counts.getD i 0))) 2 0 rfl (by simp; omega) (ev_call hE hr (ea_cons (ev_var 0) (ea_cons (ev_fdiv (i := counts.getD (i + 1) 0) (j := counts.getD i 0) (ev_ixL (ev_var 1) (ev_var 3) ?_) (ev_ixL (ev_var 1) (ev_sub (ev_var 3) ev_int) ?_) ⟨c1.1, c1.2⟩) ea_nil)) ⟨_, _, rfl, hp, hp2, rfl⟩) ?_ (sos_nil ⟨_, rfl⟩))
      · have e : (1 : Int) + (i : Int) = ((i + 1 : Nat) : Int) := by omega
        rw [e]
        exact at_int h1
      · have e : (1 : Int) + (i : Int) - 1 = ((i : Nat) : Int) := by omega
        rw [e]
        exact at_int (by omega)
      · rw [range_succ_map, iD_snoc]
    · rintro A' ⟨v, rfl⟩
      refine sos_freeze 2 0 rfl rfl ?_
      have e : (List.range (((iD counts).length : Int) - 1).toNat).map (fun k => lawExp p (counts.getD (k + 1) 0 / counts.getD k 0)) = stepsOf p counts := by
        unfold stepsOf
        rw [List.length_map, show ((counts.length : Int) - 1).toNat = counts.length - 1 by omega]
      rw [e]
      have hh := headD_le (p := p) (counts := counts)
      have hsl : (stepsOf p counts).length ≤ 100 := by
        unfold stepsOf
        rw [List.length_map, List.length_range]
        omega
      generalize stepsOf p counts = steps at hh hsl e
      have hv : fromCounts p counts = kindOfSteps steps := by
        unfold fromCounts
        rw [← e]
        unfold stepsOf
        rw [List.length_map, show ((counts.length : Int) - 1).toNat = counts.length - 1 by omega]
      refine sos_cons (so_newL 4 scFrom.nd fun l2 => ?_)
      refine sos_cons (so_forR (n := steps.headD 0) 5 scFrom.nd (by rfl) mr (ev_ifExp (tv_tru (ev_var 2)) (fun hb => ?_) fun hb => ?_) (by omega)
        (fun i A => ∃ v5, A = ⟨none, [some (.dat (.int p)), some (.dat (iL counts)), some (.dat (iL steps)), v, some (.adr l2), v5, none], [(l2, .lst (iD ((List.range i).map fun (row : Nat) => ((steps.filter fun s => decide ((row : Int) < s)).length : Int))))]⟩) ⟨_, rfl⟩ ?_ ?_)
      · have hne : 0 < steps.length := by
          cases steps with
          | nil => simp at hb
          | cons x xs => simp
        refine Ev.to (ev_ixI (k := 0) (ev_var 2) ev_int hne) ?_
        cases steps with
        | nil => rfl
        | cons x xs => rfl
      · have he : steps = [] := by
          cases steps with
          | nil => rfl
          | cons x xs => simp at hb
        subst he
        exact ev_int
      · rintro i A' hi ⟨v5, rfl⟩
        refine sos_cons (so_appE (d := .int ((steps.filter fun s => decide ((i : Int) < s)).length : Int)) 4 0 rfl (by simp; omega) (Ev.to (ev_lenL ml (ev_lcLif 6 steps PyData.int (fun s => decide ((i : Int) < s)) PyData.int scFrom.nd
          (blkOk_by (N := ["_law_prime", "_law_counts", "_law_steps", "_law_k", "_law_kind_here", "_law_row", "_law_step"]) (sc := defScope sFrom) (by decide +kernel)) (ev_var 2) (by omega) (fun a _ _ _ _ _ _ => tv_gt (ev_var 6) (ev_var 5)) (fun a _ _ _ _ _ _ _ => ev_var 6) (fun _ _ _ _ _ => pg_name scFrom.nd rfl (Or.inl rfl)))) (by rw [List.length_map])) ?_ (sos_nil ⟨_, rfl⟩))
        rw [range_succ_map, iD_snoc]
      · rintro A' ⟨v5, rfl⟩
        refine sos_freeze 4 0 rfl rfl ?_
        refine sos_cons (so_retE (ev_tupleL mt (ev_var 4)) ?_)
        rw [hv]
        rfl
end
end K82
/-! The grids that are listed: their forms and sizes. -/
namespace K82
inductive GridIn (p : Nat) : List Nat → List (List Int) → Prop
  | nil : GridIn p [] []
  | cons {part h : Nat} {sub : List Nat} {grid : List (List Int)} {lower : List Int} : GridIn p sub grid → h ≤ part → lower ∈ lowersR grid → liesR grid (lower.map fun n => ((p ^ (part - h) : Nat) : Int) * n) = true →
      GridIn p (part :: sub) ((((p ^ h : Nat) : Int) :: lower) :: belowR grid)
theorem GridIn.len {p : Nat} {sub : List Nat} {grid : List (List Int)} (h : GridIn p sub grid) : grid.length = sub.length := by
  induction h with
  | nil => rfl
  | cons _ _ _ _ ih => simp [belowR, ih]
theorem getD_map_lt {α β : Type} {xs : List α} {f : α → β} {k : Nat} {d : α} {e : β} (h : k < xs.length) : (xs.map f).getD k e = f (xs.getD k d) := by
  rw [List.getD_eq_getElem?_getD, List.getElem?_map, List.getD_eq_getElem?_getD, List.getElem?_eq_getElem h] <;> rfl
theorem diag_cons {x : Int} {lower : List Int} {grid : List (List Int)} : diagR ((x :: lower) :: belowR grid) = x :: diagR grid := by
  unfold diagR
  have e : (belowR grid).length = grid.length := by simp [belowR]
  rw [List.length_cons, e, List.range_succ_eq_map, List.map_cons, List.map_map]
  show x :: _ = _
  refine congrArg (x :: ·) (List.map_congr_left fun k hk => ?_)
  have hk' : k < grid.length := List.mem_range.mp hk
  show ((belowR grid).getD k []).getD (k + 1) 0 = _
  unfold belowR
  rw [getD_map_lt (d := []) hk']
  rfl
theorem diag_len {grid : List (List Int)} : (diagR grid).length = grid.length := by simp [diagR]
theorem GridIn.diag {p : Nat} {sub : List Nat} {grid : List (List Int)} (h : GridIn p sub grid) (hp : 2 ≤ p) : ∃ hs : List Nat, hs.length = sub.length ∧ diagR grid = hs.map (fun e => ((p ^ e : Nat) : Int)) ∧ hs.sum ≤ sub.sum ∧ ∀ k, k < sub.length → hs.getD k 0 ≤ sub.getD k 0 := by
  induction h with
  | nil => exact ⟨[], rfl, rfl, Nat.le_refl _, fun k hk => by simp at hk⟩
  | @cons part h sub grid lower _ hh _ _ ih =>
    obtain ⟨hs, h1, h2, h3, h4⟩ := ih
    refine ⟨h :: hs, by simp [h1], ?_, by simp only [List.sum_cons]; omega, fun k hk => ?_⟩
    · rw [diag_cons, h2] <;> rfl
    · cases k with
      | zero => exact hh
      | succ k => exact h4 k (by simpa using hk)
theorem mem_foldl_memb : ∀ (ms : List Int) (rows : List (List Int)) (x : List Int), x ∈ ms.foldl membStep rows ↔ ∃ r ∈ rows, ∃ y : List Int, x = r ++ y ∧ y.length = ms.length ∧ ∀ k, k < ms.length → 0 ≤ y.getD k 0 ∧ y.getD k 0 < ms.getD k 0
  | [], rows, x => by
    simp only [List.foldl_nil]
    constructor
    · intro h
      exact ⟨x, h, [], by simp, rfl, fun k hk => by simp at hk⟩
    · rintro ⟨r, hr, y, rfl, hy, _⟩
      cases y with
      | nil => simpa using hr
      | cons a b => simp at hy
  | m :: ms, rows, x => by
    rw [List.foldl_cons, mem_foldl_memb ms]
    constructor
    · rintro ⟨r', hr', y, rfl, hy, hk⟩
      obtain ⟨r, hr, n, hn, rfl⟩ := mem_membStep.mp hr'
      refine ⟨r, hr, (n : Int) :: y, by simp, by simp [hy], fun k hkk => ?_⟩
      cases k with
      | zero =>
        simp only [List.getD_cons_zero]
        omega
      | succ k =>
        simp only [List.getD_cons_succ]
        exact hk k (by simpa using hkk)
    · rintro ⟨r, hr, y, rfl, hy, hk⟩
      cases y with
      | nil => simp at hy
      | cons a y =>
        have h0 := hk 0 (by simp)
        simp only [List.getD_cons_zero] at h0
        refine ⟨r ++ [a], mem_membStep.mpr ⟨r, hr, a.toNat, by omega, by rw [Int.toNat_of_nonneg h0.1]⟩, y, by simp, by simpa using hy, fun k hkk => ?_⟩
        have := hk (k + 1) (by simpa using hkk)
        simpa using this
theorem mem_memb {ms : List Int} {x : List Int} : x ∈ memb ms ↔ x.length = ms.length ∧ ∀ k, k < ms.length → 0 ≤ x.getD k 0 ∧ x.getD k 0 < ms.getD k 0 := by
  unfold memb
  rw [mem_foldl_memb]
  constructor
  · rintro ⟨r, hr, y, rfl, hy, hk⟩
    have : r = [] := by simpa using hr
    subst this
    simpa using ⟨hy, hk⟩
  · rintro ⟨h1, h2⟩
    exact ⟨[], by simp, x, by simp, h1, h2⟩
theorem GridIn.shape {p : Nat} {sub : List Nat} {grid : List (List Int)} (h : GridIn p sub grid) (hp : 2 ≤ p) (hp5 : p ≤ 5) (hs : ∀ c ∈ sub, c ≤ 6) : ∀ c ∈ grid, c.length = sub.length ∧ ∀ x ∈ c, 0 ≤ x ∧ x ≤ 15625 := by
  have big : ∀ e : Nat, e ≤ 6 → ((p ^ e : Nat) : Int) ≤ 15625 := fun e he => by
    have h1 : p ^ e ≤ 5 ^ e := Nat.pow_le_pow_left hp5 e
    have h2 : 5 ^ e ≤ 5 ^ 6 := Nat.pow_le_pow_right (by decide) he
    have h3 : 5 ^ 6 = 15625 := by decide
    omega
  induction h with
  | nil =>
    intro c hc
    simp at hc
  | @cons part h sub grid lower hG hh hlow _ ih =>
    intro c hc
    have hs' : ∀ c ∈ sub, c ≤ 6 := fun c hc => hs c (List.mem_cons_of_mem _ hc)
    have ih := ih hs'
    rcases List.mem_cons.mp hc with rfl | hc
    · obtain ⟨l1, l2⟩ := mem_memb.mp hlow
      rw [diag_len, hG.len] at l1 l2
      obtain ⟨es, e1, e2, _, e4⟩ := hG.diag hp
      refine ⟨by simp [l1], fun x hx => ?_⟩
      rcases List.mem_cons.mp hx with rfl | hx
      · exact ⟨by omega, big h (Nat.le_trans hh (hs part List.mem_cons_self))⟩
      · obtain ⟨k, hk, rfl⟩ := List.mem_iff_getElem.mp hx
        have q := l2 k (by omega)
        rw [List.getD_eq_getElem?_getD, List.getElem?_eq_getElem hk, e2, getD_map_lt (d := 0) (by omega)] at q
        have b := big (es.getD k 0) (Nat.le_trans (e4 k (by omega)) (hs' _ (by
          rw [List.getD_eq_getElem?_getD, List.getElem?_eq_getElem (by omega)]
          exact List.getElem_mem _)))
        simp only [Option.getD_some] at q
        omega
    · obtain ⟨c', hc', rfl⟩ := List.mem_map.mp hc
      obtain ⟨a1, a2⟩ := ih c' hc'
      refine ⟨by simp [a1], fun x hx => ?_⟩
      rcases List.mem_cons.mp hx with rfl | hx
      · omega
      · exact a2 x hx
theorem GridIn.diag_pos {p : Nat} {sub : List Nat} {grid : List (List Int)} (h : GridIn p sub grid) (hp : 2 ≤ p) (k : Nat) (hk : k < sub.length) : 0 < (grid.getD k []).getD k 0 := by
  obtain ⟨hs, h1, h2, _, _⟩ := h.diag hp
  have e : (diagR grid).getD k 0 = (grid.getD k []).getD k 0 := by
    unfold diagR
    rw [getD_map_lt (d := 0) (by simp; rw [h.len]; exact hk)]
    simp [List.getD_eq_getElem?_getD, List.getElem?_range (show k < grid.length by rw [h.len]; exact hk)]
  rw [← e, h2, getD_map_lt (d := 0) (by omega)]
  have : 0 < p ^ hs.getD k 0 := Nat.pow_pos (by omega)
  omega
theorem GridIn.lowers_len {p : Nat} {sub : List Nat} {grid : List (List Int)} (h : GridIn p sub grid) (hp : 2 ≤ p) : (lowersR grid).length ≤ p ^ sub.sum := by
  obtain ⟨hs, h1, h2, h3, _⟩ := h.diag hp
  unfold lowersR
  rw [h2]
  have := memb_len p hs
  unfold mods at this
  rw [this]
  exact Nat.pow_le_pow_right (by omega) h3
theorem GridIn.lowers_take {p : Nat} {sub : List Nat} {grid : List (List Int)} (h : GridIn p sub grid) (hp : 2 ≤ p) (i : Nat) : (memb ((diagR grid).take i)).length ≤ p ^ sub.sum := by
  obtain ⟨hs, h1, h2, h3, _⟩ := h.diag hp
  rw [h2, ← List.map_take]
  have := memb_len p (hs.take i)
  unfold mods at this
  rw [this]
  exact Nat.pow_le_pow_right (by omega) (Nat.le_trans (take_sum_le hs i) h3)
theorem mem_gridStep {p part : Nat} {grids : List (List (List Int))} {g : List (List Int)} : g ∈ gridStep p grids part ↔ ∃ grid ∈ grids, ∃ h, h ≤ part ∧ g ∈ gridHigh p part grid h := by
  unfold gridStep
  rw [List.mem_flatMap]
  constructor
  · rintro ⟨grid, h1, h2⟩
    obtain ⟨h, h3, h4⟩ := List.mem_flatMap.mp h2
    have := List.mem_range.mp h3
    exact ⟨grid, h1, h, by omega, h4⟩
  · rintro ⟨grid, h1, h, h3, h4⟩
    exact ⟨grid, h1, List.mem_flatMap.mpr ⟨h, List.mem_range.mpr (by omega), h4⟩⟩
theorem gridStep_in {p part : Nat} {sub : List Nat} {grids : List (List (List Int))} (hG : ∀ g ∈ grids, GridIn p sub g) : ∀ g ∈ gridStep p grids part, GridIn p (part :: sub) g := fun g hg => by
  obtain ⟨grid, h1, h, h2, h3⟩ := mem_gridStep.mp hg
  unfold gridHigh at h3
  obtain ⟨lower, h4, rfl⟩ := List.mem_map.mp h3
  obtain ⟨h5, h6⟩ := List.mem_filter.mp h4
  exact .cons (hG grid h1) h2 h5 h6
theorem grids_in (p : Nat) : ∀ (l sub : List Nat) (grids : List (List (List Int))), (∀ g ∈ grids, GridIn p sub g) → ∀ g ∈ l.foldl (gridStep p) grids, GridIn p (l.reverse ++ sub) g
  | [], sub, grids, h, g, hg => by simpa using h g hg
  | c :: l, sub, grids, h, g, hg => by
    rw [List.foldl_cons] at hg
    have := grids_in p l (c :: sub) (gridStep p grids c) (gridStep_in h) g hg
    simpa using this
/-- after i parts from the back -/
def gridsTo (p : Nat) (kind : List Nat) (i : Nat) : List (List (List Int)) := (kind.reverse.take i).foldl (gridStep p) [[]]
theorem gridsTo_in (p : Nat) (kind : List Nat) (i : Nat) : ∀ g ∈ gridsTo p kind i, GridIn p (kind.reverse.take i).reverse g := fun g hg => by
  have := grids_in p (kind.reverse.take i) [] [[]] (fun g hg => by
    have : g = [] := by simpa using hg
    rw [this]
    exact .nil) g hg
  simpa using this
theorem gridsR_in {p : Nat} {kind : List Nat} : ∀ g ∈ gridsR p kind, GridIn p kind g := fun g hg => by
  have := grids_in p kind.reverse [] [[]] (fun g hg => by
    have : g = [] := by simpa using hg
    rw [this]
    exact .nil) g hg
  simpa using this
end K82
namespace K82
open PySem PySem.Spec PyProof.Rows L2
theorem subRow_len {rest col : List Int} {b : Int} : (subRow rest col b).length = rest.length := by simp [subRow]
section
variable {P : Program} {w : World} {K : PySem.W.Frag} {mg : Str → Option Value} {base : Heap} {f : Addr} {fd : FuncData}
/-! ### _law_lies -/
abbrev sLies : Stmt := topS 46
theorem scLies : FnScope ["_law_columns", "_law_row", "_law_rest", "_law_at", "_law_column", "_law_by", "_law_k"] ["_law_columns", "_law_row"] (defScope sLies) := ⟨rfl, rfl, rfl, by decide +kernel, rfl, by decide +kernel, by decide +kernel⟩
def prLies : Pr := fun ts T => ∃ (cols : List (List Int)) (row : List Int), ts = [.dat (lL cols), .dat (iL row)] ∧ cols.length ≤ 4 ∧ row.length = cols.length ∧ (∀ c ∈ cols, c.length = cols.length ∧ ∀ x ∈ c, 0 ≤ x ∧ x ≤ 15625) ∧
  (∀ k, k < cols.length → 0 < (cols.getD k []).getD k 0) ∧ T = fun u => u = .dat (.bool (liesR cols row))
theorem ok_lies (F : FunT K "_law_lies" sLies [] f fd) (mr : mg "range" = none) (ml : mg "len" = none) (mi : mg "int" = none) (mli : mg "list" = none) : FnOk P w K mg base CX0 1 f fd ["_law_columns", "_law_row"] (spD prLies) := by
  refine def_ok F scLies (fun ts T h => ?_) (fun cdv A outer s H E G ts T hr h => ?_)
  · obtain ⟨cols, row, rfl, _⟩ := h
    rfl
  · obtain ⟨cols, row, rfl, hl, hrow, hc, hd, rfl⟩ := h
    refine sos_cons (so_set 2 scLies.nd (ev_listL mli (ev_var 1)) ?_)
    refine sos_cons (so_forR 3 scLies.nd (by rfl) mr (Ev.to (ev_lenL ml (ev_var 0)) (by rw [List.length_map])) (by omega)
      (fun i A => ∃ rest v3 v4 v5, A = ⟨none, [some (.dat (lL cols)), some (.dat (iL row)), some (.dat (iL rest)), v3, v4, v5, none], []⟩ ∧ i ≤ cols.length ∧ rest.length = cols.length ∧ liesGo cols (cols.length - i) i rest = liesR cols row) ⟨row, _, _, _, rfl, by omega, hrow, rfl⟩ ?_ ?_)
    · rintro i A' hi ⟨rest, v3, v4, v5, rfl, h1, h2, h3⟩
      have hi' : i < cols.length := by omega
      have hcm := hc _ (getD_nil_mem hi')
      have hcl := hcm.1
      have hdi := hd i hi'
      have hdb := (hcm.2 _ (getD_mem (i := i) (by omega))).2
      rw [show cols.length - i = (cols.length - (i + 1)) + 1 by omega] at h3
      unfold liesGo at h3
      refine sos_cons (so_set 4 scLies.nd (ev_ixL (ev_var 0) (ev_var 3) (at_row hi')) ?_)
      refine sos_cons (so_ifE (tv_ne (ev_mod (ev_int1 mi (ev_ixI (ev_var 2) (ev_var 3) (by omega))) (ev_ixI (ev_var 4) (ev_var 3) (by omega)) hdi) ev_int) (fun hb => ?_) fun hb => ?_)
      · have hb : rest.getD i 0 % (cols.getD i []).getD i 0 ≠ 0 := by simpa using hb
        rw [if_pos hb] at h3
        exact sos_cons (so_retE ev_bl (congrArg (fun b => Ty.dat (PyData.bool b)) h3))
      · have hb : ¬ rest.getD i 0 % (cols.getD i []).getD i 0 ≠ 0 := by simpa using hb
        rw [if_neg hb] at h3
        refine sos_nil (sos_cons (so_set 5 scLies.nd (ev_fdiv (ev_ixI (ev_var 2) (ev_var 3) (by omega)) (ev_ixI (ev_var 4) (ev_var 3) (by omega)) ⟨hdi, by omega⟩) ?_))
        refine sos_cons (so_set (t := .dat (iL (subRow rest (cols.getD i []) (rest.getD i 0 / (cols.getD i []).getD i 0)))) 2 scLies.nd (Ev.to (ev_lcR 6 rest.length (fun k => .int (rest.getD k 0 - (rest.getD i 0 / (cols.getD i []).getD i 0) * (cols.getD i []).getD k 0)) (by rfl) mr scLies.nd
          (blkOk_by (N := ["_law_columns", "_law_row", "_law_rest", "_law_at", "_law_column", "_law_by", "_law_k"]) (sc := defScope sLies) (by decide +kernel)) (Ev.to (ev_lenL ml (ev_var 2)) (by rw [List.length_map])) (by omega)
          (fun k hk _ _ _ _ _ => ev_sub (ev_ixI (ev_var 2) (ev_var 6) hk) (ev_mul (ev_var 5) (ev_ixI (ev_var 4) (ev_var 6) (by omega)) (.inr ?_))) (fun _ _ _ _ _ => pg_name scLies.nd rfl (Or.inl rfl))) ?_) ?_)
        · have := hcm.2 _ (getD_mem (i := k) (by omega))
          omega
        · show PyData.list ((List.range rest.length).map fun k => PyData.int (rest.getD k 0 - (rest.getD i 0 / (cols.getD i []).getD i 0) * (cols.getD i []).getD k 0)) = iL (subRow rest (cols.getD i []) (rest.getD i 0 / (cols.getD i []).getD i 0))
          show _ = PyData.list ((List.map _ _).map PyData.int)
          rw [List.map_map] <;> rfl
        · exact sos_nil ⟨_, _, _, _, rfl, by omega, by rw [subRow_len]; exact h2, h3⟩
    · rintro A' ⟨rest, v3, v4, v5, rfl, h1, h2, h3⟩
      rw [Int.toNat_natCast, Nat.sub_self] at h3
      exact sos_cons (so_retE ev_bl (congrArg (fun b => Ty.dat (PyData.bool b)) h3))
/-! ### _law_lowers -/
abbrev sLowers : Stmt := topS 47
theorem scLowers : FnScope ["_law_columns", "_law_rows", "_law_at", "_law_longer", "_law_row", "_law_number"] ["_law_columns"] (defScope sLowers) := ⟨rfl, rfl, rfl, by decide +kernel, rfl, by decide +kernel, by decide +kernel⟩
def prLowers : Pr := fun ts T => ∃ (cols : List (List Int)), ts = [.dat (lL cols)] ∧ cols.length ≤ 4 ∧ (∀ c ∈ cols, c.length = cols.length ∧ ∀ x ∈ c, 0 ≤ x ∧ x ≤ 15625) ∧ (∀ i, (memb ((diagR cols).take i)).length ≤ 81) ∧ T = fun u => u = .dat (lL (lowersR cols))
theorem ok_lowers (F : FunT K "_law_lowers" sLowers [] f fd) (mr : mg "range" = none) (ml : mg "len" = none) (mli : mg "list" = none) : FnOk P w K mg base CX0 1 f fd ["_law_columns"] (spD prLowers) := by
  refine def_ok F scLowers (fun ts T h => ?_) (fun cdv A outer s H E G ts T hr h => ?_)
  · obtain ⟨cols, rfl, _⟩ := h
    rfl
  · obtain ⟨cols, rfl, hlen, hc, hb, rfl⟩ := h
    refine sos_cons (so_set 1 scLowers.nd (ev_lst (ds := [iL []]) (ea_cons (ev_lst (ds := []) ea_nil (by decide)) ea_nil) (by show 1 ≤ sizeLine; decide)) ?_)
    refine sos_cons (so_forR 2 scLowers.nd (by rfl) mr (Ev.to (ev_lenL ml (ev_var 0)) (by rw [List.length_map])) (by omega)
      (fun i A => ∃ v2 v3 v4 v5 Mu, A = ⟨none, [some (.dat (lL cols)), some (.dat (lL (memb ((diagR cols).take i)))), v2, v3, v4, v5], Mu⟩) ⟨_, _, _, _, _, rfl⟩ ?_ ?_)
    · rintro i A' hi ⟨v2, v3, v4, v5, Mu, rfl⟩
      have hi' : i < cols.length := by omega
      have hcm := hc _ (getD_nil_mem hi')
      have hm : (diagR cols)[i]? = some ((cols.getD i []).getD i 0) := by
        unfold diagR
        rw [List.getElem?_map, List.getElem?_range hi'] <;> rfl
      have hmb := hcm.2 _ (getD_mem (i := i) (by omega))
      have hl := hb i
      have hl2 := hb (i + 1)
      rw [memb_take_succ hm] at hl2
      generalize hrows : memb ((diagR cols).take i) = rows at hl hl2 ⊢
      rw [membStep_len] at hl2
      generalize hmm : (cols.getD i []).getD i 0 = m at hm hl2 hmb
      refine sos_cons (so_newL 3 scLowers.nd fun l => ?_)
      refine sos_cons (so_forL 4 scLowers.nd (ev_var 1) (fun j A => ∃ v4 v5, A = ⟨none, [some (.dat (lL cols)), some (.dat (lL rows)), some (.dat (.int (i : Int))), some (.adr l), v4, v5], (l, .lst ((membStep (rows.take j) m).map iL)) :: Mu⟩) ⟨_, _, rfl⟩ ?_ ?_)
      · rintro j A' d hd ⟨v4, v5, rfl⟩
        obtain ⟨r, hrj, rfl⟩ := get_map_some hd
        have hj : j < rows.length := (List.getElem?_eq_some_iff.mp hrj).1
        have e1 : (membStep (rows.take j) m).length + m.toNat ≤ 81 := by
          rw [membStep_len, List.length_take, Nat.min_eq_left (by omega)]
          have q : (j + 1) * m.toNat ≤ rows.length * m.toNat := Nat.mul_le_mul_right _ hj
          rw [Nat.succ_mul] at q
          omega
        refine sos_cons (so_forR (n := m) 5 scLowers.nd (by rfl) mr (Ev.to (ev_ixI (ev_ixL (ev_var 0) (ev_var 2) (at_row hi')) (ev_var 2) (by omega)) (by rw [hmm])) (by omega) (fun k A => ∃ v5, A = ⟨none, [some (.dat (lL cols)), some (.dat (lL rows)), some (.dat (.int (i : Int))), some (.adr l), some (.dat (iL r)), v5], (l, .lst ((membStep (rows.take j) m ++ (List.range k).map fun (n : Nat) => r ++ [(n : Int)]).map iL)) :: Mu⟩) ⟨_, by rw [List.range_zero, List.map_nil, List.append_nil] <;> rfl⟩ ?_ ?_)
        · rintro k A' hk ⟨v5, rfl⟩
          refine sos_cons (so_appE (d := iL (r ++ [(k : Int)])) 3 0 rfl ?_ (Ev.to (ev_catL (ev_var 4) (ev_lst (ds := [.int (k : Int)]) (ea_cons (ev_var 5) ea_nil) (by show 1 ≤ sizeLine; decide)) ?_) ?_) ?_ (sos_nil ⟨_, rfl⟩))
          · rw [List.length_map, List.length_append, List.length_map, List.length_range]
            omega
          · have q := memb_row_len (hrows ▸ List.mem_of_getElem? hrj)
            rw [List.length_take, diag_len] at q
            rw [List.length_map]
            exact Nat.le_trans (show r.length + [PyData.int (k : Int)].length ≤ 5 by simp; omega) (by decide)
          · show PyData.list _ = PyData.list ((r ++ [(k : Int)]).map PyData.int)
            rw [List.map_append] <;> rfl
          · rw [range_succ_map, ← List.append_assoc, List.map_append (l₁ := _ ++ _)] <;> rfl
        · rintro A' ⟨v6, rfl⟩
          exact sos_nil ⟨_, _, by rw [membStep_take_succ hrj]⟩
      · rintro A' ⟨v5, v6, rfl⟩
        exact sos_cons (so_set 1 scLowers.nd (ev_listMu 0 mli (ev_var 3) rfl) (sos_nil ⟨_, _, _, _, _, by rw [memb_take_succ hm, hrows, List.length_map, List.take_length] <;> rfl⟩))
    · rintro A' ⟨v2, v3, v4, v5, Mu, rfl⟩
      refine sos_cons (so_retE (ev_var 1) ?_)
      have e : (diagR cols).take ((cols.length : Int).toNat) = diagR cols := List.take_of_length_le (by rw [diag_len]; omega)
      rw [e]
      rfl
end
end K82
namespace K82
open PySem PySem.Spec PyProof.Rows L2
/-- a bound for how many grids there are -/
def gridsU (p : Nat) : List Nat → Nat
  | [] => 1
  | c :: sub => gridsU p sub * ((c + 1) * p ^ sub.sum)
theorem gridsU_all : ∀ p ∈ [2, 3, 5], ∀ a ∈ List.range 7, ∀ b ∈ List.range 7, ∀ c ∈ List.range 7, ∀ d ∈ List.range 7, b ≤ a → c ≤ b → d ≤ c → a + b + c + d ≤ 6 → p ^ (a + b + c + d) ≤ 81 →
    gridsU p [a] ≤ 20000 ∧ gridsU p [a, b] ≤ 20000 ∧ gridsU p [a, b, c] ≤ 20000 ∧ gridsU p [a, b, c, d] ≤ 20000 := by decide +kernel
theorem RoomOk.gridsU {p : Nat} {kind : List Nat} (h : RoomOk p kind) : gridsU p kind ≤ 20000 := by
  have hp : p ∈ [2, 3, 5] := by rcases h.pr with e | e | e <;> simp [e]
  have hs := h.sum
  have hz := h.size
  have r : ∀ x : Nat, x ≤ 6 → x ∈ List.range 7 := fun x hx => List.mem_range.mpr (by omega)
  match kind, h.len with
  | [], _ => exact (by decide : 1 ≤ 20000)
  | [a], _ =>
    have hf := h.fall
    simp only [List.sum_cons, List.sum_nil] at hs hz
    exact (gridsU_all p hp a (r a (by omega)) 0 (r 0 (by omega)) 0 (r 0 (by omega)) 0 (r 0 (by omega)) (by omega) (by omega) (by omega) (by omega) hz).1
  | [a, b], _ =>
    have hf := h.fall
    simp only [List.pairwise_cons, List.mem_cons, List.not_mem_nil, or_false, forall_eq, ge_iff_le] at hf
    simp only [List.sum_cons, List.sum_nil] at hs hz
    exact (gridsU_all p hp a (r a (by omega)) b (r b (by omega)) 0 (r 0 (by omega)) 0 (r 0 (by omega)) hf.1 (by omega) (by omega) (by omega) hz).2.1
  | [a, b, c], _ =>
    have hf := h.fall
    simp only [List.pairwise_cons, List.mem_cons, List.not_mem_nil, or_false, forall_eq_or_imp, forall_eq, ge_iff_le] at hf
    simp only [List.sum_cons, List.sum_nil] at hs hz
    exact (gridsU_all p hp a (r a (by omega)) b (r b (by omega)) c (r c (by omega)) 0 (r 0 (by omega)) hf.1.1 hf.2.1 (by omega) (by omega) (by rw [show a + b + c + 0 = a + (b + (c + 0)) by omega]; exact hz)).2.2.1
  | [a, b, c, d], _ =>
    have hf := h.fall
    simp only [List.pairwise_cons, List.mem_cons, List.not_mem_nil, or_false, forall_eq_or_imp, forall_eq, ge_iff_le] at hf
    simp only [List.sum_cons, List.sum_nil] at hs hz
    exact (gridsU_all p hp a (r a (by omega)) b (r b (by omega)) c (r c (by omega)) d (r d (by omega)) hf.1.1 hf.2.1.1 hf.2.2.1 (by omega) (by rw [show a + b + c + d = a + (b + (c + (d + 0))) by omega]; exact hz)).2.2.2
theorem gridsU_drop {p : Nat} (hp : 2 ≤ p) : ∀ (j : Nat) (kind : List Nat), gridsU p (kind.drop j) ≤ gridsU p kind
  | 0, kind => Nat.le_refl _
  | j + 1, [] => Nat.le_refl _
  | j + 1, c :: kind => by
    rw [List.drop_succ_cons]
    refine Nat.le_trans (gridsU_drop hp j kind) ?_
    have : 0 < (c + 1) * p ^ kind.sum := Nat.mul_pos (by omega) (Nat.pow_pos (by omega))
    exact Nat.le_mul_of_pos_right _ this
theorem flatMap_len_le {α β : Type} {f : α → List β} {b : Nat} : ∀ {l : List α}, (∀ x ∈ l, (f x).length ≤ b) → (l.flatMap f).length ≤ l.length * b
  | [], _ => by simp
  | x :: l, h => by
    rw [List.flatMap_cons, List.length_append, List.length_cons, Nat.succ_mul]
    have h1 := h x List.mem_cons_self
    have h2 := flatMap_len_le (l := l) fun y hy => h y (List.mem_cons_of_mem _ hy)
    omega
theorem gridHigh_len {p part : Nat} {sub : List Nat} {grid : List (List Int)} (hG : GridIn p sub grid) (hp : 2 ≤ p) (h : Nat) : (gridHigh p part grid h).length ≤ p ^ sub.sum := by
  unfold gridHigh
  rw [List.length_map]
  exact Nat.le_trans (List.length_filter_le _ _) (hG.lowers_len hp)
theorem gridStep_len {p part : Nat} {sub : List Nat} {grids : List (List (List Int))} (hG : ∀ g ∈ grids, GridIn p sub g) (hp : 2 ≤ p) : (gridStep p grids part).length ≤ grids.length * ((part + 1) * p ^ sub.sum) := by
  unfold gridStep
  refine flatMap_len_le fun grid hg => ?_
  have := flatMap_len_le (f := gridHigh p part grid) (b := p ^ sub.sum) (l := List.range (part + 1)) fun h _ => gridHigh_len (hG grid hg) hp h
  rw [List.length_range] at this
  exact this
theorem gridsTo_succ {p : Nat} {kind : List Nat} {i part : Nat} (h : kind.reverse[i]? = some part) : gridsTo p kind (i + 1) = gridStep p (gridsTo p kind i) part := by
  unfold gridsTo
  rw [List.take_add_one, h, List.foldl_append]
  rfl
theorem gridsTo_len {p : Nat} {kind : List Nat} (hp : 2 ≤ p) : ∀ i, i ≤ kind.length → (gridsTo p kind i).length ≤ gridsU p (kind.reverse.take i).reverse
  | 0, _ => by simp [gridsTo, gridsU]
  | i + 1, hi => by
    have hlt : i < kind.reverse.length := by simp; omega
    have e : kind.reverse[i]? = some kind.reverse[i] := List.getElem?_eq_getElem hlt
    rw [gridsTo_succ e]
    refine Nat.le_trans (gridStep_len (gridsTo_in p kind i) hp) ?_
    rw [List.take_add_one, e]
    simp only [Option.toList_some, List.reverse_append, List.reverse_cons, List.reverse_nil, List.nil_append, List.singleton_append]
    unfold gridsU
    exact Nat.mul_le_mul_right _ (gridsTo_len hp i (by omega))
theorem drop_rev (kind : List Nat) (i : Nat) : (kind.reverse.take i).reverse = kind.drop (kind.length - i) := by
  rw [List.take_reverse, List.reverse_reverse]
theorem gridsTo_le {p : Nat} {kind : List Nat} (h : RoomOk p kind) (i : Nat) (hi : i ≤ kind.length) : (gridsTo p kind i).length ≤ 20000 := by
  refine Nat.le_trans (gridsTo_len h.p2 i hi) ?_
  rw [drop_rev]
  exact Nat.le_trans (gridsU_drop h.p2 _ _) h.gridsU
theorem map_snoc {α β : Type} {f : α → β} {xs : List α} {x : α} : (xs ++ [x]).map f = xs.map f ++ [f x] := by rw [List.map_append] <;> rfl
abbrev gG (gs : List (List (List Int))) : PyData := .list (gs.map lL)
theorem flatMap_take_succ {α β : Type} {f : α → List β} {l : List α} {j : Nat} {x : α} (h : l[j]? = some x) : (l.take (j + 1)).flatMap f = (l.take j).flatMap f ++ f x := by
  rw [List.take_add_one, h, List.flatMap_append]
  simp
theorem range_flatMap_succ {β : Type} (f : Nat → List β) (k : Nat) : (List.range (k + 1)).flatMap f = (List.range k).flatMap f ++ f k := by
  rw [List.range_succ, List.flatMap_append]
  simp
section
variable {P : Program} {w : World} {K : PySem.W.Frag} {mg : Str → Option Value} {base : Heap} {f : Addr} {fd : FuncData}
abbrev sGrids : Stmt := topS 48
abbrev nGrids : List Str := ["_law_prime", "_law_kind_here", "_law_grids_here", "_law_back", "_law_part", "_law_larger", "_law_grid", "_law_lowers_here", "_law_below", "_law_high", "_law_by", "_law_lower", "_law_column", "_law_number"]
theorem scGrids : FnScope nGrids ["_law_prime", "_law_kind_here"] (defScope sGrids) := ⟨rfl, rfl, rfl, by decide +kernel, rfl, by decide +kernel, by decide +kernel⟩
def prGrids : Pr := fun ts T => ∃ (p : Nat) (kind : List Nat), ts = [.dat (.int p), .dat (nT kind)] ∧ RoomOk p kind ∧ T = fun u => u = .dat (gG (gridsR p kind))
theorem ok_grids (F : FunT K "_law_grids" sGrids [] f fd) (hL : Fd P w K mg base "_law_lowers" 1 ["_law_columns"] [] (spD prLowers)) (hI : Fd P w K mg base "_law_lies" 1 ["_law_columns", "_law_row"] [] (spD prLies)) (hP : Fd P w K mg base "_law_power" 1 ["_law_prime", "_law_exponent_here"] [] (spD prPower))
    (mr : mg "range" = none) (ml : mg "len" = none) (mli : mg "list" = none) : FnOk P w K mg base CX0 2 f fd ["_law_prime", "_law_kind_here"] (spD prGrids) := by
  refine def_ok F scGrids (fun ts T h => ?_) (fun cdv A outer s H E G ts T hr h => ?_)
  · obtain ⟨p, kind, rfl, _⟩ := h
    rfl
  · obtain ⟨p, kind, rfl, hR, rfl⟩ := h
    have hp2 := hR.p2
    have hp5 := hR.p5
    have hlen := hR.len
    refine sos_cons (so_set 2 scGrids.nd (ev_lst (ds := [lL []]) (ea_cons (ev_lst (ds := []) ea_nil (by decide)) ea_nil) (by show 1 ≤ sizeLine; decide)) ?_)
    refine sos_cons (so_forR 3 scGrids.nd (by rfl) mr (Ev.to (ev_lenT ml (ev_var 1)) (by rw [List.length_map])) (by omega)
      (fun i A => ∃ v3 v4 v5 v6 v7 v8 v9 v10 v11 Mu, A = ⟨none, [some (.dat (.int p)), some (.dat (nT kind)), some (.dat (gG (gridsTo p kind i))), v3, v4, v5, v6, v7, v8, v9, v10, v11, none, none], Mu⟩) ⟨_, _, _, _, _, _, _, _, _, _, rfl⟩ ?_ ?_)
    · rintro i A' hi ⟨v3, v4, v5, v6, v7, v8, v9, v10, v11, Mu, rfl⟩
      have hi' : i < kind.length := by omega
      have hk1 : kind.length - 1 - i < kind.length := by omega
      generalize hpart : kind.getD (kind.length - 1 - i) 0 = part
      have hpe : kind[kind.length - 1 - i]? = some part := by
        rw [← hpart, List.getD_eq_getElem?_getD, List.getElem?_eq_getElem hk1] <;> rfl
      have hrev : kind.reverse[i]? = some part := by
        rw [List.getElem?_reverse (by omega)]
        exact hpe
      have hp6 : part ≤ 6 := hR.le6 part (List.mem_of_getElem? hpe)
      have hin := gridsTo_in p kind i
      have hsucc := gridsTo_succ (p := p) hrev
      have hle := gridsTo_le hR (i + 1) (by omega)
      have hU : (gridsTo p kind i).length * ((part + 1) * p ^ ((kind.reverse.take i).reverse).sum) ≤ 20000 := by
        refine Nat.le_trans (Nat.mul_le_mul_right _ (gridsTo_len hp2 i (by omega))) ?_
        have e : gridsU p (part :: (kind.reverse.take i).reverse) ≤ 20000 := by
          have q := gridsU_drop hp2 (kind.length - (i + 1)) kind
          rw [← drop_rev, List.take_add_one, hrev] at q
          simp only [Option.toList_some, List.reverse_append, List.reverse_cons, List.reverse_nil, List.nil_append, List.singleton_append] at q
          exact Nat.le_trans q hR.gridsU
        exact e
      have hs6 : ∀ c ∈ (kind.reverse.take i).reverse, c ≤ 6 := fun c hc => hR.le6 c (List.mem_reverse.mp (List.mem_of_mem_take (List.mem_reverse.mp hc)))
      have hsl : ((kind.reverse.take i).reverse).length ≤ 4 := by
        rw [List.length_reverse, List.length_take, List.length_reverse]
        omega
      have hsz : p ^ ((kind.reverse.take i).reverse).sum ≤ 81 := by
        rw [drop_rev]
        refine hR.pow81 ?_
        have := List.take_append_drop (kind.length - i) kind
        have h2 : (kind.take (kind.length - i) ++ kind.drop (kind.length - i)).sum = kind.sum := by rw [this]
        rw [List.sum_append] at h2
        omega
      generalize hsub : (kind.reverse.take i).reverse = sub at hin hU hs6 hsl hsz
      generalize hgr : gridsTo p kind i = grids at hin hU hsucc ⊢
      generalize hLm : p ^ sub.sum = Lm at hU hsz
      refine sos_cons (so_set (t := .dat (.int (part : Int))) 4 scGrids.nd (ev_ixT (ev_var 1) (ev_sub (ev_sub (Ev.to (ev_lenT ml (ev_var 1)) (by rw [List.length_map])) ev_int) (ev_var 3)) ?_) ?_)
      · rw [show (kind.length : Int) - 1 - (i : Int) = ((kind.length - 1 - i : Nat) : Int) by omega]
        exact at_map hpe
      refine sos_cons (so_newL 5 scGrids.nd fun l => ?_)
      refine sos_cons (so_forL 6 scGrids.nd (ev_var 2) (fun j A => ∃ v6 v7 v8 v9 v10 v11, A = ⟨none, [some (.dat (.int p)), some (.dat (nT kind)), some (.dat (gG grids)), some (.dat (.int (i : Int))), some (.dat (.int (part : Int))), some (.adr l), v6, v7, v8, v9, v10, v11, none, none],
        (l, .lst (((grids.take j).flatMap fun grid => (List.range (part + 1)).flatMap (gridHigh p part grid)).map lL)) :: Mu⟩) ⟨_, _, _, _, _, _, rfl⟩ ?_ ?_)
      · rintro j A' d hd ⟨v6, v7, v8, v9, v10, v11, rfl⟩
        obtain ⟨grid, hgj, rfl⟩ := get_map_some hd
        have hj : j < grids.length := (List.getElem?_eq_some_iff.mp hgj).1
        have hG := hin grid (List.mem_of_getElem? hgj)
        have hshape := hG.shape hp2 hp5 hs6
        have hgl := hG.len
        have hdone : ((grids.take j).flatMap fun grid => (List.range (part + 1)).flatMap (gridHigh p part grid)).length ≤ j * ((part + 1) * Lm) := by
          have q := gridStep_len (part := part) (grids := grids.take j) (fun g hg => hin g (List.mem_of_mem_take hg)) hp2
          rw [List.length_take, Nat.min_eq_left (by omega), hLm] at q
          exact q
        generalize hdn : ((grids.take j).flatMap fun grid => (List.range (part + 1)).flatMap (gridHigh p part grid)) = done at hdone ⊢
        have hjU : (j + 1) * ((part + 1) * Lm) ≤ 20000 := Nat.le_trans (Nat.mul_le_mul_right _ hj) hU
        rw [Nat.succ_mul] at hjU
        have hlow := hG.lowers_len hp2
        rw [hLm] at hlow
        refine sos_cons (so_set 7 scGrids.nd (ev_call hL hr (ea_cons (ev_var 6) ea_nil) ⟨grid, rfl, by omega, fun c hc => ⟨by rw [hgl]; exact (hshape c hc).1, (hshape c hc).2⟩, fun k => Nat.le_trans (hG.lowers_take hp2 k) (by rw [hLm]; exact hsz), rfl⟩) ?_)
        refine sos_cons (so_lcL 8 12 grid iL (fun c => iL (0 :: c)) scGrids.nd (blkOk_by (N := nGrids) (sc := defScope sGrids) (by decide +kernel)) (ev_var 6) (by omega)
          (fun c hc _ _ _ _ _ => Ev.to (ev_catL (ev_lst (ds := [.int 0]) (ea_cons ev_int ea_nil) (by show 1 ≤ sizeLine; decide)) (ev_var 12) ?_) rfl) ?_ (fun _ _ _ _ _ => pg_name scGrids.nd rfl (Or.inl rfl)) (sw_true rfl rfl rfl (by decide +kernel)))
        · have := (hshape c hc).1
          rw [List.length_map]
          exact Nat.le_trans (show [PyData.int 0].length + c.length ≤ 5 by simp; omega) (by decide)
        have hbel : PyData.list (grid.map fun c => iL (0 :: c)) = lL (belowR grid) := by
          show _ = PyData.list ((List.map _ _).map iL)
          rw [List.map_map] <;> rfl
        rw [hbel]
        refine sos_cons (so_forR (n := (part : Int) + 1) 9 scGrids.nd (by rfl) mr (ev_add (ev_var 4) ev_int) (by omega) (fun h A => ∃ v9 v10 v11, A = ⟨none, [some (.dat (.int p)), some (.dat (nT kind)), some (.dat (gG grids)), some (.dat (.int (i : Int))), some (.dat (.int (part : Int))), some (.adr l), some (.dat (lL grid)), some (.dat (lL (lowersR grid))), some (.dat (lL (belowR grid))), v9, v10, v11, none, none],
          (l, .lst ((done ++ (List.range h).flatMap (gridHigh p part grid)).map lL)) :: Mu⟩) ⟨_, _, _, by rw [List.range_zero, List.flatMap_nil, List.append_nil] <;> rfl⟩ ?_ ?_)
        · rintro h A' hh ⟨v9, v10, v11, rfl⟩
          have hh' : h ≤ part := by omega
          have hhl : ((List.range h).flatMap (gridHigh p part grid)).length ≤ h * Lm := by
            have q := flatMap_len_le (f := gridHigh p part grid) (b := Lm) (l := List.range h) fun h _ => by rw [← hLm]; exact gridHigh_len hG hp2 h
            rw [List.length_range] at q
            exact q
          have hhU : (h + 1) * Lm ≤ (part + 1) * Lm := Nat.mul_le_mul_right _ (by omega)
          rw [Nat.succ_mul] at hhU
          have hpw : ((p ^ (part - h) : Nat) : Int) ≤ 15625 := by
            have h1 : p ^ (part - h) ≤ 5 ^ (part - h) := Nat.pow_le_pow_left hp5 _
            have h2 : 5 ^ (part - h) ≤ 5 ^ 6 := Nat.pow_le_pow_right (by decide) (by omega)
            have h3 : 5 ^ 6 = 15625 := by decide
            omega
          refine sos_cons (so_set (t := .dat (.int ((p ^ (part - h) : Nat) : Int))) 10 scGrids.nd (ev_call hP hr (ea_cons (ev_var 0) (ea_cons (ev_sub (ev_var 4) (ev_var 9)) ea_nil)) ⟨p, part - h, by rw [show ((part - h : Nat) : Int) = (part : Int) - (h : Int) by omega], hp5, by omega, rfl⟩) ?_)
          refine sos_cons (so_forL 11 scGrids.nd (ev_var 7) (fun k A => ∃ v11, A = ⟨none, [some (.dat (.int p)), some (.dat (nT kind)), some (.dat (gG grids)), some (.dat (.int (i : Int))), some (.dat (.int (part : Int))), some (.adr l), some (.dat (lL grid)), some (.dat (lL (lowersR grid))), some (.dat (lL (belowR grid))), some (.dat (.int (h : Int))), some (.dat (.int ((p ^ (part - h) : Nat) : Int))), v11, none, none],
            (l, .lst ((done ++ (List.range h).flatMap (gridHigh p part grid) ++ (((lowersR grid).take k).filter fun lower => liesR grid (lower.map fun n => ((p ^ (part - h) : Nat) : Int) * n)).map fun lower => (((p ^ h : Nat) : Int) :: lower) :: belowR grid).map lL)) :: Mu⟩) ⟨_, by rw [List.take_zero, List.filter_nil, List.map_nil, List.append_nil] <;> rfl⟩ ?_ ?_)
          · rintro k A' d hd ⟨v11, rfl⟩
            obtain ⟨lower, hlk, rfl⟩ := get_map_some hd
            have hk : k < (lowersR grid).length := (List.getElem?_eq_some_iff.mp hlk).1
            have hll : lower.length = grid.length := by
              have q := memb_row_len (List.mem_of_getElem? hlk : lower ∈ memb (diagR grid))
              rw [q, diag_len]
            have tk := take_succ_filter (b := fun lower => liesR grid (lower.map fun n => ((p ^ (part - h) : Nat) : Int) * n)) (g := fun lower => (((p ^ h : Nat) : Int) :: lower) :: belowR grid) hlk
            have hcl : ((((lowersR grid).take k).filter fun lower => liesR grid (lower.map fun n => ((p ^ (part - h) : Nat) : Int) * n)).map fun lower => (((p ^ h : Nat) : Int) :: lower) :: belowR grid).length ≤ k := by
              rw [List.length_map]
              refine Nat.le_trans (List.length_filter_le _ _) ?_
              rw [List.length_take]
              omega
            refine sos_cons (so_ifE (tv_val (ev_call hI hr (ea_cons (ev_var 6) (ea_cons (Ev.to (t' := iL (lower.map fun n => ((p ^ (part - h) : Nat) : Int) * n)) (ev_lcL 13 lower PyData.int (fun n => .int (((p ^ (part - h) : Nat) : Int) * n)) scGrids.nd (blkOk_by (N := nGrids) (sc := defScope sGrids) (by decide +kernel)) (ev_var 11) (by omega)
              (fun n hn _ _ _ _ _ => ev_mul (ev_var 10) (ev_var 13) (.inl ⟨by omega, by omega⟩)) (fun _ _ _ _ _ => pg_name scGrids.nd rfl (Or.inl rfl))) ?_) ea_nil)) ⟨grid, _, rfl, by omega, by rw [List.length_map]; exact hll, fun c hc => ⟨by rw [hgl]; exact (hshape c hc).1, (hshape c hc).2⟩, fun k hk => hG.diag_pos hp2 k (by omega), rfl⟩)) (fun hb => ?_) fun hb => ?_)
            · show _ = PyData.list ((List.map _ _).map PyData.int)
              rw [List.map_map] <;> rfl
            · rw [if_pos hb] at tk
              refine sos_cons (so_appE (d := lL ((((p ^ h : Nat) : Int) :: lower) :: belowR grid)) 5 0 rfl ?_ (Ev.to (ev_catL (ev_lst (ds := [iL (((p ^ h : Nat) : Int) :: lower)]) (ea_cons (Ev.to (ev_catL (ev_lst (ds := [.int ((p ^ h : Nat) : Int)]) (ea_cons (ev_call hP hr (ea_cons (ev_var 0) (ea_cons (ev_var 9) ea_nil)) ⟨p, h, rfl, hp5, by omega, rfl⟩) ea_nil) (by show 1 ≤ sizeLine; decide)) (ev_var 11) ?_) rfl) ea_nil) (by show 1 ≤ sizeLine; decide)) (ev_var 8) ?_) rfl) ?_ (sos_nil (sos_nil ⟨_, rfl⟩)))
              · rw [List.length_map, List.length_append, List.length_append]
                omega
              · rw [List.length_map]
                exact Nat.le_trans (show [PyData.int ((p ^ h : Nat) : Int)].length + lower.length ≤ 5 by simp; omega) (by decide)
              · rw [List.length_map]
                exact Nat.le_trans (show 1 + (belowR grid).length ≤ 5 by simp [belowR]; omega) (by decide)
              · rw [tk, ← List.append_assoc, map_snoc]
            · rw [if_neg (by rw [hb]; exact Bool.false_ne_true)] at tk
              exact sos_nil (sos_nil ⟨_, by rw [tk] <;> rfl⟩)
          · rintro A' ⟨v11, rfl⟩
            exact sos_nil ⟨_, _, _, by rw [List.length_map, List.take_length, range_flatMap_succ, ← List.append_assoc] <;> rfl⟩
        · rintro A' ⟨v9, v10, v11, rfl⟩
          exact sos_nil ⟨_, _, _, _, _, _, by rw [flatMap_take_succ hgj, hdn] <;> rfl⟩
      · rintro A' ⟨v6, v7, v8, v9, v10, v11, rfl⟩
        exact sos_cons (so_set 2 scGrids.nd (ev_listMu 0 mli (ev_var 5) rfl) (sos_nil ⟨_, _, _, _, _, _, _, _, _, _, by rw [hsucc, List.length_map, List.take_length] <;> rfl⟩))
    · rintro A' ⟨v3, v4, v5, v6, v7, v8, v9, v10, v11, Mu, rfl⟩
      refine sos_cons (so_retE (ev_var 2) ?_)
      have e : gridsTo p kind ((kind.length : Int).toNat) = gridsR p kind := by
        unfold gridsTo gridsR
        rw [List.take_of_length_le (by simp)]
      rw [e]
end
end K82
namespace K82
open PySem PySem.Spec PyProof.Rows L2
theorem kindCounts_lt {p : Nat} {kind : List Nat} {rows : List (List Int)} (h : rows.length ≤ 81) : ∀ c ∈ kindCounts p kind rows, c < 1073741824 := fun c hc => by
  obtain ⟨e, _, rfl⟩ := List.mem_map.mp hc
  have := List.length_filter_le (fun r => timesR (mods p kind) ((p ^ e : Nat) : Int) r == noughtR (mods p kind)) rows
  omega
theorem pow6 {p e : Nat} (hp : p ≤ 5) (he : e ≤ 6) : p ^ e ≤ 15625 := by
  have h1 : p ^ e ≤ 5 ^ e := Nat.pow_le_pow_left hp e
  have h2 : 5 ^ e ≤ 5 ^ 6 := Nat.pow_le_pow_right (by omega) he
  omega
theorem RoomOk.head6 {p : Nat} {kind : List Nat} (h : RoomOk p kind) : kind.headD 0 ≤ 6 := by
  cases kind with
  | nil => exact Nat.zero_le _
  | cons c cs => exact h.le6 c List.mem_cons_self
section
variable {P : Program} {w : World} {K : PySem.W.Frag} {mg : Str → Option Value} {base : Heap} {f : Addr} {fd : FuncData}
/-! ### _law_kind_of -/
abbrev sKindOf : Stmt := topS 44
abbrev nKindOf : List Str := ["_law_prime", "_law_kind_here", "_law_rows", "_law_moduli_here", "_law_nought_here", "_law_counts", "_law_exponent_here", "_law_power_here", "_law_row"]
theorem scKindOf : FnScope nKindOf ["_law_prime", "_law_kind_here", "_law_rows"] (defScope sKindOf) := ⟨rfl, rfl, rfl, by decide +kernel, rfl, by decide +kernel, by decide +kernel⟩
def prKindOf : Pr := fun ts T => ∃ (p : Nat) (kind : List Nat) (rows : List (List Int)), ts = [.dat (.int p), .dat (nT kind), .dat (rT rows)] ∧ RoomOk p kind ∧ rows.length ≤ 81 ∧ (∀ r ∈ rows, r.length = kind.length) ∧ (∀ c ∈ kindCounts p kind rows, 0 < c) ∧ T = fun u => u = .dat (iT (kindOfR p kind rows))
theorem ok_kindOf (F : FunT K "_law_kind_of" sKindOf [] f fd) (hM : Fd P w K mg base "_law_moduli" 2 ["_law_prime", "_law_kind_here"] [] (spD prModuli)) (hN : Fd P w K mg base "_law_nought" 1 ["_law_moduli_here"] [] (spD prNought)) (hP : Fd P w K mg base "_law_power" 1 ["_law_prime", "_law_exponent_here"] [] (spD prPower))
    (hT : Fd P w K mg base "_law_times" 1 ["_law_moduli_here", "_law_number", "_law_row"] [] (spD prTimes)) (hC : Fd P w K mg base "_law_from_counts" 2 ["_law_prime", "_law_counts"] [] (spD prFrom)) (mr : mg "range" = none) (ml : mg "len" = none) : FnOk P w K mg base CX0 3 f fd ["_law_prime", "_law_kind_here", "_law_rows"] (spD prKindOf) := by
  refine def_ok F scKindOf (fun ts T h => ?_) (fun cdv A outer s H E G ts T hr h => ?_)
  · obtain ⟨p, kind, rows, rfl, _⟩ := h
    rfl
  · obtain ⟨p, kind, rows, rfl, hR, hl, hrow, hc, rfl⟩ := h
    have hlen := hR.len
    have h6 := hR.head6
    refine sos_cons (so_set 3 scKindOf.nd (ev_call hM (hr.mono (by omega)) (ea_cons (ev_var 0) (ea_cons (ev_var 1) ea_nil)) ⟨p, kind, rfl, hR.p5, hR.le6, hlen, rfl⟩) ?_)
    refine sos_cons (so_set 4 scKindOf.nd (ev_call hN (hr.mono (by omega)) (ea_cons (ev_var 3) ea_nil) ⟨_, rfl, by rw [mods_len]; exact hlen, rfl⟩) ?_)
    refine sos_cons (so_newL 5 scKindOf.nd fun l => ?_)
    refine sos_cons (so_forR (n := ((kind.headD 0 + 1 : Nat) : Int)) 6 scKindOf.nd (by rfl) mr (Ev.to (ev_add (i := ((kind.headD 0 : Nat) : Int)) (j := 1) (ev_head (ns := kind) (ev_var 1) (ev_var 1)) ev_int) (by rw [Int.natCast_add] <;> rfl)) (by omega)
      (fun i A => ∃ v6 v7, A = ⟨none, [some (.dat (.int p)), some (.dat (nT kind)), some (.dat (rT rows)), some (.dat (iL (mods p kind))), some (.dat (iT (noughtR (mods p kind)))), some (.adr l), v6, v7, none], [(l, .lst (iD ((List.range i).map fun e => (((rows.filter fun r => timesR (mods p kind) ((p ^ e : Nat) : Int) r == noughtR (mods p kind)).length : Nat) : Int))))]⟩) ⟨_, _, rfl⟩ ?_ ?_)
    · rintro i A' hi ⟨v6, v7, rfl⟩
      have hi6 : i ≤ 6 := by omega
      have hpw := pow6 hR.p5 hi6
      refine sos_cons (so_set 7 scKindOf.nd (ev_call hP (hr.mono (by omega)) (ea_cons (ev_var 0) (ea_cons (ev_var 6) ea_nil)) ⟨p, i, rfl, hR.p5, hi6, rfl⟩) ?_)
      refine sos_cons (so_appE (d := .int (((rows.filter fun r => timesR (mods p kind) ((p ^ i : Nat) : Int) r == noughtR (mods p kind)).length : Nat) : Int)) 5 0 rfl (by simp; omega) (Ev.to (ev_lenL ml (ev_lcTif 8 rows iT (fun r => timesR (mods p kind) ((p ^ i : Nat) : Int) r == noughtR (mods p kind)) iT scKindOf.nd
        (blkOk_by (N := nKindOf) (sc := defScope sKindOf) (by decide +kernel)) (ev_var 2) (by omega) (fun r hrm _ _ _ _ _ => tv_eqT (hr.units) (ev_call hT (hr.mono (by omega)) (ea_cons (ev_var 3) (ea_cons (ev_var 7) (ea_cons (ev_var 8) ea_nil))) ⟨_, r, _, _, rfl, .inl rfl, by rw [mods_len]; exact hlen, by rw [mods_len]; exact hrow r hrm, mods_pos hR.p2, by omega, rfl⟩) (ev_var 4))
        (fun a _ _ _ _ _ _ _ => ev_var 8) (fun _ _ _ _ _ => pg_name scKindOf.nd rfl (Or.inl rfl)))) (by rw [List.length_map])) ?_ (sos_nil ⟨_, _, rfl⟩))
      rw [range_succ_map, iD_snoc]
    · rintro A' ⟨v6, v7, rfl⟩
      refine sos_freeze 5 0 rfl rfl ?_
      rw [Int.toNat_natCast]
      refine sos_cons (so_retE (ev_call hC (hr.mono (by omega)) (ea_cons (ev_var 0) (ea_cons (ev_var 5) ea_nil)) ⟨p, kindCounts p kind rows, rfl, by have := hR.p2; omega, by have := hR.p5; omega, ?_, fun c hcm => ⟨hc c hcm, kindCounts_lt hl c hcm⟩, rfl⟩) rfl)
      unfold kindCounts
      rw [List.length_map, List.length_range]
      omega
/-! ### _law_holds -/
abbrev sHolds : Stmt := topS 52
abbrev nHolds : List Str := ["_law_one", "_law_other", "_law_have", "_law_row"]
theorem scHolds : FnScope nHolds ["_law_one", "_law_other"] (defScope sHolds) := ⟨rfl, rfl, rfl, by decide +kernel, rfl, by decide +kernel, by decide +kernel⟩
def prHolds : Pr := fun ts T => ∃ (one other : List (List Int)), ts = [.dat (rT one), .dat (rT other)] ∧ one.length ≤ 81 ∧ other.length ≤ 81 ∧ T = fun u => u = .dat (.bool (holdsR one other))
theorem addK_len (ks : List (List Int)) (r : List Int) : (addK ks r).length ≤ ks.length + 1 := by
  unfold addK
  split
  · omega
  · rw [List.length_append] <;> exact Nat.le_refl _
theorem addK_mem (ks : List (List Int)) (r x : List Int) : x ∈ addK ks r ↔ x ∈ ks ∨ x = r := by
  unfold addK
  split
  · rename_i h
    constructor
    · exact .inl
    · rintro (h1 | rfl)
      · exact h1
      · exact h
  · rw [List.mem_append, List.mem_singleton]
theorem foldK_len : ∀ (rs ks : List (List Int)), (rs.foldl addK ks).length ≤ ks.length + rs.length
  | [], ks => by simp
  | r :: rs, ks => by
    have h1 := foldK_len rs (addK ks r)
    have h2 := addK_len ks r
    rw [List.foldl_cons, List.length_cons]
    omega
theorem foldK_mem : ∀ (rs ks : List (List Int)) (x : List Int), x ∈ rs.foldl addK ks ↔ x ∈ ks ∨ x ∈ rs
  | [], ks, x => by simp
  | r :: rs, ks, x => by
    rw [List.foldl_cons, foldK_mem rs, addK_mem, List.mem_cons]
    constructor
    · rintro ((h | h) | h)
      · exact .inl h
      · exact .inr (.inl h)
      · exact .inr (.inr h)
    · rintro (h | h | h)
      · exact .inl (.inl h)
      · exact .inl (.inr h)
      · exact .inr h
theorem foldK_take {rs : List (List Int)} {i : Nat} {r : List Int} (h : rs[i]? = some r) : (rs.take (i + 1)).foldl addK [] = addK ((rs.take i).foldl addK []) r := by
  rw [List.take_add_one, h, List.foldl_append]
  rfl
theorem ok_holds (F : FunT K "_law_holds" sHolds [] f fd) : FnOk P w K mg base CX0 1 f fd ["_law_one", "_law_other"] (spD prHolds) := by
  refine def_ok F scHolds (fun ts T h => ?_) (fun cdv A outer s H E G ts T hr h => ?_)
  · obtain ⟨one, other, rfl, _⟩ := h
    rfl
  · obtain ⟨one, other, rfl, h1, h2, rfl⟩ := h
    refine sos_cons (so_newD 2 scHolds.nd fun l => ?_)
    refine sos_cons (so_forT 3 scHolds.nd (ev_var 0) (fun i A => ∃ v3, A = ⟨none, [some (.dat (rT one)), some (.dat (rT other)), some (.adr l), v3], [(l, .dict ((one.take i).foldl addK []))]⟩) ⟨_, rfl⟩ ?_ ?_)
    · rintro i A' d hd ⟨v3, rfl⟩
      obtain ⟨r, hri, rfl⟩ := get_map_some hd
      have e := foldK_len (one.take i) []
      rw [List.length_take, List.length_nil] at e
      exact sos_cons (so_dput 2 0 (hu_of hr) rfl (by omega) (ev_var 3) (sos_nil ⟨_, by rw [foldK_take hri] <;> rfl⟩))
    · rintro A' ⟨v3, rfl⟩
      refine sos_cons (so_retE (ev_eqD hr.units (ev_lcTif 3 other iT (fun r => !decide (r ∈ one)) iT scHolds.nd (blkOk_by (N := nHolds) (sc := defScope sHolds) (by decide +kernel)) (ev_var 1) (by omega) (fun r hrm _ _ _ _ _ => Tv.to (tv_dnotin 0 (hu_of hr) (ev_var 3) (ev_var 2) rfl) ?_) (fun a _ _ _ _ _ _ _ => ev_var 3) (fun _ _ _ _ _ => pg_name scHolds.nd rfl (Or.inl rfl))) (ev_lst (ds := []) ea_nil (by decide)) (shaped_rL _) shaped_nil) ?_)
      · rw [List.length_map, List.take_length]
        have e : (r ∈ one.foldl addK []) ↔ r ∈ one := by
          rw [foldK_mem]
          simp
        simp only [e]
      · have e : PyData.eqv (rL (other.filter fun r => !decide (r ∈ one))) (.list []) = holdsR one other := by
          rw [eqv_rL0]
          unfold holdsR
          cases h : (other.filter fun r => !decide (r ∈ one)).isEmpty with
          | true =>
            rw [List.isEmpty_iff, List.filter_eq_nil_iff] at h
            symm
            rw [List.all_eq_true]
            intro r hr
            simpa using h r hr
          | false =>
            symm
            rw [Bool.eq_false_iff]
            intro ha
            rw [List.all_eq_true] at ha
            rw [Bool.eq_false_iff] at h
            apply h
            rw [List.isEmpty_iff, List.filter_eq_nil_iff]
            intro r hr
            simpa using ha r hr
        exact congrArg (fun b => Ty.dat (PyData.bool b)) e
end
end K82
namespace K82
open PySem PySem.Spec PyProof.Rows L2
theorem div_lt' {a b c : Nat} (h : a < c) : (a : Int) / (b : Int) < (c : Int) := by
  have h1 : (a : Int) / (b : Int) = ((a / b : Nat) : Int) := by simp
  rw [h1]
  have := Nat.div_le_self a b
  omega
theorem foldK_all {rs : List (List Int)} {x : List Int} : decide (x ∈ rs.foldl addK []) = decide (x ∈ rs) := by
  have e : (x ∈ rs.foldl addK []) ↔ x ∈ rs := by
    rw [foldK_mem]
    simp
  simp only [e]
theorem memb_len81 {p : Nat} {kind : List Nat} (h : RoomOk p kind) : (memb (mods p kind)).length ≤ 81 := by
  rw [memb_len]
  exact h.pow81 (Nat.le_refl _)
theorem memb_len_kind {p : Nat} {kind : List Nat} {r : List Int} (h : r ∈ memb (mods p kind)) : r.length = kind.length := by
  rw [memb_row_len h, mods_len]
section
variable {P : Program} {w : World} {K : PySem.W.Frag} {mg : Str → Option Value} {base : Heap} {f : Addr} {fd : FuncData}
/-! ### _law_rest_of -/
abbrev sRest : Stmt := topS 45
abbrev nRest : List Str := ["_law_prime", "_law_kind_here", "_law_rows", "_law_moduli_here", "_law_have", "_law_row", "_law_members_here", "_law_counts", "_law_exponent_here", "_law_power_here"]
theorem scRest : FnScope nRest ["_law_prime", "_law_kind_here", "_law_rows"] (defScope sRest) := ⟨rfl, rfl, rfl, by decide +kernel, rfl, by decide +kernel, by decide +kernel⟩
def prRest : Pr := fun ts T => ∃ (p : Nat) (kind : List Nat) (rows : List (List Int)), ts = [.dat (.int p), .dat (nT kind), .dat (rT rows)] ∧ RoomOk p kind ∧ rows.length ≤ 81 ∧ 0 < rows.length ∧ (∀ c ∈ restCounts p kind rows, 0 < c) ∧ T = fun u => u = .dat (iT (restOfR p kind rows))
theorem ok_rest (F : FunT K "_law_rest_of" sRest [] f fd) (hM : Fd P w K mg base "_law_moduli" 2 ["_law_prime", "_law_kind_here"] [] (spD prModuli)) (hB : Fd P w K mg base "_law_members" 3 ["_law_prime", "_law_kind_here"] [] (spD prMembers)) (hP : Fd P w K mg base "_law_power" 1 ["_law_prime", "_law_exponent_here"] [] (spD prPower))
    (hT : Fd P w K mg base "_law_times" 1 ["_law_moduli_here", "_law_number", "_law_row"] [] (spD prTimes)) (hC : Fd P w K mg base "_law_from_counts" 2 ["_law_prime", "_law_counts"] [] (spD prFrom)) (mr : mg "range" = none) (ml : mg "len" = none) : FnOk P w K mg base CX0 4 f fd ["_law_prime", "_law_kind_here", "_law_rows"] (spD prRest) := by
  refine def_ok F scRest (fun ts T h => ?_) (fun cdv A outer s H E G ts T hr h => ?_)
  · obtain ⟨p, kind, rows, rfl, _⟩ := h
    rfl
  · obtain ⟨p, kind, rows, rfl, hR, hl, hl0, hc, rfl⟩ := h
    have hlen := hR.len
    have h6 := hR.head6
    have hml := memb_len81 hR
    refine sos_cons (so_set 3 scRest.nd (ev_call hM (hr.mono (by omega)) (ea_cons (ev_var 0) (ea_cons (ev_var 1) ea_nil)) ⟨p, kind, rfl, hR.p5, hR.le6, hlen, rfl⟩) ?_)
    refine sos_cons (so_newD 4 scRest.nd fun l => ?_)
    refine sos_cons (so_forT 5 scRest.nd (ev_var 2) (fun i A => ∃ v5, A = ⟨none, [some (.dat (.int p)), some (.dat (nT kind)), some (.dat (rT rows)), some (.dat (iL (mods p kind))), some (.adr l), v5, none, none, none, none], [(l, .dict ((rows.take i).foldl addK []))]⟩) ⟨_, rfl⟩ ?_ ?_)
    · rintro i A' d hd ⟨v5, rfl⟩
      obtain ⟨r, hri, rfl⟩ := get_map_some hd
      have e := foldK_len (rows.take i) []
      rw [List.length_take, List.length_nil] at e
      exact sos_cons (so_dput 4 0 (hu_of hr) rfl (by omega) (ev_var 5) (sos_nil ⟨_, by rw [foldK_take hri] <;> rfl⟩))
    · rintro A' ⟨v5, rfl⟩
      rw [List.length_map, List.take_length]
      refine sos_cons (so_set 6 scRest.nd (ev_call hB (hr.mono (by omega)) (ea_cons (ev_var 0) (ea_cons (ev_var 1) ea_nil)) ⟨p, kind, rfl, hR, rfl⟩) ?_)
      refine sos_cons (so_newL 7 scRest.nd fun l2 => ?_)
      refine sos_cons (so_forR (n := ((kind.headD 0 + 1 : Nat) : Int)) 8 scRest.nd (by rfl) mr (Ev.to (ev_add (i := ((kind.headD 0 : Nat) : Int)) (j := 1) (ev_head (ns := kind) (ev_var 1) (ev_var 1)) ev_int) (by rw [Int.natCast_add] <;> rfl)) (by omega)
        (fun i A => ∃ v5 v8 v9, A = ⟨none, [some (.dat (.int p)), some (.dat (nT kind)), some (.dat (rT rows)), some (.dat (iL (mods p kind))), some (.adr l), v5, some (.dat (rL (memb (mods p kind)))), some (.adr l2), v8, v9],
          [(l2, .lst (iD ((List.range i).map fun e => ((((memb (mods p kind)).filter fun r => decide (timesR (mods p kind) ((p ^ e : Nat) : Int) r ∈ rows)).length : Nat) : Int) / ((rows.length : Nat) : Int)))), (l, .dict (rows.foldl addK []))]⟩) ⟨_, _, _, rfl⟩ ?_ ?_)
      · rintro i A' hi ⟨v5, v8, v9, rfl⟩
        have hi6 : i ≤ 6 := by omega
        have hpw := pow6 hR.p5 hi6
        refine sos_cons (so_set 9 scRest.nd (ev_call hP (hr.mono (by omega)) (ea_cons (ev_var 0) (ea_cons (ev_var 8) ea_nil)) ⟨p, i, rfl, hR.p5, hi6, rfl⟩) ?_)
        refine sos_cons (so_appE (d := .int (((((memb (mods p kind)).filter fun r => decide (timesR (mods p kind) ((p ^ i : Nat) : Int) r ∈ rows)).length : Nat) : Int) / ((rows.length : Nat) : Int))) 7 0 rfl (by simp; omega)
          (ev_fdiv (i := ((((memb (mods p kind)).filter fun r => decide (timesR (mods p kind) ((p ^ i : Nat) : Int) r ∈ rows)).length : Nat) : Int)) (j := ((rows.length : Nat) : Int)) (Ev.to (ev_lenL ml (ev_lcLif 5 (memb (mods p kind)) iT (fun r => decide (timesR (mods p kind) ((p ^ i : Nat) : Int) r ∈ rows)) iT scRest.nd
            (blkOk_by (N := nRest) (sc := defScope sRest) (by decide +kernel)) (ev_var 6) (by omega) (fun r hrm _ _ _ _ _ => Tv.to (tv_din 1 (hu_of hr) (ev_call hT (hr.mono (by omega)) (ea_cons (ev_var 3) (ea_cons (ev_var 9) (ea_cons (ev_var 5) ea_nil))) ⟨_, r, _, _, rfl, .inl rfl, by rw [mods_len]; exact hlen, memb_row_len hrm, mods_pos hR.p2, by omega, rfl⟩) (ev_var 4) rfl) foldK_all)
            (fun a _ _ _ _ _ _ _ => ev_var 5) (fun _ _ _ _ _ => pg_name scRest.nd rfl (Or.inl rfl)))) (by rw [List.length_map])) (Ev.to (ev_lenT ml (ev_var 2)) (by rw [List.length_map])) ⟨by omega, by omega⟩) ?_ (sos_nil ⟨_, _, _, rfl⟩))
        rw [range_succ_map, iD_snoc]
      · rintro A' ⟨v5, v8, v9, rfl⟩
        refine sos_freeze 7 0 rfl rfl ?_
        rw [Int.toNat_natCast]
        refine sos_cons (so_retE (ev_call hC (hr.mono (by omega)) (ea_cons (ev_var 0) (ea_cons (ev_var 7) ea_nil)) ⟨p, restCounts p kind rows, rfl, by have := hR.p2; omega, by have := hR.p5; omega, ?_, fun c hcm => ⟨hc c hcm, ?_⟩, rfl⟩) rfl)
        · unfold restCounts
          rw [List.length_map, List.length_range]
          omega
        · obtain ⟨e, _, rfl⟩ := List.mem_map.mp hcm
          have := List.length_filter_le (fun r => decide (timesR (mods p kind) ((p ^ e : Nat) : Int) r ∈ rows)) (memb (mods p kind))
          exact div_lt' (c := 1073741824) (by omega)
end
end K82
namespace K82
open PySem PySem.Spec PyProof.Rows L2
/-! ### the weighted product -/
theorem weights_len {p : Nat} {kind : List Nat} : (weightsR p kind).length = kind.length := by simp [weightsR]
theorem weights_get {p : Nat} {kind : List Nat} {k : Nat} (h : k < kind.length) : (weightsR p kind).getD k 0 = ((p ^ (kind.headD 0 - kind.getD k 0) : Nat) : Int) := by
  unfold weightsR
  rw [getD_map_lt (d := 0) h]
theorem dot_sum : ∀ (w x y : List Int), w.length = x.length → w.length = y.length → dotR w x y = ((List.range w.length).map fun k => w.getD k 0 * x.getD k 0 * y.getD k 0).sum
  | [], _, _, _, _ => by simp [dotR]
  | a :: w, b :: x, c :: y, h1, h2 => by
    have ih := dot_sum w x y (by simpa using h1) (by simpa using h2)
    rw [dotR, ih, List.length_cons, List.range_succ_eq_map, List.map_cons, List.map_map, List.sum_cons]
    simp only [List.getD_cons_zero]
    congr 2
  | _ :: _, [], _, h, _ => by simp at h
  | _ :: _, _ :: _, [], _, h => by simp at h
theorem memb_bound {p : Nat} {kind : List Nat} (hR : RoomOk p kind) {r : List Int} (h : r ∈ memb (mods p kind)) {k : Nat} (hk : k < kind.length) : 0 ≤ r.getD k 0 ∧ r.getD k 0 ≤ 15625 := by
  have h1 := (mem_memb.mp h).2 k (by rw [mods_len]; exact hk)
  have h2 : (mods p kind).getD k 0 = ((p ^ kind.getD k 0 : Nat) : Int) := by
    unfold mods
    rw [getD_map_lt (d := 0) hk]
  rw [h2] at h1
  have h3 : kind.getD k 0 ≤ 6 := by
    refine hR.le6 _ ?_
    rw [List.getD_eq_getElem?_getD, List.getElem?_eq_getElem hk]
    exact List.getElem_mem hk
  have := pow6 hR.p5 h3
  omega
theorem kind_le_head {p : Nat} {kind : List Nat} (hR : RoomOk p kind) {k : Nat} (hk : k < kind.length) : kind.getD k 0 ≤ kind.headD 0 := by
  cases kind with
  | nil => simp at hk
  | cons c cs =>
    cases k with
    | zero => exact Nat.le_refl _
    | succ k =>
      have h := List.rel_of_pairwise_cons hR.fall (a' := (c :: cs).getD (k + 1) 0) ?_
      · exact h
      · rw [List.getD_cons_succ, List.getD_eq_getElem?_getD, List.getElem?_eq_getElem (by simpa using hk)]
        exact List.getElem_mem _
theorem faces_take {p : Nat} {kind : List Nat} {rows : List (List Int)} {i : Nat} {r y : List Int} (h : rows[i]? = some r) : facesB p kind (rows.take (i + 1)) y = (facesB p kind (rows.take i) y && (dotR (weightsR p kind) r y % ((p ^ kind.headD 0 : Nat) : Int) == 0)) := by
  unfold facesB
  rw [List.take_add_one, h, List.all_append]
  simp
theorem faces_nil {p : Nat} {rows : List (List Int)} {y : List Int} : facesB p [] rows y = true := by
  unfold facesB
  rw [List.all_eq_true]
  intro x _
  simp [weightsR, dotR]
section
variable {P : Program} {w : World} {K : PySem.W.Frag} {mg : Str → Option Value} {base : Heap} {f : Addr} {fd : FuncData}
/-! ### _law_faces -/
abbrev sFaces : Stmt := topS 51
abbrev nFaces : List Str := ["_law_prime", "_law_kind_here", "_law_rows", "_law_found", "_law_member", "_law_good", "_law_row", "_law_total", "_law_k"]
theorem scFaces : FnScope nFaces ["_law_prime", "_law_kind_here", "_law_rows"] (defScope sFaces) := ⟨rfl, rfl, rfl, by decide +kernel, rfl, by decide +kernel, by decide +kernel⟩
def prFaces : Pr := fun ts T => ∃ (p : Nat) (kind : List Nat) (rows : List (List Int)), ts = [.dat (.int p), .dat (nT kind), .dat (rT rows)] ∧ RoomOk p kind ∧ (∀ r ∈ rows, r ∈ memb (mods p kind)) ∧ T = fun u => u = .dat (rT (facesR p kind rows))
theorem ok_faces (F : FunT K "_law_faces" sFaces [] f fd) (hB : Fd P w K mg base "_law_members" 3 ["_law_prime", "_law_kind_here"] [] (spD prMembers)) (hP : Fd P w K mg base "_law_power" 1 ["_law_prime", "_law_exponent_here"] [] (spD prPower))
    (mr : mg "range" = none) (ml : mg "len" = none) (mi : mg "int" = none) (ms : mg "sum" = none) (mt : mg "tuple" = none) : FnOk P w K mg base CX0 4 f fd ["_law_prime", "_law_kind_here", "_law_rows"] (spD prFaces) := by
  refine def_ok F scFaces (fun ts T h => ?_) (fun cdv A outer s H E G ts T hr h => ?_)
  · obtain ⟨p, kind, rows, rfl, _⟩ := h
    rfl
  · obtain ⟨p, kind, rows, rfl, hR, hrows, rfl⟩ := h
    have hlen := hR.len
    have h6 := hR.head6
    have hml := memb_len81 hR
    refine sos_cons (so_newL 3 scFaces.nd fun l => ?_)
    refine sos_cons (so_forL 4 scFaces.nd (ev_call hB (hr.mono (by omega)) (ea_cons (ev_var 0) (ea_cons (ev_var 1) ea_nil)) ⟨p, kind, rfl, hR, rfl⟩)
      (fun i A => ∃ v4 v5 v6 v7, A = ⟨none, [some (.dat (.int p)), some (.dat (nT kind)), some (.dat (rT rows)), some (.adr l), v4, v5, v6, v7, none], [(l, .lst ((((memb (mods p kind)).take i).filter (facesB p kind rows)).map iT))]⟩) ⟨_, _, _, _, rfl⟩ ?_ ?_)
    · rintro i A' d hd ⟨v4, v5, v6, v7, rfl⟩
      obtain ⟨y, hyi, rfl⟩ := get_map_some hd
      have hy : y ∈ memb (mods p kind) := List.mem_of_getElem? hyi
      have hil : i < (memb (mods p kind)).length := (List.getElem?_eq_some_iff.mp hyi).1
      have hacc : ((((memb (mods p kind)).take i).filter (facesB p kind rows)).map iT).length < 100000 := by
        rw [List.length_map]
        have := List.length_filter_le (facesB p kind rows) ((memb (mods p kind)).take i)
        rw [List.length_take] at this
        omega
      refine sos_cons (so_set 5 scFaces.nd ev_bl ?_)
      refine sos_cons (so_conseq (fun A => ∃ v6 v7, A = ⟨none, [some (.dat (.int p)), some (.dat (nT kind)), some (.dat (rT rows)), some (.adr l), some (.dat (iT y)), some (.dat (.bool (facesB p kind rows y))), v6, v7, none], [(l, .lst ((((memb (mods p kind)).take i).filter (facesB p kind rows)).map iT))]⟩) (so_forT 6 scFaces.nd (ev_var 2)
        (fun j A => facesB p kind (rows.take j) y = true ∧ ∃ v6 v7, A = ⟨none, [some (.dat (.int p)), some (.dat (nT kind)), some (.dat (rT rows)), some (.adr l), some (.dat (iT y)), some (.dat (.bool true)), v6, v7, none], [(l, .lst ((((memb (mods p kind)).take i).filter (facesB p kind rows)).map iT))]⟩) ⟨by simp [facesB], _, _, rfl⟩ ?_ ?_) ?_)
      · rintro j A' d hd ⟨hg, v6, v7, rfl⟩
        obtain ⟨x, hxj, rfl⟩ := get_map_some hd
        have hx : x ∈ memb (mods p kind) := hrows x (List.mem_of_getElem? hxj)
        have lx := memb_len_kind hx
        have ly := memb_len_kind hy
        have hf := faces_take (p := p) (kind := kind) (y := y) hxj
        rw [hg, Bool.true_and] at hf
        refine sos_cons (so_set (t := .dat (.int (dotR (weightsR p kind) x y))) 7 scFaces.nd (Ev.to (ev_sum (ns := (List.range kind.length).map fun k => x.getD k 0 * y.getD k 0 * ((p ^ (kind.headD 0 - kind.getD k 0) : Nat) : Int)) ms (Ev.to (ev_lcR 8 kind.length (fun k => .int (x.getD k 0 * y.getD k 0 * ((p ^ (kind.headD 0 - kind.getD k 0) : Nat) : Int))) (by rfl) mr scFaces.nd
          (blkOk_by (N := nFaces) (sc := defScope sFaces) (by decide +kernel)) (Ev.to (ev_lenT ml (ev_var 1)) (by rw [List.length_map])) (by omega) (fun k hk _ _ _ _ _ => ?_) (fun _ _ _ _ _ => pg_name scFaces.nd rfl (Or.inl rfl))) ?_)) ?_) ?_)
        · have b1 := memb_bound hR hx hk
          have b2 := memb_bound hR hy hk
          have b3 := pow6 (e := kind.headD 0 - kind.getD k 0) hR.p5 (by omega)
          have hh := kind_le_head hR hk
          refine ev_mul (ev_mul (ev_ixIT (ev_var 6) (ev_var 8) (by omega)) (ev_ixIT (ev_var 4) (ev_var 8) (by omega)) (.inr (by omega))) (ev_call hP (hr.mono (by omega)) (ea_cons (ev_var 0) (ea_cons (Ev.to (ev_sub (i := ((kind.headD 0 : Nat) : Int)) (j := ((kind.getD k 0 : Nat) : Int)) (ev_ixT (ev_var 1) ev_int ?_) (ev_ixT (ev_var 1) (ev_var 8) ?_)) (by rw [Int.natCast_sub hh] <;> rfl)) ea_nil)) ⟨p, kind.headD 0 - kind.getD k 0, rfl, hR.p5, by omega, rfl⟩) (.inr (by omega))
          · cases kind with
            | nil => simp at hk
            | cons c cs => exact at_map (k := 0) rfl
          · refine at_map (enc := fun (n : Nat) => PyData.int (n : Int)) ?_
            rw [List.getD_eq_getElem?_getD, List.getElem?_eq_getElem hk] <;> rfl
        · show PyData.list _ = PyData.list ((List.map _ _).map PyData.int)
          rw [List.map_map] <;> rfl
        · rw [dot_sum _ _ _ (by rw [weights_len]; omega) (by rw [weights_len]; omega), weights_len]
          refine congrArg (fun l : List Int => PyData.int l.sum) (List.map_congr_left fun k hk => ?_)
          rw [weights_get (List.mem_range.mp hk), Int.mul_comm (x.getD k 0 * y.getD k 0), Int.mul_assoc]
        · by_cases hk : kind = []
          · subst hk
            refine sos_cons (so_ifE (k := false) (tv_and (k := false) (l := true) (Tv.to (tv_neD hr.units (ev_var 1) (ev_tup (ds := []) ea_nil (by decide)) (shaped_nT _) (by decide)) (by rw [eqv_nT0] <;> rfl)) (fun e => nomatch e)) (fun e => nomatch e) fun _ => ?_)
            refine sos_nil (sos_nil ⟨?_, _, _, rfl⟩)
            rw [hf]
            simp [weightsR, dotR]
          · have h0 : 0 < kind.length := List.length_pos_iff.mpr hk
            have hpp : (0 : Int) < ((p ^ kind.headD 0 : Nat) : Int) := by
              have : 0 < p ^ kind.headD 0 := Nat.pow_pos (by have := hR.p2; omega)
              omega
            refine sos_cons (so_ifE (k := !decide (dotR (weightsR p kind) x y % ((p ^ kind.headD 0 : Nat) : Int) = 0)) (tv_and (k := true) (Tv.to (tv_neD hr.units (ev_var 1) (ev_tup (ds := []) ea_nil (by decide)) (shaped_nT _) (by decide)) (by
              rw [eqv_nT0]
              cases kind with
              | nil => exact absurd rfl hk
              | cons c cs => rfl)) (fun _ => tv_ne (ev_mod (ev_int1 mi (ev_var 7)) (ev_call hP (hr.mono (by omega)) (ea_cons (ev_var 0) (ea_cons (ev_ixT (ev_var 1) ev_int ?_) ea_nil)) ⟨p, kind.headD 0, rfl, hR.p5, h6, rfl⟩) hpp) ev_int)) (fun hb => ?_) fun hb => ?_)
            · cases kind with
              | nil => exact absurd rfl hk
              | cons c cs => exact at_map (k := 0) rfl
            · refine sos_cons (so_set 5 scFaces.nd ev_bl ?_)
              have e : facesB p kind rows y = false := by
                rw [Bool.eq_false_iff]
                intro ha
                have ha2 := List.all_eq_true.mp ha x (List.mem_of_getElem? hxj)
                simp at hb ha2
                exact hb ha2
              exact sos_cons (so_break ⟨_, _, by rw [e] <;> rfl⟩)
            · refine sos_nil (sos_nil ⟨?_, _, _, rfl⟩)
              rw [hf]
              simpa using hb
      · rintro A' ⟨hg, v6, v7, rfl⟩
        rw [List.length_map, List.take_length] at hg
        exact ⟨_, _, by rw [hg]⟩
      · rintro A' ⟨v6, v7, rfl⟩
        refine sos_cons (so_ifE (tv_val (ev_var 5)) (fun hb => ?_) fun hb => ?_)
        · exact sos_cons (so_appE (d := iT y) 3 0 rfl hacc (ev_var 4) rfl (sos_nil (sos_nil ⟨_, _, _, _, by rw [take_succ_filter hyi, if_pos hb] <;> rfl⟩)))
        · exact sos_nil (sos_nil ⟨_, _, _, _, by rw [take_succ_filter hyi, if_neg (by rw [hb]; exact Bool.false_ne_true)] <;> rfl⟩)
    · rintro A' ⟨v4, v5, v6, v7, rfl⟩
      refine sos_freeze 3 0 rfl rfl ?_
      refine sos_cons (so_retE (ev_tupleL mt (ev_var 3)) ?_)
      rw [List.length_map, List.take_length]
      rfl
end
end K82
namespace K82
open PySem PySem.Spec PyProof.Rows L2
def rowsTo (ms : List Int) (grid : List (List Int)) (i : Nat) : List (List Int) := (List.range i).foldl (rowsStep ms grid) [noughtR ms]
theorem rowsTo_succ {ms : List Int} {grid : List (List Int)} {i : Nat} : rowsTo ms grid (i + 1) = rowsStep ms grid (rowsTo ms grid i) i := by
  unfold rowsTo
  rw [List.range_succ, List.foldl_append]
  rfl
theorem const_flatMap_len {α : Type} {n k : Nat} {f : Nat → List α} (h : ∀ i, (f i).length = k) : ((List.range n).flatMap f).length = n * k := by
  induction n with
  | zero => simp
  | succ n ih => rw [List.range_succ, List.flatMap_append, List.length_append, ih, Nat.succ_mul]; simp [h]
theorem rowsStep_len {ms : List Int} {grid rows : List (List Int)} {i : Nat} : (rowsStep ms grid rows i).length = (ms.getD i 0 / (grid.getD i []).getD i 0).toNat * rows.length := by
  unfold rowsStep
  rw [const_flatMap_len fun n => by rw [List.length_map]]
theorem mods_get {p : Nat} {kind : List Nat} {k : Nat} (h : k < kind.length) : (mods p kind).getD k 0 = ((p ^ kind.getD k 0 : Nat) : Int) := by
  unfold mods
  rw [getD_map_lt (d := 0) h]
theorem take_sum_succ {kind : List Nat} {k : Nat} (h : k < kind.length) : (kind.take (k + 1)).sum = (kind.take k).sum + kind.getD k 0 := by
  rw [List.take_add_one, List.getD_eq_getElem?_getD, List.getElem?_eq_getElem h, List.sum_append]
  simp
theorem ediv_le {a b : Int} (ha : 0 ≤ a) (hb : 0 < b) : 0 ≤ a / b ∧ a / b ≤ a := ⟨Int.ediv_nonneg ha (by omega), Int.ediv_le_self _ ha⟩
theorem rowsTo_len {p : Nat} {kind : List Nat} {grid : List (List Int)} (hR : RoomOk p kind) (hg : GridIn p kind grid) : ∀ i, i ≤ kind.length → (rowsTo (mods p kind) grid i).length ≤ p ^ (kind.take i).sum
  | 0, _ => by simp [rowsTo]
  | i + 1, h => by
    have ih := rowsTo_len hR hg i (by omega)
    have hd := hg.diag_pos hR.p2 i (by omega)
    rw [rowsTo_succ, rowsStep_len, mods_get (by omega), take_sum_succ (by omega), Nat.pow_add, Nat.mul_comm (p ^ (kind.take i).sum)]
    refine Nat.mul_le_mul ?_ ih
    have := ediv_le (a := ((p ^ kind.getD i 0 : Nat) : Int)) (by omega) hd
    omega
theorem rowsTo_row {p : Nat} {kind : List Nat} {grid : List (List Int)} (hg : ∀ c ∈ grid, c.length = kind.length) (hl : grid.length = kind.length) : ∀ i, i ≤ kind.length → ∀ r ∈ rowsTo (mods p kind) grid i, r.length = kind.length
  | 0, _, r, hr => by
    have : r = noughtR (mods p kind) := by simpa [rowsTo] using hr
    rw [this]
    simp [noughtR, mods_len]
  | i + 1, h, r, hr => by
    rw [rowsTo_succ] at hr
    unfold rowsStep at hr
    obtain ⟨n, _, hn⟩ := List.mem_flatMap.mp hr
    obtain ⟨q, hq, rfl⟩ := List.mem_map.mp hn
    have h1 := rowsTo_row hg hl i (by omega) q hq
    have h2 := hg _ (getD_nil_mem (rs := grid) (k := i) (by omega))
    rw [plusR_len (by rw [mods_len]; exact h1) (by rw [timesR_len (by rw [mods_len]; exact h2)]), mods_len]
section
variable {P : Program} {w : World} {K : PySem.W.Frag} {mg : Str → Option Value} {base : Heap} {f : Addr} {fd : FuncData}
/-! ### _law_grid_rows -/
abbrev sGridRows : Stmt := topS 49
abbrev nGridRows : List Str := ["_law_prime", "_law_kind_here", "_law_grid", "_law_moduli_here", "_law_rows", "_law_at", "_law_longer", "_law_number", "_law_step", "_law_row"]
theorem scGridRows : FnScope nGridRows ["_law_prime", "_law_kind_here", "_law_grid"] (defScope sGridRows) := ⟨rfl, rfl, rfl, by decide +kernel, rfl, by decide +kernel, by decide +kernel⟩
def prGridRows : Pr := fun ts T => ∃ (p : Nat) (kind : List Nat) (grid : List (List Int)), ts = [.dat (.int p), .dat (nT kind), .dat (lL grid)] ∧ RoomOk p kind ∧ GridIn p kind grid ∧ T = fun u => u = .dat (rT (gridRows (mods p kind) grid))
theorem ok_gridRows (F : FunT K "_law_grid_rows" sGridRows [] f fd) (hM : Fd P w K mg base "_law_moduli" 2 ["_law_prime", "_law_kind_here"] [] (spD prModuli)) (hN : Fd P w K mg base "_law_nought" 1 ["_law_moduli_here"] [] (spD prNought))
    (hT : Fd P w K mg base "_law_times" 1 ["_law_moduli_here", "_law_number", "_law_row"] [] (spD prTimes)) (hA : Fd P w K mg base "_law_plus" 1 ["_law_moduli_here", "_law_one", "_law_other"] [] (spD prPlus))
    (mr : mg "range" = none) (ml : mg "len" = none) (mli : mg "list" = none) (mt : mg "tuple" = none) (mso : mg "sorted" = none) : FnOk P w K mg base CX0 3 f fd ["_law_prime", "_law_kind_here", "_law_grid"] (spD prGridRows) := by
  refine def_ok F scGridRows (fun ts T h => ?_) (fun cdv A outer s H E G ts T hr h => ?_)
  · obtain ⟨p, kind, grid, rfl, _⟩ := h
    rfl
  · obtain ⟨p, kind, grid, rfl, hR, hg, rfl⟩ := h
    have hlen := hR.len
    have hgl := hg.len
    have hsh := hg.shape hR.p2 hR.p5 hR.le6
    refine sos_cons (so_set 3 scGridRows.nd (ev_call hM (hr.mono (by omega)) (ea_cons (ev_var 0) (ea_cons (ev_var 1) ea_nil)) ⟨p, kind, rfl, hR.p5, hR.le6, hlen, rfl⟩) ?_)
    refine sos_cons (so_set (t := .dat (rL [noughtR (mods p kind)])) 4 scGridRows.nd (ev_lst (ds := [iT (noughtR (mods p kind))]) (ea_cons (ev_call hN (hr.mono (by omega)) (ea_cons (ev_var 3) ea_nil) ⟨_, rfl, by rw [mods_len]; exact hlen, rfl⟩) ea_nil) (by show 1 ≤ sizeLine; decide)) ?_)
    refine sos_cons (so_forR 5 scGridRows.nd (by rfl) mr (Ev.to (ev_lenL ml (ev_var 2)) (by rw [List.length_map])) (by omega)
      (fun i A => ∃ v5 v6 v7 v8 v9 Mu, A = ⟨none, [some (.dat (.int p)), some (.dat (nT kind)), some (.dat (lL grid)), some (.dat (iL (mods p kind))), some (.dat (rL (rowsTo (mods p kind) grid i))), v5, v6, v7, v8, v9], Mu⟩) ⟨_, _, _, _, _, _, rfl⟩ ?_ ?_)
    · rintro i A' hi ⟨v5, v6, v7, v8, v9, Mu, rfl⟩
      have hik : i < kind.length := by omega
      have hig : i < grid.length := by omega
      have hcm := hsh _ (getD_nil_mem (rs := grid) (k := i) hig)
      have hd := hg.diag_pos hR.p2 i hik
      have hde := (hcm.2 _ (getD_mem (i := i) (by omega))).2
      have hL := rowsTo_len hR hg (i + 1) hik
      have hL81 := hR.pow81 (take_sum_le kind (i + 1))
      have hrow := rowsTo_row (p := p) (fun c hc => (hsh c hc).1) hgl i (by omega)
      have hki : kind.getD i 0 ≤ 6 := by
        refine hR.le6 _ ?_
        rw [List.getD_eq_getElem?_getD, List.getElem?_eq_getElem hik]
        exact List.getElem_mem hik
      have hm := mods_get (p := p) hik
      have hp6 := pow6 hR.p5 hki
      have hq := ediv_le (a := (mods p kind).getD i 0) (by omega) hd
      rw [rowsTo_succ, rowsStep_len] at hL
      rw [show rowsTo (mods p kind) grid i = rowsTo (mods p kind) grid i from rfl]
      generalize hrows : rowsTo (mods p kind) grid i = rows at hL hrow ⊢
      generalize hqq : (mods p kind).getD i 0 / (grid.getD i []).getD i 0 = q at hL hq
      refine sos_cons (so_newL 6 scGridRows.nd fun l => ?_)
      refine sos_cons (so_forR (n := q) 7 scGridRows.nd (by rfl) mr (Ev.to (ev_fdiv (i := (mods p kind).getD i 0) (j := (grid.getD i []).getD i 0) (ev_ixI (ev_var 3) (ev_var 5) (by rw [mods_len]; exact hik)) (ev_ixI (ev_ixL (ev_var 2) (ev_var 5) (at_row hig)) (ev_var 5) (by omega)) ⟨hd, by omega⟩) (by rw [hqq])) (by omega)
        (fun n A => ∃ v7 v8 v9, A = ⟨none, [some (.dat (.int p)), some (.dat (nT kind)), some (.dat (lL grid)), some (.dat (iL (mods p kind))), some (.dat (rL rows)), some (.dat (.int (i : Int))), some (.adr l), v7, v8, v9],
          (l, .lst (((List.range n).flatMap fun (n : Nat) => rows.map fun row => plusR (mods p kind) row (timesR (mods p kind) (n : Int) (grid.getD i []))).map iT)) :: Mu⟩) ⟨_, _, _, rfl⟩ ?_ ?_)
      · rintro n A' hn ⟨v7, v8, v9, rfl⟩
        have hbl : ((List.range n).flatMap fun (n : Nat) => rows.map fun row => plusR (mods p kind) row (timesR (mods p kind) (n : Int) (grid.getD i []))).length + rows.length ≤ 81 := by
          rw [const_flatMap_len fun n => by rw [List.length_map]]
          have := Nat.mul_le_mul_right rows.length (show n + 1 ≤ q.toNat by omega)
          rw [Nat.succ_mul] at this
          omega
        refine sos_cons (so_set 8 scGridRows.nd (ev_call hT (hr.mono (by omega)) (ea_cons (ev_var 3) (ea_cons (ev_var 7) (ea_cons (ev_ixL (ev_var 2) (ev_var 5) (at_row hig)) ea_nil))) ⟨_, grid.getD i [], _, _, rfl, .inr rfl, by rw [mods_len]; exact hlen, by rw [mods_len]; exact hcm.1, mods_pos hR.p2, by omega, rfl⟩) ?_)
        refine sos_cons (so_forL 9 scGridRows.nd (ev_var 4) (fun j A => ∃ v9, A = ⟨none, [some (.dat (.int p)), some (.dat (nT kind)), some (.dat (lL grid)), some (.dat (iL (mods p kind))), some (.dat (rL rows)), some (.dat (.int (i : Int))), some (.adr l), some (.dat (.int (n : Int))), some (.dat (iT (timesR (mods p kind) (n : Int) (grid.getD i [])))), v9],
          (l, .lst ((((List.range n).flatMap fun (n : Nat) => rows.map fun row => plusR (mods p kind) row (timesR (mods p kind) (n : Int) (grid.getD i []))) ++ (rows.take j).map fun row => plusR (mods p kind) row (timesR (mods p kind) (n : Int) (grid.getD i []))).map iT)) :: Mu⟩) ⟨_, by rw [List.take_zero, List.map_nil, List.append_nil] <;> rfl⟩ ?_ ?_)
        · rintro j A' d hdj ⟨v9, rfl⟩
          obtain ⟨r, hrj, rfl⟩ := get_map_some hdj
          have hjl : j < rows.length := (List.getElem?_eq_some_iff.mp hrj).1
          refine sos_cons (so_appE (d := iT (plusR (mods p kind) r (timesR (mods p kind) (n : Int) (grid.getD i [])))) 6 0 rfl ?_ (ev_call hA (hr.mono (by omega)) (ea_cons (ev_var 3) (ea_cons (ev_var 9) (ea_cons (ev_var 8) ea_nil))) ⟨_, r, _, rfl, by rw [mods_len]; exact hlen, by rw [mods_len]; exact hrow r (List.mem_of_getElem? hrj), timesR_len (by rw [mods_len]; exact hcm.1), mods_pos hR.p2, rfl⟩) ?_ (sos_nil ⟨_, rfl⟩))
          · rw [List.length_map, List.length_append, List.length_map, List.length_take]
            omega
          · rw [List.take_add_one, hrj, List.map_append (l₂ := Option.toList _), ← List.append_assoc, List.map_append (l₁ := _ ++ _)] <;> rfl
        · rintro A' ⟨v9, rfl⟩
          exact sos_nil ⟨_, _, _, by rw [List.length_map, List.take_length, List.range_succ, List.flatMap_append, List.flatMap_singleton] <;> rfl⟩
      · rintro A' ⟨v7, v8, v9, rfl⟩
        exact sos_cons (so_set 4 scGridRows.nd (ev_listMu 0 mli (ev_var 6) rfl) (sos_nil ⟨_, _, _, _, _, _, by rw [rowsTo_succ, hrows, rowsStep, hqq] <;> rfl⟩))
    · rintro A' ⟨v5, v6, v7, v8, v9, Mu, rfl⟩
      have hrow := rowsTo_row (p := p) (fun c hc => (hsh c hc).1) hgl kind.length (Nat.le_refl _)
      have hL := rowsTo_len hR hg kind.length (Nat.le_refl _)
      have hL81 := hR.pow81 (take_sum_le kind kind.length)
      refine sos_cons (so_retE (ev_tupleL mt (ev_sortR mso (ev_var 4) ?_ ?_ hr.units)) ?_)
      · rw [Int.toNat_natCast, hgl]
        by_cases hk : kind = []
        · subst hk
          exact .inl (by simp [rowsTo])
        · refine .inr fun r hrm e => hk ?_
          have := hrow r hrm
          rw [e] at this
          exact List.length_eq_zero_iff.mp this.symm
      · rw [Int.toNat_natCast, hgl]
        omega
      · rw [Int.toNat_natCast]
        rfl
/-! ### _law_listing -/
abbrev encP (q : Nat × List (List Int)) : PyData := .tuple [.int (q.1 : Int), rT q.2]
def listR (p : Nat) (kind : List Nat) : List (List (List Int)) := ((((gridsR p kind).map (gridRows (mods p kind))).map fun w => (w.length, w)).mergeSort (PySem.W.dataLe false encP)).map (·.2)
theorem pairs_perm {α : Type} (ws : List α) (len : α → Nat) (f : Nat × α → Nat × α → Bool) : (((ws.map fun w => (len w, w)).mergeSort f).map (·.2)).Perm ws := by
  have h := (List.mergeSort_perm (ws.map fun w => (len w, w)) f).map (fun q : Nat × α => q.2)
  rw [List.map_map (l := ws)] at h
  rw [show ((fun q : Nat × α => q.2) ∘ fun w => (len w, w)) = id from rfl, List.map_id] at h
  exact h
theorem listR_perm (p : Nat) (kind : List Nat) : (listR p kind).Perm ((gridsR p kind).map (gridRows (mods p kind))) := pairs_perm _ _ _
theorem alike_rows : ∀ xs ys : List (List Int), PySem.W.alikeAll (xs.map iT) (ys.map iT) = true
  | [], _ => by rw [List.map_nil, PySem.W.alikeAll]
  | _ :: _, [] => by rw [List.map_nil, List.map_cons, PySem.W.alikeAll]
  | x :: xs, y :: ys => by
    rw [List.map_cons, List.map_cons, PySem.W.alikeAll, alike_rows xs ys, PySem.W.alike, PySem.W.alike_ints] <;> rfl
theorem alike_pair (a b : Nat × List (List Int)) : PySem.W.alike (encP a) (encP b) = true := by
  show PySem.W.alike (.tuple [.int (a.1 : Int), .tuple (a.2.map iT)]) (.tuple [.int (b.1 : Int), .tuple (b.2.map iT)]) = true
  rw [PySem.W.alike, PySem.W.alikeAll, PySem.W.alikeAll, PySem.W.alikeAll, PySem.W.alike, PySem.W.alike, alike_rows] <;> rfl
theorem depth_pair (a : Nat × List (List Int)) : (encP a).depth ≤ 8 := by
  show (PyData.tuple [.int (a.1 : Int), .tuple (a.2.map iT)]).depth ≤ 8
  have := depth_rows a.2
  rw [PyData.depth, PyData.depthAll, PyData.depthAll, PyData.depthAll, PyData.depth, PyData.depth]
  omega
abbrev sListing : Stmt := topS 50
abbrev nListing : List Str := ["_law_prime", "_law_kind_here", "_law_rows", "_law_grid", "_law_pair", "_law_within"]
theorem scListing : FnScope nListing ["_law_prime", "_law_kind_here"] (defScope sListing) := ⟨rfl, rfl, rfl, by decide +kernel, rfl, by decide +kernel, by decide +kernel⟩
def prListing : Pr := fun ts T => ∃ (p : Nat) (kind : List Nat), ts = [.dat (.int p), .dat (nT kind)] ∧ RoomOk p kind ∧ T = fun u => u = .dat (.list ((listR p kind).map rT))
theorem ok_listing (F : FunT K "_law_listing" sListing [] f fd) (hG : Fd P w K mg base "_law_grids" 2 ["_law_prime", "_law_kind_here"] [] (spD prGrids)) (hW : Fd P w K mg base "_law_grid_rows" 3 ["_law_prime", "_law_kind_here", "_law_grid"] [] (spD prGridRows))
    (ml : mg "len" = none) (mso : mg "sorted" = none) : FnOk P w K mg base CX0 4 f fd ["_law_prime", "_law_kind_here"] (spD prListing) := by
  refine def_ok F scListing (fun ts T h => ?_) (fun cdv A outer s H E G ts T hr h => ?_)
  · obtain ⟨p, kind, rfl, _⟩ := h
    rfl
  · obtain ⟨p, kind, rfl, hR, rfl⟩ := h
    have hgl : (gridsR p kind).length ≤ 20000 := by
      have := gridsTo_le hR kind.length (Nat.le_refl _)
      unfold gridsTo at this
      rw [List.take_of_length_le (by simp)] at this
      exact this
    refine sos_cons (so_lcL 2 3 (gridsR p kind) lL (fun g => rT (gridRows (mods p kind) g)) scListing.nd (blkOk_by (N := nListing) (sc := defScope sListing) (by decide +kernel)) (ev_call hG (hr.mono (by omega)) (ea_cons (ev_var 0) (ea_cons (ev_var 1) ea_nil)) ⟨p, kind, rfl, hR, rfl⟩) (by omega)
      (fun g hg _ _ _ _ _ => ev_call hW hr (ea_cons (ev_var 0) (ea_cons (ev_var 1) (ea_cons (ev_var 3) ea_nil))) ⟨p, kind, g, rfl, hR, gridsR_in g hg, rfl⟩) ?_ (fun _ _ _ _ _ => pg_name scListing.nd rfl (Or.inl rfl)) (sw_true rfl rfl rfl (by decide +kernel)))
    have e : (gridsR p kind).map (fun g => rT (gridRows (mods p kind) g)) = ((gridsR p kind).map (gridRows (mods p kind))).map rT := by rw [List.map_map] <;> rfl
    rw [e]
    refine sos_cons (so_retE (ev_lcL 4 ((((gridsR p kind).map (gridRows (mods p kind))).map fun w => (w.length, w)).mergeSort (PySem.W.dataLe false encP)) encP (fun q => rT q.2) scListing.nd (blkOk_by (N := nListing) (sc := defScope sListing) (by decide +kernel))
        (ev_sortD (enc := encP) (bs := ((gridsR p kind).map (gridRows (mods p kind))).map fun (w : List (List Int)) => (w.length, w)) mso (Ev.to (ev_lcL 5 ((gridsR p kind).map (gridRows (mods p kind))) rT (fun w => encP (w.length, w)) scListing.nd (blkOk_by (N := nListing) (sc := defScope sListing) (by decide +kernel)) (ev_var 2) (by rw [List.length_map]; omega)
          (fun w hw _ _ _ _ _ => ev_tup (ds := [.int (w.length : Int), rT w]) (ea_cons (Ev.to (ev_lenT ml (ev_var 5)) (by rw [List.length_map])) (ea_cons (ev_var 5) ea_nil)) (by show 2 ≤ sizeLine; decide)) (fun _ _ _ _ _ => pg_name scListing.nd rfl (Or.inl rfl))) (congrArg PyData.list (List.map_map (f := fun w : List (List Int) => (w.length, w)) (g := encP)).symm))
          (.inr ⟨PySem.W.AllAlike.of alike_pair, PySem.W.Sortable.tuples fun b => ⟨_, _, rfl⟩, fun b _ => depth_pair b⟩) (by rw [List.length_map, List.length_map]; exact Nat.le_trans hgl (Nat.le_trans (by omega) sizeLine_big)) hr.units) (by rw [List.length_mergeSort, List.length_map, List.length_map]; omega)
        (fun q hq _ _ _ _ _ => ev_ixT (ev_var 4) ev_int rfl) (fun _ _ _ _ _ => pg_name scListing.nd rfl (Or.inl rfl))) ?_)
    unfold listR
    rw [List.map_map] <;> rfl
end
end K82
/-! Finite abelian groups with a form that is not degenerate: orders of subgroups and of what faces them. -/
namespace K82
structure Ab where
  G : Type
  els : List G
  nodup : els.Nodup
  all : ∀ x, x ∈ els
  add : G → G → G
  zero : G
  smul : Int → G → G
  N : Nat
  b : G → G → Int
  add_comm : ∀ x y, add x y = add y x
  add_assoc : ∀ x y z, add (add x y) z = add x (add y z)
  add_zero : ∀ x, add x zero = x
  one_smul : ∀ x, smul 1 x = x
  zero_smul : ∀ x, smul 0 x = zero
  add_smul : ∀ m n x, smul (m + n) x = add (smul m x) (smul n x)
  mul_smul : ∀ m n x, smul (m * n) x = smul m (smul n x)
  smul_add : ∀ n x y, smul n (add x y) = add (smul n x) (smul n y)
  pos : 1 ≤ N
  expo : ∀ x, smul (N : Int) x = zero
  b_symm : ∀ x y, b x y = b y x
  b_add : ∀ x y z, (N : Int) ∣ b (add x y) z - (b x z + b y z)
  b_smul : ∀ n x z, (N : Int) ∣ b (smul n x) z - n * b x z
  nondeg : ∀ x, (∀ y, (N : Int) ∣ b x y) → x = zero
namespace Ab
open Classical
variable (A : Ab)
structure Sub (W : A.G → Prop) : Prop where
  zero : W A.zero
  add : ∀ x y, W x → W y → W (A.add x y)
  smul : ∀ n x, W x → W (A.smul n x)
noncomputable def lis (W : A.G → Prop) : List A.G := A.els.filter fun x => decide (W x)
noncomputable def card (W : A.G → Prop) : Nat := (A.lis W).length
variable {A} {W V U : A.G → Prop}
theorem mem_lis {x : A.G} : x ∈ A.lis W ↔ W x := by
  unfold lis
  rw [List.mem_filter, decide_eq_true_eq]
  exact ⟨fun h => h.2, fun h => ⟨A.all x, h⟩⟩
theorem lis_nodup : (A.lis W).Nodup := A.nodup.sublist List.filter_sublist
theorem nodup_map {α β : Type} {f : α → β} {l : List α} (h : l.Nodup) (inj : ∀ x ∈ l, ∀ y ∈ l, f x = f y → x = y) : (l.map f).Nodup := by
  unfold List.Nodup at *
  rw [List.pairwise_map]
  exact h.imp_of_mem fun {a b} ha hb hab e => hab (inj a ha b hb e)
theorem card_le (f : A.G → A.G) (h : ∀ x, W x → V (f x)) (inj : ∀ x y, W x → W y → f x = f y → x = y) : A.card W ≤ A.card V := by
  have h1 : ((A.lis W).map f).Nodup := nodup_map lis_nodup fun x hx y hy => inj x y (mem_lis.mp hx) (mem_lis.mp hy)
  have h2 := List.Nodup.length_le_of_subset (l₂ := A.lis V) h1 fun y hy => by
    obtain ⟨x, hx, rfl⟩ := List.mem_map.mp hy
    exact mem_lis.mpr (h x (mem_lis.mp hx))
  rw [List.length_map] at h2
  exact h2
theorem card_mono (h : ∀ x, W x → V x) : A.card W ≤ A.card V := card_le id h fun _ _ _ _ e => e
theorem card_lt {x : A.G} (h : ∀ x, W x → V x) (hx : V x) (hn : ¬ W x) : A.card W < A.card V := by
  have h1 : (x :: A.lis W).Nodup := List.nodup_cons.mpr ⟨fun hm => hn (mem_lis.mp hm), lis_nodup⟩
  exact List.Nodup.length_le_of_subset (l₂ := A.lis V) h1 fun y hy => by
    rcases List.mem_cons.mp hy with e | hy
    · rw [e]
      exact mem_lis.mpr hx
    · exact mem_lis.mpr (h y (mem_lis.mp hy))
theorem eq_of_card (h : ∀ x, W x → V x) (hc : A.card V ≤ A.card W) (x : A.G) (hx : V x) : W x := by
  by_cases hw : W x
  · exact hw
  · have := card_lt h hx hw
    omega
theorem card_congr (h : ∀ x, W x ↔ V x) : A.card W = A.card V := Nat.le_antisymm (card_mono fun x => (h x).mp) (card_mono fun x => (h x).mpr)
theorem Sub.pos (h : A.Sub W) : 1 ≤ A.card W := List.length_pos_of_mem (mem_lis.mpr h.zero)
/-! ### the group -/
def neg (x : A.G) : A.G := A.smul (-1) x
theorem add_neg (x : A.G) : A.add x (neg x) = A.zero := by
  have h := A.add_smul 1 (-1) x
  rw [A.one_smul] at h
  exact h.symm.trans (A.zero_smul x)
theorem add_sub (x y : A.G) : A.add (A.add x y) (neg y) = x := by rw [A.add_assoc, add_neg, A.add_zero]
theorem sub_add (x y : A.G) : A.add (A.add x (neg y)) y = x := by rw [A.add_assoc, A.add_comm (neg y), add_neg, A.add_zero]
theorem cancel {x y z : A.G} (h : A.add x z = A.add y z) : x = y := by rw [← add_sub x z, h, add_sub]
theorem zero_add (x : A.G) : A.add A.zero x = x := by rw [A.add_comm, A.add_zero]
theorem Sub.neg (h : A.Sub W) {x : A.G} (hx : W x) : W (Ab.neg x) := h.smul _ _ hx
theorem smul_zero (n : Int) : A.smul n A.zero = A.zero := by
  rw [← A.zero_smul A.zero, ← A.mul_smul, Int.mul_zero]
/-! ### the form -/
theorem dvd_of_sub {n a c : Int} (h : n ∣ a - c) : n ∣ a ↔ n ∣ c := by
  constructor
  · intro ha
    have := Int.dvd_sub ha h
    rw [show a - (a - c) = c by omega] at this
    exact this
  · intro hc
    have := Int.dvd_add h hc
    rw [show a - c + c = a by omega] at this
    exact this
theorem b_zero (y : A.G) : (A.N : Int) ∣ A.b A.zero y := by
  have h := A.b_smul 0 A.zero y
  rw [A.zero_smul, Int.zero_mul] at h
  exact (dvd_of_sub h).mpr (Int.dvd_zero _)
theorem b_add' {x y z : A.G} (h1 : (A.N : Int) ∣ A.b x z) (h2 : (A.N : Int) ∣ A.b y z) : (A.N : Int) ∣ A.b (A.add x y) z := (dvd_of_sub (A.b_add x y z)).mpr (Int.dvd_add h1 h2)
theorem b_smul' (n : Int) {x z : A.G} (h : (A.N : Int) ∣ A.b x z) : (A.N : Int) ∣ A.b (A.smul n x) z := (dvd_of_sub (A.b_smul n x z)).mpr (Int.dvd_mul_of_dvd_right h)
def perp (W : A.G → Prop) : A.G → Prop := fun y => ∀ x, W x → (A.N : Int) ∣ A.b x y
theorem perp_sub (W : A.G → Prop) : A.Sub (perp W) := ⟨fun x _ => by
  rw [A.b_symm]
  exact b_zero x, fun y z hy hz x hx => by
  rw [A.b_symm]
  exact b_add' (by rw [A.b_symm]; exact hy x hx) (by rw [A.b_symm]; exact hz x hx), fun n y hy x hx => by
  rw [A.b_symm]
  exact b_smul' n (by rw [A.b_symm]; exact hy x hx)⟩
theorem perp_anti (h : ∀ x, W x → V x) (y : A.G) (hy : perp V y) : perp W y := fun x hx => hy x (h x hx)
/-! ### counting by fibres -/
theorem split_len {α : Type} (f : α → Bool) : ∀ l : List α, l.length = (l.filter f).length + (l.filter fun y => !f y).length
  | [] => rfl
  | a :: l => by
    have ih := split_len f l
    cases h : f a with
    | true =>
      rw [List.filter_cons_of_pos h, List.filter_cons_of_neg (by simp [h]), List.length_cons, List.length_cons]
      omega
    | false =>
      rw [List.filter_cons_of_neg (by simp [h]), List.filter_cons_of_pos (by simp [h]), List.length_cons, List.length_cons]
      omega
theorem fibre_le {α : Type} (c : Nat) : ∀ (n : Nat) (l : List α) (φ : α → Nat), (∀ y ∈ l, φ y < n) → (∀ t, t < n → (l.filter fun y => decide (φ y = t)).length ≤ c) → l.length ≤ n * c
  | 0, l, φ, h, _ => by
    cases l with
    | nil => simp
    | cons a l => exact absurd (h a List.mem_cons_self) (by omega)
  | n + 1, l, φ, h, hc => by
    have h1 := fibre_le c n (l.filter fun y => !decide (φ y = n)) φ (fun y hy => by
      obtain ⟨h2, h3⟩ := List.mem_filter.mp hy
      have h4 := h y h2
      have h5 : φ y ≠ n := by simpa using h3
      omega) fun t ht => by
      exact Nat.le_trans (List.Sublist.length_le (List.filter_sublist.filter _)) (hc t (by omega))
    have h2 := hc n (by omega)
    have h3 := split_len (fun y => decide (φ y = n)) l
    rw [Nat.succ_mul]
    omega
theorem fibre_eq {α β : Type} (c : Nat) (φ : α → β) : ∀ (zs : List β) (l : List α), zs.Nodup → (∀ y ∈ l, φ y ∈ zs) → (∀ z ∈ zs, (l.filter fun y => decide (φ y = z)).length = c) → l.length = zs.length * c
  | [], l, _, h, _ => by
    cases l with
    | nil => simp
    | cons a l => exact absurd (h a List.mem_cons_self) (by simp)
  | z :: zs, l, hn, h, hc => by
    rw [List.nodup_cons] at hn
    have h1 := fibre_eq c φ zs (l.filter fun y => !decide (φ y = z)) hn.2 (fun y hy => by
      obtain ⟨h2, h3⟩ := List.mem_filter.mp hy
      have h5 : φ y ≠ z := by simpa using h3
      rcases List.mem_cons.mp (h y h2) with e | e
      · exact absurd e h5
      · exact e) fun t ht => by
      rw [← hc t (List.mem_cons_of_mem _ ht), List.filter_filter]
      refine congrArg List.length (List.filter_congr fun y _ => ?_)
      by_cases e : φ y = t
      · have hne : ¬ t = z := fun e2 => hn.1 (e2 ▸ ht)
        simp [e, hne]
      · simp [e]
    have h2 := hc z List.mem_cons_self
    have h3 := split_len (fun y => decide (φ y = z)) l
    rw [List.length_cons, Nat.succ_mul]
    omega
/-! ### one more generator -/
theorem least {P : Nat → Prop} : ∀ n, P n → ∃ m, P m ∧ ∀ k, k < m → ¬ P k := fun n => by
  induction n using Nat.strongRecOn with
  | ind n ih =>
    intro h
    by_cases hk : ∃ k, k < n ∧ P k
    · obtain ⟨k, h1, h2⟩ := hk
      exact ih k h1 h2
    · exact ⟨n, h, fun k h1 h2 => hk ⟨k, h1, h2⟩⟩
def ext (W : A.G → Prop) (x : A.G) : A.G → Prop := fun z => ∃ w i, W w ∧ z = A.add w (A.smul i x)
theorem ext_sub (h : A.Sub W) (x : A.G) : A.Sub (ext W x) := ⟨⟨A.zero, 0, h.zero, by rw [A.zero_smul, A.add_zero]⟩, fun y z ⟨w, i, hw, e⟩ ⟨v, j, hv, e2⟩ => ⟨A.add w v, i + j, h.add _ _ hw hv, by
  rw [e, e2, A.add_smul, A.add_assoc, ← A.add_assoc (A.smul i x), A.add_comm (A.smul i x) v, A.add_assoc v, ← A.add_assoc]⟩, fun n y ⟨w, i, hw, e⟩ => ⟨A.smul n w, n * i, h.smul _ _ hw, by rw [e, A.smul_add, A.mul_smul]⟩⟩
theorem ext_in (x : A.G) (y : A.G) (hy : W y) : ext W x y := ⟨y, 0, hy, by rw [A.zero_smul, A.add_zero]⟩
theorem ext_self (h : A.Sub W) (x : A.G) : ext W x x := ⟨A.zero, 1, h.zero, by rw [A.one_smul, zero_add]⟩
theorem step (hW : A.Sub W) (x : A.G) : A.card W * A.card (perp W) ≤ A.card (ext W x) * A.card (perp (ext W x)) := by
  obtain ⟨n, ⟨hn1, hn2⟩, hn3⟩ := least (P := fun n => 1 ≤ n ∧ W (A.smul (n : Int) x)) A.N ⟨A.pos, by rw [A.expo]; exact hW.zero⟩
  have out : ∀ k : Nat, 1 ≤ k → k < n → ¬ W (A.smul (k : Int) x) := fun k h1 h2 h3 => hn3 k h2 ⟨h1, h3⟩
  have h1 : n * A.card W ≤ A.card (ext W x) := by
    let L := (List.range n).flatMap fun (i : Nat) => (A.lis W).map fun w => A.add w (A.smul (i : Int) x)
    have len : ∀ m : Nat, ((List.range m).flatMap fun (i : Nat) => (A.lis W).map fun w => A.add w (A.smul (i : Int) x)).length = m * A.card W := fun m => by
      induction m with
      | zero => simp
      | succ m ih =>
        rw [List.range_succ, List.flatMap_append, List.length_append, ih, List.flatMap_singleton, List.length_map, Nat.succ_mul]
        rfl
    have nd : L.Nodup := by
      show List.Pairwise _ (List.flatMap _ _)
      rw [List.pairwise_flatMap]
      refine ⟨fun i _ => nodup_map lis_nodup fun y _ z _ e => cancel e, ?_⟩
      refine List.pairwise_lt_range.imp_of_mem fun {i j} hi hj hij y hy z hz e => ?_
      obtain ⟨w, hw, rfl⟩ := List.mem_map.mp hy
      obtain ⟨v, hv, e2⟩ := List.mem_map.mp hz
      have hw := mem_lis.mp hw
      have hv := mem_lis.mp hv
      have hjn := List.mem_range.mp hj
      refine out (j - i) (by omega) (by omega) ?_
      have e3 : A.add (A.add v (A.smul (j : Int) x)) (A.smul (-(i : Int)) x) = A.add (A.add w (A.smul (i : Int) x)) (A.smul (-(i : Int)) x) := by rw [e2, e]
      rw [A.add_assoc, A.add_assoc, ← A.add_smul, ← A.add_smul, show (i : Int) + -(i : Int) = 0 by omega, A.zero_smul, A.add_zero, show (j : Int) + -(i : Int) = ((j - i : Nat) : Int) by omega] at e3
      have e4 : A.smul ((j - i : Nat) : Int) x = A.add w (neg v) := by rw [← e3, A.add_comm v, add_sub]
      rw [e4]
      exact hW.add _ _ hw (hW.neg hv)
    have sub := List.Nodup.length_le_of_subset (l₂ := A.lis (ext W x)) nd fun y hy => by
      obtain ⟨i, _, hi⟩ := List.mem_flatMap.mp hy
      obtain ⟨w, hw, rfl⟩ := List.mem_map.mp hi
      exact mem_lis.mpr ⟨w, (i : Int), mem_lis.mp hw, rfl⟩
    rw [show L.length = n * A.card W from len n] at sub
    exact sub
  have h2 : A.card (perp W) ≤ n * A.card (perp (ext W x)) := by
    have hN : (0 : Int) < (A.N : Int) := by
      have := A.pos
      omega
    have key : ∀ y, perp W y → (n : Int) * (A.b x y % (A.N : Int)) = (A.N : Int) * ((n : Int) * (A.b x y % (A.N : Int)) / (A.N : Int)) := fun y hy => by
      have d1 : (A.N : Int) ∣ (n : Int) * A.b x y := (dvd_of_sub (A.b_smul n x y)).mp (hy _ hn2)
      have d2 : (A.N : Int) ∣ (n : Int) * (A.b x y % (A.N : Int)) := by
        have e : (n : Int) * A.b x y = (n : Int) * (A.b x y % (A.N : Int)) + (A.N : Int) * ((n : Int) * (A.b x y / (A.N : Int))) := by
          have := Int.emod_add_mul_ediv (A.b x y) (A.N : Int)
          conv => lhs; rw [← this]
          rw [Int.mul_add, Int.mul_left_comm]
        rw [e] at d1
        exact (Int.dvd_add_left (Int.dvd_mul_right _ _)).mp d1
      exact (Int.mul_ediv_cancel' d2).symm
    refine fibre_le (A.card (perp (ext W x))) n (A.lis (perp W)) (fun y => ((n : Int) * (A.b x y % (A.N : Int)) / (A.N : Int)).toNat) (fun y hy => ?_) fun t ht => ?_
    · have m0 := Int.emod_nonneg (A.b x y) (show (A.N : Int) ≠ 0 by omega)
      have m1 := Int.emod_lt_of_pos (A.b x y) hN
      have q : (n : Int) * (A.b x y % (A.N : Int)) / (A.N : Int) < (n : Int) := by
        refine Int.ediv_lt_of_lt_mul hN ?_
        exact Int.mul_lt_mul_of_pos_left m1 (by omega)
      have q0 : 0 ≤ (n : Int) * (A.b x y % (A.N : Int)) / (A.N : Int) := Int.ediv_nonneg (Int.mul_nonneg (by omega) m0) (by omega)
      show ((n : Int) * (A.b x y % (A.N : Int)) / (A.N : Int)).toNat < n
      omega
    · by_cases hne : ∃ y0, y0 ∈ (A.lis (perp W)).filter fun y => decide (((n : Int) * (A.b x y % (A.N : Int)) / (A.N : Int)).toNat = t)
      · obtain ⟨y0, hy0⟩ := hne
        obtain ⟨g1, g2⟩ := List.mem_filter.mp hy0
        have g1 := mem_lis.mp g1
        have g2 := of_decide_eq_true g2
        have nd : (((A.lis (perp W)).filter fun y => decide (((n : Int) * (A.b x y % (A.N : Int)) / (A.N : Int)).toNat = t)).map fun y => A.add y (neg y0)).Nodup := nodup_map (lis_nodup.sublist List.filter_sublist) fun y _ z _ e => cancel e
        have sub := List.Nodup.length_le_of_subset (l₂ := A.lis (perp (ext W x))) nd fun z hz => by
          obtain ⟨y, hy, rfl⟩ := List.mem_map.mp hz
          obtain ⟨f1, f2⟩ := List.mem_filter.mp hy
          have f1 := mem_lis.mp f1
          have f2 := of_decide_eq_true f2
          have nn : ∀ v, 0 ≤ (n : Int) * (A.b x v % (A.N : Int)) / (A.N : Int) := fun v => Int.ediv_nonneg (Int.mul_nonneg (by omega) (Int.emod_nonneg _ (by omega))) (by omega)
          have eq : (n : Int) * (A.b x y % (A.N : Int)) / (A.N : Int) = (n : Int) * (A.b x y0 % (A.N : Int)) / (A.N : Int) := by
            have := nn y
            have := nn y0
            omega
          have e1 : A.b x y % (A.N : Int) = A.b x y0 % (A.N : Int) := by
            have k1 := key y f1
            have k2 := key y0 g1
            rw [eq, ← k2] at k1
            exact Int.eq_of_mul_eq_mul_left (show (n : Int) ≠ 0 by omega) k1
          have hxy : (A.N : Int) ∣ A.b x (A.add y (neg y0)) := by
            rw [A.b_symm]
            refine (dvd_of_sub (A.b_add y (neg y0) x)).mpr ?_
            have d3 : (A.N : Int) ∣ A.b (neg y0) x - -1 * A.b y0 x := A.b_smul (-1) y0 x
            have d4 : (A.N : Int) ∣ A.b x y - A.b x y0 := Int.dvd_of_emod_eq_zero (Int.emod_eq_emod_iff_emod_sub_eq_zero.mp e1)
            have d5 := Int.dvd_add d3 d4
            rw [A.b_symm y x]
            rw [A.b_symm y0 x] at d5
            rw [show A.b (neg y0) x - -1 * A.b x y0 + (A.b x y - A.b x y0) = A.b x y + A.b (neg y0) x by omega] at d5
            exact d5
          refine mem_lis.mpr fun v ⟨w, i, hw, ev⟩ => ?_
          rw [ev]
          exact b_add' ((perp_sub W).add _ _ f1 ((perp_sub W).neg g1) w hw) (b_smul' i hxy)
        rw [List.length_map] at sub
        exact sub
      · have : ((A.lis (perp W)).filter fun y => decide (((n : Int) * (A.b x y % (A.N : Int)) / (A.N : Int)).toNat = t)) = [] := List.eq_nil_iff_forall_not_mem.mpr fun y hy => hne ⟨y, hy⟩
        rw [this]
        exact Nat.zero_le _
  calc A.card W * A.card (perp W) ≤ A.card W * (n * A.card (perp (ext W x))) := Nat.mul_le_mul_left _ h2
    _ = n * A.card W * A.card (perp (ext W x)) := by rw [← Nat.mul_assoc, Nat.mul_comm (A.card W)]
    _ ≤ A.card (ext W x) * A.card (perp (ext W x)) := Nat.mul_le_mul_right _ h1
/-! ### the orders -/
theorem grow (hV : A.Sub V) : ∀ (m : Nat) (U : A.G → Prop), A.Sub U → (∀ x, U x → V x) → A.card V - A.card U ≤ m → A.card U * A.card (perp U) ≤ A.card V * A.card (perp V)
  | m, U, hU, h, hm => by
    by_cases e : ∀ x, V x → U x
    · have e2 : ∀ x, U x ↔ V x := fun x => ⟨h x, e x⟩
      rw [card_congr e2, card_congr (W := perp U) (V := perp V) fun y => ⟨fun hy x hx => hy x (e x hx), fun hy x hx => hy x (h x hx)⟩]
      exact Nat.le_refl _
    · obtain ⟨x, hx⟩ := Classical.not_forall.mp e
      obtain ⟨hxV, hxU⟩ := Classical.not_imp.mp hx
      have lt := card_lt (W := U) (V := ext U x) (ext_in x) (ext_self hU x) hxU
      have sub : ∀ z, ext U x z → V z := fun z ⟨w, i, hw, ez⟩ => by
        rw [ez]
        exact hV.add _ _ (h w hw) (hV.smul _ _ hxV)
      have le := card_mono sub
      cases m with
      | zero => omega
      | succ m => exact Nat.le_trans (step hU x) (grow hV m (ext U x) (ext_sub hU x) sub (by omega))
theorem zero_sub : A.Sub fun x => x = A.zero := ⟨rfl, fun x y hx hy => by rw [hx, hy, A.add_zero], fun n x hx => by rw [hx, smul_zero]⟩
theorem full_sub : A.Sub fun _ => True := ⟨trivial, fun _ _ _ _ => trivial, fun _ _ _ => trivial⟩
theorem card_zero : A.card (fun x => x = A.zero) = 1 := by
  have h1 : A.card (fun x => x = A.zero) ≤ [A.zero].length := List.Nodup.length_le_of_subset lis_nodup fun x hx => by
    rw [mem_lis.mp hx]
    exact List.mem_cons_self
  have := (zero_sub (A := A)).pos
  simp at h1
  omega
theorem card_full : A.card (fun _ => True) = A.els.length := by
  exact congrArg List.length (List.filter_eq_self.mpr fun _ _ => by simp)
theorem order (hW : A.Sub W) : A.card W * A.card (perp W) = A.els.length := by
  have h1 := grow hW (A.card W) _ zero_sub (fun x hx => by rw [hx]; exact hW.zero) (by omega)
  have h2 := grow full_sub (A.card fun _ : A.G => True) W hW (fun _ _ => trivial) (by omega)
  rw [card_zero, card_congr (W := perp fun x => x = A.zero) (V := fun _ => True) fun y => ⟨fun _ => trivial, fun _ x hx => by rw [hx]; exact b_zero y⟩, card_full, Nat.one_mul] at h1
  rw [card_full, card_congr (W := perp fun _ => True) (V := fun x => x = A.zero) fun y => ⟨fun hy => A.nondeg y fun x => by rw [A.b_symm]; exact hy x trivial, fun hy x _ => by
    rw [hy, A.b_symm]
    exact b_zero x⟩, card_zero, Nat.mul_one] at h2
  omega
theorem perp_perp (hW : A.Sub W) (x : A.G) : perp (perp W) x ↔ W x := by
  have sub : ∀ x, W x → perp (perp W) x := fun x hx y hy => by
    rw [A.b_symm]
    exact hy x hx
  refine ⟨fun h => eq_of_card sub ?_ x h, sub x⟩
  have h1 := order hW
  have h2 := order (perp_sub W)
  have p := (perp_sub W).pos
  rw [← h1, Nat.mul_comm (A.card W)] at h2
  exact Nat.le_of_eq (Nat.eq_of_mul_eq_mul_left p h2)
/-! ### q times -/
theorem rest (hW : A.Sub W) (q : Int) : A.card (fun x => W (A.smul q x)) = A.card W * A.card fun y => perp W y ∧ A.smul q y = A.zero := by
  let Q : A.G → Prop := fun z => ∃ u, perp W u ∧ z = A.smul q u
  have hU := perp_sub W
  have hQ : A.Sub Q := ⟨⟨A.zero, hU.zero, (smul_zero q).symm⟩, fun y z ⟨u, hu, e⟩ ⟨v, hv, e2⟩ => ⟨A.add u v, hU.add _ _ hu hv, by rw [e, e2, A.smul_add]⟩, fun n y ⟨u, hu, e⟩ => ⟨A.smul n u, hU.smul _ _ hu, by rw [e, ← A.mul_smul, ← A.mul_smul, Int.mul_comm]⟩⟩
  have hperp : ∀ x, perp Q x ↔ W (A.smul q x) := fun x => by
    rw [← perp_perp hW]
    constructor
    · intro h u hu
      have h1 := h _ ⟨u, hu, rfl⟩
      have h2 := (dvd_of_sub (A.b_smul q u x)).mp h1
      rw [A.b_symm]
      refine (dvd_of_sub (A.b_smul q x u)).mpr ?_
      rw [A.b_symm x u]
      exact h2
    · rintro h z ⟨u, hu, rfl⟩
      have h1 := h u hu
      rw [A.b_symm] at h1
      have h2 := (dvd_of_sub (A.b_smul q x u)).mp h1
      refine (dvd_of_sub (A.b_smul q u x)).mpr ?_
      rw [A.b_symm u x]
      exact h2
  have hV : A.Sub fun x => W (A.smul q x) := ⟨by rw [smul_zero]; exact hW.zero, fun x y hx hy => by rw [A.smul_add]; exact hW.add _ _ hx hy, fun n x hx => by
    rw [← A.mul_smul, Int.mul_comm, A.mul_smul]
    exact hW.smul _ _ hx⟩
  have o1 := order hQ
  rw [card_congr hperp] at o1
  have o2 := order hW
  have fib : A.card (perp W) = A.card Q * A.card fun y => perp W y ∧ A.smul q y = A.zero := by
    refine fibre_eq (A.card fun y => perp W y ∧ A.smul q y = A.zero) (fun y => A.smul q y) (A.lis Q) (A.lis (perp W)) lis_nodup (fun y hy => mem_lis.mpr ⟨y, mem_lis.mp hy, rfl⟩) fun z hz => ?_
    obtain ⟨u, hu, ez⟩ := mem_lis.mp hz
    have e : ((A.lis (perp W)).filter fun y => decide (A.smul q y = z)).length = A.card fun y => perp W y ∧ A.smul q y = z := by
      unfold card lis
      rw [List.filter_filter]
      refine congrArg List.length (List.filter_congr fun y _ => ?_)
      by_cases h1 : perp W y
      · by_cases h2 : A.smul q y = z
        · simp [h1, h2]
        · simp [h1, h2]
      · simp [h1]
    rw [e]
    refine Nat.le_antisymm (card_le (fun y => A.add y (neg u)) (fun y ⟨h1, h2⟩ => ⟨hU.add _ _ h1 (hU.neg hu), ?_⟩) fun x y _ _ e => cancel e) (card_le (fun y => A.add y u) (fun y ⟨h1, h2⟩ => ⟨hU.add _ _ h1 hu, ?_⟩) fun x y _ _ e => cancel e)
    · rw [A.smul_add, h2, ez]
      unfold neg
      rw [← A.mul_smul, Int.mul_comm, A.mul_smul]
      exact add_neg _
    · rw [A.smul_add, h2, ez, zero_add]
  rw [fib, ← o1] at o2
  have p := hQ.pos
  refine Nat.eq_of_mul_eq_mul_left p ?_
  rw [← o2, Nat.mul_left_comm]
end Ab
end K82
/-! The algebra of rows: sums and multiples modulo. -/
namespace K82
theorem mul_emod_r (a b m : Int) : a * (b % m) % m = a * b % m := by rw [Int.mul_emod, Int.emod_emod, ← Int.mul_emod]
theorem row_ext {x y : List Int} {n : Nat} (hx : x.length = n) (hy : y.length = n) (h : ∀ k, k < n → x.getD k 0 = y.getD k 0) : x = y := by
  refine List.ext_getElem (by omega) fun k h1 h2 => ?_
  have := h k (by omega)
  rw [List.getD_eq_getElem?_getD, List.getElem?_eq_getElem h1, List.getD_eq_getElem?_getD, List.getElem?_eq_getElem h2] at this
  exact this
theorem getD_pos {ms : List Int} (hm : ∀ m ∈ ms, 0 < m) {k : Nat} (hk : k < ms.length) : 0 < ms.getD k 0 := hm _ (getD_mem hk)
theorem nought_len {ms : List Int} : (noughtR ms).length = ms.length := by simp [noughtR]
theorem nought_get {ms : List Int} {k : Nat} : (noughtR ms).getD k 0 = 0 := by
  unfold noughtR
  rw [List.getD_eq_getElem?_getD, List.getElem?_map]
  cases ms[k]? <;> rfl
section
variable {ms : List Int} (hm : ∀ m ∈ ms, 0 < m)
theorem in_len {x : List Int} (h : x ∈ memb ms) : x.length = ms.length := (mem_memb.mp h).1
theorem in_red {x : List Int} (h : x ∈ memb ms) {k : Nat} (hk : k < ms.length) : x.getD k 0 % ms.getD k 0 = x.getD k 0 := by
  obtain ⟨h1, h2⟩ := (mem_memb.mp h).2 k hk
  exact Int.emod_eq_of_lt h1 h2
include hm
theorem in_plus {x y : List Int} (hx : x.length = ms.length) (hy : y.length = ms.length) : plusR ms x y ∈ memb ms := mem_memb.mpr ⟨plusR_len hx hy, fun k hk => by
  rw [plusR_get k hx hy hk]
  have := getD_pos hm hk
  exact ⟨Int.emod_nonneg _ (by omega), Int.emod_lt_of_pos _ this⟩⟩
theorem in_times {x : List Int} {n : Int} (hx : x.length = ms.length) : timesR ms n x ∈ memb ms := mem_memb.mpr ⟨timesR_len hx, fun k hk => by
  rw [timesR_get k hx hk]
  have := getD_pos hm hk
  exact ⟨Int.emod_nonneg _ (by omega), Int.emod_lt_of_pos _ this⟩⟩
theorem in_nought : noughtR ms ∈ memb ms := mem_memb.mpr ⟨nought_len, fun k hk => by
  rw [nought_get]
  exact ⟨Int.le_refl _, getD_pos hm hk⟩⟩
omit hm
theorem plus_comm {x y : List Int} (hx : x.length = ms.length) (hy : y.length = ms.length) : plusR ms x y = plusR ms y x :=
  row_ext (plusR_len hx hy) (plusR_len hy hx) fun k hk => by rw [plusR_get k hx hy hk, plusR_get k hy hx hk, Int.add_comm]
theorem plus_assoc {x y z : List Int} (hx : x.length = ms.length) (hy : y.length = ms.length) (hz : z.length = ms.length) : plusR ms (plusR ms x y) z = plusR ms x (plusR ms y z) :=
  row_ext (plusR_len (plusR_len hx hy) hz) (plusR_len hx (plusR_len hy hz)) fun k hk => by
    rw [plusR_get k (plusR_len hx hy) hz hk, plusR_get k hx hy hk, plusR_get k hx (plusR_len hy hz) hk, plusR_get k hy hz hk, Int.emod_add_emod, Int.add_emod_emod, Int.add_assoc]
theorem plus_nought {x : List Int} (h : x ∈ memb ms) : plusR ms x (noughtR ms) = x :=
  row_ext (plusR_len (in_len h) nought_len) (in_len h) fun k hk => by rw [plusR_get k (in_len h) nought_len hk, nought_get, Int.add_zero, in_red h hk]
theorem times_add {x : List Int} {a b : Int} (hx : x.length = ms.length) : plusR ms (timesR ms a x) (timesR ms b x) = timesR ms (a + b) x :=
  row_ext (plusR_len (timesR_len hx) (timesR_len hx)) (timesR_len hx) fun k hk => by
    rw [plusR_get k (timesR_len hx) (timesR_len hx) hk, timesR_get k hx hk, timesR_get k hx hk, timesR_get k hx hk, Int.emod_add_emod, Int.add_emod_emod, Int.add_mul]
theorem times_one {x : List Int} (h : x ∈ memb ms) : timesR ms 1 x = x :=
  row_ext (timesR_len (in_len h)) (in_len h) fun k hk => by rw [timesR_get k (in_len h) hk, Int.one_mul, in_red h hk]
theorem times_zero {x : List Int} (hx : x.length = ms.length) : timesR ms 0 x = noughtR ms :=
  row_ext (timesR_len hx) nought_len fun k hk => by rw [timesR_get k hx hk, Int.zero_mul, nought_get, Int.zero_emod]
theorem times_plus {x y : List Int} {n : Int} (hx : x.length = ms.length) (hy : y.length = ms.length) : timesR ms n (plusR ms x y) = plusR ms (timesR ms n x) (timesR ms n y) :=
  row_ext (timesR_len (plusR_len hx hy)) (plusR_len (timesR_len hx) (timesR_len hy)) fun k hk => by
    rw [timesR_get k (plusR_len hx hy) hk, plusR_get k hx hy hk, plusR_get k (timesR_len hx) (timesR_len hy) hk, timesR_get k hx hk, timesR_get k hy hk, Int.emod_add_emod, Int.add_emod_emod, mul_emod_r, Int.mul_add]
theorem times_mul {x : List Int} {a b : Int} (hx : x.length = ms.length) : timesR ms (a * b) x = timesR ms a (timesR ms b x) :=
  row_ext (timesR_len hx) (timesR_len (timesR_len hx)) fun k hk => by
    rw [timesR_get k hx hk, timesR_get k (timesR_len hx) hk, timesR_get k hx hk, mul_emod_r, Int.mul_assoc]
theorem times_nought {n : Int} : timesR ms n (noughtR ms) = noughtR ms :=
  row_ext (timesR_len nought_len) nought_len fun k hk => by rw [timesR_get k nought_len hk, nought_get, Int.mul_zero, Int.zero_emod]
/-- x + z = y + z gives x = y -/
theorem plus_cancel {x y z : List Int} (hx : x ∈ memb ms) (hy : y ∈ memb ms) (hz : z ∈ memb ms) (h : plusR ms x z = plusR ms y z) : x = y := by
  have lx := in_len hx
  have ly := in_len hy
  have lz := in_len hz
  have e : ∀ w : List Int, w ∈ memb ms → plusR ms (plusR ms w z) (timesR ms (-1) z) = w := fun w hw => by
    have h1 : plusR ms z (timesR ms (-1) z) = noughtR ms := by
      have := times_add (ms := ms) (x := z) (a := 1) (b := -1) lz
      rw [times_one hz] at this
      rw [this]
      exact times_zero lz
    rw [plus_assoc (in_len hw) lz (timesR_len lz), h1, plus_nought hw]
  rw [← e x hx, h, e y hy]
end
end K82
/-! Closing a set of rows under sums, one generator after another. -/
namespace K82
/-- a subgroup, told by a list without repeats -/
structure SubS (ms : List Int) (F : List (List Int)) : Prop where
  zero : noughtR ms ∈ F
  add : ∀ x ∈ F, ∀ y ∈ F, plusR ms x y ∈ F
  sub : ∀ x ∈ F, x ∈ memb ms
  nodup : F.Nodup
/-- N is an exponent of the room -/
def Expo (ms : List Int) (N : Nat) : Prop := 1 ≤ N ∧ ∀ x ∈ memb ms, timesR ms (N : Int) x = noughtR ms
section
variable {ms : List Int} {N : Nat} {F base : List (List Int)} {row : List Int}
theorem SubS.times (h : SubS ms F) {x : List Int} (hx : x ∈ F) : ∀ n : Nat, timesR ms (n : Int) x ∈ F
  | 0 => by
    rw [show ((0 : Nat) : Int) = 0 from rfl, times_zero (in_len (h.sub x hx))]
    exact h.zero
  | n + 1 => by
    have e := times_add (ms := ms) (x := x) (a := (n : Int)) (b := 1) (in_len (h.sub x hx))
    rw [times_one (h.sub x hx)] at e
    rw [show ((n + 1 : Nat) : Int) = (n : Int) + 1 by omega, ← e]
    exact h.add _ (h.times hx n) _ hx
theorem nought_plus (hm : ∀ m ∈ ms, 0 < m) {x : List Int} (h : x ∈ memb ms) : plusR ms (noughtR ms) x = x := by
  rw [plus_comm nought_len (in_len h), plus_nought h]
theorem SubS.neg (hm : ∀ m ∈ ms, 0 < m) (hN : Expo ms N) (h : SubS ms F) {x : List Int} (hx : x ∈ F) : timesR ms (-1) x ∈ F := by
  have hxm := h.sub x hx
  have lx := in_len hxm
  have e := times_add (ms := ms) (x := x) (a := (N : Int)) (b := -1) lx
  rw [hN.2 x hxm, nought_plus hm (in_times hm lx)] at e
  rw [e, show (N : Int) + -1 = ((N - 1 : Nat) : Int) by have := hN.1; omega]
  exact h.times hx _
theorem neg_plus (hm : ∀ m ∈ ms, 0 < m) {x : List Int} (h : x ∈ memb ms) : plusR ms (timesR ms (-1) x) x = noughtR ms := by
  have e := times_add (ms := ms) (x := x) (a := -1) (b := 1) (in_len h)
  rw [times_one h] at e
  rw [e]
  exact times_zero (in_len h)
def cos (ms : List Int) (base : List (List Int)) (row : List Int) (j : Nat) : List (List Int) := base.map fun b => plusR ms b (timesR ms (j : Int) row)
def foundAt (ms : List Int) (base : List (List Int)) (row : List Int) (k : Nat) : List (List Int) := (List.range k).flatMap (cos ms base row)
theorem mem_found {k : Nat} {x : List Int} : x ∈ foundAt ms base row k ↔ ∃ j, j < k ∧ ∃ b ∈ base, x = plusR ms b (timesR ms (j : Int) row) := by
  unfold foundAt cos
  rw [List.mem_flatMap]
  constructor
  · rintro ⟨j, hj, hx⟩
    obtain ⟨b, hb, rfl⟩ := List.mem_map.mp hx
    exact ⟨j, List.mem_range.mp hj, b, hb, rfl⟩
  · rintro ⟨j, hj, b, hb, rfl⟩
    exact ⟨j, List.mem_range.mpr hj, List.mem_map.mpr ⟨b, hb, rfl⟩⟩
theorem cos_zero (h : SubS ms base) (hr : row.length = ms.length) : cos ms base row 0 = base := by
  unfold cos
  conv => rhs; rw [← List.map_id base]
  refine List.map_congr_left fun b hb => ?_
  rw [show ((0 : Nat) : Int) = 0 from rfl, times_zero hr, plus_nought (h.sub b hb)]
  rfl
theorem found_one (h : SubS ms base) (hr : row.length = ms.length) : foundAt ms base row 1 = base := by
  unfold foundAt
  rw [List.range_one, List.flatMap_singleton, cos_zero h hr]
theorem found_succ {k : Nat} : foundAt ms base row (k + 1) = foundAt ms base row k ++ cos ms base row k := by
  unfold foundAt
  rw [List.range_succ, List.flatMap_append, List.flatMap_singleton]
structure CInv (ms : List Int) (base : List (List Int)) (row : List Int) (k : Nat) : Prop where
  one : 1 ≤ k
  nodup : (foundAt ms base row k).Nodup
  out : ∀ i : Nat, 1 ≤ i → i < k → timesR ms (i : Int) row ∉ base
theorem cinv_one (h : SubS ms base) (hr : row.length = ms.length) : CInv ms base row 1 := ⟨Nat.le_refl _, by rw [found_one h hr]; exact h.nodup, fun i h1 h2 => by omega⟩
/-- b + k row = b' + j row puts (k - j) row into the base -/
theorem diff_in (hm : ∀ m ∈ ms, 0 < m) (hN : Expo ms N) (h : SubS ms base) (hr : row ∈ memb ms) {j k : Nat} (hjk : j ≤ k) {b b' : List Int} (hb : b ∈ base) (hb' : b' ∈ base) (e : plusR ms b (timesR ms (k : Int) row) = plusR ms b' (timesR ms (j : Int) row)) : timesR ms ((k - j : Nat) : Int) row ∈ base := by
  have lr := in_len hr
  have lb := in_len (h.sub b hb)
  have lb' := in_len (h.sub b' hb')
  have e1 : plusR ms (plusR ms b (timesR ms (k : Int) row)) (timesR ms (-(j : Int)) row) = plusR ms b (timesR ms ((k - j : Nat) : Int) row) := by
    rw [plus_assoc lb (timesR_len lr) (timesR_len lr), times_add lr, show (k : Int) + -(j : Int) = ((k - j : Nat) : Int) by omega]
  have e2 : plusR ms (plusR ms b' (timesR ms (j : Int) row)) (timesR ms (-(j : Int)) row) = b' := by
    rw [plus_assoc lb' (timesR_len lr) (timesR_len lr), times_add lr, show (j : Int) + -(j : Int) = 0 by omega, times_zero lr, plus_nought (h.sub b' hb')]
  rw [e, e2] at e1
  have hd : timesR ms ((k - j : Nat) : Int) row ∈ memb ms := in_times hm lr
  have e3 : plusR ms (timesR ms (-1) b) b' = timesR ms ((k - j : Nat) : Int) row := by
    rw [e1, ← plus_assoc (timesR_len lb) lb (timesR_len lr), neg_plus hm (h.sub b hb), nought_plus hm hd]
  rw [← e3]
  exact h.add _ (h.neg hm hN hb) _ hb'
theorem cos_nodup (hm : ∀ m ∈ ms, 0 < m) (h : SubS ms base) (hr : row ∈ memb ms) (k : Nat) : (cos ms base row k).Nodup := by
  unfold cos
  have inj : ∀ l : List (List Int), (∀ x ∈ l, x ∈ memb ms) → l.Nodup → (l.map fun b => plusR ms b (timesR ms (k : Int) row)).Nodup := fun l => by
    induction l with
    | nil => intro _ _; exact List.nodup_nil
    | cons a l ih =>
      intro h1 h2
      rw [List.nodup_cons] at h2
      rw [List.map_cons, List.nodup_cons]
      refine ⟨fun hmem => ?_, ih (fun x hx => h1 x (List.mem_cons_of_mem _ hx)) h2.2⟩
      obtain ⟨c, hc, e⟩ := List.mem_map.mp hmem
      have := plus_cancel (h1 c (List.mem_cons_of_mem _ hc)) (h1 a List.mem_cons_self) (in_times hm (in_len hr)) e
      rw [this] at hc
      exact h2.1 hc
  exact inj base h.sub h.nodup
theorem cinv_succ (hm : ∀ m ∈ ms, 0 < m) (hN : Expo ms N) (h : SubS ms base) (hr : row ∈ memb ms) {k : Nat} (c : CInv ms base row k) (hk : timesR ms (k : Int) row ∉ foundAt ms base row k) : CInv ms base row (k + 1) := by
  have hkb : timesR ms (k : Int) row ∉ base := fun hb => hk (mem_found.mpr ⟨0, c.one, _, hb, by
    rw [show ((0 : Nat) : Int) = 0 from rfl, times_zero (in_len hr), plus_nought (h.sub _ hb)]⟩)
  have out : ∀ i : Nat, 1 ≤ i → i < k + 1 → timesR ms (i : Int) row ∉ base := fun i h1 h2 => by
    by_cases e : i = k
    · rw [e]
      exact hkb
    · exact c.out i h1 (by omega)
  refine ⟨by omega, ?_, out⟩
  rw [found_succ, List.nodup_append]
  refine ⟨c.nodup, cos_nodup hm h hr k, fun x hx y hy e => ?_⟩
  subst e
  obtain ⟨j, hj, b', hb', e1⟩ := mem_found.mp hx
  obtain ⟨b, hb, e2⟩ := List.mem_map.mp hy
  exact out (k - j) (by omega) (by omega) (diff_in hm hN h hr (by omega) hb hb' (e2.trans e1))
theorem found_in (hm : ∀ m ∈ ms, 0 < m) (h : SubS ms base) (hr : row ∈ memb ms) {k : Nat} : ∀ x ∈ foundAt ms base row k, x ∈ memb ms := fun x hx => by
  obtain ⟨j, _, b, hb, rfl⟩ := mem_found.mp hx
  exact in_plus hm (in_len (h.sub b hb)) (timesR_len (in_len hr))
theorem cinv_done (hm : ∀ m ∈ ms, 0 < m) (hN : Expo ms N) (h : SubS ms base) (hr : row ∈ memb ms) {k : Nat} (c : CInv ms base row k) (hk : timesR ms (k : Int) row ∈ foundAt ms base row k) : timesR ms (k : Int) row ∈ base ∧ SubS ms (foundAt ms base row k) := by
  have lr := in_len hr
  have hkb : timesR ms (k : Int) row ∈ base := by
    obtain ⟨j, hj, b, hb, e⟩ := mem_found.mp hk
    have hd := diff_in (b := noughtR ms) (b' := b) hm hN h hr (Nat.le_of_lt hj) h.zero hb (by rw [nought_plus hm (in_times hm lr)]; exact e)
    by_cases e0 : j = 0
    · rw [e0] at hd
      exact hd
    · exact absurd hd (c.out (k - j) (by omega) (by omega))
  refine ⟨hkb, mem_found.mpr ⟨0, c.one, _, h.zero, by rw [show ((0 : Nat) : Int) = 0 from rfl, times_zero lr, plus_nought (in_nought hm)]⟩, fun x hx y hy => ?_, found_in hm h hr, c.nodup⟩
  obtain ⟨i, hi, a, ha, rfl⟩ := mem_found.mp hx
  obtain ⟨j, hj, b, hb, rfl⟩ := mem_found.mp hy
  have la := in_len (h.sub a ha)
  have lb := in_len (h.sub b hb)
  have li : (timesR ms (i : Int) row).length = ms.length := timesR_len lr
  have lj : (timesR ms (j : Int) row).length = ms.length := timesR_len lr
  have e : plusR ms (plusR ms a (timesR ms (i : Int) row)) (plusR ms b (timesR ms (j : Int) row)) = plusR ms (plusR ms a b) (timesR ms ((i + j : Nat) : Int) row) := by
    rw [plus_assoc la li (plusR_len lb lj), ← plus_assoc li lb lj, plus_comm li lb, plus_assoc lb li lj, times_add lr, ← plus_assoc la lb (timesR_len lr), show ((i : Int) + (j : Int)) = ((i + j : Nat) : Int) by omega]
  rw [e]
  by_cases hij : i + j < k
  · exact mem_found.mpr ⟨i + j, hij, _, h.add a ha b hb, rfl⟩
  · refine mem_found.mpr ⟨i + j - k, by omega, plusR ms (plusR ms a b) (timesR ms (k : Int) row), h.add _ (h.add a ha b hb) _ hkb, ?_⟩
    rw [plus_assoc (plusR_len la lb) (timesR_len lr) (timesR_len lr), times_add lr, show (k : Int) + ((i + j - k : Nat) : Int) = ((i + j : Nat) : Int) by omega]
theorem cinv_le (hN : Expo ms N) (h : SubS ms base) (hr : row ∈ memb ms) {k : Nat} (c : CInv ms base row k) : k ≤ N := by
  rcases Nat.lt_or_ge N k with hlt | hge
  · refine absurd ?_ (c.out N hN.1 hlt)
    rw [hN.2 row hr]
    exact h.zero
  · exact hge
theorem found_min (h : SubS ms base) (hr : row ∈ memb ms) {k : Nat} {M : List (List Int)} (hM : SubS ms M) (h1 : ∀ x ∈ base, x ∈ M) (h2 : row ∈ M) : ∀ x ∈ foundAt ms base row k, x ∈ M := fun x hx => by
  obtain ⟨j, _, b, hb, rfl⟩ := mem_found.mp hx
  exact hM.add _ (h1 b hb) _ (hM.times h2 j)
theorem found_base (h : SubS ms base) (hr : row ∈ memb ms) {k : Nat} (c : CInv ms base row k) : ∀ x ∈ base, x ∈ foundAt ms base row k := fun x hx => mem_found.mpr ⟨0, c.one, x, hx, by
  rw [show ((0 : Nat) : Int) = 0 from rfl, times_zero (in_len hr), plus_nought (h.sub x hx)]⟩
theorem SubS.zero_ok (hm : ∀ m ∈ ms, 0 < m) : SubS ms [noughtR ms] := ⟨List.mem_singleton.mpr rfl, fun x hx y hy => by
  rw [List.mem_singleton.mp hx, List.mem_singleton.mp hy, plus_nought (in_nought hm)]
  exact List.mem_singleton.mpr rfl, fun x hx => by
  rw [List.mem_singleton.mp hx]
  exact in_nought hm, List.nodup_cons.mpr ⟨by simp, List.nodup_nil⟩⟩
end
end K82
/-! Members in order; the closure as one list. -/
namespace K82
theorem lexLe_iff {x y : List Int} : lexLe x y = true ↔ x ≤ y := by simp [lexLe]
theorem sortR_sorted (l : List (List Int)) : (sortR l).Pairwise fun x y => lexLe x y = true := by
  unfold sortR
  refine List.pairwise_mergeSort (fun a b c h1 h2 => ?_) (fun a b => ?_) l
  · rw [lexLe_iff] at *
    exact List.le_trans h1 h2
  · rw [Bool.or_eq_true, lexLe_iff, lexLe_iff]
    exact List.le_total a b
theorem sorted_uniq {l m : List (List Int)} (h1 : l.Pairwise fun x y => lexLe x y = true) (h2 : m.Pairwise fun x y => lexLe x y = true) (p : l.Perm m) : l = m :=
  List.Perm.eq_of_pairwise (fun a b _ _ x y => List.le_antisymm (lexLe_iff.mp x) (lexLe_iff.mp y)) h1 h2 p
theorem snoc_lt : ∀ {r s : List Int} (a b : List Int), r.length = s.length → r < s → r ++ a < s ++ b
  | [], [], _, _, _, h => absurd h (List.lt_irrefl _)
  | x :: r, y :: s, a, b, hl, h => by
    rw [List.cons_append, List.cons_append, List.cons_lt_cons_iff]
    rcases List.cons_lt_cons_iff.mp h with h1 | ⟨e, h1⟩
    · exact .inl h1
    · exact .inr ⟨e, snoc_lt a b (by simpa using hl) h1⟩
  | [], _ :: _, _, _, hl, _ => by simp at hl
  | _ :: _, [], _, _, hl, _ => by simp at hl
theorem pre_lt : ∀ (r : List Int) {a b : List Int}, a < b → r ++ a < r ++ b
  | [], _, _, h => h
  | x :: r, _, _, h => by
    rw [List.cons_append, List.cons_append, List.cons_lt_cons_iff]
    exact .inr ⟨rfl, pre_lt r h⟩
theorem membStep_sorted {rows : List (List Int)} {k : Nat} (m : Int) (hl : ∀ r ∈ rows, r.length = k) (h : rows.Pairwise (· < ·)) : (membStep rows m).Pairwise (· < ·) := by
  unfold membStep
  induction rows with
  | nil => exact List.Pairwise.nil
  | cons r rows ih =>
    rw [List.flatMap_cons, List.pairwise_append]
    rw [List.pairwise_cons] at h
    refine ⟨?_, ih (fun x hx => hl x (List.mem_cons_of_mem _ hx)) h.2, fun a ha b hb => ?_⟩
    · rw [List.pairwise_map]
      refine List.pairwise_lt_range.imp fun {a b} hab => pre_lt r ?_
      rw [List.cons_lt_cons_iff]
      exact .inl (by omega)
    · obtain ⟨n, _, rfl⟩ := List.mem_map.mp ha
      obtain ⟨s, hs, hb⟩ := List.mem_flatMap.mp hb
      obtain ⟨n', _, rfl⟩ := List.mem_map.mp hb
      exact snoc_lt _ _ ((hl r List.mem_cons_self).trans (hl s (List.mem_cons_of_mem _ hs)).symm) (h.1 s hs)
theorem foldl_sorted : ∀ (ms : List Int) (rows : List (List Int)) (k : Nat), (∀ r ∈ rows, r.length = k) → rows.Pairwise (· < ·) → (ms.foldl membStep rows).Pairwise (· < ·)
  | [], _, _, _, h => h
  | m :: ms, rows, k, hl, h => by
    rw [List.foldl_cons]
    refine foldl_sorted ms (membStep rows m) (k + 1) (fun x hx => ?_) (membStep_sorted m hl h)
    obtain ⟨r, hr, n, _, rfl⟩ := mem_membStep.mp hx
    rw [List.length_append, hl r hr] <;> rfl
theorem memb_sorted (ms : List Int) : (memb ms).Pairwise (· < ·) := foldl_sorted ms [[]] 0 (fun r hr => by
  rw [List.mem_singleton.mp hr] <;> rfl) (List.pairwise_singleton _ _)
theorem memb_nodup (ms : List Int) : (memb ms).Nodup := (memb_sorted ms).imp fun {a b} h e => by
  subst e
  exact List.lt_irrefl _ h
theorem memb_le (ms : List Int) : (memb ms).Pairwise fun x y => lexLe x y = true := (memb_sorted ms).imp fun {a b} h => lexLe_iff.mpr (List.le_of_lt h)
/-- members of F, in order -/
def canon (ms : List Int) (F : List (List Int)) : List (List Int) := (memb ms).filter fun x => decide (x ∈ F)
theorem mem_canon {ms : List Int} {F : List (List Int)} {x : List Int} : x ∈ canon ms F ↔ x ∈ memb ms ∧ x ∈ F := by
  unfold canon
  rw [List.mem_filter, decide_eq_true_eq]
theorem canon_nodup (ms : List Int) (F : List (List Int)) : (canon ms F).Nodup := (memb_nodup ms).sublist List.filter_sublist
theorem sort_canon {ms : List Int} {F : List (List Int)} (hn : F.Nodup) (hs : ∀ x ∈ F, x ∈ memb ms) : sortR F = canon ms F := by
  refine sorted_uniq (sortR_sorted F) ((memb_le ms).sublist List.filter_sublist) ?_
  refine (List.mergeSort_perm F lexLe).trans ((List.perm_ext_iff_of_nodup hn (canon_nodup ms F)).mpr fun x => ?_)
  show x ∈ F ↔ x ∈ canon ms F
  rw [mem_canon]
  exact ⟨fun h => ⟨hs x h, h⟩, fun h => h.2⟩
theorem canon_congr {ms : List Int} {F F' : List (List Int)} (h : ∀ x ∈ memb ms, x ∈ F ↔ x ∈ F') : canon ms F = canon ms F' := by
  unfold canon
  refine List.filter_congr fun x hx => ?_
  simp only [h x hx]
theorem canon_canon (ms : List Int) (F : List (List Int)) : canon ms (canon ms F) = canon ms F := canon_congr fun x hx => by
  rw [mem_canon]
  exact ⟨fun h => h.2, fun h => ⟨hx, h⟩⟩
open Classical in
/-- the least subgroup with the rows -/
noncomputable def closeR (ms : List Int) (rows : List (List Int)) : List (List Int) := (memb ms).filter fun x => decide (∀ M, SubS ms M → (∀ r ∈ rows, r ∈ M) → x ∈ M)
theorem close_eq {ms : List Int} {rows F : List (List Int)} (h : SubS ms F) (h1 : ∀ r ∈ rows, r ∈ F) (h2 : ∀ M, SubS ms M → (∀ r ∈ rows, r ∈ M) → ∀ x ∈ F, x ∈ M) : closeR ms rows = canon ms F := by
  unfold closeR canon
  refine List.filter_congr fun x hx => ?_
  have e : (∀ M, SubS ms M → (∀ r ∈ rows, r ∈ M) → x ∈ M) ↔ x ∈ F := ⟨fun k => k F h h1, fun k M hM hr => h2 M hM hr x k⟩
  simp only [e]
/-- a subgroup in order -/
def SubL (ms : List Int) (W : List (List Int)) : Prop := SubS ms W ∧ W = canon ms W
theorem SubS.canon {ms : List Int} {F : List (List Int)} (h : SubS ms F) : SubL ms (canon ms F) := by
  have e : ∀ x, x ∈ K82.canon ms F ↔ x ∈ F := fun x => by
    rw [mem_canon]
    exact ⟨fun h => h.2, fun k => ⟨h.sub x k, k⟩⟩
  exact ⟨⟨(e _).mpr h.zero, fun x hx y hy => (e _).mpr (h.add x ((e x).mp hx) y ((e y).mp hy)), fun x hx => h.sub x ((e x).mp hx), canon_nodup ms F⟩, (canon_canon ms F).symm⟩
theorem SubL.close {ms : List Int} {W : List (List Int)} (h : SubL ms W) : closeR ms W = W := (close_eq h.1 (fun _ k => k) fun M _ k => k).trans h.2.symm
theorem SubL.sort {ms : List Int} {W : List (List Int)} (h : SubL ms W) : sortR W = W := (sort_canon h.1.nodup h.1.sub).trans h.2.symm
/-- the exponent of a room -/
theorem expo_mods {p : Nat} {kind : List Nat} (hR : RoomOk p kind) : Expo (mods p kind) (p ^ kind.headD 0) := by
  have hp := hR.p2
  refine ⟨Nat.pow_pos (by omega), fun x hx => ?_⟩
  have lx := in_len hx
  refine row_ext (timesR_len lx) nought_len fun k hk => ?_
  have hk' : k < kind.length := by rw [mods_len] at hk; exact hk
  rw [timesR_get k lx hk, nought_get, mods_get hk', show kind.headD 0 = (kind.headD 0 - kind.getD k 0) + kind.getD k 0 by have := kind_le_head hR hk'; omega, Nat.pow_add, Int.natCast_mul, Int.mul_right_comm]
  exact Int.mul_emod_left _ _
end K82
namespace K82
open PySem PySem.Spec PyProof.Rows L2
section
variable {P : Program} {w : World} {K : PySem.W.Frag} {mg : Str → Option Value} {base : Heap} {f : Addr} {fd : FuncData}
/-! ### is_whole -/
abbrev sWhole : Stmt := topS 8
theorem scWhole : FnScope ["thing", "low", "high"] ["thing", "low", "high"] (defScope sWhole) := ⟨rfl, rfl, rfl, by decide +kernel, rfl, by decide +kernel, by decide +kernel⟩
def optD : Option Int → PyData
  | none => .none
  | some i => .int i
def wholeB (x : Int) (lo hi : Option Int) : Bool := (match lo with
  | none => true
  | some l => decide (l ≤ x)) && (match hi with
  | none => true
  | some h => decide (x ≤ h))
def prWhole : Pr := fun ts T => ∃ (x : Int) (lo hi : Option Int), ts = [.dat (.int x), .dat (optD lo), .dat (optD hi)] ∧ T = fun u => u = .dat (.bool (wholeB x lo hi))
theorem ok_whole (F : FunT K "is_whole" sWhole [.non, .non] f fd) (mi : mg "isinstance" = none) (mb : mg "bool" = none) (mt : mg "int" = none) : FnOk P w K mg base CX0 1 f fd ["thing", "low", "high"] (spD prWhole) := by
  refine def_ok F scWhole (fun ts T h => ?_) (fun cdv A outer s H E G ts T hr h => ?_)
  · obtain ⟨x, lo, hi, rfl, _⟩ := h
    rfl
  · obtain ⟨x, lo, hi, rfl, rfl⟩ := h
    refine sos_cons (so_ifE (k := false) (tv_or (k := false) (l := false) (tv_val (ev_isi (tn := "bool") (d := .int x) (ev_var 0) mi mb (by decide +kernel) (show kitB "int" "bool" = some false by decide +kernel))) fun _ => Tv.to (tv_not (tv_val (k := true) (ev_isi (tn := "int") (d := .int x) (ev_var 0) mi mt (by decide +kernel) (show kitB "int" "int" = some true by decide +kernel)))) rfl) (fun e => nomatch e) fun _ => sos_nil ?_)
    refine sos_cons (so_ifE (k := match lo with
      | none => false
      | some l => decide (x < l)) ?_ (fun hb => ?_) fun hb => sos_nil ?_)
    · cases lo with
      | none => exact Tv.to (tv_and (k := false) (l := true) (tv_notN (d := .none) (ev_var 1)) fun e => nomatch e) rfl
      | some l => exact Tv.to (tv_and (k := true) (tv_notN (d := .int l) (ev_var 1)) fun _ => tv_lt (ev_var 0) (ev_var 1)) rfl
    · cases lo with
      | none => exact nomatch hb
      | some l =>
        refine sos_cons (so_retE ev_bl (congrArg (fun b => Ty.dat (PyData.bool b)) ?_))
        have h1 : ¬ l ≤ x := by
          have := of_decide_eq_true hb
          omega
        simp [wholeB, h1]
    · have e : wholeB x lo hi = match hi with
        | none => true
        | some h => decide (x ≤ h) := by
        cases lo with
        | none => rfl
        | some l =>
          have h1 : l ≤ x := by
            have := of_decide_eq_false hb
            omega
          simp [wholeB, h1]
      refine sos_cons (so_retE (t := .dat (.bool (wholeB x lo hi))) ?_ rfl)
      rw [e]
      cases hi with
      | none => exact Ev.to (ev_or (k := true) (l := true) (ev_isN (d := .none) (ev_var 2)) fun e => nomatch e) rfl
      | some h => exact Ev.to (ev_or (k := false) (ev_isN (d := .int h) (ev_var 2)) fun _ => ev_le (ev_var 0) (ev_var 2)) rfl
/-! ### is_sequence -/
abbrev sSeq : Stmt := topS 9
theorem scSeq : FnScope ["thing"] ["thing"] (defScope sSeq) := ⟨rfl, rfl, rfl, by decide +kernel, rfl, by decide +kernel, by decide +kernel⟩
def prSeq : Pr := fun ts T => ∃ (k : Bool) (ds : List PyData), ts = [.dat (seqD k ds)] ∧ T = fun u => u = .dat (.bool true)
theorem ok_seq (F : FunT K "is_sequence" sSeq [] f fd) (mi : mg "isinstance" = none) (ml : mg "list" = none) (mt : mg "tuple" = none) : FnOk P w K mg base CX0 1 f fd ["thing"] (spD prSeq) := by
  refine def_ok F scSeq (fun ts T h => ?_) (fun cdv A outer s H E G ts T hr h => ?_)
  · obtain ⟨k, ds, rfl, _⟩ := h
    rfl
  · obtain ⟨k, ds, rfl, rfl⟩ := h
    refine sos_cons (so_retE (t := .dat (.bool true)) ?_ rfl)
    cases k with
    | true => exact Ev.to (ev_or (k := false) (l := true) (ev_isi (tn := "list") (d := .tuple ds) (ev_var 0) mi ml (by decide +kernel) (show kitB "tuple" "list" = some false by decide +kernel)) fun _ => ev_isi (tn := "tuple") (d := .tuple ds) (ev_var 0) mi mt (by decide +kernel) (show kitB "tuple" "tuple" = some true by decide +kernel)) rfl
    | false => exact Ev.to (ev_or (k := true) (l := true) (ev_isi (tn := "list") (d := .list ds) (ev_var 0) mi ml (by decide +kernel) (show kitB "list" "list" = some true by decide +kernel)) fun e => nomatch e) rfl
/-! ### prime_power -/
abbrev sPP : Stmt := topS 11
theorem scPP : FnScope ["prime", "exponent", "told", "square", "left"] ["prime", "exponent"] (defScope sPP) := ⟨rfl, rfl, rfl, by decide +kernel, rfl, by decide +kernel, by decide +kernel⟩
def prPP : Pr := fun ts T => ∃ (p e : Nat), ts = [.dat (.int p), .dat (.int e)] ∧ 1 ≤ p ∧ p ≤ 5 ∧ e ≤ 6 ∧ T = fun u => u = .dat (.int ((p ^ e : Nat) : Int))
theorem ok_pp (F : FunT K "prime_power" sPP [] f fd) : FnOk P w K mg base CX0 1 f fd ["prime", "exponent"] (spD prPP) := by
  refine def_ok F scPP (fun ts T h => ?_) (fun cdv A outer s H E G ts T hr h => ?_)
  · obtain ⟨p, e, rfl, _⟩ := h
    rfl
  · obtain ⟨p, e, rfl, hp1, hp5, he, rfl⟩ := h
    have hb : p ^ e ≤ 15625 := by
      have h1 : p ^ e ≤ 5 ^ e := Nat.pow_le_pow_left hp5 e
      have h2 : 5 ^ e ≤ 5 ^ 6 := Nat.pow_le_pow_right (by omega) he
      omega
    refine sos_cons (so_set 2 scPP.nd ev_int ?_)
    refine sos_cons (so_set 3 scPP.nd (ev_var 0) ?_)
    refine sos_cons (so_set 4 scPP.nd (ev_var 1) ?_)
    refine sos_cons (so_while (fun m A => ∃ told sq : Nat, 1 ≤ told ∧ 1 ≤ sq ∧ told * sq ^ m = p ^ e ∧ A = ⟨none, [some (.dat (.int p)), some (.dat (.int e)), some (.dat (.int (told : Int))), some (.dat (.int (sq : Int))), some (.dat (.int (m : Int)))], []⟩) e ⟨1, p, Nat.le_refl _, hp1, by rw [Nat.one_mul], rfl⟩ ?_)
    rintro m A' ⟨told, sq, h1, h2, h3, rfl⟩
    refine ⟨decide (0 < (m : Int)), tv_gt (ev_var 4) ev_int, fun hm => ?_, fun hm => ?_⟩
    · have hm : 0 < m := by
        have := of_decide_eq_true hm
        omega
      have hsq : sq ≤ 15625 := by
        have e1 : sq ^ 1 ≤ sq ^ m := Nat.pow_le_pow_right h2 hm
        have e2 : 1 * sq ^ m ≤ told * sq ^ m := Nat.mul_le_mul_right _ h1
        rw [Nat.pow_one] at e1
        rw [h3, Nat.one_mul] at e2
        omega
      have hsq2 : 1 ≤ sq * sq := Nat.mul_le_mul h2 h2
      have e4 : sq ^ m = (sq ^ (m % 2)) * (sq * sq) ^ (m / 2) := by
        rw [← Nat.pow_two, ← Nat.pow_mul, ← Nat.pow_add]
        congr 1
        omega
      refine sos_cons (so_conseq (fun A => ∃ t : Nat, 1 ≤ t ∧ t * (sq * sq) ^ (m / 2) = p ^ e ∧ A = ⟨none, [some (.dat (.int p)), some (.dat (.int e)), some (.dat (.int (t : Int))), some (.dat (.int (sq : Int))), some (.dat (.int (m : Int)))], []⟩)
        (so_ifE (tv_eq (ev_mod (ev_var 4) ev_int (by omega)) ev_int) (fun hb => ?_) fun hb => sos_nil ⟨told, h1, ?_, rfl⟩) ?_)
      · have hb : m % 2 = 1 := by
          have := of_decide_eq_true hb
          omega
        refine sos_cons (so_set 2 scPP.nd (Ev.to (ev_mul (ev_var 2) (ev_var 3) (.inr ⟨by omega, by omega⟩)) (by rw [← Int.natCast_mul])) (sos_nil ⟨told * sq, Nat.mul_le_mul h1 h2, ?_, rfl⟩))
        rw [← h3, e4, hb, Nat.pow_one, Nat.mul_assoc]
      · have hb : m % 2 = 0 := by
          have := of_decide_eq_false hb
          omega
        rw [← h3, e4, hb, Nat.pow_zero, Nat.one_mul]
      · rintro A' ⟨t, ht, he2, rfl⟩
        refine sos_cons (so_set 3 scPP.nd (Ev.to (ev_mul (ev_var 3) (ev_var 3) (.inr ⟨by omega, by omega⟩)) (by rw [← Int.natCast_mul])) ?_)
        refine sos_cons (so_set 4 scPP.nd (Ev.to (ev_fdiv (ev_var 4) ev_int ⟨by omega, by omega⟩) (t' := .int ((m / 2 : Nat) : Int)) (by rw [Int.natCast_ediv] <;> rfl)) (sos_nil ⟨m / 2, by omega, t, sq * sq, ht, hsq2, he2, rfl⟩))
    · have hm : m = 0 := by
        have := of_decide_eq_false hm
        omega
      subst hm
      refine sos_cons (so_retE (ev_var 2) ?_)
      rw [← h3, Nat.pow_zero, Nat.mul_one]
end
end K82
namespace K82
open PySem PySem.Spec PyProof.Rows L2
section
variable {P : Program} {w : World} {K : PySem.W.Frag} {mg : Str → Option Value} {base : Heap} {f : Addr} {fd : FuncData}
theorem hoNon2 (G : Hp) : HoAll G [V.non, V.non] [.dat .none, .dat .none] := .cons Da.non (.cons Da.non .nil)
theorem hoNon1 (G : Hp) : HoAll G [V.non] [.dat .none] := .cons Da.non .nil
/-! ### check_prime -/
abbrev sCP : Stmt := topS 10
theorem scCP : FnScope ["thing"] ["thing"] (defScope sCP) := ⟨rfl, rfl, rfl, by decide +kernel, rfl, by decide +kernel, by decide +kernel⟩
def prCP : Pr := fun ts T => ∃ (p : Nat), ts = [.dat (.int p)] ∧ (p = 2 ∨ p = 3 ∨ p = 5) ∧ T = fun u => u = .dat (.int p)
theorem ok_cp (F : FunT K "check_prime" sCP [] f fd) (hW : Fd P w K mg base "is_whole" 1 ["thing", "low", "high"] [.non, .non] (spD prWhole)) : FnOk P w K mg base CX0 2 f fd ["thing"] (spD prCP) := by
  refine def_ok F scCP (fun ts T h => ?_) (fun cdv A outer s H E G ts T hr h => ?_)
  · obtain ⟨p, rfl, _⟩ := h
    rfl
  · obtain ⟨p, rfl, hp, rfl⟩ := h
    refine sos_cons (so_ifE (k := false) (tv_or (k := false) (l := false) (Tv.to (tv_not (tv_val (k := true) (ep_callD hW hr (ea_cons (ev_var 0) ea_nil) (fun ts e => ⟨(p : Int), none, none, by rw [e] <;> rfl, rfl⟩) hoNon2))) rfl) fun _ => Tv.to (tv_notIn (ns := [2, 3, 5]) (ev_var 0) (ev_tup (ds := [.int 2, .int 3, .int 5]) (ea_cons ev_int (ea_cons ev_int (ea_cons ev_int ea_nil))) (by show 3 ≤ sizeLine; decide))) ?_) (fun e => nomatch e) fun _ => sos_nil (sos_cons (so_retE (ev_var 0) rfl)))
    rcases hp with rfl | rfl | rfl <;> rfl
/-! ### parts_fault, check_kind -/
abbrev sPF : Stmt := topS 13
theorem scPF : FnScope ["thing", "low", "part", "k"] ["thing", "low"] (defScope sPF) := ⟨rfl, rfl, rfl, by decide +kernel, rfl, by decide +kernel, by decide +kernel⟩
def prPF : Pr := fun ts T => ∃ (ns : List Nat), ts = [.dat (nT ns), .dat (.int 1)] ∧ (∀ n ∈ ns, 1 ≤ n) ∧ ns.Pairwise (· ≥ ·) ∧ ns.length ≤ 4 ∧ T = fun u => u = .dat .none
theorem nat_at {ns : List Nat} {k : Nat} (h : k < ns.length) : atI (ns.map fun (n : Nat) => PyData.int (n : Int)) (k : Int) = some (.int ((ns.getD k 0 : Nat) : Int)) := at_map (by rw [List.getD_eq_getElem?_getD, List.getElem?_eq_getElem h] <;> rfl)
theorem pw_getD {ns : List Nat} (h : ns.Pairwise (· ≥ ·)) {i j : Nat} (hij : i < j) (hj : j < ns.length) : ns.getD j 0 ≤ ns.getD i 0 := by
  have := List.pairwise_iff_getElem.mp h i j (by omega) hj hij
  rw [List.getD_eq_getElem?_getD, List.getElem?_eq_getElem hj, List.getD_eq_getElem?_getD, List.getElem?_eq_getElem (by omega : i < ns.length)]
  exact this
theorem ok_pf (F : FunT K "parts_fault" sPF [] f fd) (hW : Fd P w K mg base "is_whole" 1 ["thing", "low", "high"] [.non] (spD prWhole)) (mr : mg "range" = none) (ml : mg "len" = none) : FnOk P w K mg base CX0 2 f fd ["thing", "low"] (spD prPF) := by
  refine def_ok F scPF (fun ts T h => ?_) (fun cdv A outer s H E G ts T hr h => ?_)
  · obtain ⟨ns, rfl, _⟩ := h
    rfl
  · obtain ⟨ns, rfl, h1, h2, h3, rfl⟩ := h
    refine sos_cons (so_forT 2 scPF.nd (ev_var 0) (fun i A => ∃ v2, A = ⟨none, [some (.dat (nT ns)), some (.dat (.int 1)), v2, none], []⟩) ⟨_, rfl⟩ ?_ ?_)
    · rintro i A' d hd ⟨v2, rfl⟩
      obtain ⟨n, hn, rfl⟩ := get_map_some hd
      have hn1 := h1 n (List.mem_of_getElem? hn)
      refine sos_cons (so_ifE (k := false) (Tv.to (tv_not (tv_val (k := true) (ep_callD hW hr (ea_cons (ev_var 2) (ea_cons (ev_var 1) ea_nil)) (fun ts e => ⟨(n : Int), some 1, none, by rw [e] <;> rfl, ?_⟩) hoNon1))) rfl) (fun e => nomatch e) fun _ => sos_nil (sos_nil ⟨_, rfl⟩))
      have e1 : wholeB (n : Int) (some 1) none = true := by
        have : (1 : Int) ≤ (n : Int) := by omega
        simp [wholeB, this]
      rw [e1]
    · rintro A' ⟨v2, rfl⟩
      refine sos_cons (so_forR2 3 scPF.nd (by rfl) mr ev_int (ev_lenT ml (ev_var 0)) (by rw [List.length_map]; omega) (fun i A => ∃ v2 v3, A = ⟨none, [some (.dat (nT ns)), some (.dat (.int 1)), v2, v3], []⟩) ⟨_, _, rfl⟩ ?_ ?_)
      · rintro i A' hi ⟨v2, v3, rfl⟩
        rw [List.length_map] at hi
        have hi2 : i + 1 < ns.length := by omega
        have e1 : (1 : Int) + (i : Int) = ((i + 1 : Nat) : Int) := by omega
        have e2 : (1 : Int) + (i : Int) - 1 = ((i : Nat) : Int) := by omega
        refine sos_cons (so_ifE (k := decide (((ns.getD i 0 : Nat) : Int) < ((ns.getD (i + 1) 0 : Nat) : Int))) (tv_gt (ev_ixT (ev_var 0) (ev_var 3) (by rw [e1]; exact nat_at hi2)) (ev_ixT (ev_var 0) (ev_sub (ev_var 3) ev_int) (by rw [e2]; exact nat_at (by omega)))) (fun hb => ?_) fun _ => sos_nil (sos_nil ⟨_, _, rfl⟩))
        have := pw_getD h2 (show i < i + 1 by omega) hi2
        have := of_decide_eq_true hb
        omega
      · rintro A' ⟨v2, v3, rfl⟩
        exact sos_cons (so_retE ev_non rfl)
abbrev sCK : Stmt := topS 14
theorem scCK : FnScope ["thing", "most", "fault"] ["thing", "most"] (defScope sCK) := ⟨rfl, rfl, rfl, by decide +kernel, rfl, by decide +kernel, by decide +kernel⟩
def prCK : Pr := fun ts T => ∃ (ns : List Nat), ts = [.dat (nT ns), .dat (.int 4)] ∧ (∀ n ∈ ns, 1 ≤ n) ∧ ns.Pairwise (· ≥ ·) ∧ ns.length ≤ 4 ∧ T = fun u => u = .dat (nT ns)
theorem ok_ck {dvs : List V} (F : FunT K "check_kind" sCK dvs f fd) (hS : Fd P w K mg base "is_sequence" 1 ["thing"] [] (spD prSeq)) (hF : Fd P w K mg base "parts_fault" 2 ["thing", "low"] [] (spD prPF)) (ml : mg "len" = none) (mt : mg "tuple" = none) : FnOk P w K mg base CX0 3 f fd ["thing", "most"] (spD prCK) := by
  refine def_ok F scCK (fun ts T h => ?_) (fun cdv A outer s H E G ts T hr h => ?_)
  · obtain ⟨ns, rfl, _⟩ := h
    rfl
  · obtain ⟨ns, rfl, h1, h2, h3, rfl⟩ := h
    refine sos_cons (so_ifE (k := false) (tv_or (k := false) (l := false) (Tv.to (tv_not (tv_val (k := true) (ev_call hS (hr.mono (by omega)) (ea_cons (ev_var 0) ea_nil) ⟨true, _, rfl, rfl⟩))) rfl) fun _ => Tv.to (tv_gt (ev_lenT ml (ev_var 0)) (ev_var 1)) (by rw [List.length_map]; exact decide_eq_false (by omega))) (fun e => nomatch e) fun _ => sos_nil ?_)
    refine sos_cons (so_set 2 scCK.nd (ev_call hF hr (ea_cons (ev_var 0) (ea_cons ev_int ea_nil)) ⟨ns, rfl, h1, h2, h3, rfl⟩) ?_)
    refine sos_cons (so_ifE (k := false) (Tv.to (tv_notN (d := .none) (ev_var 2)) rfl) (fun e => nomatch e) fun _ => sos_nil ?_)
    exact sos_cons (so_retE (ev_tupleT mt (ev_var 0)) rfl)
/-! ### nought_row, plus_rows -/
abbrev sNR : Stmt := topS 21
theorem scNR : FnScope ["moduli", "modulus"] ["moduli"] (defScope sNR) := ⟨rfl, rfl, rfl, by decide +kernel, rfl, by decide +kernel, by decide +kernel⟩
def prNR : Pr := fun ts T => ∃ ms : List Int, ts = [.dat (iT ms)] ∧ ms.length ≤ 4 ∧ T = fun u => u = .dat (iT (noughtR ms))
theorem ok_nr (F : FunT K "nought_row" sNR [] f fd) (mt : mg "tuple" = none) : FnOk P w K mg base CX0 1 f fd ["moduli"] (spD prNR) := by
  refine def_ok F scNR (fun ts T h => ?_) (fun cdv A outer s H E G ts T hr h => ?_)
  · obtain ⟨ms, rfl, _⟩ := h
    rfl
  · obtain ⟨ms, rfl, hl, rfl⟩ := h
    refine sos_cons (so_retE (ev_tupleL mt (ev_lcT 1 ms PyData.int (fun _ => .int 0) scNR.nd (blkOk_by (N := ["moduli", "modulus"]) (sc := defScope sNR) (by decide +kernel)) (ev_var 0) (by omega) (fun _ _ _ _ _ _ _ => ev_int) (fun _ _ _ _ _ => pg_name scNR.nd rfl (Or.inl rfl)))) ?_)
    show Ty.dat (.tuple (ms.map fun _ => PyData.int 0)) = .dat (.tuple ((ms.map fun _ => (0 : Int)).map PyData.int))
    rw [List.map_map] <;> rfl
abbrev sPR : Stmt := topS 20
abbrev nPR : List Str := ["moduli", "one", "other", "first", "second", "modulus"]
theorem scPR : FnScope nPR ["moduli", "one", "other"] (defScope sPR) := ⟨rfl, rfl, rfl, by decide +kernel, rfl, by decide +kernel, by decide +kernel⟩
def prPR : Pr := fun ts T => ∃ ms x y : List Int, ts = [.dat (iT ms), .dat (iT x), .dat (iT y)] ∧ ms.length ≤ 4 ∧ x.length = ms.length ∧ y.length = ms.length ∧ (∀ m ∈ ms, 0 < m) ∧ T = fun u => u = .dat (iT (plusR ms x y))
theorem iD_range {x : List Int} {n : Nat} (h : x.length = n) : iD x = (List.range n).map fun k => PyData.int (x.getD k 0) := by
  have e := range_map_get (f := fun k => x.getD k 0) h fun i hi => rfl
  exact (congrArg iD e.symm).trans (by
    show List.map PyData.int (List.map (fun k => x.getD k 0) (List.range n)) = _
    rw [List.map_map] <;> rfl)
theorem ok_pr (F : FunT K "plus_rows" sPR [] f fd) (mt : mg "tuple" = none) (mz : mg "zip" = none) : FnOk P w K mg base CX0 1 f fd ["moduli", "one", "other"] (spD prPR) := by
  refine def_ok F scPR (fun ts T h => ?_) (fun cdv A outer s H E G ts T hr h => ?_)
  · obtain ⟨ms, x, y, rfl, _⟩ := h
    rfl
  · obtain ⟨ms, x, y, rfl, hl, hx, hy, hm, rfl⟩ := h
    have fin : Ty.dat (.tuple ((List.range ms.length).map fun k => PyData.int ((x.getD k 0 + y.getD k 0) % ms.getD k 0))) = .dat (.tuple ((plusR ms x y).map PyData.int)) := by
      rw [← range_map_get (f := fun k => (x.getD k 0 + y.getD k 0) % ms.getD k 0) (plusR_len hx hy) fun i hi => plusR_get i hx hy hi, List.map_map] <;> rfl
    refine sos_cons (so_retE (ev_tupleL mt (ev_lc3 (ka := true) (kb := true) (kc := true) 3 4 5 ms.length (fun k => .int (x.getD k 0)) (fun k => .int (y.getD k 0)) (fun k => .int (ms.getD k 0)) (fun k => .int ((x.getD k 0 + y.getD k 0) % ms.getD k 0)) scPR.nd (by rfl) mz (blkOk_by (N := nPR) (sc := defScope sPR) (by decide +kernel))
      (ea_cons (EvT.to (ev_var 1) ?_) (ea_cons (EvT.to (ev_var 2) ?_) (ea_cons (EvT.to (ev_var 0) ?_) ea_nil))) (by omega) (fun k hk _ _ _ _ _ => ev_mod (ev_add (ev_var 3) (ev_var 4)) (ev_var 5) (hm _ (getD_mem hk))) (fun _ _ _ _ _ => pg_tup rfl (pgs_cons (pg_name scPR.nd rfl (Or.inl rfl)) (pgs_cons (pg_name scPR.nd rfl (Or.inl rfl)) (pgs_cons (pg_name scPR.nd rfl (Or.inl rfl)) pgs_nil)))))) fin)
    · exact congrArg (fun l => Ty.dat (PyData.tuple l)) (iD_range hx)
    · exact congrArg (fun l => Ty.dat (PyData.tuple l)) (iD_range hy)
    · exact congrArg (fun l => Ty.dat (PyData.tuple l)) (iD_range rfl)
/-! ### all_rows -/
abbrev sAR : Stmt := topS 19
abbrev nAR : List Str := ["moduli", "rows", "modulus", "row", "number"]
theorem scAR : FnScope nAR ["moduli"] (defScope sAR) := ⟨rfl, rfl, rfl, by decide +kernel, rfl, by decide +kernel, by decide +kernel⟩
def prAR : Pr := fun ts T => ∃ (p : Nat) (kind : List Nat), ts = [.dat (iT (mods p kind))] ∧ RoomOk p kind ∧ T = fun u => u = .dat (rT (memb (mods p kind)))
theorem membStep_flat (rows : List (List Int)) (m : Int) : (membStep rows m).map iT = rows.flatMap fun r => (List.range m.toNat).map fun (k : Nat) => iT (r ++ [(k : Int)]) := by
  unfold membStep
  rw [List.map_flatMap]
  congr 1
  funext r
  rw [List.map_map] <;> rfl
theorem ok_ar (F : FunT K "all_rows" sAR [] f fd) (mr : mg "range" = none) (mt : mg "tuple" = none) : FnOk P w K mg base CX0 1 f fd ["moduli"] (spD prAR) := by
  refine def_ok F scAR (fun ts T h => ?_) (fun cdv A outer s H E G ts T hr h => ?_)
  · obtain ⟨p, kind, rfl, _⟩ := h
    rfl
  · obtain ⟨p, kind, rfl, hR, rfl⟩ := h
    refine sos_cons (so_set 1 scAR.nd (ev_lst (ds := [iT []]) (ea_cons (ev_tup (ds := []) ea_nil (by decide)) ea_nil) (by show 1 ≤ sizeLine; decide)) ?_)
    refine sos_cons (so_forT 2 scAR.nd (ev_var 0) (fun i A => ∃ v2, A = ⟨none, [some (.dat (iT (mods p kind))), some (.dat (rL (memb ((mods p kind).take i)))), v2, none, none], []⟩) ⟨_, rfl⟩ ?_ ?_)
    · rintro i A' d hd ⟨v2, rfl⟩
      obtain ⟨m, hm, rfl⟩ := get_map_some hd
      have hmp : 0 < m := mods_pos hR.p2 m (List.mem_of_getElem? hm)
      have hl := memb_take_len hR i
      have hl2 := memb_take_len hR (i + 1)
      rw [memb_take_succ hm] at hl2
      have hrl : ∀ r ∈ memb ((mods p kind).take i), r.length ≤ 4 := fun r hr2 => by
        have q := memb_row_len hr2
        rw [List.length_take, mods_len] at q
        have := hR.len
        omega
      have hm6 : m ≤ 15625 := by
        obtain ⟨c, hc, rfl⟩ := List.mem_map.mp (List.mem_of_getElem? hm)
        have h1 : p ^ c ≤ 5 ^ c := Nat.pow_le_pow_left hR.p5 c
        have h2 : 5 ^ c ≤ 5 ^ 6 := Nat.pow_le_pow_right (by omega) (hR.le6 c hc)
        have h3 : 5 ^ 6 = 15625 := by decide
        omega
      generalize hrows : memb ((mods p kind).take i) = rows at hl hl2 hrl ⊢
      rw [membStep_len] at hl2
      refine sos_cons (so_lc2 1 3 4 (by decide) rows iT m.toNat (fun r (k : Nat) => iT (r ++ [(k : Int)])) scAR.nd (blkOk_by (N := nAR) (sc := defScope sAR) (by decide +kernel)) (ev_var 1) (by omega) (fun r hr2 _ _ _ _ _ => Ev.to (ev_var 2) (by rw [Int.toNat_of_nonneg (by omega)])) (fun r hr2 k hk _ _ _ _ _ => Ev.to (ev_catT (ev_var 3) (ev_tup (ds := [.int (k : Int)]) (ea_cons (ev_var 4) ea_nil) (by show 1 ≤ sizeLine; decide)) ?_) ?_) (sos_nil ⟨_, by rw [memb_take_succ hm, hrows, ← membStep_flat] <;> rfl⟩)
        (fun _ _ _ _ _ => pi_range1 (by rfl) mr (pa_cons (blkE_pe _ _ _ _ _) pa_nil rfl) rfl) (fun _ _ _ _ _ => pg_name scAR.nd rfl (Or.inl rfl)) (fun _ _ _ _ _ => pg_name scAR.nd rfl (Or.inl rfl)) (sw_true rfl rfl rfl (by decide +kernel)))
      · rw [List.length_map]
        have := hrl r hr2
        exact Nat.le_trans (show r.length + [PyData.int (k : Int)].length ≤ 5 by simp; omega) (by decide)
      · show PyData.tuple _ = PyData.tuple ((r ++ [(k : Int)]).map PyData.int)
        rw [List.map_append] <;> rfl
    · rintro A' ⟨v2, rfl⟩
      refine sos_cons (so_retE (ev_tupleL mt (ev_var 1)) ?_)
      rw [List.length_map, List.take_length]
end
end K82
namespace K82
open PySem PySem.Spec PyProof.Rows L2
/-! ### sum of a tuple -/
section
variable {A : AS} {X : Cx} {e : Expr} {pos : Pos}
def rSumT (K : PySem.W.Frag) : List V → Hp → VK → Prop := fun vs H Q => ∃ (a : Addr) (ns : List Int), vs = [V.ref a] ∧ SqT K H a (ns.map V.int) ∧ Q (.int ns.sum) H
theorem cr_sumT (hc : X.calm = true) : CallR X (.builtin "sum") (rSumT X.K) := by
  intro pins s σ H vs us Q I r h
  obtain ⟨a, ns, rfl, hs, q⟩ := h
  obtain ⟨its, rv, ht, _⟩ := I.tuple hs
  rw [Vals.ref1 r]
  have hi := rv.ints
  obtain ⟨xs, ex⟩ := hi.allInts.items
  have hn : numsOf (intItems xs).toList = ns := by rw [← ex]; exact hi.numsOf
  rw [nums_intItems] at hn
  rw [ex] at ht
  refine PySem.W.ktm_sumG (I.ok.hd hc) ht fun h' tk t' hk => ⟨.int ns.sum, H, I.kept hk, ⟨t', ?_⟩, q⟩
  rw [preSum_eq, List.take_of_length_le (by simp), hn]
theorem cl_sumT {ns : List Int} : Cl A (rSumT X.K) [.dat (iT ns)] (.dat (.int ns.sum)) := fun G σ H xs C h Q q => by
  obtain ⟨v, rfl, h1⟩ := ho1 h
  obtain ⟨a, xs, rfl, h2, h3⟩ := Da.tup_inv h1
  have ei := h3.ints
  subst ei
  exact ⟨a, ns, rfl, SqT.of (C.gh _ _ h2), q _ H G (Fr.refl C.gh) (Da.int _)⟩
theorem ev_sumT {p : Pos} {ns : List Int} (hm : X.mg "sum" = none) (ha : Ev A X e (iT ns)) (hc : X.calm = true := by rfl) (hs : starEach [e] X.env = (false, eval e X.env) :: starEach [] X.env := by rfl) (hg : Gl X "sum" := by rfl) (hpl : (backTo pos (starEach [] X.env)).any (·.1) = false := by rfl) :
    Ev A X (.Call (.Name "sum" p) [e] [] pos) (.int ns.sum) := ev_callB (cr_sumT hc) hg hm (by decide +kernel) (ea_cons ha ea_nil hs) cl_sumT (by decide) (by decide) hs hpl
end
section
variable {P : Program} {w : World} {K : PySem.W.Frag} {mg : Str → Option Value} {base : Heap} {f : Addr} {fd : FuncData}
/-- a module's whole number -/
def Num (mg : Str → Option Value) (x : Str) (i : Int) : Prop := ∃ u, mg x = some u ∧ RelV (.int i) u
abbrev sRoom : Stmt := topS 22
abbrev sInit : Stmt := inClass sRoom 0
abbrev nInit : List Str := ["self", "prime", "kind", "total", "part"]
theorem scInit : FnScope nInit ["self", "prime", "kind"] (defScope sInit) := ⟨rfl, rfl, rfl, by decide +kernel, rfl, by decide +kernel, by decide +kernel⟩
def roomF (p : Nat) (kind : List Nat) : List (Str × PyData) := [("members", rT (memb (mods p kind))), ("moduli", iT (mods p kind)), ("size", .int ((p ^ kind.sum : Nat) : Int)), ("kind", nT kind), ("prime", .int p)]
def prInit : PrC := fun ts fs => ∃ (p : Nat) (kind : List Nat), ts = [.dat (.int p), .dat (nT kind)] ∧ RoomOk p kind ∧ fs = roomF p kind
theorem sum_cast : ∀ ns : List Nat, (ns.map fun (n : Nat) => (n : Int)).sum = ((ns.sum : Nat) : Int)
  | [] => rfl
  | n :: ns => by rw [List.map_cons, List.sum_cons, sum_cast ns, List.sum_cons, Int.natCast_add]
theorem ok_init {C : Addr} (F : FunD K "__init__" "Room.__init__" (defArgs sInit) (defBody sInit) (defScope sInit) [] [] f fd) (hC : Cls K C) (n1 : NoAttr K C "prime") (n2 : NoAttr K C "kind") (n3 : NoAttr K C "size") (n4 : NoAttr K C "moduli") (n5 : NoAttr K C "members")
    (hP : Fd P w K mg base "check_prime" 2 ["thing"] [] (spD prCP)) (hK : Fd P w K mg base "check_kind" 3 ["thing", "most"] [] (spD prCK)) (hW : Fd P w K mg base "prime_power" 1 ["prime", "exponent"] [] (spD prPP)) (hA : Fd P w K mg base "all_rows" 1 ["moduli"] [] (spD prAR))
    (g1 : Num mg "MOST_PARTS" 4) (g2 : Num mg "MOST_SUM" 6) (g3 : Num mg "MOST_MEMBERS" 81) (ms : mg "sum" = none) (mt : mg "tuple" = none) : FnOk P w K mg base CX0 4 f fd ["self", "prime", "kind"] (spC C prInit) := by
  obtain ⟨u1, g1, r1⟩ := g1
  obtain ⟨u2, g2, r2⟩ := g2
  obtain ⟨u3, g3, r3⟩ := g3
  refine defC_ok F scInit (fun ts T h => ?_) (fun cdv A outer s H E G l ts fs Hl hr h => ?_)
  · obtain ⟨p, kind, rfl, _⟩ := h
    rfl
  · obtain ⟨p, kind, rfl, hR, rfl⟩ := h
    have hp2 := hR.p2
    have hp5 := hR.p5
    refine sos_cons (so_setF 0 0 rfl hC n1 (by simp) (ev_call hP (hr.mono (by omega)) (ea_cons (ev_var 1) ea_nil) ⟨p, rfl, hR.pr, rfl⟩) ?_)
    refine sos_cons (so_setF 0 0 rfl hC n2 (by simp) (ev_call hK hr (ea_cons (ev_var 2) (ea_cons (ev_gint (by rfl) g1 r1) ea_nil)) ⟨kind, rfl, hR.pos, hR.fall, hR.len, rfl⟩) ?_)
    refine sos_cons (so_set (t := .dat (.int ((kind.sum : Nat) : Int))) 3 scInit.nd (Ev.to (ev_sumT (ns := kind.map fun (n : Nat) => (n : Int)) ms (Ev.to (ev_fldM 0 (ev_var 0) rfl hC n2 rfl) (nT_iT kind))) (by rw [sum_cast])) ?_)
    have hs6 := hR.sum
    have h81 := hR.size
    refine sos_cons (so_ifE (k := false) (tv_or (k := false) (l := false) (Tv.to (tv_gt (ev_var 3) (ev_gint (by rfl) g2 r2)) (decide_eq_false (by omega))) fun _ => Tv.to (tv_gt (ev_call hW (hr.mono (by omega)) (ea_cons (ev_fldM 0 (ev_var 0) rfl hC n1 rfl) (ea_cons (ev_var 3) ea_nil)) ⟨p, kind.sum, rfl, by omega, hp5, hs6, rfl⟩) (ev_gint (by rfl) g3 r3)) (decide_eq_false (by omega))) (fun e => nomatch e) fun _ => sos_nil ?_)
    refine sos_cons (so_setF 0 0 rfl hC n3 (by simp) (ev_call hW (hr.mono (by omega)) (ea_cons (ev_fldM 0 (ev_var 0) rfl hC n1 rfl) (ea_cons (ev_var 3) ea_nil)) ⟨p, kind.sum, rfl, by omega, hp5, hs6, rfl⟩) ?_)
    refine sos_cons (so_setF 0 0 rfl hC n4 (by simp) (d := iT (mods p kind)) (Ev.to (ev_tupleL mt (ev_lcT 4 kind (fun (n : Nat) => PyData.int (n : Int)) (fun c => .int ((p ^ c : Nat) : Int)) scInit.nd (blkOk_by (N := nInit) (sc := defScope sInit) (by decide +kernel)) (ev_fldM 0 (ev_var 0) rfl hC n2 rfl) (by have := hR.len; omega)
      (fun c hc _ _ _ _ _ => ev_call hW (hr.mono (by omega)) (ea_cons (ev_fldM 0 (ev_var 0) rfl hC n1 rfl) (ea_cons (ev_var 4) ea_nil)) ⟨p, c, rfl, by omega, hp5, hR.le6 c hc, rfl⟩) (fun _ _ _ _ _ => pg_name scInit.nd rfl (Or.inl rfl)))) ?_) ?_)
    · show PyData.tuple (kind.map fun c => PyData.int ((p ^ c : Nat) : Int)) = .tuple ((mods p kind).map PyData.int)
      unfold mods
      rw [List.map_map] <;> rfl
    · exact sos_cons (so_setF 0 0 rfl hC n5 (by simp) (ev_call hA (hr.mono (by omega)) (ea_cons (ev_fldM 0 (ev_var 0) rfl hC n4 rfl) ea_nil) ⟨p, kind, rfl, hR, rfl⟩) (sos_nil rfl))
end
end K82
namespace K82
open PySem PySem.Spec PyProof.Rows L2
section
variable {P : Program} {w : World} {K : PySem.W.Frag} {mg : Str → Option Value} {base : Heap} {f : Addr} {fd : FuncData}
/-! ### check_member -/
abbrev sCM : Stmt := topS 23
theorem scCM : FnScope ["room", "thing", "entry", "modulus"] ["room", "thing"] (defScope sCM) := ⟨rfl, rfl, rfl, by decide +kernel, rfl, by decide +kernel, by decide +kernel⟩
def prCM (C : Addr) : Pr := fun ts T => ∃ (p : Nat) (kind : List Nat) (k : Bool) (r : List Int), ts = [.obj C (roomF p kind), .dat (seqD k (iD r))] ∧ RoomOk p kind ∧ r ∈ memb (mods p kind) ∧ T = fun u => u = .dat (iT r)
theorem ev_lenS {A : AS} {X : Cx} {e : Expr} {pos p : Pos} {k : Bool} {ds : List PyData} (hm : X.mg "len" = none) (ha : Ev A X e (seqD k ds)) (hs : starEach [e] X.env = (false, eval e X.env) :: starEach [] X.env := by rfl) (hg : Gl X "len" := by rfl) (hpl : (backTo pos (starEach [] X.env)).any (·.1) = false := by rfl) :
    Ev A X (.Call (.Name "len" p) [e] [] pos) (.int (ds.length : Int)) := by
  cases k with
  | true => exact ev_lenT hm ha hs hg hpl
  | false => exact ev_lenL hm ha hs hg hpl
theorem ev_tupleS {A : AS} {X : Cx} {e : Expr} {pos p : Pos} {k : Bool} {ds : List PyData} (hm : X.mg "tuple" = none) (ha : Ev A X e (seqD k ds)) (hs : starEach [e] X.env = (false, eval e X.env) :: starEach [] X.env := by rfl) (hg : Gl X "tuple" := by rfl) (hpl : (backTo pos (starEach [] X.env)).any (·.1) = false := by rfl) :
    Ev A X (.Call (.Name "tuple" p) [e] [] pos) (.tuple ds) := by
  cases k with
  | true => exact ev_tupleT hm ha hs hg hpl
  | false => exact ev_tupleL hm ha hs hg hpl
theorem ok_cm {C : Addr} (F : FunT K "check_member" sCM [] f fd) (hC : Cls K C) (n4 : NoAttr K C "moduli") (hW : Fd P w K mg base "is_whole" 1 ["thing", "low", "high"] [] (spD prWhole)) (hS : Fd P w K mg base "is_sequence" 1 ["thing"] [] (spD prSeq))
    (ml : mg "len" = none) (mt : mg "tuple" = none) (mz : mg "zip" = none) : FnOk P w K mg base CX0 2 f fd ["room", "thing"] (spD (prCM C)) := by
  refine def_ok F scCM (fun ts T h => ?_) (fun cdv A outer s H E G ts T hr h => ?_)
  · obtain ⟨p, kind, k, r, rfl, _⟩ := h
    rfl
  · obtain ⟨p, kind, k, r, rfl, hR, hrm, rfl⟩ := h
    have lr := in_len hrm
    refine sos_cons (so_ifE (k := false) (tv_or (k := false) (l := false) (Tv.to (tv_not (tv_val (k := true) (ev_call hS hr (ea_cons (ev_var 1) ea_nil) ⟨k, _, rfl, rfl⟩))) rfl) fun _ => Tv.to (tv_ne (ev_lenS ml (ev_var 1)) (ev_lenT ml (ev_fld (d := iT (mods p kind)) (ev_var 0) hC n4 rfl))) ?_) (fun e => nomatch e) fun _ => sos_nil ?_)
    · rw [List.length_map, List.length_map, lr]
      simp
    · refine sos_cons (so_for2 (ka := k) (kb := true) 2 3 scCM.nd (by rfl) mz (ea_cons (ev_var 1) (ea_cons (ev_fld (d := iT (mods p kind)) (ev_var 0) hC n4 rfl) ea_nil)) (by rw [List.length_map, List.length_map, lr])
        (fun i A => ∃ v2 v3, A = ⟨none, [some (.obj C (roomF p kind)), some (.dat (seqD k (iD r))), v2, v3], []⟩) ⟨_, _, rfl⟩ ?_ ?_)
      · rintro i A' d1 d2 h1 h2 ⟨v2, v3, rfl⟩
        obtain ⟨x, hx, rfl⟩ := get_map_some h1
        obtain ⟨m, hm, rfl⟩ := get_map_some h2
        have hi : i < (mods p kind).length := (List.getElem?_eq_some_iff.mp hm).1
        have hb := (mem_memb.mp hrm).2 i hi
        rw [List.getD_eq_getElem?_getD, hx, List.getD_eq_getElem?_getD, hm] at hb
        have hb : 0 ≤ x ∧ x < m := hb
        refine sos_cons (so_ifE (k := false) (Tv.to (tv_not (tv_val (k := true) (ev_call hW hr (ea_cons (ev_var 2) (ea_cons ev_int (ea_cons (ev_sub (ev_var 3) ev_int) ea_nil))) ⟨x, some 0, some (m - 1), rfl, ?_⟩))) rfl) (fun e => nomatch e) fun _ => sos_nil (sos_nil ⟨_, _, rfl⟩))
        have e1 : wholeB x (some 0) (some (m - 1)) = true := by
          have h3 : (0 : Int) ≤ x := hb.1
          have h4 : x ≤ m - 1 := by omega
          simp [wholeB, h3, h4]
        rw [e1]
      · rintro A' ⟨v2, v3, rfl⟩
        exact sos_cons (so_retE (ev_tupleS mt (ev_var 1)) rfl)
/-! ### close_rows -/
abbrev sCR : Stmt := topS 25
abbrev nCR : List Str := ["moduli", "rows", "found", "have", "row", "base", "step", "member", "total"]
theorem scCR : FnScope nCR ["moduli", "rows"] (defScope sCR) := ⟨rfl, rfl, rfl, by decide +kernel, rfl, by decide +kernel, by decide +kernel⟩
def prCR : Pr := fun ts T => ∃ (p : Nat) (kind : List Nat) (k : Bool) (rows : List (List Int)), ts = [.dat (iT (mods p kind)), .dat (seqD k (rows.map iT))] ∧ RoomOk p kind ∧ (∀ r ∈ rows, r ∈ memb (mods p kind)) ∧ T = fun u => u = .dat (rT (closeR (mods p kind) rows))
theorem so_forS {B : Bs} {A : AS} {X : Cx} {P : Po} {body : List Stmt} {pos : Pos} (j : Nat) {x : Str} {px : Pos} {it : Expr} {k : Bool} {ds : List PyData} (hNd : X.N.Nodup) (hit : Ev A X it (seqD k ds)) (I : Nat → AS → Prop) (h0 : I 0 A)
    (hs : ∀ i A' d, ds[i]? = some d → I i A' → Sos B X body (A'.put j (.dat d)) { P with nx := I (i + 1), ct := I (i + 1), bk := P.nx }) (hd : ∀ A', I ds.length A' → P.nx A')
    (hN : X.N[j]? = some x := by rfl) (hx : Loc X.env.scope x := by first | exact Or.inl rfl | exact Or.inr rfl) (hf : X.fn x = true ∨ X.env.scope.names.lookup x = some .local := by first | exact .inl rfl | exact .inr rfl) (hc : X.calm = true := by rfl)
    (hp : PassesOwn (model X.prog X.w) X.A X.env X.xe := by exact PassesOwn.never) (hfs : ∀ x, foldedSetIterable it X.env x = pure x := by intro _; rfl) : So B X (.For (.Name x px) it body [] pos) A P := by
  cases k with
  | true => exact so_forT j hNd hit I h0 hs hd hN hx hf hc hp hfs
  | false => exact so_forL j hNd hit I h0 hs hd hN hx hf hc hp hfs
/-- what is kept between the generators -/
structure RInv (ms : List Int) (rows F ks : List (List Int)) : Prop where
  sub : SubS ms F
  has : ∀ r ∈ rows, r ∈ F
  least : ∀ M, SubS ms M → (∀ r ∈ rows, r ∈ M) → ∀ x ∈ F, x ∈ M
  keys : ∀ x, x ∈ ks ↔ x ∈ F
  few : ks.length ≤ F.length
theorem ok_cr (F : FunT K "close_rows" sCR [] f fd) (hN : Fd P w K mg base "nought_row" 1 ["moduli"] [] (spD prNR)) (hA : Fd P w K mg base "plus_rows" 1 ["moduli", "one", "other"] [] (spD prPR)) (mli : mg "list" = none) (mt : mg "tuple" = none) (mso : mg "sorted" = none) :
    FnOk P w K mg base CX0 2 f fd ["moduli", "rows"] (spD prCR) := by
  refine def_ok F scCR (fun ts T h => ?_) (fun cdv A outer s H E G ts T hr h => ?_)
  · obtain ⟨p, kind, k, rows, rfl, _⟩ := h
    rfl
  · obtain ⟨p, kind, k, rows, rfl, hR, hrows, rfl⟩ := h
    have hm := mods_pos hR.p2 (kind := kind)
    have hX := expo_mods hR
    have hlen := hR.len
    have h81 := memb_len81 hR
    have hms : (mods p kind).length ≤ 4 := by rw [mods_len]; exact hlen
    refine sos_cons (so_newL1 2 scCR.nd (ev_call hN hr (ea_cons (ev_var 0) ea_nil) ⟨_, rfl, hms, rfl⟩) fun l => ?_)
    refine sos_cons (so_disp1 3 hr.units0 scCR.nd (ev_ixMu 0 (ev_var 2) rfl ev_int rfl) fun l2 => ?_)
    refine sos_cons (so_forS 4 scCR.nd (ev_var 1) (fun i A => ∃ fo ks v4 v5 v6 v7 v8, RInv (mods p kind) (rows.take i) fo ks ∧ A = ⟨none, [some (.dat (iT (mods p kind))), some (.dat (seqD k (rows.map iT))), some (.adr l), some (.adr l2), v4, v5, v6, v7, v8], [(l2, .dict ks), (l, .lst (fo.map iT))]⟩) ⟨[noughtR (mods p kind)], [noughtR (mods p kind)], _, _, _, _, _, ⟨SubS.zero_ok hm, (fun r hr => by simp at hr), fun M hM _ x hx => by
      rw [List.mem_singleton.mp hx]
      exact hM.zero, fun x => Iff.rfl, Nat.le_refl _⟩, rfl⟩ ?_ ?_)
    · rintro i A' d hd ⟨fo, ks, v4, v5, v6, v7, v8, hI, rfl⟩
      obtain ⟨row, hri, rfl⟩ := get_map_some hd
      have hrow := hrows row (List.mem_of_getElem? hri)
      have lrow := in_len hrow
      refine sos_cons (so_set 5 scCR.nd (ev_listMu 1 mli (ev_var 2) rfl) ?_)
      refine sos_cons (so_set 6 scCR.nd (ev_var 4) ?_)
      refine sos_cons (so_while (fun m A => ∃ j ks v7 v8, m + j = p ^ kind.headD 0 ∧ CInv (mods p kind) fo row j ∧ (∀ x, x ∈ ks ↔ x ∈ foundAt (mods p kind) fo row j) ∧ ks.length ≤ (foundAt (mods p kind) fo row j).length ∧ A = ⟨none, [some (.dat (iT (mods p kind))), some (.dat (seqD k (rows.map iT))), some (.adr l), some (.adr l2), some (.dat (iT row)), some (.dat (rL fo)), some (.dat (iT (timesR (mods p kind) (j : Int) row))), v7, v8], [(l2, .dict ks), (l, .lst ((foundAt (mods p kind) fo row j).map iT))]⟩) (p ^ kind.headD 0 - 1) ⟨1, ks, v7, v8, by have := hX.1; omega, cinv_one hI.sub lrow, ?_, ?_, ?_⟩ ?_)
      · rw [found_one hI.sub lrow]
        exact hI.keys
      · rw [found_one hI.sub lrow]
        exact hI.few
      · rw [found_one hI.sub lrow, show ((1 : Nat) : Int) = 1 from rfl, times_one hrow] <;> rfl
      · rintro m A' ⟨j, ks, v7, v8, hmj, hc, hk1, hk2, rfl⟩
        have hfl : (foundAt (mods p kind) fo row j).length ≤ 81 := Nat.le_trans (List.Nodup.length_le_of_subset hc.nodup (found_in hm hI.sub hrow)) h81
        have hsl : (timesR (mods p kind) (j : Int) row).length = (mods p kind).length := timesR_len lrow
        refine ⟨!decide (timesR (mods p kind) (j : Int) row ∈ ks), tv_dnotin 0 (hu_of hr) (ev_var 6) (ev_var 3) rfl, fun hb => ?_, fun hb => ?_⟩
        · have hnf : timesR (mods p kind) (j : Int) row ∉ foundAt (mods p kind) fo row j := fun h => by
            have := (hk1 _).mpr h
            simp [this] at hb
          have hc2 := cinv_succ hm hX hI.sub hrow hc hnf
          have hle := cinv_le hX hI.sub hrow hc2
          have hfl2 : (foundAt (mods p kind) fo row (j + 1)).length ≤ 81 := Nat.le_trans (List.Nodup.length_le_of_subset hc2.nodup (found_in hm hI.sub hrow)) h81
          have hcl : (cos (mods p kind) fo row j).length = fo.length := by simp [cos]
          rw [found_succ, List.length_append, hcl] at hfl2
          refine sos_cons (so_forL 7 scCR.nd (ev_var 5) (fun t A => ∃ ks v7 v8, (∀ x, x ∈ ks ↔ x ∈ foundAt (mods p kind) fo row j ++ cos (mods p kind) (fo.take t) row j) ∧ ks.length ≤ (foundAt (mods p kind) fo row j ++ cos (mods p kind) (fo.take t) row j).length ∧ A = ⟨none, [some (.dat (iT (mods p kind))), some (.dat (seqD k (rows.map iT))), some (.adr l), some (.adr l2), some (.dat (iT row)), some (.dat (rL fo)), some (.dat (iT (timesR (mods p kind) (j : Int) row))), v7, v8], [(l2, .dict ks), (l, .lst ((foundAt (mods p kind) fo row j ++ cos (mods p kind) (fo.take t) row j).map iT))]⟩) ⟨ks, _, _, by rw [List.take_zero]; simpa [cos] using hk1, by rw [List.take_zero]; simpa [cos] using hk2, by rw [List.take_zero, show cos (mods p kind) [] row j = [] from rfl, List.append_nil] <;> rfl⟩ ?_ ?_)
          · rintro t A' d hd ⟨ks, v7, v8, ha, hb2, rfl⟩
            obtain ⟨b, hbt, rfl⟩ := get_map_some hd
            have ht : t < fo.length := (List.getElem?_eq_some_iff.mp hbt).1
            have lb := in_len (hI.sub.sub b (List.mem_of_getElem? hbt))
            have ct : (cos (mods p kind) (fo.take t) row j).length ≤ fo.length := by
              unfold cos
              rw [List.length_map, List.length_take]
              omega
            have cs : cos (mods p kind) (fo.take (t + 1)) row j = cos (mods p kind) (fo.take t) row j ++ [plusR (mods p kind) b (timesR (mods p kind) (j : Int) row)] := by
              unfold cos
              rw [List.take_add_one, hbt, List.map_append] <;> rfl
            rw [List.length_append] at hb2
            refine sos_cons (so_set 8 scCR.nd (ev_call hA hr (ea_cons (ev_var 0) (ea_cons (ev_var 7) (ea_cons (ev_var 6) ea_nil))) ⟨_, b, _, rfl, hms, lb, hsl, hm, rfl⟩) ?_)
            refine sos_cons (so_dput 3 0 (hu_of hr) rfl (by omega) (ev_var 8) ?_)
            refine sos_cons (so_appE (d := iT (plusR (mods p kind) b (timesR (mods p kind) (j : Int) row))) 2 1 rfl (by rw [List.length_map, List.length_append]; omega) (ev_var 8) (by rw [← List.map_singleton (f := iT), ← List.map_append]) (sos_nil ⟨addK ks (plusR (mods p kind) b (timesR (mods p kind) (j : Int) row)), _, _, fun x => ?_, ?_, by rw [cs, List.append_assoc] <;> rfl⟩))
            · rw [addK_mem, ha, cs, ← List.append_assoc, List.mem_append (t := [_]), List.mem_singleton]
            · rw [cs, ← List.append_assoc, List.length_append (bs := [_])]
              have := addK_len ks (plusR (mods p kind) b (timesR (mods p kind) (j : Int) row))
              rw [List.length_append]
              simp only [List.length_singleton]
              omega
          · rintro A' ⟨ks, v7, v8, ha, hb2, rfl⟩
            rw [List.length_map, List.take_length] at ha hb2 ⊢
            rw [← found_succ] at ha hb2 ⊢
            refine sos_cons (so_set 6 scCR.nd (Ev.to (ev_call hA hr (ea_cons (ev_var 0) (ea_cons (ev_var 6) (ea_cons (ev_var 4) ea_nil))) ⟨_, _, row, rfl, hms, hsl, lrow, hm, rfl⟩) ?_) (sos_nil ⟨p ^ kind.headD 0 - (j + 1), by omega, j + 1, ks, _, _, by omega, hc2, ha, hb2, rfl⟩))
            have e := times_add (ms := mods p kind) (x := row) (a := (j : Int)) (b := 1) lrow
            rw [times_one hrow] at e
            rw [e, show ((j + 1 : Nat) : Int) = (j : Int) + 1 by omega]
        · have hf : timesR (mods p kind) (j : Int) row ∈ foundAt (mods p kind) fo row j := (hk1 _).mp (by simpa using hb)
          obtain ⟨hd1, hd2⟩ := cinv_done hm hX hI.sub hrow hc hf
          refine sos_nil ⟨foundAt (mods p kind) fo row j, ks, _, _, _, _, _, ⟨hd2, fun r hrm => ?_, fun M hM h2 => found_min hI.sub hrow hM (fun x hx => hI.least M hM (fun r hr => h2 r ?_) x hx) (h2 row ?_), hk1, hk2⟩, rfl⟩
          · rw [List.take_add_one, hri, List.mem_append] at hrm
            rcases hrm with hrm | hrm
            · exact found_base hI.sub hrow hc r (hI.has r hrm)
            · have : r = row := by simpa using hrm
              rw [this]
              by_cases hj1 : j = 1
              · rw [hj1, show ((1 : Nat) : Int) = 1 from rfl, times_one hrow] at hd1
                exact found_base hI.sub hrow hc row hd1
              · refine mem_found.mpr ⟨1, by have := hc.one; omega, _, hI.sub.zero, ?_⟩
                rw [show ((1 : Nat) : Int) = 1 from rfl, times_one hrow, nought_plus hm hrow]
          · rw [List.take_add_one]
            exact List.mem_append_left _ hr
          · rw [List.take_add_one, hri]
            exact List.mem_append_right _ (by simp)
    · rintro A' ⟨fo, ks, v4, v5, v6, v7, v8, hI, rfl⟩
      rw [List.length_map, List.take_length] at hI
      refine sos_freeze 2 1 rfl rfl ?_
      have hfl : fo.length ≤ 81 := Nat.le_trans (List.Nodup.length_le_of_subset hI.sub.nodup hI.sub.sub) h81
      refine sos_cons (so_retE (ev_tupleL mt (ev_sortR mso (ev_var 2) ?_ (by omega) hr.units)) ?_)
      · by_cases hk0 : kind = []
        · subst hk0
          have := hI.sub.sub
          have h1 : fo.length ≤ (memb (mods 0 [])).length := by
            refine List.Nodup.length_le_of_subset hI.sub.nodup fun x hx => ?_
            have := hI.sub.sub x hx
            simpa [mods] using this
          have h2 : (memb (mods 0 [])).length = 1 := rfl
          exact .inl (by omega)
        · refine .inr fun r hr e => hk0 ?_
          have := in_len (hI.sub.sub r hr)
          rw [e, mods_len] at this
          exact List.length_eq_zero_iff.mp this.symm
      · rw [close_eq hI.sub hI.has hI.least, sort_canon hI.sub.nodup hI.sub.sub]
end
end K82
namespace K82
open PySem PySem.Spec PyProof.Rows L2
theorem addK_take {W : List (List Int)} (hn : W.Nodup) {i : Nat} {r : List Int} (h : W[i]? = some r) : addK (W.take i) r = W.take (i + 1) := by
  have hi := (List.getElem?_eq_some_iff.mp h).1
  have hr : r = W[i] := ((List.getElem?_eq_some_iff.mp h).2).symm
  have hno : r ∉ W.take i := fun hm => by
    obtain ⟨j, hj, e⟩ := List.mem_take_iff_getElem.mp hm
    have hji : j < i := by omega
    have := List.pairwise_iff_getElem.mp hn j i (by omega) hi hji
    rw [hr] at e
    exact this e
  unfold addK
  rw [if_neg hno, List.take_add_one, h] <;> rfl
theorem SubL.len81 {p : Nat} {kind : List Nat} {W : List (List Int)} (hR : RoomOk p kind) (h : SubL (mods p kind) W) : W.length ≤ 81 := Nat.le_trans (List.Nodup.length_le_of_subset h.1.nodup h.1.sub) (memb_len81 hR)
theorem SubL.pos {ms : List Int} {W : List (List Int)} (h : SubL ms W) : 0 < W.length := List.length_pos_of_mem h.1.zero
theorem SubL.nil_faces {p : Nat} {W : List (List Int)} (h : SubL (mods p []) W) : facesR p [] W = W := by
  unfold facesR
  have e := h.2
  unfold canon at e
  refine Eq.trans (List.filter_congr fun x hx => ?_) e.symm
  have hx : x = [] := by simpa [mods, memb] using hx
  have h0 : noughtR (mods p []) ∈ W := h.1.zero
  have h1 : ([] : List Int) ∈ W := h0
  rw [faces_nil, hx, decide_eq_true h1]
section
variable {P : Program} {w : World} {K : PySem.W.Frag} {mg : Str → Option Value} {base : Heap} {f : Addr} {fd : FuncData}
/-! ### check_within -/
abbrev sCW : Stmt := topS 26
abbrev nCW : List Str := ["room", "thing", "have", "row", "member", "rows"]
theorem scCW : FnScope nCW ["room", "thing"] (defScope sCW) := ⟨rfl, rfl, rfl, by decide +kernel, rfl, by decide +kernel, by decide +kernel⟩
abbrev encW (k : Bool) (r : List Int) : PyData := seqD k (iD r)
def prCW (C : Addr) : Pr := fun ts T => ∃ (p : Nat) (kind : List Nat) (k k2 : Bool) (W : List (List Int)), ts = [.obj C (roomF p kind), .dat (seqD k (W.map (encW k2)))] ∧ RoomOk p kind ∧ SubL (mods p kind) W ∧ T = fun u => u = .dat (rT W)
theorem ok_cw {C : Addr} (F : FunT K "check_within" sCW [] f fd) (hC : Cls K C) (n4 : NoAttr K C "moduli") (hS : Fd P w K mg base "is_sequence" 1 ["thing"] [] (spD prSeq)) (hM : Fd P w K mg base "check_member" 2 ["room", "thing"] [] (spD (prCM C))) (hR' : Fd P w K mg base "close_rows" 2 ["moduli", "rows"] [] (spD prCR))
    (ml : mg "len" = none) (mt : mg "tuple" = none) (mli : mg "list" = none) (mso : mg "sorted" = none) : FnOk P w K mg base CX0 3 f fd ["room", "thing"] (spD (prCW C)) := by
  refine def_ok F scCW (fun ts T h => ?_) (fun cdv A outer s H E G ts T hr h => ?_)
  · obtain ⟨p, kind, k, k2, W, rfl, _⟩ := h
    rfl
  · obtain ⟨p, kind, k, k2, W, rfl, hR, hW, rfl⟩ := h
    have h81 := hW.len81 hR
    refine sos_cons (so_ifE (k := false) (Tv.to (tv_not (tv_val (k := true) (ev_call hS (hr.mono (by omega)) (ea_cons (ev_var 1) ea_nil) ⟨k, _, rfl, rfl⟩))) rfl) (fun e => nomatch e) fun _ => sos_nil ?_)
    refine sos_cons (so_newD 2 scCW.nd fun l => ?_)
    refine sos_cons (so_forS 3 scCW.nd (ev_var 1) (fun i A => ∃ v3 v4, A = ⟨none, [some (.obj C (roomF p kind)), some (.dat (seqD k (W.map (encW k2)))), some (.adr l), v3, v4, none], [(l, .dict (W.take i))]⟩) ⟨_, _, rfl⟩ ?_ ?_)
    · rintro i A' d hd ⟨v3, v4, rfl⟩
      obtain ⟨r, hri, rfl⟩ := get_map_some hd
      have hi := (List.getElem?_eq_some_iff.mp hri).1
      refine sos_cons (so_try (sos_cons (so_set 4 scCW.nd (ev_call hM hr (ea_cons (ev_var 0) (ea_cons (ev_var 3) ea_nil)) ⟨p, kind, k2, r, rfl, hR, hW.1.sub r (List.mem_of_getElem? hri), rfl⟩) (sos_nil ?_))))
      exact sos_cons (so_dput 2 0 (hu_of hr) rfl (by rw [List.length_take]; omega) (ev_var 4) (sos_nil ⟨_, _, by rw [addK_take hW.1.nodup hri] <;> rfl⟩))
    · rintro A' ⟨v3, v4, rfl⟩
      rw [List.length_map, List.take_length]
      refine sos_cons (so_set (t := .dat (rL W)) 5 scCW.nd (Ev.to (ev_sortR mso (ev_keysL 0 rfl (by rfl) mli (ev_var 2) rfl) ?_ (by omega) hr.units) (by rw [hW.sort])) ?_)
      · by_cases hk0 : kind = []
        · subst hk0
          have h1 : W.length ≤ (memb (mods 0 [])).length := by
            refine List.Nodup.length_le_of_subset hW.1.nodup fun x hx => ?_
            have := hW.1.sub x hx
            simpa [mods] using this
          have h2 : (memb (mods 0 [])).length = 1 := rfl
          exact .inl (by omega)
        · refine .inr fun r hr e => hk0 ?_
          have := in_len (hW.1.sub r hr)
          rw [e, mods_len] at this
          exact List.length_eq_zero_iff.mp this.symm
      · refine sos_cons (so_ifE (k := false) (tv_or (k := false) (l := false) (Tv.to (tv_eqD hr.units (ev_var 5) (ev_lst (ds := []) ea_nil (by decide)) (shaped_rL W) shaped_nil) ?_) fun _ => Tv.to (tv_ne (ev_lenT ml (ev_call hR' hr (ea_cons (ev_fld (d := iT (mods p kind)) (ev_var 0) hC n4 rfl) (ea_cons (ev_var 5) ea_nil)) ⟨p, kind, false, W, rfl, hR, hW.1.sub, rfl⟩)) (ev_lenL ml (ev_var 5))) ?_) (fun e => nomatch e) fun _ => sos_nil (sos_cons (so_retE (ev_tupleL mt (ev_var 5)) rfl)))
        · rw [eqv_rL0]
          have := hW.pos
          cases W with
          | nil => simp at this
          | cons a b => rfl
        · rw [hW.close]
          simp
/-! ### joined_within -/
abbrev sJW : Stmt := topS 27
theorem scJW : FnScope ["room", "one", "other"] ["room", "one", "other"] (defScope sJW) := ⟨rfl, rfl, rfl, by decide +kernel, rfl, by decide +kernel, by decide +kernel⟩
def prJW (C : Addr) : Pr := fun ts T => ∃ (p : Nat) (kind : List Nat) (W V : List (List Int)), ts = [.obj C (roomF p kind), .dat (rT W), .dat (rT V)] ∧ RoomOk p kind ∧ SubL (mods p kind) W ∧ SubL (mods p kind) V ∧ T = fun u => u = .dat (rT (closeR (mods p kind) (W ++ V)))
theorem ok_jw {C : Addr} (F : FunT K "joined_within" sJW [] f fd) (hC : Cls K C) (n4 : NoAttr K C "moduli") (hCW : Fd P w K mg base "check_within" 3 ["room", "thing"] [] (spD (prCW C))) (hR' : Fd P w K mg base "close_rows" 2 ["moduli", "rows"] [] (spD prCR)) : FnOk P w K mg base CX0 4 f fd ["room", "one", "other"] (spD (prJW C)) := by
  refine def_ok F scJW (fun ts T h => ?_) (fun cdv A outer s H E G ts T hr h => ?_)
  · obtain ⟨p, kind, W, V, rfl, _⟩ := h
    rfl
  · obtain ⟨p, kind, W, V, rfl, hR, hW, hV, rfl⟩ := h
    have h1 := hW.len81 hR
    have h2 := hV.len81 hR
    refine sos_cons (so_set 1 scJW.nd (ev_call hCW hr (ea_cons (ev_var 0) (ea_cons (ev_var 1) ea_nil)) ⟨p, kind, true, true, W, rfl, hR, hW, rfl⟩) ?_)
    refine sos_cons (so_set 2 scJW.nd (ev_call hCW hr (ea_cons (ev_var 0) (ea_cons (ev_var 2) ea_nil)) ⟨p, kind, true, true, V, rfl, hR, hV, rfl⟩) ?_)
    refine sos_cons (so_retE (ev_call hR' (hr.mono (by omega)) (ea_cons (ev_fld (d := iT (mods p kind)) (ev_var 0) hC n4 rfl) (ea_cons (EvT.to (t' := .dat (rT (W ++ V))) (ev_catT (ev_var 1) (ev_var 2) ?_) ?_) ea_nil)) ⟨p, kind, true, W ++ V, rfl, hR, fun r hr => ?_, rfl⟩) rfl)
    · rw [List.length_map, List.length_map]
      exact Nat.le_trans (by omega : W.length + V.length ≤ 100001) sizeLine_big
    · exact congrArg (fun l => Ty.dat (PyData.tuple l)) List.map_append.symm
    · rcases List.mem_append.mp hr with h | h
      · exact hW.1.sub r h
      · exact hV.1.sub r h
/-! ### faces_all -/
abbrev sFA : Stmt := topS 29
abbrev nFA : List Str := ["room", "weights", "rows", "member", "row", "total", "weight", "one", "other"]
theorem scFA : FnScope nFA ["room", "weights", "rows", "member"] (defScope sFA) := ⟨rfl, rfl, rfl, by decide +kernel, rfl, by decide +kernel, by decide +kernel⟩
def prFA (C : Addr) : Pr := fun ts T => ∃ (p : Nat) (kind : List Nat) (W : List (List Int)) (y : List Int), ts = [.obj C (roomF p kind), .dat (iL (weightsR p kind)), .dat (rT W), .dat (iT y)] ∧ RoomOk p kind ∧ 0 < kind.length ∧ (∀ r ∈ W, r ∈ memb (mods p kind)) ∧ y ∈ memb (mods p kind) ∧ T = fun u => u = .dat (.bool (facesB p kind W y))
theorem mods_head {p : Nat} {kind : List Nat} (h : 0 < kind.length) : atI (iD (mods p kind)) 0 = some (.int ((p ^ kind.headD 0 : Nat) : Int)) := by
  cases kind with
  | nil => simp at h
  | cons c cs => exact at_map (k := 0) rfl
theorem kind_head {kind : List Nat} (h : 0 < kind.length) : atI (kind.map fun (n : Nat) => PyData.int (n : Int)) 0 = some (.int ((kind.headD 0 : Nat) : Int)) := by
  cases kind with
  | nil => simp at h
  | cons c cs => exact at_map (k := 0) rfl
theorem iD_get {r : List Int} {i : Nat} {d : PyData} (h : (iD r)[i]? = some d) : d = .int (r.getD i 0) := by
  obtain ⟨x, hx, rfl⟩ := get_map_some h
  rw [List.getD_eq_getElem?_getD, hx] <;> rfl
theorem ok_fa {C : Addr} (F : FunT K "faces_all" sFA [] f fd) (hC : Cls K C) (n4 : NoAttr K C "moduli") (mz : mg "zip" = none) : FnOk P w K mg base CX0 1 f fd ["room", "weights", "rows", "member"] (spD (prFA C)) := by
  refine def_ok F scFA (fun ts T h => ?_) (fun cdv A outer s H E G ts T hr h => ?_)
  · obtain ⟨p, kind, W, y, rfl, _⟩ := h
    rfl
  · obtain ⟨p, kind, W, y, rfl, hR, hk0, hW, hy, rfl⟩ := h
    have ly := memb_len_kind hy
    have hpp : (0 : Int) < ((p ^ kind.headD 0 : Nat) : Int) := by
      have : 0 < p ^ kind.headD 0 := Nat.pow_pos (by have := hR.p2; omega)
      omega
    refine sos_cons (so_forT 4 scFA.nd (ev_var 2) (fun i A => facesB p kind (W.take i) y = true ∧ ∃ v4 v5 v6 v7 v8, A = ⟨none, [some (.obj C (roomF p kind)), some (.dat (iL (weightsR p kind))), some (.dat (rT W)), some (.dat (iT y)), v4, v5, v6, v7, v8], []⟩) ⟨by simp [facesB], _, _, _, _, _, rfl⟩ ?_ ?_)
    · rintro i A' d hd ⟨hg, v4, v5, v6, v7, v8, rfl⟩
      obtain ⟨x, hxi, rfl⟩ := get_map_some hd
      have hx : x ∈ memb (mods p kind) := hW x (List.mem_of_getElem? hxi)
      have lx := memb_len_kind hx
      have hf := faces_take (p := p) (kind := kind) (y := y) hxi
      rw [hg, Bool.true_and] at hf
      refine sos_cons (so_set 5 scFA.nd ev_int ?_)
      refine sos_cons (so_for3 (ka := false) (kb := true) (kc := true) 6 7 8 scFA.nd (by rfl) mz (ea_cons (ev_var 1) (ea_cons (ev_var 4) (ea_cons (ev_var 3) ea_nil))) (by rw [List.length_map, List.length_map, weights_len, lx]) (by rw [List.length_map, List.length_map, weights_len, ly])
        (fun j A => ∃ v6 v7 v8, A = ⟨none, [some (.obj C (roomF p kind)), some (.dat (iL (weightsR p kind))), some (.dat (rT W)), some (.dat (iT y)), some (.dat (iT x)), some (.dat (.int ((List.range j).map fun k => (weightsR p kind).getD k 0 * x.getD k 0 * y.getD k 0).sum)), v6, v7, v8], []⟩) ⟨_, _, _, rfl⟩ ?_ ?_)
      · rintro j A' d1 d2 d3 e1 e2 e3 ⟨v6, v7, v8, rfl⟩
        have hj : j < kind.length := by
          have := (List.getElem?_eq_some_iff.mp e1).1
          rw [List.length_map, weights_len] at this
          exact this
        rw [iD_get e1, iD_get e2, iD_get e3]
        have b1 := memb_bound hR hx hj
        have b2 := memb_bound hR hy hj
        refine sos_cons (so_augAdd 5 scFA.nd (ev_mul (ev_mul (ev_var 6) (ev_var 7) (.inr (by omega))) (ev_var 8) (.inr (by omega))) (sos_nil ⟨_, _, _, by rw [List.range_succ, List.map_append, List.sum_append, List.map_singleton, List.sum_singleton] <;> rfl⟩))
      · rintro A' ⟨v6, v7, v8, rfl⟩
        rw [List.length_map, ← dot_sum _ _ _ (by rw [weights_len, lx]) (by rw [weights_len, ly])]
        refine sos_cons (so_ifE (tv_ne (ev_mod (ev_var 5) (ev_ixT (ev_fld (d := iT (mods p kind)) (ev_var 0) hC n4 rfl) ev_int (mods_head hk0)) hpp) ev_int) (fun hb => ?_) fun hb => sos_nil (sos_nil ⟨?_, _, _, _, _, _, rfl⟩))
        · have e : facesB p kind W y = false := by
            rw [Bool.eq_false_iff]
            intro ha
            have ha2 := List.all_eq_true.mp ha x (List.mem_of_getElem? hxi)
            simp at hb ha2
            exact hb ha2
          exact sos_cons (so_retE ev_bl (by rw [e]))
        · rw [hf]
          simpa using hb
    · rintro A' ⟨hg, v4, v5, v6, v7, v8, rfl⟩
      rw [List.length_map, List.take_length] at hg
      exact sos_cons (so_retE ev_bl (by rw [hg]))
/-! ### facing_within -/
abbrev sFW : Stmt := topS 30
abbrev nFW : List Str := ["room", "within", "rows", "weights", "part", "member"]
theorem scFW : FnScope nFW ["room", "within"] (defScope sFW) := ⟨rfl, rfl, rfl, by decide +kernel, rfl, by decide +kernel, by decide +kernel⟩
def prFW (C : Addr) : Pr := fun ts T => ∃ (p : Nat) (kind : List Nat) (k k2 : Bool) (W : List (List Int)), ts = [.obj C (roomF p kind), .dat (seqD k (W.map (encW k2)))] ∧ RoomOk p kind ∧ SubL (mods p kind) W ∧ T = fun u => u = .dat (rT (facesR p kind W))
theorem ok_fw {C : Addr} (F : FunT K "facing_within" sFW [] f fd) (hC : Cls K C) (n1 : NoAttr K C "prime") (n2 : NoAttr K C "kind") (n5 : NoAttr K C "members") (hCW : Fd P w K mg base "check_within" 3 ["room", "thing"] [] (spD (prCW C))) (hP : Fd P w K mg base "prime_power" 1 ["prime", "exponent"] [] (spD prPP))
    (hFA : Fd P w K mg base "faces_all" 1 ["room", "weights", "rows", "member"] [] (spD (prFA C))) (mt : mg "tuple" = none) : FnOk P w K mg base CX0 4 f fd ["room", "within"] (spD (prFW C)) := by
  refine def_ok F scFW (fun ts T h => ?_) (fun cdv A outer s H E G ts T hr h => ?_)
  · obtain ⟨p, kind, k, k2, W, rfl, _⟩ := h
    rfl
  · obtain ⟨p, kind, k, k2, W, rfl, hR, hW, rfl⟩ := h
    have hlen := hR.len
    have h6 := hR.head6
    have h81 := memb_len81 hR
    refine sos_cons (so_set 2 scFW.nd (ev_call hCW hr (ea_cons (ev_var 0) (ea_cons (ev_var 1) ea_nil)) ⟨p, kind, k, k2, W, rfl, hR, hW, rfl⟩) ?_)
    refine sos_cons (so_ifE (Tv.to (tv_eqD hr.units (ev_fld (d := nT kind) (ev_var 0) hC n2 rfl) (ev_tup (ds := []) ea_nil (by decide)) (shaped_nT _) (by decide)) (eqv_nT0 kind)) (fun hb => ?_) fun hb => sos_nil ?_)
    · have hk : kind = [] := List.isEmpty_iff.mp hb
      subst hk
      exact sos_cons (so_retE (ev_var 2) (by rw [hW.nil_faces]))
    · have hk0 : 0 < kind.length := by
        cases kind with
        | nil => exact nomatch hb
        | cons c cs => simp
      refine sos_cons (so_set (t := .dat (iL (weightsR p kind))) 3 scFW.nd (Ev.to (ev_lcT 4 kind (fun (n : Nat) => PyData.int (n : Int)) (fun c => .int ((p ^ (kind.headD 0 - c) : Nat) : Int)) scFW.nd (blkOk_by (N := nFW) (sc := defScope sFW) (by decide +kernel)) (ev_fld (d := nT kind) (ev_var 0) hC n2 rfl) (by omega)
        (fun c hc _ _ _ _ _ => ev_call hP (hr.mono (by omega)) (ea_cons (ev_fld (d := .int (p : Int)) (ev_var 0) hC n1 rfl) (ea_cons (Ev.to (t' := .int ((kind.headD 0 - c : Nat) : Int)) (ev_sub (ev_ixT (ev_fld (d := nT kind) (ev_var 0) hC n2 rfl) ev_int (kind_head hk0)) (ev_var 4)) ?_) ea_nil)) ⟨p, kind.headD 0 - c, rfl, by have := hR.p2; omega, hR.p5, by omega, rfl⟩) (fun _ _ _ _ _ => pg_name scFW.nd rfl (Or.inl rfl))) ?_) ?_)
      · have hcl : c ≤ kind.headD 0 := by
          obtain ⟨i, hi, e⟩ := List.getElem_of_mem hc
          have := kind_le_head hR hi
          rw [List.getD_eq_getElem?_getD, List.getElem?_eq_getElem hi] at this
          rw [← e]
          exact this
        rw [Int.natCast_sub hcl]
      · show PyData.list (kind.map fun c => PyData.int ((p ^ (kind.headD 0 - c) : Nat) : Int)) = .list ((weightsR p kind).map PyData.int)
        unfold weightsR
        rw [List.map_map] <;> rfl
      · exact sos_cons (so_retE (ev_tupleL mt (ev_lcTif 5 (memb (mods p kind)) iT (facesB p kind W) iT scFW.nd (blkOk_by (N := nFW) (sc := defScope sFW) (by decide +kernel)) (ev_fld (d := rT (memb (mods p kind))) (ev_var 0) hC n5 rfl) (by omega)
          (fun y hy _ _ _ _ _ => tv_val (ev_call hFA (hr.mono (by omega)) (ea_cons (ev_var 0) (ea_cons (ev_var 3) (ea_cons (ev_var 2) (ea_cons (ev_var 5) ea_nil)))) ⟨p, kind, W, y, rfl, hR, hk0, hW.1.sub, hy, rfl⟩)) (fun a _ _ _ _ _ _ _ => ev_var 5) (fun _ _ _ _ _ => pg_name scFW.nd rfl (Or.inl rfl)))) rfl)
end
end K82
/-! Rules of the logic: defs that are run where no repr is under way, repr of rows. -/
namespace K82
open PySem PySem.Spec PyProof.Rows L2

/-! ### rows as texts -/
theorem digits81 : (List.range 82).all (fun n => decide ((PyData.shown (.int (n : Int))).length ≤ 13)) = true := by decide +kernel
theorem short_int {i : Int} (h : 0 ≤ i ∧ i ≤ 81) : (PyData.shown (.int i)).length ≤ 13 := by
  have h1 := List.all_eq_true.mp digits81 i.toNat (List.mem_range.mpr (by omega))
  rw [Int.toNat_of_nonneg h.1] at h1
  exact of_decide_eq_true h1
theorem log_small {i : Int} (h : 0 ≤ i ∧ i ≤ 81) : i.natAbs.log2 < 7 := by
  by_cases h0 : i.natAbs = 0
  · rw [h0]
    decide
  · exact (Nat.log2_lt h0).mpr (by omega)
abbrev Small (r : List Int) : Prop := r.length ≤ 4 ∧ ∀ x ∈ r, 0 ≤ x ∧ x ≤ 81
theorem ints_all : ∀ r : List Int, (∀ x ∈ r, 0 ≤ x ∧ x ≤ 81) → PyData.intsShortAll 13 (r.map PyData.int) = true ∧ PyData.showableAll (r.map PyData.int) = true ∧ PyData.weightAll (r.map PyData.int) ≤ 8 * r.length
  | [], _ => by
    rw [List.map_nil, PyData.intsShortAll, PyData.showableAll, PyData.weightAll]
    exact ⟨rfl, rfl, Nat.le_refl _⟩
  | x :: r, h => by
    obtain ⟨h1, h2, h3⟩ := ints_all r fun y hy => h y (List.mem_cons_of_mem _ hy)
    have hx := h x List.mem_cons_self
    rw [List.map_cons, PyData.intsShortAll, PyData.showableAll, PyData.weightAll, h1, h2, PyData.intsShort, PyData.showable, PyData.weight]
    refine ⟨by simpa using short_int hx, ?_, ?_⟩
    · have := log_small hx
      simp
      omega
    · have := log_small hx
      rw [List.length_cons]
      split <;> omega
theorem rows_all : ∀ rs : List (List Int), (∀ r ∈ rs, Small r) → PyData.intsShortAll 13 (rs.map iT) = true ∧ PyData.showableAll (rs.map iT) = true ∧ PyData.weightAll (rs.map iT) ≤ 33 * rs.length
  | [], _ => by
    rw [List.map_nil, PyData.intsShortAll, PyData.showableAll, PyData.weightAll]
    exact ⟨rfl, rfl, Nat.le_refl _⟩
  | r :: rs, h => by
    obtain ⟨h1, h2, h3⟩ := rows_all rs fun y hy => h y (List.mem_cons_of_mem _ hy)
    obtain ⟨hl, hx⟩ := h r List.mem_cons_self
    obtain ⟨g1, g2, g3⟩ := ints_all r hx
    rw [List.map_cons, PyData.intsShortAll, PyData.showableAll, PyData.weightAll, h1, h2]
    have e1 : (iT r).intsShort 13 = true := by rw [PyData.intsShort]; exact g1
    have e2 : (iT r).showable = true := by rw [PyData.showable]; exact g2
    have e3 : (iT r).weight ≤ 32 := by rw [PyData.weight]; omega
    rw [e1, e2]
    refine ⟨rfl, rfl, ?_⟩
    rw [List.length_cons]
    omega
theorem rT_fits {rs : List (List Int)} (h : ∀ r ∈ rs, Small r) (hl : rs.length ≤ 100) : (rT rs).showable = true ∧ (rT rs).hasDict = false ∧ (rT rs).depth ≤ 2 ∧ (rT rs).shown.length ≤ sizeLine := by
  obtain ⟨h1, h2, h3⟩ := rows_all rs h
  have c : (rT rs).canLay0 = true := by rw [PyData.canLay0]; exact canLay_rows rs
  have d : (rT rs).depth ≤ 2 := by
    rw [PyData.depth]
    have := depth_rows rs
    omega
  have w : (rT rs).weight ≤ 2 ^ 20 := by
    rw [PyData.weight]
    have : (2 : Nat) ^ 20 = 1048576 := by decide
    omega
  have l : PyData.layable0 (rT rs) = true := by
    unfold PyData.layable0
    rw [c, decide_eq_true (show (rT rs).depth ≤ 64 by omega), decide_eq_true w] <;> rfl
  refine ⟨by rw [PyData.showable]; exact h2, PyData.hasDict_of_canLay _ c, d, Nat.le_trans (PyData.shown_le_of_layable0 l (by rw [PyData.intsShort]; exact h1)) (by decide)⟩
section
variable {A : AS} {X : Cx} {e : Expr} {es : List Expr} {pos p : Pos}
def rReprD (K : PySem.W.Frag) : List V → Hp → VK → Prop := fun xs H Q => ∃ (a : Addr) (d : PyData), xs = [V.ref a] ∧ Dp K H (.ref a) d ∧ d.showable = true ∧ d.hasDict = false ∧ d.depth ≤ 8 ∧ d.shown.length ≤ sizeLine ∧ Q (.str d.shown) H
theorem cr_reprD (hg : X.A.guards = some []) (hu : X.A.units + 64 < cLine) : CallR X (.builtin "repr") (rReprD X.K) := by
  intro pins s σ H xs us Q I r h
  obtain ⟨a, d, rfl, hd, h1, h2, h3, h4, q⟩ := h
  obtain ⟨u, rfl, ru⟩ := vals1 r
  obtain ⟨as, hr⟩ := Dp.reads I _ _ _ hd ru
  obtain rfl : u = Value.ref a := ru
  exact repr_of_reads' hr h1 (PyData.noDict_hsm h2) hg (by omega) (fun _ _ e => e) (fun h' u tk hk => ⟨.str d.shown, H, I.kept hk, ⟨_, rfl⟩, q⟩) h4
theorem ev_repr {rs : List (List Int)} (hgd : X.A.guards = some []) (hu : X.A.units + 64 < cLine) (hm : X.mg "repr" = none) (ha : Ev A X e (rT rs)) (h : ∀ r ∈ rs, Small r) (hl : rs.length ≤ 100) (hs : starEach [e] X.env = (false, eval e X.env) :: starEach [] X.env := by rfl) (hg : Gl X "repr" := by rfl) (hpl : (backTo pos (starEach [] X.env)).any (·.1) = false := by rfl) :
    Ev A X (.Call (.Name "repr" p) [e] [] pos) (.str (rT rs).shown) := ev_callB (cr_reprD hgd hu) hg hm (by decide +kernel) (ea_cons ha ea_nil hs) (fun G σ H xs C h1 Q q => by
  obtain ⟨v, rfl, h2⟩ := ho1 h1
  obtain ⟨a, ys, rfl, h3, h4⟩ := Da.tup_inv h2
  obtain ⟨f1, f2, f3, f4⟩ := rT_fits h hl
  exact ⟨a, rT rs, rfl, (Da.mono C.gh h2).dp, f1, f2, by omega, f4, q _ H G (Fr.refl C.gh) (Da.str _)⟩) (by decide) (by decide) hs hpl
end

/-! ### a def that is called where no repr is under way -/
structure FnG (P : Program) (w : World) (K : PySem.W.Frag) (mg : Str → Option Value) (base : Heap) (k : Nat) (f : Addr) (fd : FuncData) (ps : List Str) (sp : Sp) : Prop where
  len : ∀ vs H Q E, sp vs H Q E → vs.length = ps.length
  run : ∀ (A : Around) (outer : List Env) (s : Shared) (H : Hp) (args : Args) (us : List Value) (vs : List V) (Q : VK) (E : XK), A.guards = some [] → Room k A → Env0 P w K mg base A outer s H → BindsTo s fd args (ps.zip us) → Vals vs us → sp vs H Q E →
    codeAny (model P w) A (.call (.ref f) args) (CR CX0 outer P w H s Q E) s
section
variable {P : Program} {w : World} {K : PySem.W.Frag} {mg : Str → Option Value} {base : Heap}
theorem fnG_of {x qual : Str} {params : Arguments} {body : List Stmt} {sc : Scope} {dvs : List V} {f : Addr} {fd : FuncData} {N ps : List Str} {k : Nat} {sp : Sp} (F : FunD K x qual params body sc dvs [] f fd) (S : FnScope N ps sc) (len : ∀ vs H Q E, sp vs H Q E → vs.length = ps.length)
    (h : ∀ (cdv : Value) (A : Around) (outer : List Env) (s : Shared) (H : Hp) (vs : List V) (Q : VK) (E : XK), A.guards = some [] → Room k (A.deeper (envOfC qual sc s.heap.objs.size f cdv)) → sp vs H Q E →
      SSs (cxx P w K mg base N qual sc f cdv A outer s H E) body { nx := fun _ H' => Q .non H', rt := Q } (L2.start N vs) H) : FnG P w K mg base (k + 1) f fd ps sp := by
  obtain ⟨oc, od, dV, kV, doc, pm, an, cdv, ct, osl, rfl, lk, hcd, _, _⟩ := F.ex
  refine ⟨len, fun A outer s H args us vs Q E hgd hr e0 hb rv hsp => ?_⟩
  have kin : K.In s.heap := e0.mod.kin.keeps fun b o z => (e0.bs b o z).1
  have nol : s.heap.NoLimit := e0.mod.nolimit.keeps fun b o z => (e0.bs b o z).1
  refine codeAny_call_function hr.depth (kin _ _ lk) rfl S.co S.gen rfl (PySem.W.codeRec_of kin hcd) (hb _ _ _ _ ?_)
  refine wpAny_newFunctionEnv_cells S.kind (fun y hy => ?_) fun env he s1 z => ?_
  · rcases S.par y.1 (List.of_mem_zip (show (y.1, y.2) ∈ ps.zip us from hy)).1 with q | q
    · exact .inl q
    · exact .inr ⟨q, PySem.W.cellsFrom_some _ _ _ (.inl q)⟩
  · subst he
    refine ⟨nol.keeps z.toInCall.keep, codeAny_func ?_⟩
    have I : Inv (cxOf CX0 P w K mg base N qual sc f cdv A outer s H E) [] (L2.start N vs) H s1 := inv_start S hr.hd e0 (len _ _ _ _ hsp) rv z
    have hp : PSs (cxOf CX0 P w K mg base N qual sc f cdv A outer s H E) body (SSs (cxx P w K mg base N qual sc f cdv A outer s H E) body) := PSs.nox pss_s
    refine wpAny_mono (hp.run [] s1 (L2.start N vs) H _ I (h cdv A outer s H vs Q E hgd (hr.deeper _) hsp)) (fun fl s' hs => ?_) fun e s' hs => hs
    cases fl with
    | ret u =>
      obtain ⟨v, σ', H', J, r2, q⟩ := hs
      exact ⟨v, H', J.os, J.bare, J.base, J.hok, r2, q⟩
    | next =>
      obtain ⟨σ', H', J, q⟩ := hs
      exact ⟨V.non, H', J.os, J.bare, J.base, J.hok, rfl, q⟩
    | brk =>
      obtain ⟨_, _, _, q⟩ := hs
      exact q.elim
    | cont =>
      obtain ⟨_, _, _, q⟩ := hs
      exact q.elim
theorem defG_ok {x qual : Str} {params : Arguments} {body : List Stmt} {sc : Scope} {dvs : List V} {f : Addr} {fd : FuncData} {N ps : List Str} {k : Nat} {Pre : Pr} (F : FunD K x qual params body sc dvs [] f fd) (S : FnScope N ps sc) (len : ∀ ts T, Pre ts T → ts.length = ps.length)
    (h : ∀ (cdv : Value) (A : Around) (outer : List Env) (s : Shared) (H : Hp) (E : XK) (G : Hp) ts T, A.guards = some [] → Room k (A.deeper (envOfC qual sc s.heap.objs.size f cdv)) → Pre ts T → Sos ⟨H, G, none⟩ (cxx P w K mg base N qual sc f cdv A outer s H E) body ⟨none, startT N ts, []⟩ { nx := fun _ => T (.dat .none), rt := T }) :
    FnG P w K mg base (k + 1) f fd ps (spD Pre) := by
  refine fnG_of F S (fun vs H Q E ⟨G, ts, T, h1, h2, h3, _⟩ => h2.length.trans (len ts T h3)) fun cdv A outer s H vs Q E hgd hr ⟨G, ts, T, h1, h2, h3, h4⟩ => ?_
  obtain ⟨e1, e2⟩ := start_sl (N := N) h2
  refine (h cdv A outer s H E G ts T hgd hr h3 (fun _ => none) (L2.start N vs) H ⟨rfl, G, (fun b o e => nomatch e), Fr.refl h1, ⟨h1, (fun p e => nomatch e), e1, e2, (fun k l m q => nomatch q), (fun j k l m m' q => nomatch q)⟩, (fun k l m q => nomatch q)⟩).mono (fun σ' H' ⟨A', q, _, G', _, g2, _⟩ => ?_) (fun v H' ⟨G', t, q1, q2, q3, _⟩ => h4 v H' G' t q2 q1 q3) (fun _ _ ⟨_, q, _⟩ => q.elim) fun _ _ ⟨_, q, _⟩ => q.elim
  exact h4 .non H' G' (.dat .none) g2 q .non
end
structure FdG (P : Program) (w : World) (K : PySem.W.Frag) (mg : Str → Option Value) (base : Heap) (x : Str) (k : Nat) (ps : List Str) (sp : Sp) : Prop where
  ex : ∃ f fd, FnG P w K mg base k f fd ps sp ∧ mg x = some (.ref f) ∧ PySem.W.keepIn K (.ref f) = true ∧ Binds K fd ps []
section
variable {A : AS} {X : Cx} {e : Expr} {es : List Expr} {pos p : Pos} {x : Str} {k : Nat} {ps : List Str}
theorem ep_callG {Pre : Pr} {U : List Ty → Prop} {T : Ty → Prop} (hF : FdG X.prog X.w X.K X.mg X.base x k ps (spD Pre)) (hgd : X.A.guards = some []) (hr : Room k X.A) (ha : EvA A X (e :: es) U) (hp : ∀ ts, U ts → Pre ts T)
    (hg : Gl X x := by rfl) (hdb : (x == ("__debug__" : Str)) = false := by decide) (he : starEach (e :: es) X.env = (false, eval e X.env) :: starEach es X.env := by rfl) (hpl : (backTo pos (starEach es X.env)).any (·.1) = false := by rfl) : EvP A X (.Call (.Name x p) (e :: es) [] pos) T := fun G σ H C Q q => by
  obtain ⟨f, fd, h1, h2, h3, h4⟩ := hF.ex
  have hc : PE X (.Call (.Name x p) (e :: es) [] pos) (fun σ H Q => SA X (e :: es) σ H fun vs H1 => spD Pre vs H1 Q E0) := ⟨fun pins s σ H Q I hw => by
    refine wpAny_Call_Name_kw (ld_glob I hg h2 ?_ hdb)
    refine PySem.W.callWith_K (h₀ := X.base) I.ok.mod.kin h3 (thn ((pa_s (es := e :: es)).run pos pins s σ H _ I hw) fun us s1 ⟨vs, H1, I1, r1, q1⟩ => ⟨I1.kIn, ?_⟩) he hpl
    have hl : (us ++ []).length = ps.length := by
      rw [List.append_nil, ← r1.length]
      exact h1.len _ _ _ _ q1
    refine wpAny_call (codeAny_mono (h1.run X.A X.stack s1 H1 ⟨us, []⟩ (us ++ []) vs Q E0 hgd hr I1.env0 (h4 s1 us I1.kIn hl) (by rw [List.append_nil]; exact r1) q1) fun r s' hq => ?_)
    cases r with
    | error e => exact hq.elim
    | ok fl =>
      cases fl with
      | ret u => exact I1.after hq
      | next => exact False.elim hq
      | brk => exact False.elim hq
      | cont => exact False.elim hq⟩
  exact hc.s (ha G σ H C _ fun vs H1 G1 ts F hU hv => ⟨G1, ts, T, F.gh, hv, hp ts hU, fun v H' G' t F2 ht hv => q v H' G' t (F.trans F2.up) ht hv⟩)
theorem ev_callG {Pre : Pr} {ts : List Ty} {t : Ty} (hF : FdG X.prog X.w X.K X.mg X.base x k ps (spD Pre)) (hgd : X.A.guards = some []) (hr : Room k X.A) (ha : EvA A X (e :: es) fun us => us = ts) (hp : Pre ts fun u => u = t)
    (hg : Gl X x := by rfl) (hdb : (x == ("__debug__" : Str)) = false := by decide) (he : starEach (e :: es) X.env = (false, eval e X.env) :: starEach es X.env := by rfl) (hpl : (backTo pos (starEach es X.env)).any (·.1) = false := by rfl) : EvT A X (.Call (.Name x p) (e :: es) [] pos) t :=
  ep_callG hF hgd hr ha (fun us h => by rw [h]; exact hp) hg hdb he hpl
end
end K82
/-! A room as a group with a form; what the law asks of facing. -/
namespace K82
/-! ### the form -/
def WM (N : Int) : List Int → List Int → Prop
  | [], [] => True
  | w :: ws, m :: ms => w * m = N ∧ WM N ws ms
  | _, _ => False
theorem dot_symm : ∀ ws x y : List Int, dotR ws x y = dotR ws y x
  | [], _, _ => by simp [dotR]
  | _ :: _, [], [] => rfl
  | _ :: _, [], _ :: _ => by simp [dotR]
  | _ :: _, _ :: _, [] => by simp [dotR]
  | w :: ws, a :: x, b :: y => by
    rw [dotR, dotR, dot_symm ws x y, Int.mul_assoc, Int.mul_assoc, Int.mul_comm a b]
theorem head_dvd {w m N z e : Int} (h : w * m = N) : N ∣ w * (e % m) * z - w * e * z := by
  have h1 := Int.emod_add_mul_ediv e m
  refine ⟨-(e / m * z), ?_⟩
  rw [← h]
  have h2 : e % m = e - m * (e / m) := by omega
  rw [h2, Int.mul_sub, Int.sub_mul, Int.mul_neg]
  rw [show w * (m * (e / m)) * z = w * m * (e / m * z) by rw [← Int.mul_assoc w m, Int.mul_assoc (w * m)]]
  omega
theorem dot_add {N : Int} : ∀ {ws ms x y z : List Int}, WM N ws ms → x.length = ms.length → y.length = ms.length → z.length = ms.length → N ∣ dotR ws (plusR ms x y) z - (dotR ws x z + dotR ws y z)
  | [], [], _, _, _, _, _, _, _ => by simp [dotR]
  | w :: ws, m :: ms, a :: x, b :: y, c :: z, h, h1, h2, h3 => by
    have ih := dot_add (x := x) (y := y) (z := z) h.2 (by simpa using h1) (by simpa using h2) (by simpa using h3)
    rw [plusR, dotR, dotR, dotR]
    have hd := head_dvd (z := c) (e := a + b) h.1
    have := Int.dvd_add hd ih
    rw [Int.mul_add, Int.add_mul] at this
    rw [show w * ((a + b) % m) * c + dotR ws (plusR ms x y) z - (w * a * c + dotR ws x z + (w * b * c + dotR ws y z)) = w * ((a + b) % m) * c - (w * a * c + w * b * c) + (dotR ws (plusR ms x y) z - (dotR ws x z + dotR ws y z)) by omega]
    exact this
  | [], _ :: _, _, _, _, h, _, _, _ => h.elim
  | _ :: _, [], _, _, _, h, _, _, _ => h.elim
  | _ :: _, _ :: _, [], _, _, _, h, _, _ => by simp at h
  | _ :: _, _ :: _, _ :: _, [], _, _, _, h, _ => by simp at h
  | _ :: _, _ :: _, _ :: _, _ :: _, [], _, _, _, h => by simp at h
theorem dot_smul {N n : Int} : ∀ {ws ms x z : List Int}, WM N ws ms → x.length = ms.length → z.length = ms.length → N ∣ dotR ws (timesR ms n x) z - n * dotR ws x z
  | [], [], _, _, _, _, _ => by simp [dotR]
  | w :: ws, m :: ms, a :: x, c :: z, h, h1, h3 => by
    have ih := dot_smul (n := n) (x := x) (z := z) h.2 (by simpa using h1) (by simpa using h3)
    rw [timesR, dotR, dotR]
    have hd := head_dvd (z := c) (e := n * a) h.1
    have := Int.dvd_add hd ih
    rw [show w * (n * a) * c = n * (w * a * c) by rw [Int.mul_left_comm w n a, Int.mul_assoc]] at this
    rw [Int.mul_add, show w * (n * a % m) * c + dotR ws (timesR ms n x) z - (n * (w * a * c) + n * dotR ws x z) = w * (n * a % m) * c - n * (w * a * c) + (dotR ws (timesR ms n x) z - n * dotR ws x z) by omega]
    exact this
  | [], _ :: _, _, _, h, _, _ => h.elim
  | _ :: _, [], _, _, h, _, _ => h.elim
  | _ :: _, _ :: _, [], _, _, h, _ => by simp at h
  | _ :: _, _ :: _, _ :: _, [], _, _, h => by simp at h
theorem wm_of {p c0 : Nat} : ∀ l : List Nat, (∀ c ∈ l, c ≤ c0) → WM ((p ^ c0 : Nat) : Int) (l.map fun c => ((p ^ (c0 - c) : Nat) : Int)) (l.map fun c => ((p ^ c : Nat) : Int))
  | [], _ => trivial
  | c :: l, h => by
    refine ⟨?_, wm_of l fun x hx => h x (List.mem_cons_of_mem _ hx)⟩
    have hc := h c List.mem_cons_self
    rw [← Int.natCast_mul, ← Nat.pow_add, show c0 - c + c = c0 by omega]
section
variable {p : Nat} {kind : List Nat}
theorem kind_le (hR : RoomOk p kind) : ∀ c ∈ kind, c ≤ kind.headD 0 := fun c hc => by
  obtain ⟨i, hi, e⟩ := List.getElem_of_mem hc
  have := kind_le_head hR hi
  rw [List.getD_eq_getElem?_getD, List.getElem?_eq_getElem hi] at this
  rw [← e]
  exact this
theorem wm_room (hR : RoomOk p kind) : WM ((p ^ kind.headD 0 : Nat) : Int) (weightsR p kind) (mods p kind) := wm_of kind (kind_le hR)
theorem sum_single (f : Nat → Int) (k : Nat) : ∀ n, ((List.range n).map fun j => f j * if j = k then 1 else 0).sum = if k < n then f k else 0
  | 0 => by simp
  | n + 1 => by
    rw [List.range_succ, List.map_append, List.sum_append, sum_single f k n, List.map_singleton, List.sum_singleton]
    by_cases h : n = k
    · subst h
      simp
    · by_cases h2 : k < n
      · have h3 : k < n + 1 := by omega
        simp [h, h2, h3]
      · have h3 : ¬ k < n + 1 := by omega
        simp [h, h2, h3]
def unitR (n k : Nat) : List Int := (List.range n).map fun j => if j = k then 1 else 0
theorem unit_get {n k j : Nat} (h : j < n) : (unitR n k).getD j 0 = if j = k then 1 else 0 := by
  unfold unitR
  rw [List.getD_eq_getElem?_getD, List.getElem?_map, List.getElem?_range h] <;> rfl
theorem unit_in (hR : RoomOk p kind) {k : Nat} : unitR kind.length k ∈ memb (mods p kind) := mem_memb.mpr ⟨by simp [unitR, mods_len], fun j hj => by
  rw [mods_len] at hj
  rw [unit_get hj, mods_get hj]
  have hc : 1 ≤ kind.getD j 0 := hR.pos _ (by
    rw [List.getD_eq_getElem?_getD, List.getElem?_eq_getElem hj]
    exact List.getElem_mem hj)
  have h2 : p ^ 1 ≤ p ^ kind.getD j 0 := Nat.pow_le_pow_right (by have := hR.p2; omega) hc
  have := hR.p2
  rw [Nat.pow_one] at h2
  split <;> omega⟩
theorem room_nondeg (hR : RoomOk p kind) {x : List Int} (hx : x ∈ memb (mods p kind)) (h : ∀ y ∈ memb (mods p kind), ((p ^ kind.headD 0 : Nat) : Int) ∣ dotR (weightsR p kind) x y) : x = noughtR (mods p kind) := by
  have lx := memb_len_kind hx
  refine row_ext (in_len hx) nought_len fun k hk => ?_
  rw [nought_get]
  rw [mods_len] at hk
  have hu := h _ (unit_in hR (k := k))
  rw [dot_sum _ _ _ (by rw [weights_len, lx]) (by rw [weights_len]; simp [unitR]), weights_len] at hu
  have e : (List.range kind.length).map (fun j => (weightsR p kind).getD j 0 * x.getD j 0 * (unitR kind.length k).getD j 0) = (List.range kind.length).map fun j => (weightsR p kind).getD j 0 * x.getD j 0 * if j = k then 1 else 0 := List.map_congr_left fun j hj => by rw [unit_get (List.mem_range.mp hj)]
  rw [e, sum_single, if_pos hk, weights_get hk] at hu
  have hkl := kind_le_head hR hk
  rw [show ((p ^ kind.headD 0 : Nat) : Int) = ((p ^ (kind.headD 0 - kind.getD k 0) : Nat) : Int) * ((p ^ kind.getD k 0 : Nat) : Int) by rw [← Int.natCast_mul, ← Nat.pow_add, show kind.headD 0 - kind.getD k 0 + kind.getD k 0 = kind.headD 0 by omega]] at hu
  have hw : ((p ^ (kind.headD 0 - kind.getD k 0) : Nat) : Int) ≠ 0 := by
    have : 0 < p ^ (kind.headD 0 - kind.getD k 0) := Nat.pow_pos (by have := hR.p2; omega)
    omega
  have hd := Int.dvd_of_mul_dvd_mul_left hw hu
  have hb := (mem_memb.mp hx).2 k (by rw [mods_len]; exact hk)
  rw [mods_get hk] at hb
  have := Int.emod_eq_zero_of_dvd hd
  rw [Int.emod_eq_of_lt hb.1 hb.2] at this
  exact this
/-! ### the group -/
theorem attach_nodup {α : Type} {l : List α} (h : l.Nodup) : l.attach.Nodup := by
  have e : (l.attach.map Subtype.val).Nodup := by rw [List.attach_map_subtype_val]; exact h
  unfold List.Nodup at e ⊢
  rw [List.pairwise_map] at e
  exact e.imp fun {a b} hab e2 => hab (by rw [e2])
noncomputable def roomAb (hR : RoomOk p kind) : Ab where
  G := { x : List Int // x ∈ memb (mods p kind) }
  els := (memb (mods p kind)).attach
  nodup := attach_nodup (memb_nodup _)
  all := fun x => List.mem_attach _ x
  add := fun x y => ⟨plusR (mods p kind) x.1 y.1, in_plus (mods_pos hR.p2) (in_len x.2) (in_len y.2)⟩
  zero := ⟨noughtR (mods p kind), in_nought (mods_pos hR.p2)⟩
  smul := fun n x => ⟨timesR (mods p kind) n x.1, in_times (mods_pos hR.p2) (in_len x.2)⟩
  N := p ^ kind.headD 0
  b := fun x y => dotR (weightsR p kind) x.1 y.1
  add_comm := fun x y => Subtype.ext (plus_comm (in_len x.2) (in_len y.2))
  add_assoc := fun x y z => Subtype.ext (plus_assoc (in_len x.2) (in_len y.2) (in_len z.2))
  add_zero := fun x => Subtype.ext (plus_nought x.2)
  one_smul := fun x => Subtype.ext (times_one x.2)
  zero_smul := fun x => Subtype.ext (times_zero (in_len x.2))
  add_smul := fun m n x => Subtype.ext (times_add (in_len x.2)).symm
  mul_smul := fun m n x => Subtype.ext (times_mul (in_len x.2))
  smul_add := fun n x y => Subtype.ext (times_plus (in_len x.2) (in_len y.2))
  pos := (expo_mods hR).1
  expo := fun x => Subtype.ext ((expo_mods hR).2 x.1 x.2)
  b_symm := fun x y => dot_symm _ _ _
  b_add := fun x y z => dot_add (wm_room hR) (in_len x.2) (in_len y.2) (in_len z.2)
  b_smul := fun n x z => dot_smul (wm_room hR) (in_len x.2) (in_len z.2)
  nondeg := fun x h => Subtype.ext (room_nondeg hR x.2 fun y hy => h ⟨y, hy⟩)
/-- rows as a set of the group -/
def setR (hR : RoomOk p kind) (W : List (List Int)) : (roomAb hR).G → Prop := fun x => x.1 ∈ W
theorem SubS.timesI (hR : RoomOk p kind) {W : List (List Int)} (h : SubS (mods p kind) W) (n : Int) {x : List Int} (hx : x ∈ W) : timesR (mods p kind) n x ∈ W := by
  have hX := expo_mods hR
  have hxm := h.sub x hx
  have lx := in_len hxm
  have hN : (0 : Int) < ((p ^ kind.headD 0 : Nat) : Int) := by
    have := hX.1
    omega
  have e := times_add (ms := mods p kind) (x := x) (a := n / ((p ^ kind.headD 0 : Nat) : Int) * ((p ^ kind.headD 0 : Nat) : Int)) (b := n % ((p ^ kind.headD 0 : Nat) : Int)) lx
  rw [times_mul lx, hX.2 x hxm, times_nought, nought_plus (mods_pos hR.p2) (in_times (mods_pos hR.p2) lx), Int.mul_comm, Int.mul_ediv_add_emod] at e
  rw [← e, show n % ((p ^ kind.headD 0 : Nat) : Int) = (((n % ((p ^ kind.headD 0 : Nat) : Int)).toNat : Nat) : Int) by
    have := Int.emod_nonneg n (show ((p ^ kind.headD 0 : Nat) : Int) ≠ 0 by omega)
    omega]
  exact h.times hx _
theorem set_sub (hR : RoomOk p kind) {W : List (List Int)} (h : SubS (mods p kind) W) : (roomAb hR).Sub (setR hR W) := ⟨h.zero, fun x y hx hy => h.add _ hx _ hy, fun n x hx => h.timesI hR n hx⟩
theorem attach_len {α : Type} {l : List α} (P : α → Bool) : (l.attach.filter fun x => P x.1).length = (l.filter P).length := by
  have e : (l.attach.map Subtype.val).filter P = (l.attach.filter (P ∘ Subtype.val)).map Subtype.val := List.filter_map
  rw [List.attach_map_subtype_val] at e
  rw [e, List.length_map]
  rfl
open Classical in
theorem card_pred (hR : RoomOk p kind) (P : List Int → Prop) : (roomAb hR).card (fun x => P x.1) = ((memb (mods p kind)).filter fun x => decide (P x)).length := attach_len fun x => decide (P x)
theorem canon_len {ms : List Int} {W : List (List Int)} (hn : W.Nodup) (hs : ∀ x ∈ W, x ∈ memb ms) : (canon ms W).length = W.length := by
  rw [← sort_canon hn hs]
  exact List.length_mergeSort ..
theorem card_set (hR : RoomOk p kind) {W : List (List Int)} (h : SubS (mods p kind) W) : (roomAb hR).card (setR hR W) = W.length := by
  rw [← canon_len h.nodup h.sub]
  refine (card_pred hR fun x => x ∈ W).trans ?_
  unfold canon
  refine congrArg List.length (List.filter_congr fun x _ => ?_)
  by_cases e : x ∈ W <;> simp [e]
theorem mem_faces {W : List (List Int)} {y : List Int} : y ∈ facesR p kind W ↔ y ∈ memb (mods p kind) ∧ ∀ x ∈ W, ((p ^ kind.headD 0 : Nat) : Int) ∣ dotR (weightsR p kind) x y := by
  unfold facesR facesB
  rw [List.mem_filter, List.all_eq_true]
  refine and_congr_right fun _ => forall_congr' fun x => forall_congr' fun _ => ?_
  rw [beq_iff_eq]
  exact ⟨Int.dvd_of_emod_eq_zero, Int.emod_eq_zero_of_dvd⟩
theorem faces_perp (hR : RoomOk p kind) {W : List (List Int)} (hs : ∀ x ∈ W, x ∈ memb (mods p kind)) (y : (roomAb hR).G) : y.1 ∈ facesR p kind W ↔ Ab.perp (setR hR W) y := by
  rw [mem_faces]
  exact ⟨fun h x hx => h.2 x.1 hx, fun h => ⟨y.2, fun x hx => h ⟨x, hs x hx⟩ hx⟩⟩
theorem faces_nodup (W : List (List Int)) : (facesR p kind W).Nodup := (memb_nodup _).sublist List.filter_sublist
theorem filter_canon {ms : List Int} (P : List Int → Bool) : (memb ms).filter P = canon ms ((memb ms).filter P) := by
  unfold canon
  refine List.filter_congr fun x hx => ?_
  cases h : P x with
  | true => exact (decide_eq_true (List.mem_filter.mpr ⟨hx, h⟩)).symm
  | false => exact (decide_eq_false fun hm => by rw [(List.mem_filter.mp hm).2] at h; cases h).symm
/-- what faces a set of rows is a subgroup -/
theorem faces_sub (hR : RoomOk p kind) {W : List (List Int)} (hs : ∀ x ∈ W, x ∈ memb (mods p kind)) : SubL (mods p kind) (facesR p kind W) := by
  have P := Ab.perp_sub (A := roomAb hR) (setR hR W)
  have f : ∀ y, (hy : y ∈ memb (mods p kind)) → (y ∈ facesR p kind W ↔ Ab.perp (setR hR W) ⟨y, hy⟩) := fun y hy => faces_perp hR hs ⟨y, hy⟩
  have m : ∀ y ∈ facesR p kind W, y ∈ memb (mods p kind) := fun y hy => (mem_faces.mp hy).1
  refine ⟨⟨(f _ (in_nought (mods_pos hR.p2))).mpr P.zero, fun x hx y hy => ?_, m, faces_nodup W⟩, filter_canon _⟩
  have hx2 := (f x (m x hx)).mp hx
  have hy2 := (f y (m y hy)).mp hy
  exact (f _ (in_plus (mods_pos hR.p2) (in_len (m x hx)) (in_len (m y hy)))).mpr (P.add _ _ hx2 hy2)
theorem faces_faces (hR : RoomOk p kind) {W : List (List Int)} (h : SubL (mods p kind) W) : facesR p kind (facesR p kind W) = W := by
  have m : ∀ y ∈ facesR p kind W, y ∈ memb (mods p kind) := fun y hy => (mem_faces.mp hy).1
  have e : ∀ y, (hy : y ∈ memb (mods p kind)) → (y ∈ facesR p kind (facesR p kind W) ↔ y ∈ W) := fun y hy => by
    have e1 := faces_perp hR m ⟨y, hy⟩
    have e2 : Ab.perp (setR hR (facesR p kind W)) ⟨y, hy⟩ ↔ Ab.perp (Ab.perp (setR hR W)) ⟨y, hy⟩ := ⟨fun k x hx => k x ((faces_perp hR h.1.sub x).mpr hx), fun k x hx => k x ((faces_perp hR h.1.sub x).mp hx)⟩
    exact (e1.trans e2).trans (Ab.perp_perp (set_sub hR h.1) ⟨y, hy⟩)
  rw [(faces_sub hR m).2]
  refine (canon_congr fun x hx => e x hx).trans h.2.symm
/-! ### kinds -/
theorem counts_dual (hR : RoomOk p kind) {W : List (List Int)} (h : SubL (mods p kind) W) : restCounts p kind W = kindCounts p kind (facesR p kind W) := by
  unfold restCounts kindCounts
  refine List.map_congr_left fun e _ => ?_
  have r := Ab.rest (set_sub hR h.1) ((p ^ e : Nat) : Int)
  rw [card_set hR h.1] at r
  have c1 : (roomAb hR).card (fun x => setR hR W ((roomAb hR).smul ((p ^ e : Nat) : Int) x)) = ((memb (mods p kind)).filter fun r => decide (timesR (mods p kind) ((p ^ e : Nat) : Int) r ∈ W)).length := by
    refine (card_pred hR fun x => timesR (mods p kind) ((p ^ e : Nat) : Int) x ∈ W).trans ?_
    refine congrArg List.length (List.filter_congr fun x _ => ?_)
    by_cases e : timesR (mods p kind) ((p ^ e : Nat) : Int) x ∈ W <;> simp [e]
  have c2 : (roomAb hR).card (fun y => Ab.perp (setR hR W) y ∧ (roomAb hR).smul ((p ^ e : Nat) : Int) y = (roomAb hR).zero) = ((facesR p kind W).filter fun r => timesR (mods p kind) ((p ^ e : Nat) : Int) r == noughtR (mods p kind)).length := by
    refine (Ab.card_congr fun y => ?_).trans ((card_pred hR fun x => x ∈ facesR p kind W ∧ timesR (mods p kind) ((p ^ e : Nat) : Int) x = noughtR (mods p kind)).trans ?_)
    · refine and_congr (faces_perp hR h.1.sub y).symm ⟨fun k => congrArg Subtype.val k, fun k => Subtype.ext k⟩
    · conv => rhs; rw [(faces_sub hR h.1.sub).2]
      unfold canon
      generalize ((p ^ e : Nat) : Int) = q
      rw [List.filter_filter]
      refine congrArg List.length (List.filter_congr fun x _ => ?_)
      by_cases e1 : x ∈ facesR p kind W <;> by_cases e2 : timesR (mods p kind) q x = noughtR (mods p kind) <;> simp [e1, e2]
  rw [c1, c2] at r
  rw [r, Int.natCast_mul]
  have := h.1.zero
  have hl := List.length_pos_of_mem this
  exact Int.mul_ediv_cancel_left _ (by omega)
theorem kindCounts_pos (hR : RoomOk p kind) {W : List (List Int)} (h : SubL (mods p kind) W) : ∀ c ∈ kindCounts p kind W, 0 < c := fun c hc => by
  obtain ⟨e, _, rfl⟩ := List.mem_map.mp hc
  have : noughtR (mods p kind) ∈ W.filter fun r => timesR (mods p kind) ((p ^ e : Nat) : Int) r == noughtR (mods p kind) := List.mem_filter.mpr ⟨h.1.zero, by rw [times_nought]; exact beq_self_eq_true _⟩
  have := List.length_pos_of_mem this
  omega
theorem restCounts_pos (hR : RoomOk p kind) {W : List (List Int)} (h : SubL (mods p kind) W) : ∀ c ∈ restCounts p kind W, 0 < c := by
  rw [counts_dual hR h]
  exact kindCounts_pos hR (faces_sub hR h.1.sub)
theorem kind_rest (hR : RoomOk p kind) {W : List (List Int)} (h : SubL (mods p kind) W) : kindOfR p kind (facesR p kind W) = restOfR p kind W := by
  unfold kindOfR restOfR
  rw [counts_dual hR h]
theorem rest_kind (hR : RoomOk p kind) {W : List (List Int)} (h : SubL (mods p kind) W) : restOfR p kind (facesR p kind W) = kindOfR p kind W := by
  rw [← kind_rest hR (faces_sub hR h.1.sub), faces_faces hR h]
/-! ### pairs -/
open Classical in
theorem mem_close {ms : List Int} {rows : List (List Int)} {x : List Int} : x ∈ closeR ms rows ↔ x ∈ memb ms ∧ ∀ M, SubS ms M → (∀ r ∈ rows, r ∈ M) → x ∈ M := by
  unfold closeR
  rw [List.mem_filter, decide_eq_true_eq]
theorem close_sub (hR : RoomOk p kind) {rows : List (List Int)} (h : ∀ r ∈ rows, r ∈ memb (mods p kind)) : SubL (mods p kind) (closeR (mods p kind) rows) ∧ ∀ r ∈ rows, r ∈ closeR (mods p kind) rows := by
  have hm := mods_pos hR.p2 (kind := kind)
  have mem : ∀ x, x ∈ closeR (mods p kind) rows ↔ x ∈ memb (mods p kind) ∧ ∀ M, SubS (mods p kind) M → (∀ r ∈ rows, r ∈ M) → x ∈ M := fun x => mem_close
  refine ⟨⟨⟨(mem _).mpr ⟨in_nought hm, fun M hM _ => hM.zero⟩, fun x hx y hy => ?_, fun x hx => ((mem x).mp hx).1, (memb_nodup _).sublist List.filter_sublist⟩, filter_canon _⟩, fun r hr => (mem r).mpr ⟨h r hr, fun M _ k => k r hr⟩⟩
  obtain ⟨x1, x2⟩ := (mem x).mp hx
  obtain ⟨y1, y2⟩ := (mem y).mp hy
  exact (mem _).mpr ⟨in_plus hm (in_len x1) (in_len y1), fun M hM k => hM.add _ (x2 M hM k) _ (y2 M hM k)⟩
theorem close_least {ms : List Int} {rows M : List (List Int)} (hM : SubS ms M) (h : ∀ r ∈ rows, r ∈ M) : ∀ x ∈ closeR ms rows, x ∈ M := fun x hx => (mem_close.mp hx).2 M hM h
abbrev sharedR (W V : List (List Int)) : List (List Int) := W.filter fun r => decide (r ∈ V)
theorem shared_sub {W V : List (List Int)} (hW : SubL (mods p kind) W) (hV : SubL (mods p kind) V) : SubL (mods p kind) (sharedR W V) := by
  have mem : ∀ x, x ∈ sharedR W V ↔ x ∈ W ∧ x ∈ V := fun x => by rw [List.mem_filter, decide_eq_true_eq]
  refine ⟨⟨(mem _).mpr ⟨hW.1.zero, hV.1.zero⟩, fun x hx y hy => (mem _).mpr ⟨hW.1.add _ ((mem x).mp hx).1 _ ((mem y).mp hy).1, hV.1.add _ ((mem x).mp hx).2 _ ((mem y).mp hy).2⟩, fun x hx => hW.1.sub x ((mem x).mp hx).1, hW.1.nodup.sublist List.filter_sublist⟩, ?_⟩
  have e : sharedR W V = (memb (mods p kind)).filter fun x => decide (x ∈ V) && decide (x ∈ W) := by
    show W.filter _ = _
    conv => lhs; rw [hW.2]
    unfold canon
    rw [List.filter_filter]
  rw [e]
  exact filter_canon _
theorem faces_anti (hR : RoomOk p kind) {W V : List (List Int)} (h : ∀ x ∈ V, x ∈ W) : ∀ y ∈ facesR p kind W, y ∈ facesR p kind V := fun y hy => by
  rw [mem_faces] at hy ⊢
  exact ⟨hy.1, fun x hx => hy.2 x (h x hx)⟩
theorem faces_close (hR : RoomOk p kind) {W V : List (List Int)} (hW : SubL (mods p kind) W) (hV : SubL (mods p kind) V) : facesR p kind (closeR (mods p kind) (W ++ V)) = sharedR (facesR p kind W) (facesR p kind V) := by
  have hin : ∀ r ∈ W ++ V, r ∈ memb (mods p kind) := fun r hr => by
    rcases List.mem_append.mp hr with h | h
    · exact hW.1.sub r h
    · exact hV.1.sub r h
  obtain ⟨c1, c2⟩ := close_sub hR hin
  rw [(faces_sub hR c1.1.sub).2, (shared_sub (faces_sub hR hW.1.sub) (faces_sub hR hV.1.sub)).2]
  refine canon_congr fun y hy => ?_
  rw [List.mem_filter, decide_eq_true_eq]
  constructor
  · intro h
    exact ⟨faces_anti hR (fun x hx => c2 x (List.mem_append_left _ hx)) y h, faces_anti hR (fun x hx => c2 x (List.mem_append_right _ hx)) y h⟩
  · rintro ⟨h1, h2⟩
    have hM := (faces_sub hR (W := [y]) fun x hx => by rw [List.mem_singleton.mp hx]; exact hy).1
    have sym : ∀ z ∈ memb (mods p kind), z ∈ facesR p kind [y] ↔ ((p ^ kind.headD 0 : Nat) : Int) ∣ dotR (weightsR p kind) z y := fun z hz => by
      rw [mem_faces]
      constructor
      · intro k
        rw [dot_symm]
        exact k.2 y List.mem_cons_self
      · intro k
        refine ⟨hz, fun x hx => ?_⟩
        rw [List.mem_singleton.mp hx, dot_symm]
        exact k
    refine mem_faces.mpr ⟨hy, fun x hx => ?_⟩
    have hxM := close_least hM (fun r hr => (sym r (hin r hr)).mpr (by
      rcases List.mem_append.mp hr with h | h
      · exact (mem_faces.mp h1).2 r h
      · exact (mem_faces.mp h2).2 r h)) x hx
    exact (sym x (c1.1.sub x hx)).mp hxM
theorem faces_shared (hR : RoomOk p kind) {W V : List (List Int)} (hW : SubL (mods p kind) W) (hV : SubL (mods p kind) V) : facesR p kind (sharedR W V) = closeR (mods p kind) (facesR p kind W ++ facesR p kind V) := by
  have f1 := faces_sub hR hW.1.sub
  have f2 := faces_sub hR hV.1.sub
  have e := faces_close hR f1 f2
  rw [faces_faces hR hW, faces_faces hR hV] at e
  rw [← e]
  exact faces_faces hR (close_sub hR fun r hr => by
    rcases List.mem_append.mp hr with h | h
    · exact f1.1.sub r h
    · exact f2.1.sub r h).1
theorem holds_iff {W V : List (List Int)} : holdsR W V = true ↔ ∀ x ∈ V, x ∈ W := by
  unfold holdsR
  rw [List.all_eq_true]
  exact ⟨fun h x hx => of_decide_eq_true (h x hx), fun h x hx => decide_eq_true (h x hx)⟩
theorem holds_dual (hR : RoomOk p kind) {W V : List (List Int)} (hW : SubL (mods p kind) W) (hV : SubL (mods p kind) V) : holdsR W V = holdsR (facesR p kind V) (facesR p kind W) := by
  rw [Bool.eq_iff_iff, holds_iff, holds_iff]
  refine ⟨fun h => faces_anti hR h, fun h => ?_⟩
  have := faces_anti hR h
  rw [faces_faces hR hV, faces_faces hR hW] at this
  exact this
theorem holds_close (hR : RoomOk p kind) {W V : List (List Int)} (hW : SubL (mods p kind) W) (hV : SubL (mods p kind) V) : holdsR (closeR (mods p kind) (W ++ V)) W = true := holds_iff.mpr fun x hx => (close_sub hR fun r hr => by
    rcases List.mem_append.mp hr with h | h
    · exact hW.1.sub r h
    · exact hV.1.sub r h).2 x (List.mem_append_left _ hx)
theorem holds_shared {W V : List (List Int)} : holdsR W (sharedR W V) = true := holds_iff.mpr fun x hx => (List.mem_filter.mp hx).1
end
end K82
/-! The rows of a listed grid are a subgroup. -/
namespace K82
theorem perm_of_cover {α : Type} [DecidableEq α] : ∀ (C l : List α), C.Nodup → (∀ x ∈ C, x ∈ l) → l.length ≤ C.length → l.Perm C
  | [], l, _, _, h => by
    have : l = [] := List.length_eq_zero_iff.mp (by simpa using h)
    rw [this]
  | a :: C, l, hn, hs, h => by
    rw [List.nodup_cons] at hn
    have ha := hs a List.mem_cons_self
    have hl := List.length_erase_of_mem ha
    have ih := perm_of_cover C (l.erase a) hn.2 (fun x hx => (List.mem_erase_of_ne fun e => hn.1 (by rw [← e]; exact hx)).mpr (hs x (List.mem_cons_of_mem _ hx))) (by rw [hl]; simp at h; omega)
    exact (List.perm_cons_erase ha).trans (ih.cons a)
theorem mem_memb_cons {m a : Int} {ms x : List Int} : a :: x ∈ memb (m :: ms) ↔ (0 ≤ a ∧ a < m) ∧ x ∈ memb ms := by
  rw [mem_memb, mem_memb]
  constructor
  · rintro ⟨h1, h2⟩
    refine ⟨?_, by simpa using h1, fun k hk => ?_⟩
    · have := h2 0 (by simp)
      simpa using this
    · have := h2 (k + 1) (by simpa using hk)
      simpa using this
  · rintro ⟨h0, h1, h2⟩
    refine ⟨by simpa using h1, fun k hk => ?_⟩
    cases k with
    | zero => simpa using h0
    | succ k =>
      have := h2 k (by simpa using hk)
      simpa using this
theorem SubS.timesG {ms : List Int} {N : Nat} {W : List (List Int)} (hm : ∀ m ∈ ms, 0 < m) (hX : Expo ms N) (h : SubS ms W) (n : Int) {x : List Int} (hx : x ∈ W) : timesR ms n x ∈ W := by
  have hxm := h.sub x hx
  have lx := in_len hxm
  have hN := hX.1
  have e := times_add (ms := ms) (x := x) (a := n / (N : Int) * (N : Int)) (b := n % (N : Int)) lx
  rw [times_mul lx, hX.2 x hxm, times_nought, nought_plus hm (in_times hm lx), Int.mul_comm, Int.mul_ediv_add_emod] at e
  rw [← e, show n % (N : Int) = (((n % (N : Int)).toNat : Nat) : Int) by
    have := Int.emod_nonneg n (show (N : Int) ≠ 0 by omega)
    omega]
  exact h.times hx _
theorem expo_gen {p : Nat} (hp : 2 ≤ p) {kind : List Nat} : Expo (mods p kind) (p ^ kind.sum) := by
  refine ⟨Nat.pow_pos (by omega), fun x hx => ?_⟩
  have lx := in_len hx
  refine row_ext (timesR_len lx) nought_len fun k hk => ?_
  have hk' : k < kind.length := by rw [mods_len] at hk; exact hk
  have hc : kind.getD k 0 ≤ kind.sum := sum_ge (by
    rw [List.getD_eq_getElem?_getD, List.getElem?_eq_getElem hk']
    exact List.getElem_mem hk')
  rw [timesR_get k lx hk, nought_get, mods_get hk', show kind.sum = (kind.sum - kind.getD k 0) + kind.getD k 0 by omega, Nat.pow_add, Int.natCast_mul, Int.mul_right_comm]
  exact Int.mul_emod_left _ _
/-! ### the rows by their coefficients -/
def comb (ms : List Int) (G : List (List Int)) (f : Nat → Nat) : Nat → List Int
  | 0 => noughtR ms
  | k + 1 => plusR ms (comb ms G f k) (timesR ms ((f k : Nat) : Int) (G.getD k []))
theorem mem_rowsTo {ms : List Int} {G : List (List Int)} : ∀ {n : Nat} {x : List Int}, x ∈ rowsTo ms G n ↔ ∃ f : Nat → Nat, (∀ i, i < n → f i < (ms.getD i 0 / (G.getD i []).getD i 0).toNat) ∧ x = comb ms G f n
  | 0, x => by
    constructor
    · intro h
      exact ⟨fun _ => 0, fun i hi => by omega, by simpa [rowsTo, comb] using h⟩
    · rintro ⟨f, _, rfl⟩
      simp [rowsTo, comb]
  | n + 1, x => by
    rw [rowsTo_succ]
    unfold rowsStep
    rw [List.mem_flatMap]
    constructor
    · rintro ⟨k, hk, hx⟩
      obtain ⟨r, hr, rfl⟩ := List.mem_map.mp hx
      obtain ⟨f, h1, rfl⟩ := mem_rowsTo.mp hr
      have eqf : ∀ m, m ≤ n → comb ms G (fun i => if i = n then k else f i) m = comb ms G f m := fun m => by
        induction m with
        | zero => intro _; rfl
        | succ m ih =>
          intro hm
          rw [comb, comb, ih (by omega), if_neg (by omega)]
      refine ⟨fun i => if i = n then k else f i, fun i hi => ?_, ?_⟩
      · by_cases e : i = n
        · simp only [if_pos e]
          rw [e]
          exact List.mem_range.mp hk
        · simp only [if_neg e]
          exact h1 i (by omega)
      · rw [comb, eqf n (Nat.le_refl _), if_pos rfl]
    · rintro ⟨f, h1, rfl⟩
      exact ⟨f n, List.mem_range.mpr (h1 n (by omega)), List.mem_map.mpr ⟨comb ms G f n, mem_rowsTo.mpr ⟨f, fun i hi => h1 i (by omega), rfl⟩, rfl⟩⟩
theorem comb_len {ms : List Int} {G : List (List Int)} {f : Nat → Nat} (hG : ∀ g ∈ G, g.length = ms.length) : ∀ n, n ≤ G.length → (comb ms G f n).length = ms.length
  | 0, _ => nought_len
  | n + 1, h => by
    rw [comb]
    exact plusR_len (comb_len hG n (by omega)) (timesR_len (hG _ (getD_nil_mem (by omega))))
/-! ### one more column -/
theorem below_get {grid : List (List Int)} {i : Nat} (h : i < grid.length) (g : List Int) : (g :: belowR grid).getD (i + 1) [] = 0 :: grid.getD i [] := by
  rw [List.getD_cons_succ]
  unfold belowR
  rw [getD_map_lt (d := []) h]
theorem lies_below {grid : List (List Int)} {g0 : List Int} : ∀ (n i : Nat) (r : List Int), i + n ≤ grid.length → liesGo (g0 :: belowR grid) n (i + 1) (0 :: r) = liesGo grid n i r
  | 0, _, _, _ => rfl
  | n + 1, i, r, h => by
    rw [liesGo, liesGo, below_get (by omega), List.getD_cons_succ, List.getD_cons_succ]
    have e : subRow (0 :: r) (0 :: grid.getD i []) (r.getD i 0 / (grid.getD i []).getD i 0) = 0 :: subRow r (grid.getD i []) (r.getD i 0 / (grid.getD i []).getD i 0) := by
      unfold subRow
      rw [List.length_cons, List.range_succ_eq_map, List.map_cons, List.map_map]
      simp only [List.getD_cons_zero, Int.mul_zero, Int.sub_zero]
      rfl
    rw [e, lies_below n (i + 1) _ (by omega)]
theorem lies_cons {grid : List (List Int)} {d a : Int} {L r : List Int} (hd : d ≠ 0) (hr : r.length = L.length) : liesR ((d :: L) :: belowR grid) (a :: r) = true ↔ a % d = 0 ∧ liesR grid (subRow r L (a / d)) = true := by
  unfold liesR
  have hl : ((d :: L) :: belowR grid).length = grid.length + 1 := by simp [belowR]
  rw [hl, liesGo]
  simp only [List.getD_cons_zero]
  by_cases h : a % d = 0
  · rw [if_neg (by simpa using h)]
    have e : subRow (a :: r) (d :: L) (a / d) = 0 :: subRow r L (a / d) := by
      unfold subRow
      rw [List.length_cons, List.range_succ_eq_map, List.map_cons, List.map_map]
      simp only [List.getD_cons_zero]
      have := Int.ediv_mul_cancel (Int.dvd_of_emod_eq_zero h)
      rw [this, Int.sub_self]
      rfl
    rw [e, show (0 : Nat) + 1 = 0 + 1 from rfl, lies_below grid.length 0 _ (by omega)]
    exact ⟨fun k => ⟨h, k⟩, fun k => k.2⟩
  · rw [if_pos (by simpa using h)]
    exact ⟨fun k => (Bool.false_ne_true k).elim, fun k => absurd k.1 h⟩
theorem sub_get {r L : List Int} {b : Int} {k : Nat} (h : k < r.length) : (subRow r L b).getD k 0 = r.getD k 0 - b * L.getD k 0 := by
  unfold subRow
  rw [List.getD_eq_getElem?_getD, List.getElem?_map, List.getElem?_range h] <;> rfl
theorem GridIn.shape_len {p : Nat} {sub : List Nat} {grid : List (List Int)} (h : GridIn p sub grid) : ∀ c ∈ grid, c.length = sub.length := by
  induction h with
  | nil => intro c hc; simp at hc
  | @cons part h sub grid L hg hh hL hlies ih =>
    intro c hc
    rcases List.mem_cons.mp hc with e | hc
    · rw [e, List.length_cons, List.length_cons]
      have := memb_row_len hL
      rw [diag_len, hg.len] at this
      omega
    · obtain ⟨g, hg2, rfl⟩ := List.mem_map.mp hc
      rw [List.length_cons, List.length_cons, ih g hg2]
structure GOk (p : Nat) (kd : List Nat) (grid C : List (List Int)) : Prop where
  sub : SubS (mods p kd) C
  lies : ∀ r : List Int, r.length = kd.length → liesR grid r = true → timesR (mods p kd) 1 r ∈ C
  cover : ∀ x ∈ C, x ∈ rowsTo (mods p kd) grid grid.length
  len : (rowsTo (mods p kd) grid grid.length).length = C.length
theorem rows_len_cons {m0 d : Int} {L ms : List Int} {grid : List (List Int)} : ∀ n, n ≤ grid.length → (rowsTo (m0 :: ms) ((d :: L) :: belowR grid) (n + 1)).length = (m0 / d).toNat * (rowsTo ms grid n).length
  | 0, _ => by
    rw [rowsTo_succ, rowsStep_len]
    simp [rowsTo]
  | n + 1, h => by
    rw [rowsTo_succ, rowsStep_len, rows_len_cons n (by omega), rowsTo_succ, rowsStep_len, below_get (by omega), List.getD_cons_succ, List.getD_cons_succ, Nat.mul_left_comm]
theorem grid_ok {p : Nat} (hp : 2 ≤ p) {sub : List Nat} {grid : List (List Int)} (h : GridIn p sub grid) : ∃ C, GOk p sub grid C := by
  induction h with
  | nil =>
    refine ⟨[[]], ⟨by simp [noughtR, mods], fun x hx y hy => ?_, fun x hx => ?_, by simp⟩, fun r hr _ => ?_, fun x hx => ?_, rfl⟩
    · rw [List.mem_singleton.mp hx]
      simp [plusR, mods]
    · rw [List.mem_singleton.mp hx]
      simp [memb, mods]
    · simp [mods, timesR]
    · rw [List.mem_singleton.mp hx]
      simp [rowsTo, mods, noughtR]
  | @cons part h sub grid L hg hh hL hlies ih =>
    obtain ⟨C, hC⟩ := ih
    have hm : ∀ m ∈ mods p sub, 0 < m := mods_pos hp
    have hX := expo_gen hp (kind := sub)
    have lL : L.length = sub.length := by
      have := memb_row_len hL
      rw [diag_len, hg.len] at this
      exact this
    have lL2 : L.length = (mods p sub).length := by rw [mods_len]; exact lL
    have hq0 : 0 < p ^ (part - h) := Nat.pow_pos (by omega)
    have hd0 : 0 < p ^ h := Nat.pow_pos (by omega)
    have hm0 : ((p ^ part : Nat) : Int) = ((p ^ (part - h) : Nat) : Int) * ((p ^ h : Nat) : Int) := by rw [← Int.natCast_mul, ← Nat.pow_add, show part - h + h = part by omega]
    have hqL : timesR (mods p sub) ((p ^ (part - h) : Nat) : Int) L ∈ C := by
      have k := hC.lies _ (by rw [List.length_map]; exact lL) hlies
      have e : timesR (mods p sub) 1 (L.map fun n => ((p ^ (part - h) : Nat) : Int) * n) = timesR (mods p sub) ((p ^ (part - h) : Nat) : Int) L := row_ext (timesR_len (by rw [List.length_map]; exact lL2)) (timesR_len lL2) fun j hj => by
        rw [timesR_get j (by rw [List.length_map]; exact lL2) hj, timesR_get j lL2 hj, getD_map_lt (d := 0) (by omega), Int.one_mul]
      rw [e] at k
      exact k
    have hms : mods p (part :: sub) = ((p ^ part : Nat) : Int) :: mods p sub := rfl
    generalize hqe : p ^ (part - h) = q at hq0 hm0 hqL
    generalize hde : p ^ h = d at hd0 hm0
    let C' := (List.range q).flatMap fun (n : Nat) => C.map fun s => ((n : Int) * (d : Int)) :: plusR (mods p sub) s (timesR (mods p sub) (n : Int) L)
    have mem : ∀ x, x ∈ C' ↔ ∃ n : Nat, n < q ∧ ∃ s ∈ C, x = ((n : Int) * (d : Int)) :: plusR (mods p sub) s (timesR (mods p sub) (n : Int) L) := fun x => by
      show x ∈ List.flatMap _ _ ↔ _
      rw [List.mem_flatMap]
      constructor
      · rintro ⟨n, hn, hx⟩
        obtain ⟨s, hs, rfl⟩ := List.mem_map.mp hx
        exact ⟨n, List.mem_range.mp hn, s, hs, rfl⟩
      · rintro ⟨n, hn, s, hs, rfl⟩
        exact ⟨n, List.mem_range.mpr hn, List.mem_map.mpr ⟨s, hs, rfl⟩⟩
    have bnd : ∀ n : Nat, n < q → 0 ≤ (n : Int) * (d : Int) ∧ (n : Int) * (d : Int) < ((p ^ part : Nat) : Int) := fun n hn => by
      rw [hm0]
      exact ⟨Int.mul_nonneg (by omega) (by omega), Int.mul_lt_mul_of_pos_right (by omega) (by omega)⟩
    have tl : ∀ k : Int, (timesR (mods p sub) k L).length = (mods p sub).length := fun k => timesR_len lL2
    have sl : ∀ s ∈ C, s.length = (mods p sub).length := fun s hs => in_len (hC.sub.sub s hs)
    refine ⟨C', ⟨(mem _).mpr ⟨0, hq0, _, hC.sub.zero, ?_⟩, fun x hx y hy => ?_, fun x hx => ?_, ?_⟩, fun r hr hl => ?_, fun x hx => ?_, ?_⟩
    · rw [hms, show ((0 : Nat) : Int) = 0 from rfl, Int.zero_mul, times_zero lL2, plus_nought (in_nought hm)]
      rfl
    · obtain ⟨k, hk, s, hs, rfl⟩ := (mem x).mp hx
      obtain ⟨j, hj, t, ht, rfl⟩ := (mem y).mp hy
      have e : plusR (mods p sub) (plusR (mods p sub) s (timesR (mods p sub) (k : Int) L)) (plusR (mods p sub) t (timesR (mods p sub) (j : Int) L)) = plusR (mods p sub) (plusR (mods p sub) s t) (timesR (mods p sub) ((k + j : Nat) : Int) L) := by
        rw [plus_assoc (sl s hs) (tl _) (plusR_len (sl t ht) (tl _)), ← plus_assoc (tl _) (sl t ht) (tl _), plus_comm (tl _) (sl t ht), plus_assoc (sl t ht) (tl _) (tl _), times_add lL2, ← plus_assoc (sl s hs) (sl t ht) (tl _), show ((k : Int) + (j : Int)) = ((k + j : Nat) : Int) by omega]
      rw [hms, plusR, e]
      by_cases hkj : k + j < q
      · refine (mem _).mpr ⟨k + j, hkj, _, hC.sub.add s hs t ht, ?_⟩
        have b := bnd (k + j) hkj
        rw [← Int.add_mul, show ((k : Int) + (j : Int)) = ((k + j : Nat) : Int) by omega, Int.emod_eq_of_lt b.1 b.2]
      · refine (mem _).mpr ⟨k + j - q, by omega, _, hC.sub.add _ (hC.sub.add s hs t ht) _ hqL, ?_⟩
        have b := bnd (k + j - q) (by omega)
        have e1 : (k : Int) * (d : Int) + (j : Int) * (d : Int) = ((k + j - q : Nat) : Int) * (d : Int) + ((p ^ part : Nat) : Int) := by
          rw [hm0, ← Int.add_mul, ← Int.add_mul, show ((k : Int) + (j : Int)) = ((k + j - q : Nat) : Int) + (q : Int) by omega]
        rw [e1, Int.add_emod_right, Int.emod_eq_of_lt b.1 b.2, plus_assoc (plusR_len (sl s hs) (sl t ht)) (tl _) (tl _), times_add lL2, show (q : Int) + ((k + j - q : Nat) : Int) = ((k + j : Nat) : Int) by omega]
    · obtain ⟨k, hk, s, hs, rfl⟩ := (mem x).mp hx
      rw [hms, mem_memb_cons]
      exact ⟨bnd k hk, in_plus hm (sl s hs) (tl _)⟩
    · show List.Pairwise _ (List.flatMap _ _)
      rw [List.pairwise_flatMap]
      refine ⟨fun n _ => Ab.nodup_map hC.sub.nodup fun y hy z hz e => ?_, ?_⟩
      · have e2 := (List.cons.inj e).2
        exact plus_cancel (hC.sub.sub y hy) (hC.sub.sub z hz) (in_times hm lL2) e2
      · refine List.pairwise_lt_range.imp fun {i j} hij y hy z hz e => ?_
        obtain ⟨s, _, rfl⟩ := List.mem_map.mp hy
        obtain ⟨t, _, e2⟩ := List.mem_map.mp hz
        rw [← e2] at e
        have e3 := (List.cons.inj e).1
        have := Int.eq_of_mul_eq_mul_right (show (d : Int) ≠ 0 by omega) e3
        omega
    · cases r with
      | nil => simp at hr
      | cons a r =>
        have lr : r.length = sub.length := by simpa using hr
        have lr2 : r.length = (mods p sub).length := by rw [mods_len]; exact lr
        obtain ⟨h1, h2⟩ := (lies_cons (show (d : Int) ≠ 0 by omega) (by omega)).mp hl
        have h3 := hC.lies _ (by rw [subRow_len]; exact lr) h2
        have ls : (subRow r L (a / (d : Int))).length = (mods p sub).length := by rw [subRow_len]; exact lr2
        generalize hb : a / (d : Int) = b at h2 h3 ls
        have ha : a = b * (d : Int) := by rw [← hb]; exact (Int.ediv_mul_cancel (Int.dvd_of_emod_eq_zero h1)).symm
        have hqz : (0 : Int) < (q : Int) := by omega
        have k0 := Int.emod_nonneg b (show (q : Int) ≠ 0 by omega)
        have k1 := Int.emod_lt_of_pos b hqz
        have kb := Int.mul_ediv_add_emod b (q : Int)
        have hk : (b % (q : Int)) = (((b % (q : Int)).toNat : Nat) : Int) := by omega
        have s' := hC.sub.add _ h3 _ (hC.sub.timesG hm hX (b / (q : Int)) hqL)
        rw [hms, timesR]
        refine (mem _).mpr ⟨(b % (q : Int)).toNat, by omega, _, s', ?_⟩
        rw [← hk]
        have e1 : 1 * a % ((p ^ part : Nat) : Int) = b % (q : Int) * (d : Int) := by
          rw [Int.one_mul, ha, hm0, Int.mul_comm b, Int.mul_comm (q : Int), Int.mul_emod_mul_of_pos _ _ (show (0 : Int) < (d : Int) by omega), Int.mul_comm]
        have e2 : timesR (mods p sub) 1 r = plusR (mods p sub) (plusR (mods p sub) (timesR (mods p sub) 1 (subRow r L b)) (timesR (mods p sub) (b / (q : Int)) (timesR (mods p sub) (q : Int) L))) (timesR (mods p sub) (b % (q : Int)) L) := by
          rw [plus_assoc (timesR_len ls) (timesR_len (tl _)) (tl _), ← times_mul lL2, times_add lL2, Int.mul_comm, kb]
          refine row_ext (timesR_len lr2) (plusR_len (timesR_len ls) (tl _)) fun j hj => ?_
          rw [timesR_get j lr2 hj, plusR_get j (timesR_len ls) (tl _) hj, timesR_get j ls hj, timesR_get j lL2 hj, sub_get (by omega), Int.emod_add_emod, Int.add_emod_emod, Int.one_mul, Int.one_mul]
          congr 1
          omega
        rw [e1, e2]
    · obtain ⟨k, hk, s, hs, rfl⟩ := (mem x).mp hx
      obtain ⟨f, h1, e⟩ := mem_rowsTo.mp (hC.cover s hs)
      have hgl := hg.len
      have hGl : (((d : Int) :: L) :: belowR grid).length = grid.length + 1 := by simp [belowR]
      rw [hGl]
      refine mem_rowsTo.mpr ⟨fun i => match i with
        | 0 => k
        | i + 1 => f i, fun i hi => ?_, ?_⟩
      · cases i with
        | zero =>
          rw [hms]
          simp only [List.getD_cons_zero]
          rw [hm0, Int.mul_ediv_cancel _ (show (d : Int) ≠ 0 by omega)]
          omega
        | succ i =>
          rw [hms, below_get (by omega), List.getD_cons_succ, List.getD_cons_succ]
          exact h1 i (by omega)
      · have b := bnd k hk
        have shp : ∀ g ∈ grid, g.length = (mods p sub).length := fun g hgm => by
          rw [mods_len]
          exact hg.shape_len g hgm
        have go : ∀ i, i ≤ grid.length → comb (mods p (part :: sub)) (((d : Int) :: L) :: belowR grid) (fun i => match i with
            | 0 => k
            | i + 1 => f i) (i + 1) = ((k : Int) * (d : Int)) :: plusR (mods p sub) (comb (mods p sub) grid f i) (timesR (mods p sub) (k : Int) L) := fun i => by
          induction i with
          | zero =>
            intro _
            rw [comb, comb, comb, hms]
            simp only [List.getD_cons_zero]
            rw [show noughtR (((p ^ part : Nat) : Int) :: mods p sub) = 0 :: noughtR (mods p sub) from rfl, timesR, plusR, Int.zero_add, Int.emod_emod, Int.emod_eq_of_lt b.1 b.2]
          | succ i ih =>
            intro hi
            have gi := shp _ (getD_nil_mem (rs := grid) (k := i) (by omega))
            have ci := comb_len (f := f) shp i (by omega)
            rw [comb, ih (by omega), below_get (by omega), hms, timesR, plusR, comb, Int.mul_zero, Int.zero_emod, Int.add_zero, Int.emod_eq_of_lt b.1 b.2, plus_assoc ci (tl _) (timesR_len gi), plus_comm (tl _) (timesR_len gi), ← plus_assoc ci (timesR_len gi) (tl _)]
        rw [go grid.length (Nat.le_refl _), ← e]
    · have hGl : (((d : Int) :: L) :: belowR grid).length = grid.length + 1 := by simp [belowR]
      rw [hGl, hms, rows_len_cons grid.length (Nat.le_refl _), hC.len, hm0, Int.mul_ediv_cancel _ (show (d : Int) ≠ 0 by omega), Int.toNat_natCast]
      show _ = (List.flatMap _ _).length
      rw [const_flatMap_len fun n => by rw [List.length_map]]
theorem gridRows_sub {p : Nat} {kind : List Nat} {grid : List (List Int)} (hR : RoomOk p kind) (hg : GridIn p kind grid) : SubL (mods p kind) (gridRows (mods p kind) grid) := by
  obtain ⟨C, hC⟩ := grid_ok hR.p2 hg
  have hp : (rowsTo (mods p kind) grid grid.length).Perm C := perm_of_cover C _ hC.sub.nodup hC.cover (by rw [hC.len]; exact Nat.le_refl _)
  have e : gridRows (mods p kind) grid = sortR C := by
    show sortR (rowsTo (mods p kind) grid grid.length) = sortR C
    refine sorted_uniq (sortR_sorted _) (sortR_sorted _) ?_
    exact ((List.mergeSort_perm _ lexLe).trans hp).trans (List.mergeSort_perm _ lexLe).symm
  rw [e, sort_canon hC.sub.nodup hC.sub.sub]
  exact hC.sub.canon
theorem listR_sub {p : Nat} {kind : List Nat} (hR : RoomOk p kind) : ∀ W ∈ listR p kind, SubL (mods p kind) W := fun W hW => by
  obtain ⟨g, hg, rfl⟩ := List.mem_map.mp ((listR_perm p kind).mem_iff.mp hW)
  exact gridRows_sub hR (gridsR_in g hg)
end K82
/-! Rules of the logic: items of an own list set, the hand. -/
namespace K82
open PySem PySem.Spec PyProof.Rows L2
section
variable {B : Bs} {A : AS} {X : Cx} {a b c e i : Expr} {es : List Expr} {pos : Pos} {P : Po}
theorem muSet {Bd : Bs} {k : Nat} {l : Addr} {m m' : MTy} (hk : A.Mu[k]? = some (l, m)) (h4 : ∀ (k : Nat) l m, A.Mu[k]? = some (l, m) → Bd.H l = none) : ∀ (j : Nat) l' n, (A.Mu.set k (l, m'))[j]? = some (l', n) → Bd.H l' = none := fun j l' n q => by
  by_cases hj : k = j
  · subst hj
    rw [List.getElem?_set_self (List.getElem?_eq_some_iff.mp hk).1] at q
    cases q
    exact h4 k l _ hk
  · rw [List.getElem?_set_ne hj] at q
    exact h4 j l' n q
theorem ixN_nat {n j : Nat} (h : j < n) : ixN n (j : Int) = some j := by
  unfold ixN
  rw [if_pos (by omega), if_pos (by omega)] <;> rfl
/-- x[j] = e -/
theorem so_setMu (n k j : Nat) {x : Str} {l : Addr} {ds ds' : List PyData} {d : PyData} {px ps : Pos} (hk : A.Mu[k]? = some (l, .lst ds)) (hj : j < ds.length) (he : Ev A X e d) (hi : Ev A X i (.int (j : Int))) (hd' : ds.set j d = ds') (h : P.nx { A with Mu := A.Mu.set k (l, .lst ds') })
    (hΓ : A.Γ[n]? = some (some (.adr l)) := by rfl) (hN : X.N[n]? = some x := by rfl) (hv : Vis X.env.scope x := by first | exact Or.inl rfl | exact Or.inr (Or.inl rfl) | exact Or.inr (Or.inr rfl))
    (hd : (x == ("__debug__" : Str)) = false := by decide) (hcd : (x == ("__classdict__" : Str)) = false := by decide)
    (hs : swapsWithSole [.Subscript (.Name x px) i ps] e pos.line X.env = pure false := by rfl) (hw : swappedStores [.Subscript (.Name x px) i ps] e X.env = pure none := by rfl)
    (h1' : (assignEach [.Subscript (.Name x px) i ps] X.env).map (·.2) = [assign (.Subscript (.Name x px) i ps) X.env] := by rfl)
    (hga : ∀ v, assign (.Subscript (.Name x px) i ps) X.env v = (do
      let ov ← holding [v] (eval (.Name x px) X.env)
      let iv ← holding [v, ov] (eval i X.env)
      standAt ps
      holding [v, ov, iv] (setItem ov iv v)
      release [v, ov, iv] []) := by intro _; rfl) : So B X (.Assign [.Subscript (.Name x px) i ps] e pos) A P := fun Z σ H ⟨h0, G, h1, h2, h3, h4⟩ => by
  refine (ps_asg pe_s (pg_sub (pe_var hN hv hd hcd) pe_s set_list hga) hs hw h1').s ?_
  obtain ⟨v, e1, e2⟩ := h3.sl n _ hΓ
  have e2 : v = .ref l := e2
  subst e2
  show SE X e σ H fun y H1 => ∃ v, σ[n]? = some (some v) ∧ SE X i σ H1 fun z H2 => rSetL v z y H2 fun H3 => (P.ends B Z).nx σ H3
  refine he G σ H h3 _ fun w H1 G1 t F p hw => ⟨.ref l, e1, hi G1 σ H1 (h3.step F) _ fun z H2 G2 t2 F2 p2 hz => ?_⟩
  subst p p2
  have hz := Da.int_inv hz
  subst hz
  have F12 := F.trans F2
  obtain ⟨g0, g1, vs, g2, g3⟩ := (h3.step F12).mu k l _ hk
  have F3 : Fr B.hd B.H B.G H2 G2 := h2.trans (h0 ▸ F12)
  have hl := g3.length
  refine ⟨l, vs, _, j, rfl, rfl, g2, ixN_nat (by omega), _, h, h0, G2, h1.trans F12.gg, F3.mut (h4 k l _ hk) g0 (by rw [← h0]; exact g1), (h3.step F12).mutate hk ⟨vs.set j w, upd_same, ?_⟩, muSet hk h4⟩
  rw [← hd']
  have st : ∀ {vs : List V} {ds : List PyData} (j : Nat), DaAll G2 vs ds → DaAll G2 (vs.set j w) (ds.set j d) := fun {vs ds} j hh => by
    induction j generalizing vs ds with
    | zero =>
      cases hh with
      | nil => exact .nil
      | cons a t => exact .cons (Da.mono F2.gg hw) t
    | succ j ih =>
      cases hh with
      | nil => exact .nil
      | cons a t => exact .cons a (ih t)
  exact st j g3
def rGetL (K : PySem.W.Frag) : V → V → Hp → VK → Prop := fun o i H Q => ∃ p xs k v, o = .ref p ∧ i = .int k ∧ SqL K H p xs ∧ 0 ≤ k ∧ k < 2 ^ 62 ∧ xs[k.toNat]? = some v ∧ Q v H
theorem get_list : PGet X (rGetL X.K) := by
  intro pins s σ H o i ov iv Q I ro ri h
  obtain ⟨p, xs, k, v, rfl, rfl, hp, h0, h1, hx, q⟩ := h
  obtain ⟨t, rfl⟩ := ri
  obtain rfl : ov = Value.ref p := ro
  obtain ⟨its, r, pl, hz⟩ := I.list hp
  obtain ⟨u, hu, ru⟩ := r.get hx
  exact wpAny_getItem_list pl.isList h0 (by omega) (by simpa using hu) ⟨v, H, I, ru, q⟩
/-- x[j] += e, of ints -/
theorem so_augMu (n k j : Nat) {x : Str} {l : Addr} {ds ds' : List PyData} {p q : Int} {px tp : Pos} (hk : A.Mu[k]? = some (l, .lst ds)) (hj : ds[j]? = some (.int p)) (hj2 : j < 100) (hi : Ev A X i (.int (j : Int))) (he : Ev A X e (.int q)) (hd' : ds.set j (.int (p + q)) = ds') (h : P.nx { A with Mu := A.Mu.set k (l, .lst ds') })
    (hΓ : A.Γ[n]? = some (some (.adr l)) := by rfl) (hN : X.N[n]? = some x := by rfl) (hv : Vis X.env.scope x := by first | exact Or.inl rfl | exact Or.inr (Or.inl rfl) | exact Or.inr (Or.inr rfl))
    (hd : (x == ("__debug__" : Str)) = false := by decide) (hcd : (x == ("__classdict__" : Str)) = false := by decide)
    (ha : ∀ ov iv new, augStore i ov iv new = (do holding [new, ov, iv] (setItem ov iv new); release [new, ov, iv] []; pure .next) := by intros; rfl) : So B X (.AugAssign (.Subscript (.Name x px) i tp) .Add e pos) A P := fun Z σ H ⟨h0, G, h1, h2, h3, h4⟩ => by
  refine (ps_augS (pe_var hN hv hd hcd) pe_s get_list pe_s ip_add set_list ha).s ?_
  obtain ⟨v, e1, e2⟩ := h3.sl n _ hΓ
  have e2 : v = .ref l := e2
  subst e2
  show ∃ v, σ[n]? = some (some v) ∧ SE X i σ H fun z H2 => rGetL X.K v z H2 fun x3 H3 => SE X e σ H3 fun y H4 => ipI (fun i j => i + j) x3 y H4 fun w H5 => rSetL v z w H5 fun H6 => (P.ends B Z).nx σ H6
  refine ⟨.ref l, e1, hi G σ H h3 _ fun z H2 G2 t2 F2 p2 hz => ?_⟩
  subst p2
  have hz := Da.int_inv hz
  subst hz
  obtain ⟨_, _, vs, g2, g3⟩ := (h3.step F2).mu k l _ hk
  obtain ⟨w3, w1, w2⟩ := g3.get hj
  have w2 := Da.int_inv w2
  subst w2
  refine ⟨l, vs, (j : Int), .int p, rfl, rfl, SqL.of g2, by omega, by omega, by simpa using w1, he G2 σ H2 (h3.step F2) _ fun y H4 G4 t4 F4 p4 hy => ?_⟩
  subst p4
  have hy := Da.int_inv hy
  subst hy
  have F12 := F2.trans F4
  obtain ⟨g0, g1, vs4, k2, k3⟩ := (h3.step F12).mu k l _ hk
  have F3 : Fr B.hd B.H B.G H4 G4 := h2.trans (h0 ▸ F12)
  have hl := k3.length
  have hjl := (List.getElem?_eq_some_iff.mp hj).1
  refine ⟨p, q, rfl, rfl, l, vs4, (j : Int), j, rfl, rfl, k2, ixN_nat (by omega), _, h, h0, G4, h1.trans F12.gg, F3.mut (h4 k l _ hk) g0 (by rw [← h0]; exact g1), (h3.step F12).mutate hk ⟨vs4.set j (.int (p + q)), upd_same, ?_⟩, muSet hk h4⟩
  rw [← hd']
  have st : ∀ {vs : List V} {ds : List PyData} (j : Nat), DaAll G4 vs ds → DaAll G4 (vs.set j (.int (p + q))) (ds.set j (.int (p + q))) := fun {vs ds} j hh => by
    induction j generalizing vs ds with
    | zero =>
      cases hh with
      | nil => exact .nil
      | cons a t => exact .cons (Da.int _) t
    | succ j ih =>
      cases hh with
      | nil => exact .nil
      | cons a t => exact .cons a (ih t)
  exact st j k3
/-- x, y, z = [], b, c -/
theorem so_par3New (n1 n2 n3 : Nat) {x y z : Str} {px py pz pt pl : Pos} {kt k2 : Nat} {pt2 : Pos} {t u : Ty} (hNd : X.N.Nodup) (hb : EvT A X b t) (hc' : EvT A X c u) (k : ∀ l, P.nx { hd := A.hd, Γ := ((A.Γ.set n1 (some (.adr l))).set n2 (some t)).set n3 (some u), Mu := (l, .lst []) :: A.Mu })
    (hi : X.N[n1]? = some x := by rfl) (hj : X.N[n2]? = some y := by rfl) (hl : X.N[n3]? = some z := by rfl) (hij : n1 ≠ n2 := by decide) (hil : n1 ≠ n3 := by decide) (hjl : n2 ≠ n3 := by decide)
    (hx : X.env.scope.names.lookup x = some .local := by rfl) (hy : X.env.scope.names.lookup y = some .local := by rfl) (hz : X.env.scope.names.lookup z = some .local := by rfl) (hc : X.calm = true := by rfl)
    (s1 : starEach [.List [] pl, b, c] X.env = (false, eval (.List [] pl) X.env) :: starEach [b, c] X.env := by rfl) (s2 : starEach [b, c] X.env = (false, eval b X.env) :: starEach [c] X.env := by rfl) (s3 : starEach [c] X.env = (false, eval c X.env) :: starEach [] X.env := by rfl)
    (hw : swappedStores [.Tuple [.Name x px, .Name y py, .Name z pz] kt pt] (.Tuple [.List [] pl, b, c] k2 pt2) X.env = pure (some [x, y, z]) := by rfl)
    (hs : swapsWithSole [.Tuple [.Name x px, .Name y py, .Name z pz] kt pt] (.Tuple [.List [] pl, b, c] k2 pt2) pos.line X.env = pure false := by rfl) : So B X (.Assign [.Tuple [.Name x px, .Name y py, .Name z pz] kt pt] (.Tuple [.List [] pl, b, c] k2 pt2) pos) A P := fun Z σ H ⟨h0, G, h1, h2, h3, h4⟩ => by
  refine (ps_par3 hc hNd hi hj hl hij hil hjl hx hy hz (pa_cons (pe_lst pa_nil) (pa_cons pe_s (pa_cons pe_s pa_nil s3) s2) s1) hw hs).s ?_
  refine ⟨Nat.zero_le _, fun l hl' => ?_⟩
  have F0 := (Fr.refl (hd := A.hd) h3.gh).newT (o := .lst []) hl'
  have gl : G l = none := h3.gh.free hl'
  have nh : A.hd ≠ some l := fun e => by
    obtain ⟨⟨_, _, _, _, _, _, z1, _⟩, _⟩ := h3.hand l e
    rw [hl'] at z1
    cases z1
  show SE X b σ (upd H l (.lst [])) fun v1 H1 => SE X c σ H1 fun v2 H2 => ∃ w1 w2 w3, [V.ref l, v1, v2] = [w1, w2, w3] ∧ (P.ends B Z).nx (((σ.set n1 (some w1)).set n2 (some w2)).set n3 (some w3)) H2
  refine hb G σ _ (h3.step F0) _ fun v1 H1 G1 t1 F1 p1 hv1 => hc' G1 σ H1 ((h3.step F0).step F1) _ fun v2 H2 G2 t2 F2 p2 hv2 => ?_
  subst p1 p2
  have F := (F0.trans F1).trans F2
  have F12 := F1.trans F2
  have hl2 := F12.keep l _ nh upd_same
  have gl2 := F12.fr l _ upd_same gl rfl
  have C2 := (((h3.own' (m := .lst []) hl' F gl2 ⟨[], hl2, .nil⟩).put (t := .adr l) (v := .ref l) n1 rfl).put n2 (hv1.mono F2.gg)).put n3 hv2
  refine ⟨_, _, _, rfl, _, k l, h0, G2, h1.trans F.gg, h2.trans (h0 ▸ F), C2, fun j l' n q => ?_⟩
  cases j with
  | zero =>
    have q : some (l, MTy.lst []) = some (l', n) := q
    cases q
    cases zz : B.H l with
    | none => rfl
    | some w =>
      obtain ⟨o', h', _⟩ := h2.ex l w zz
      rw [hl'] at h'
      cases h'
  | succ j => exact h4 j l' n q
end
/-! ### the hand as an own list -/
abbrev handD (q s : Int) (cells : List Int) (t m : Int) : List PyData := [.int q, .int s, iL cells, .int t, .int m]
section
variable {P : Program} {w : World} {K : PySem.W.Frag} {mg : Str → Option Value} {base : Heap}
theorem defHd_ok {x qual : Str} {params : Arguments} {body : List Stmt} {sc : Scope} {dvs : List V} {f : Addr} {fd : FuncData} {N ps : List Str} {k : Nat} {Pre : Pr} (F : FunD K x qual params body sc dvs [] f fd) (S : FnScope N ps sc) (len : ∀ ts T, Pre ts T → ts.length + 1 = ps.length)
    (h : ∀ (cdv : Value) (A : Around) (outer : List Env) (s : Shared) (H : Hp) (E : XK) (G : Hp) p ts T Hl q1 q2 cells q3 q4, Room k (A.deeper (envOfC qual sc s.heap.objs.size f cdv)) → Pre ts T → 0 ≤ q3 →
      Sos ⟨Hl, G, none⟩ (cxx P w K mg base N qual sc f cdv A outer s H E) body ⟨none, startT N (.adr p :: ts), [(p, .lst (handD q1 q2 cells q3 q4))]⟩ { nx := fun _ => False, rt := T, ra := fun A' => ∃ (q1 q2 : Int) (cells : List Int) (q3 q4 : Int), 0 ≤ q3 ∧ A'.Mu[0]? = some (p, .lst (handD q1 q2 cells q3 q4)) }) :
    FnOk P w K mg base CX0 (k + 1) f fd ps (spH Pre) := by
  refine F.ok S (fun vs H Q E ⟨G, p, ts, T, h1, _, _, h2, h3, _⟩ => h2.length.trans (len ts T h3)) fun cdv A outer s H vs Q E hr ⟨G, p, ts, T, h1, k1, k2, h2, h3, h4⟩ => ?_
  refine ⟨SSs (cxx P w K mg base N qual sc f cdv A outer s H E) body, PSs.nox pss_s, ?_⟩
  obtain ⟨e1, e2⟩ := start_sl (N := N) h2
  obtain ⟨q1, q2, q3, q4, c, cells, hp, hc, hq3⟩ := k1
  have s1 : Same G (less H p) := fun b o e => by
    rw [less_ne (fun z => by rw [z, k2] at e; cases e)]
    exact h1 b o e
  have s2 : Same (less H p) H := fun b o e => by
    by_cases z : b = p
    · rw [z, less_same] at e
      cases e
    · rw [less_ne z] at e
      exact e
  refine (h cdv A outer s H E G p ts T (less H p) q1 q2 cells q3 q4 hr h3 hq3 (fun _ => none) (L2.start N vs) H ⟨rfl, G, (fun b o e => nomatch e), Fr.of_same s2 (Same.refl _) h1 (fun _ _ _ n _ => n), ⟨h1, (fun p e => nomatch e), e1, e2, (fun k l' m q => ?_), (fun i j l' m m' z1 z2 => ?_)⟩, (fun k l' m q => ?_)⟩).mono (fun σ' H' ⟨A', q, _⟩ => q.elim) (fun v H' ⟨G', t, r1, r2, r3, A', ⟨x1, x2, x3, x4, x5, y1, y2⟩, r4⟩ => ?_) (fun _ _ ⟨_, q, _⟩ => q.elim) fun _ _ ⟨_, q, _⟩ => q.elim
  · cases k with
    | zero =>
      have q : some (p, MTy.lst (handD q1 q2 cells q3 q4)) = some (l', m) := q
      cases q
      exact ⟨k2, (fun z => nomatch z), _, hp, .cons (.int _) (.cons (.int _) (.cons (.lst hc (DaAll.of_ints _)) (.cons (.int _) (.cons (.int _) .nil))))⟩
    | succ k => exact absurd q (by simp)
  · cases i with
    | zero =>
      cases j with
      | zero => rfl
      | succ j => exact absurd z2 (by simp)
    | succ i => exact absurd z1 (by simp)
  · cases k with
    | zero =>
      have q : some (p, MTy.lst (handD q1 q2 cells q3 q4)) = some (l', m) := q
      cases q
      exact less_same
    | succ k => exact absurd q (by simp)
  · obtain ⟨g0, vs', hv1, hv2⟩ := r4 0 _ _ y2
    have hok : HandOk G' H' p := by
      cases hv2 with
      | cons a1 t1 => cases t1 with
        | cons a2 t2 => cases t2 with
          | cons a3 t3 => cases t3 with
            | cons a4 t4 => cases t4 with
              | cons a5 t5 =>
                cases t5
                obtain ⟨c', xs', rfl, f1, f2⟩ := a3.lst_inv
                rw [f2.ints] at f1
                rw [a1.int_inv, a2.int_inv, a4.int_inv, a5.int_inv] at hv1
                exact ⟨_, _, _, _, c', x3, hv1, f1, y1⟩
    refine h4 v H' G' t ⟨fun b o n e => r2.keep b o (fun z => by cases z) ((less_ne (fun z => n (by rw [z]))).trans e), fun b o e => ?_, fun p' e _ => ?_, r2.gg, r2.gh, fun b o e n t => ?_⟩ r1 r3
    · by_cases z : b = p
      · subst z
        rw [hp] at e
        cases e
        exact ⟨_, hv1, rfl⟩
      · exact r2.ex b o ((less_ne z).trans e)
    · cases e
      exact hok
    · by_cases z : b = p
      · rw [z]
        exact g0
      · exact r2.fr b o ((less_ne z).trans e) n t
end
end K82
namespace K82
open PySem PySem.Spec PyProof.Rows L2
section
variable {P : Program} {w : World} {K : PySem.W.Frag} {mg : Str → Option Value} {base : Heap} {f : Addr} {fd : FuncData}
/-! ### _law_draw -/
abbrev sDraw : Stmt := topS 33
abbrev nDraw : List Str := ["_law_hand_here", "_law_many", "_law_cell", "_law_told"]
theorem scDraw : FnScope nDraw ["_law_hand_here", "_law_many"] (defScope sDraw) := ⟨rfl, rfl, rfl, by decide +kernel, rfl, by decide +kernel, by decide +kernel⟩
def drawT (n : Int) : Ty → Prop := fun u => ∃ i : Int, (0 ≤ i ∧ i < n) ∧ u = .dat (.int i)
def prDraw : Pr := fun ts T => ∃ n : Int, ts = [.dat (.int n)] ∧ 0 < n ∧ n ≤ 100000 ∧ T = drawT n
theorem ok_draw (F : FunT K "_law_draw" sDraw [] f fd) (ml : mg "len" = none) (mi : mg "int" = none) : FnOk P w K mg base CX0 1 f fd ["_law_hand_here", "_law_many"] (spH prDraw) := by
  refine defHd_ok F scDraw (fun ts T h => ?_) (fun cdv A outer s H E G p ts T Hl q1 q2 cells q3 q4 hr h h3 => ?_)
  · obtain ⟨n, rfl, _⟩ := h
    rfl
  · obtain ⟨n, rfl, hn, hn2, rfl⟩ := h
    have tail : ∀ (a1 a2 : Int) (c3 : List Int) (a3 a4 : Int) (v : Option Ty), 0 ≤ a3 →
        Sos ⟨Hl, G, none⟩ (cxx P w K mg base nDraw "_law_draw" (defScope sDraw) f cdv A outer s H E) ((defBody sDraw).drop 1) ⟨none, [some (.adr p), some (.dat (.int n)), v, none], [(p, .lst (handD a1 a2 c3 a3 a4))]⟩ { nx := fun _ => False, rt := drawT n, ra := fun A' => ∃ (q1 q2 : Int) (cells : List Int) (q3 q4 : Int), 0 ≤ q3 ∧ A'.Mu[0]? = some (p, .lst (handD q1 q2 cells q3 q4)) } := by
      intro a1 a2 c3 a3 a4 v h3
      refine sos_cons (so_ifE (tv_gt (ev_ixMu 0 (ev_var 0) rfl ev_int rfl) ev_int) (fun hb => ?_) fun hb => sos_nil ?_)
      · refine sos_cons (so_set (t := .dat (.int (a1 % n))) 3 scDraw.nd (ev_mod (ev_int1 mi (ev_ixMu 0 (ev_var 0) rfl ev_int rfl)) (ev_var 1) hn) ?_)
        refine sos_cons (so_setMu 0 0 0 rfl (show 0 < 5 from by decide) (ev_fdiv (ev_ixMu 0 (ev_var 0) rfl ev_int rfl) (ev_var 1) ⟨hn, by omega⟩) ev_int rfl ?_)
        exact sos_cons (so_ret (T := fun u => u = .dat (.int (a1 % n))) (ev_var 3) (fun t e => ⟨a1 % n, ⟨Int.emod_nonneg _ (by omega), Int.emod_lt_of_pos _ hn⟩, e⟩) ⟨_, _, _, _, _, h3, rfl⟩)
      · refine sos_cons (so_augMu 0 0 4 rfl rfl (by decide) ev_int ev_int rfl ?_)
        refine sos_cons (so_setMu 0 0 1 rfl (show 1 < 5 from by decide) (ev_mod (ev_int1 mi (ev_add (ev_add (ev_mul (ev_ixMu 0 (ev_var 0) rfl ev_int rfl) ev_int (.inr (by omega))) (ev_mul ev_int (ev_ixMu 0 (ev_var 0) rfl ev_int rfl) (.inl (by omega)))) ev_int)) ev_int (by omega)) ev_int rfl ?_)
        exact sos_cons (so_ret (T := fun u => u = .dat (.int (_ % n))) (ev_mod (ev_fdiv (ev_ixMu 0 (ev_var 0) rfl ev_int rfl) ev_int ⟨by omega, by omega⟩) (ev_var 1) hn) (fun t e => ⟨_ % n, ⟨Int.emod_nonneg _ (by omega), Int.emod_lt_of_pos _ hn⟩, e⟩) ⟨_, _, _, _, _, h3, rfl⟩)
    refine sos_cons (so_ifE (tv_and (tv_eq (ev_ixMu 0 (ev_var 0) rfl ev_int rfl) ev_int) fun _ => tv_lt (ev_ixMu 0 (ev_var 0) rfl ev_int rfl) (ev_lenL ml (ev_ixMu (d := iL cells) 0 (ev_var 0) rfl ev_int rfl))) (fun hb => ?_) fun hb => sos_nil (tail _ _ _ _ _ _ h3))
    have hlt : q3 < (cells.length : Int) := by
      rw [List.length_map] at hb
      simp at hb
      exact hb.2
    obtain ⟨c, hc⟩ : ∃ c, cells[q3.toNat]? = some c := ⟨_, List.getElem?_eq_getElem (by omega)⟩
    refine sos_cons (so_set (t := .dat (.int c)) 2 scDraw.nd (ev_ixL (ev_ixMu (d := iL cells) 0 (ev_var 0) rfl ev_int rfl) (ev_ixMu 0 (ev_var 0) rfl ev_int rfl) ?_) ?_)
    · have e : q3 = ((q3.toNat : Nat) : Int) := by omega
      rw [e]
      exact at_map hc
    refine sos_cons (so_augMu 0 0 3 rfl rfl (by decide) ev_int ev_int rfl ?_)
    refine sos_cons (so_ifE (tv_ge (ev_var 2) (ev_pow ev_int ev_int ⟨by omega, by omega, by decide⟩)) (fun hb => ?_) fun hb => ?_)
    · exact sos_cons (so_setMu 0 0 0 rfl (show 0 < 5 from by decide) (ev_var 2) ev_int rfl (sos_nil (sos_nil (tail _ _ _ _ _ _ (by omega)))))
    · exact sos_cons (so_setMu 0 0 1 rfl (show 1 < 5 from by decide) (ev_mod (ev_int1 mi (ev_add (ev_add (ev_mul (ev_ixMu 0 (ev_var 0) rfl ev_int rfl) ev_int (.inr (by omega))) (ev_var 2)) ev_int)) ev_int (by omega)) ev_int rfl (sos_nil (sos_nil (tail _ _ _ _ _ _ (by omega)))))
theorem EvA.imp {A : AS} {X : Cx} {es : List Expr} {T T' : List Ty → Prop} (h : EvA A X es T) (k : ∀ t, T t → T' t) : EvA A X es T' := fun G σ H C Q q => h G σ H C Q fun v H' G' t F p => q v H' G' t F (k t p)
/-! ### _law_kind -/
abbrev sKind : Stmt := topS 36
abbrev nKind : List Str := ["_law_hand_here", "_law_total", "_law_kind_here", "_law_left", "_law_last", "_law_k"]
theorem scKind : FnScope nKind ["_law_hand_here", "_law_total"] (defScope sKind) := ⟨rfl, rfl, rfl, by decide +kernel, rfl, by decide +kernel, by decide +kernel⟩
structure KindOk (t : Nat) (kind : List Nat) : Prop where
  len : kind.length ≤ 4
  pos : ∀ c ∈ kind, 1 ≤ c
  fall : kind.Pairwise (· ≥ ·)
  sum : kind.sum ≤ t
abbrev nD (ns : List Nat) : List PyData := ns.map fun (n : Nat) => PyData.int (n : Int)
def prKind : Pr := fun ts T => ∃ t : Nat, ts = [.dat (.int (t : Int))] ∧ t ≤ 6 ∧ T = fun u => ∃ kind, KindOk t kind ∧ u = .dat (nT kind)
theorem ok_kind (F : FunT K "_law_kind" sKind [] f fd) (hD : Fd P w K mg base "_law_draw" 1 ["_law_hand_here", "_law_many"] [] (spH prDraw)) (mr : mg "range" = none) (mm : mg "min" = none) (mt : mg "tuple" = none) : FnOk P w K mg base CX0 2 f fd ["_law_hand_here", "_law_total"] (spH prKind) := by
  refine defH_ok F scKind (fun ts T h => ?_) (fun cdv A outer s H E G p ts T hr h => ?_)
  · obtain ⟨t, rfl, _⟩ := h
    rfl
  · obtain ⟨t, rfl, ht, rfl⟩ := h
    refine sos_cons (so_par3New 2 3 4 (t := .dat (.int (t : Int))) (u := .dat (.int (t : Int))) scKind.nd (ev_var 1) (ev_var 1) fun l => ?_)
    refine sos_cons (so_forR 5 scKind.nd (by rfl) mr ev_int (by omega) (fun i A => ∃ (kind : List Nat) (lf la : Nat) (v : Option Ty), A = ⟨some p, [some (.adr p), some (.dat (.int (t : Int))), some (.adr l), some (.dat (.int (lf : Int))), some (.dat (.int (la : Int))), v], [(l, .lst (nD kind))]⟩ ∧ kind.length ≤ i ∧ (∀ c ∈ kind, 1 ≤ c ∧ la ≤ c) ∧ kind.Pairwise (· ≥ ·) ∧ kind.sum + lf = t ∧ (1 ≤ lf → 1 ≤ la)) ⟨[], t, t, _, rfl, Nat.le_refl _, (fun c h => nomatch h), .nil, by simp, fun h => h⟩ ?_ ?_)
    · rintro i A' hi ⟨kind, lf, la, v, rfl, h1, h2, h3, h4, h5⟩
      have fin : ∀ v', Sos ⟨H, G, some p⟩ (cxx P w K mg base nKind "_law_kind" (defScope sKind) f cdv A outer s H E) ((defBody sKind).drop 2) ⟨some p, [some (.adr p), some (.dat (.int (t : Int))), some (.adr l), some (.dat (.int (lf : Int))), some (.dat (.int (la : Int))), v'], [(l, .lst (nD kind))]⟩ { nx := fun _ => ∃ kind, KindOk t kind ∧ Ty.dat .none = .dat (nT kind), rt := fun u => ∃ kind, KindOk t kind ∧ u = .dat (nT kind) } := by
        intro v'
        refine sos_freeze 2 0 rfl rfl ?_
        exact sos_cons (so_retE (ev_tupleL mt (ev_var 2)) ⟨kind, ⟨by omega, fun c hc => (h2 c hc).1, h3, by omega⟩, rfl⟩)
      refine sos_cons (so_ifE (tv_eq (ev_var 3) ev_int) (fun hb => ?_) fun hb => sos_nil ?_)
      · exact sos_cons (so_break (fin _))
      · have hl0 : 1 ≤ lf := by
          have : ¬ ((lf : Int) = 0) := by simpa using hb
          omega
        have hla := h5 hl0
        refine sos_cons (so_asg 4 scKind.nd (ep_addR ev_int (ep_callH (U := fun ts => ts = [.dat (.int (if (la : Int) < (lf : Int) then (la : Int) else (lf : Int)))]) (T := drawT (if (la : Int) < (lf : Int) then (la : Int) else (lf : Int))) rfl hD (hr.mono (by omega)) ?_ ?_)) fun u hu => ?_)
        · exact EvA.imp (ea_cons (ev_var 0) (ea_cons (ev_min mm (ev_var 3) (ev_var 4)) ea_nil)) fun ts e => ⟨_, rfl, e⟩
        · rintro ts rfl
          exact ⟨_, rfl, by split <;> omega, by split <;> omega, rfl⟩
        obtain ⟨j, ⟨hj1, hj2⟩, rfl⟩ := hu
        obtain ⟨n, rfl⟩ : ∃ n : Nat, j = (n : Int) := ⟨j.toNat, by omega⟩
        have hn : n < la ∧ n < lf := by
          split at hj2 <;> omega
        refine sos_cons (so_appE (ds' := nD (kind ++ [n + 1])) 2 0 rfl (by rw [List.length_map]; omega) (d := .int (1 + (n : Int))) (ev_var 4) ?_ ?_)
        · unfold nD
          rw [List.map_append]
          have e : (1 + (n : Int)) = ((n + 1 : Nat) : Int) := by omega
          rw [e] <;> rfl
        · refine sos_cons (so_augSub 3 scKind.nd (ev_var 4) (sos_nil ⟨kind ++ [n + 1], lf - (n + 1), n + 1, some (.dat (.int (i : Int))), ?_, ?_, ?_, ?_, ?_, ?_⟩))
          · have e1 : (1 + (n : Int)) = ((n + 1 : Nat) : Int) := by omega
            have e2 : (lf : Int) - ((n + 1 : Nat) : Int) = ((lf - (n + 1) : Nat) : Int) := by omega
            rw [e1, e2] <;> rfl
          · rw [List.length_append, List.length_singleton]
            omega
          · intro c hc
            rcases List.mem_append.mp hc with hc | hc
            · have := h2 c hc
              omega
            · rw [List.mem_singleton.mp hc]
              omega
          · refine List.pairwise_append.mpr ⟨h3, List.pairwise_singleton .., fun a ha b hb => ?_⟩
            rw [List.mem_singleton.mp hb]
            have := h2 a ha
            omega
          · rw [List.sum_append, List.sum_singleton]
            omega
          · intro _
            omega
    · rintro A' ⟨kind, lf, la, v, rfl, h1, h2, h3, h4, h5⟩
      refine sos_freeze 2 0 rfl rfl ?_
      exact sos_cons (so_retE (ev_tupleL mt (ev_var 2)) ⟨kind, ⟨h1, fun c hc => (h2 c hc).1, h3, by omega⟩, rfl⟩)
/-! ### _law_drawn_room -/
abbrev sDR : Stmt := topS 37
abbrev nDR : List Str := ["_law_hand_here", "_law_rare", "_law_top", "_law_which", "_law_most", "_law_total"]
theorem scDR : FnScope nDR ["_law_hand_here", "_law_rare", "_law_top"] (defScope sDR) := ⟨rfl, rfl, rfl, by decide +kernel, rfl, by decide +kernel, by decide +kernel⟩
def prDR : Pr := fun ts T => ts = [.dat (.int 16), .dat (.int 6)] ∧ T = fun u => ∃ (p : Nat) (kind : List Nat), RoomOk p kind ∧ u = .dat (.tuple [.int (p : Int), nT kind])
theorem mostOk {z m t : Nat} {kind : List Nat} (hw : z < 3) (hm : m = [4, 3, 2].getD z 0 ∨ m = [6, 4, 2].getD z 0) (ht : t ≤ m) (h : KindOk t kind) : RoomOk ([2, 3, 5].getD z 0) kind := by
  have h1 := h.sum
  have h2 : z = 0 ∨ z = 1 ∨ z = 2 := by omega
  have h3 : kind.sum ≤ m := by omega
  rcases h2 with rfl | rfl | rfl
  · have h4 : m ≤ 6 := by
      rcases hm with rfl | rfl <;> decide
    exact ⟨.inl rfl, h.len, h.pos, h.fall, by omega, Nat.le_trans (Nat.pow_le_pow_right (by decide) (by omega : kind.sum ≤ 6)) (by decide)⟩
  · have h4 : m ≤ 4 := by
      rcases hm with rfl | rfl <;> decide
    exact ⟨.inr (.inl rfl), h.len, h.pos, h.fall, by omega, Nat.le_trans (Nat.pow_le_pow_right (by decide) (by omega : kind.sum ≤ 4)) (by decide)⟩
  · have h4 : m ≤ 2 := by
      rcases hm with rfl | rfl <;> decide
    exact ⟨.inr (.inr rfl), h.len, h.pos, h.fall, by omega, Nat.le_trans (Nat.pow_le_pow_right (by decide) (by omega : kind.sum ≤ 2)) (by decide)⟩
theorem ok_dr (F : FunT K "_law_drawn_room" sDR [] f fd) (hD : Fd P w K mg base "_law_draw" 1 ["_law_hand_here", "_law_many"] [] (spH prDraw)) (hK : Fd P w K mg base "_law_kind" 2 ["_law_hand_here", "_law_total"] [] (spH prKind)) : FnOk P w K mg base CX0 3 f fd ["_law_hand_here", "_law_rare", "_law_top"] (spH prDR) := by
  refine defH_ok F scDR (fun ts T h => ?_) (fun cdv A outer s H E G p ts T hr h => ?_)
  · obtain ⟨rfl, _⟩ := h
    rfl
  · obtain ⟨rfl, rfl⟩ := h
    refine sos_cons (so_asg 3 scDR.nd (ep_ixL (ds := iD [0, 1, 0, 2, 1, 0]) (D := fun d => ∃ z : Nat, z < 3 ∧ d = .int (z : Int)) (T := fun i => 0 ≤ i ∧ i < 6) (ev_lst (ea_cons ev_int (ea_cons ev_int (ea_cons ev_int (ea_cons ev_int (ea_cons ev_int (ea_cons ev_int ea_nil)))))) (by decide))
      (ep_callH (U := fun ts => ts = [.dat (.int 6)]) (T := drawT 6) rfl hD (hr.mono (by omega)) (EvA.imp (ea_cons (ev_var 0) (ea_cons ev_int ea_nil)) fun ts e => ⟨_, rfl, e⟩) ?_) fun i hi => ?_) fun u hu => ?_)
    · rintro ts rfl
      exact ⟨_, rfl, by omega, by omega, rfl⟩
    · obtain ⟨n, rfl⟩ : ∃ n : Nat, i = (n : Int) := ⟨i.toNat, by omega⟩
      refine ⟨_, at_int (r := [0, 1, 0, 2, 1, 0]) (show n < 6 by omega), ?_⟩
      have hn : n = 0 ∨ n = 1 ∨ n = 2 ∨ n = 3 ∨ n = 4 ∨ n = 5 := by omega
      rcases hn with rfl | rfl | rfl | rfl | rfl | rfl
      · exact ⟨0, by decide, rfl⟩
      · exact ⟨1, by decide, rfl⟩
      · exact ⟨0, by decide, rfl⟩
      · exact ⟨2, by decide, rfl⟩
      · exact ⟨1, by decide, rfl⟩
      · exact ⟨0, by decide, rfl⟩
    obtain ⟨d, ⟨z, hw, rfl⟩, rfl⟩ := hu
    have at3 : ∀ (a b c : Nat), atI (iD [(a : Int), (b : Int), (c : Int)]) (z : Int) = some (.int (([a, b, c].getD z 0 : Nat) : Int)) := fun a b c => by
      have e := at_int (r := [(a : Int), (b : Int), (c : Int)]) hw
      rw [e]
      have hn : z = 0 ∨ z = 1 ∨ z = 2 := by omega
      rcases hn with rfl | rfl | rfl <;> rfl
    refine sos_cons (so_set (t := .dat (.int (([4, 3, 2].getD z 0 : Nat) : Int))) 4 scDR.nd (ev_ixL (ds := iD [4, 3, 2]) (ev_lst (ea_cons ev_int (ea_cons ev_int (ea_cons ev_int ea_nil))) (by decide)) (ev_var 3) (at3 4 3 2)) ?_)
    have tail : ∀ m : Nat, (m = [4, 3, 2].getD z 0 ∨ m = [6, 4, 2].getD z 0) → Sos ⟨H, G, some p⟩ (cxx P w K mg base nDR "_law_drawn_room" (defScope sDR) f cdv A outer s H E) ((defBody sDR).drop 3) ⟨some p, [some (.adr p), some (.dat (.int 16)), some (.dat (.int 6)), some (.dat (.int (z : Int))), some (.dat (.int (m : Int))), none], []⟩ { nx := fun _ => ∃ (p : Nat) (kind : List Nat), RoomOk p kind ∧ Ty.dat .none = .dat (.tuple [.int (p : Int), nT kind]), rt := fun u => ∃ (p : Nat) (kind : List Nat), RoomOk p kind ∧ u = .dat (.tuple [.int (p : Int), nT kind]) } := by
      intro m hm
      have hm6 : m ≤ 6 := by
        have hn : z = 0 ∨ z = 1 ∨ z = 2 := by omega
        rcases hn with rfl | rfl | rfl <;> rcases hm with rfl | rfl <;> decide
      refine sos_cons (so_asg 5 scDR.nd (ep_ifExp (T := fun u => ∃ t : Nat, t ≤ m ∧ u = .dat (.int (t : Int))) (tp_eqL (T := fun i => 0 ≤ i ∧ i < 2) (ep_callH (U := fun ts => ts = [.dat (.int 2)]) (T := drawT 2) rfl hD (hr.mono (by omega)) (EvA.imp (ea_cons (ev_var 0) (ea_cons ev_int ea_nil)) fun ts e => ⟨_, rfl, e⟩) ?_) ev_int) (EvP.imp (ev_var 4) fun u e => ⟨m, Nat.le_refl _, e⟩)
        (EvP.imp (ep_callH (U := fun ts => ts = [.dat (.int ((m : Int) + 1))]) (T := drawT ((m : Int) + 1)) rfl hD (hr.mono (by omega)) (EvA.imp (ea_cons (ev_var 0) (ea_cons (ev_add (ev_var 4) ev_int) ea_nil)) fun ts e => ⟨_, rfl, e⟩) ?_) fun u ⟨i, hi, e⟩ => ⟨i.toNat, by omega, by rw [e, Int.toNat_of_nonneg hi.1]⟩)) fun u hu => ?_)
      · rintro ts rfl
        exact ⟨_, rfl, by omega, by omega, rfl⟩
      · rintro ts rfl
        exact ⟨_, rfl, by omega, by omega, rfl⟩
      obtain ⟨t, ht, rfl⟩ := hu
      refine sos_cons (so_ret (ep_tup (D := fun ds => ∃ kind, KindOk t kind ∧ ds = [.int (([2, 3, 5].getD z 0 : Nat) : Int), nT kind]) (EvA.imp (ea_consP (T := fun u => u = .dat (.int (([2, 3, 5].getD z 0 : Nat) : Int))) (ev_ixL (ds := iD [2, 3, 5]) (ev_lst (ea_cons ev_int (ea_cons ev_int (ea_cons ev_int ea_nil))) (by decide)) (ev_var 3) (at3 2 3 5))
        (ea_consP (ep_callH (U := fun ts => ts = [.dat (.int (t : Int))]) (T := fun u => ∃ kind, KindOk t kind ∧ u = .dat (nT kind)) rfl hK hr (EvA.imp (ea_cons (ev_var 0) (ea_cons (ev_var 5) ea_nil)) fun ts e => ⟨_, rfl, e⟩) ?_) ea_nil)) ?_) ?_) ?_)
      · rintro ts rfl
        exact ⟨t, rfl, by omega, rfl⟩
      · rintro ts ⟨a, us, rfl, ⟨b, us2, ⟨kind, hk, rfl⟩, rfl, rfl⟩, rfl⟩
        exact ⟨_, ⟨kind, hk, rfl⟩, rfl⟩
      · rintro ds ⟨kind, hk, rfl⟩
        show 2 ≤ sizeLine
        decide
      · rintro u ⟨ds, ⟨kind, hk, rfl⟩, rfl⟩
        exact ⟨_, kind, mostOk hw hm ht hk, rfl⟩
    refine sos_cons (so_if (tp_eqL (T := fun i => 0 ≤ i ∧ i < 16) (ep_callH (U := fun ts => ts = [.dat (.int 16)]) (T := drawT 16) rfl hD (hr.mono (by omega)) (EvA.imp (ea_cons (ev_var 0) (ea_cons (ev_var 1) ea_nil)) fun ts e => ⟨_, rfl, e⟩) ?_) (ev_sub (ev_var 1) ev_int)) (fun _ => ?_) fun _ => sos_nil (tail _ (.inl rfl)))
    · rintro ts rfl
      exact ⟨_, rfl, by omega, by omega, rfl⟩
    · exact sos_cons (so_set (t := .dat (.int (([6, 4, 2].getD z 0 : Nat) : Int))) 4 scDR.nd (ev_ixL (ds := iD [6, 4, 2]) (ev_lst (ea_cons (ev_var 2) (ea_cons ev_int (ea_cons ev_int ea_nil))) (by decide)) (ev_var 3) (at3 6 4 2)) (sos_nil (tail _ (.inr rfl))))
end
end K82
namespace K82
open PySem PySem.Spec PyProof.Rows L2
section
variable {A : AS} {X : Cx} {it e elt : Expr} {scope : Scope} {pos px : Pos} {x : Str} {es : List Expr}
/-! ### the script -/
theorem lcS_ok {tt : TT} {te : TE} (j : Nat) (ns : List Int) (gd : Int → PyData) (hit : EvT A X it (.scr X.K ns)) (hlen : ns.length < 100000)
    (htt : ∀ a ∈ ns, ∀ G σ2 H2, Cfg (A.put j (.dat (.int a))) G σ2 H2 → ∀ Q : Bool → Hp → Prop, (∀ H3 G3, Fr A.hd H2 G H3 G3 → Q true H3) → tt σ2 H2 Q)
    (hte : ∀ a ∈ ns, true = true → ∀ G σ2 H2, Cfg (A.put j (.dat (.int a))) G σ2 H2 → ∀ Q : VK, (∀ v H3 G3, Fr A.hd H2 G H3 G3 → Da G3 v (gd a) → Q v H3) → te σ2 H2 Q) :
    TeOk A (tLc (iList X.K (SE X it)) (gName j) tt te [j]) fun u => u = .dat (.list (ns.map gd)) := fun G σ H C Q q => by
  show SE X it σ H fun x H1 => _
  refine hit G σ H C _ fun v H1 G1 t F p hv => ?_
  subst p
  obtain ⟨l, rfl, f1⟩ := hv
  have f2 : DaAll G1 (ns.map V.int) (ns.map PyData.int) := DaAll.of_ints ns
  have el : (ns.map V.int).length = ns.length := List.length_map ..
  refine ⟨l, rfl, ⟨_, sql_mono F.gh f1⟩, fun D hD => lc_read ns (fun a => A.put j (.dat (.int a))) (fun _ => true) gd (el ▸ walk_list (xs := ns.map V.int)) (C.step F) (fun H2 e => sql_mono e f1) hD hlen (fun _ => rfl) (tgt_one f2) htt hte fun H' G' F2 hv => q _ H' G' _ (F.trans F2) rfl (by rw [filter_true] at hv; exact hv)⟩
theorem ev_lcS (j : Nat) (ns : List Int) (gd : Int → PyData) (hNd : X.N.Nodup) (ok : BlkOk X.N X.env.scope scope [(x, j)]) (hit : EvT A X it (.scr X.K ns)) (hlen : ns.length < 100000) (hte : ∀ a ∈ ns, EvB (A.put j (.dat (.int a))) X scope elt (gd a))
    (hg : ∀ (s : Shared) (H : Hp) (C : Addr) (cl : List (Str × Addr)) (fp : List Addr), PG (X.blk s H scope (compEnvC scope cl C X.env) fp) (.Name x px) (gName j)) (hc : X.calm = true := by rfl) (hs : ∀ x, foldedSetIterable it X.env x = pure x := by intro _; rfl) :
    Ev A X (.ListComp elt [⟨.Name x px, it, [], 0⟩] scope pos) (.list (ns.map gd)) :=
  ep_te (pe_lc (pos := pos) hc hNd (pi_list pe_s) ok hg (fun _ _ _ _ _ => pts_nil) (blkE_pe (e := elt)) hs) (lcS_ok (A := A) j ns gd hit hlen (fun a _ => tt_yes (At := fun a => A.put j (.dat (.int a))) (fun _ => rfl) a) fun a ha _ => te_blk rfl (hte a ha))
theorem cl_lenS {K : PySem.W.Frag} {ns : List Int} : Cl A (fun xs H Q => ∃ x n, xs = [x] ∧ LenV K x H n ∧ Q (.int n) H) [.scr K ns] (.dat (.int (ns.length : Int))) := fun G σ H xs C h Q q => by
  obtain ⟨v, rfl, a, rfl, h2⟩ := ho1 h
  refine ⟨_, ns.length, rfl, .inl ⟨_, sql_mono C.gh h2, (List.length_map ..).symm⟩, q _ H G (Fr.refl C.gh) (Da.int _)⟩
theorem ev_lenScr {p : Pos} {ns : List Int} (hm : X.mg "len" = none) (ha : EvT A X e (.scr X.K ns)) (hs : starEach [e] X.env = (false, eval e X.env) :: starEach [] X.env := by rfl) (hg : Gl X "len" := by rfl) (hpl : (backTo pos (starEach [] X.env)).any (·.1) = false := by rfl) :
    Ev A X (.Call (.Name "len" p) [e] [] pos) (.int (ns.length : Int)) := ev_callB call_len hg hm PySem.boot_len (ea_cons ha ea_nil hs) cl_lenS (by decide) (by decide) hs hpl
end
/-! ### _law_hand -/
theorem sa_of {A : AS} {X : Cx} {es : List Expr} {G H : Hp} {σ : L2.St} {U : List Ty → Prop} {Q : List V → Hp → Prop} (C : Cfg A G σ H) (h : EvA A X es U) (k : ∀ vs H' G' ts, Fr A.hd H G H' G' → U ts → HoAll G' vs ts → Q vs H') : SA X es σ H Q := h G σ H C Q k
/-- called with the script: a new hand, not yet known -/
def spNew (K : PySem.W.Frag) : Sp := fun vs H Q _ => ∃ (G : Hp) (a : Addr) (ns : List Int), Same G H ∧ vs = [.ref a] ∧ SqL K G a (ns.map V.int) ∧ ns.length ≤ 100 ∧ ∀ p H' G', Fr none H G H' G' → H p = none → G' p = none → HandOk G' H' p → Q (.ref p) H'
section
variable {P : Program} {w : World} {K : PySem.W.Frag} {mg : Str → Option Value} {base : Heap} {f : Addr} {fd : FuncData}
abbrev sHand : Stmt := topS 32
abbrev nHand : List Str := ["_law_script", "_law_cell"]
theorem scHand : FnScope nHand ["_law_script"] (defScope sHand) := ⟨rfl, rfl, rfl, by decide +kernel, rfl, by decide +kernel, by decide +kernel⟩
theorem ok_hand (F : FunT K "_law_hand" sHand [] f fd) (ml : mg "len" = none) (ma : mg "abs" = none) (mi : mg "int" = none) : FnOk P w K mg base CX0 1 f fd ["_law_script"] (spNew K) := by
  refine F.ok scHand (fun vs H Q E ⟨G, a, ns, h1, h2, _⟩ => by rw [h2] <;> rfl) fun cdv A outer s H vs Q E hr ⟨G, a, ns, h1, h2, h3, h4, h5⟩ => ?_
  subst h2
  refine ⟨SSs (cxx P w K mg base nHand "_law_hand" (defScope sHand) f cdv A outer s H E) (defBody sHand), PSs.nox pss_s, ?_⟩
  have hv : HoAll G [V.ref a] [Ty.scr K ns] := .cons ⟨a, rfl, h3⟩ .nil
  obtain ⟨e1, e2⟩ := start_sl (N := nHand) hv
  have C : Cfg ⟨none, startT nHand [Ty.scr K ns], []⟩ G (L2.start nHand [.ref a]) H := ⟨h1, (fun p e => nomatch e), e1, e2, (fun k l m q => nomatch q), (fun j k l m m' q => nomatch q)⟩
  refine (pss_cons (ps_ret (pe_lst pa_s)) pss_nil).s ?_
  show SA _ _ _ _ _
  refine sa_of (U := fun ts => ts = [.dat (.int 0), .dat (.int (60013 + (ns.length : Int))), .dat (.list (ns.map fun c => PyData.int (absI c))), .dat (.int 0), .dat (.int 0)]) C ?_ fun vs H1 G1 ts F ht hvs => ?_
  · exact ea_cons ev_int (ea_cons (ev_add ev_int (ev_lenScr (ns := ns) ml (ev_var 0))) (ea_cons (ev_lcS 1 ns (fun c => .int (absI c)) scHand.nd (blkOk_by (N := nHand) (sc := defScope sHand) (by decide +kernel)) (ev_var 0) (by omega)
      (fun c hc _ _ _ _ _ => ev_abs ma (ev_int1 mi (ev_var 1))) (fun _ _ _ _ _ => pg_name scHand.nd rfl (Or.inl rfl))) (ea_cons ev_int (ea_cons ev_int ea_nil))))
  subst ht
  have k := hoAll_dat (ds := [.int 0, .int (60013 + (ns.length : Int)), .list (ns.map fun c => .int (absI c)), .int 0, .int 0]) hvs
  refine ⟨by rw [k.length]; exact (show 5 ≤ sizeLine by decide), fun p hp => ?_⟩
  have h0 : H p = none := by
    cases e : H p with
    | none => rfl
    | some o =>
      obtain ⟨o', e', _⟩ := F.ex p o e
      rw [hp] at e'
      cases e'
  refine h5 p _ G1 (F.newT hp) h0 (F.gh.free hp) ?_
  cases k with
  | cons a1 t1 => cases t1 with
    | cons a2 t2 => cases t2 with
      | cons a3 t3 => cases t3 with
        | cons a4 t4 => cases t4 with
          | cons a5 t5 =>
            cases t5
            obtain ⟨c', xs', rfl, f1, f2⟩ := a3.lst_inv
            have e : (ns.map fun c => PyData.int (absI c)) = (ns.map absI).map PyData.int := by rw [List.map_map] <;> rfl
            rw [e] at f2
            rw [f2.ints] at f1
            refine ⟨0, 60013 + (ns.length : Int), 0, 0, c', ns.map absI, ?_, f1, by omega⟩
            rw [a1.int_inv, a2.int_inv, a4.int_inv, a5.int_inv] <;> exact upd_same
end
end K82
/-! {row: True for row in rows}: a dict comprehension whose keys are tuples. -/
namespace K82
open PySem PySem.Spec PyProof.Rows L2
section
variable {X : Cx}
theorem d_setE {E : Value → Shared → Prop} {pins : List (Addr × Obj)} {σ : L2.St} {H : Hp} {s : Shared} {d b : Addr} {kvs : List (List Key × V)} {k : List Key} {v : V} {u : Value} {Q : Unit → Shared → Prop} (hu : X.A.units < cLine) (I : Inv X pins σ H s) (hd : H d = some (.dT kvs)) (hb : H b = some (.tup (k.map kV))) (hz : kvs.length < sizeLine) (rv : RelV v u)
    (h : ∀ s', Inv X pins σ (upd H d (.dT (putK kvs k v))) s' → Q () s') : wpAny (model X.prog X.w) X.A (dictSet d (.ref b) u) Q E s := by
  obtain ⟨z, nm, ents, rel, dd⟩ := dt_of I.hok hd
  have el := Paired.length rel
  have l2 := length_putK kvs k v
  refine wpAny_dictSet_heap (hsz := by omega) (show (tupleKind (mixKind X.prog X.w)).room X.A from hu) (key_of I.hok hb) dd fun h' dd' hs => h _ ?_
  obtain ⟨q, es, ep, hq, f2, f3, f4, _, f5⟩ := dd'
  refine d_write I (by rw [hd]; exact True.intro) hs ⟨q, hq⟩ ⟨by omega, nm, _, (rel.put k hb rv).keeps fun c ys ec => ?_, q, es, ep, hq, f2, f3, f4, f5⟩
  rw [upd_ne (ne_of ec hd fun z => nomatch z)]
  exact ec
abbrev InBlk (X : Cx) (scope : Scope) (R : Cx → Prop) : Prop := ∀ (t : Shared) (M : Hp) (L : Addr) (cs : List (Str × Addr)) (ps : List Addr), R (X.blk t M scope (compEnvC scope cs L X.env) ps)
def dcStep (g : TG) (tk : TE) (vs : List Nat) (d : Addr) (σ : L2.St) (Nx : Hp → Prop) (x : V) (M : Hp) : Prop :=
  g x (L2.wipe σ vs) M fun σ' M1 => L2.wipe σ' vs = L2.wipe σ vs ∧ tk σ' M1 fun y M2 => ∃ b kvs k, y = .ref b ∧ M2 b = some (.tup (k.map kV)) ∧ M2 d = some (.dT kvs) ∧ kvs.length < sizeLine ∧ Nx (upd M2 d (.dT (putK kvs k (.bl true))))
def dcTurn (J : It) (g : TG) (tk : TE) (vs : List Nat) (d : Addr) (σ : L2.St) (W : Nat → Nat → Hp → Prop) (Q : VK) (i m : Nat) (M : Hp) : Prop :=
  (J.stop i M ∧ Q (.ref d) M) ∨ (J.go i M ∧ ∃ Nx : Hp → Prop, (∀ M', Nx M' → ∃ m', m' < m ∧ W (i + 1) m' M') ∧ ∀ x M', J.yld i M x M' → dcStep g tk vs d σ Nx x M')
def tDcT (wi : TI) (g : TG) (tk : TE) (vs : List Nat) : TE := fun σ H Q => wi σ H fun J Ha => ∀ d, Ha d = none → ∃ W : Nat → Nat → Hp → Prop, (∃ m, W 0 m (upd Ha d (.dT []))) ∧ ∀ i m M, W i m M → dcTurn J g tk vs d σ W Q i m M
theorem dcT_core {pins : List (Addr × Obj)} {s : Shared} {σ : L2.St} {H : Hp} {Q : VK} {key tg src : Expr} {scope : Scope} {own : List (Str × Nat)} {pos pos' pv : Pos} {n0 : Nat} {wi : TI} {g : TG} {tk : TE} {use : Option (Value → Sem Unit)} {Qf : Value → Shared → Prop}
    (hu : X.A.units < cLine) (hc : X.calm = true) (hN : X.N.Nodup) (I : Inv X pins σ H s) (hi : PI X tg src wi) (ok : BlkOk X.N X.env.scope scope own) (hg : InBlk X scope fun Y => PG Y tg g) (hk : InBlk X scope fun Y => PE Y key tk) (hs : ∀ x, foldedSetIterable src X.env x = pure x)
    (h : tDcT wi g tk (own.map (·.2)) σ H Q)
    (back : ∀ d L s' m M, Inv X pins σ M s' → Q (.ref d) M → s'.heap.Ns L m → FpOk X pins M L → compPost (model X.prog X.w) X.A X.xe use Qf (.ref d) L (.ok .next) s') :
    wpAny (model X.prog X.w) X.A (comprehension (.DictComp key (.Constant (.bool true) n0 pv) [⟨tg, src, [], 0⟩] scope pos) scope X.env pos' newDict false (eval src X.env) use) Qf X.xe s := by
  have frees : ∀ y ∈ scope.names, y.2 = .free → ∃ c, X.env.cells.lookup y.1 = some c := fun y hy e => (ok.free y hy e).elim (fun k => I.ok.has _ (.inl k)) fun k => I.ok.has _ (.inr k)
  refine wpAny_comprehension_free (use := use) rfl hs (closure_ok frees) ok.kind (fun y hy e => by rw [ok.uniq y hy, e]) (thn (hi.run pins s σ H _ I h) fun xv t1 hx => thn hx fun itv ta h2 => ?_)
  obtain ⟨it, ps, tn, J, Ha, e, Ia, T, st0, fa, q⟩ := h2
  subst e
  refine wpAny_newObj_type (newEnv_comp ?_)
  generalize hd : ta.heap.objs.size = d
  obtain ⟨W, ⟨m0, w0⟩, turn⟩ := q d (Ia.hok.fresh (Nat.le_of_eq hd))
  generalize htb : ({ ta with heap := ta.heap.push { cls := .type "dict", data := .dict #[] } } : Shared) = tb
  have hb : tb.heap = ta.heap.push { cls := .type "dict", data := .dict #[] } := by rw [← htb]
  have Ib : Inv X pins σ (upd Ha d (.dT [])) tb := by
    rw [← htb]
    exact Ia.laid (t' := ta.toks) (fun b o e => Heap.get?_push_of_some _ e) (Nat.le_of_eq hd) (hd ▸ dt_empty ta.heap Ia.big)
  have small : ∀ b ∈ ps, b < ta.heap.objs.size := fun b hb => let ⟨o, e, _⟩ := T.obj _ _ st0 b hb; Heap.lt_size e
  have fb : ∀ b ∈ ps, FpOk X pins (upd Ha d (.dT [])) b ∧ b < tb.heap.objs.size := fun b z => by
    have lt := small b z
    refine ⟨⟨(upd_ne (by rw [← hd]; exact Nat.ne_of_lt lt)).trans (fa b z).1, (fa b z).2⟩, ?_⟩
    rw [hb, Heap.size_push]
    exact Nat.lt_succ_of_lt lt
  have stb : tn 0 tb.heap := T.keep _ _ _ st0 fun b _ o e => by rw [hb]; exact Heap.get?_push_of_some _ e
  have I0 := block_start Ib ok hN fb
  have gg := hg tb (upd Ha d (.dT [])) tb.heap.objs.size (cellsFrom (tb.heap.objs.size + 1) scope.names (cloFrom X.env.cells scope.names [])) ps
  have kk := hk tb (upd Ha d (.dT [])) tb.heap.objs.size (cellsFrom (tb.heap.objs.size + 1) scope.names (cloFrom X.env.cells scope.names [])) ps
  show codeAny _ _ (.compStart (.DictComp key (.Constant (.bool true) n0 pv) [⟨tg, src, [], 0⟩] scope pos) 0 (.ref it) (.ref d) (compEnvC scope (cellsFrom (tb.heap.objs.size + 1) scope.names (cloFrom X.env.cells scope.names [])) tb.heap.objs.size X.env)) (compPost (model X.prog X.w) X.A X.xe use Qf (.ref d) tb.heap.objs.size) { tb with heap := pushCells (tb.heap.push { cls := .type "dict", data := .dict #[] }) scope.names }
  have none0 : ∀ b ∈ ps, (upd Ha d (.dT [])) b = none := fun b z => (fb b z).1.1
  generalize hce : compEnvC scope (cellsFrom (tb.heap.objs.size + 1) scope.names (cloFrom X.env.cells scope.names [])) tb.heap.objs.size X.env = ce at I0 gg kk ⊢
  have cL : ce.locals = tb.heap.objs.size := by
    subst hce
    rfl
  generalize hMb : upd Ha d (.dT []) = Mb at Ib I0 gg kk w0 none0 fb
  generalize ht0 : ({ tb with heap := pushCells (tb.heap.push { cls := .type "dict", data := .dict #[] }) scope.names } : Shared) = tc at I0 ⊢
  have st1 : tn 0 tc.heap := T.keep _ _ _ stb fun b _ o e => by
    rw [← ht0]
    exact pushCells_keeps _ _ _ _ (Heap.get?_push_of_some _ e)
  have still : ∀ {σ' : L2.St} {M : Hp} {t : Shared}, Inv (X.blk tb Mb scope ce ps) [] σ' M t → (∀ b ∈ ps, M b = none) → ∀ b ∈ ps, FpOk (X.blk tb Mb scope ce ps) [] M b := fun {σ' M t} I' hn b z =>
    ⟨hn b z, (I'.ok.exf b z).1, I'.ok.exfs b z, .inl z, fun x c e => (I'.ok.exf b z).2 x c e, fun p hp => absurd (show p ∈ ([] : List (Addr × Obj)) ++ [] from hp) (by simp)⟩
  have loop : codeAny (model X.prog X.w) X.A (.compLoop (.DictComp key (.Constant (.bool true) n0 pv) [⟨tg, src, [], 0⟩] scope pos) 0 (.ref it) (.ref d) ce) (compPost (model X.prog X.w) X.A X.xe use Qf (.ref d) tb.heap.objs.size) tc := by
    refine compLoop_anyD (fun n t => ∃ i M, Inv (X.blk tb Mb scope ce ps) [] (L2.wipe σ (own.map (·.2))) M t ∧ tn i t.heap ∧ (∀ b ∈ ps, M b = none) ∧ W i n M) ?_ m0 ⟨0, Mb, I0, st1, none0, w0⟩
    rintro n t5 ⟨i, M5, I5, st5, n5, w5⟩
    rcases turn i n M5 w5 with ⟨stop, qq⟩ | ⟨go, Nx, hNx, step⟩
    · refine thnF (T.done (X.blk tb Mb scope ce ps) rfl rfl rfl hc i [] t5 _ M5 (fun _ _ => False) I5 (still I5 n5) st5 stop) fun r t6 ⟨hr, I6⟩ => ?_
      subst hr
      have I7 : Inv X pins σ M5 t6 := Ib.call' (ch := ps) I6.os I6.base I6.hok I6.bare fun b z => ⟨(fb b z).1.2.2.2.1, (fb b z).1.2.1, (fb b z).1.2.2.2.2.1, (fb b z).1.2.2.2.2.2⟩
      have nL : M5 tb.heap.objs.size = none := cL ▸ (show M5 ce.locals = none from I6.free)
      obtain ⟨m, hn, _⟩ := I6.loc
      have hn : t6.heap.Ns ce.locals m := hn
      rw [cL] at hn
      exact back d tb.heap.objs.size t6 m M5 I7 qq hn (Ib.fpOk (Nat.le_refl _) nL)
    · refine thnF (T.item (X.blk tb Mb scope ce ps) rfl rfl rfl hc i [] t5 _ M5 (fun _ _ => False) I5 (still I5 n5) st5 go) fun r t6 ⟨u, hr, h6⟩ => ?_
      subst hr
      refine thnF h6 fun _ t7 ⟨x, M7, I7, r7, y7, st7, n7⟩ => ?_
      refine thnF (gg.run _ t7 _ M7 x u _ (I7.pinned (still I7 n7) (T.obj _ _ st7)) r7 (step x M7 y7)) fun _ t8 ⟨σ8, M8, I8, hw8, q8⟩ => ?_
      refine thnF ((pts_nil (X := X.blk tb Mb scope ce ps)).run _ t8 σ8 M8 (fun b M => b = true ∧ M = M8) I8 ⟨rfl, rfl⟩) fun b t9 ⟨M9, I9, eb, eM⟩ => ?_
      subst eb eM
      rw [if_pos rfl]
      refine thnF (kk.run _ t9 σ8 _ _ I9 q8) fun z t10 ⟨y, M10, I10, r10, b, kvs, k, ey, hkb, hkd, hz, nx⟩ => ?_
      subst ey
      obtain rfl : z = Value.ref b := r10
      refine thnF ((pe_bl (X := X.blk tb Mb scope ce ps)).run _ t10 σ8 M10 (fun v M => v = .bl true ∧ M = M10) I10 ⟨rfl, rfl⟩) fun z2 t11 ⟨yv, M11, I11, r11, e1, e2⟩ => ?_
      subst e1 e2
      refine d_setE (X := X.blk tb Mb scope ce ps) hu I11 hkd hkb hz r11 fun t12 I12 => ?_
      obtain ⟨m', hm, w'⟩ := hNx _ nx
      have pin : ∀ b ∈ ps, ∀ o, t7.heap.get? b = some o → t12.heap.get? b = some o ∧ (upd _ d (.dT (putK kvs k (V.bl true)))) b = none := fun b z o e =>
        let u := I12.pin (b, o) (List.mem_append_right _ (List.mem_append_right _ (mem_pinsAt z e)))
        ⟨u.1, u.2.1⟩
      refine ⟨m', hm, i + 1, _, (I12.unpinned (pins := [])).weak (by rw [← hw8, wipe_length]) (fun j v e => ?_), T.keep _ _ _ st7 fun b z o e => (pin b z o e).1, fun b z => ?_, w'⟩
      · rw [← hw8] at e
        exact (wipe_some e).1
      · obtain ⟨o, e, _⟩ := T.obj _ _ st7 b z
        exact (pin b z o e).2
  exact codeAny_compStart_dict loop (T.self X.A 0 _ _ _ st1 loop)
/-- as a value -/
theorem pe_dcT {key tg src : Expr} {scope : Scope} {own : List (Str × Nat)} {pos pv : Pos} {n0 : Nat} {wi : TI} {g : TG} {tk : TE} (hu : X.A.units < cLine) (hc : X.calm = true) (hN : X.N.Nodup)
    (hi : PI X tg src wi) (ok : BlkOk X.N X.env.scope scope own) (hg : InBlk X scope fun Y => PG Y tg g) (hk : InBlk X scope fun Y => PE Y key tk) (hs : ∀ x, foldedSetIterable src X.env x = pure x := by intro _; rfl) :
    PE X (.DictComp key (.Constant (.bool true) n0 pv) [⟨tg, src, [], 0⟩] scope pos) (tDcT wi g tk (own.map (·.2))) := by
  refine ⟨fun pins s σ H Q I h => ?_⟩
  rw [arm_eval_DictComp]
  refine dcT_core hu hc hN I hi ok hg hk hs h fun d L t m M I' q hn ⟨f0, f1, _, f3, f4, f5⟩ => ⟨m, hn, fun h' sb => ⟨.ref d, M, I'.turned (t' := t.toks) (fun b o z e => (sb.2 b z).trans e) f0 f1 f3 f4 f5, rfl, q⟩⟩
end
end K82
namespace K82
open PySem PySem.Spec PyProof.Rows L2
section
variable {B : Bs} {P : Po} {A : AS} {X : Cx} {scope : Scope} {elt it : Expr} {pos : Pos} {x : Str} {px : Pos}
/-- {row: True for row in a tuple of rows} -/
theorem dcT_te {G H : Hp} {σ : L2.St} {Q : VK} (j : Nat) (xs : List (List Int)) (hit : Ev A X it (.tuple (xs.map iT))) (hlen : xs.length < 100000) (hn : xs.Nodup) (hke : ∀ a ∈ xs, EvB (A.put j (.dat (iT a))) X scope elt (iT a)) (h3 : Cfg A G σ H)
    (q : ∀ H2 G2 l, Fr A.hd H G H2 G2 → H l = none → G2 l = none → Mo G2 H2 l (.dict xs) → Q (.ref l) H2) : tDcT (iTup X.K (SE X it)) (gName j) (blkE X scope elt) [j] σ H Q := by
  show SE X it σ H fun v H1 => ∃ a, v = .ref a ∧ (∃ ys, SqT X.K H1 a ys) ∧ ∀ d, H1 d = none → _
  refine hit G σ H h3 _ fun v H1 G1 t F p hv => ?_
  subst p
  obtain ⟨l, xv, rfl, f1, f2⟩ := Da.tup_inv hv
  have el : xv.length = xs.length := by rw [f2.length, List.length_map]
  have wk : Walk (Itt X.K l) xs.length (fun H => SqT X.K H l xv) (YAt xv) := el ▸ walk_tup (xs := xv)
  have C1 := h3.step F
  refine ⟨l, rfl, ⟨xv, SqT.of (F.gh _ _ f1)⟩, fun d hd => ?_⟩
  have nd : A.hd ≠ some d := fun e => by
    obtain ⟨⟨_, _, _, _, _, _, q1, _⟩, _⟩ := C1.hand d e
    rw [hd] at q1
    cases q1
  refine ⟨fun i m M => m = xs.length - i ∧ i ≤ xs.length ∧ ∃ G2, Fr A.hd H1 G1 M G2 ∧ G2 d = none ∧ M d = some (.dT (tabT (xs.take i))), ⟨xs.length, by simp, Nat.zero_le _, G1, (Fr.refl C1.gh).newT hd, C1.gh.free hd, upd_same⟩, ?_⟩
  rintro n m M ⟨rfl, hn1, G2, F2, gd, md⟩
  have sq : SqT X.K M l xv := SqT.of (F2.gh _ _ (F2.gg _ _ f1))
  by_cases hlt : n < xs.length
  · refine .inr ⟨wk.goes n M hlt sq, fun M' => n + 1 ≤ xs.length ∧ ∃ G2, Fr A.hd H1 G1 M' G2 ∧ G2 d = none ∧ M' d = some (.dT (tabT (xs.take (n + 1)))), fun M' ⟨q, r⟩ => ⟨xs.length - (n + 1), by omega, rfl, q, r⟩, fun u M' yy => ?_⟩
    have hx : xs[n]? = some xs[n] := List.getElem?_eq_getElem hlt
    refine tgt_one (A := A) f2 n xs[n] u M G2 M' _ hx F2 (C1.step F2) (wk.yields n M u M' hlt sq yy) fun σ2 M1 G3 F3 hw C3 => ⟨hw, ?_⟩
    show ∀ s0 H0 C cl fp, _
    intro s0 H0 Cc cl fp
    refine hke xs[n] (List.getElem_mem hlt) s0 H0 Cc cl fp G3 σ2 M1 C3 _ fun v M2 G4 t F4 p hv => ?_
    subst p
    obtain ⟨b, rfl, hb⟩ := da_key hv
    have F4 : Fr A.hd M1 G3 M2 G4 := F4
    have d1 := F3.keep d _ nd md
    have d2 := F4.keep d _ nd d1
    have g1 := F3.fr d _ md gd rfl
    have g2 := F4.fr d _ d1 g1 rfl
    refine ⟨b, _, keyOf xs[n], rfl, F4.gh _ _ hb, d2, ?_, hlt, G4, (((F2.trans F3).trans F4)).mut hd g2 nd, g2, ?_⟩
    · unfold tabT
      rw [List.length_map, List.length_take]
      exact Nat.lt_of_lt_of_le (by omega : min n xs.length < 100001) sizeLine_big
    · rw [upd_same, tab_put, addK_take hn hx]
  · have e : n = xs.length := by omega
    subst e
    rw [List.take_length] at md
    have nd0 : H d = none := by
      cases z : H d with
      | none => rfl
      | some o =>
        obtain ⟨o', z', _⟩ := F.ex d o z
        rw [hd] at z'
        cases z'
    exact .inl ⟨wk.stops M sq, q M G2 d (F.trans F2) nd0 gd md⟩
/-- name = {..}, the name a cell -/
theorem so_dcT (i j : Nat) (xs : List (List Int)) {y : Str} {py spos pv : Pos} {n0 : Nat} (hu : X.A.units < cLine) (hNd : X.N.Nodup) (ok : BlkOk X.N X.env.scope scope [(x, j)]) (hit : Ev A X it (.tuple (xs.map iT))) (hlen : xs.length < 100000) (hn : xs.Nodup) (hke : ∀ a ∈ xs, EvB (A.put j (.dat (iT a))) X scope elt (iT a))
    (k : ∀ l, P.nx { hd := A.hd, Γ := A.Γ.set i (some (.adr l)), Mu := (l, .dict xs) :: A.Mu }) (hg : InBlk X scope fun Y => PG Y (.Name x px) (gName j)) (hN : X.N[i]? = some y := by rfl) (hx : Loc X.env.scope y := by first | exact Or.inl rfl | exact Or.inr rfl)
    (hsw : swapsWith (.DictComp elt (.Constant (.bool true) n0 pv) [⟨.Name x px, it, [], 0⟩] scope pos) (some (.Name y py)) spos.line X.env = pure false := by rfl) (hf : X.fn y = true ∨ X.env.scope.names.lookup y = some .local := by first | exact .inl rfl | exact .inr rfl)
    (hc : X.calm = true := by rfl) (hs : ∀ x, foldedSetIterable it X.env x = pure x := by intro _; rfl) :
    So B X (.Assign [.Name y py] (.DictComp elt (.Constant (.bool true) n0 pv) [⟨.Name x px, it, [], 0⟩] scope pos) spos) A P :=
  so_own' (m := .dict xs) i hNd (fun G σ H C Q q => (pe_dcT hu hc hNd (pi_tup pe_s) ok hg (blkE_pe (e := elt)) hs).s (dcT_te (A := A) j xs hit hlen hn hke C q)) k hN hx hsw hf
end
section
variable {P : Program} {w : World} {K : PySem.W.Frag} {mg : Str → Option Value} {base : Heap} {f : Addr} {fd : FuncData}
/-! ### shared_within -/
abbrev sSW : Stmt := topS 28
abbrev nSW : List Str := ["room", "one", "other", "have", "row"]
theorem scSW : FnScope nSW ["room", "one", "other"] (defScope sSW) := ⟨rfl, rfl, rfl, by decide +kernel, rfl, by decide +kernel, by decide +kernel⟩
def prSW (C : Addr) : Pr := fun ts T => ∃ (p : Nat) (kind : List Nat) (W V : List (List Int)), ts = [.obj C (roomF p kind), .dat (rT W), .dat (rT V)] ∧ RoomOk p kind ∧ SubL (mods p kind) W ∧ SubL (mods p kind) V ∧ T = fun u => u = .dat (rT (sharedR W V))
theorem ok_sw {C : Addr} (F : FunT K "shared_within" sSW [] f fd) (hCW : Fd P w K mg base "check_within" 3 ["room", "thing"] [] (spD (prCW C))) (mt : mg "tuple" = none) : FnOk P w K mg base CX0 4 f fd ["room", "one", "other"] (spD (prSW C)) := by
  refine def_ok F scSW (fun ts T h => ?_) (fun cdv A outer s H E G ts T hr h => ?_)
  · obtain ⟨p, kind, W, V, rfl, _⟩ := h
    rfl
  · obtain ⟨p, kind, W, V, rfl, hR, hW, hV, rfl⟩ := h
    have h1 := hW.len81 hR
    have h2 := hV.len81 hR
    refine sos_cons (so_set 1 scSW.nd (ev_call hCW hr (ea_cons (ev_var 0) (ea_cons (ev_var 1) ea_nil)) ⟨p, kind, true, true, W, rfl, hR, hW, rfl⟩) ?_)
    refine sos_cons (so_set 2 scSW.nd (ev_call hCW hr (ea_cons (ev_var 0) (ea_cons (ev_var 2) ea_nil)) ⟨p, kind, true, true, V, rfl, hR, hV, rfl⟩) ?_)
    have hu := hu_of hr
    refine sos_cons (so_dcT 3 4 V (Nat.lt_of_succ_lt hu) scSW.nd (blkOk_by (N := nSW) (sc := defScope sSW) (by decide +kernel)) (ev_var 2) (by omega) hV.1.nodup (fun a _ _ _ _ _ _ => ev_var 4) (fun l => ?_) (fun _ _ _ _ _ => pg_name scSW.nd rfl (Or.inl rfl)))
    exact sos_cons (so_retE (ev_tupleL mt (ev_lcTif 4 W iT (fun r => decide (r ∈ V)) iT scSW.nd (blkOk_by (N := nSW) (sc := defScope sSW) (by decide +kernel)) (ev_var 1) (by omega)
      (fun a _ _ _ _ _ _ => tv_din 0 (l := l) hu (ev_var 4) (ev_var 3) rfl) (fun a _ _ _ _ _ _ _ => ev_var 4) (fun _ _ _ _ _ => pg_name scSW.nd rfl (Or.inl rfl)))) rfl)
end
end K82
namespace K82
open PySem PySem.Spec PyProof.Rows L2
theorem lies_zero {cols : List (List Int)} : ∀ (n i : Nat) (r : List Int), (∀ k, r.getD k 0 = 0) → liesGo cols n i r = true
  | 0, _, _, _ => rfl
  | n + 1, i, r, h => by
    unfold liesGo
    rw [h i, Int.zero_emod, if_neg (by simp), Int.zero_ediv]
    refine lies_zero n (i + 1) _ fun k => ?_
    unfold subRow
    rw [List.getD_eq_getElem?_getD, List.getElem?_map]
    cases e : (List.range r.length)[k]? with
    | none => rfl
    | some j =>
      show r.getD j 0 - 0 * _ = 0
      rw [h j]
      simp
theorem zeros_get (n k : Nat) : (List.replicate n (0 : Int)).getD k 0 = 0 := by
  rw [List.getD_eq_getElem?_getD, List.getElem?_replicate]
  split <;> rfl
theorem gridStep_ne {p part : Nat} {sub : List Nat} {grids : List (List (List Int))} (hp : 2 ≤ p) (hG : ∀ g ∈ grids, GridIn p sub g) (hn : grids ≠ []) : gridStep p grids part ≠ [] := by
  obtain ⟨g, hg⟩ := List.exists_mem_of_ne_nil _ hn
  have hi := hG g hg
  have hz : List.replicate g.length (0 : Int) ∈ lowersR g := by
    unfold lowersR
    refine mem_memb.mpr ⟨by simp [diagR], fun k hk => ?_⟩
    have hk : k < g.length := by simpa [diagR] using hk
    rw [zeros_get]
    refine ⟨by omega, ?_⟩
    have e : (diagR g).getD k 0 = (g.getD k []).getD k 0 := by
      unfold diagR
      rw [List.getD_eq_getElem?_getD, List.getElem?_map, List.getElem?_range hk] <;> rfl
    rw [e]
    exact hi.diag_pos hp k (by rw [← hi.len]; exact hk)
  refine List.ne_nil_of_mem (a := (((p ^ part : Nat) : Int) :: List.replicate g.length (0 : Int)) :: belowR g) (List.mem_flatMap.mpr ⟨g, hg, List.mem_flatMap.mpr ⟨part, List.mem_range.mpr (by omega), List.mem_map.mpr ⟨_, List.mem_filter.mpr ⟨hz, ?_⟩, rfl⟩⟩⟩)
  refine lies_zero _ _ _ fun k => ?_
  rw [List.map_replicate, Int.mul_zero]
  exact zeros_get _ _
theorem grids_ne {p : Nat} (hp : 2 ≤ p) : ∀ (l sub : List Nat) (grids : List (List (List Int))), (∀ g ∈ grids, GridIn p sub g) → grids ≠ [] → l.foldl (gridStep p) grids ≠ []
  | [], _, _, _, h => h
  | c :: l, sub, grids, hG, h => grids_ne hp l (c :: sub) _ (gridStep_in hG) (gridStep_ne hp hG h)
theorem gridsR_ne {p : Nat} {kind : List Nat} (hR : RoomOk p kind) : gridsR p kind ≠ [] :=
  grids_ne hR.p2 _ [] _ (fun g hg => by rw [List.mem_singleton.mp hg]; exact .nil) (by simp)
theorem listR_len {p : Nat} {kind : List Nat} : (listR p kind).length = (gridsR p kind).length := by
  rw [(listR_perm p kind).length_eq, List.length_map]
theorem listR_pos {p : Nat} {kind : List Nat} (hR : RoomOk p kind) : 0 < (listR p kind).length := by
  rw [listR_len]
  exact List.length_pos_iff.mpr (gridsR_ne hR)
theorem listR_le {p : Nat} {kind : List Nat} (hR : RoomOk p kind) : (listR p kind).length ≤ 20000 := by
  rw [listR_len]
  have := gridsTo_le hR kind.length (Nat.le_refl _)
  unfold gridsTo at this
  rw [List.take_of_length_le (by simp)] at this
  exact this
theorem part_le_sum : ∀ (l : List Nat) (c : Nat), c ∈ l → c ≤ l.sum
  | a :: l, c, h => by
    rw [List.sum_cons]
    rcases List.mem_cons.mp h with rfl | h
    · omega
    · have := part_le_sum l c h
      omega
theorem small_of {p : Nat} {kind : List Nat} (hR : RoomOk p kind) {r : List Int} (h : r ∈ memb (mods p kind)) : Small r := by
  obtain ⟨h1, h2⟩ := mem_memb.mp h
  rw [mods_len] at h1 h2
  refine ⟨h1 ▸ hR.len, fun x hx => ?_⟩
  obtain ⟨k, hk, e⟩ := List.getElem_of_mem hx
  have h3 := h2 k (h1 ▸ hk)
  have e1 : r.getD k 0 = x := by rw [List.getD_eq_getElem?_getD, List.getElem?_eq_getElem hk] <;> exact e
  rw [e1] at h3
  have hk2 : k < kind.length := h1 ▸ hk
  have e2 : (mods p kind).getD k 0 = ((p ^ kind.getD k 0 : Nat) : Int) := by
    unfold mods
    rw [getD_map_lt (d := 0) hk2]
  rw [e2] at h3
  have h4 : kind.getD k 0 ≤ kind.sum := by
    rw [List.getD_eq_getElem?_getD, List.getElem?_eq_getElem hk2]
    exact part_le_sum _ _ (List.getElem_mem hk2)
  have h5 : p ^ kind.getD k 0 ≤ p ^ kind.sum := Nat.pow_le_pow_right (by have := hR.p2; omega) h4
  have := hR.size
  omega
end K82
namespace K82
open PySem PySem.Spec PyProof.Rows L2
section
variable {A : AS} {X : Cx} {a b : Expr} {pos : Pos}
theorem tv_neS1 {i : Str} (ha : Ev A X a (.str i)) (hb : Ev A X b (.str i)) : Tv A X (.Compare a [.NotEq] [b] pos) false := Tv.to (tv_neS ha hb) (by simp)
theorem ev_eqS1 {i : Str} (ha : Ev A X a (.str i)) (hb : Ev A X b (.str i)) : Ev A X (.Compare a [.Eq] [b] pos) (.bool true) := Ev.to (ev_eqS ha hb) (by simp)
theorem tv_neB1 {i : Bool} (ha : Ev A X a (.bool i)) (hb : Ev A X b (.bool i)) : Tv A X (.Compare a [.NotEq] [b] pos) false := Tv.to (tv_neB ha hb) (by simp)
end
section
variable {P : Program} {w : World} {K : PySem.W.Frag} {mg : Str → Option Value} {base : Heap} {f : Addr} {fd : FuncData}
theorem SubL.small {p : Nat} {kind : List Nat} {W : List (List Int)} (hR : RoomOk p kind) (h : SubL (mods p kind) W) : ∀ r ∈ W, Small r := fun r hr => small_of hR (h.1.sub r hr)
theorem SubL.rlen {p : Nat} {kind : List Nat} {W : List (List Int)} (h : SubL (mods p kind) W) : ∀ r ∈ W, r.length = kind.length := fun r hr => memb_len_kind (h.1.sub r hr)
/-! ### _law_faced -/
abbrev sFaced : Stmt := topS 53
abbrev nFaced : List Str := ["_law_prime", "_law_kind_here", "_law_room", "_law_rows", "_law_told", "_law_pair", "_law_row"]
theorem scFaced : FnScope nFaced ["_law_prime", "_law_kind_here", "_law_room", "_law_rows"] (defScope sFaced) := ⟨rfl, rfl, rfl, by decide +kernel, rfl, by decide +kernel, by decide +kernel⟩
def prFaced (C : Addr) : Pr := fun ts T => ∃ (p : Nat) (kind : List Nat) (W : List (List Int)), ts = [.dat (.int (p : Int)), .dat (nT kind), .obj C (roomF p kind), .dat (rT W)] ∧ RoomOk p kind ∧ SubL (mods p kind) W ∧ T = fun u => u = .dat (.bool true)
theorem ok_faced {C : Addr} (F : FunT K "_law_faced" sFaced [] f fd) (hFW : Fd P w K mg base "facing_within" 4 ["room", "within"] [] (spD (prFW C))) (hFc : Fd P w K mg base "_law_faces" 4 ["_law_prime", "_law_kind_here", "_law_rows"] [] (spD prFaces))
    (hKo : Fd P w K mg base "_law_kind_of" 3 ["_law_prime", "_law_kind_here", "_law_rows"] [] (spD prKindOf)) (hRo : Fd P w K mg base "_law_rest_of" 4 ["_law_prime", "_law_kind_here", "_law_rows"] [] (spD prRest)) (mr : mg "repr" = none) (mli : mg "list" = none) : FnG P w K mg base 5 f fd ["_law_prime", "_law_kind_here", "_law_room", "_law_rows"] (spD (prFaced C)) := by
  refine defG_ok F scFaced (fun ts T h => ?_) (fun cdv A outer s H E G ts T hgd hr h => ?_)
  · obtain ⟨p, kind, W, rfl, _⟩ := h
    rfl
  · obtain ⟨p, kind, W, rfl, hR, hW, rfl⟩ := h
    have hF := faces_sub hR hW.1.sub
    have h1 := hW.len81 hR
    have h2 := hF.len81 hR
    refine sos_cons (so_set (t := .dat (rT (facesR p kind W))) 4 scFaced.nd (ev_call hFW hr (ea_cons (ev_var 2) (ea_cons (ev_lcT 6 W iT (fun r => .list (iD r)) scFaced.nd (blkOk_by (N := nFaced) (sc := defScope sFaced) (by decide +kernel)) (ev_var 3) (by omega)
      (fun r _ _ _ _ _ _ => ev_listT mli (ev_var 6)) (fun _ _ _ _ _ => pg_name scFaced.nd rfl (Or.inl rfl))) ea_nil)) ⟨p, kind, false, false, W, rfl, hR, hW, rfl⟩) ?_)
    refine sos_cons (so_ifE (k := false) (tv_or (k := false) (l := false) (tv_neS1 (ev_repr hgd hr.units mr (ev_var 4) (hF.small hR) (by omega)) (ev_repr hgd hr.units mr (ev_call hFc hr (ea_cons (ev_var 0) (ea_cons (ev_var 1) (ea_cons (ev_var 3) ea_nil))) ⟨p, kind, W, rfl, hR, hW.1.sub, rfl⟩) (hF.small hR) (by omega))) fun _ =>
      tv_neS1 (ev_repr hgd hr.units mr (Ev.to (ev_call hFW hr (ea_cons (ev_var 2) (ea_cons (ev_var 4) ea_nil)) ⟨p, kind, true, true, facesR p kind W, rfl, hR, hF, rfl⟩) (by rw [faces_faces hR hW])) (hW.small hR) (by omega)) (ev_repr hgd hr.units mr (ev_var 3) (hW.small hR) (by omega))) (fun e => nomatch e) fun _ => sos_nil ?_)
    refine sos_cons (so_set (t := .dat (.tuple [iT (kindOfR p kind (facesR p kind W)), iT (restOfR p kind (facesR p kind W))])) 5 scFaced.nd (ev_tup (ds := [iT (kindOfR p kind (facesR p kind W)), iT (restOfR p kind (facesR p kind W))]) (ea_cons (ev_call hKo (hr.mono (by omega)) (ea_cons (ev_var 0) (ea_cons (ev_var 1) (ea_cons (ev_var 4) ea_nil))) ⟨p, kind, _, rfl, hR, h2, hF.rlen, kindCounts_pos hR hF, rfl⟩)
      (ea_cons (ev_call hRo hr (ea_cons (ev_var 0) (ea_cons (ev_var 1) (ea_cons (ev_var 4) ea_nil))) ⟨p, kind, _, rfl, hR, h2, hF.pos, restCounts_pos hR hF, rfl⟩) ea_nil)) (by show 2 ≤ sizeLine; decide)) ?_)
    refine sos_cons (so_retE (ev_eqD hr.units (ev_var 5) (ev_tup (ds := [iT (restOfR p kind W), iT (kindOfR p kind W)]) (ea_cons (ev_call hRo hr (ea_cons (ev_var 0) (ea_cons (ev_var 1) (ea_cons (ev_var 3) ea_nil))) ⟨p, kind, _, rfl, hR, h1, hW.pos, restCounts_pos hR hW, rfl⟩)
      (ea_cons (ev_call hKo (hr.mono (by omega)) (ea_cons (ev_var 0) (ea_cons (ev_var 1) (ea_cons (ev_var 3) ea_nil))) ⟨p, kind, _, rfl, hR, h1, hW.rlen, kindCounts_pos hR hW, rfl⟩) ea_nil)) (by show 2 ≤ sizeLine; decide)) shaped_pair shaped_pair) ?_)
    rw [eqv_pair, kind_rest hR hW, rest_kind hR hW]
    simp
/-! ### _law_paired -/
abbrev sPaired : Stmt := topS 54
abbrev nPaired : List Str := ["_law_room", "_law_one", "_law_other", "_law_first", "_law_second", "_law_joined", "_law_shared"]
theorem scPaired : FnScope nPaired ["_law_room", "_law_one", "_law_other"] (defScope sPaired) := ⟨rfl, rfl, rfl, by decide +kernel, rfl, by decide +kernel, by decide +kernel⟩
def prPaired (C : Addr) : Pr := fun ts T => ∃ (p : Nat) (kind : List Nat) (W V : List (List Int)), ts = [.obj C (roomF p kind), .dat (rT W), .dat (rT V)] ∧ RoomOk p kind ∧ SubL (mods p kind) W ∧ SubL (mods p kind) V ∧ T = fun u => u = .dat (.bool true)
theorem ok_paired {C : Addr} (F : FunT K "_law_paired" sPaired [] f fd) (hFW : Fd P w K mg base "facing_within" 4 ["room", "within"] [] (spD (prFW C))) (hJW : Fd P w K mg base "joined_within" 4 ["room", "one", "other"] [] (spD (prJW C))) (hSW : Fd P w K mg base "shared_within" 4 ["room", "one", "other"] [] (spD (prSW C)))
    (hHo : Fd P w K mg base "_law_holds" 1 ["_law_one", "_law_other"] [] (spD prHolds)) (mr : mg "repr" = none) : FnG P w K mg base 5 f fd ["_law_room", "_law_one", "_law_other"] (spD (prPaired C)) := by
  refine defG_ok F scPaired (fun ts T h => ?_) (fun cdv A outer s H E G ts T hgd hr h => ?_)
  · obtain ⟨p, kind, W, V, rfl, _⟩ := h
    rfl
  · obtain ⟨p, kind, W, V, rfl, hR, hW, hV, rfl⟩ := h
    have fW := faces_sub hR hW.1.sub
    have fV := faces_sub hR hV.1.sub
    have hJ : SubL (mods p kind) (closeR (mods p kind) (W ++ V)) := (close_sub hR fun r hr => by
      rcases List.mem_append.mp hr with h | h
      · exact hW.1.sub r h
      · exact hV.1.sub r h).1
    have hS := shared_sub hW hV
    have fS := shared_sub fW fV
    have fJ : SubL (mods p kind) (closeR (mods p kind) (facesR p kind W ++ facesR p kind V)) := (close_sub hR fun r hr => by
      rcases List.mem_append.mp hr with h | h
      · exact fW.1.sub r h
      · exact fV.1.sub r h).1
    have l1 := hW.len81 hR
    have l2 := hV.len81 hR
    have l3 := fW.len81 hR
    have l4 := fV.len81 hR
    have l5 := hJ.len81 hR
    have l6 := hS.len81 hR
    have l7 := fS.len81 hR
    have l8 := fJ.len81 hR
    refine sos_cons (so_par 3 4 scPaired.nd (T := fun ts => ts = [.dat (rT (facesR p kind W)), .dat (rT (facesR p kind V))]) (ea_cons (ev_call hFW hr (ea_cons (ev_var 0) (ea_cons (ev_var 1) ea_nil)) ⟨p, kind, true, true, W, rfl, hR, hW, rfl⟩) (ea_cons (ev_call hFW hr (ea_cons (ev_var 0) (ea_cons (ev_var 2) ea_nil)) ⟨p, kind, true, true, V, rfl, hR, hV, rfl⟩) ea_nil)) (fun t u e => ?_) (fun ts e => by rw [e] <;> rfl))
    cases e
    refine sos_cons (so_par 5 6 scPaired.nd (T := fun ts => ts = [.dat (rT (closeR (mods p kind) (W ++ V))), .dat (rT (sharedR W V))]) (ea_cons (ev_call hJW hr (ea_cons (ev_var 0) (ea_cons (ev_var 1) (ea_cons (ev_var 2) ea_nil))) ⟨p, kind, W, V, rfl, hR, hW, hV, rfl⟩) (ea_cons (ev_call hSW hr (ea_cons (ev_var 0) (ea_cons (ev_var 1) (ea_cons (ev_var 2) ea_nil))) ⟨p, kind, W, V, rfl, hR, hW, hV, rfl⟩) ea_nil)) (fun t u e => ?_) (fun ts e => by rw [e] <;> rfl))
    cases e
    refine sos_cons (so_ifE (k := false) (tv_or3 (k := false) (l := false) (m := false) (tv_neB1 (i := holdsR W V) (ev_call hHo (hr.mono (by omega)) (ea_cons (ev_var 1) (ea_cons (ev_var 2) ea_nil)) ⟨W, V, rfl, l1, l2, rfl⟩) (Ev.to (ev_call hHo (hr.mono (by omega)) (ea_cons (ev_var 4) (ea_cons (ev_var 3) ea_nil)) ⟨_, _, rfl, l4, l3, rfl⟩) (by rw [← holds_dual hR hW hV])))
      (fun _ => Tv.to (tv_not (tv_val (k := true) (Ev.to (ev_call hHo (hr.mono (by omega)) (ea_cons (ev_var 5) (ea_cons (ev_var 1) ea_nil)) ⟨_, _, rfl, l5, l1, rfl⟩) (by rw [holds_close hR hW hV])))) rfl)
      (fun _ _ => Tv.to (tv_not (tv_val (k := true) (Ev.to (ev_call hHo (hr.mono (by omega)) (ea_cons (ev_var 1) (ea_cons (ev_var 6) ea_nil)) ⟨_, _, rfl, l1, l6, rfl⟩) (by rw [holds_shared])))) rfl)) (fun e => nomatch e) fun _ => sos_nil ?_)
    refine sos_cons (so_ifE (k := false) (tv_neS1 (ev_repr hgd hr.units mr (Ev.to (ev_call hFW hr (ea_cons (ev_var 0) (ea_cons (ev_var 5) ea_nil)) ⟨p, kind, true, true, _, rfl, hR, hJ, rfl⟩) (by rw [faces_close hR hW hV])) (fS.small hR) (by omega)) (ev_repr hgd hr.units mr (ev_call hSW hr (ea_cons (ev_var 0) (ea_cons (ev_var 3) (ea_cons (ev_var 4) ea_nil))) ⟨p, kind, _, _, rfl, hR, fW, fV, rfl⟩) (fS.small hR) (by omega))) (fun e => nomatch e) fun _ => sos_nil ?_)
    exact sos_cons (so_retE (ev_eqS1 (ev_repr hgd hr.units mr (Ev.to (ev_call hFW hr (ea_cons (ev_var 0) (ea_cons (ev_var 6) ea_nil)) ⟨p, kind, true, true, _, rfl, hR, hS, rfl⟩) (by rw [faces_shared hR hW hV])) (fJ.small hR) (by omega)) (ev_repr hgd hr.units mr (ev_call hJW hr (ea_cons (ev_var 0) (ea_cons (ev_var 3) (ea_cons (ev_var 4) ea_nil))) ⟨p, kind, _, _, rfl, hR, fW, fV, rfl⟩) (fJ.small hR) (by omega))) rfl)
end
end K82
namespace K82
open PySem PySem.Spec PyProof.Rows L2
section
variable {P : Program} {w : World} {K : PySem.W.Frag} {mg : Str → Option Value} {base : Heap} {f : Addr} {fd : FuncData}
/-! ### law -/
abbrev sLaw : Stmt := topS 55
abbrev nLaw : List Str := ["_law_script", "_law_hand_here", "_law_prime", "_law_kind_here", "_law_room", "_law_listing_here", "_law_first", "_law_many", "_law_k"]
theorem scLaw : FnScope nLaw ["_law_script"] (defScope sLaw) := ⟨rfl, rfl, rfl, by decide +kernel, rfl, by decide +kernel, by decide +kernel⟩
def spLaw (K : PySem.W.Frag) : Sp := fun vs H Q _ => ∃ (G : Hp) (a : Addr) (ns : List Int), Same G H ∧ vs = [.ref a] ∧ SqL K G a (ns.map V.int) ∧ ns.length ≤ 100 ∧ ∀ H', Q (.bl true) H'
/-- name = the new hand, and on from there -/
theorem hand_start {X : Cx} {x : Str} {e : Expr} {px pn p pos : Pos} {rest : List Stmt} {ns : List Int} {Γ : List (Option Ty)} {σ : L2.St} {G H : Hp} {D : Ends} (i : Nat) (hNd : X.N.Nodup) (hF : Fd X.prog X.w X.K X.mg X.base "_law_hand" 1 ["_law_script"] [] (spNew X.K)) (hr : Room 1 X.A) (hl : ns.length ≤ 100)
    (C : Cfg ⟨none, Γ, []⟩ G σ H) (he : EvA ⟨none, Γ, []⟩ X [e] fun ts => ts = [.scr X.K ns])
    (k : ∀ h H1 G1, Sos ⟨H1, G1, some h⟩ X rest ⟨some h, Γ.set i (some (.adr h)), []⟩ { nx := fun _ => False, rt := fun u => u = .dat (.bool true) }) (hQ : ∀ H', D.rt (.bl true) H')
    (hN : X.N[i]? = some x := by rfl) (hx : Loc X.env.scope x := by first | exact Or.inl rfl | exact Or.inr rfl) (hs : swapsWith (.Call (.Name "_law_hand" pn) [e] [] p) (some (.Name x px)) pos.line X.env = pure false := by rfl) (hf : X.fn x = true ∨ X.env.scope.names.lookup x = some .local := by first | exact .inl rfl | exact .inr rfl)
    (hg : Gl X "_law_hand" := by rfl) (hst : starEach [e] X.env = (false, eval e X.env) :: starEach [] X.env := by rfl) (hpl : (backTo p (starEach [] X.env)).any (·.1) = false := by rfl) : SSs X (.Assign [.Name x px] (.Call (.Name "_law_hand" pn) [e] [] p) pos :: rest) D σ H := by
  obtain ⟨f, fd, ds, h1, h2, h3, h4, h5⟩ := hF.ex
  refine (pss_cons (ps_set hNd hN hx (pe_call h1 hr hg h2 h3 h4 h5 pass0 pa_s (by decide) hst hpl) hs hf) pss_s).s ?_
  show SA X [e] σ H fun vs H1 => spNew X.K (vs ++ []) H1 (fun v H2 => SSs X rest D (σ.set i (some v)) H2) E0
  refine sa_of C he fun vs H1 G1 ts F pt hv => ?_
  subst pt
  obtain ⟨v, rfl, a, rfl, h6⟩ := ho1 hv
  refine ⟨G1, a, ns, F.gh, rfl, h6, hl, fun h H2 G2 F2 n1 n2 hk => ?_⟩
  have C2 := (C.step F).step F2
  refine (k h H2 G2 (fun _ => none) (σ.set i (some (.ref h))) H2 ⟨rfl, G2, (fun b o e => nomatch e), Fr.refl F2.gh, ?_, (fun k l m q => nomatch q)⟩).mono (fun _ _ ⟨_, q, _⟩ => q.elim) (fun v H' ⟨G', t, q, _, q3, _⟩ => ?_) (fun _ _ ⟨_, q, _⟩ => q.elim) fun _ _ ⟨_, q, _⟩ => q.elim
  · have C3 := C2.put (t := .adr h) (v := .ref h) i rfl
    exact ⟨C3.gh, (fun p e => by cases e; exact ⟨hk, n2⟩), C3.len, C3.sl, (fun k l m q => nomatch q), fun j k l m m' q => nomatch q⟩
  · subst q
    rw [Da.bl_inv q3]
    exact hQ H'
theorem ok_law {C : Addr} (F : FunT K "law" sLaw [] f fd) (hH : Fd P w K mg base "_law_hand" 1 ["_law_script"] [] (spNew K)) (hD : Fd P w K mg base "_law_draw" 1 ["_law_hand_here", "_law_many"] [] (spH prDraw)) (hDR : Fd P w K mg base "_law_drawn_room" 3 ["_law_hand_here", "_law_rare", "_law_top"] [] (spH prDR))
    (hR' : Cd P w K mg base "Room" C 4 ["self", "prime", "kind"] (spC C prInit)) (hL : Fd P w K mg base "_law_listing" 4 ["_law_prime", "_law_kind_here"] [] (spD prListing)) (hM : Fd P w K mg base "_law_members" 3 ["_law_prime", "_law_kind_here"] [] (spD prMembers))
    (hFa : FdG P w K mg base "_law_faced" 5 ["_law_prime", "_law_kind_here", "_law_room", "_law_rows"] (spD (prFaced C))) (hPa : FdG P w K mg base "_law_paired" 5 ["_law_room", "_law_one", "_law_other"] (spD (prPaired C))) (ml : mg "len" = none) (mr : mg "range" = none) (mm : mg "min" = none) (mi : mg "int" = none) :
    FnG P w K mg base 6 f fd ["_law_script"] (spLaw K) := by
  refine fnG_of F scLaw (fun vs H Q E ⟨G, a, ns, h1, h2, _⟩ => by rw [h2] <;> rfl) fun cdv A outer s H vs Q E hgd hr ⟨G, a, ns, h1, h2, h3, h4, h5⟩ => ?_
  subst h2
  have hv : HoAll G [V.ref a] [Ty.scr K ns] := .cons ⟨a, rfl, h3⟩ .nil
  obtain ⟨e1, e2⟩ := start_sl (N := nLaw) hv
  have Cf : Cfg ⟨none, startT nLaw [Ty.scr K ns], []⟩ G (L2.start nLaw [.ref a]) H := ⟨h1, (fun p e => nomatch e), e1, e2, (fun k l m q => nomatch q), (fun j k l m m' q => nomatch q)⟩
  refine hand_start (ns := ns) (Γ := startT nLaw [Ty.scr K ns]) 1 scLaw.nd hH (hr.mono (by omega)) h4 Cf (ea_cons (ev_var 0) ea_nil) (fun h H1 G1 => ?_) h5
  refine sos_cons (so_unpack2 2 3 scLaw.nd (D := fun d d' => ∃ (p : Nat) (kind : List Nat), RoomOk p kind ∧ d = .int (p : Int) ∧ d' = nT kind) (EvP.imp (ep_callH (U := fun ts => ts = [.dat (.int 16), .dat (.int 6)]) (T := fun u => ∃ (p : Nat) (kind : List Nat), RoomOk p kind ∧ u = .dat (.tuple [.int (p : Int), nT kind])) rfl hDR (hr.mono (by omega)) (EvA.imp (ea_cons (ev_var 1) (ea_cons ev_int (ea_cons ev_int ea_nil))) fun ts e => ⟨_, rfl, e⟩) ?_) fun u ⟨p, kind, q, e⟩ => ⟨_, _, ⟨p, kind, q, rfl, rfl⟩, e⟩) fun d d' hd => ?_)
  · rintro ts rfl
    exact ⟨rfl, rfl⟩
  obtain ⟨p, kind, hR, rfl, rfl⟩ := hd
  refine sos_cons (so_par 4 5 scLaw.nd (T := fun ts => ts = [.obj C (roomF p kind), .dat (.list ((listR p kind).map rT))]) (ea_cons (ev_make hR' hr (ea_cons (ev_var 2) (ea_cons (ev_var 3) ea_nil)) ⟨p, kind, rfl, hR, rfl⟩) (ea_cons (ev_call hL (hr.mono (by omega)) (ea_cons (ev_var 2) (ea_cons (ev_var 3) ea_nil)) ⟨p, kind, rfl, hR, rfl⟩) ea_nil)) (fun t u e => ?_) (fun ts e => by rw [e] <;> rfl))
  cases e
  have hpos := listR_pos hR
  have hle := listR_le hR
  have hsub := listR_sub hR
  generalize hLs : listR p kind = L at hpos hle hsub
  have hm81 := memb_len81 hR
  obtain ⟨many, hmany⟩ : ∃ m : Nat, m = if 32 < (memb (mods p kind)).length then 6 else 16 := ⟨_, rfl⟩
  have hmn : many ≤ 16 := by
    rw [hmany]
    split <;> omega
  refine sos_cons (so_par 6 7 scLaw.nd (T := fun ts => ∃ i : Nat, i < L.length ∧ ts = [.dat (.int (i : Int)), .dat (.int (many : Int))]) (EvA.imp (ea_consP (ep_callH (U := fun ts => ts = [.dat (.int (L.length : Int))]) (T := drawT (L.length : Int)) rfl hD (hr.mono (by omega)) (EvA.imp (ea_cons (ev_var 1) (ea_cons (Ev.to (ev_lenL ml (ev_var 5)) (by rw [List.length_map])) ea_nil)) fun ts e => ⟨_, rfl, e⟩) ?_)
    (ea_cons (t := .dat (.int (many : Int))) (ev_ifExp (tv_gt (ev_lenL ml (ev_call hM (hr.mono (by omega)) (ea_cons (ev_var 2) (ea_cons (ev_var 3) ea_nil)) ⟨p, kind, rfl, hR, rfl⟩)) ev_int) (fun hb => ?_) fun hb => ?_) ea_nil)) ?_) (fun t u e => ?_) (fun ts ⟨i, _, e⟩ => by rw [e] <;> rfl))
  · rintro ts rfl
    exact ⟨_, rfl, by omega, by omega, rfl⟩
  · rw [List.length_map] at hb
    have hb : 32 < (memb (mods p kind)).length := by
      simp at hb
      omega
    rw [if_pos hb] at hmany
    rw [hmany]
    exact ev_int
  · rw [List.length_map] at hb
    have hb : ¬ 32 < (memb (mods p kind)).length := by
      simp at hb
      omega
    rw [if_neg hb] at hmany
    rw [hmany]
    exact ev_int
  · rintro ts ⟨t, us, ⟨i, hi, rfl⟩, rfl, rfl⟩
    exact ⟨i.toNat, by omega, by rw [Int.toNat_of_nonneg hi.1]⟩
  obtain ⟨first, hf, e⟩ := e
  cases e
  have pick : ∀ n : Nat, ∃ W, W ∈ L ∧ atI (L.map rT) (((n : Nat) : Int) % (L.length : Int)) = some (rT W) := fun n => by
    have h1 : n % L.length < L.length := Nat.mod_lt _ hpos
    refine ⟨L[n % L.length], List.getElem_mem h1, ?_⟩
    have e : ((n : Nat) : Int) % (L.length : Int) = ((n % L.length : Nat) : Int) := by omega
    rw [e]
    exact at_map (List.getElem?_eq_getElem h1)
  refine sos_cons (so_forR 8 scLaw.nd (by rfl) mr (ev_min mm (ev_var 7) (Ev.to (ev_lenL ml (ev_var 5)) (by rw [List.length_map]))) (by split <;> omega) (fun i A => ∃ v, A = ⟨some h, [some (.scr K ns), some (.adr h), some (.dat (.int (p : Int))), some (.dat (nT kind)), some (.obj C (roomF p kind)), some (.dat (.list (L.map rT))), some (.dat (.int (first : Int))), some (.dat (.int (many : Int))), v], []⟩) ⟨_, rfl⟩ ?_ ?_)
  · rintro k A' hk ⟨v, rfl⟩
    obtain ⟨W, hW, hix⟩ := pick (first + k)
    rw [Int.natCast_add] at hix
    refine sos_cons (so_ifE (k := false) (Tv.to (tv_not (tv_val (k := true) (ev_callG hFa hgd hr (ea_cons (ev_var 2) (ea_cons (ev_var 3) (ea_cons (ev_var 4) (ea_cons (ev_ixL (ev_var 5) (ev_mod (ev_int1 mi (ev_add (ev_var 6) (ev_var 8))) (Ev.to (ev_lenL ml (ev_var 5)) (by rw [List.length_map])) (by omega)) hix) ea_nil)))) ⟨p, kind, W, rfl, hR, hsub W hW, rfl⟩))) rfl) (fun e => nomatch e) fun _ => sos_nil ?_)
    refine sos_cons (so_ifE (k := false) (Tv.to (tv_not (tv_val (k := true) (ep_callG (U := fun ts => ∃ W V, W ∈ L ∧ V ∈ L ∧ ts = [.obj C (roomF p kind), .dat (rT W), .dat (rT V)]) hPa hgd hr (EvA.imp (ea_consP (ev_var 4)
      (ea_consP (ep_ixL (D := fun d => ∃ W, W ∈ L ∧ d = rT W) (T := fun i => 0 ≤ i ∧ i < (L.length : Int)) (ev_var 5) (ep_callH (U := fun ts => ts = [.dat (.int (L.length : Int))]) (T := drawT (L.length : Int)) rfl hD (hr.mono (by omega)) (EvA.imp (ea_cons (ev_var 1) (ea_cons (Ev.to (ev_lenL ml (ev_var 5)) (by rw [List.length_map])) ea_nil)) fun ts e => ⟨_, rfl, e⟩) ?_) ?_)
      (ea_consP (ep_ixL (D := fun d => ∃ W, W ∈ L ∧ d = rT W) (T := fun i => 0 ≤ i ∧ i < (L.length : Int)) (ev_var 5) (ep_callH (U := fun ts => ts = [.dat (.int (L.length : Int))]) (T := drawT (L.length : Int)) rfl hD (hr.mono (by omega)) (EvA.imp (ea_cons (ev_var 1) (ea_cons (Ev.to (ev_lenL ml (ev_var 5)) (by rw [List.length_map])) ea_nil)) fun ts e => ⟨_, rfl, e⟩) ?_) ?_) ea_nil))) ?_) ?_))) rfl) (fun e => nomatch e) fun _ => sos_nil (sos_nil ⟨_, rfl⟩))
    · rintro ts rfl
      exact ⟨_, rfl, by omega, by omega, rfl⟩
    · intro i hi
      obtain ⟨n, rfl⟩ : ∃ n : Nat, i = (n : Int) := ⟨i.toNat, by omega⟩
      have hn : n < L.length := by omega
      exact ⟨_, at_map (List.getElem?_eq_getElem hn), _, List.getElem_mem hn, rfl⟩
    · rintro ts rfl
      exact ⟨_, rfl, by omega, by omega, rfl⟩
    · intro i hi
      obtain ⟨n, rfl⟩ : ∃ n : Nat, i = (n : Int) := ⟨i.toNat, by omega⟩
      have hn : n < L.length := by omega
      exact ⟨_, at_map (List.getElem?_eq_getElem hn), _, List.getElem_mem hn, rfl⟩
    · rintro ts ⟨t, us, rfl, ⟨t2, us2, ⟨d, ⟨W, hW, rfl⟩, rfl⟩, ⟨t3, us3, ⟨d2, ⟨V, hV, rfl⟩, rfl⟩, rfl, rfl⟩, rfl⟩, rfl⟩
      exact ⟨W, V, hW, hV, rfl⟩
    · rintro ts ⟨W, V, hW, hV, rfl⟩
      exact ⟨p, kind, W, V, rfl, hR, hsub W hW, hsub V hV, rfl⟩
  · rintro A' ⟨v, rfl⟩
    exact sos_cons (so_retE ev_bl rfl)
end
end K82
/-! The end: the law's def called by the machine, with no repr under way. -/
namespace K82
open PySem PySem.Spec PyProof.Rows L2
/-- the heap behind the top as the walk sees it: nothing but the script -/
def scriptH (K : PySem.W.Frag) (a : Addr) (o : Obj) (xs : List V) : Hp := fun b => if K.lookup a = none ∧ b = a then some (.frz o (.lst xs)) else none
theorem scriptH_inv {K : PySem.W.Frag} {a b : Addr} {o : Obj} {xs : List V} {u : HO} (h : scriptH K a o xs b = some u) : K.lookup a = none ∧ b = a ∧ u = .frz o (.lst xs) := by
  unfold scriptH at h
  by_cases c : K.lookup a = none ∧ b = a
  · rw [if_pos c] at h
    cases h
    exact ⟨c.1, c.2, rfl⟩
  · rw [if_neg c] at h
    cases h
theorem law_callG {P : Program} {w : World} {K : PySem.W.Frag} {mg mb : Str → Option Value} {k : Nat} {fa a : Addr} {fd : FuncData} {x : Str} {t : Shared} {vs : List Value} {ns : List Int}
    (inK : K.In t.heap) (nsM : t.heap.Ns mainGlobals mg) (nsB : t.heap.Ns builtinsNs mb) (boot : ∀ x : Str, x ≠ "__name__" → mb x = bootBuiltins x) (lim : t.heap.NoLimit) (gens : t.gens = #[])
    (at_ : t.heap.get? a = some { cls := .type "list", data := .seq vs.toArray }) (hi : IntsAre vs ns) (hl : ns.length ≤ 100) (room : Room k callerA)
    (F : ∀ base : Heap, K.In base → base.Ns mainGlobals mg → FnG P w K mg base k fa fd [x] (spLaw K)) (bind : ∀ (s : Shared) (u : Value), BindsTo s fd ⟨[u], []⟩ [(x, u)]) :
    codeAny (model P w) callerA (.call (.ref fa) ⟨[.ref a], []⟩) (fun r t' => r = .ok (.ret (.bool true)) ∧ OldK t.heap t'.heap ∧ t'.os = t.os ∧ AllBare t'.gens) t := by
  have rv := vals_ints hi
  have lv := hi.length
  have big : ns.length ≤ sizeLine := Nat.le_trans hl (by decide)
  generalize ho : ({ cls := .type "list", data := .seq vs.toArray } : Obj) = o at at_
  generalize hH : scriptH K a o (ns.map V.int) = H
  have inv : ∀ {b : Addr} {u : HO}, H b = some u → K.lookup a = none ∧ b = a ∧ u = .frz o (.lst (ns.map V.int)) := fun {b u} z => scriptH_inv (hH ▸ z)
  have none_of : ∀ {b : Addr}, (b = a → K.lookup a ≠ none) → H b = none := fun {b} n => by
    cases z : H b with
    | none => rfl
    | some u => exact absurd (inv z).1 (n (inv z).2.1)
  have hS : SqL K H a (ns.map V.int) := by
    cases z : K.lookup a with
    | none =>
      refine .inl (.inr ⟨o, ?_⟩)
      rw [← hH]
      exact if_pos ⟨z, rfl⟩
    | some o' =>
      have e := inK a o' z
      rw [at_] at e
      cases e
      subst ho
      exact .inr ⟨_, vs.toArray, _, z, rfl, rfl, rfl, by rw [List.size_toArray, lv]; exact big, by simpa using rv⟩
  have hok : HOk P w H t.heap := fun b u z => by
    obtain ⟨_, rfl, rfl⟩ := inv z
    subst ho
    exact ⟨at_, by rw [List.length_map]; exact big, vs, _, rv, at_⟩
  have nodict : ∀ {b : Addr} {o' : Obj} {es : Array DictEntry} {ep : Nat}, t.heap.get? b = some o' → o'.data = .dict es ep → H b = none := fun {b o' es ep} e d => none_of fun z _ => by
    subst z ho
    rw [at_] at e
    cases e
    exact nomatch d
  have nsT : ∀ {b : Addr} {m : Str → Option Value}, t.heap.Ns b m → (hidT t.heap H).Ns b m := fun {b m} ⟨o', es, ep, e, d, r⟩ => ⟨o', es, ep, hidT_get e (nodict e d), d, r⟩
  have inT : K.In (hidT t.heap H) := fun b o' e => hidT_get (inK b o' e) (none_of fun z n => by
    subst z
    rw [n] at e
    cases e)
  have e0 : Env0 P w K mg (hidT t.heap H) callerA [] t H := ⟨rfl, ⟨inT, nsT nsM, ⟨mb, nsT nsB, boot⟩, let ⟨mc, h1, h2⟩ := lim; ⟨mc, nsT h1, h2⟩⟩, fun b o' e => of_hidT e, Nat.le_of_eq (hidT_size _ _), trivial, fun b hb => absurd (show b ∈ ([] : List Addr) from hb) (by simp), hok, .of_eq gens⟩
  refine codeAny_mono ((F _ inT (nsT nsM)).run callerA [] t H ⟨[.ref a], []⟩ [.ref a] [.ref a] (fun v _ => v = .bl true) (fun _ _ _ => False) rfl room e0 (bind t (.ref a)) (.cons rfl .nil) ⟨H, a, ns, Same.refl H, rfl, hS, hl, fun _ => rfl⟩) fun r t' h => ?_
  cases r with
  | error e => exact (show False from h).elim
  | ok fl =>
    cases fl with
    | next => exact False.elim h
    | brk => exact False.elim h
    | cont => exact False.elim h
    | ret u =>
      obtain ⟨v, H', os, bare, un, hok', ru, q⟩ := h
      have q : v = .bl true := q
      subst q
      obtain rfl : u = Value.bool true := ru
      refine ⟨rfl, OldK.of_keep fun b o' e => ?_, os, bare⟩
      cases z : H b with
      | none => exact un.keep b o' e z (by intro z; exact absurd (show b ∈ ([] : List Addr) from z) (by simp)) (by simp)
      | some u =>
        obtain ⟨_, rfl, rfl⟩ := inv z
        obtain ⟨e2, _⟩ := hok' b _ (un.frzs b o _ z)
        rw [at_] at e
        cases e
        exact e2
theorem walkG {l : PySem.W.OpenLaw} {k : Nat} {q : Program} {loose : List Str} {XP : (Str → Option Value) → Heap → Prop} {YP : World → Heap → Prop} {d : DefRec} {x : Str} (hn : l.most = some 63) (hdf : d.params.defaults = []) (room : Room k callerA)
    (F : ∀ (w : World) (mg : Str → Option Value) (fa : Addr) (h : Heap), YP w h → h.Ns mainGlobals mg → mg d.name = some (.ref fa) →
      ∃ (K : PySem.W.Frag) (fd : FuncData), K.In h ∧ (∀ (s : Shared) (u : Value), BindsTo s fd ⟨[u], []⟩ [(x, u)]) ∧ ∀ base : Heap, K.In base → base.Ns mainGlobals mg → FnG l.prog w K mg base k fa fd [x] (spLaw K)) :
    PySem.W.WalkO q loose XP YP l.row.toRowW d [] (fun f vs => PySem.call f vs) := by
  refine Att.attach_call hn hdf fun w s₀ t mg mb fa o pm cd doc a vs ns G Y ho hd hcd hmg hobj hints hlen hg => ?_
  obtain ⟨K, fd, inK, hb, hF⟩ := F w mg fa _ Y G.T.g hmg
  exact law_callG inK G.T.g G.T.b G.T.builtins G.T.nolimit hg hobj hints (Nat.le_trans hlen (by decide)) room hF hb
end K82
/-! The facts that the top leaves, and each def's promise by its name. -/
namespace K82
open PySem PySem.Spec PyProof.Rows L2
section
variable {P : Program} {w : World} {K : PySem.W.Frag} {mg : Str → Option Value} {base h : Heap} {f : Addr} {fd : FuncData}
/-- a def stands where its name says -/
def At (K : PySem.W.Frag) (mg : Str → Option Value) (x : Str) (st : Stmt) (dvs : List V) : Prop := ∃ f fd, FunT K x st dvs f fd ∧ mg x = some (.ref f)
theorem at_of (x : Str) (st : Stmt) (X : K.In h) (G : h.Ns mainGlobals mg) {oc kV doc pm cdv ct : Value} {od an : Option Addr} {osl : Array (Option Value)} (a : PySem.W.nsIn K mainGlobals x = some (some (.ref f)))
    (l : K.lookup f = some ⟨oc, od, .func (PySem.W.fnOf x x (defArgs st) (defBody st) (defScope st) .none kV doc pm an cdv ct), osl⟩) (c : PySem.W.codeIn K cdv x = true) (k : PySem.W.keepIn K (.ref f) = true) : At K mg x st [] :=
  ⟨f, _, ⟨⟨oc, od, .none, kV, doc, pm, an, cdv, ct, osl, rfl, l, c, .inl ⟨rfl, rfl⟩, .inl rfl⟩, k⟩, PySem.W.mg_of X G a⟩
theorem atD_of (x : Str) (st : Stmt) (its : List Value) {dvs : List V} (hv : Vals dvs its) (hn : dvs ≠ []) (X : K.In h) (G : h.Ns mainGlobals mg) {T : Addr} {n : Nat} {oc kV doc pm cdv ct c2 : Value} {od an d2 : Option Addr} {osl s2 : Array (Option Value)} (a : PySem.W.nsIn K mainGlobals x = some (some (.ref f)))
    (l : K.lookup f = some ⟨oc, od, .func (PySem.W.fnOf x x (defArgs st) (defBody st) (defScope st) (.ref T) kV doc pm an cdv ct), osl⟩) (c : PySem.W.codeIn K cdv x = true) (k : PySem.W.keepIn K (.ref f) = true) (t : K.lookup T = some ⟨c2, d2, .seq its.toArray n, s2⟩) : At K mg x st dvs :=
  ⟨f, _, ⟨⟨oc, od, .ref T, kV, doc, pm, an, cdv, ct, osl, rfl, l, c, .inr ⟨hn, T, _, its, n, rfl, t, rfl, hv⟩, .inl rfl⟩, k⟩, PySem.W.mg_of X G a⟩
theorem atI_of (x : Str) (st : Stmt) (i : Int) (X : K.In h) (G : h.Ns mainGlobals mg) {T : Addr} {n : Nat} {tk : Tok} {oc kV doc pm cdv ct c2 : Value} {od an d2 : Option Addr} {osl s2 : Array (Option Value)} (a : PySem.W.nsIn K mainGlobals x = some (some (.ref f)))
    (l : K.lookup f = some ⟨oc, od, .func (PySem.W.fnOf x x (defArgs st) (defBody st) (defScope st) (.ref T) kV doc pm an cdv ct), osl⟩) (c : PySem.W.codeIn K cdv x = true) (k : PySem.W.keepIn K (.ref f) = true) (t : K.lookup T = some ⟨c2, d2, .seq #[Value.int i tk] n, s2⟩) : At K mg x st [.int i] :=
  atD_of x st [Value.int i tk] (.cons ⟨tk, rfl⟩ .nil) (by simp) X G a l c k t
/-- the class and its __init__ -/
structure RoomAt (K : PySem.W.Frag) (mg : Str → Option Value) (C : Addr) : Prop where
  cls : Cls K C
  g : mg "Room" = some (.ref C)
  ini : ∃ f fd, FunD K "__init__" "Room.__init__" (defArgs sInit) (defBody sInit) (defScope sInit) [] [] f fd ∧ Mk K C f
  n1 : NoAttr K C "prime"
  n2 : NoAttr K C "kind"
  n3 : NoAttr K C "size"
  n4 : NoAttr K C "moduli"
  n5 : NoAttr K C "members"
theorem room_of {C : Addr} (X : K.In h) (G : h.Ns mainGlobals mg) {oc kV doc pm cdv ct : Value} {od an : Option Addr} {osl : Array (Option Value)} (aC : PySem.W.nsIn K mainGlobals "Room" = some (some (.ref C)))
    (a : PySem.W.findIn K (.ref C) "__init__" = some (some (.ref f))) (i : PySem.W.isFn K (.ref f) = true) (l : K.lookup f = some ⟨oc, od, .func (PySem.W.fnOf "__init__" "Room.__init__" (defArgs sInit) (defBody sInit) (defScope sInit) .none kV doc pm an cdv ct), osl⟩)
    (c : PySem.W.codeIn K cdv "Room.__init__" = true) (k : PySem.W.keepIn K (.ref f) = true) (pg : PySem.W.plainGet K C Str.empty = true) (hd : PySem.W.hasDictIn K C = true) (po : PySem.W.plainOver K C = true) (sa : PySem.W.findIn K (.ref C) "__setattr__" = some (some (.builtin "object.__setattr__"))) (mk : PySem.W.makesIn K C = true) (kc : PySem.W.keepIn K (.ref C) = true)
    (n1 : PySem.W.findIn K (.ref C) "prime" = some none) (n2 : PySem.W.findIn K (.ref C) "kind" = some none) (n3 : PySem.W.findIn K (.ref C) "size" = some none) (n4 : PySem.W.findIn K (.ref C) "moduli" = some none) (n5 : PySem.W.findIn K (.ref C) "members" = some none) : ∃ C, RoomAt K mg C :=
  ⟨C, ⟨pg, hd, po, sa⟩, PySem.W.mg_of X G aC, ⟨f, _, ⟨⟨oc, od, .none, kV, doc, pm, an, cdv, ct, osl, rfl, l, c, .inl ⟨rfl, rfl⟩, .inl rfl⟩, k⟩, ⟨mk, a, i, kc⟩⟩, n1, n2, n3, n4, n5⟩
theorem room_with {Q : Prop} (X : K.In h) (e : ∃ C, RoomAt K mg C) (go : ∀ C, RoomAt K mg C → Q) : Q := let ⟨C, R⟩ := e; go C R
theorem at_with {Q : Prop} {x : Str} {st : Stmt} {dvs : List V} (X : K.In h) (e : At K mg x st dvs) (go : At K mg x st dvs → Q) : Q := go e
theorem num_of (X : K.In h) (G : h.Ns mainGlobals mg) (x : Str) (i : Int) {t : Tok} (a : PySem.W.nsIn K mainGlobals x = some (some (.int i t))) : Num mg x i := ⟨_, PySem.W.mg_of X G a, t, rfl⟩
theorem fd_of {x : Str} {st : Stmt} {k : Nat} {ps : List Str} {sp : Sp} (F : FunT K x st [] f fd) (g : mg x = some (.ref f)) (h : FnOk P w K mg base CX0 k f fd ps sp)
    (b : ∀ (kV doc pm : Value) (an : Option Addr) (cdv ct : Value) (us : List Value), us.length = ps.length → bindArgs (PySem.W.fnOf x x (defArgs st) (defBody st) (defScope st) .none kV doc pm an cdv ct) ⟨us, []⟩ = pure (ps.zip us)) : Fd P w K mg base x k ps [] sp := ⟨f, fd, [], h, g, F.kp, F.bindsN b, .nil⟩
theorem fdG_of {x : Str} {st : Stmt} {k : Nat} {ps : List Str} {sp : Sp} (F : FunT K x st [] f fd) (g : mg x = some (.ref f)) (h : FnG P w K mg base k f fd ps sp)
    (b : ∀ (kV doc pm : Value) (an : Option Addr) (cdv ct : Value) (us : List Value), us.length = ps.length → bindArgs (PySem.W.fnOf x x (defArgs st) (defBody st) (defScope st) .none kV doc pm an cdv ct) ⟨us, []⟩ = pure (ps.zip us)) : FdG P w K mg base x k ps sp := ⟨f, fd, h, g, F.kp, F.bindsN b⟩
theorem fdD_of {x : Str} {st : Stmt} {k : Nat} {ps : List Str} {sp : Sp} {dvs : List V} (n j : Nat) (F : FunT K x st dvs f fd) (g : mg x = some (.ref f)) (h : FnOk P w K mg base CX0 k f fd ps sp) (hd : dvs ≠ []) (hn : n + (dvs.length - j) = ps.length)
    (b : ∀ (T : Addr) (kV doc pm : Value) (an : Option Addr) (cdv ct : Value) (us its : List Value), us.length = n → its.length = dvs.length → ∃ k, bindArgs (PySem.W.fnOf x x (defArgs st) (defBody st) (defScope st) (.ref T) kV doc pm an cdv ct) ⟨us, []⟩ = seqItems? (.ref T) >>= k ∧ k (some its.toArray) = pure (ps.zip (us ++ its.drop j))) : Fd P w K mg base x k ps (dvs.drop j) sp := by
  obtain ⟨ds, v, b⟩ := F.binds1 n j hd hn b
  exact ⟨f, fd, ds, h, g, F.kp, b, v⟩
end

theorem facts {P : Program} {w : World} {K : PySem.W.Frag} {mg : Str → Option Value} {f C : Addr} (hfa : mg ("law" : Str) = some (.ref f)) (R : RoomAt K mg C)
    (A_ar : At K mg "all_rows" sAR [])
    (A_draw : At K mg "_law_draw" sDraw [])
    (A_exp : At K mg "_law_exponent" sExp [])
    (A_fa : At K mg "faces_all" sFA [])
    (A_hand : At K mg "_law_hand" sHand [])
    (A_holds : At K mg "_law_holds" sHolds [])
    (A_lies : At K mg "_law_lies" sLies [])
    (A_lowers : At K mg "_law_lowers" sLowers [])
    (A_nought : At K mg "_law_nought" sNought [])
    (A_nr : At K mg "nought_row" sNR [])
    (A_plus : At K mg "_law_plus" sPlus [])
    (A_power : At K mg "_law_power" sPower [])
    (A_pp : At K mg "prime_power" sPP [])
    (A_pr : At K mg "plus_rows" sPR [])
    (A_seq : At K mg "is_sequence" sSeq [])
    (A_times : At K mg "_law_times" sTimes [])
    (A_whole : At K mg "is_whole" sWhole [.non, .non])
    (A_cm : At K mg "check_member" sCM [])
    (A_cp : At K mg "check_prime" sCP [])
    (A_cr : At K mg "close_rows" sCR [])
    (A_from : At K mg "_law_from_counts" sFrom [])
    (A_grids : At K mg "_law_grids" sGrids [])
    (A_kind : At K mg "_law_kind" sKind [])
    (A_moduli : At K mg "_law_moduli" sModuli [])
    (A_pf : At K mg "parts_fault" sPF [])
    (A_ck : At K mg "check_kind" sCK [.int 24])
    (A_cw : At K mg "check_within" sCW [])
    (A_dr : At K mg "_law_drawn_room" sDR [])
    (A_gridRows : At K mg "_law_grid_rows" sGridRows [])
    (A_kindOf : At K mg "_law_kind_of" sKindOf [])
    (A_members : At K mg "_law_members" sMembers [])
    (A_faces : At K mg "_law_faces" sFaces [])
    (A_fw : At K mg "facing_within" sFW [])
    (A_jw : At K mg "joined_within" sJW [])
    (A_listing : At K mg "_law_listing" sListing [])
    (A_rest : At K mg "_law_rest_of" sRest [])
    (A_sw : At K mg "shared_within" sSW [])
    (A_faced : At K mg "_law_faced" sFaced [])
    (A_paired : At K mg "_law_paired" sPaired [])
    (A_law : At K mg "law" sLaw [])
    (z_abs : mg "abs" = none)
    (z_bool : mg "bool" = none)
    (z_int : mg "int" = none)
    (z_isinstance : mg "isinstance" = none)
    (z_len : mg "len" = none)
    (z_list : mg "list" = none)
    (z_min : mg "min" = none)
    (z_range : mg "range" = none)
    (z_repr : mg "repr" = none)
    (z_sorted : mg "sorted" = none)
    (z_sum : mg "sum" = none)
    (z_tuple : mg "tuple" = none)
    (z_zip : mg "zip" = none)
    (i_MOST_PARTS : Num mg "MOST_PARTS" 4)
    (i_MOST_SUM : Num mg "MOST_SUM" 6)
    (i_MOST_MEMBERS : Num mg "MOST_MEMBERS" 81)
    : ∃ fd : FuncData, (∀ (s : Shared) (v : Value), BindsTo s fd ⟨[v], []⟩ [("_law_script", v)]) ∧ ∀ base : Heap, FnG P w K mg base 6 f fd ["_law_script"] (spLaw K) := by
  obtain ⟨cls, g_Room, ⟨f_init, fd_init, F_init, mkr⟩, n_prime, n_kind, n_size, n_moduli, n_members⟩ := R
  obtain ⟨f_ar, fd_ar, F_ar, g_all_rows⟩ := A_ar
  obtain ⟨f_draw, fd_draw, F_draw, g__law_draw⟩ := A_draw
  obtain ⟨f_exp, fd_exp, F_exp, g__law_exponent⟩ := A_exp
  obtain ⟨f_fa, fd_fa, F_fa, g_faces_all⟩ := A_fa
  obtain ⟨f_hand, fd_hand, F_hand, g__law_hand⟩ := A_hand
  obtain ⟨f_holds, fd_holds, F_holds, g__law_holds⟩ := A_holds
  obtain ⟨f_lies, fd_lies, F_lies, g__law_lies⟩ := A_lies
  obtain ⟨f_lowers, fd_lowers, F_lowers, g__law_lowers⟩ := A_lowers
  obtain ⟨f_nought, fd_nought, F_nought, g__law_nought⟩ := A_nought
  obtain ⟨f_nr, fd_nr, F_nr, g_nought_row⟩ := A_nr
  obtain ⟨f_plus, fd_plus, F_plus, g__law_plus⟩ := A_plus
  obtain ⟨f_power, fd_power, F_power, g__law_power⟩ := A_power
  obtain ⟨f_pp, fd_pp, F_pp, g_prime_power⟩ := A_pp
  obtain ⟨f_pr, fd_pr, F_pr, g_plus_rows⟩ := A_pr
  obtain ⟨f_seq, fd_seq, F_seq, g_is_sequence⟩ := A_seq
  obtain ⟨f_times, fd_times, F_times, g__law_times⟩ := A_times
  obtain ⟨f_whole, fd_whole, F_whole, g_is_whole⟩ := A_whole
  obtain ⟨f_cm, fd_cm, F_cm, g_check_member⟩ := A_cm
  obtain ⟨f_cp, fd_cp, F_cp, g_check_prime⟩ := A_cp
  obtain ⟨f_cr, fd_cr, F_cr, g_close_rows⟩ := A_cr
  obtain ⟨f_from, fd_from, F_from, g__law_from_counts⟩ := A_from
  obtain ⟨f_grids, fd_grids, F_grids, g__law_grids⟩ := A_grids
  obtain ⟨f_kind, fd_kind, F_kind, g__law_kind⟩ := A_kind
  obtain ⟨f_moduli, fd_moduli, F_moduli, g__law_moduli⟩ := A_moduli
  obtain ⟨f_pf, fd_pf, F_pf, g_parts_fault⟩ := A_pf
  obtain ⟨f_ck, fd_ck, F_ck, g_check_kind⟩ := A_ck
  obtain ⟨f_cw, fd_cw, F_cw, g_check_within⟩ := A_cw
  obtain ⟨f_dr, fd_dr, F_dr, g__law_drawn_room⟩ := A_dr
  obtain ⟨f_gridRows, fd_gridRows, F_gridRows, g__law_grid_rows⟩ := A_gridRows
  obtain ⟨f_kindOf, fd_kindOf, F_kindOf, g__law_kind_of⟩ := A_kindOf
  obtain ⟨f_members, fd_members, F_members, g__law_members⟩ := A_members
  obtain ⟨f_faces, fd_faces, F_faces, g__law_faces⟩ := A_faces
  obtain ⟨f_fw, fd_fw, F_fw, g_facing_within⟩ := A_fw
  obtain ⟨f_jw, fd_jw, F_jw, g_joined_within⟩ := A_jw
  obtain ⟨f_listing, fd_listing, F_listing, g__law_listing⟩ := A_listing
  obtain ⟨f_rest, fd_rest, F_rest, g__law_rest_of⟩ := A_rest
  obtain ⟨f_sw, fd_sw, F_sw, g_shared_within⟩ := A_sw
  obtain ⟨f_faced, fd_faced, F_faced, g__law_faced⟩ := A_faced
  obtain ⟨f_paired, fd_paired, F_paired, g__law_paired⟩ := A_paired
  obtain ⟨f_law, fd_law, F_law, g_law⟩ := A_law
  have e := hfa.symm.trans g_law
  cases e
  have b := FunD.bindsA (ps := ["_law_script"]) F_law fun _ _ _ _ _ _ us hl => match us, hl with | [_], _ => rfl
  refine ⟨fd_law, fun s v => b s [v] rfl, fun base => ?_⟩
  have p_ar : Fd P w K mg base "all_rows" 1 ["moduli"] [] (spD prAR) := fd_of F_ar g_all_rows (ok_ar F_ar z_range z_tuple) (fun _ _ _ _ _ _ us hl => match us, hl with | [_], _ => rfl)
  have p_draw : Fd P w K mg base "_law_draw" 1 ["_law_hand_here", "_law_many"] [] (spH prDraw) := fd_of F_draw g__law_draw (ok_draw F_draw z_len z_int) (fun _ _ _ _ _ _ us hl => match us, hl with | [_, _], _ => rfl)
  have p_exp : Fd P w K mg base "_law_exponent" 1 ["_law_prime", "_law_number"] [] (spD prExp) := fd_of F_exp g__law_exponent (ok_exp F_exp z_range z_abs z_int) (fun _ _ _ _ _ _ us hl => match us, hl with | [_, _], _ => rfl)
  have p_fa : Fd P w K mg base "faces_all" 1 ["room", "weights", "rows", "member"] [] (spD (prFA C)) := fd_of F_fa g_faces_all (ok_fa (C := C) F_fa cls n_moduli z_zip) (fun _ _ _ _ _ _ us hl => match us, hl with | [_, _, _, _], _ => rfl)
  have p_hand : Fd P w K mg base "_law_hand" 1 ["_law_script"] [] (spNew K) := fd_of F_hand g__law_hand (ok_hand F_hand z_len z_abs z_int) (fun _ _ _ _ _ _ us hl => match us, hl with | [_], _ => rfl)
  have p_holds : Fd P w K mg base "_law_holds" 1 ["_law_one", "_law_other"] [] (spD prHolds) := fd_of F_holds g__law_holds (ok_holds F_holds ) (fun _ _ _ _ _ _ us hl => match us, hl with | [_, _], _ => rfl)
  have p_lies : Fd P w K mg base "_law_lies" 1 ["_law_columns", "_law_row"] [] (spD prLies) := fd_of F_lies g__law_lies (ok_lies F_lies z_range z_len z_int z_list) (fun _ _ _ _ _ _ us hl => match us, hl with | [_, _], _ => rfl)
  have p_lowers : Fd P w K mg base "_law_lowers" 1 ["_law_columns"] [] (spD prLowers) := fd_of F_lowers g__law_lowers (ok_lowers F_lowers z_range z_len z_list) (fun _ _ _ _ _ _ us hl => match us, hl with | [_], _ => rfl)
  have p_nought : Fd P w K mg base "_law_nought" 1 ["_law_moduli_here"] [] (spD prNought) := fd_of F_nought g__law_nought (ok_nought F_nought z_tuple) (fun _ _ _ _ _ _ us hl => match us, hl with | [_], _ => rfl)
  have p_nr : Fd P w K mg base "nought_row" 1 ["moduli"] [] (spD prNR) := fd_of F_nr g_nought_row (ok_nr F_nr z_tuple) (fun _ _ _ _ _ _ us hl => match us, hl with | [_], _ => rfl)
  have p_plus : Fd P w K mg base "_law_plus" 1 ["_law_moduli_here", "_law_one", "_law_other"] [] (spD prPlus) := fd_of F_plus g__law_plus (ok_plus F_plus z_range z_tuple z_int z_len) (fun _ _ _ _ _ _ us hl => match us, hl with | [_, _, _], _ => rfl)
  have p_power : Fd P w K mg base "_law_power" 1 ["_law_prime", "_law_exponent_here"] [] (spD prPower) := fd_of F_power g__law_power (ok_power F_power z_range) (fun _ _ _ _ _ _ us hl => match us, hl with | [_, _], _ => rfl)
  have p_pp : Fd P w K mg base "prime_power" 1 ["prime", "exponent"] [] (spD prPP) := fd_of F_pp g_prime_power (ok_pp F_pp ) (fun _ _ _ _ _ _ us hl => match us, hl with | [_, _], _ => rfl)
  have p_pr : Fd P w K mg base "plus_rows" 1 ["moduli", "one", "other"] [] (spD prPR) := fd_of F_pr g_plus_rows (ok_pr F_pr z_tuple z_zip) (fun _ _ _ _ _ _ us hl => match us, hl with | [_, _, _], _ => rfl)
  have p_seq : Fd P w K mg base "is_sequence" 1 ["thing"] [] (spD prSeq) := fd_of F_seq g_is_sequence (ok_seq F_seq z_isinstance z_list z_tuple) (fun _ _ _ _ _ _ us hl => match us, hl with | [_], _ => rfl)
  have p_times : Fd P w K mg base "_law_times" 1 ["_law_moduli_here", "_law_number", "_law_row"] [] (spD prTimes) := fd_of F_times g__law_times (ok_times F_times z_range z_tuple z_int z_len) (fun _ _ _ _ _ _ us hl => match us, hl with | [_, _, _], _ => rfl)
  have o_whole : FnOk P w K mg base CX0 1 _ fd_whole ["thing", "low", "high"] (spD prWhole) := ok_whole F_whole z_isinstance z_bool z_int
  have p_whole1 : Fd P w K mg base "is_whole" 1 ["thing", "low", "high"] [.non, .non] (spD prWhole) := fdD_of (dvs := [.non, .non]) 1 0 F_whole g_is_whole o_whole (by simp) rfl fun _ _ _ _ _ _ _ us its h1 h2 => match us, its, h1, h2 with | [_], [_, _], _, _ => ⟨_, rfl, rfl⟩
  have p_whole2 : Fd P w K mg base "is_whole" 1 ["thing", "low", "high"] [.non] (spD prWhole) := fdD_of (dvs := [.non, .non]) 2 1 F_whole g_is_whole o_whole (by simp) rfl fun _ _ _ _ _ _ _ us its h1 h2 => match us, its, h1, h2 with | [_, _], [_, _], _, _ => ⟨_, rfl, rfl⟩
  have p_whole3 : Fd P w K mg base "is_whole" 1 ["thing", "low", "high"] [] (spD prWhole) := fdD_of (dvs := [.non, .non]) 3 2 F_whole g_is_whole o_whole (by simp) rfl fun _ _ _ _ _ _ _ us its h1 h2 => match us, its, h1, h2 with | [_, _, _], [_, _], _, _ => ⟨_, rfl, rfl⟩
  have p_cm : Fd P w K mg base "check_member" 2 ["room", "thing"] [] (spD (prCM C)) := fd_of F_cm g_check_member (ok_cm (C := C) F_cm cls n_moduli p_whole3 p_seq z_len z_tuple z_zip) (fun _ _ _ _ _ _ us hl => match us, hl with | [_, _], _ => rfl)
  have p_cp : Fd P w K mg base "check_prime" 2 ["thing"] [] (spD prCP) := fd_of F_cp g_check_prime (ok_cp F_cp p_whole1) (fun _ _ _ _ _ _ us hl => match us, hl with | [_], _ => rfl)
  have p_cr : Fd P w K mg base "close_rows" 2 ["moduli", "rows"] [] (spD prCR) := fd_of F_cr g_close_rows (ok_cr F_cr p_nr p_pr z_list z_tuple z_sorted) (fun _ _ _ _ _ _ us hl => match us, hl with | [_, _], _ => rfl)
  have p_from : Fd P w K mg base "_law_from_counts" 2 ["_law_prime", "_law_counts"] [] (spD prFrom) := fd_of F_from g__law_from_counts (ok_from F_from p_exp z_range z_len z_tuple) (fun _ _ _ _ _ _ us hl => match us, hl with | [_, _], _ => rfl)
  have p_grids : Fd P w K mg base "_law_grids" 2 ["_law_prime", "_law_kind_here"] [] (spD prGrids) := fd_of F_grids g__law_grids (ok_grids F_grids p_lowers p_lies p_power z_range z_len z_list) (fun _ _ _ _ _ _ us hl => match us, hl with | [_, _], _ => rfl)
  have p_kind : Fd P w K mg base "_law_kind" 2 ["_law_hand_here", "_law_total"] [] (spH prKind) := fd_of F_kind g__law_kind (ok_kind F_kind p_draw z_range z_min z_tuple) (fun _ _ _ _ _ _ us hl => match us, hl with | [_, _], _ => rfl)
  have p_moduli : Fd P w K mg base "_law_moduli" 2 ["_law_prime", "_law_kind_here"] [] (spD prModuli) := fd_of F_moduli g__law_moduli (ok_moduli F_moduli p_power) (fun _ _ _ _ _ _ us hl => match us, hl with | [_, _], _ => rfl)
  have p_pf : Fd P w K mg base "parts_fault" 2 ["thing", "low"] [] (spD prPF) := fd_of F_pf g_parts_fault (ok_pf F_pf p_whole2 z_range z_len) (fun _ _ _ _ _ _ us hl => match us, hl with | [_, _], _ => rfl)
  have p_ck : Fd P w K mg base "check_kind" 3 ["thing", "most"] [] (spD prCK) := fdD_of (dvs := [.int 24]) 2 1 F_ck g_check_kind (ok_ck F_ck p_seq p_pf z_len z_tuple) (by simp) rfl fun _ _ _ _ _ _ _ us its h1 h2 => match us, its, h1, h2 with | [_, _], [_], _, _ => ⟨_, rfl, rfl⟩
  have p_cw : Fd P w K mg base "check_within" 3 ["room", "thing"] [] (spD (prCW C)) := fd_of F_cw g_check_within (ok_cw (C := C) F_cw cls n_moduli p_seq p_cm p_cr z_len z_tuple z_list z_sorted) (fun _ _ _ _ _ _ us hl => match us, hl with | [_, _], _ => rfl)
  have p_dr : Fd P w K mg base "_law_drawn_room" 3 ["_law_hand_here", "_law_rare", "_law_top"] [] (spH prDR) := fd_of F_dr g__law_drawn_room (ok_dr F_dr p_draw p_kind) (fun _ _ _ _ _ _ us hl => match us, hl with | [_, _, _], _ => rfl)
  have p_gridRows : Fd P w K mg base "_law_grid_rows" 3 ["_law_prime", "_law_kind_here", "_law_grid"] [] (spD prGridRows) := fd_of F_gridRows g__law_grid_rows (ok_gridRows F_gridRows p_moduli p_nought p_times p_plus z_range z_len z_list z_tuple z_sorted) (fun _ _ _ _ _ _ us hl => match us, hl with | [_, _, _], _ => rfl)
  have p_kindOf : Fd P w K mg base "_law_kind_of" 3 ["_law_prime", "_law_kind_here", "_law_rows"] [] (spD prKindOf) := fd_of F_kindOf g__law_kind_of (ok_kindOf F_kindOf p_moduli p_nought p_power p_times p_from z_range z_len) (fun _ _ _ _ _ _ us hl => match us, hl with | [_, _, _], _ => rfl)
  have p_members : Fd P w K mg base "_law_members" 3 ["_law_prime", "_law_kind_here"] [] (spD prMembers) := fd_of F_members g__law_members (ok_members F_members p_moduli z_range z_list) (fun _ _ _ _ _ _ us hl => match us, hl with | [_, _], _ => rfl)
  have p_faces : Fd P w K mg base "_law_faces" 4 ["_law_prime", "_law_kind_here", "_law_rows"] [] (spD prFaces) := fd_of F_faces g__law_faces (ok_faces F_faces p_members p_power z_range z_len z_int z_sum z_tuple) (fun _ _ _ _ _ _ us hl => match us, hl with | [_, _, _], _ => rfl)
  have p_fw : Fd P w K mg base "facing_within" 4 ["room", "within"] [] (spD (prFW C)) := fd_of F_fw g_facing_within (ok_fw (C := C) F_fw cls n_prime n_kind n_members p_cw p_pp p_fa z_tuple) (fun _ _ _ _ _ _ us hl => match us, hl with | [_, _], _ => rfl)
  have p_init : Cd P w K mg base "Room" C 4 ["self", "prime", "kind"] (spC C prInit) := ⟨_, fd_init, mkr, ok_init (C := C) F_init cls n_prime n_kind n_size n_moduli n_members p_cp p_ck p_pp p_ar i_MOST_PARTS i_MOST_SUM i_MOST_MEMBERS z_sum z_tuple, g_Room, F_init.bindsN (fun _ _ _ _ _ _ us hl => match us, hl with | [_, _, _], _ => rfl)⟩
  have p_jw : Fd P w K mg base "joined_within" 4 ["room", "one", "other"] [] (spD (prJW C)) := fd_of F_jw g_joined_within (ok_jw (C := C) F_jw cls n_moduli p_cw p_cr) (fun _ _ _ _ _ _ us hl => match us, hl with | [_, _, _], _ => rfl)
  have p_listing : Fd P w K mg base "_law_listing" 4 ["_law_prime", "_law_kind_here"] [] (spD prListing) := fd_of F_listing g__law_listing (ok_listing F_listing p_grids p_gridRows z_len z_sorted) (fun _ _ _ _ _ _ us hl => match us, hl with | [_, _], _ => rfl)
  have p_rest : Fd P w K mg base "_law_rest_of" 4 ["_law_prime", "_law_kind_here", "_law_rows"] [] (spD prRest) := fd_of F_rest g__law_rest_of (ok_rest F_rest p_moduli p_members p_power p_times p_from z_range z_len) (fun _ _ _ _ _ _ us hl => match us, hl with | [_, _, _], _ => rfl)
  have p_sw : Fd P w K mg base "shared_within" 4 ["room", "one", "other"] [] (spD (prSW C)) := fd_of F_sw g_shared_within (ok_sw (C := C) F_sw p_cw z_tuple) (fun _ _ _ _ _ _ us hl => match us, hl with | [_, _, _], _ => rfl)
  have p_faced : FdG P w K mg base "_law_faced" 5 ["_law_prime", "_law_kind_here", "_law_room", "_law_rows"] (spD (prFaced C)) := fdG_of F_faced g__law_faced (ok_faced (C := C) F_faced p_fw p_faces p_kindOf p_rest z_repr z_list) (fun _ _ _ _ _ _ us hl => match us, hl with | [_, _, _, _], _ => rfl)
  have p_paired : FdG P w K mg base "_law_paired" 5 ["_law_room", "_law_one", "_law_other"] (spD (prPaired C)) := fdG_of F_paired g__law_paired (ok_paired (C := C) F_paired p_fw p_jw p_sw p_holds z_repr) (fun _ _ _ _ _ _ us hl => match us, hl with | [_, _, _], _ => rfl)
  exact ok_law (C := C) F_law p_hand p_draw p_dr p_init p_listing p_members p_faced p_paired z_len z_range z_min z_int
end K82
section
set_option maxHeartbeats 0
open PySem PySem.W PyProof.Rows
open_top head82 for PySem.Challenge.rw_threeshapes_k82_whole_facing_rooms_withi
end
open PySem PySem.W PyProof.Rows in
set_option maxRecDepth 100000 in
set_option maxHeartbeats 0 in
theorem PySem.Challenge.cw_threeshapes_k82_whole_facing_rooms_withi_holds : PySem.Challenge.rw_threeshapes_k82_whole_facing_rooms_withi.Holds := by
  refine head82 ?_
  k_fill
  refine K82.walkG (l := PySem.Challenge.rw_threeshapes_k82_whole_facing_rooms_withi) (k := 6) (x := "_law_script") rfl rfl ⟨rfl, by decide, by decide⟩ ?F
  case F =>
    intro w mg fa h Y G hmg
    have KX := PySem.W.kIn_of Y
    refine' K82.room_with KX (K82.room_of KX G ?aC ?a ?i ?l ?c ?k ?pg ?hd ?po ?sa ?mk ?kc ?n1 ?n2 ?n3 ?n4 ?n5) ?go
    (case aC => k_is)
    (case a => k_is)
    (case i => k_is)
    (case l => k_is)
    (case c => k_is)
    (case k => k_is)
    (case pg => k_is)
    (case hd => k_is)
    (case po => k_is)
    (case sa => k_is)
    (case mk => k_is)
    (case kc => k_is)
    (case n1 => k_is)
    (case n2 => k_is)
    (case n3 => k_is)
    (case n4 => k_is)
    (case n5 => k_is)
    intro C R
    refine' K82.at_with KX (K82.at_of "all_rows" K82.sAR KX G ?a_ar ?l_ar ?c_ar ?k_ar) ?go_ar
    (case a_ar => k_is)
    (case l_ar => k_is)
    (case c_ar => k_is)
    (case k_ar => k_is)
    intro A_ar
    refine' K82.at_with KX (K82.at_of "_law_draw" K82.sDraw KX G ?a_draw ?l_draw ?c_draw ?k_draw) ?go_draw
    (case a_draw => k_is)
    (case l_draw => k_is)
    (case c_draw => k_is)
    (case k_draw => k_is)
    intro A_draw
    refine' K82.at_with KX (K82.at_of "_law_exponent" K82.sExp KX G ?a_exp ?l_exp ?c_exp ?k_exp) ?go_exp
    (case a_exp => k_is)
    (case l_exp => k_is)
    (case c_exp => k_is)
    (case k_exp => k_is)
    intro A_exp
    refine' K82.at_with KX (K82.at_of "faces_all" K82.sFA KX G ?a_fa ?l_fa ?c_fa ?k_fa) ?go_fa
    (case a_fa => k_is)
    (case l_fa => k_is)
    (case c_fa => k_is)
    (case k_fa => k_is)
    intro A_fa
    refine' K82.at_with KX (K82.at_of "_law_hand" K82.sHand KX G ?a_hand ?l_hand ?c_hand ?k_hand) ?go_hand
    (case a_hand => k_is)
    (case l_hand => k_is)
    (case c_hand => k_is)
    (case k_hand => k_is)
    intro A_hand
    refine' K82.at_with KX (K82.at_of "_law_holds" K82.sHolds KX G ?a_holds ?l_holds ?c_holds ?k_holds) ?go_holds
    (case a_holds => k_is)
    (case l_holds => k_is)
    (case c_holds => k_is)
    (case k_holds => k_is)
    intro A_holds
    refine' K82.at_with KX (K82.at_of "_law_lies" K82.sLies KX G ?a_lies ?l_lies ?c_lies ?k_lies) ?go_lies
    (case a_lies => k_is)
    (case l_lies => k_is)
    (case c_lies => k_is)
    (case k_lies => k_is)
    intro A_lies
    refine' K82.at_with KX (K82.at_of "_law_lowers" K82.sLowers KX G ?a_lowers ?l_lowers ?c_lowers ?k_lowers) ?go_lowers
    (case a_lowers => k_is)
    (case l_lowers => k_is)
    (case c_lowers => k_is)
    (case k_lowers => k_is)
    intro A_lowers
    refine' K82.at_with KX (K82.at_of "_law_nought" K82.sNought KX G ?a_nought ?l_nought ?c_nought ?k_nought) ?go_nought
    (case a_nought => k_is)
    (case l_nought => k_is)
    (case c_nought => k_is)
    (case k_nought => k_is)
    intro A_nought
    refine' K82.at_with KX (K82.at_of "nought_row" K82.sNR KX G ?a_nr ?l_nr ?c_nr ?k_nr) ?go_nr
    (case a_nr => k_is)
    (case l_nr => k_is)
    (case c_nr => k_is)
    (case k_nr => k_is)
    intro A_nr
    refine' K82.at_with KX (K82.at_of "_law_plus" K82.sPlus KX G ?a_plus ?l_plus ?c_plus ?k_plus) ?go_plus
    (case a_plus => k_is)
    (case l_plus => k_is)
    (case c_plus => k_is)
    (case k_plus => k_is)
    intro A_plus
    refine' K82.at_with KX (K82.at_of "_law_power" K82.sPower KX G ?a_power ?l_power ?c_power ?k_power) ?go_power
    (case a_power => k_is)
    (case l_power => k_is)
    (case c_power => k_is)
    (case k_power => k_is)
    intro A_power
    refine' K82.at_with KX (K82.at_of "prime_power" K82.sPP KX G ?a_pp ?l_pp ?c_pp ?k_pp) ?go_pp
    (case a_pp => k_is)
    (case l_pp => k_is)
    (case c_pp => k_is)
    (case k_pp => k_is)
    intro A_pp
    refine' K82.at_with KX (K82.at_of "plus_rows" K82.sPR KX G ?a_pr ?l_pr ?c_pr ?k_pr) ?go_pr
    (case a_pr => k_is)
    (case l_pr => k_is)
    (case c_pr => k_is)
    (case k_pr => k_is)
    intro A_pr
    refine' K82.at_with KX (K82.at_of "is_sequence" K82.sSeq KX G ?a_seq ?l_seq ?c_seq ?k_seq) ?go_seq
    (case a_seq => k_is)
    (case l_seq => k_is)
    (case c_seq => k_is)
    (case k_seq => k_is)
    intro A_seq
    refine' K82.at_with KX (K82.at_of "_law_times" K82.sTimes KX G ?a_times ?l_times ?c_times ?k_times) ?go_times
    (case a_times => k_is)
    (case l_times => k_is)
    (case c_times => k_is)
    (case k_times => k_is)
    intro A_times
    refine' K82.at_with KX (K82.atD_of "is_whole" K82.sWhole [Value.none, Value.none] (dvs := [L2.V.non, L2.V.non]) (.cons rfl (.cons rfl .nil)) (by simp) KX G ?a_whole ?l_whole ?c_whole ?k_whole ?t_whole) ?go_whole
    (case a_whole => k_is)
    (case l_whole => k_is)
    (case c_whole => k_is)
    (case k_whole => k_is)
    (case t_whole => k_is)
    intro A_whole
    refine' K82.at_with KX (K82.at_of "check_member" K82.sCM KX G ?a_cm ?l_cm ?c_cm ?k_cm) ?go_cm
    (case a_cm => k_is)
    (case l_cm => k_is)
    (case c_cm => k_is)
    (case k_cm => k_is)
    intro A_cm
    refine' K82.at_with KX (K82.at_of "check_prime" K82.sCP KX G ?a_cp ?l_cp ?c_cp ?k_cp) ?go_cp
    (case a_cp => k_is)
    (case l_cp => k_is)
    (case c_cp => k_is)
    (case k_cp => k_is)
    intro A_cp
    refine' K82.at_with KX (K82.at_of "close_rows" K82.sCR KX G ?a_cr ?l_cr ?c_cr ?k_cr) ?go_cr
    (case a_cr => k_is)
    (case l_cr => k_is)
    (case c_cr => k_is)
    (case k_cr => k_is)
    intro A_cr
    refine' K82.at_with KX (K82.at_of "_law_from_counts" K82.sFrom KX G ?a_from ?l_from ?c_from ?k_from) ?go_from
    (case a_from => k_is)
    (case l_from => k_is)
    (case c_from => k_is)
    (case k_from => k_is)
    intro A_from
    refine' K82.at_with KX (K82.at_of "_law_grids" K82.sGrids KX G ?a_grids ?l_grids ?c_grids ?k_grids) ?go_grids
    (case a_grids => k_is)
    (case l_grids => k_is)
    (case c_grids => k_is)
    (case k_grids => k_is)
    intro A_grids
    refine' K82.at_with KX (K82.at_of "_law_kind" K82.sKind KX G ?a_kind ?l_kind ?c_kind ?k_kind) ?go_kind
    (case a_kind => k_is)
    (case l_kind => k_is)
    (case c_kind => k_is)
    (case k_kind => k_is)
    intro A_kind
    refine' K82.at_with KX (K82.at_of "_law_moduli" K82.sModuli KX G ?a_moduli ?l_moduli ?c_moduli ?k_moduli) ?go_moduli
    (case a_moduli => k_is)
    (case l_moduli => k_is)
    (case c_moduli => k_is)
    (case k_moduli => k_is)
    intro A_moduli
    refine' K82.at_with KX (K82.at_of "parts_fault" K82.sPF KX G ?a_pf ?l_pf ?c_pf ?k_pf) ?go_pf
    (case a_pf => k_is)
    (case l_pf => k_is)
    (case c_pf => k_is)
    (case k_pf => k_is)
    intro A_pf
    refine' K82.at_with KX (K82.atI_of "check_kind" K82.sCK 24 KX G ?a_ck ?l_ck ?c_ck ?k_ck ?t_ck) ?go_ck
    (case a_ck => k_is)
    (case l_ck => k_is)
    (case c_ck => k_is)
    (case k_ck => k_is)
    (case t_ck => k_is)
    intro A_ck
    refine' K82.at_with KX (K82.at_of "check_within" K82.sCW KX G ?a_cw ?l_cw ?c_cw ?k_cw) ?go_cw
    (case a_cw => k_is)
    (case l_cw => k_is)
    (case c_cw => k_is)
    (case k_cw => k_is)
    intro A_cw
    refine' K82.at_with KX (K82.at_of "_law_drawn_room" K82.sDR KX G ?a_dr ?l_dr ?c_dr ?k_dr) ?go_dr
    (case a_dr => k_is)
    (case l_dr => k_is)
    (case c_dr => k_is)
    (case k_dr => k_is)
    intro A_dr
    refine' K82.at_with KX (K82.at_of "_law_grid_rows" K82.sGridRows KX G ?a_gridRows ?l_gridRows ?c_gridRows ?k_gridRows) ?go_gridRows
    (case a_gridRows => k_is)
    (case l_gridRows => k_is)
    (case c_gridRows => k_is)
    (case k_gridRows => k_is)
    intro A_gridRows
    refine' K82.at_with KX (K82.at_of "_law_kind_of" K82.sKindOf KX G ?a_kindOf ?l_kindOf ?c_kindOf ?k_kindOf) ?go_kindOf
    (case a_kindOf => k_is)
    (case l_kindOf => k_is)
    (case c_kindOf => k_is)
    (case k_kindOf => k_is)
    intro A_kindOf
    refine' K82.at_with KX (K82.at_of "_law_members" K82.sMembers KX G ?a_members ?l_members ?c_members ?k_members) ?go_members
    (case a_members => k_is)
    (case l_members => k_is)
    (case c_members => k_is)
    (case k_members => k_is)
    intro A_members
    refine' K82.at_with KX (K82.at_of "_law_faces" K82.sFaces KX G ?a_faces ?l_faces ?c_faces ?k_faces) ?go_faces
    (case a_faces => k_is)
    (case l_faces => k_is)
    (case c_faces => k_is)
    (case k_faces => k_is)
    intro A_faces
    refine' K82.at_with KX (K82.at_of "facing_within" K82.sFW KX G ?a_fw ?l_fw ?c_fw ?k_fw) ?go_fw
    (case a_fw => k_is)
    (case l_fw => k_is)
    (case c_fw => k_is)
    (case k_fw => k_is)
    intro A_fw
    refine' K82.at_with KX (K82.at_of "joined_within" K82.sJW KX G ?a_jw ?l_jw ?c_jw ?k_jw) ?go_jw
    (case a_jw => k_is)
    (case l_jw => k_is)
    (case c_jw => k_is)
    (case k_jw => k_is)
    intro A_jw
    refine' K82.at_with KX (K82.at_of "_law_listing" K82.sListing KX G ?a_listing ?l_listing ?c_listing ?k_listing) ?go_listing
    (case a_listing => k_is)
    (case l_listing => k_is)
    (case c_listing => k_is)
    (case k_listing => k_is)
    intro A_listing
    refine' K82.at_with KX (K82.at_of "_law_rest_of" K82.sRest KX G ?a_rest ?l_rest ?c_rest ?k_rest) ?go_rest
    (case a_rest => k_is)
    (case l_rest => k_is)
    (case c_rest => k_is)
    (case k_rest => k_is)
    intro A_rest
    refine' K82.at_with KX (K82.at_of "shared_within" K82.sSW KX G ?a_sw ?l_sw ?c_sw ?k_sw) ?go_sw
    (case a_sw => k_is)
    (case l_sw => k_is)
    (case c_sw => k_is)
    (case k_sw => k_is)
    intro A_sw
    refine' K82.at_with KX (K82.at_of "_law_faced" K82.sFaced KX G ?a_faced ?l_faced ?c_faced ?k_faced) ?go_faced
    (case a_faced => k_is)
    (case l_faced => k_is)
    (case c_faced => k_is)
    (case k_faced => k_is)
    intro A_faced
    refine' K82.at_with KX (K82.at_of "_law_paired" K82.sPaired KX G ?a_paired ?l_paired ?c_paired ?k_paired) ?go_paired
    (case a_paired => k_is)
    (case l_paired => k_is)
    (case c_paired => k_is)
    (case k_paired => k_is)
    intro A_paired
    refine' K82.at_with KX (K82.at_of "law" K82.sLaw KX G ?a_law ?l_law ?c_law ?k_law) ?go_law
    (case a_law => k_is)
    (case l_law => k_is)
    (case c_law => k_is)
    (case k_law => k_is)
    intro A_law
    have z_abs : mg "abs" = none := by
      refine' PySem.W.mg_none_of KX G ?z_abs
      (case z_abs => k_is)
    have z_bool : mg "bool" = none := by
      refine' PySem.W.mg_none_of KX G ?z_bool
      (case z_bool => k_is)
    have z_int : mg "int" = none := by
      refine' PySem.W.mg_none_of KX G ?z_int
      (case z_int => k_is)
    have z_isinstance : mg "isinstance" = none := by
      refine' PySem.W.mg_none_of KX G ?z_isinstance
      (case z_isinstance => k_is)
    have z_len : mg "len" = none := by
      refine' PySem.W.mg_none_of KX G ?z_len
      (case z_len => k_is)
    have z_list : mg "list" = none := by
      refine' PySem.W.mg_none_of KX G ?z_list
      (case z_list => k_is)
    have z_min : mg "min" = none := by
      refine' PySem.W.mg_none_of KX G ?z_min
      (case z_min => k_is)
    have z_range : mg "range" = none := by
      refine' PySem.W.mg_none_of KX G ?z_range
      (case z_range => k_is)
    have z_repr : mg "repr" = none := by
      refine' PySem.W.mg_none_of KX G ?z_repr
      (case z_repr => k_is)
    have z_sorted : mg "sorted" = none := by
      refine' PySem.W.mg_none_of KX G ?z_sorted
      (case z_sorted => k_is)
    have z_sum : mg "sum" = none := by
      refine' PySem.W.mg_none_of KX G ?z_sum
      (case z_sum => k_is)
    have z_tuple : mg "tuple" = none := by
      refine' PySem.W.mg_none_of KX G ?z_tuple
      (case z_tuple => k_is)
    have z_zip : mg "zip" = none := by
      refine' PySem.W.mg_none_of KX G ?z_zip
      (case z_zip => k_is)
    have i_MOST_PARTS : K82.Num mg "MOST_PARTS" 4 := by
      refine' K82.num_of KX G "MOST_PARTS" 4 ?z_MOST_PARTS
      (case z_MOST_PARTS => k_is)
    have i_MOST_SUM : K82.Num mg "MOST_SUM" 6 := by
      refine' K82.num_of KX G "MOST_SUM" 6 ?z_MOST_SUM
      (case z_MOST_SUM => k_is)
    have i_MOST_MEMBERS : K82.Num mg "MOST_MEMBERS" 81 := by
      refine' K82.num_of KX G "MOST_MEMBERS" 81 ?z_MOST_MEMBERS
      (case z_MOST_MEMBERS => k_is)
    obtain ⟨fd, hb, hF⟩ := K82.facts (P := PySem.Challenge.rw_threeshapes_k82_whole_facing_rooms_withi.prog) (w := w) hmg R A_ar A_draw A_exp A_fa A_hand A_holds A_lies A_lowers A_nought A_nr A_plus A_power A_pp A_pr A_seq A_times A_whole A_cm A_cp A_cr A_from A_grids A_kind A_moduli A_pf A_ck A_cw A_dr A_gridRows A_kindOf A_members A_faces A_fw A_jw A_listing A_rest A_sw A_faced A_paired A_law z_abs z_bool z_int z_isinstance z_len z_list z_min z_range z_repr z_sorted z_sum z_tuple z_zip i_MOST_PARTS i_MOST_SUM i_MOST_MEMBERS
    exact ⟨_, fd, KX, hb, fun base _ _ => hF base⟩
