import PyProof.Rows.All
import Wide.All
import OpenK.AllK
import Wide.FinOn
import HandS.ForMost
import HandS.Walk
import HandS.Steps
import HandS.TupAny
import HandS.IsInst
import HandS.Deep
import HandS.Replace
import HandS.ReplaceList
import KE.GoesMore
import KE.GoesEnum
import KE.GoesZip
import KE.KRevSl
import HandS.Conv
import PyProof.P3In
import PySem.Challenge.RW_gapwords_k90_whole_from_text_to_text
set_option Elab.async false
set_option linter.all false
set_option maxRecDepth 100000
set_option maxHeartbeats 1000000
/-! The data layer: what a value is as data, and what a reading comes to. -/
namespace GW
open PySem PySem.Spec L2 TL

/-- data: texts by their codes, tuples by their items; raw: the value itself -/
inductive D where
  | non | bl (b : Bool) | int (i : Int) | tx (l : List Nat) | tup (ds : List D) | raw (v : V)
  /-- a tuple of texts whose object is known: the token of its second text, one sign, is not 0 and below n -/
  | stp (n : Nat) (ws : List (List Nat))

abbrev mkS (l : List Nat) : Str := ⟨l.toArray⟩
theorem tl_mkS (l : List Nat) : tl (mkS l) = l := rfl
theorem mkS_tl (z : Str) : mkS (tl z) = z := ext_tl rfl
theorem mkS_len (l : List Nat) : (mkS l).length = l.length := by rw [len_tl, tl_mkS]
theorem mkS_inj {l m : List Nat} : mkS l = mkS m ↔ l = m := ⟨fun h => by rw [← tl_mkS l, h, tl_mkS], fun h => by rw [h]⟩
theorem mkS_app (l m : List Nat) : mkS l ++ mkS m = mkS (l ++ m) := ext_tl (by rw [tl_append, tl_mkS, tl_mkS, tl_mkS])

/-- the object of such a tuple -/
def TkO (n x : Nat) (o : Obj) : Prop := o.cls = .type "tuple" ∧ ∃ (u0 : Value) (t1 : Tok) (rest : List Value) (m : Nat), o.data = .seq (u0 :: Value.str (mkS [x]) t1 :: rest).toArray m ∧ 1 ≤ t1 ∧ t1 < n
mutual
/-- the value is this data in this heap -/
inductive R (K : PySem.W.Frag) (H : Hp) : V → D → Prop
  | non : R K H .non .non
  | bl (b : Bool) : R K H (.bl b) (.bl b)
  | int (i : Int) : R K H (.int i) (.int i)
  | tx (l : List Nat) : R K H (.str (mkS l)) (.tx l)
  | raw (v : V) : R K H v (.raw v)
  | tup {a : Addr} {xs : List V} {ds : List D} : SqT K H a xs → RL K H xs ds → R K H (.ref a) (.tup ds)
  | stp {a : Addr} {o : Obj} {n x : Nat} {ws : List (List Nat)} : H a = some (.frz o (.tup (ws.map fun l => V.str (mkS l)))) → ws[1]? = some [x] → TkO n x o → R K H (.ref a) (.stp n ws)
inductive RL (K : PySem.W.Frag) (H : Hp) : List V → List D → Prop
  | nil : RL K H [] []
  | cons {v : V} {vs : List V} {d : D} {ds : List D} : R K H v d → RL K H vs ds → RL K H (v :: vs) (d :: ds)
end

/-- all tuples are kept -/
def Tp (K : PySem.W.Frag) (H H' : Hp) : Prop := (∀ a xs, SqT K H a xs → SqT K H' a xs) ∧ ∀ a o u, H a = some (.frz o u) → H' a = some (.frz o u)
section
variable {K : PySem.W.Frag} {H H1 H2 H3 H' : Hp} {a o p : Addr}
theorem Tp.refl : Tp K H H := ⟨fun _ _ h => h, fun _ _ _ h => h⟩
theorem Tp.trans (x : Tp K H H1) (y : Tp K H1 H2) : Tp K H H2 := ⟨fun a xs h => y.1 a xs (x.1 a xs h), fun a o u h => y.2 a o u (x.2 a o u h)⟩
theorem same_sqT {xs : List V} (e : Same H H') (h : SqT K H a xs) : SqT K H' a xs := by
  rcases h with (h | ⟨o, h⟩) | h
  · exact .inl (.inl (e _ _ h))
  · exact .inl (.inr ⟨o, e _ _ h⟩)
  · exact .inr h
theorem Tp.of (e : Same H H') : Tp K H H' := ⟨fun _ _ h => same_sqT e h, fun _ _ _ h => e _ _ h⟩
theorem same_new {u : HO} (h : H p = none) : Same H (upd H p u) := fun b x e => by
  rw [upd_ne (ne_of_none e h)]
  exact e
theorem Same.mut {u : HO} (e : Same H H') (h : H p = none) : Same H (upd H' p u) := fun b x q => by
  rw [upd_ne (ne_of_none q h)]
  exact e _ _ q
/-- what is no tuple (tracked, frozen) may change -/
def NoTup : HO → Prop
  | .tup _ => False
  | .frz _ _ => False
  | _ => True
theorem tp_mut {u w : HO} (h : H o = some u) (n : NoTup u) : Tp K H (upd H o w) := ⟨fun b xs q => by
  rcases q with (q | ⟨ob, q⟩) | q
  · exact .inl (.inl (by rw [upd_ne (by intro e; subst e; rw [h] at q; cases q; exact n)]; exact q))
  · exact .inl (.inr ⟨ob, by rw [upd_ne (by intro e; subst e; rw [h] at q; cases q; exact n)]; exact q⟩)
  · exact .inr q, fun b ob x q => by rw [upd_ne (by intro e; subst e; rw [h] at q; cases q; exact n)]; exact q⟩
theorem tp_new {u : HO} (h : H p = none) : Tp K H (upd H p u) := Tp.of (same_new h)

mutual
theorem R.mono (e : Tp K H H') : ∀ {v : V} {d : D}, R K H v d → R K H' v d
  | _, _, .non => .non
  | _, _, .bl b => .bl b
  | _, _, .int i => .int i
  | _, _, .tx l => .tx l
  | _, _, .raw v => .raw v
  | _, _, .tup h t => .tup (e.1 _ _ h) (RL.mono e t)
  | _, _, .stp h x t => .stp (e.2 _ _ _ h) x t
theorem RL.mono (e : Tp K H H') : ∀ {vs : List V} {ds : List D}, RL K H vs ds → RL K H' vs ds
  | _, _, .nil => .nil
  | _, _, .cons h t => .cons (R.mono e h) (RL.mono e t)
end
theorem RL.len : ∀ {vs : List V} {ds : List D}, RL K H vs ds → vs.length = ds.length
  | _, _, .nil => rfl
  | _, _, .cons _ t => congrArg (· + 1) (RL.len t)
theorem RL.get : ∀ {vs : List V} {ds : List D} {i : Nat} {v : V}, RL K H vs ds → vs[i]? = some v → ∃ d, ds[i]? = some d ∧ R K H v d
  | _, _, _, _, .nil, e => by simp at e
  | _, _, 0, _, .cons h _, e => by
    have e : _ = _ := Option.some.inj e
    subst e
    exact ⟨_, rfl, h⟩
  | _, _, i + 1, v, .cons _ t, e => RL.get (i := i) (v := v) t e
theorem RL.at : ∀ {vs : List V} {ds : List D} {i : Nat} {d : D}, RL K H vs ds → ds[i]? = some d → ∃ v, vs[i]? = some v ∧ R K H v d
  | _, _, _, _, .nil, e => by simp at e
  | _, _, 0, _, .cons h _, e => by
    have e : _ = _ := Option.some.inj e
    subst e
    exact ⟨_, rfl, h⟩
  | _, _, i + 1, d, .cons _ t, e => RL.at (i := i) (d := d) t e
theorem RL.app : ∀ {vs ws : List V} {ds es : List D}, RL K H vs ds → RL K H ws es → RL K H (vs ++ ws) (ds ++ es)
  | _, _, _, _, .nil, w => w
  | _, _, _, _, .cons h t, w => .cons h (RL.app t w)
theorem RL.one {v : V} {d : D} (h : R K H v d) : RL K H [v] [d] := .cons h .nil
theorem RL.take : ∀ {vs : List V} {ds : List D} (n : Nat), RL K H vs ds → RL K H (vs.take n) (ds.take n)
  | _, _, 0, _ => .nil
  | _, _, _ + 1, .nil => .nil
  | _, _, n + 1, .cons h t => .cons h (RL.take n t)
theorem RL.drop : ∀ {vs : List V} {ds : List D} (n : Nat), RL K H vs ds → RL K H (vs.drop n) (ds.drop n)
  | _, _, 0, h => h
  | _, _, _ + 1, .nil => .nil
  | _, _, n + 1, .cons _ t => RL.drop n t
theorem RL.rev {vs : List V} {ds : List D} (h : RL K H vs ds) : RL K H vs.reverse ds.reverse := by
  induction vs generalizing ds with
  | nil => cases h; exact .nil
  | cons v vs ih =>
    cases h with
    | cons a b =>
      rw [List.reverse_cons, List.reverse_cons]
      exact RL.app (ih b) (.one a)
theorem RL.txs : ∀ {vs : List V} {ls : List (List Nat)}, RL K H vs (ls.map D.tx) → vs = (ls.map mkS).map V.str
  | _, [], .nil => rfl
  | _, _ :: _, .cons h t => by
    cases h
    rw [RL.txs t] <;> rfl
theorem RL.ofTxs : ∀ ls : List (List Nat), RL K H ((ls.map mkS).map V.str) (ls.map D.tx)
  | [] => .nil
  | l :: ls => .cons (.tx l) (RL.ofTxs ls)
theorem RL.ints : ∀ {vs : List V} {ns : List Int}, RL K H vs (ns.map D.int) → vs = ns.map V.int
  | _, [], .nil => rfl
  | _, _ :: _, .cons h t => by
    cases h
    rw [RL.ints t] <;> rfl
theorem RL.ofInts : ∀ ns : List Int, RL K H (ns.map V.int) (ns.map D.int)
  | [] => .nil
  | n :: ns => .cons (.int n) (RL.ofInts ns)
theorem RL.bls : ∀ {vs : List V} {bs : List Bool}, RL K H vs (bs.map D.bl) → vs = bs.map V.bl
  | _, [], .nil => rfl
  | _, _ :: _, .cons h t => by
    cases h
    rw [RL.bls t] <;> rfl
theorem RL.strs (ws : List (List Nat)) : RL K H (ws.map fun l => V.str (mkS l)) (ws.map D.tx) := by
  induction ws with
  | nil => exact .nil
  | cons l ws ih => exact .cons (.tx l) ih
/-- such a tuple is a tuple of texts -/
theorem R.plain {v : V} {n : Nat} {ws : List (List Nat)} (h : R K H v (.stp n ws)) : R K H v (.tup (ws.map D.tx)) := by
  cases h with
  | stp h x t => exact .tup (.inl (.inr ⟨_, h⟩)) (RL.strs ws)
theorem TkO.mono {n m x : Nat} {o : Obj} (h : TkO n x o) (hm : n ≤ m) : TkO m x o := by
  obtain ⟨c, u0, t1, rest, k, e, h1, h2⟩ := h
  exact ⟨c, u0, t1, rest, k, e, h1, Nat.lt_of_lt_of_le h2 hm⟩
theorem R.later {v : V} {n m : Nat} {ws : List (List Nat)} (h : R K H v (.stp n ws)) (hm : n ≤ m) : R K H v (.stp m ws) := by
  cases h with
  | stp h x t => exact .stp h x (t.mono hm)
theorem R.str {z : Str} : R K H (.str z) (.tx (tl z)) := by
  have h : R K H (.str (mkS (tl z))) (.tx (tl z)) := .tx _
  rwa [mkS_tl] at h
theorem R.tup_inv {v : V} {ds : List D} (h : R K H v (.tup ds)) : ∃ a xs, v = .ref a ∧ SqT K H a xs ∧ RL K H xs ds := by
  cases h with
  | tup h t => exact ⟨_, _, rfl, h, t⟩

/-! ### slots -/
/-- what is known of a slot: nothing, or its data -/
abbrev SD := Option D
inductive Sl (K : PySem.W.Frag) (H : Hp) : L2.St → List SD → Prop
  | nil : Sl K H [] []
  | no {o : Option V} {s : L2.St} {t : List SD} : Sl K H s t → Sl K H (o :: s) (none :: t)
  | yes {v : V} {d : D} {s : L2.St} {t : List SD} : R K H v d → Sl K H s t → Sl K H (some v :: s) (some d :: t)
theorem Sl.mono (e : Tp K H H') : ∀ {s : L2.St} {t : List SD}, Sl K H s t → Sl K H' s t
  | _, _, .nil => .nil
  | _, _, .no t => .no (Sl.mono e t)
  | _, _, .yes h t => .yes (h.mono e) (Sl.mono e t)
theorem Sl.get : ∀ {s : L2.St} {t : List SD} {i : Nat} {d : D}, Sl K H s t → t[i]? = some (some d) → ∃ v, s[i]? = some (some v) ∧ R K H v d
  | _, _, _, _, .nil, e => by simp at e
  | _, _, 0, _, .no _, e => by simp at e
  | _, _, 0, _, .yes h _, e => by
    have e : _ = _ := Option.some.inj (Option.some.inj e)
    subst e
    exact ⟨_, rfl, h⟩
  | _, _, i + 1, d, .no t, e => Sl.get (i := i) (d := d) t e
  | _, _, i + 1, d, .yes _ t, e => Sl.get (i := i) (d := d) t e
theorem Sl.set {v : V} {d : D} (h : R K H v d) : ∀ {s : L2.St} {t : List SD} (i : Nat), Sl K H s t → Sl K H (s.set i (some v)) (t.set i (some d))
  | _, _, _, .nil => .nil
  | _, _, 0, .no t => .yes h t
  | _, _, 0, .yes _ t => .yes h t
  | _, _, i + 1, .no t => .no (Sl.set h i t)
  | _, _, i + 1, .yes g t => .yes g (Sl.set h i t)
theorem Sl.drop1 : ∀ {s : L2.St} {t : List SD} (i : Nat), Sl K H s t → Sl K H s (t.set i none)
  | _, _, _, .nil => .nil
  | _, _, 0, .no t => .no t
  | _, _, 0, .yes _ t => .no t
  | _, _, i + 1, .no t => .no (Sl.drop1 i t)
  | _, _, i + 1, .yes g t => .yes g (Sl.drop1 i t)
theorem Sl.setN {o : Option V} : ∀ {s : L2.St} {t : List SD} (i : Nat), Sl K H s t → Sl K H (s.set i o) (t.set i none)
  | _, _, _, .nil => .nil
  | _, _, 0, .no t => .no t
  | _, _, 0, .yes _ t => .no t
  | _, _, i + 1, .no t => .no (Sl.setN i t)
  | _, _, i + 1, .yes g t => .yes g (Sl.setN i t)
theorem Sl.nos : ∀ n : Nat, Sl K H (List.replicate n none) (List.replicate n none)
  | 0 => .nil
  | n + 1 => .no (Sl.nos n)
theorem Sl.ofRL : ∀ {vs : List V} {ds : List D} (n : Nat), RL K H vs ds → Sl K H (vs.map some ++ List.replicate n none) (ds.map some ++ List.replicate n none)
  | _, _, n, .nil => Sl.nos n
  | _, _, n, .cons h t => .yes h (Sl.ofRL n t)
theorem Sl.start {N : List Str} {vs : List V} {ds : List D} (h : RL K H vs ds) : Sl K H (start N vs) (ds.map some ++ List.replicate (N.length - ds.length) none) := by
  unfold L2.start
  rw [h.len]
  exact Sl.ofRL _ h
/-- the slots wiped -/
def wipeD (t : List SD) : List Nat → List SD
  | [] => t
  | v :: vs => (wipeD t vs).set v none
theorem Sl.wipe {s : L2.St} {t : List SD} (h : Sl K H s t) : ∀ vs : List Nat, Sl K H (wipe s vs) (wipeD t vs)
  | [] => h
  | v :: vs => Sl.setN v (Sl.wipe h vs)
end

/-! ### what a reading comes to -/
section
variable (K : PySem.W.Frag)
def EvD (te : TE) (σ : L2.St) (H : Hp) (d : D) : Prop := ∀ H1, Same H H1 → ∀ Q : VK, (∀ v H2, Same H1 H2 → R K H2 v d → Q v H2) → te σ H1 Q
/-- a new list -/
def EvL (te : TE) (σ : L2.St) (H : Hp) (ds : List D) : Prop := ∀ H1, Same H H1 → ∀ Q : VK, (∀ a vs H2, Same H1 H2 → H1 a = none → H2 a = some (.lst vs) → RL K H2 vs ds → Q (.ref a) H2) → te σ H1 Q
def EvT (t : TT) (σ : L2.St) (H : Hp) (b : Bool) : Prop := ∀ H1, Same H H1 → ∀ Q : Bool → Hp → Prop, (∀ H2, Same H1 H2 → Q b H2) → t σ H1 Q
def EvA (t : TA) (σ : L2.St) (H : Hp) (ds : List D) : Prop := ∀ H1, Same H H1 → ∀ Q : List V → Hp → Prop, (∀ vs H2, Same H1 H2 → RL K H2 vs ds → Q vs H2) → t σ H1 Q
end
section
variable {K : PySem.W.Frag} {σ : L2.St} {H H' : Hp} {ta tb tc te : TE} {d e : D} {ds es : List D} {b c : Bool} {i j : Int} {l m : List Nat}
theorem EvD.up (h : EvD K te σ H d) (x : Same H H') : EvD K te σ H' d := fun H1 a Q q => h H1 (x.trans a) Q q
theorem EvL.up (h : EvL K te σ H ds) (x : Same H H') : EvL K te σ H' ds := fun H1 a Q q => h H1 (x.trans a) Q q
theorem EvT.up {t : TT} (h : EvT t σ H b) (x : Same H H') : EvT t σ H' b := fun H1 a Q q => h H1 (x.trans a) Q q
theorem EvA.up {t : TA} (h : EvA K t σ H ds) (x : Same H H') : EvA K t σ H' ds := fun H1 a Q q => h H1 (x.trans a) Q q
theorem EvD.to (h : EvD K te σ H d) (x : d = e) : EvD K te σ H e := x ▸ h
theorem EvT.to {t : TT} (h : EvT t σ H b) (x : b = c) : EvT t σ H c := x ▸ h
theorem EvL.to (h : EvL K te σ H ds) (x : ds = es) : EvL K te σ H es := x ▸ h
/-- at once -/
theorem EvD.go (h : EvD K te σ H d) {Q : VK} (q : ∀ v H2, Same H H2 → R K H2 v d → Q v H2) : te σ H Q := h H (Same.refl H) Q q
theorem EvT.go {t : TT} (h : EvT t σ H b) {Q : Bool → Hp → Prop} (q : ∀ H2, Same H H2 → Q b H2) : t σ H Q := h H (Same.refl H) Q q
theorem EvL.go (h : EvL K te σ H ds) {Q : VK} (q : ∀ a vs H2, Same H H2 → H a = none → H2 a = some (.lst vs) → RL K H2 vs ds → Q (.ref a) H2) : te σ H Q := h H (Same.refl H) Q q
theorem EvA.go {t : TA} (h : EvA K t σ H ds) {Q : List V → Hp → Prop} (q : ∀ vs H2, Same H H2 → RL K H2 vs ds → Q vs H2) : t σ H Q := h H (Same.refl H) Q q

theorem ev_var {ss : List SD} {k : Nat} (S : Sl K H σ ss) (h : ss[k]? = some (some d)) : EvD K (tVar k) σ H d := fun H1 x Q q => by
  obtain ⟨v, h1, h2⟩ := (S.mono (Tp.of x)).get h
  exact ⟨v, h1, q v H1 (Same.refl _) h2⟩
theorem ev_c {v : V} (h : R K H v d) : EvD K (tC v) σ H d := fun H1 x Q q => q v H1 (Same.refl _) (h.mono (Tp.of x))
theorem ev_int : EvD K (tC (.int i)) σ H (.int i) := ev_c (.int i)
theorem ev_bl : EvD K (tC (.bl b)) σ H (.bl b) := ev_c (.bl b)
theorem ev_non : EvD K (tC .non) σ H .non := ev_c .non
theorem ev_str {z : Str} : EvD K (tC (.str z)) σ H (.tx (tl z)) := ev_c .str

theorem eva_nil : EvA K tNil σ H [] := fun H1 _ _ q => q [] H1 (Same.refl _) .nil
theorem eva_cons {t : TA} (h : EvD K te σ H d) (r : EvA K t σ H ds) : EvA K (tCons te t) σ H (d :: ds) := fun H1 x Q q =>
  h H1 x _ fun v H2 x2 r2 => r H2 (x.trans x2) _ fun vs H3 x3 r3 => q (v :: vs) H3 (x2.trans x3) (.cons (r2.mono (Tp.of x3)) r3)

/-- operators upon values whose data is known -/
theorem ev_op {r : R2} {f : D} (h1 : EvD K ta σ H d) (h2 : EvD K tb σ H e)
    (hr : ∀ H1 v w, R K H1 v d → R K H1 w e → ∀ Q : VK, (∀ v H2, Same H1 H2 → R K H2 v f → Q v H2) → r v w H1 Q) : EvD K (tOp r ta tb) σ H f := fun H1 x Q q =>
  h1 H1 x _ fun v H2 x2 r2 => h2 H2 (x.trans x2) _ fun w H3 x3 r3 => hr H3 v w (r2.mono (Tp.of x3)) r3 Q fun u H4 x4 r4 => q u H4 ((x2.trans x3).trans x4) r4
theorem ev_I0 {g : Int → Int → V} (h1 : EvD K ta σ H (.int i)) (h2 : EvD K tb σ H (.int j)) (hd : ∀ H1, R K H1 (g i j) d) : EvD K (tOp (rI0 g) ta tb) σ H d :=
  ev_op h1 h2 fun H1 v w r1 r2 Q q => by
    cases r1
    cases r2
    exact ⟨i, j, rfl, rfl, q _ H1 (Same.refl _) (hd H1)⟩
theorem ev_I {C : Int → Int → Prop} {g : Int → Int → V} (h1 : EvD K ta σ H (.int i)) (h2 : EvD K tb σ H (.int j)) (hc : C i j) (hd : ∀ H1, R K H1 (g i j) d) : EvD K (tOp (rI C g) ta tb) σ H d :=
  ev_op h1 h2 fun H1 v w r1 r2 Q q => by
    cases r1
    cases r2
    exact ⟨i, j, rfl, rfl, hc, q _ H1 (Same.refl _) (hd H1)⟩
theorem ev_add (h1 : EvD K ta σ H (.int i)) (h2 : EvD K tb σ H (.int j)) : EvD K (tOp (rI0 fun i j => .int (i + j)) ta tb) σ H (.int (i + j)) := ev_I0 h1 h2 fun _ => .int _
theorem ev_sub (h1 : EvD K ta σ H (.int i)) (h2 : EvD K tb σ H (.int j)) : EvD K (tOp (rI0 fun i j => .int (i - j)) ta tb) σ H (.int (i - j)) := ev_I0 h1 h2 fun _ => .int _
theorem ev_lt (h1 : EvD K ta σ H (.int i)) (h2 : EvD K tb σ H (.int j)) : EvD K (tOp (rI0 fun i j => .bl (decide (i < j))) ta tb) σ H (.bl (decide (i < j))) := ev_I0 h1 h2 fun _ => .bl _
theorem ev_le (h1 : EvD K ta σ H (.int i)) (h2 : EvD K tb σ H (.int j)) : EvD K (tOp (rI0 fun i j => .bl (decide (i ≤ j))) ta tb) σ H (.bl (decide (i ≤ j))) := ev_I0 h1 h2 fun _ => .bl _
theorem ev_gt (h1 : EvD K ta σ H (.int i)) (h2 : EvD K tb σ H (.int j)) : EvD K (tOp (rI0 fun i j => .bl (decide (j < i))) ta tb) σ H (.bl (decide (j < i))) := ev_I0 h1 h2 fun _ => .bl _
theorem ev_ge (h1 : EvD K ta σ H (.int i)) (h2 : EvD K tb σ H (.int j)) : EvD K (tOp (rI0 fun i j => .bl (decide (j ≤ i))) ta tb) σ H (.bl (decide (j ≤ i))) := ev_I0 h1 h2 fun _ => .bl _
theorem ev_mul (h1 : EvD K ta σ H (.int i)) (h2 : EvD K tb σ H (.int j)) (hc : CMul i j) : EvD K (tOp (rI CMul fun i j => .int (i * j)) ta tb) σ H (.int (i * j)) := ev_I h1 h2 hc fun _ => .int _
theorem ev_fdiv (h1 : EvD K ta σ H (.int i)) (h2 : EvD K tb σ H (.int j)) (hc : CDiv i j) : EvD K (tOp (rI CDiv fun i j => .int (i / j)) ta tb) σ H (.int (i / j)) := ev_I h1 h2 hc fun _ => .int _
theorem ev_mod (h1 : EvD K ta σ H (.int i)) (h2 : EvD K tb σ H (.int j)) (hc : 0 < j) : EvD K (tOp (rI (fun _ j => 0 < j) fun i j => .int (i % j)) ta tb) σ H (.int (i % j)) := ev_I h1 h2 hc fun _ => .int _
theorem ev_neg (h1 : EvD K ta σ H (.int i)) : EvD K (tUn (rU fun i => .int (-i)) ta) σ H (.int (-i)) := fun H1 x Q q => h1 H1 x _ fun v H2 x2 r => by
  cases r
  exact ⟨i, rfl, q _ H2 x2 (.int _)⟩
def rAddS : R2 := fun x y H Q => ∃ i j, x = .str i ∧ y = .str j ∧ i.length + j.length ≤ sizeLine ∧ Q (.str (i ++ j)) H
theorem op_addS {X : Cx} : OpR X (binaryOp .Add) rAddS := op_add_str
theorem iop_addS {X : Cx} : OpR X (inplaceOp .Add) rAddS := iop_add_str
theorem ev_addS (h1 : EvD K ta σ H (.tx l)) (h2 : EvD K tb σ H (.tx m)) (hl : l.length + m.length ≤ sizeLine) : EvD K (tOp rAddS ta tb) σ H (.tx (l ++ m)) :=
  ev_op h1 h2 fun H1 v w r1 r2 Q q => by
    cases r1
    cases r2
    refine ⟨mkS l, mkS m, rfl, rfl, by rw [mkS_len, mkS_len]; exact hl, ?_⟩
    rw [mkS_app]
    exact q _ H1 (Same.refl _) (.tx _)
def rLtS : R2 := fun x y H Q => ∃ i j, x = .str i ∧ y = .str j ∧ Q (.bl (decide (i.cps.toList < j.cps.toList))) H
theorem op_ltS {X : Cx} : OpR X (compareOp .Lt) rLtS := op_lt_str
theorem ev_ltS (h1 : EvD K ta σ H (.tx l)) (h2 : EvD K tb σ H (.tx m)) : EvD K (tOp rLtS ta tb) σ H (.bl (decide (l < m))) :=
  ev_op h1 h2 fun H1 v w r1 r2 Q q => by
    cases r1
    cases r2
    exact ⟨mkS l, mkS m, rfl, rfl, q _ H1 (Same.refl _) (.bl _)⟩
theorem dec_mkS : decide (V.str (mkS l) = V.str (mkS m)) = decide (l = m) := by
  by_cases h : l = m
  · subst h
    simp
  · rw [decide_eq_false h, decide_eq_false fun z => h (mkS_inj.mp (V.str.inj z))]
theorem ev_eqS (h1 : EvD K ta σ H (.tx l)) (h2 : EvD K tb σ H (.tx m)) : EvD K (tOp rEq ta tb) σ H (.bl (decide (l = m))) :=
  ev_op h1 h2 fun H1 v w r1 r2 Q q => by
    cases r1
    cases r2
    refine ⟨rfl, ?_⟩
    rw [dec_mkS]
    exact q _ H1 (Same.refl _) (.bl _)
theorem ev_neS (h1 : EvD K ta σ H (.tx l)) (h2 : EvD K tb σ H (.tx m)) : EvD K (tOp rNe ta tb) σ H (.bl (!decide (l = m))) :=
  ev_op h1 h2 fun H1 v w r1 r2 Q q => by
    cases r1
    cases r2
    refine ⟨rfl, ?_⟩
    rw [dec_mkS]
    exact q _ H1 (Same.refl _) (.bl _)
theorem dec_V_int : decide (V.int i = V.int j) = decide (i = j) := by
  by_cases h : i = j
  · subst h
    simp
  · rw [decide_eq_false h, decide_eq_false fun z => h (V.int.inj z)]
theorem ev_eqI (h1 : EvD K ta σ H (.int i)) (h2 : EvD K tb σ H (.int j)) : EvD K (tOp rEq ta tb) σ H (.bl (decide (i = j))) :=
  ev_op h1 h2 fun H1 v w r1 r2 Q q => by
    cases r1
    cases r2
    refine ⟨rfl, ?_⟩
    rw [dec_V_int]
    exact q _ H1 (Same.refl _) (.bl _)
theorem ev_neI (h1 : EvD K ta σ H (.int i)) (h2 : EvD K tb σ H (.int j)) : EvD K (tOp rNe ta tb) σ H (.bl (!decide (i = j))) :=
  ev_op h1 h2 fun H1 v w r1 r2 Q q => by
    cases r1
    cases r2
    refine ⟨rfl, ?_⟩
    rw [dec_V_int]
    exact q _ H1 (Same.refl _) (.bl _)
theorem mk1 {x : Nat} : mkS [x] = ⟨#[x]⟩ := rfl
theorem ev_inS {x : Nat} (h1 : EvD K ta σ H (.tx [x])) (h2 : EvD K tb σ H (.tx m)) : EvD K (tOp rInS ta tb) σ H (.bl (decide (x ∈ m))) :=
  ev_op h1 h2 fun H1 v w r1 r2 Q q => by
    cases r1
    cases r2
    exact ⟨x, mkS m, rfl, rfl, q _ H1 (Same.refl _) (.bl _)⟩
theorem ev_notInS {x : Nat} (h1 : EvD K ta σ H (.tx [x])) (h2 : EvD K tb σ H (.tx m)) : EvD K (tOp rNotInS ta tb) σ H (.bl (!decide (x ∈ m))) :=
  ev_op h1 h2 fun H1 v w r1 r2 Q q => by
    cases r1
    cases r2
    exact ⟨x, mkS m, rfl, rfl, q _ H1 (Same.refl _) (.bl _)⟩
theorem atI_some {α : Type} {xs : List α} {n : Nat} {v : α} (h : xs[n]? = some v) (e : i = (n : Int)) : atI xs i = some v := by
  subst e
  exact atI_nat h
theorem ev_ixT {n : Nat} (h1 : EvD K ta σ H (.tup ds)) (h2 : EvD K tb σ H (.int i)) (e : i = (n : Int)) (h : ds[n]? = some d) : EvD K (tOp (rIxT K) ta tb) σ H d :=
  ev_op h1 h2 fun H1 v w r1 r2 Q q => by
    cases r2
    cases r1 with
    | tup hs ht =>
      obtain ⟨x, hx, rx⟩ := ht.at h
      exact ⟨_, _, i, x, rfl, rfl, hs, atI_some hx e, q _ H1 (Same.refl _) rx⟩
theorem ev_ixS {n x : Nat} (h1 : EvD K ta σ H (.tx l)) (h2 : EvD K tb σ H (.int i)) (e : i = (n : Int)) (h : l[n]? = some x) (hl : l.length ≤ sizeLine) : EvD K (tOp rIxS ta tb) σ H (.tx [x]) :=
  ev_op h1 h2 fun H1 v w r1 r2 Q q => by
    cases r2
    cases r1
    exact ⟨mkS l, i, x, rfl, rfl, by rw [mkS_len]; exact hl, atI_some h e, q _ H1 (Same.refl _) (.tx [x])⟩
theorem ev_tup {t : TA} (h : EvA K t σ H ds) (hl : ds.length ≤ sizeLine) : EvD K (tTup t) σ H (.tup ds) := fun H1 x Q q => h H1 x _ fun vs H2 x2 r2 =>
  ⟨by rw [r2.len]; exact hl, fun p hp => q _ _ (x2.trans (same_new hp)) (.tup (SqT.of upd_same) (r2.mono (tp_new hp)))⟩
theorem el_lst {t : TA} (h : EvA K t σ H ds) (hl : ds.length ≤ sizeLine) : EvL K (tLst t) σ H ds := fun H1 x Q q => h H1 x _ fun vs H2 x2 r2 =>
  ⟨by rw [r2.len]; exact hl, fun p hp => q _ vs _ (x2.trans (same_new hp)) (x2.free hp) upd_same (r2.mono (tp_new hp))⟩
theorem ev_isN (h : EvD K ta σ H d) (hn : ∀ H1 v, R K H1 v d → decide (v = V.non) = b) : EvD K (tOp rIsN ta (tC .non)) σ H (.bl b) :=
  ev_op h ev_non fun H1 v w r1 r2 Q q => by
    cases r2
    refine ⟨rfl, ?_⟩
    rw [hn H1 v r1]
    exact q _ H1 (Same.refl _) (.bl _)
theorem ev_notN (h : EvD K ta σ H d) (hn : ∀ H1 v, R K H1 v d → decide (v = V.non) = b) : EvD K (tOp rNotN ta (tC .non)) σ H (.bl (!b)) :=
  ev_op h ev_non fun H1 v w r1 r2 Q q => by
    cases r2
    refine ⟨rfl, ?_⟩
    rw [hn H1 v r1]
    exact q _ H1 (Same.refl _) (.bl _)
theorem non_tup {H1 : Hp} {v : V} (r : R K H1 v (.tup ds)) : decide (v = V.non) = false := by
  cases r
  rfl
theorem non_non {H1 : Hp} {v : V} (r : R K H1 v .non) : decide (v = V.non) = true := by
  cases r
  rfl

/-! tests -/
theorem et_test (h : EvD K te σ H (.bl b)) : EvT (tTest te) σ H b := fun H1 x Q q => h H1 x _ fun v H2 x2 r => by
  cases r
  exact ⟨b, rfl, q H2 x2⟩
theorem et_B (h : EvD K te σ H (.bl b)) : EvT (tB te) σ H b := fun H1 x Q q => h H1 x _ fun v H2 x2 r => by
  cases r
  exact ⟨b, rfl, q H2 x2⟩
theorem et_and {t u : TT} (h1 : EvT t σ H b) (h2 : b = true → EvT u σ H c) : EvT (tAnd t u) σ H (b && c) := fun H1 x Q q => h1 H1 x _ fun H2 x2 => by
  cases b with
  | true => exact h2 rfl H2 (x.trans x2) Q fun H3 x3 => q H3 (x2.trans x3)
  | false => exact q H2 x2
theorem et_or {t u : TT} (h1 : EvT t σ H b) (h2 : b = false → EvT u σ H c) : EvT (tOr t u) σ H (b || c) := fun H1 x Q q => h1 H1 x _ fun H2 x2 => by
  cases b with
  | true => exact q H2 x2
  | false => exact h2 rfl H2 (x.trans x2) Q fun H3 x3 => q H3 (x2.trans x3)
theorem et_not {t : TT} (h1 : EvT t σ H b) : EvT (tNot t) σ H (!b) := fun H1 x Q q => h1 H1 x _ fun H2 x2 => q H2 x2
theorem et_yes : EvT tYes σ H true := fun H1 _ _ q => q H1 (Same.refl _)
theorem ev_andV (h1 : EvD K ta σ H (.bl b)) (h2 : b = true → EvD K tb σ H (.bl c)) : EvD K (tAndV ta tb) σ H (.bl (b && c)) := fun H1 x Q q => h1 H1 x _ fun v H2 x2 r => by
  cases r
  refine ⟨b, rfl, ?_⟩
  cases b with
  | true => exact h2 rfl H2 (x.trans x2) Q fun u H3 x3 r3 => q u H3 (x2.trans x3) r3
  | false => exact q _ H2 x2 (.bl _)
theorem ev_orV (h1 : EvD K ta σ H (.bl b)) (h2 : b = false → EvD K tb σ H (.bl c)) : EvD K (tOrV ta tb) σ H (.bl (b || c)) := fun H1 x Q q => h1 H1 x _ fun v H2 x2 r => by
  cases r
  refine ⟨b, rfl, ?_⟩
  cases b with
  | true => exact q _ H2 x2 (.bl _)
  | false => exact h2 rfl H2 (x.trans x2) Q fun u H3 x3 r3 => q u H3 (x2.trans x3) r3

/-! calls -/
/-- a def's promise over data -/
def spD (K : PySem.W.Frag) (P : List D → D → Prop) : Sp := fun vs H Q _ => ∃ ds d, RL K H vs ds ∧ P ds d ∧ ∀ v H', Same H H' → R K H' v d → Q v H'
theorem ev_call {P : List D → D → Prop} {t : TA} {E : XK} (h : EvA K t σ H ds) (p : P ds d) : EvD K (tCall (spD K P) [] E t) σ H d := fun H1 x Q q => h H1 x _ fun vs H2 x2 r2 =>
  ⟨ds, d, by rw [List.append_nil]; exact r2, p, fun v H3 x3 r3 => q v H3 (x2.trans x3) r3⟩
def cLenS : List V → Hp → VK → Prop := fun xs H Q => ∃ z, xs = [.str z] ∧ z.length ≤ sizeLine ∧ Q (.int z.length) H
theorem call_lenS {X : Cx} : CallR X (.builtin "len") cLenS := call_len_str
theorem ev_lenS (h : EvD K ta σ H (.tx l)) (hl : l.length ≤ sizeLine) : EvD K (tCB cLenS (tCons ta tNil)) σ H (.int l.length) := fun H1 x Q q => h H1 x _ fun v H2 x2 r => by
  cases r
  refine ⟨mkS l, rfl, by rw [mkS_len]; exact hl, ?_⟩
  rw [mkS_len]
  exact q _ H2 x2 (.int _)
def cLenQ (K : PySem.W.Frag) : List V → Hp → VK → Prop := fun xs H Q => ∃ p ys, xs = [.ref p] ∧ (SqL K H p ys ∨ SqT K H p ys) ∧ Q (.int ys.length) H
theorem call_lenQ {X : Cx} : CallR X (.builtin "len") (cLenQ X.K) := call_len_seq
theorem ev_lenT (h : EvD K ta σ H (.tup ds)) : EvD K (tCB (cLenQ K) (tCons ta tNil)) σ H (.int ds.length) := fun H1 x Q q => h H1 x _ fun v H2 x2 r => by
  cases r with
  | tup hs ht =>
    refine ⟨_, _, rfl, .inr hs, ?_⟩
    rw [ht.len]
    exact q _ H2 x2 (.int _)
theorem ev_lenL (h : EvL K ta σ H ds) : EvD K (tCB (cLenQ K) (tCons ta tNil)) σ H (.int ds.length) := fun H1 x Q q => h H1 x _ fun a vs H2 x2 _ ha r => by
  refine ⟨_, _, rfl, .inl (SqL.of ha), ?_⟩
  rw [r.len]
  exact q _ H2 x2 (.int _)
def cTupOf (K : PySem.W.Frag) : List V → Hp → VK → Prop := fun xs H Q => ∃ p ys, xs = [.ref p] ∧ ((SqL K H p ys ∧ ∀ l, H l = none → Q (.ref l) (upd H l (.tup ys))) ∨ (SqT K H p ys ∧ Q (.ref p) H))
theorem call_tupOf {X : Cx} : CallR X (.type "tuple") (cTupOf X.K) := call_tuple_of
theorem ev_tupOf (h : EvL K ta σ H ds) : EvD K (tCB (cTupOf K) (tCons ta tNil)) σ H (.tup ds) := fun H1 x Q q => h H1 x _ fun a vs H2 x2 _ ha r =>
  ⟨_, _, rfl, .inl ⟨SqL.of ha, fun p hp => q _ _ (x2.trans (same_new hp)) (.tup (SqT.of upd_same) (r.mono (tp_new hp)))⟩⟩
/-- a list that stands, made a tuple -/
theorem ev_tupOfL {a : Addr} {vs : List V} (h : EvD K ta σ H (.raw (.ref a))) (ha : SqL K H a vs) (r : RL K H vs ds) : EvD K (tCB (cTupOf K) (tCons ta tNil)) σ H (.tup ds) := fun H1 x Q q => h H1 x _ fun v H2 x2 rv => by
  cases rv
  exact ⟨_, _, rfl, .inl ⟨(x.trans x2).seq ha, fun p hp => q _ _ (x2.trans (same_new hp)) (.tup (SqT.of upd_same) ((r.mono (Tp.of (x.trans x2))).mono (tp_new hp)))⟩⟩
theorem ev_anyB {bs : List Bool} (h : EvL K ta σ H (bs.map D.bl)) : EvD K (tCB (rAny K) (tCons ta tNil)) σ H (.bl (bs.any id)) := fun H1 x Q q => h H1 x _ fun a vs H2 x2 _ ha r => by
  have e := r.bls
  subst e
  exact ⟨a, bs, rfl, SqL.of ha, q _ H2 x2 (.bl _)⟩
end
end GW

set_option Elab.async false
set_option linter.all false
set_option maxRecDepth 100000
set_option maxHeartbeats 1000000
/-! Texts by their codes: find, count, index, startswith, replace of one sign. -/
namespace GW
open PySem PySem.Spec L2 TL PySem.StrLaws

theorem at_one {l : List Nat} {c i : Nat} : At (mkS l) (mkS [c]) (mkS l).length i ↔ l[i]? = some c := by
  unfold At
  rw [mkS_len, mkS_len, subAt_eq, mkS_len]
  show i + 1 ≤ l.length ∧ ((l.drop i).take 1 == [c]) = true ↔ _
  constructor
  · rintro ⟨h1, h2⟩
    have h2 : (l.drop i).take 1 = [c] := eq_of_beq h2
    have hi : i < l.length := h1
    rw [List.drop_eq_getElem_cons hi, List.take_succ_cons, List.take_zero] at h2
    rw [List.getElem?_eq_getElem hi]
    exact congrArg some (List.cons.inj h2).1
  · intro h
    obtain ⟨hi, e⟩ := List.getElem?_eq_some_iff.mp h
    refine ⟨hi, ?_⟩
    rw [List.drop_eq_getElem_cons hi, List.take_succ_cons, List.take_zero, e]
    exact beq_self_eq_true _
/-- where a sign stands first -/
def fnd (c : Nat) (l : List Nat) : Int := if c ∈ l then (l.idxOf c : Int) else -1
theorem idx_first : ∀ {l : List Nat} {c i : Nat}, l[i]? = some c → (∀ k, k < i → ¬ l[k]? = some c) → l.idxOf c = i
  | [], _, _, h, _ => by simp at h
  | x :: l, c, 0, h, _ => by
    have e : x = c := Option.some.inj h
    subst e
    exact List.idxOf_cons_self
  | x :: l, c, i + 1, h, hn => by
    have hx : ¬ x = c := fun e => hn 0 (Nat.succ_pos _) (congrArg some e)
    have ih := idx_first (l := l) (c := c) (i := i) h fun k hk e => hn (k + 1) (Nat.succ_lt_succ hk) e
    rw [List.idxOf_cons, ih, show (x == c) = false from beq_eq_false_iff_ne.mpr hx]
    rfl
theorem find_one (l : List Nat) (c : Nat) : Txt.find (mkS l) (mkS [c]) = fnd c l := by
  unfold Txt.find fnd
  rcases occ_head (mkS l) (mkS [c]) 1 (Nat.le_refl _) with ⟨h, hn⟩ | ⟨i, r, h, ha, hn⟩
  · rw [h, if_neg]
    intro hm
    obtain ⟨k, hk⟩ := List.mem_iff_getElem?.mp hm
    exact hn k (at_one.mpr hk)
  · have h1 := at_one.mp ha
    rw [h, if_pos (List.mem_of_getElem? h1), idx_first h1 fun k hk e => hn k hk (at_one.mpr e)]
theorem occ_one {l : List Nat} {c : Nat} (h : c ∈ l) : ∃ r, Builtin.Str.occurrences (mkS l) (mkS [c]) 0 (mkS l).length 1 = l.idxOf c :: r := by
  rcases occ_head (mkS l) (mkS [c]) 1 (Nat.le_refl _) with ⟨_, hn⟩ | ⟨i, r, e, ha, hn⟩
  · obtain ⟨k, hk⟩ := List.mem_iff_getElem?.mp h
    exact absurd (at_one.mpr hk) (hn k)
  · exact ⟨r, by rw [e, idx_first (at_one.mp ha) fun k hk z => hn k hk (at_one.mpr z)]⟩
theorem count_zero {l : List Nat} {c : Nat} : ∀ {a : Nat}, (∀ k, a ≤ k → ¬ l[k]? = some c) → (l.drop a).count c = 0 := fun {a} h =>
  List.count_eq_zero.mpr fun hm => by
    obtain ⟨k, hk⟩ := List.mem_iff_getElem?.mp hm
    rw [List.getElem?_drop] at hk
    exact h (a + k) (Nat.le_add_right _ _) hk
theorem count_skip {l : List Nat} {c : Nat} : ∀ (n : Nat) {a : Nat}, (∀ k, a ≤ k → k < a + n → ¬ l[k]? = some c) → (l.drop a).count c = (l.drop (a + n)).count c
  | 0, a, _ => by rw [Nat.add_zero]
  | n + 1, a, h => by
    have ih := count_skip (l := l) (c := c) n (a := a + 1) fun k h1 h2 => h k (by omega) (by omega)
    rw [show a + (n + 1) = a + 1 + n by omega, ← ih]
    by_cases ha : a < l.length
    · rw [List.drop_eq_getElem_cons ha, List.count_cons_of_ne]
      intro e
      exact h a (Nat.le_refl _) (by omega) (by rw [List.getElem?_eq_getElem ha, e])
    · rw [List.drop_eq_nil_of_le (by omega), List.drop_eq_nil_of_le (by omega)]
theorem count_chain {l : List Nat} {c : Nat} : ∀ (cuts : List Nat) (a f : Nat), ChainG (mkS l) (mkS [c]) (mkS l).length a cuts f → (∀ k, f ≤ k → ¬ At (mkS l) (mkS [c]) (mkS l).length k) → (l.drop a).count c = cuts.length
  | [], a, f, h, hn => by
    have e : f = a := h
    subst e
    exact count_zero fun k hk z => hn k hk (at_one.mpr z)
  | b :: r, a, f, h, hn => by
    obtain ⟨hab, hA, hno, hr⟩ := h
    have ih := count_chain r (b + 1) f hr hn
    have h1 := at_one.mp hA
    obtain ⟨hb, e⟩ := List.getElem?_eq_some_iff.mp h1
    have hs := count_skip (l := l) (c := c) (b - a) (a := a) fun k x y z => hno k x (by omega) (at_one.mpr z)
    rw [hs, show a + (b - a) = b by omega, List.drop_eq_getElem_cons hb, e, List.count_cons_self, ih]
    rfl
theorem count_one (l : List Nat) (c : Nat) : Txt.count (mkS l) (mkS [c]) = (l.count c : Int) := by
  unfold Txt.count
  obtain ⟨f, hc, hn⟩ := occ_tight (mkS l) (mkS [c]) (by rw [mkS_len]; exact Nat.le_refl 1)
  have h := count_chain _ 0 f hc hn
  rw [List.drop_zero] at h
  rw [h]
theorem starts_of (l m : List Nat) : Txt.startswith (mkS l) (mkS m) = decide (l.take m.length = m) := by
  unfold Txt.startswith
  rw [mkS_len, mkS_len, subAt_eq, mkS_len, Nat.zero_add]
  show (decide (m.length ≤ l.length) && ((l.drop 0).take m.length == m)) = _
  rw [List.drop_zero]
  by_cases h : l.take m.length = m
  · rw [decide_eq_true h, h, beq_self_eq_true]
    have := congrArg List.length h
    rw [List.length_take] at this
    rw [decide_eq_true (by omega)]
    rfl
  · rw [decide_eq_false h, beq_eq_false_iff_ne.mpr h, Bool.and_false]
/-- x.replace(c, z), c one sign -/
def repl1 (c : Nat) (z l : List Nat) : List Nat := l.flatMap fun d => if d = c then z else [d]
theorem replL_one (c : Nat) (z : List Nat) : ∀ l : List Nat, replL [c] z l = repl1 c z l
  | [] => replL_nil
  | d :: l => by
    have ih := replL_one c z l
    unfold repl1
    rw [List.flatMap_cons]
    by_cases h : d = c
    · subst h
      rw [replL_hit (by simp) (by simp), if_pos rfl]
      show z ++ replL [d] z l = _
      rw [ih]
      rfl
    · rw [replL_miss (by simpa using h), if_neg h, ih]
      rfl
theorem replace_one (l z : List Nat) (c : Nat) : Txt.replace (mkS l) (mkS [c]) (mkS z) = mkS (repl1 c z l) := by
  have h := replace_list (x := mkS l) (y := mkS [c]) (z := mkS z) (by rw [mkS_len]; exact Nat.le_refl 1)
  refine ext_tl ?_
  exact h.trans (replL_one c z l)
theorem join_of (y : List Nat) (ls : List (List Nat)) : Txt.join (mkS y) (ls.map mkS) = mkS (joinL y ls) := by
  refine ext_tl ?_
  rw [join_eq, tl_join, List.map_map]
  show joinL y (ls.map (tl ∘ mkS)) = _
  rw [show (tl ∘ mkS) = id from rfl, List.map_id]
theorem len_sum (ls : List (List Nat)) : ((ls.map mkS).map (·.length)).sum = (ls.map List.length).sum := by
  rw [List.map_map]
  congr 1
theorem tl_maps (ls : List Str) : ls = (ls.map tl).map mkS := by
  rw [List.map_map]
  have e : (mkS ∘ tl) = id := funext fun z => mkS_tl z
  rw [e, List.map_id]

/-! slices -/
theorem six_n (n : Nat) {m : Nat} (h : m ≤ n) {d : Nat} : HT.sIx n d (some (m : Int)) = m := by
  rw [HT.sIx_nat]
  omega
theorem cutV_from (xs : List V) {m : Nat} (h : m ≤ xs.length) : cutV xs (some (m : Int)) none = xs.drop m := by
  unfold cutV
  rw [six_n _ h, HT.sIx_none]
  exact List.take_of_length_le (by rw [List.length_drop]; omega)
theorem cutV_to (xs : List V) {m : Nat} (h : m ≤ xs.length) : cutV xs none (some (m : Int)) = xs.take m := by
  unfold cutV
  rw [six_n _ h, HT.sIx_none, List.drop_zero, Nat.sub_zero]
theorem cutS_tl (z : Str) (lo hi : Option Int) : tl (cutS z lo hi) = ((tl z).drop (HT.sIx z.length 0 lo)).take (HT.sIx z.length z.length hi - HT.sIx z.length 0 lo) := rfl
theorem cutS_from (l : List Nat) (m : Nat) : cutS (mkS l) (some (m : Int)) none = mkS (l.drop m) := by
  refine ext_tl ?_
  rw [cutS_tl, HT.sIx_nat, HT.sIx_none, mkS_len, tl_mkS, tl_mkS]
  by_cases h : m ≤ l.length
  · rw [show min m l.length = m by omega]
    exact List.take_of_length_le (by rw [List.length_drop]; omega)
  · rw [show min m l.length = l.length by omega, List.drop_length, List.drop_eq_nil_of_le (by omega), List.take_nil]
theorem cutS_to (l : List Nat) (m : Nat) : cutS (mkS l) none (some (m : Int)) = mkS (l.take m) := by
  refine ext_tl ?_
  rw [cutS_tl, HT.sIx_nat, HT.sIx_none, mkS_len, tl_mkS, tl_mkS, List.drop_zero, Nat.sub_zero]
  by_cases h : m ≤ l.length
  · rw [show min m l.length = m by omega]
  · rw [show min m l.length = l.length by omega, List.take_length, List.take_of_length_le (by omega)]
theorem cutS_mid (l : List Nat) (a b : Nat) : cutS (mkS l) (some (a : Int)) (some (b : Int)) = mkS ((l.drop a).take (b - a)) := by
  refine ext_tl ?_
  rw [cutS_tl, HT.sIx_nat, HT.sIx_nat, mkS_len, tl_mkS, tl_mkS]
  by_cases h : a ≤ l.length
  · rw [show min a l.length = a by omega]
    by_cases h2 : b ≤ l.length
    · rw [show min b l.length = b by omega]
    · rw [show min b l.length = l.length by omega]
      rw [List.take_of_length_le (by rw [List.length_drop]; omega), List.take_of_length_le (by rw [List.length_drop]; omega)]
  · rw [show min a l.length = l.length by omega, List.drop_length, List.drop_eq_nil_of_le (by omega), List.take_nil, List.take_nil]

/-! readings -/
section
variable {K : PySem.W.Frag} {σ : L2.St} {H H' : Hp} {ta tb tc te : TE} {d e : D} {ds es : List D} {b c : Bool} {i j : Int} {l m : List Nat}
def mFind : V → List V → Hp → VK → Prop := fun x xs H Q => ∃ a b, x = .str a ∧ xs = [.str b] ∧ Q (.int (Txt.find a b)) H
theorem mt_findD {X : Cx} : MtR X "str.find" mFind := mt_find
def mCount : V → List V → Hp → VK → Prop := fun x xs H Q => ∃ a b, x = .str a ∧ xs = [.str b] ∧ Q (.int (Txt.count a b)) H
theorem mt_countD {X : Cx} : MtR X "str.count" mCount := mt_count
def mStarts : V → List V → Hp → VK → Prop := fun x xs H Q => ∃ a b, x = .str a ∧ xs = [.str b] ∧ Q (.bl (Txt.startswith a b)) H
theorem mt_startsD {X : Cx} : MtR X "str.startswith" mStarts := mt_startswith
def mIndex : V → List V → Hp → VK → Prop := fun x xs H Q => ∃ a b i rest, x = .str a ∧ xs = [.str b] ∧ Builtin.Str.occurrences a b 0 a.length 1 = i :: rest ∧ Q (.int (i : Nat)) H
theorem mt_indexS {X : Cx} : MtR X "str.index" mIndex := mt_sindex
def mSplit : V → List V → Hp → VK → Prop := fun x xs H Q => ∃ a b, x = .str a ∧ xs = [.str b] ∧ (b.length == 0) = false ∧ a.length + 2 ≤ sizeLine ∧ rNewStrs (Txt.split a b) H Q
theorem mt_splitD {X : Cx} : MtR X "str.split" mSplit := mt_split
def mPart : V → List V → Hp → VK → Prop := fun x xs H Q => ∃ a b, x = .str a ∧ xs = [.str b] ∧ (b.length == 0) = false ∧ a.length ≤ sizeLine ∧
  ∀ p, H p = none → Q (.ref p) (upd H p (.tup [.str (Txt.partition a b).1, .str (Txt.partition a b).2.1, .str (Txt.partition a b).2.2]))
theorem mt_partD {X : Cx} : MtR X "str.partition" mPart := mt_partition
def mJoin (K : PySem.W.Frag) : V → List V → Hp → VK → Prop := fun x xs H Q => ∃ a p, ∃ ys : List Str, x = .str a ∧ xs = [.ref p] ∧ (SqL K H p (ys.map V.str) ∨ SqT K H p (ys.map V.str)) ∧
    (ys.map (·.length)).sum + ys.length * a.length ≤ 16777216 ∧ Q (.str (Txt.join a ys)) H
theorem mt_joinD {X : Cx} : MtR X "str.join" (mJoin X.K) := mt_join
theorem ev_m1 {r : V → List V → Hp → VK → Prop} (h1 : EvD K ta σ H (.tx l)) (h2 : EvD K tb σ H d)
    (hr : ∀ H1 w, R K H1 w d → ∀ Q : VK, (∀ v H2, Same H1 H2 → R K H2 v e → Q v H2) → r (.str (mkS l)) [w] H1 Q) : EvD K (tM1 r ta tb) σ H e := fun H1 x Q q =>
  h1 H1 x _ fun v H2 x2 r2 => by
    cases r2
    exact ⟨⟨_, rfl⟩, h2 H2 (x.trans x2) _ fun w H3 x3 r3 => hr H3 w r3 Q fun u H4 x4 r4 => q u H4 ((x2.trans x3).trans x4) r4⟩
theorem ev_find {x : Nat} (h1 : EvD K ta σ H (.tx l)) (h2 : EvD K tb σ H (.tx [x])) : EvD K (tM1 mFind ta tb) σ H (.int (fnd x l)) :=
  ev_m1 h1 h2 fun H1 w rw Q q => by
    cases rw
    refine ⟨_, _, rfl, rfl, ?_⟩
    rw [find_one]
    exact q _ H1 (Same.refl _) (.int _)
theorem ev_count {x : Nat} (h1 : EvD K ta σ H (.tx l)) (h2 : EvD K tb σ H (.tx [x])) : EvD K (tM1 mCount ta tb) σ H (.int (l.count x)) :=
  ev_m1 h1 h2 fun H1 w rw Q q => by
    cases rw
    refine ⟨_, _, rfl, rfl, ?_⟩
    rw [count_one]
    exact q _ H1 (Same.refl _) (.int _)
theorem ev_starts (h1 : EvD K ta σ H (.tx l)) (h2 : EvD K tb σ H (.tx m)) : EvD K (tM1 mStarts ta tb) σ H (.bl (decide (l.take m.length = m))) :=
  ev_m1 h1 h2 fun H1 w rw Q q => by
    cases rw
    refine ⟨_, _, rfl, rfl, ?_⟩
    rw [starts_of]
    exact q _ H1 (Same.refl _) (.bl _)
theorem ev_index {x : Nat} (h1 : EvD K ta σ H (.tx l)) (h2 : EvD K tb σ H (.tx [x])) (hx : x ∈ l) : EvD K (tM1 mIndex ta tb) σ H (.int (l.idxOf x)) :=
  ev_m1 h1 h2 fun H1 w rw Q q => by
    cases rw
    obtain ⟨r, e⟩ := occ_one hx
    exact ⟨_, _, _, r, rfl, rfl, e, q _ H1 (Same.refl _) (.int _)⟩
theorem el_split (h1 : EvD K ta σ H (.tx l)) (h2 : EvD K tb σ H (.tx m)) {ls : List (List Nat)} (hm : m ≠ []) (hl : l.length + 2 ≤ sizeLine) (hs : Txt.split (mkS l) (mkS m) = ls.map mkS) : EvL K (tM1 mSplit ta tb) σ H (ls.map D.tx) := fun H1 x Q q =>
  h1 H1 x _ fun v H2 x2 r2 => by
    cases r2
    refine ⟨⟨_, rfl⟩, h2 H2 (x.trans x2) _ fun w H3 x3 r3 => ?_⟩
    cases r3
    refine ⟨_, _, rfl, rfl, ?_, by rw [mkS_len]; exact hl, fun p hp => ?_⟩
    · rw [mkS_len]
      exact beq_eq_false_iff_ne.mpr fun z => hm (List.length_eq_zero_iff.mp z)
    · rw [hs]
      exact q p _ _ ((x2.trans x3).trans (same_new hp)) ((x2.trans x3).free hp) upd_same (RL.ofTxs ls)
theorem ev_part (h1 : EvD K ta σ H (.tx l)) (h2 : EvD K tb σ H (.tx m)) {u v w : List Nat} (hm : m ≠ []) (hl : l.length ≤ sizeLine) (hs : Txt.partition (mkS l) (mkS m) = (mkS u, mkS v, mkS w)) : EvD K (tM1 mPart ta tb) σ H (.tup [.tx u, .tx v, .tx w]) :=
  ev_m1 h1 h2 fun H1 y rw Q q => by
    cases rw
    refine ⟨_, _, rfl, rfl, ?_, by rw [mkS_len]; exact hl, fun p hp => ?_⟩
    · rw [mkS_len]
      exact beq_eq_false_iff_ne.mpr fun z => hm (List.length_eq_zero_iff.mp z)
    · rw [hs]
      exact q _ _ (same_new hp) (.tup (SqT.of upd_same) (.cons (.tx u) (.cons (.tx v) (.cons (.tx w) .nil))))
theorem ev_join {ls : List (List Nat)} (h1 : EvD K ta σ H (.tx l)) (h2 : EvL K tb σ H (ls.map D.tx)) (hz : (ls.map List.length).sum + ls.length * l.length ≤ 16777216) : EvD K (tM1 (mJoin K) ta tb) σ H (.tx (joinL l ls)) := fun H1 x Q q =>
  h1 H1 x _ fun v H2 x2 r2 => by
    cases r2
    refine ⟨⟨_, rfl⟩, h2 H2 (x.trans x2) _ fun a vs H3 x3 _ ha r3 => ?_⟩
    have e := r3.txs
    subst e
    refine ⟨mkS l, a, ls.map mkS, rfl, rfl, .inl (SqL.of ha), by rw [len_sum, List.length_map, mkS_len]; exact hz, ?_⟩
    rw [join_of]
    exact q _ H3 (x2.trans x3) (.tx _)
/-- a list's own text, the tuple's too -/
theorem ev_joinT {ls : List (List Nat)} (h1 : EvD K ta σ H (.tx l)) (h2 : EvD K tb σ H (.tup (ls.map D.tx))) (hz : (ls.map List.length).sum + ls.length * l.length ≤ 16777216) : EvD K (tM1 (mJoin K) ta tb) σ H (.tx (joinL l ls)) :=
  ev_m1 h1 h2 fun H1 y rw Q q => by
    cases rw with
    | tup hs ht =>
      have e := ht.txs
      subst e
      refine ⟨mkS l, _, ls.map mkS, rfl, rfl, .inr hs, by rw [len_sum, List.length_map, mkS_len]; exact hz, ?_⟩
      rw [join_of]
      exact q _ H1 (Same.refl _) (.tx _)

def EvO (t : TO) (σ : L2.St) (H : Hp) (o : Option Int) : Prop := ∀ H1, Same H H1 → ∀ Q : Option Int → Hp → Prop, (∀ H2, Same H1 H2 → Q o H2) → t σ H1 Q
theorem evo_none : EvO tNoPart σ H none := fun H1 _ _ q => q H1 (Same.refl _)
theorem evo_some (h : EvD K te σ H (.int i)) : EvO (tPart te) σ H (some i) := fun H1 x Q q => h H1 x _ fun v H2 x2 r => by
  cases r
  exact ⟨i, rfl, q H2 x2⟩
theorem ev_slS {lo hi : Option Int} {t1 t2 : TO} (h : EvD K te σ H (.tx l)) (h1 : EvO t1 σ H lo) (h2 : EvO t2 σ H hi) (hl : l.length ≤ sizeLine) (e : cutS (mkS l) lo hi = mkS m) : EvD K (tSl rSlS te t1 t2) σ H (.tx m) := fun H1 x Q q =>
  h H1 x _ fun v H2 x2 r => h1 H2 (x.trans x2) _ fun H3 x3 => h2 H3 ((x.trans x2).trans x3) _ fun H4 x4 => by
    cases r
    refine ⟨mkS l, rfl, by rw [mkS_len]; exact hl, ?_⟩
    rw [e]
    exact q _ H4 ((x2.trans x3).trans x4) (.tx m)
/-- a tuple's slice, by the data -/
def cutD (ds : List D) (lo hi : Option Int) : List D := (ds.drop (HT.sIx ds.length 0 lo)).take (HT.sIx ds.length ds.length hi - HT.sIx ds.length 0 lo)
theorem cutD_from {n : Nat} (h : n ≤ ds.length) : cutD ds (some (n : Int)) none = ds.drop n := by
  unfold cutD
  rw [six_n _ h, HT.sIx_none]
  exact List.take_of_length_le (by rw [List.length_drop]; omega)
theorem cutD_to {n : Nat} (h : n ≤ ds.length) : cutD ds none (some (n : Int)) = ds.take n := by
  unfold cutD
  rw [six_n _ h, HT.sIx_none, List.drop_zero, Nat.sub_zero]
theorem ev_slT {lo hi : Option Int} {t1 t2 : TO} (h : EvD K te σ H (.tup ds)) (h1 : EvO t1 σ H lo) (h2 : EvO t2 σ H hi) (e : cutD ds lo hi = es) : EvD K (tSl (rSlA K) te t1 t2) σ H (.tup es) := fun H1 x Q q =>
  h H1 x _ fun v H2 x2 r => h1 H2 (x.trans x2) _ fun H3 x3 => h2 H3 ((x.trans x2).trans x3) _ fun H4 x4 => by
    cases r with
    | tup hs ht =>
      rename_i a xs
      have hs4 := same_sqT (x3.trans x4) hs
      have ht4 := ht.mono (Tp.of (K := K) (x3.trans x4))
      have hlen := ht.len
      have er : RL K H4 (cutV xs lo hi) es := by
        subst e
        unfold cutV cutD
        rw [hlen]
        exact RL.take _ (RL.drop _ ht4)
      refine ⟨a, xs, rfl, hs4, fun hw => ?_, fun hw p hp => ?_⟩
      · have e2 : cutV xs lo hi = xs := by
          unfold cutV
          rw [hw.1, hw.2, List.drop_zero, Nat.sub_zero, List.take_length]
        rw [e2] at er
        exact q _ H4 ((x2.trans x3).trans x4) (.tup hs4 er)
      · exact q _ _ (((x2.trans x3).trans x4).trans (same_new hp)) (.tup (SqT.of upd_same) (er.mono (tp_new hp)))
theorem el_slL {lo hi : Option Int} {t1 t2 : TO} {a : Addr} {vs : List V} (h : EvD K te σ H (.raw (.ref a))) (ha : SqL K H a vs) (hr : RL K H vs ds) (h1 : EvO t1 σ H lo) (h2 : EvO t2 σ H hi) (e : cutD ds lo hi = es) : EvL K (tSl (rSlL K) te t1 t2) σ H es := fun H1 x Q q =>
  h H1 x _ fun v H2 x2 r => h1 H2 (x.trans x2) _ fun H3 x3 => h2 H3 ((x.trans x2).trans x3) _ fun H4 x4 => by
    cases r
    have y := ((x.trans x2).trans x3).trans x4
    have er : RL K H4 (cutV vs lo hi) es := by
      subst e
      unfold cutV cutD
      rw [hr.len]
      exact RL.take _ (RL.drop _ (hr.mono (Tp.of y)))
    exact ⟨a, vs, rfl, y.seq ha, fun p hp => q p _ _ (((x2.trans x3).trans x4).trans (same_new hp)) (((x2.trans x3).trans x4).free hp) upd_same (er.mono (tp_new hp))⟩
theorem ev_catT (h1 : EvD K ta σ H (.tup ds)) (h2 : EvD K tb σ H (.tup es)) (hl : ds.length + es.length ≤ sizeLine) : EvD K (tOp (rCatA K) ta tb) σ H (.tup (ds ++ es)) :=
  ev_op h1 h2 fun H1 v w r1 r2 Q q => by
    cases r1 with
    | tup hs ht =>
      cases r2 with
      | tup hs2 ht2 =>
        refine ⟨_, _, _, _, rfl, rfl, hs, hs2, by rw [ht.len, ht2.len]; exact hl, fun z => ?_, fun _ z => ?_, fun _ _ p hp => ?_⟩
        · subst z
          cases ht
          exact q _ H1 (Same.refl _) (.tup hs2 ht2)
        · subst z
          cases ht2
          refine q _ H1 (Same.refl _) (.tup hs ?_)
          rw [List.append_nil]
          exact ht
        · exact q _ _ (same_new hp) (.tup (SqT.of upd_same) ((ht.app ht2).mono (tp_new hp)))
end
end GW

set_option Elab.async false
set_option linter.all false
set_option maxRecDepth 100000
set_option maxHeartbeats 1000000
/-! Loops, comprehensions, statements over data. -/
namespace GW
open PySem PySem.Spec L2 TL

/-- what an iterator walks, as data; S: the changes it bears -/
def WkD (K : PySem.W.Frag) (S : Hp → Hp → Prop) (J : It) (H : Hp) (its : List D) : Prop :=
  ∃ G Y, Walk J its.length G Y ∧ (∀ H', S H H' → G H') ∧ ∀ i H1 x H2, S H H1 → Y i H1 x H2 → Same H1 H2 ∧ ∃ d, its[i]? = some d ∧ R K H2 x d
def ItD (K : PySem.W.Frag) (S : Hp → Hp → Prop) (wi : TI) (σ : L2.St) (H : Hp) (its : List D) : Prop :=
  ∀ H1, Same H H1 → ∀ Q : It → Hp → Prop, (∀ J H2, Same H1 H2 → WkD K S J H2 its → Q J H2) → wi σ H1 Q
section
variable {K : PySem.W.Frag} {σ : L2.St} {H H' : Hp} {ta tb tc te : TE} {d e : D} {ds es its : List D} {b c : Bool} {i j : Int} {l m : List Nat} {S : Hp → Hp → Prop} {wi : TI}
theorem WkD.same {J : It} (h : WkD K (Tp K) J H its) : WkD K Same J H its := by
  obtain ⟨G, Y, w, g, y⟩ := h
  exact ⟨G, Y, w, fun H' x => g H' (Tp.of x), fun i H1 x H2 s z => y i H1 x H2 (Tp.of s) z⟩
theorem ItD.same (h : ItD K (Tp K) wi σ H its) : ItD K Same wi σ H its := fun H1 x Q q => h H1 x Q fun J H2 x2 w => q J H2 x2 w.same
theorem ItD.up (h : ItD K S wi σ H its) (x : Same H H') : ItD K S wi σ H' its := fun H1 a Q q => h H1 (x.trans a) Q q

theorem it_str (h : EvD K te σ H (.tx l)) : ItD K (Tp K) (iStr te) σ H (l.map fun c => .tx [c]) := fun H1 x Q q => h H1 x _ fun v H2 x2 r => by
  cases r
  have w := walk_str (z := mkS l)
  rw [show (mkS l).cps.size = l.length from mkS_len l, ← List.length_map (fun c => D.tx [c])] at w
  refine ⟨mkS l, rfl, q _ H2 x2 ⟨_, _, w, fun _ _ => trivial, fun i H3 x H4 _ y => ?_⟩⟩
  · obtain ⟨rfl, c, hc, rfl⟩ := y
    have hc : l[i]? = some c := by
      have : (l.toArray)[i]? = some c := hc
      rwa [List.getElem?_toArray] at this
    refine ⟨Same.refl _, .tx [c], ?_, .tx [c]⟩
    rw [List.getElem?_map, hc]
    rfl
theorem it_tup (h : EvD K te σ H (.tup its)) : ItD K (Tp K) (iTup K te) σ H its := fun H1 x Q q => h H1 x _ fun v H2 x2 r => by
  cases r with
  | tup hs ht =>
    rename_i a xs
    have w : Walk (Itt K a) xs.length (fun H => SqT K H a xs) (YAt xs) := walk_tup
    rw [ht.len] at w
    refine ⟨a, rfl, ⟨xs, hs⟩, q _ H2 x2 ⟨_, _, w, fun H3 x3 => x3.1 _ _ hs, fun i H3 x H4 x3 y => ?_⟩⟩
    · obtain ⟨rfl, hx⟩ := y
      obtain ⟨d, hd, rd⟩ := (ht.mono x3).get hx
      exact ⟨Same.refl _, d, hd, rd⟩
/-- a list that this very reading makes, or that stands -/
theorem it_lst (h : EvL K te σ H its) : ItD K Same (iList K te) σ H its := fun H1 x Q q => h H1 x _ fun a xs H2 x2 _ ha r => by
  have w : Walk (Itl K a) xs.length (fun H => SqL K H a xs) (YAt xs) := walk_list
  rw [r.len] at w
  refine ⟨a, rfl, ⟨xs, SqL.of ha⟩, q _ H2 x2 ⟨_, _, w, fun H3 x3 => x3.seq (SqL.of ha), fun i H3 x H4 x3 y => ?_⟩⟩
  · obtain ⟨rfl, hx⟩ := y
    obtain ⟨d, hd, rd⟩ := (r.mono (Tp.of x3)).get hx
    exact ⟨Same.refl _, d, hd, rd⟩
theorem it_lstR {a : Addr} {vs : List V} (h : EvD K te σ H (.raw (.ref a))) (ha : SqL K H a vs) (hr : RL K H vs its) : ItD K Same (iList K te) σ H its := fun H1 x Q q => h H1 x _ fun v H2 x2 r => by
  cases r
  have ha2 := (x.trans x2).seq ha
  have hr2 := hr.mono (Tp.of (K := K) (x.trans x2))
  have w : Walk (Itl K a) vs.length (fun H => SqL K H a vs) (YAt vs) := walk_list
  rw [hr.len] at w
  refine ⟨a, rfl, ⟨vs, ha2⟩, q _ H2 x2 ⟨_, _, w, fun H3 x3 => x3.seq ha2, fun i H3 x H4 x3 y => ?_⟩⟩
  · obtain ⟨rfl, hx⟩ := y
    obtain ⟨d, hd, rd⟩ := (hr2.mono (Tp.of x3)).get hx
    exact ⟨Same.refl _, d, hd, rd⟩
/-- a list that stands and that the turns may change nothing of but by S -/
theorem it_lstS {a : Addr} {vs : List V} (h : EvD K te σ H (.raw (.ref a))) (ha : SqL K H a vs) (hr : RL K H vs its) (hS : ∀ H1 H2, S H1 H2 → Tp K H1 H2 ∧ (SqL K H1 a vs → SqL K H2 a vs)) : ItD K S (iList K te) σ H its := fun H1 x Q q => h H1 x _ fun v H2 x2 r => by
  cases r
  have ha2 := (x.trans x2).seq ha
  have hr2 := hr.mono (Tp.of (K := K) (x.trans x2))
  have w : Walk (Itl K a) vs.length (fun H => SqL K H a vs) (YAt vs) := walk_list
  rw [hr.len] at w
  refine ⟨a, rfl, ⟨vs, ha2⟩, q _ H2 x2 ⟨_, _, w, fun H3 x3 => (hS _ _ x3).2 ha2, fun i H3 x H4 x3 y => ?_⟩⟩
  · obtain ⟨rfl, hx⟩ := y
    obtain ⟨d, hd, rd⟩ := (hr2.mono (hS _ _ x3).1).get hx
    exact ⟨Same.refl _, d, hd, rd⟩
theorem it_rng1 {t : TA} {n : Nat} (h : EvA K t σ H [.int i]) (e : i = (n : Int)) (hn : n < 2 ^ 62) : ItD K (Tp K) (iRng1 t) σ H ((List.range n).map fun k => .int ((k : Nat) : Int)) := fun H1 x Q q => h H1 x _ fun vs H2 x2 r => by
  subst e
  cases r with
  | cons r rr =>
    cases r
    cases rr
    have w := (walk_range (lo := 0) (n := n)).mono (G' := fun _ => True) (Y' := fun i H x H' => i < n ∧ H' = H ∧ x = .int ((i : Nat) : Int)) (fun _ _ => trivial) fun i H x H' hi _ y => by
        obtain ⟨e1, e2⟩ := y
        exact ⟨hi, e1, by rw [e2]; show V.int (0 + _) = _; rw [Int.zero_add]⟩
    have el : ((List.range n).map fun k => D.int ((k : Nat) : Int)).length = n := by rw [List.length_map, List.length_range]
    refine ⟨n, rfl, by omega, by omega, q _ H2 x2 ⟨_, _, by rw [el, Int.toNat_natCast]; exact w, fun _ _ => trivial, fun i H3 x H4 _ y => ?_⟩⟩
    · obtain ⟨hi, rfl, rfl⟩ := y
      refine ⟨Same.refl _, .int (i : Int), ?_, .int _⟩
      rw [List.getElem?_map, List.getElem?_range hi]
      rfl

/-! targets -/
/-- a target that stores what its data is -/
def GD (K : PySem.W.Frag) (g : TG) (d : D) (f : List SD → List SD) : Prop := ∀ v σ ss H Q, R K H v d → Sl K H σ ss → (∀ σ', Sl K H σ' (f ss) → Q σ' H) → g v σ H Q
theorem gd_name (k : Nat) : GD K (gName k) d (fun ss => ss.set k (some d)) := fun v σ ss H Q r S q => q _ (S.set r k)
theorem gd_pair {k k2 : Nat} {d1 d2 : D} : GD K (gTup K 2 (gCons (gName k) (gCons (gName k2) gNil))) (.tup [d1, d2]) (fun ss => (ss.set k (some d1)).set k2 (some d2)) := fun v σ ss H Q r S q => by
  cases r with
  | tup hs ht =>
    cases ht with
    | cons r1 ht =>
      cases ht with
      | cons r2 ht =>
        cases ht
        exact ⟨_, _, rfl, hs, rfl, _, _, rfl, _, _, rfl, rfl, q _ ((S.set r1 k).set r2 k2)⟩
theorem gd_three {k k2 k3 : Nat} {d1 d2 d3 : D} : GD K (gTup K 3 (gCons (gName k) (gCons (gName k2) (gCons (gName k3) gNil)))) (.tup [d1, d2, d3]) (fun ss => ((ss.set k (some d1)).set k2 (some d2)).set k3 (some d3)) := fun v σ ss H Q r S q => by
  cases r with
  | tup hs ht =>
    cases ht with
    | cons r1 ht =>
      cases ht with
      | cons r2 ht =>
        cases ht with
        | cons r3 ht =>
          cases ht
          exact ⟨_, _, rfl, hs, rfl, _, _, rfl, _, _, rfl, _, _, rfl, rfl, q _ (((S.set r1 k).set r2 k2).set r3 k3)⟩

/-! comprehensions -/
theorem wipe_get (vs : List Nat) (s : L2.St) (k : Nat) : (wipe s vs)[k]? = if k ∈ vs then (s[k]?.map fun _ => none) else s[k]? := by
  induction vs with
  | nil => rfl
  | cons v vs ih =>
    show ((wipe s vs).set v none)[k]? = _
    by_cases h : v = k
    · subst h
      rw [if_pos List.mem_cons_self]
      by_cases hv : v < s.length
      · rw [List.getElem?_set_self (by rw [wipe_length]; exact hv), List.getElem?_eq_getElem hv]
        rfl
      · rw [List.getElem?_eq_none (by rw [List.length_set, wipe_length]; omega), List.getElem?_eq_none (by omega)]
        rfl
    · rw [List.getElem?_set_ne h, ih]
      by_cases h2 : k ∈ vs
      · rw [if_pos h2, if_pos (List.mem_cons_of_mem _ h2)]
      · rw [if_neg h2, if_neg]
        intro h3
        rcases List.mem_cons.mp h3 with e | e
        · exact h e.symm
        · exact h2 e
theorem wipe_eq {vs : List Nat} {s s' : L2.St} (hl : s'.length = s.length) (h : ∀ k, k ∉ vs → s'[k]? = s[k]?) : wipe s' vs = wipe s vs := by
  refine List.ext_getElem? fun k => ?_
  rw [wipe_get, wipe_get]
  by_cases hk : k ∈ vs
  · rw [if_pos hk, if_pos hk]
    by_cases hs : k < s.length
    · rw [List.getElem?_eq_getElem hs, List.getElem?_eq_getElem (by rw [hl]; exact hs)]
      rfl
    · rw [List.getElem?_eq_none (by omega), List.getElem?_eq_none (by omega)]
  · rw [if_neg hk, if_neg hk, h k hk]
theorem wipe_idem (vs : List Nat) (s : L2.St) : wipe (wipe s vs) vs = wipe s vs := by
  refine wipe_eq (wipe_length s vs) fun k hk => ?_
  rw [wipe_get, if_neg hk]
/-- a target that stores in its own slots alone -/
def GO (K : PySem.W.Frag) (g : TG) (vs : List Nat) (d : D) (f : List SD → List SD) : Prop := ∀ v σ ss H Q, R K H v d → Sl K H σ ss → (∀ σ', σ'.length = σ.length → (∀ k, k ∉ vs → σ'[k]? = σ[k]?) → Sl K H σ' (f ss) → Q σ' H) → g v σ H Q
theorem go_name (k : Nat) : GO K (gName k) [k] d (fun ss => ss.set k (some d)) := fun v σ ss H Q r S q => q _ (List.length_set ..) (fun n hn => List.getElem?_set_ne (by
  intro e
  exact hn (by rw [e]; exact List.mem_cons_self))) (S.set r k)
theorem go_pair {k k2 : Nat} {d1 d2 : D} : GO K (gTup K 2 (gCons (gName k) (gCons (gName k2) gNil))) [k, k2] (.tup [d1, d2]) (fun ss => (ss.set k (some d1)).set k2 (some d2)) := fun v σ ss H Q r S q => by
  cases r with
  | tup hs ht =>
    cases ht with
    | cons r1 ht =>
      cases ht with
      | cons r2 ht =>
        cases ht
        refine ⟨_, _, rfl, hs, rfl, _, _, rfl, _, _, rfl, rfl, q _ (by rw [List.length_set, List.length_set]) (fun n hn => ?_) ((S.set r1 k).set r2 k2)⟩
        rw [List.getElem?_set_ne (by intro e; exact hn (by simp [e])), List.getElem?_set_ne (by intro e; exact hn (by simp [e]))]
theorem go_three {k k2 k3 : Nat} {d1 d2 d3 : D} : GO K (gTup K 3 (gCons (gName k) (gCons (gName k2) (gCons (gName k3) gNil)))) [k, k2, k3] (.tup [d1, d2, d3]) (fun ss => ((ss.set k (some d1)).set k2 (some d2)).set k3 (some d3)) := fun v σ ss H Q r S q => by
  cases r with
  | tup hs ht =>
    cases ht with
    | cons r1 ht =>
      cases ht with
      | cons r2 ht =>
        cases ht with
        | cons r3 ht =>
          cases ht
          refine ⟨_, _, rfl, hs, rfl, _, _, rfl, _, _, rfl, _, _, rfl, rfl, q _ (by rw [List.length_set, List.length_set, List.length_set]) (fun n hn => ?_) (((S.set r1 k).set r2 k2).set r3 k3)⟩
          rw [List.getElem?_set_ne (by intro e; exact hn (by simp [e])), List.getElem?_set_ne (by intro e; exact hn (by simp [e])), List.getElem?_set_ne (by intro e; exact hn (by simp [e]))]

/-- [te for target in xs if tt]: by what each item comes to -/
theorem el_lc {al : Type} {xs : List al} {enc f : al → D} {g : TG} {tt : TT} {vs : List Nat} {ss : List SD} {p : al → Bool} {fs : al → List SD → List SD} (S : Sl K H σ ss) (hi : ItD K Same wi σ H (xs.map enc)) (hg : ∀ a ∈ xs, GO K g vs (enc a) (fs a)) (hl : xs.length ≤ 100000)
    (step : ∀ a ∈ xs, ∀ σ' H', Same H H' → Sl K H' σ' (fs a (wipeD ss vs)) → EvT tt σ' H' (p a) ∧ (p a = true → EvD K te σ' H' (f a))) : EvL K (tLc wi g tt te vs) σ H ((xs.filter p).map f) := fun H1 x Q q =>
  hi H1 x _ fun J H2 x2 ⟨G, Y, w, hG, hY⟩ Ad hA => by
    rw [List.length_map] at w
    refine lc_it w (fun k H' => ∃ acc, Same H2 H' ∧ H' Ad = some (.lst acc) ∧ RL K H' acc (((xs.take k).filter p).map f)) ⟨[], same_new hA, upd_same, .nil⟩ (fun k H' _ ⟨acc, sm, _, _⟩ => hG H' sm) (fun k y H3 H4 hk ⟨acc, sm, ea, ra⟩ hy => ?_) fun H' ⟨acc, sm, ea, ra⟩ => ?_
    · obtain ⟨s34, d, hd, rd⟩ := hY k H3 y H4 sm hy
      have h0 : xs[k]? = some xs[k] := List.getElem?_eq_getElem hk
      rw [List.getElem?_map, h0] at hd
      have hd : enc xs[k] = d := Option.some.inj hd
      subst hd
      generalize xs[k] = a at *
      have hm : a ∈ xs := List.mem_of_getElem? h0
      have s04 := ((x.trans x2).trans sm).trans s34
      refine hg a hm y (wipe σ vs) (wipeD ss vs) H4 _ rd ((S.mono (Tp.of s04)).wipe vs) fun σ' hsl hsk S' => ⟨?_, ?_⟩
      · exact (wipe_eq hsl hsk).trans (wipe_idem vs σ)
      · obtain ⟨ht, hf⟩ := step a hm σ' H4 s04 S'
        refine ht.go fun H5 s45 => ?_
        have e5 : H5 Ad = some (.lst acc) := s45 _ _ (s34 _ _ ea)
        have r5 := ra.mono (Tp.of (K := K) (s34.trans s45))
        have et : (xs.take (k + 1)).filter p = (xs.take k).filter p ++ ([a].filter p) := by
          rw [List.take_add_one, h0, List.filter_append]
          rfl
        cases hp : p a with
        | false =>
          rw [if_neg Bool.false_ne_true]
          refine ⟨acc, (sm.trans s34).trans s45, e5, ?_⟩
          rw [et, List.filter_cons, hp]
          simpa using r5
        | true =>
          rw [if_pos rfl]
          refine ((hf hp).up s45).go fun v H6 s56 r6 => ?_
          have e6 : H6 Ad = some (.lst acc) := s56 _ _ e5
          have r6' := r5.mono (Tp.of (K := K) s56)
          have hacc : acc.length ≤ 100000 := by
            rw [ra.len, List.length_map]
            refine Nat.le_trans (List.length_filter_le _ _) ?_
            rw [List.length_take]
            exact Nat.le_trans (Nat.min_le_right _ _) hl
          refine ⟨acc, e6, Nat.lt_of_le_of_lt hacc (by decide), acc ++ [v], Same.mut (((sm.trans s34).trans s45).trans s56) hA, upd_same, ?_⟩
          rw [et, List.filter_cons, hp]
          simp only [List.filter_nil, if_true, List.map_append, List.map_cons, List.map_nil]
          exact ((r6'.app (.one r6)).mono (tp_mut e6 trivial))
    · rw [List.take_length] at ra
      exact q Ad acc H' (x2.trans sm) (x2.free hA) ea ra
/-- without a test -/
theorem el_map {al : Type} {xs : List al} {enc f : al → D} {g : TG} {vs : List Nat} {ss : List SD} {fs : al → List SD → List SD} (S : Sl K H σ ss) (hi : ItD K Same wi σ H (xs.map enc)) (hg : ∀ a ∈ xs, GO K g vs (enc a) (fs a)) (hl : xs.length ≤ 100000)
    (step : ∀ a ∈ xs, ∀ σ' H', Same H H' → Sl K H' σ' (fs a (wipeD ss vs)) → EvD K te σ' H' (f a)) : EvL K (tLc wi g tYes te vs) σ H (xs.map f) := by
  have h := el_lc (p := fun _ => true) (f := f) S hi hg hl fun d hd σ' H' x S' => ⟨et_yes, fun _ => step d hd σ' H' x S'⟩
  rw [List.filter_eq_self.mpr fun _ _ => rfl] at h
  exact h

/-! statements -/
variable {D0 : Ends} {t1 t2 ts : TS}
theorem st_ret (h : EvD K te σ H d) (q : ∀ v H2, Same H H2 → R K H2 v d → D0.rt v H2) : tRet te D0 σ H := h.go q
theorem st_set {k : Nat} {ss : List SD} (S : Sl K H σ ss) (h : EvD K te σ H d) (q : ∀ σ' H2, Same H H2 → Sl K H2 σ' (ss.set k (some d)) → D0.nx σ' H2) : tAsg te (gName k) D0 σ H :=
  h.go fun v H2 x r => q _ H2 x ((S.mono (Tp.of x)).set r k)
/-- a new list to a slot: its address -/
theorem st_setL {k : Nat} {ss : List SD} (S : Sl K H σ ss) (h : EvL K te σ H ds) (q : ∀ σ' a vs H2, Same H H2 → H a = none → H2 a = some (.lst vs) → RL K H2 vs ds → Sl K H2 σ' (ss.set k (some (.raw (.ref a)))) → D0.nx σ' H2) : tAsg te (gName k) D0 σ H :=
  h.go fun a vs H2 x ha e r => q _ a vs H2 x ha e r ((S.mono (Tp.of x)).set (.raw _) k)
theorem st_asg {g : TG} {f : List SD → List SD} {ss : List SD} (S : Sl K H σ ss) (h : EvD K te σ H d) (hg : GD K g d f) (q : ∀ σ' H2, Same H H2 → Sl K H2 σ' (f ss) → D0.nx σ' H2) : tAsg te g D0 σ H :=
  h.go fun v H2 x r => hg v σ ss H2 _ r (S.mono (Tp.of x)) fun σ' S' => q σ' H2 x S'
theorem st_if {t : TT} (h : EvT t σ H b) (q1 : b = true → ∀ H2, Same H H2 → t1 D0 σ H2) (q2 : b = false → ∀ H2, Same H H2 → t2 D0 σ H2) : tIfS t t1 t2 D0 σ H := h.go fun H2 x => by
  cases b with
  | true => exact q1 rfl H2 x
  | false => exact q2 rfl H2 x
theorem st_yes {t : TT} (h : EvT t σ H true) (q : ∀ H2, Same H H2 → t1 D0 σ H2) : tIfS t t1 t2 D0 σ H := h.go fun H2 x => q H2 x
theorem st_no {t : TT} (h : EvT t σ H false) (q : ∀ H2, Same H H2 → t2 D0 σ H2) : tIfS t t1 t2 D0 σ H := h.go fun H2 x => q H2 x
/-- x += e -/
theorem st_aug {k : Nat} {r : TIp} {ss : List SD} (S : Sl K H σ ss) (hk : ss[k]? = some (some d)) (h : EvD K te σ H e) {f : D} (hr : ∀ H1 v w, R K H1 v d → R K H1 w e → ∀ Q : VK, (∀ u H2, Same H1 H2 → R K H2 u f → Q u H2) → r v w H1 Q)
    (q : ∀ σ' H2, Same H H2 → Sl K H2 σ' (ss.set k (some f)) → D0.nx σ' H2) : tAug k te r D0 σ H := by
  obtain ⟨v, hv, rv⟩ := S.get hk
  exact ⟨v, hv, h.go fun w H2 x rw => hr H2 v w (rv.mono (Tp.of x)) rw _ fun u H3 x3 ru => q _ H3 (x.trans x3) ((S.mono (Tp.of (x.trans x3))).set ru k)⟩
/-- for: the invariant by the turn -/
theorem st_for {al : Type} {xs : List al} {enc : al → D} {g : TG} {tbd : TS} (hi : ItD K S wi σ H (xs.map enc)) (q : ∀ H2, Same H H2 → ∃ Pv : Nat → L2.St → Hp → Prop, Pv 0 σ H2 ∧ (∀ k σ' H', k ≤ xs.length → Pv k σ' H' → S H2 H') ∧
      (∀ k a x σ' H' H3, xs[k]? = some a → Pv k σ' H' → Same H' H3 → R K H3 x (enc a) → g x σ' H3 fun σ2 H4 => tbd { D0 with nx := Pv (k + 1), ct := Pv (k + 1), bk := D0.nx } σ2 H4) ∧ (∀ σ' H', Pv xs.length σ' H' → D0.nx σ' H')) : tFor wi g tbd D0 σ H :=
  hi H (Same.refl H) _ fun J H2 x2 ⟨G, Y, w, hG, hY⟩ => by
    rw [List.length_map] at w
    obtain ⟨Pv, h0, hS, hst, hd⟩ := q H2 x2
    exact for_it w Pv h0 (fun k σ' H' hk hp => hG H' (hS k σ' H' hk hp)) (fun k x σ' H' H3 hk hp hy => by
      obtain ⟨s, d, ed, rd⟩ := hY k H' x H3 (hS k σ' H' (Nat.le_of_lt hk) hp) hy
      rw [List.getElem?_map] at ed
      obtain ⟨a, ha, rfl⟩ := Option.map_eq_some_iff.mp ed
      exact hst k a x σ' H' H3 ha hp s rd) hd
/-- while: W by a measure -/
theorem st_while {c : TT} {tbd : TS} (W : Nat → L2.St → Hp → Prop) (m0 : Nat) (h0 : W m0 σ H) (step : ∀ m σ' H', W m σ' H' → ∃ b, EvT c σ' H' b ∧
    (b = true → ∀ H2, Same H' H2 → tbd { D0 with nx := fun s h => ∃ m', m' < m ∧ W m' s h, ct := fun s h => ∃ m', m' < m ∧ W m' s h, bk := D0.nx } σ' H2) ∧ (b = false → ∀ H2, Same H' H2 → D0.nx σ' H2)) : tWhile c tbd D0 σ H :=
  ⟨W, ⟨m0, h0⟩, fun m σ' H' hw => by
    obtain ⟨b, hb, q1, q2⟩ := step m σ' H' hw
    refine hb.go fun H2 x => ?_
    cases b with
    | true =>
      rw [if_pos rfl]
      exact ⟨_, fun _ _ z => z, q1 rfl H2 x⟩
    | false =>
      rw [if_neg Bool.false_ne_true]
      exact q2 rfl H2 x⟩
theorem st_app {a : Addr} {vs : List V} (h1 : EvD K ta σ H (.raw (.ref a))) (ha : H a = some (.lst vs)) (hl : vs.length < sizeLine) (h2 : EvD K te σ H d) (q : ∀ v H2, Same H H2 → R K H2 v d → D0.nx σ (upd H2 a (.lst (vs ++ [v])))) :
    tDrop (tBM K "list" rAppend ta (tCons te tNil)) D0 σ H := h1.go fun v H1 x1 r1 => by
  cases r1
  refine ⟨.inl ⟨rfl, _, SqL.of (x1 _ _ ha)⟩, (h2.up x1).go fun u H2 x2 r2 => ?_⟩
  exact ⟨a, vs, u, rfl, rfl, x2 _ _ (x1 _ _ ha), hl, q u H2 (x1.trans x2) r2⟩
end
end GW

set_option Elab.async false
set_option linter.all false
set_option maxRecDepth 100000
set_option maxHeartbeats 4000000
/-! enumerate and zip over tuples, lists, texts. -/
namespace GW
open PySem PySem.Spec L2 TL PyProof.Rows
theorem meets_enum1 {v : Value} {o : Obj} {B : Heap → Prop} (b : Begins v o B) :
    Meets (Builtin.«enumerate.__new__» ⟨[.type "enumerate", v], []⟩) (fun _ R s => B s.heap ∧
      R (.ok (.ret (.ref (s.heap.push o).objs.size))) { s with heap := (s.heap.push o).push { cls := .type "enumerate", data := .fields #[.none, .bool false, .ref s.heap.objs.size, rawInt 0, .none, .none] } }) :=
  .of_wp fun prog w A R s h => by
    obtain ⟨hp, g, d, tk, os⟩ := s
    obtain ⟨h1, h⟩ := h
    have hsub := sub_enumerate
    have q1 : ∀ {A2 : Around} {E : Value → Shared → Prop} {Q : Value → Shared → Prop}, Q (.ref hp.objs.size) ⟨hp.push o, g, d, tk, os⟩ → wpAny (model prog w) A2 (pyIter v) Q E ⟨hp, g, d, tk, os⟩ :=
      fun q => b.iter prog w _ _ ⟨hp, g, d, tk, os⟩ _ h1 q
    wp_walk using q1
    refine wpAny_stack_any fun st => wpAny_pure ?_
    split
    · rename_i c _ _ _ _ _
      cases (c == Value.type "enumerate")
      · wp_walk using q1
        exact ⟨_, rfl, h⟩
      · wp_walk using q1
        exact ⟨_, rfl, h⟩
    · wp_walk using q1
      exact ⟨_, rfl, h⟩
theorem enum1_begins {prog : Program} {w : World} {A : Around} {E : Value → Shared → Prop} {s : Shared} {v : Value} {o : Obj} {B : Heap → Prop} {Q : Value → Shared → Prop} (b : Begins v o B) (h1 : B s.heap)
    (h : ∀ h', IsEnum h' (s.heap.objs.size + 1) s.heap.objs.size 0 .none → h'.get? s.heap.objs.size = some o → (∀ b o, s.heap.get? b = some o → h'.get? b = some o) → Q (.ref (s.heap.objs.size + 1)) { s with heap := h' }) :
    wpAny (model prog w) A (call (.type "enumerate") [v]) Q E s := by
  refine callType_new F.called_enumerate (by decide) (F.typeCall_enumerate_1 _) (F.newCall_enumerate_1 _) (fun obj => F.args_object_init_2 obj _) F.entry_enumerate_new (meets_enum1 b) ⟨h1, ?_⟩
  have hz : (s.heap.push o).objs.size = s.heap.objs.size + 1 := Heap.size_push ..
  show _ ∧ _
  rw [hz]
  have he : IsEnum ((s.heap.push o).push { cls := .type "enumerate", data := .fields #[.none, .bool false, .ref s.heap.objs.size, rawInt 0, .none, .none] }) (s.heap.objs.size + 1) s.heap.objs.size 0 .none := by
    have e := Heap.get?_push_size (s.heap.push o) (o := { cls := .type "enumerate", data := .fields #[.none, .bool false, .ref s.heap.objs.size, rawInt 0, .none, .none] }) rfl
    rw [hz] at e
    exact e
  exact ⟨⟨_, he, rfl⟩, h _ he (Heap.get?_push_of_some _ (Heap.get?_push_size _ b.free)) fun b o x => Heap.get?_push_of_some _ (Heap.get?_push_of_some _ x)⟩

/-! ### sources -/
inductive Sc where
  | tp (a : Addr) (xs : List V) | ls (a : Addr) (xs : List V) | tx (z : Str)
def Sc.v : Sc → V
  | .tp a _ => .ref a
  | .ls a _ => .ref a
  | .tx z => .str z
def Sc.F (K : PySem.W.Frag) : Sc → Hp → Prop
  | .tp a xs, H => SqT K H a xs
  | .ls a xs, H => SqL K H a xs
  | .tx _, _ => True
def Sc.its : Sc → List V
  | .tp _ xs => xs
  | .ls _ xs => xs
  | .tx z => (tl z).map fun c => .str (mkS [c])
def Sc.tn (it : Addr) (u : Value) : Sc → Nat → Heap → Prop
  | .tp a _, i, h => h.IsTupleIter it a i
  | .ls a _, i, h => h.IsListIter it a i
  | .tx z, i, h => ∃ t, u = .str z t ∧ h.IsStrIter it (strIterType z) z t i
section
variable {P : Program} {w : World} {K : PySem.W.Frag} {X : Cx} {pn : List (Addr × Obj)} {s : Shared} {σ : L2.St} {H : Hp} {it : Addr} {u : Value} {c : Sc}
theorem tn_obj {i : Nat} {h : Heap} (st : c.tn it u i h) : ∃ o, h.get? it = some o ∧ ∀ v, o.data ≠ .cell v := by
  cases c with
  | tp a xs =>
    obtain ⟨o, e, _, d⟩ := st
    exact ⟨o, e, fun v z => by rw [d] at z; cases z⟩
  | ls a xs =>
    obtain ⟨o, e, _, d⟩ := st
    exact ⟨o, e, fun v z => by rw [d] at z; cases z⟩
  | tx z =>
    obtain ⟨t, _, o, e, _, d⟩ := st
    exact ⟨o, e, fun v z => by rw [d] at z; cases z⟩
theorem tn_keep {i : Nat} {h h' : Heap} (st : c.tn it u i h) (k : ∀ o, h.get? it = some o → h'.get? it = some o) : c.tn it u i h' := by
  cases c with
  | tp a xs =>
    obtain ⟨o, e, r⟩ := st
    exact ⟨o, k o e, r⟩
  | ls a xs =>
    obtain ⟨o, e, r⟩ := st
    exact ⟨o, k o e, r⟩
  | tx z =>
    obtain ⟨t, eu, o, e, r⟩ := st
    exact ⟨t, eu, o, k o e, r⟩
/-- a tuple of ours is no object of an iterator's -/
theorem far_tup {a b : Addr} {xs : List V} (I : Inv X pn σ H s) (h : SqT X.K H a xs) (f : FpOk X pn H b) : b ≠ a := by
  rintro rfl
  rcases h with (h | ⟨o, h⟩) | ⟨o, its, n, hk, _⟩
  · rw [f.1] at h
    cases h
  · rw [f.1] at h
    cases h
  · have e := I.ok.mod.kin b o hk
    rcases f.2.2.2.1 with z | z
    · exact I.ok.noex b o e z
    · exact absurd (Nat.lt_of_lt_of_le (Heap.lt_size e) (Nat.le_trans I.ok.bsz z)) (Nat.lt_irrefl _)
theorem far_lst {a b : Addr} {xs : List V} (I : Inv X pn σ H s) (h : SqL X.K H a xs) (f : FpOk X pn H b) : b ≠ a := by
  rintro rfl
  rcases h with (h | ⟨o, h⟩) | ⟨o, its, n, hk, _⟩
  · rw [f.1] at h
    cases h
  · rw [f.1] at h
    cases h
  · have e := I.ok.mod.kin b o hk
    rcases f.2.2.2.1 with z | z
    · exact I.ok.noex b o e z
    · exact absurd (Nat.lt_of_lt_of_le (Heap.lt_size e) (Nat.le_trans I.ok.bsz z)) (Nat.lt_irrefl _)
/-- what its iterator draws, from here on -/
theorem sc_draws (c : Sc) (calm : X.calm = true) (I : Inv X pn σ H s) (hF : c.F X.K H) (f : FpOk X pn H it) {i : Nat} (st : c.tn it u i s.heap) :
    ∃ fp Pv St, Draws X.prog X.w X.A.in1 it fp c.its.length Pv St ∧ it ∈ fp ∧ St i s.heap ∧ (∀ b, b ≠ it → FpOk X pn H b → b ∉ fp) ∧ (∀ j h, St j h → c.tn it u j h) ∧ ∀ v, i < c.its.length → Pv i v → ∃ x, RelV x v ∧ c.its[i]? = some x := by
  have hh : X.A.in1.handled = none := I.ok.hd calm
  cases c with
  | tp a xs =>
    obtain ⟨its, rv, p, hz⟩ := I.tuple hF
    have ne : a ≠ it := (far_tup I hF f).symm
    have hl := rv.length
    refine ⟨[it, a], fun i v => its.toArray[i]? = some v, fun i h => h.IsTupleIter it a i ∧ h.IsTuple a its.toArray, by show Draws X.prog X.w X.A.in1 it _ xs.length _ _; rw [hl, ← List.size_toArray]; exact Draws.tuple hh it a ne its.toArray, List.mem_cons_self, ⟨st, show s.heap.IsTuple a its.toArray from p⟩, fun b hb fb hm => ?_, fun j h q => q.1, fun v hi hv => ?_⟩
    · rcases List.mem_cons.mp hm with e | hm
      · exact hb e
      · exact far_tup I hF fb (List.mem_singleton.mp hm)
    · have hi : i < xs.length := hi
      obtain ⟨w, ew, rw'⟩ := rv.get (List.getElem?_eq_getElem hi)
      have hv : its.toArray[i]? = some v := hv
      rw [List.getElem?_toArray, ew] at hv
      cases hv
      exact ⟨_, rw', List.getElem?_eq_getElem hi⟩
  | ls a xs =>
    obtain ⟨its, rv, p, hz⟩ := I.list hF
    have ne : a ≠ it := (far_lst I hF f).symm
    have hl := rv.length
    refine ⟨[it, a], fun i v => its.toArray[i]? = some v, fun i h => h.IsListIter it a i ∧ h.IsList a its.toArray, by show Draws X.prog X.w X.A.in1 it _ xs.length _ _; rw [hl, ← List.size_toArray]; exact Draws.list hh it a ne its.toArray, List.mem_cons_self, ⟨st, p.isList⟩, fun b hb fb hm => ?_, fun j h q => q.1, fun v hi hv => ?_⟩
    · rcases List.mem_cons.mp hm with e | hm
      · exact hb e
      · exact far_lst I hF fb (List.mem_singleton.mp hm)
    · have hi : i < xs.length := hi
      obtain ⟨w, ew, rw'⟩ := rv.get (List.getElem?_eq_getElem hi)
      have hv : its.toArray[i]? = some v := hv
      rw [List.getElem?_toArray, ew] at hv
      cases hv
      exact ⟨_, rw', List.getElem?_eq_getElem hi⟩
  | tx z =>
    obtain ⟨t, eu, st⟩ := st
    have hl : (Sc.tx z).its.length = z.cps.size := by
      show ((tl z).map _).length = _
      rw [List.length_map]
      show z.cps.toList.length = _
      exact Array.length_toList
    refine ⟨_, _, _, by rw [hl]; exact Draws.text hh it z t, List.mem_cons_self, st, fun b hb fb hm => hb (List.mem_singleton.mp hm), fun j h q => ⟨t, eu, q⟩, fun v hi hv => ?_⟩
    obtain ⟨ch, t2, hc, ev⟩ := hv
    refine ⟨.str (mkS [ch]), ev ▸ ⟨t2, rfl⟩, ?_⟩
    show ((tl z).map _)[i]? = _
    have hc2 : (tl z)[i]? = some ch := by
      show z.cps.toList[i]? = _
      rw [Array.getElem?_toList]
      exact hc
    rw [List.getElem?_map, hc2]
    rfl
theorem sc_begins (c : Sc) (I : Inv X pn σ H s) (hF : c.F X.K H) (r : RelV c.v u) : ∃ o B, Begins u o B ∧ B s.heap ∧ ∀ (h : Heap) (it : Addr), h.get? it = some o → c.tn it u 0 h := by
  cases c with
  | tp a xs =>
    obtain ⟨its, rv, p, hz⟩ := I.tuple hF
    cases r
    exact ⟨_, _, begins_tuple a its.toArray, show s.heap.IsTuple a its.toArray from p, fun h it e => ⟨_, e, rfl, rfl⟩⟩
  | ls a xs =>
    obtain ⟨its, rv, p, hz⟩ := I.list hF
    cases r
    exact ⟨_, _, begins_list a its.toArray, p.isList, fun h it e => ⟨_, e, rfl, rfl⟩⟩
  | tx z =>
    obtain ⟨t, rfl⟩ := r
    exact ⟨_, _, begins_text z t, trivial, fun h it e => ⟨t, rfl, _, e, rfl, rfl⟩⟩
end
/-! ### enumerate -/
def IteD (K : PySem.W.Frag) (c : Sc) : It :=
  ⟨fun i H => c.F K H ∧ i < c.its.length, fun i H v H' => ∃ T x, v = .ref T ∧ H T = none ∧ H' = upd H T (.tup [.int (i : Nat), x]) ∧ c.its[i]? = some x, fun i H => c.F K H ∧ i = c.its.length⟩
theorem turn_enumD {P : Program} {w : World} {K : PySem.W.Frag} {elts : List Expr} {kk : Nat} {tpos : Pos} {u : Value} {c : Sc} (e it : Addr) :
    Turn P w K (.Tuple elts kk tpos) (IteD K c) [e, it] e (fun i h => (∃ old, IsEnum h e it ((i : Nat) : Int) old) ∧ c.tn it u i h ∧ e ≠ it) where
  mem := List.mem_cons_self
  obj := fun i h st b hb => by
    obtain ⟨⟨old, he⟩, hi, _⟩ := st
    rcases List.mem_cons.mp hb with rfl | hb
    · exact ⟨_, he, fun v q => nomatch q⟩
    · rw [List.mem_singleton.mp hb]
      exact tn_obj hi
  keep := fun i h h' st k => let ⟨⟨old, he⟩, hi, hne⟩ := st; ⟨⟨old, k e List.mem_cons_self _ he⟩, tn_keep hi fun o q => k it (by simp) o q, hne⟩
  item := by
    intro X hP hw hK calm i pn s σ H E I hf st hg
    subst hP hw hK
    obtain ⟨⟨old, he⟩, hit, hne⟩ := st
    obtain ⟨hF, hlt⟩ := hg
    have fe := hf e List.mem_cons_self
    have fi := hf it (by simp)
    obtain ⟨fp, Pv, St, D, hin, hst, hout, hto, hval⟩ := sc_draws c calm I hF fi hit
    have hel : e < s.heap.objs.size := Heap.lt_size he
    refine wpAny_pyNext_enum_itemC D he hst hlt hne (hout e hne fe) fun v h' tk hv ho hst2 hT hsz hk => ?_
    obtain ⟨x, rx, hx⟩ := hval v hlt hv
    refine ⟨_, rfl, wpAny_letOwnedTupleGo_enum (s := { s with heap := h', toks := tk + 1 }) ho fun h'' he' sb => ?_⟩
    have hT2 : h''.get? s.heap.objs.size = some { cls := .type "tuple", data := .seq #[.int i tk, v] } := (sb.2 _ (Nat.ne_of_gt hel)).trans hT
    have new : ObjOk X.prog X.w (upd H s.heap.objs.size (.tup [.int (i : Nat), x])) h'' s.heap.objs.size (.tup [.int (i : Nat), x]) :=
      ⟨by show 2 ≤ sizeLine; decide, [.int i tk, v], .cons ⟨_, rfl⟩ (.cons rx .nil), ⟨_, hT2, rfl, _, rfl⟩⟩
    have I1 : Inv X pn σ (upd H s.heap.objs.size (.tup [.int (i : Nat), x])) { s with heap := h'', toks := tk + 1 } :=
      I.turnedNew (ch := [e, it]) (fun b o hb q => (sb.2 b (fun z => hb (by simp [z]))).trans (hk b o (fun z => hb (by simp [z])) (fun z => hb (by simp [z])) q)) hf (Nat.le_refl _) new
    refine ⟨.ref s.heap.objs.size, _, I1, rfl, ⟨_, x, rfl, I.hok.fresh (Nat.le_refl _), rfl, hx⟩, ⟨⟨v, ?_⟩, tn_keep (hto _ _ hst2) fun o q => (sb.2 it (Ne.symm hne)).trans q, hne⟩, fun b hb => ?_⟩
    · have e1 : ((i + 1 : Nat) : Int) = (i : Int) + 1 := by omega
      rw [e1]
      exact he'
    · have hb2 : b < s.heap.objs.size := by
        rcases List.mem_cons.mp hb with z | hb
        · rw [z]
          exact hel
        · rw [List.mem_singleton.mp hb]
          obtain ⟨o, q, _⟩ := tn_obj hit
          exact Heap.lt_size q
      rw [upd_ne (Nat.ne_of_lt hb2)]
      exact (hf b hb).1
  done := by
    intro X hP hw hK calm i pn s σ H E I hf st hg
    subst hP hw hK
    obtain ⟨⟨old, he⟩, hit, hne⟩ := st
    obtain ⟨hF, rfl⟩ := hg
    have fi := hf it (by simp)
    obtain ⟨fp, Pv, St, D, hin, hst, hout, hto, hval⟩ := sc_draws c calm I hF fi hit
    obtain ⟨f0, f1, f2, f3, f4, f5⟩ := fi
    exact wpAny_pyNext_enum_endD D he hst fun h' eb => ⟨rfl, I.turned (t' := s.toks) (fun b o hb q => eb b o hb q) f0 f1 f3 f4 f5⟩
  self := fun A i s Q E st h => let ⟨⟨_, he⟩, _⟩ := st; wpAny_pyIter_enum he h
def iEnumD (K : PySem.W.Frag) (ta : TA) : TI := fun σ H R => ta σ H fun vs H1 => ∃ c : Sc, vs = [c.v] ∧ c.F K H1 ∧ R (IteD K c) H1
theorem pi_enumD {X : Cx} {e : Expr} {ta : TA} {p pos tpos : Pos} {elts : List Expr} {kk : Nat} (hg : Gl X "enumerate") (hm : X.mg "enumerate" = none) (ha : PA X [e] ta) (hs : starEach [e] X.env = [(false, eval e X.env)] := by rfl) :
    PI X (.Tuple elts kk tpos) (.Call (.Name "enumerate" p) [e] [] pos) (iEnumD X.K ta) := ⟨fun pn s σ H R I h => by
  refine Call_ (ld_blt I hg hm boot_enumerate (PyProof.Rows.callWith_type1 (thn (ha.run pos pn s σ H _ I h) fun us z ⟨vs, H1, I1, r1, c, ev, hF, q⟩ => ?_) hs rfl))
  subst ev
  cases r1 with
  | cons r rr =>
    cases rr
    obtain ⟨o, B, b, hB, hst⟩ := sc_begins c I1 hF r
    refine enum1_begins b hB fun h' he ho hk => wpAny_pyIter_enum he ?_
    have I2 : Inv X pn σ H1 { z with heap := h' } := I1.kept (t' := z.toks) hk
    refine ⟨z.heap.objs.size + 1, [z.heap.objs.size + 1, z.heap.objs.size], _, _, H1, rfl, I2, turn_enumD (c := c) (z.heap.objs.size + 1) z.heap.objs.size, ⟨⟨.none, he⟩, hst h' _ ho, Nat.succ_ne_self _⟩, fun b hb => ?_, q⟩
    have hle : z.heap.objs.size ≤ b := by
      rcases List.mem_cons.mp hb with e | hb
      · rw [e]
        exact Nat.le_add_right _ _
      · rw [List.mem_singleton.mp hb]
        exact Nat.le_refl _
    exact I1.fpOk hle (I1.hok.fresh hle)⟩
/-! ### zip -/
def ItzD (K : PySem.W.Frag) (c d : Sc) : It :=
  ⟨fun i H => c.F K H ∧ d.F K H ∧ i < c.its.length ∧ i < d.its.length, fun i H v H' => ∃ T x y, v = .ref T ∧ H T = none ∧ H' = upd H T (.tup [x, y]) ∧ c.its[i]? = some x ∧ d.its[i]? = some y,
    fun i H => c.F K H ∧ d.F K H ∧ i = c.its.length ∧ i = d.its.length⟩
def Ap (z a o i j : Addr) : Prop := (a ≠ z ∧ o ≠ z ∧ a ≠ o ∧ a ≠ i ∧ a ≠ j) ∧ (z ≠ i ∧ z ≠ j ∧ o ≠ i ∧ o ≠ j ∧ i ≠ j)
theorem in5 {z a o i j x : Addr} (h : x ∈ [z, a, o, i, j]) : x = z ∨ x = a ∨ x = o ∨ x = i ∨ x = j := by simpa using h
theorem turn_zipD {P : Program} {w : World} {K : PySem.W.Frag} {elts : List Expr} {kk : Nat} {tpos : Pos} {u1 u2 : Value} {c d : Sc} {z a o i j : Addr} (ap : Ap z a o i j) :
    Turn P w K (.Tuple elts kk tpos) (ItzD K c d) [z, a, o, i, j] z (fun k h => IsZip h z a o .none ∧ IsTupOf2 h a (.ref i) (.ref j) ∧ (∃ x y, IsTupOf2 h o x y) ∧ c.tn i u1 k h ∧ d.tn j u2 k h) where
  mem := List.mem_cons_self
  obj := fun k h st b hb => by
    obtain ⟨hz, ha, ⟨x, y, ho⟩, h1, h2⟩ := st
    rcases in5 hb with rfl | rfl | rfl | rfl | rfl
    · exact ⟨_, hz, fun v q => nomatch q⟩
    · exact ⟨_, ha, fun v q => nomatch q⟩
    · exact ⟨_, ho, fun v q => nomatch q⟩
    · exact tn_obj h1
    · exact tn_obj h2
  keep := fun k h h' st kp => by
    obtain ⟨hz, ha, ⟨x, y, ho⟩, h1, h2⟩ := st
    exact ⟨kp z (by simp) _ hz, kp a (by simp) _ ha, ⟨x, y, kp o (by simp) _ ho⟩, tn_keep h1 (kp i (by simp)), tn_keep h2 (kp j (by simp))⟩
  item := by
    intro X hP hw hK calm k pn s σ H E I hf st hg
    subst hP hw hK
    obtain ⟨hz, ha, ⟨x0, y0, ho⟩, h1, h2⟩ := st
    obtain ⟨hF, hG, hlt, hlt2⟩ := hg
    obtain ⟨⟨a1, a2, a3, a4, a5⟩, a6, a7, a8, a9, a10⟩ := ap
    obtain ⟨fp1, P1, St1, D1, m1, s1, out1, to1, val1⟩ := sc_draws c calm I hF (hf i (by simp)) h1
    obtain ⟨fp2, P2, St2, D2, m2, s2, out2, to2, val2⟩ := sc_draws d calm I hG (hf j (by simp)) h2
    have S : ZipSep2 z a o i j fp1 fp2 := ⟨a1, a2, a3, a4, m1, out1 z a6 (hf z (by simp)), out1 o a8 (hf o (by simp)), a5, m2, out2 z a7 (hf z (by simp)), out2 o a9 (hf o (by simp)), out2 i a10 (hf i (by simp)), out1 j (Ne.symm a10) (hf j (by simp))⟩
    have hzl : z < s.heap.objs.size := Heap.lt_size hz
    refine wpAny_pyNext_zipD2_item S D1 D2 hz ha ho s1 s2 hlt hlt2 fun v1 v2 h' tk p1 p2 z' o' s1' s2' hT hsz hk => ?_
    obtain ⟨x, rx, hx⟩ := val1 v1 hlt p1
    obtain ⟨y, ry, hy⟩ := val2 v2 hlt2 p2
    refine ⟨_, rfl, wpAny_letOwnedTupleGo_zip (s := { s with heap := h', toks := tk }) z' fun h'' z'' sb => ?_⟩
    have hT2 : h''.get? s.heap.objs.size = some { cls := .type "tuple", data := .seq #[v1, v2] } := (sb.2 _ (Nat.ne_of_gt hzl)).trans hT
    have new : ObjOk X.prog X.w (upd H s.heap.objs.size (.tup [x, y])) h'' s.heap.objs.size (.tup [x, y]) :=
      ⟨by show 2 ≤ sizeLine; decide, [v1, v2], .cons rx (.cons ry .nil), ⟨_, hT2, rfl, _, rfl⟩⟩
    have I1 : Inv X pn σ (upd H s.heap.objs.size (.tup [x, y])) { s with heap := h'', toks := tk } :=
      I.turnedNew (ch := [z, a, o, i, j]) (fun b ob hb q => (sb.2 b (fun e => hb (by simp [e]))).trans (hk b ob (fun e => hb (by simp [e])) (fun e => hb (by simp [e])) (fun e => hb (by simp [e])) (fun e => hb (by simp [e])) q)) hf (Nat.le_refl _) new
    refine ⟨.ref s.heap.objs.size, _, I1, rfl, ⟨_, x, y, rfl, I.hok.fresh (Nat.le_refl _), rfl, hx, hy⟩, ⟨z'', ?_, ⟨v1, v2, ?_⟩, ?_, ?_⟩, fun b hb => ?_⟩
    · exact (sb.2 _ a1).trans (hk _ _ a1 a3 a4 a5 ha)
    · exact (sb.2 _ a2).trans o'
    · exact tn_keep (to1 _ _ s1') fun q e => (sb.2 _ (Ne.symm a6)).trans e
    · exact tn_keep (to2 _ _ s2') fun q e => (sb.2 _ (Ne.symm a7)).trans e
    · have hlt : b < s.heap.objs.size := by
        rcases in5 hb with rfl | rfl | rfl | rfl | rfl
        · exact hzl
        · exact Heap.lt_size ha
        · exact Heap.lt_size ho
        · obtain ⟨q, e, _⟩ := tn_obj h1
          exact Heap.lt_size e
        · obtain ⟨q, e, _⟩ := tn_obj h2
          exact Heap.lt_size e
      rw [upd_ne (Nat.ne_of_lt hlt)]
      exact (hf b hb).1
  done := by
    intro X hP hw hK calm k pn s σ H E I hf st hg
    subst hP hw hK
    obtain ⟨hz, ha, ⟨x0, y0, ho⟩, h1, h2⟩ := st
    obtain ⟨hF, hG, e1, e2⟩ := hg
    obtain ⟨⟨a1, a2, a3, a4, a5⟩, a6, a7, a8, a9, a10⟩ := ap
    obtain ⟨fp1, P1, St1, D1, m1, s1, out1, to1, val1⟩ := sc_draws c calm I hF (hf i (by simp)) h1
    obtain ⟨fp2, P2, St2, D2, m2, s2, out2, to2, val2⟩ := sc_draws d calm I hG (hf j (by simp)) h2
    have S : ZipSep2 z a o i j fp1 fp2 := ⟨a1, a2, a3, a4, m1, out1 z a6 (hf z (by simp)), out1 o a8 (hf o (by simp)), a5, m2, out2 z a7 (hf z (by simp)), out2 o a9 (hf o (by simp)), out2 i a10 (hf i (by simp)), out1 j (Ne.symm a10) (hf j (by simp))⟩
    exact wpAny_pyNext_zipD2_end S D1 D2 hz ha ho s1 s2 (Nat.le_of_eq e1) (Nat.le_of_eq e2) (.inl e1) fun h' tk hk => ⟨rfl, I.turnedL (t' := tk) (ch := [z, a, o, i, j]) (fun b ob hb q => hk b ob (fun e => hb (by simp [e])) (fun e => hb (by simp [e])) (fun e => hb (by simp [e])) (fun e => hb (by simp [e])) q) hf⟩
  self := fun A k s Q E st h => wpAny_pyIter_zip st.1 h
def iZipD (K : PySem.W.Frag) (ta : TA) : TI := fun σ H R => ta σ H fun vs H1 => ∃ c d : Sc, vs = [c.v, d.v] ∧ c.F K H1 ∧ d.F K H1 ∧ R (ItzD K c d) H1
theorem ap_new (n : Nat) : Ap (n + 4) (n + 2) (n + 3) n (n + 1) := by
  unfold Ap
  exact ⟨⟨Nat.ne_of_lt (by omega), Nat.ne_of_lt (by omega), Nat.ne_of_lt (by omega), Nat.ne_of_gt (by omega), Nat.ne_of_gt (by omega)⟩, Nat.ne_of_gt (by omega), Nat.ne_of_gt (by omega), Nat.ne_of_gt (by omega), Nat.ne_of_gt (by omega), Nat.ne_of_lt (by omega)⟩
theorem pi_zipD {X : Cx} {e e2 : Expr} {ta : TA} {p pos tpos : Pos} {elts : List Expr} {kk : Nat} (hg : Gl X "zip") (hm : X.mg "zip" = none) (ha : PA X [e, e2] ta)
    (hs : starEach [e, e2] X.env = (false, eval e X.env) :: starEach [e2] X.env := by rfl) (hpl : (backTo pos (starEach [e2] X.env)).any (·.1) = false := by rfl) :
    PI X (.Tuple elts kk tpos) (.Call (.Name "zip" p) [e, e2] [] pos) (iZipD X.K ta) := ⟨fun pn s σ H R I h => by
  refine Call_ (ld_blt I hg hm PyProof.Rows.boot_zip (PyProof.Rows.callWith_type1 (thn (ha.run pos pn s σ H _ I h) fun us z ⟨vs, H1, I1, r1, c, d, ev, hF, hG, q⟩ => ?_) hs hpl))
  subst ev
  cases r1 with
  | cons r rr =>
    cases rr with
    | cons r' rr =>
      cases rr
      obtain ⟨o1, B1, b1, hB1, hst1⟩ := sc_begins c I1 hF r
      obtain ⟨o2, B2, b2, hB2, hst2⟩ := sc_begins d I1 hG r'
      refine zip_begins2 b1 b2 hB1 hB2 fun h' hz ht ho g1 g2 hsz hk => wpAny_pyIter_zip hz ?_
      have I2 : Inv X pn σ H1 { z with heap := h' } := I1.kept (t' := z.toks) hk
      refine ⟨z.heap.objs.size + 4, [z.heap.objs.size + 4, z.heap.objs.size + 2, z.heap.objs.size + 3, z.heap.objs.size, z.heap.objs.size + 1], _, _, H1, rfl, I2, turn_zipD (c := c) (d := d) (ap_new z.heap.objs.size), ⟨hz, ht, ⟨_, _, ho⟩, hst1 h' _ g1, hst2 h' _ g2⟩, fun b hb => ?_, q⟩
      have hle : z.heap.objs.size ≤ b := by
        rcases in5 hb with rfl | rfl | rfl | rfl | rfl
        · exact Nat.le_add_right _ _
        · exact Nat.le_add_right _ _
        · exact Nat.le_add_right _ _
        · exact Nat.le_refl _
        · exact Nat.le_add_right _ _
      exact I1.fpOk hle (I1.hok.fresh hle)⟩
/-! ### as data -/
/-- what a source is as data -/
inductive RSc (K : PySem.W.Frag) (S : Hp → Hp → Prop) (H : Hp) : Sc → List D → Prop
  | tp {a : Addr} {xs : List V} {ds : List D} : SqT K H a xs → RL K H xs ds → (∀ H', S H H' → Tp K H H') → RSc K S H (.tp a xs) ds
  | ls {a : Addr} {xs : List V} {ds : List D} : SqL K H a xs → RL K H xs ds → (∀ H', S H H' → Tp K H H' ∧ SqL K H' a xs) → RSc K S H (.ls a xs) ds
  | tx (l : List Nat) : RSc K S H (.tx (mkS l)) (l.map fun c => .tx [c])
section
variable {K : PySem.W.Frag} {σ : L2.St} {H H' : Hp} {S : Hp → Hp → Prop} {c d : Sc} {ds es : List D} {te tb : TE}
theorem RSc.len (h : RSc K S H c ds) : c.its.length = ds.length := by
  cases h with
  | tp _ r _ => exact r.len
  | ls _ r _ => exact r.len
  | tx l =>
    show ((tl (mkS l)).map _).length = _
    rw [List.length_map, List.length_map]
theorem RSc.F (h : RSc K S H c ds) (x : S H H') : c.F K H' := by
  cases h with
  | tp q _ t => exact (t H' x).1 _ _ q
  | ls q _ t => exact (t H' x).2
  | tx l => trivial
theorem RSc.F0 (h : RSc K S H c ds) : c.F K H := by
  cases h with
  | tp q _ t => exact q
  | ls q _ t => exact q
  | tx l => trivial
theorem RSc.at (h : RSc K S H c ds) (x : S H H') {i : Nat} {v : V} (e : c.its[i]? = some v) : ∃ d, ds[i]? = some d ∧ R K H' v d := by
  cases h with
  | tp q r t => exact (r.mono (t H' x)).get e
  | ls q r t => exact (r.mono (t H' x).1).get e
  | tx l =>
    have e : ((tl (mkS l)).map fun c => V.str (mkS [c]))[i]? = some v := e
    rw [List.getElem?_map] at e ⊢
    obtain ⟨ch, h1, h2⟩ := Option.map_eq_some_iff.mp e
    have h1 : l[i]? = some ch := h1
    rw [h1]
    exact ⟨_, rfl, h2 ▸ .tx [ch]⟩
theorem it_enumD {ta : TA} (h : ∀ H1, Same H H1 → ∀ Q : List V → Hp → Prop, (∀ c H2, Same H1 H2 → RSc K S H2 c ds → Q [c.v] H2) → ta σ H1 Q) :
    ItD K S (iEnumD K ta) σ H (ds.mapIdx fun i d => .tup [.int (i : Nat), d]) := fun H1 x Q q => h H1 x _ fun c H2 x2 rc =>
  ⟨c, rfl, rc.F0, q _ H2 x2 ⟨fun H => c.F K H, fun i H v H' => ∃ T x, v = .ref T ∧ H T = none ∧ H' = upd H T (.tup [.int (i : Nat), x]) ∧ c.its[i]? = some x,
    ⟨fun i H hi hF => ⟨hF, by rw [rc.len]; simpa using hi⟩, fun H hF => ⟨hF, by rw [rc.len]; simp⟩, fun i H v H' hi hF y => y⟩, fun H' s => rc.F s, fun i H3 v H4 s ⟨T, y, ev, hn, e4, hy⟩ => by
      subst ev
      subst e4
      obtain ⟨d, hd, rd⟩ := rc.at s hy
      refine ⟨same_new hn, .tup [.int (i : Nat), d], ?_, .tup (SqT.of upd_same) (.cons (.int _) (.cons (rd.mono (tp_new hn)) .nil))⟩
      rw [List.getElem?_mapIdx, hd]
      rfl⟩⟩
theorem it_zipD {ta : TA} (hl : ds.length = es.length) (h : ∀ H1, Same H H1 → ∀ Q : List V → Hp → Prop, (∀ c d H2, Same H1 H2 → RSc K S H2 c ds → RSc K S H2 d es → Q [c.v, d.v] H2) → ta σ H1 Q) :
    ItD K S (iZipD K ta) σ H ((ds.zip es).map fun p => .tup [p.1, p.2]) := fun H1 x Q q => h H1 x _ fun c d H2 x2 rc rd =>
  ⟨c, d, rfl, rc.F0, rd.F0, q _ H2 x2 ⟨fun H => c.F K H ∧ d.F K H, fun i H v H' => ∃ T x y, v = .ref T ∧ H T = none ∧ H' = upd H T (.tup [x, y]) ∧ c.its[i]? = some x ∧ d.its[i]? = some y,
    ⟨fun i H hi hF => ⟨hF.1, hF.2, by rw [rc.len]; simp at hi; omega, by rw [rd.len]; simp at hi; omega⟩, fun H hF => ⟨hF.1, hF.2, by rw [rc.len]; simp; omega, by rw [rd.len]; simp; omega⟩, fun i H v H' hi hF y => y⟩, fun H' s => ⟨rc.F s, rd.F s⟩, fun i H3 v H4 s ⟨T, y, y2, ev, hn, e4, hy, hy2⟩ => by
      subst ev
      subst e4
      obtain ⟨d1, hd1, rd1⟩ := rc.at s hy
      obtain ⟨d2, hd2, rd2⟩ := rd.at s hy2
      refine ⟨same_new hn, .tup [d1, d2], ?_, .tup (SqT.of upd_same) (.cons (rd1.mono (tp_new hn)) (.cons (rd2.mono (tp_new hn)) .nil))⟩
      rw [List.getElem?_map, List.getElem?_zip_eq_some (z := (d1, d2)).mpr ⟨hd1, hd2⟩]
      rfl⟩⟩
/-- a tuple, a text, a list as the one argument -/
theorem src_tup (h : EvD K te σ H (.tup ds)) : ∀ H1, Same H H1 → ∀ Q : List V → Hp → Prop, (∀ c H2, Same H1 H2 → RSc K (Tp K) H2 c ds → Q [c.v] H2) → tCons te tNil σ H1 Q := fun H1 x Q q => h H1 x _ fun v H2 x2 r => by
  cases r with
  | tup hs ht => exact q (.tp _ _) H2 x2 (.tp hs ht fun _ y => y)
theorem src_tx {l : List Nat} (h : EvD K te σ H (.tx l)) : ∀ H1, Same H H1 → ∀ Q : List V → Hp → Prop, (∀ c H2, Same H1 H2 → RSc K (Tp K) H2 c (l.map fun c => .tx [c]) → Q [c.v] H2) → tCons te tNil σ H1 Q := fun H1 x Q q => h H1 x _ fun v H2 x2 r => by
  cases r
  exact q (.tx (mkS l)) H2 x2 (.tx l)
theorem src_tx_tup {l : List Nat} (h : EvD K te σ H (.tx l)) (h2 : EvD K tb σ H (.tup es)) : ∀ H1, Same H H1 → ∀ Q : List V → Hp → Prop, (∀ c d H2, Same H1 H2 → RSc K (Tp K) H2 c (l.map fun c => .tx [c]) → RSc K (Tp K) H2 d es → Q [c.v, d.v] H2) → tCons te (tCons tb tNil) σ H1 Q := fun H1 x Q q => h H1 x _ fun v H2 x2 r => by
  cases r
  refine h2 H2 (x.trans x2) _ fun v H3 x3 r3 => ?_
  cases r3 with
  | tup hs ht => exact q (.tx (mkS l)) (.tp _ _) H3 (x2.trans x3) (.tx l) (.tp hs ht fun _ y => y)
theorem src_tx_lst {l : List Nat} {a : Addr} {vs : List V} (h : EvD K te σ H (.tx l)) (h2 : EvD K tb σ H (.raw (.ref a))) (ha : SqL K H a vs) (hr : RL K H vs es) (hS : ∀ H1 H2, S H1 H2 → Tp K H1 H2 ∧ (SqL K H1 a vs → SqL K H2 a vs)) : ∀ H1, Same H H1 → ∀ Q : List V → Hp → Prop, (∀ c d H2, Same H1 H2 → RSc K S H2 c (l.map fun c => .tx [c]) → RSc K S H2 d es → Q [c.v, d.v] H2) → tCons te (tCons tb tNil) σ H1 Q := fun H1 x Q q => h H1 x _ fun v H2 x2 r => by
  cases r
  refine h2 H2 (x.trans x2) _ fun v H3 x3 r3 => ?_
  cases r3
  have y := (x.trans x2).trans x3
  exact q (.tx (mkS l)) (.ls a vs) H3 (x2.trans x3) (.tx l) (.ls (y.seq ha) (hr.mono (Tp.of y)) fun H' z => ⟨(hS _ _ z).1, (hS _ _ z).2 (y.seq ha)⟩)
end
end GW

set_option Elab.async false
set_option linter.all false
set_option maxRecDepth 100000
set_option maxHeartbeats 4000000
/-! a tuple's [::-1] -/
namespace GW
open PySem PySem.Spec L2 TL PyProof.Rows
section
variable {prog : Program} {w : World} {A : Around} {E : Value → Shared → Prop} {s : Shared}
theorem applied_down {sl : Addr} {t : Tok} {n : Nat} {Q : Int × Int × Nat → Shared → Prop} (hs : s.heap.IsSliceOf sl .none .none (.int (-1) t)) (h : Q ((n : Int) - 1, -1, n) s) : wpAny (model prog w) A (Builtin.Slice.sliceApplied (.ref sl) (pure (n : Int))) Q E s := by
  obtain ⟨os, hos, _, hds⟩ := id hs
  unfold Builtin.Slice.sliceApplied Builtin.Slice.sliceFields
  refine wpAny_bind (wpAny_bind (wpAny_field hos hds (x := .none) rfl (wpAny_bind (wpAny_field hos hds (x := .none) rfl (wpAny_bind (wpAny_field hos hds (x := .int (-1) t) rfl (wpAny_pure ?_)))))))
  refine wpAny_bind (slicePart_int ?_)
  show wpAny _ _ (if ((-1 : Int) == 0) = true then _ else _) _ _ s
  rw [if_neg (by decide)]
  refine wpAny_bind (slicePart_none (wpAny_bind (slicePart_none (wpAny_bind (wpAny_pure ?_)))))
  show wpAny _ _ (pure ((n : Int) - 1, (-1 : Int), Builtin.Slice.slicePlaces ((n : Int) - 1) (-1) (-1))) _ _ s
  have e : Builtin.Slice.slicePlaces ((n : Int) - 1) (-1) (-1) = n := by
    unfold Builtin.Slice.slicePlaces
    rw [if_neg (by decide)]
    by_cases hn : (n : Int) - 1 > -1
    · rw [if_pos hn, show (- -1 : Int) = 1 by decide, Int.ediv_one]
      omega
    · rw [if_neg hn]
      omega
  rw [e]
  exact wpAny_pure h
theorem pick_down (xs : Array Value) : ((List.range xs.size).filterMap fun (k : Nat) => xs[((xs.size : Int) - 1 + (k : Int) * -1).toNat]?) = xs.toList.reverse := by
  have e1 : ((List.range xs.size).filterMap fun (k : Nat) => xs[((xs.size : Int) - 1 + (k : Int) * -1).toNat]?) = ((List.range xs.size).map fun k => xs.size - 1 - k).filterMap (xs[·]?) := by
    rw [List.filterMap_map]
    have all : ∀ l : List Nat, (∀ k ∈ l, k < xs.size) → (l.filterMap fun (k : Nat) => xs[((xs.size : Int) - 1 + (k : Int) * -1).toNat]?) = l.filterMap ((xs[·]?) ∘ fun k => xs.size - 1 - k) := by
      intro l
      induction l with
      | nil => exact fun _ => rfl
      | cons k l ih =>
        intro hl
        have hk := hl k List.mem_cons_self
        have e : xs[((xs.size : Int) - 1 + (k : Int) * -1).toNat]? = ((xs[·]?) ∘ fun k => xs.size - 1 - k) k := by
          show _ = xs[xs.size - 1 - k]?
          congr 1
          omega
        rw [List.filterMap_cons, List.filterMap_cons, ← e, ih fun m hm => hl m (List.mem_cons_of_mem _ hm)]
    exact all _ fun k hk => List.mem_range.mp hk
  rw [e1, PySem.W.krv_range, List.filterMap_reverse, PySem.W.krv_all]
theorem getItem_tuple_down {t sl : Addr} {items : Array Value} {u : Tok} {Q : Value → Shared → Prop} (ht : IsTup s.heap t items) (hs : s.heap.IsSliceOf sl .none .none (.int (-1) u))
    (h : Q (.ref s.heap.objs.size) { s with heap := s.heap.push { cls := .type "tuple", data := .seq items.toList.reverse.toArray } }) (hsz : items.size ≤ sizeLine) : wpAny (model prog w) A (getItem (.ref t) (.ref sl)) Q E s := by
  have fits : sizeOk (.seq items.toList.reverse.toArray) := by
    show items.toList.reverse.toArray.size ≤ sizeLine
    rw [List.size_toArray, List.length_reverse, Array.length_toList]
    exact hsz
  obtain ⟨os, hos, hcs, _⟩ := id hs
  have hTs : s.TypeIs (.ref sl) "slice" := ⟨os, hos, hcs⟩
  unfold getItem
  try with_reducible refine wpAny_holding ?_
  first | refine wpAny_bind (wpAny_pure ?_) | skip
  refine wpAny_bind (wpAny_sequenceKey ht.typeIs (by decide) ?_)
  refine wpAny_bind (wpAny_callSpecial?_slot (name := Str.ofString "__getitem__") ht.typeIs PyProof.Rows.slot_tuple_getitem (wpAny_call_entry PyProof.Rows.slot_tuple_getitem ht.typeIs entry_tuple_getitem ?_ (args_tuple_getitem _ _)))
  show wpAny _ _ (Builtin.Tuple.tupleItemsOf (.ref t) >>= _) _ _ s
  refine wpAny_bind (tupleItemsOf_ ht (wpAny_bind (wpAny_typeOf hTs ?_)))
  rw [if_pos (by decide)]
  refine wpAny_bind (applied_down (n := items.size) hs ?_)
  have no : ¬ (((items.size : Int) - 1 == 0 && (-1 : Int) == 1 && items.size == items.size) = true) := by simp
  show wpAny _ _ (if ((items.size : Int) - 1 == 0 && (-1 : Int) == 1 && items.size == items.size) = true then _ else _) _ _ s
  rw [if_neg no, pick_down]
  first
    | exact wpAny_bind (m := Builtin.Tuple.tupleExact _) (wpAny_newObj_type (wpAny_pure ⟨_, rfl, wpAny_pure h⟩) fits)
    | exact wpAny_bind (m := Builtin.Tuple.tupleExact _) (wpAny_newObj_type (wpAny_bind (wpAny_pure (wpAny_pure ⟨_, rfl, wpAny_pure h⟩))) fits)
end
section
variable {X : Cx}
def tRevT (K : PySem.W.Frag) (te : TE) : TE := fun σ H Q => te σ H fun x H1 => ∃ a xs, x = .ref a ∧ SqT K H1 a xs ∧ ∀ p, H1 p = none → Q (.ref p) (upd H1 p (.tup xs.reverse))
theorem pe_revT {e : Expr} {te : TE} {k : Nat} {p1 p2 p3 pos : Pos} (he : PE X e te) : PE X (.Subscript e (.Slice none none (some (.UnaryOp .USub (.Constant (.int 1) k p1) p2)) p3) pos) (tRevT X.K te) := ⟨fun pn s σ H Q I h => by
  refine Subscript_ (thn (he.run pn s σ H _ I h) fun v s1 ⟨x, H1, I1, r1, a, xs, ex, hx, q⟩ => ?_)
  subst ex
  cases r1
  refine wpAny_Slice (thn (po_none.run pn s1 σ H1 (fun o H2 => o = none ∧ H2 = H1) I1 ⟨rfl, rfl⟩) fun vl s2 ⟨l, H2, I2, pl, el, e2⟩ => ?_)
  subst el e2
  refine thn (po_none.run pn s2 σ H2 (fun o H3 => o = none ∧ H3 = H2) I2 ⟨rfl, rfl⟩) fun vu s3 ⟨u, H3, I3, pu, eu, e3⟩ => ?_
  subst eu e3
  refine thn ((po_some (pe_un un_neg pe_int)).run pn s3 σ H3 (fun o H4 => o = some (-1) ∧ H4 = H3) I3 ⟨1, rfl, -1, rfl, rfl, rfl⟩) fun vs s4 ⟨o, H4, I4, ps, eo, e4⟩ => ?_
  subst eo e4
  cases pl
  cases pu
  cases ps
  rename_i tk _
  have I5 : Inv X pn σ H4 { s4 with heap := s4.heap.push { cls := .type "slice", data := .fields #[.none, .none, .int (-1) tk] } } := I4.kept (t' := s4.toks) fun b ob => Heap.get?_push_of_some _
  obtain ⟨its, r, ht, hz⟩ := I5.tuple hx
  have hlen := r.length
  refine tail_any (ops := [.ref a, .ref s4.heap.objs.size]) ht.typeIs (PyProof.Rows.slot_tuple_getitem.lookup) ?_ (by with_unfolding_all rfl)
  refine getItem_tuple_down ht (Heap.IsSliceOf.new _ .none .none (.int (-1) tk)) ?_ (by rw [List.size_toArray]; omega)
  refine ⟨.ref _, _, I5.laid (t' := s4.toks) (o := .tup xs.reverse) (fun b ob => Heap.get?_push_of_some _) (Nat.le_refl _) ?_, rfl, q _ (I5.hok.fresh (Nat.le_refl _))⟩
  exact ⟨by rw [List.length_reverse]; exact hz, its.reverse, r.reverse, ⟨_, Heap.get?_push_size _ rfl, rfl, _, rfl⟩⟩⟩
theorem ev_revT {K : PySem.W.Frag} {σ : L2.St} {H : Hp} {te : TE} {ds : List D} (h : EvD K te σ H (.tup ds)) : EvD K (tRevT K te) σ H (.tup ds.reverse) := fun H1 x Q q => h H1 x _ fun v H2 y r => by
  cases r with
  | tup hs ht => exact ⟨_, _, rfl, hs, fun p hp => q _ _ (y.trans (same_new hp)) (.tup (SqT.of upd_same) (ht.rev.mono (tp_new hp)))⟩
end
end GW

set_option Elab.async false
set_option linter.all false
set_option maxRecDepth 100000
set_option maxHeartbeats 4000000
/-! The text by places; what the module holds; calls. -/
namespace GW
open PySem PySem.Spec L2 TL
def topS (i : Nat) : Stmt := PySem.Challenge.pw_gapwords_k90_whole_from_text_to_text.main.body.getD i (.Pass ⟨0, 0, 0, 0⟩)
theorem relS (z : Str) (t : Tok) : RelV (.str z) (.str z t) := ⟨t, rfl⟩
theorem relI (i : Int) (t : Tok) : RelV (.int i) (.int i t) := ⟨t, rfl⟩
/-- what the module and the built-ins hold -/
structure Txt (mg : Str → Option Value) (tS tU tE tL tN : Tok) : Prop where
  zlen : mg "len" = none
  zisinstance : mg "isinstance" = none
  zstr : mg "str" = none
  ztuple : mg "tuple" = none
  zany : mg "any" = none
  zrange : mg "range" = none
  zenumerate : mg "enumerate" = none
  zzip : mg "zip" = none
  zint : mg "int" = none
  zsum : mg "sum" = none
  mSIGNS : mg "SIGNS" = some (.str (Str.ofString "abcdefghijklmnopqrstuvwxyz") tS)
  mUNKNOWNS : mg "UNKNOWNS" = some (.str (Str.ofString "ABCDEFGHIJKLMNOPQRSTUVWXYZ") tU)
  mMOST_EQUATIONS : mg "MOST_EQUATIONS" = some (.int 6 tE)
  mMOST_LETTERS : mg "MOST_LETTERS" = some (.int 40 tL)
  mMOST_NAMES : mg "MOST_NAMES" = some (.int 6 tN)
/-- a def of the module that keeps its promise -/
def Cal (P : Program) (w : World) (K : PySem.W.Frag) (mg : Str → Option Value) (base : Heap) (k : Nat) (x : Str) (ps : List Str) (sp : Sp) : Prop :=
  ∃ f fd, FnOk P w K mg base CX0 k f fd ps sp ∧ mg x = some (.ref f) ∧ PySem.W.keepIn K (.ref f) = true ∧ Binds K fd ps []
theorem Cal.imp {P : Program} {w : World} {K : PySem.W.Frag} {mg : Str → Option Value} {base : Heap} {k : Nat} {x : Str} {ps : List Str} {sp sp' : Sp} (C : Cal P w K mg base k x ps sp) (h : ∀ vs H Q E, sp' vs H Q E → sp vs H Q E) : Cal P w K mg base k x ps sp' := by
  obtain ⟨f, fd, F, m, kp, b⟩ := C
  exact ⟨f, fd, F.imp h, m, kp, b⟩
section
variable {X : Cx}
theorem pe_cal {k : Nat} {x : Str} {ps : List Str} {sp : Sp} {p pos : Pos} {e : Expr} {es : List Expr} {t : TA} (C : Cal X.prog X.w X.K X.mg X.base k x ps sp) (hr : Room k X.A) (hg : Gl X x) (ha : PA X (e :: es) t)
    (hdb : (x == ("__debug__" : Str)) = false := by decide) (he : starEach (e :: es) X.env = (false, eval e X.env) :: starEach es X.env := by rfl) (hpl : (backTo pos (starEach es X.env)).any (·.1) = false := by rfl) :
    PE X (.Call (.Name x p) (e :: es) [] pos) (tCall sp [] E0 t) := by
  obtain ⟨f, fd, F, m, kp, b⟩ := C
  exact pe_call F hr hg m kp b .nil pass0 ha hdb he hpl
def ipS : TIp := fun x y H Q => ∃ i j, x = .str i ∧ y = .str j ∧ i.length + j.length ≤ sizeLine ∧ Q (.str (i ++ j)) H
theorem ip_addS : PIp X .Add ipS := fun pins s σ H x y v u Q I rx ry h => iop_add_str pins s σ H x y v u Q I rx ry h
end
section
variable {K : PySem.W.Frag} {H1 : Hp} {v w : V} {l m : List Nat} {i j : Int}
theorem ipS_ok (r1 : R K H1 v (.tx l)) (r2 : R K H1 w (.tx m)) (hl : l.length + m.length ≤ sizeLine) (Q : VK) (q : ∀ u H2, Same H1 H2 → R K H2 u (.tx (l ++ m)) → Q u H2) : ipS v w H1 Q := by
  cases r1
  cases r2
  refine ⟨mkS l, mkS m, rfl, rfl, by rw [mkS_len, mkS_len]; exact hl, ?_⟩
  rw [mkS_app]
  exact q _ H1 (Same.refl _) (.tx _)
theorem ipI_ok {f : Int → Int → Int} (r1 : R K H1 v (.int i)) (r2 : R K H1 w (.int j)) (Q : VK) (q : ∀ u H2, Same H1 H2 → R K H2 u (.int (f i j)) → Q u H2) : ipI f v w H1 Q := by
  cases r1
  cases r2
  exact ⟨i, j, rfl, rfl, q _ H1 (Same.refl _) (.int _)⟩
end

section
variable {X : Cx} {K : PySem.W.Frag}
theorem op_neDK {k : Nat} (hr : Room k X.A) (hK : X.K = K := by rfl) : OpR X (compareOp .NotEq) (rNeD K) := hK ▸ op_neD hr.units
theorem op_eqDK {k : Nat} (hr : Room k X.A) (hK : X.K = K := by rfl) : OpR X (compareOp .Eq) (rEqD K) := hK ▸ op_eqD hr.units
theorem ix_tupK (hK : X.K = K := by rfl) : IxR X (rIxT K) := hK ▸ ix_tup
theorem ix_listK (hK : X.K = K := by rfl) : IxR X (rIxL K) := hK ▸ ix_list
theorem call_lenQK (hK : X.K = K := by rfl) : CallR X (.builtin "len") (cLenQ K) := hK ▸ call_lenQ
theorem call_tupOfK (hK : X.K = K := by rfl) : CallR X (.type "tuple") (cTupOf K) := hK ▸ call_tupOf
theorem mt_joinK (hK : X.K = K := by rfl) : MtR X "str.join" (mJoin K) := hK ▸ mt_joinD
theorem sl_tupK (hK : X.K = K := by rfl) : SlR X (rSlA K) := hK ▸ sl_tupA
theorem sl_listK (hK : X.K = K := by rfl) : SlR X (rSlL K) := hK ▸ sl_list
theorem op_catK (hK : X.K = K := by rfl) : OpR X (binaryOp .Add) (rCatA K) := hK ▸ op_catA
theorem call_isiK' (hK : X.K = K := by rfl) : CallR X (.builtin "isinstance") (rIsi K) := hK ▸ call_isi
theorem cr_anyK (hc : X.calm = true) (hK : X.K = K := by rfl) : CallR X (.builtin "any") (rAny K) := hK ▸ cr_any hc
theorem cr_sumK (hc : X.calm = true) (hK : X.K = K := by rfl) : CallR X (.builtin "sum") (rSum K) := hK ▸ cr_sum hc
end

/-! ### letters, systems -/
def sgs : List Nat := tl (Str.ofString "abcdefghijklmnopqrstuvwxyz")
def uns : List Nat := tl (Str.ofString "ABCDEFGHIJKLMNOPQRSTUVWXYZ")
theorem sgs_eq : sgs = List.range' 97 26 := by
  unfold sgs
  rw [tl_ofString]
  decide
theorem uns_eq : uns = List.range' 65 26 := by
  unfold uns
  rw [tl_ofString]
  decide
theorem mem_sgs {c : Nat} : c ∈ sgs ↔ 97 ≤ c ∧ c ≤ 122 := by
  rw [sgs_eq, List.mem_range'_1]
  omega
theorem mem_uns {c : Nat} : c ∈ uns ↔ 65 ≤ c ∧ c ≤ 90 := by
  rw [uns_eq, List.mem_range'_1]
  omega
abbrev Eqn := List Nat × List Nat
abbrev Sys := List Eqn
def eD (e : Eqn) : D := .tup [.tx e.1, .tx e.2]
def sysD (s : Sys) : D := .tup (s.map eD)
def letters (s : Sys) : List Nat := s.flatMap fun e => e.1 ++ e.2
def names (s : Sys) : List Nat := uns.filter fun c => decide (c ∈ letters s)
def signs (s : Sys) : List Nat := sgs.filter fun c => decide (c ∈ letters s)
/-- small enough for every text that is made of it -/
def Sm (s : Sys) : Prop := (letters s).length ≤ 1000 ∧ s.length ≤ 100
theorem letters_cons (e : Eqn) (s : Sys) : letters (e :: s) = e.1 ++ e.2 ++ letters s := by
  unfold letters
  rw [List.flatMap_cons]
theorem mem_letters {s : Sys} {c : Nat} : c ∈ letters s ↔ ∃ e ∈ s, c ∈ e.1 ∨ c ∈ e.2 := by
  unfold letters
  rw [List.mem_flatMap]
  exact ⟨fun ⟨e, h, q⟩ => ⟨e, h, List.mem_append.mp q⟩, fun ⟨e, h, q⟩ => ⟨e, h, List.mem_append.mpr q⟩⟩
theorem len_mem {s : Sys} {e : Eqn} (h : e ∈ s) : e.1.length + e.2.length ≤ (letters s).length := by
  induction s with
  | nil => cases h
  | cons x s ih =>
    rw [letters_cons, List.length_append, List.length_append]
    rcases List.mem_cons.mp h with rfl | h
    · omega
    · have := ih h
      omega
theorem line_ge {n : Nat} (h : n ≤ 100000) : n ≤ sizeLine := Nat.le_trans h (by decide)
theorem line_gt {n : Nat} (h : n ≤ 100000) : n < sizeLine := Nat.lt_of_le_of_lt h (by decide)
theorem joinL_nil : ∀ ls : List (List Nat), joinL [] ls = ls.flatten
  | [] => rfl
  | [x] => by simp [joinL]
  | x :: y :: r => by
    show x ++ ([] ++ joinL [] (y :: r)) = _
    rw [joinL_nil (y :: r)]
    simp
theorem flat_ones (l : List Nat) : (l.map fun c => [c]).flatten = l := by
  induction l with
  | nil => rfl
  | cons c l ih =>
    rw [List.map_cons, List.flatten_cons, ih]
    rfl
theorem sum_ones (l : List Nat) : ((l.map fun c => [c]).map List.length).sum = l.length := by
  induction l with
  | nil => rfl
  | cons c l ih =>
    rw [List.map_cons, List.map_cons, List.sum_cons, ih]
    show 1 + l.length = l.length + 1
    omega
theorem sum_letters (s : Sys) : ((s.map fun e => e.1 ++ e.2).map List.length).sum = (letters s).length := by
  induction s with
  | nil => rfl
  | cons x s ih =>
    rw [letters_cons, List.map_cons, List.map_cons, List.sum_cons, ih]
    simp only [List.length_append]
end GW

set_option Elab.async false
set_option linter.all false
set_option maxRecDepth 100000
set_option maxHeartbeats 1000000
/-! Rows of texts as tuples: equal, in a tuple; isinstance; a text n times. -/
namespace GW
open PySem PySem.Spec L2 TL

/-- a text of plain signs -/
def Asc (l : List Nat) : Prop := ∀ c ∈ l, c < 128
/-- a tuple of texts -/
def stD (ws : List (List Nat)) : D := .tup (ws.map D.tx)
def pyT (ws : List (List Nat)) : PyData := .tuple (ws.map fun l => .str (mkS l))
theorem strOk_asc {l : List Nat} (h : Asc l) : PyData.strOk (mkS l) = true := by
  show (l.toArray.all (· < 0x110000)) = true
  rw [List.all_toArray, List.all_eq_true]
  intro c hc
  have := h c hc
  exact decide_eq_true (by omega)
theorem lay_all {ws : List (List Nat)} (h : ∀ l ∈ ws, Asc l) : PyData.canLayAll0 (ws.map fun l => PyData.str (mkS l)) = true := by
  induction ws with
  | nil => simp [PyData.canLayAll0]
  | cons l ws ih =>
    rw [List.map_cons, PyData.canLayAll0, PyData.canLay0, strOk_asc (h l List.mem_cons_self), ih fun m hm => h m (List.mem_cons_of_mem _ hm)]
    rfl
theorem depth_all (ws : List (List Nat)) : PyData.depthAll (ws.map fun l => PyData.str (mkS l)) = 0 := by
  induction ws with
  | nil => rfl
  | cons l ws ih =>
    rw [List.map_cons, PyData.depthAll, ih, PyData.depth]
    rfl
theorem pyT_shaped {ws : List (List Nat)} (h : ∀ l ∈ ws, Asc l) : SeqAt.shaped (pyT ws) = true := by
  unfold SeqAt.shaped pyT
  rw [PyData.canLay0, lay_all h, PyData.depth, depth_all]
  rfl
theorem lay_all2 {wss : List (List (List Nat))} (h : ∀ ws ∈ wss, ∀ l ∈ ws, Asc l) : PyData.canLayAll0 (wss.map pyT) = true := by
  induction wss with
  | nil => simp [PyData.canLayAll0]
  | cons ws wss ih =>
    have h1 : PyData.canLay0 (pyT ws) = true := by
      unfold pyT
      rw [PyData.canLay0]
      exact lay_all (h ws List.mem_cons_self)
    rw [List.map_cons, PyData.canLayAll0, h1, ih fun m hm => h m (List.mem_cons_of_mem _ hm)]
    rfl
theorem depth_all2 (wss : List (List (List Nat))) : PyData.depthAll (wss.map pyT) ≤ 1 := by
  induction wss with
  | nil => exact Nat.zero_le _
  | cons ws wss ih =>
    have h1 : PyData.depth (pyT ws) = 1 := by
      unfold pyT
      rw [PyData.depth, depth_all]
    rw [List.map_cons, PyData.depthAll, h1]
    omega
theorem pyTs_shaped {wss : List (List (List Nat))} (h : ∀ ws ∈ wss, ∀ l ∈ ws, Asc l) : SeqAt.shaped (.tuple (wss.map pyT)) = true := by
  unfold SeqAt.shaped
  rw [PyData.canLay0, lay_all2 h, PyData.depth, Bool.true_and]
  have := depth_all2 wss
  exact decide_eq_true (by omega)
theorem eqv_txs : ∀ a b : List (List Nat), PyData.eqvAll (a.map fun l => PyData.str (mkS l)) (b.map fun l => PyData.str (mkS l)) = decide (a = b)
  | [], [] => by simp [PyData.eqvAll]
  | [], _ :: _ => by simp [PyData.eqvAll]
  | _ :: _, [] => by simp [PyData.eqvAll]
  | x :: a, y :: b => by
    rw [List.map_cons, List.map_cons, PyData.eqvAll, eqv_txs a b, PyData.eqv]
    by_cases h : x = y
    · subst h
      rw [beq_self_eq_true, Bool.true_and]
      simp
    · rw [beq_eq_false_iff_ne.mpr fun z => h (mkS_inj.mp z), Bool.false_and]
      simp [h]
theorem eqv_pyT (a b : List (List Nat)) : PyData.eqv (pyT a) (pyT b) = decide (a = b) := by
  unfold pyT
  rw [PyData.eqv]
  exact eqv_txs a b
theorem eqv_pyTs : ∀ a b : List (List (List Nat)), PyData.eqvAll (a.map pyT) (b.map pyT) = decide (a = b)
  | [], [] => by simp [PyData.eqvAll]
  | [], _ :: _ => by simp [PyData.eqvAll]
  | _ :: _, [] => by simp [PyData.eqvAll]
  | x :: a, y :: b => by
    rw [List.map_cons, List.map_cons, PyData.eqvAll, eqv_pyTs a b, eqv_pyT]
    by_cases h : x = y
    · subst h
      simp
    · simp [h]
theorem any_pyT (w : List (List Nat)) (wss : List (List (List Nat))) : ((wss.map pyT).any fun z => PyData.eqv z (pyT w)) = decide (w ∈ wss) := by
  induction wss with
  | nil => simp
  | cons x wss ih =>
    rw [List.map_cons, List.any_cons, ih, eqv_pyT]
    by_cases h : x = w
    · subst h
      simp
    · have h2 : ¬ w = x := fun e => h e.symm
      simp [h, h2]
section
variable {K : PySem.W.Frag} {σ : L2.St} {H H' : Hp} {ta tb tc te : TE} {d e : D} {ds es : List D} {b c : Bool} {i j : Int} {l m : List Nat} {v : V}
theorem dp_txs : ∀ {ws : List (List Nat)} {vs : List V}, RL K H vs (ws.map D.tx) → DpAll K H vs (ws.map fun l => PyData.str (mkS l))
  | [], _, .nil => .nil
  | _ :: _, _, .cons h t => by
    cases h
    exact .cons (.str _) (dp_txs t)
theorem dp_pyT {ws : List (List Nat)} (h : R K H v (stD ws)) : Dp K H v (pyT ws) := by
  cases h with
  | tup hs ht => exact .tup hs (dp_txs ht)
theorem dp_pyTs : ∀ {wss : List (List (List Nat))} {vs : List V}, RL K H vs (wss.map stD) → DpAll K H vs (wss.map pyT)
  | [], _, .nil => .nil
  | _ :: _, _, .cons h t => .cons (dp_pyT h) (dp_pyTs t)
theorem ev_eqT {a b : List (List Nat)} (h1 : EvD K ta σ H (stD a)) (h2 : EvD K tb σ H (stD b)) (ha : ∀ l ∈ a, Asc l) (hb : ∀ l ∈ b, Asc l) : EvD K (tOp (rEqD K) ta tb) σ H (.bl (decide (a = b))) :=
  ev_op h1 h2 fun H1 v w r1 r2 Q q => by
    refine ⟨_, _, dp_pyT r1, dp_pyT r2, pyT_shaped ha, pyT_shaped hb, ?_⟩
    rw [eqv_pyT]
    exact q _ H1 (Same.refl _) (.bl _)
theorem ev_neT {a b : List (List Nat)} (h1 : EvD K ta σ H (stD a)) (h2 : EvD K tb σ H (stD b)) (ha : ∀ l ∈ a, Asc l) (hb : ∀ l ∈ b, Asc l) : EvD K (tOp (rNeD K) ta tb) σ H (.bl (!decide (a = b))) :=
  ev_op h1 h2 fun H1 v w r1 r2 Q q => by
    refine ⟨_, _, dp_pyT r1, dp_pyT r2, pyT_shaped ha, pyT_shaped hb, ?_⟩
    rw [eqv_pyT]
    exact q _ H1 (Same.refl _) (.bl _)
theorem ev_neTs {a b : List (List (List Nat))} (h1 : EvD K ta σ H (.tup (a.map stD))) (h2 : EvD K tb σ H (.tup (b.map stD))) (ha : ∀ ws ∈ a, ∀ l ∈ ws, Asc l) (hb : ∀ ws ∈ b, ∀ l ∈ ws, Asc l) : EvD K (tOp (rNeD K) ta tb) σ H (.bl (!decide (a = b))) :=
  ev_op h1 h2 fun H1 v w r1 r2 Q q => by
    cases r1 with
    | tup hs ht =>
      cases r2 with
      | tup hs2 ht2 =>
        refine ⟨_, _, .tup hs (dp_pyTs ht), .tup hs2 (dp_pyTs ht2), pyTs_shaped ha, pyTs_shaped hb, ?_⟩
        rw [PyData.eqv, eqv_pyTs]
        exact q _ H1 (Same.refl _) (.bl _)
/-- x in a tuple, data of any depth -/
def rInDT (K : PySem.W.Frag) (neg : Bool) : R2 := fun x y H Q => ∃ d ds, Dp K H x d ∧ Dp K H y (.tuple ds) ∧ SeqAt.shaped d = true ∧ SeqAt.shaped (.tuple ds) = true ∧ Q (.bl (if neg then !(ds.any fun z => PyData.eqv z d) else ds.any fun z => PyData.eqv z d)) H
theorem op_inDT {X : Cx} {k : Nat} (hr : Room k X.A) : OpR X (compareOp .In) (rInDT X.K false) := by
  intro pins s σ H x y v u Q I rx ry ⟨d, ds, hd, he, sd, se, q⟩
  obtain ⟨as, r1⟩ := Dp.reads I d x v hd rx
  obtain ⟨bs, r2⟩ := Dp.reads I (.tuple ds) y u he ry
  exact SeqAt.in_tuple_reads r2 r1 (SeqAt.canLay_of_shaped se) (SeqAt.canLay_of_shaped sd) (PyProof.Rows.room_in_shaped sd (by have := hr.un; omega)) ⟨.bl _, H, I, rfl, q⟩
theorem op_notInDT {X : Cx} {k : Nat} (hr : Room k X.A) : OpR X (compareOp .NotIn) (rInDT X.K true) := by
  intro pins s σ H x y v u Q I rx ry ⟨d, ds, hd, he, sd, se, q⟩
  obtain ⟨as, r1⟩ := Dp.reads I d x v hd rx
  obtain ⟨bs, r2⟩ := Dp.reads I (.tuple ds) y u he ry
  exact SeqAt.notIn_tuple_reads r2 r1 (SeqAt.canLay_of_shaped se) (SeqAt.canLay_of_shaped sd) (PyProof.Rows.room_in_shaped sd (by have := hr.un; omega)) ⟨.bl _, H, I, rfl, q⟩
theorem op_inDTK {X : Cx} {k : Nat} (hr : Room k X.A) (hK : X.K = K := by rfl) : OpR X (compareOp .In) (rInDT K false) := hK ▸ op_inDT hr
theorem op_notInDTK {X : Cx} {k : Nat} (hr : Room k X.A) (hK : X.K = K := by rfl) : OpR X (compareOp .NotIn) (rInDT K true) := hK ▸ op_notInDT hr
theorem ev_inT {neg : Bool} {a : List (List Nat)} {b : List (List (List Nat))} (h1 : EvD K ta σ H (stD a)) (h2 : EvD K tb σ H (.tup (b.map stD))) (ha : ∀ l ∈ a, Asc l) (hb : ∀ ws ∈ b, ∀ l ∈ ws, Asc l) : EvD K (tOp (rInDT K neg) ta tb) σ H (.bl (if neg then !decide (a ∈ b) else decide (a ∈ b))) :=
  ev_op h1 h2 fun H1 v w r1 r2 Q q => by
    cases r2 with
    | tup hs2 ht2 =>
      refine ⟨_, _, dp_pyT r1, .tup hs2 (dp_pyTs ht2), pyT_shaped ha, pyTs_shaped hb, ?_⟩
      rw [any_pyT]
      exact q _ H1 (Same.refl _) (.bl _)
/-! isinstance -/
theorem ev_isiS (h : EvD K ta σ H (.tx l)) : EvD K (tCB (rIsi K) (tCons ta (tCons (tC (.ty "str")) tNil))) σ H (.bl true) := fun H1 x Q q => h H1 x _ fun v H2 x2 r => by
  cases r
  exact ⟨_, _, .type "str", .type "str", true, rfl, .ty "str", .base (.str _), kit_ty (by decide +kernel), q _ H2 x2 (.bl _)⟩
theorem ty_tup {a : Addr} {xs : List V} (h : SqT K H a xs) : TyX K H (.ref a) (.type "tuple") := by
  rcases h with (h | ⟨o, h⟩) | ⟨o, its, n, h, c, _⟩
  · exact .base (.tup h)
  · exact .fTuple h
  · exact .kTuple h c
theorem ev_isiT (h : EvD K ta σ H (.tup ds)) : EvD K (tCB (rIsi K) (tCons ta (tCons (tC (.ty "tuple")) tNil))) σ H (.bl true) := fun H1 x Q q => h H1 x _ fun v H2 x2 r => by
  cases r with
  | tup hs ht => exact ⟨_, _, .type "tuple", .type "tuple", true, rfl, .ty "tuple", ty_tup hs, kit_ty (by decide +kernel), q _ H2 x2 (.bl _)⟩
end
end GW

set_option Elab.async false
set_option linter.all false
set_option maxRecDepth 100000
set_option maxHeartbeats 4000000
namespace GW
open PySem PySem.Spec L2 TL
abbrev s_letters_of : Stmt := topS 18
theorem sc_letters_of : FnScope ["system", "left", "right"] ["system"] (defScope s_letters_of) := ⟨rfl, rfl, rfl, by decide +kernel, rfl, by decide +kernel, by decide +kernel⟩
abbrev s_names_of : Stmt := topS 19
theorem sc_names_of : FnScope ["system", "letters", "name"] ["system"] (defScope s_names_of) := ⟨rfl, rfl, rfl, by decide +kernel, rfl, by decide +kernel, by decide +kernel⟩
abbrev s_signs_of : Stmt := topS 20
theorem sc_signs_of : FnScope ["system", "letters", "sign"] ["system"] (defScope s_signs_of) := ⟨rfl, rfl, rfl, by decide +kernel, rfl, by decide +kernel, by decide +kernel⟩
abbrev s_is_word : Stmt := topS 15
theorem sc_is_word : FnScope ["thing", "letter"] ["thing"] (defScope s_is_word) := ⟨rfl, rfl, rfl, by decide +kernel, rfl, by decide +kernel, by decide +kernel⟩
abbrev s_is_side : Stmt := topS 16
theorem sc_is_side : FnScope ["thing", "letter"] ["thing"] (defScope s_is_side) := ⟨rfl, rfl, rfl, by decide +kernel, rfl, by decide +kernel, by decide +kernel⟩
abbrev s_is_equation : Stmt := topS 17
theorem sc_is_equation : FnScope ["thing"] ["thing"] (defScope s_is_equation) := ⟨rfl, rfl, rfl, by decide +kernel, rfl, by decide +kernel, by decide +kernel⟩
abbrev s_filled : Stmt := topS 24
theorem sc_filled : FnScope ["side", "names", "words", "found", "letter", "at"] ["side", "names", "words"] (defScope s_filled) := ⟨rfl, rfl, rfl, by decide +kernel, rfl, by decide +kernel, by decide +kernel⟩
abbrev s_holds : Stmt := topS 25
theorem sc_holds : FnScope ["system", "words", "names", "left", "right"] ["system", "words"] (defScope s_holds) := ⟨rfl, rfl, rfl, by decide +kernel, rfl, by decide +kernel, by decide +kernel⟩
abbrev s_turned : Stmt := topS 56
theorem sc_turned : FnScope ["system", "left", "right"] ["system"] (defScope s_turned) := ⟨rfl, rfl, rfl, by decide +kernel, rfl, by decide +kernel, by decide +kernel⟩
section
variable {P : Program} {w : World} {K : PySem.W.Frag} {mg : Str → Option Value} {base : Heap} {tS tU tE tL tN : Tok}
/-! letters_of -/
def pLetters (ds : List D) (d : D) : Prop := ∃ s, ds = [sysD s] ∧ Sm s ∧ d = .tx (letters s)
theorem ok_letters_of {f : Addr} {fd : FuncData} {k : Nat} (F : Fun K "letters_of" "letters_of" s_letters_of f fd) : FnOk P w K mg base CX0 (k + 1) f fd ["system"] (spD K pLetters) := by
  refine F.ok sc_letters_of (fun vs H Q E h => ?_) (fun cdv A outer s H vs Q E hr h => ?_)
  · obtain ⟨ds, d, r, ⟨s, rfl, _⟩, _⟩ := h
    exact r.len
  · obtain ⟨ds, d, r, ⟨y, rfl, hy, rfl⟩, q⟩ := h
    have S0 : Sl K H (start ["system", "left", "right"] vs) [some (sysD y), none, none] := Sl.start r
    refine ⟨_, (pss_one (ps_ret (pe_m1 PySem.F.slot_str_join PySem.F.type_str_join (mt_joinK (K := K)) pe_str (pe_lc (own := [("left", 1), ("right", 2)]) (g := gTup K 2 (gCons (gName 1) (gCons (gName 2) (gNil)))) (by rfl) sc_letters_of.nd (pi_tup (pv 0)) (blkOk_by (own := [("left", 1), ("right", 2)]) (N := ["system", "left", "right"]) (sc := defScope s_letters_of) (by decide +kernel)) (fun _ _ _ _ _ => pg_tup rfl (pgs_cons (pg_name (i := 1) sc_letters_of.nd rfl (Or.inl rfl)) (pgs_cons (pg_name (i := 2) sc_letters_of.nd rfl (Or.inl rfl)) (pgs_nil)))) (fun _ _ _ _ _ => pts_nil) (fun _ _ _ _ _ => (pe_op op_addS (pv 1) (pv 2))))))), ?_⟩
    refine st_ret (ev_join (ls := y.map fun e => e.1 ++ e.2) ev_str (EvL.to (el_map (xs := y) (enc := eD) (f := fun e => .tx (e.1 ++ e.2)) (fs := fun e ss => (ss.set 1 (some (.tx e.1))).set 2 (some (.tx e.2))) S0 (it_tup (ev_var S0 rfl)).same ?_ ?_ ?_) ?_) ?_) ?_
    · exact fun e _ => go_pair
    · have := hy.2
      omega
    · intro e he σ' H' x S'
      have hl := len_mem he
      exact ev_addS (ev_var S' rfl) (ev_var S' rfl) (line_ge (by have := hy.1; omega))
    · rw [List.map_map]
      rfl
    · rw [sum_letters, List.length_map]
      show _ + _ * 0 ≤ _
      have := hy.1
      omega
    · intro v H2 x r2
      refine q v H2 x ?_
      have e : joinL (tl (Str.ofString "")) (y.map fun e => e.1 ++ e.2) = letters y := by
        show joinL [] _ = _
        rw [joinL_nil]
        rfl
      rw [← e]
      exact r2

/-! names_of, signs_of -/
def pNames (ds : List D) (d : D) : Prop := ∃ s, ds = [sysD s] ∧ Sm s ∧ d = .tx (names s)
def pSigns (ds : List D) (d : D) : Prop := ∃ s, ds = [sysD s] ∧ Sm s ∧ d = .tx (signs s)
theorem len_uns : uns.length = 26 := by
  rw [uns_eq]
  rfl
theorem len_sgs : sgs.length = 26 := by
  rw [sgs_eq]
  rfl
theorem names_le (s : Sys) : (names s).length ≤ 26 := by
  rw [← len_uns]
  exact List.length_filter_le _ _
theorem signs_le (s : Sys) : (signs s).length ≤ 26 := by
  rw [← len_sgs]
  exact List.length_filter_le _ _
theorem ok_names_of {f : Addr} {fd : FuncData} (F : Fun K "names_of" "names_of" s_names_of f fd) (T : Txt mg tS tU tE tL tN) (C_letters_of : Cal P w K mg base 1 "letters_of" ["system"] (spD K pLetters)) : FnOk P w K mg base CX0 2 f fd ["system"] (spD K pNames) := by
  refine F.ok sc_names_of (fun vs H Q E h => ?_) (fun cdv A outer s H vs Q E hr h => ?_)
  · obtain ⟨ds, d, r, ⟨s, rfl, _⟩, _⟩ := h
    exact r.len
  · obtain ⟨ds, d, r, ⟨y, rfl, hy, rfl⟩, q⟩ := h
    have S0 : Sl K H (start ["system", "letters", "name"] vs) [some (sysD y), none, none] := Sl.start r
    refine ⟨_, (pss_cons (ps_set (i := 1) sc_names_of.nd rfl (.inr rfl) (pe_cal C_letters_of (hr.mono (by decide)) (by rfl) (pa_cons (pv 0) pa_nil)))
    (pss_one (ps_ret (pe_m1 PySem.F.slot_str_join PySem.F.type_str_join (mt_joinK (K := K)) pe_str (pe_lc (own := [("name", 2)]) (g := gName 2) (by rfl) sc_names_of.nd (pi_str (pe_glob (by rfl) T.mUNKNOWNS (relS _ _))) (blkOk_by (own := [("name", 2)]) (N := ["system", "letters", "name"]) (sc := defScope s_names_of) (by decide +kernel)) (fun _ _ _ _ _ => pg_name (i := 2) sc_names_of.nd rfl (Or.inl rfl)) (fun _ _ _ _ _ => pts_one (pt_cmpR op_inS (pv 2) (pv 1) rfl)) (fun _ _ _ _ _ => (pv 2))))))), ?_⟩
    refine st_set S0 (ev_call (eva_cons (ev_var S0 rfl) eva_nil) ⟨y, rfl, hy, rfl⟩) fun σ1 H1 x1 S1 => ?_
    refine st_ret (ev_join (ls := (names y).map fun c => [c]) ev_str (EvL.to (el_lc (xs := uns) (enc := fun c => .tx [c]) (f := fun c => .tx [c]) (p := fun c => decide (c ∈ letters y)) (fs := fun c ss => ss.set 2 (some (.tx [c]))) S1 (it_str (ev_c .str)).same ?_ ?_ ?_) ?_) ?_) ?_
    · exact fun c _ => go_name 2
    · rw [len_uns]
      omega
    · intro c hc σ' H' x S'
      exact ⟨et_test (ev_inS (ev_var S' rfl) (ev_var S' rfl)), fun _ => ev_var S' rfl⟩
    · rw [List.map_map]
      rfl
    · rw [sum_ones, List.length_map]
      show _ + _ * 0 ≤ _
      have := names_le y
      omega
    · intro v H2 x r2
      refine q v H2 (x1.trans x) ?_
      have e : joinL (tl (Str.ofString "")) ((names y).map fun c => [c]) = names y := by
        show joinL [] _ = _
        rw [joinL_nil, flat_ones]
      rw [← e]
      exact r2
theorem ok_signs_of {f : Addr} {fd : FuncData} (F : Fun K "signs_of" "signs_of" s_signs_of f fd) (T : Txt mg tS tU tE tL tN) (C_letters_of : Cal P w K mg base 1 "letters_of" ["system"] (spD K pLetters)) : FnOk P w K mg base CX0 2 f fd ["system"] (spD K pSigns) := by
  refine F.ok sc_signs_of (fun vs H Q E h => ?_) (fun cdv A outer s H vs Q E hr h => ?_)
  · obtain ⟨ds, d, r, ⟨s, rfl, _⟩, _⟩ := h
    exact r.len
  · obtain ⟨ds, d, r, ⟨y, rfl, hy, rfl⟩, q⟩ := h
    have S0 : Sl K H (start ["system", "letters", "sign"] vs) [some (sysD y), none, none] := Sl.start r
    refine ⟨_, (pss_cons (ps_set (i := 1) sc_signs_of.nd rfl (.inr rfl) (pe_cal C_letters_of (hr.mono (by decide)) (by rfl) (pa_cons (pv 0) pa_nil)))
    (pss_one (ps_ret (pe_m1 PySem.F.slot_str_join PySem.F.type_str_join (mt_joinK (K := K)) pe_str (pe_lc (own := [("sign", 2)]) (g := gName 2) (by rfl) sc_signs_of.nd (pi_str (pe_glob (by rfl) T.mSIGNS (relS _ _))) (blkOk_by (own := [("sign", 2)]) (N := ["system", "letters", "sign"]) (sc := defScope s_signs_of) (by decide +kernel)) (fun _ _ _ _ _ => pg_name (i := 2) sc_signs_of.nd rfl (Or.inl rfl)) (fun _ _ _ _ _ => pts_one (pt_cmpR op_inS (pv 2) (pv 1) rfl)) (fun _ _ _ _ _ => (pv 2))))))), ?_⟩
    refine st_set S0 (ev_call (eva_cons (ev_var S0 rfl) eva_nil) ⟨y, rfl, hy, rfl⟩) fun σ1 H1 x1 S1 => ?_
    refine st_ret (ev_join (ls := (signs y).map fun c => [c]) ev_str (EvL.to (el_lc (xs := sgs) (enc := fun c => .tx [c]) (f := fun c => .tx [c]) (p := fun c => decide (c ∈ letters y)) (fs := fun c ss => ss.set 2 (some (.tx [c]))) S1 (it_str (ev_c .str)).same ?_ ?_ ?_) ?_) ?_) ?_
    · exact fun c _ => go_name 2
    · rw [len_sgs]
      omega
    · intro c hc σ' H' x S'
      exact ⟨et_test (ev_inS (ev_var S' rfl) (ev_var S' rfl)), fun _ => ev_var S' rfl⟩
    · rw [List.map_map]
      rfl
    · rw [sum_ones, List.length_map]
      show _ + _ * 0 ≤ _
      have := signs_le y
      omega
    · intro v H2 x r2
      refine q v H2 (x1.trans x) ?_
      have e : joinL (tl (Str.ofString "")) ((signs y).map fun c => [c]) = signs y := by
        show joinL [] _ = _
        rw [joinL_nil, flat_ones]
      rw [← e]
      exact r2
/-! is_word, is_side, is_equation -/
theorem in_sgs {c : Nat} (h : c ∈ sgs) : decide (c ∈ tl (Str.ofString "abcdefghijklmnopqrstuvwxyz")) = true := decide_eq_true h
theorem in_uns {c : Nat} (h : c ∈ uns) : decide (c ∈ tl (Str.ofString "ABCDEFGHIJKLMNOPQRSTUVWXYZ")) = true := decide_eq_true h
def Wd (l : List Nat) : Prop := ∀ c ∈ l, c ∈ sgs
def Sd (l : List Nat) : Prop := ∀ c ∈ l, c ∈ sgs ∨ c ∈ uns
def pIsWord (ds : List D) (d : D) : Prop := ∃ l, ds = [.tx l] ∧ Wd l ∧ d = .bl true
def pIsSide (ds : List D) (d : D) : Prop := ∃ l, ds = [.tx l] ∧ Sd l ∧ d = .bl true
theorem ok_is_word {f : Addr} {fd : FuncData} {k : Nat} (F : Fun K "is_word" "is_word" s_is_word f fd) (T : Txt mg tS tU tE tL tN) : FnOk P w K mg base CX0 (k + 1) f fd ["thing"] (spD K pIsWord) := by
  refine F.ok sc_is_word (fun vs H Q E h => ?_) (fun cdv A outer s H vs Q E hr h => ?_)
  · obtain ⟨ds, d, r, ⟨s, rfl, _⟩, _⟩ := h
    exact r.len
  · obtain ⟨ds, d, r, ⟨l, rfl, hl, rfl⟩, q⟩ := h
    have S0 : Sl K H (start ["thing", "letter"] vs) [some (.tx l), none] := Sl.start r
    refine ⟨_, (pss_cons (ps_if (pt_not (pt_val (pe_callB (call_isiK' (K := K)) (by rfl) T.zisinstance (by decide +kernel) (pa_cons (pv 0) (pa_cons (pe_bltn (v := .ty "str") (by rfl) T.zstr (by decide +kernel) rfl) pa_nil)))))
    (pss_one (ps_ret pe_bl))
    pss_nil)
    (pss_cons (ps_for PassesOwn.never rfl (pi_str (pv 0)) (pg_name (i := 1) sc_is_word.nd rfl (.inl rfl))
    (pss_one (ps_if (pt_cmpR op_notInS (pv 1) (pe_glob (by rfl) T.mSIGNS (relS _ _)) rfl)
    (pss_one (ps_ret pe_bl))
    pss_nil)))
    (pss_one (ps_ret pe_bl)))), ?_⟩
    refine st_no (et_not (et_B (ev_isiS (ev_var S0 rfl)))) fun H1 x1 => ?_
    have S1 := S0.mono (Tp.of (K := K) x1)
    refine st_for (S := Tp K) (it_str (ev_var S1 rfl)) fun H2 x2 => ⟨fun _ σ' H' => Same H2 H' ∧ Sl K H' σ' [some (.tx l), none], ⟨Same.refl _, S1.mono (Tp.of x2)⟩, fun k σ' H' _ h => Tp.of h.1, fun k c x σ' H' H3 hc ⟨y, S'⟩ s3 rd => ?_, fun σ' H' ⟨y, S'⟩ => ?_⟩
    · refine gd_name 1 x σ' _ H3 _ rd (S'.mono (Tp.of s3)) fun σ2 S2 => ?_
      refine st_no ((et_test (ev_notInS (ev_var S2 rfl) (ev_c .str))).to (by rw [in_sgs (hl c (List.mem_of_getElem? hc))]; rfl)) fun H4 x4 => ?_
      exact ⟨(y.trans s3).trans x4, (S2.mono (Tp.of x4)).drop1 1⟩
    · dsimp only
      refine st_ret (K := K) ev_bl ?_
      exact fun v H4 x4 r4 => q v H4 (((x1.trans x2).trans y).trans x4) r4
theorem ok_is_side {f : Addr} {fd : FuncData} {k : Nat} (F : Fun K "is_side" "is_side" s_is_side f fd) (T : Txt mg tS tU tE tL tN) : FnOk P w K mg base CX0 (k + 1) f fd ["thing"] (spD K pIsSide) := by
  refine F.ok sc_is_side (fun vs H Q E h => ?_) (fun cdv A outer s H vs Q E hr h => ?_)
  · obtain ⟨ds, d, r, ⟨s, rfl, _⟩, _⟩ := h
    exact r.len
  · obtain ⟨ds, d, r, ⟨l, rfl, hl, rfl⟩, q⟩ := h
    have S0 : Sl K H (start ["thing", "letter"] vs) [some (.tx l), none] := Sl.start r
    refine ⟨_, (pss_cons (ps_if (pt_not (pt_val (pe_callB (call_isiK' (K := K)) (by rfl) T.zisinstance (by decide +kernel) (pa_cons (pv 0) (pa_cons (pe_bltn (v := .ty "str") (by rfl) T.zstr (by decide +kernel) rfl) pa_nil)))))
    (pss_one (ps_ret pe_bl))
    pss_nil)
    (pss_cons (ps_for PassesOwn.never rfl (pi_str (pv 0)) (pg_name (i := 1) sc_is_side.nd rfl (.inl rfl))
    (pss_one (ps_if (PW.pt (pw_and (pt_cmpR op_notInS (pv 1) (pe_glob (by rfl) T.mSIGNS (relS _ _)) rfl) (pw_and1 (pt_cmpR op_notInS (pv 1) (pe_glob (by rfl) T.mUNKNOWNS (relS _ _)) rfl))))
    (pss_one (ps_ret pe_bl))
    pss_nil)))
    (pss_one (ps_ret pe_bl)))), ?_⟩
    refine st_no (et_not (et_B (ev_isiS (ev_var S0 rfl)))) fun H1 x1 => ?_
    have S1 := S0.mono (Tp.of (K := K) x1)
    refine st_for (S := Tp K) (it_str (ev_var S1 rfl)) fun H2 x2 => ⟨fun _ σ' H' => Same H2 H' ∧ Sl K H' σ' [some (.tx l), none], ⟨Same.refl _, S1.mono (Tp.of x2)⟩, fun k σ' H' _ h => Tp.of h.1, fun k c x σ' H' H3 hc ⟨y, S'⟩ s3 rd => ?_, fun σ' H' ⟨y, S'⟩ => ?_⟩
    · refine gd_name 1 x σ' _ H3 _ rd (S'.mono (Tp.of s3)) fun σ2 S2 => ?_
      refine st_no ((et_and (et_test (ev_notInS (ev_var S2 rfl) (ev_c .str))) fun _ => et_test (ev_notInS (ev_var S2 rfl) (ev_c .str))).to ?_) fun H4 x4 => ?_
      · rcases hl c (List.mem_of_getElem? hc) with h | h
        · rw [in_sgs h]
          rfl
        · rw [in_uns h]
          exact Bool.and_false _
      · exact ⟨(y.trans s3).trans x4, (S2.mono (Tp.of x4)).drop1 1⟩
    · dsimp only
      refine st_ret (K := K) ev_bl ?_
      exact fun v H4 x4 r4 => q v H4 (((x1.trans x2).trans y).trans x4) r4
def pIsEqn (ds : List D) (d : D) : Prop := ∃ e, ds = [eD e] ∧ Sd e.1 ∧ Sd e.2 ∧ d = .bl true
theorem ok_is_equation {f : Addr} {fd : FuncData} (F : Fun K "is_equation" "is_equation" s_is_equation f fd) (T : Txt mg tS tU tE tL tN) (C_is_side : Cal P w K mg base 1 "is_side" ["thing"] (spD K pIsSide)) : FnOk P w K mg base CX0 2 f fd ["thing"] (spD K pIsEqn) := by
  refine F.ok sc_is_equation (fun vs H Q E h => ?_) (fun cdv A outer s H vs Q E hr h => ?_)
  · obtain ⟨ds, d, r, ⟨s, rfl, _⟩, _⟩ := h
    exact r.len
  · obtain ⟨ds, d, r, ⟨e, rfl, h1, h2, rfl⟩, q⟩ := h
    have S0 : Sl K H (start ["thing"] vs) [some (.tup [.tx e.1, .tx e.2])] := Sl.start r
    refine ⟨_, (pss_one (ps_ret (pe_and (pe_callB (call_isiK' (K := K)) (by rfl) T.zisinstance (by decide +kernel) (pa_cons (pv 0) (pa_cons (pe_bltn (v := .ty "tuple") (by rfl) T.ztuple (by decide +kernel) rfl) pa_nil))) (pe_and (pe_cmpR op_eq (pe_callB (call_lenQK (K := K)) (by rfl) T.zlen PySem.boot_len (pa_cons (pv 0) pa_nil)) pe_int (nomark _)) (pe_and (pe_cal C_is_side (hr.mono (by decide)) (by rfl) (pa_cons (pe_ix (ix_tupK (K := K)) (pv 0) pe_int (fun _ _ => rfl)) pa_nil)) (pe_one (pe_cal C_is_side (hr.mono (by decide)) (by rfl) (pa_cons (pe_ix (ix_tupK (K := K)) (pv 0) pe_int (fun _ _ => rfl)) pa_nil)))))))), ?_⟩
    refine st_ret (EvD.to (ev_andV (ev_isiT (ev_var S0 rfl)) fun _ => ev_andV (ev_eqI (ev_lenT (ev_var S0 rfl)) ev_int) fun _ => ev_andV (ev_call (P := pIsSide) (eva_cons (ev_ixT (n := 0) (ev_var S0 rfl) ev_int rfl rfl) eva_nil) ⟨_, rfl, h1, rfl⟩) fun _ => ev_call (P := pIsSide) (eva_cons (ev_ixT (n := 1) (ev_var S0 rfl) ev_int rfl rfl) eva_nil) ⟨_, rfl, h2, rfl⟩) rfl) q

/-! filled, holds, turned -/
/-- the unknown's word, the sign itself -/
def wd (nm : List Nat) (ws : List (List Nat)) (c : Nat) : List Nat := if c ∈ nm then ws.getD (nm.idxOf c) [] else [c]
def fill (nm : List Nat) (ws : List (List Nat)) (l : List Nat) : List Nat := l.flatMap (wd nm ws)
theorem fill_app (nm : List Nat) (ws : List (List Nat)) (l m : List Nat) : fill nm ws (l ++ m) = fill nm ws l ++ fill nm ws m := List.flatMap_append
theorem fill_cons (nm : List Nat) (ws : List (List Nat)) (c : Nat) (l : List Nat) : fill nm ws (c :: l) = wd nm ws c ++ fill nm ws l := List.flatMap_cons
theorem fill_nil (nm : List Nat) (ws : List (List Nat)) : fill nm ws [] = [] := rfl
theorem take_succ_of {al : Type} {l : List al} {k : Nat} {c : al} (h : l[k]? = some c) : l.take (k + 1) = l.take k ++ [c] := by
  rw [List.take_add_one, h]
  rfl
theorem fill_take_le (nm : List Nat) (ws : List (List Nat)) (l : List Nat) (k : Nat) : (fill nm ws (l.take k)).length ≤ (fill nm ws l).length := by
  have h : fill nm ws l = fill nm ws (l.take k) ++ fill nm ws (l.drop k) := by
    rw [← fill_app, List.take_append_drop]
  rw [h, List.length_append]
  exact Nat.le_add_right _ _
def pFilled (ds : List D) (d : D) : Prop := ∃ l nm ws, ds = [.tx l, .tx nm, stD ws] ∧ ws.length = nm.length ∧ (fill nm ws l).length ≤ 1000 ∧ d = .tx (fill nm ws l)
theorem ok_filled {f : Addr} {fd : FuncData} {k : Nat} (F : Fun K "filled" "filled" s_filled f fd) : FnOk P w K mg base CX0 (k + 1) f fd ["side", "names", "words"] (spD K pFilled) := by
  refine F.ok sc_filled (fun vs H Q E h => ?_) (fun cdv A outer s H vs Q E hr h => ?_)
  · obtain ⟨ds, d, r, ⟨_, _, _, rfl, _⟩, _⟩ := h
    exact r.len
  · obtain ⟨ds, d, r, ⟨l, nm, ws, rfl, hw, hl, rfl⟩, q⟩ := h
    have S0 : Sl K H (start ["side", "names", "words", "found", "letter", "at"] vs) [some (.tx l), some (.tx nm), some (stD ws), none, none, none] := Sl.start r
    refine ⟨_, (pss_cons (ps_set (i := 3) sc_filled.nd rfl (.inl rfl) pe_str)
    (pss_cons (ps_for PassesOwn.never rfl (pi_str (pv 0)) (pg_name (i := 4) sc_filled.nd rfl (.inl rfl))
    (pss_cons (ps_set (i := 5) sc_filled.nd rfl (.inl rfl) (pe_m1 PySem.F.slot_str_find PySem.F.type_str_find mt_findD (pv 1) (pv 4)))
    (pss_one (ps_if (pt_cmpR op_lt (pv 5) pe_int (nomark _))
    (pss_one (ps_aug (i := 3) sc_filled.nd rfl (.inl rfl) (pv 4) ip_addS))
    (pss_one (ps_aug (i := 3) sc_filled.nd rfl (.inl rfl) (pe_ix (ix_tupK (K := K)) (pv 2) (pv 5) (fun _ _ => rfl)) ip_addS))))))
    (pss_one (ps_ret (pv 3))))), ?_⟩
    refine st_set S0 ev_str fun σ1 H1 x1 S1 => ?_
    refine st_for (S := Tp K) (it_str (ev_var S1 rfl)) fun H2 x2 => ⟨fun k σ' H' => Same H2 H' ∧ Sl K H' σ' [some (.tx l), some (.tx nm), some (stD ws), some (.tx (fill nm ws (l.take k))), none, none], ⟨Same.refl _, S1.mono (Tp.of x2)⟩, fun k σ' H' _ h => Tp.of h.1, fun k c x σ' H' H3 hc ⟨y, S'⟩ s3 rd => ?_, fun σ' H' ⟨y, S'⟩ => ?_⟩
    · refine gd_name 4 x σ' _ H3 _ rd (S'.mono (Tp.of s3)) fun σ2 S2 => ?_
      refine st_set S2 (ev_find (ev_var S2 rfl) (ev_var S2 rfl)) fun σ4 H4 x4 S4 => ?_
      have ht : fill nm ws (l.take (k + 1)) = fill nm ws (l.take k) ++ wd nm ws c := by
        rw [take_succ_of hc, fill_app, fill_cons, fill_nil, List.append_nil]
      have hle := fill_take_le nm ws l (k + 1)
      rw [ht, List.length_append] at hle
      refine st_if (et_test (ev_lt (ev_var S4 rfl) ev_int)) (fun hb H5 x5 => ?_) (fun hb H5 x5 => ?_)
      · have hn : ¬ c ∈ nm := fun hm => by
          unfold fnd at hb
          rw [if_pos hm] at hb
          have := of_decide_eq_true hb
          omega
        have hwd : wd nm ws c = [c] := if_neg hn
        have S5 := S4.mono (Tp.of (K := K) x5)
        refine st_aug S5 rfl (ev_var S5 rfl) (fun _ _ _ r1 r2 => ipS_ok r1 r2 (line_ge ?_)) fun σ6 H6 x6 S6 => ?_
        · rw [hwd] at hle
          show (fill nm ws (l.take k)).length + [c].length ≤ _
          omega
        · refine ⟨(((y.trans s3).trans x4).trans x5).trans x6, ?_⟩
          rw [ht, hwd]
          exact ((S6.drop1 5).drop1 4)
      · have hm : c ∈ nm := by
          unfold fnd at hb
          by_cases hm : c ∈ nm
          · exact hm
          · rw [if_neg hm] at hb
            exact absurd (show (-1 : Int) < 0 by decide) (of_decide_eq_false hb)
        have hi : nm.idxOf c < nm.length := List.idxOf_lt_length_of_mem hm
        have hg : ws[nm.idxOf c]? = some (wd nm ws c) := by
          unfold wd
          rw [if_pos hm, List.getD_eq_getElem?_getD, List.getElem?_eq_getElem (by omega)]
          rfl
        have S5 := S4.mono (Tp.of (K := K) x5)
        refine st_aug S5 rfl (ev_ixT (n := nm.idxOf c) (d := .tx (wd nm ws c)) (ev_var S5 rfl) (ev_var S5 rfl) (by unfold fnd; rw [if_pos hm]) (by rw [List.getElem?_map, hg]; rfl)) (fun _ _ _ r1 r2 => ipS_ok r1 r2 (line_ge (by omega))) fun σ6 H6 x6 S6 => ?_
        refine ⟨(((y.trans s3).trans x4).trans x5).trans x6, ?_⟩
        rw [ht]
        exact ((S6.drop1 5).drop1 4)
    · rw [List.take_length] at S'
      refine st_ret (ev_var S' rfl) ?_
      exact fun v H4 x4 r4 => q v H4 (((x1.trans x2).trans y).trans x4) r4
/-- the words are an answer, each side filled is short -/
def Ans (nm : List Nat) (ws : List (List Nat)) (s : Sys) : Prop := ∀ e ∈ s, fill nm ws e.1 = fill nm ws e.2
def pHolds (ds : List D) (d : D) : Prop := ∃ s ws, ds = [sysD s, stD ws] ∧ Sm s ∧ ws.length = (names s).length ∧ (∀ e ∈ s, (fill (names s) ws e.1).length ≤ 1000) ∧ Ans (names s) ws s ∧ d = .bl true
theorem ok_holds {f : Addr} {fd : FuncData} (F : Fun K "holds" "holds" s_holds f fd) (C_names_of : Cal P w K mg base 2 "names_of" ["system"] (spD K pNames)) (C_filled : Cal P w K mg base 1 "filled" ["side", "names", "words"] (spD K pFilled)) : FnOk P w K mg base CX0 3 f fd ["system", "words"] (spD K pHolds) := by
  refine F.ok sc_holds (fun vs H Q E h => ?_) (fun cdv A outer s H vs Q E hr h => ?_)
  · obtain ⟨ds, d, r, ⟨_, _, rfl, _⟩, _⟩ := h
    exact r.len
  · obtain ⟨ds, d, r, ⟨sy, ws, rfl, hs, hw, hl, ha, rfl⟩, q⟩ := h
    have S0 : Sl K H (start ["system", "words", "names", "left", "right"] vs) [some (sysD sy), some (stD ws), none, none, none] := Sl.start r
    refine ⟨_, (pss_cons (ps_set (i := 2) sc_holds.nd rfl (.inl rfl) (pe_cal C_names_of (hr.mono (by decide)) (by rfl) (pa_cons (pv 0) pa_nil)))
    (pss_cons (ps_for PassesOwn.never rfl (pi_tup (pv 0)) (pg_tup rfl (pgs_cons (pg_name (i := 3) sc_holds.nd rfl (.inl rfl)) (pgs_cons (pg_name (i := 4) sc_holds.nd rfl (.inl rfl)) (pgs_nil))))
    (pss_one (ps_if (pt_cmpR op_ne (pe_cal C_filled (hr.mono (by decide)) (by rfl) (pa_cons (pv 3) (pa_cons (pv 2) (pa_cons (pv 1) pa_nil)))) (pe_cal C_filled (hr.mono (by decide)) (by rfl) (pa_cons (pv 4) (pa_cons (pv 2) (pa_cons (pv 1) pa_nil)))) (nomark _))
    (pss_one (ps_ret pe_bl))
    pss_nil)))
    (pss_one (ps_ret pe_bl)))), ?_⟩
    refine st_set S0 (ev_call (eva_cons (ev_var S0 rfl) eva_nil) ⟨sy, rfl, hs, rfl⟩) fun σ1 H1 x1 S1 => ?_
    refine st_for (S := Tp K) (xs := sy) (enc := eD) (it_tup (ev_var S1 rfl)) fun H2 x2 => ⟨fun k σ' H' => Same H2 H' ∧ Sl K H' σ' [some (sysD sy), some (stD ws), some (.tx (names sy)), none, none], ⟨Same.refl _, S1.mono (Tp.of x2)⟩, fun k σ' H' _ h => Tp.of h.1, fun k e x σ' H' H3 he ⟨y, S'⟩ s3 rd => ?_, fun σ' H' ⟨y, S'⟩ => ?_⟩
    · have hm := List.mem_of_getElem? he
      refine gd_pair x σ' _ H3 _ rd (S'.mono (Tp.of s3)) fun σ2 S2 => ?_
      refine st_no ((et_test (ev_neS (ev_call (eva_cons (ev_var S2 rfl) (eva_cons (ev_var S2 rfl) (eva_cons (ev_var S2 rfl) eva_nil))) ⟨e.1, names sy, ws, rfl, hw, hl e hm, rfl⟩) (ev_call (eva_cons (ev_var S2 rfl) (eva_cons (ev_var S2 rfl) (eva_cons (ev_var S2 rfl) eva_nil))) ⟨e.2, names sy, ws, rfl, hw, by rw [← ha e hm]; exact hl e hm, rfl⟩))).to (by rw [decide_eq_true (ha e hm)]; rfl)) fun H4 x4 => ?_
      exact ⟨(y.trans s3).trans x4, ((S2.mono (Tp.of x4)).drop1 4).drop1 3⟩
    · dsimp only
      refine st_ret (K := K) ev_bl ?_
      exact fun v H4 x4 r4 => q v H4 (((x1.trans x2).trans y).trans x4) r4
def swp (e : Eqn) : Eqn := (e.2, e.1)
def pTurned (ds : List D) (d : D) : Prop := ∃ s, ds = [sysD s] ∧ s.length ≤ 100 ∧ d = sysD (s.map swp)
theorem ok_turned {f : Addr} {fd : FuncData} {k : Nat} (F : Fun K "turned" "turned" s_turned f fd) (T : Txt mg tS tU tE tL tN) : FnOk P w K mg base CX0 (k + 1) f fd ["system"] (spD K pTurned) := by
  refine F.ok sc_turned (fun vs H Q E h => ?_) (fun cdv A outer s H vs Q E hr h => ?_)
  · obtain ⟨ds, d, r, ⟨_, rfl, _⟩, _⟩ := h
    exact r.len
  · obtain ⟨ds, d, r, ⟨y, rfl, hy, rfl⟩, q⟩ := h
    have S0 : Sl K H (start ["system", "left", "right"] vs) [some (sysD y), none, none] := Sl.start r
    refine ⟨_, (pss_one (ps_ret (pe_callTy (call_tupOfK (K := K)) (by rfl) T.ztuple (by decide +kernel) (pa_cons (pe_lc (own := [("left", 1), ("right", 2)]) (g := gTup K 2 (gCons (gName 1) (gCons (gName 2) (gNil)))) (by rfl) sc_turned.nd (pi_tup (pv 0)) (blkOk_by (own := [("left", 1), ("right", 2)]) (N := ["system", "left", "right"]) (sc := defScope s_turned) (by decide +kernel)) (fun _ _ _ _ _ => pg_tup rfl (pgs_cons (pg_name (i := 1) sc_turned.nd rfl (Or.inl rfl)) (pgs_cons (pg_name (i := 2) sc_turned.nd rfl (Or.inl rfl)) (pgs_nil)))) (fun _ _ _ _ _ => pts_nil) (fun _ _ _ _ _ => (pe_tup (pa_cons (pv 2) (pa_cons (pv 1) pa_nil))))) pa_nil)))), ?_⟩
    refine st_ret (EvD.to (ev_tupOf (el_map (xs := y) (enc := eD) (f := fun e => eD (swp e)) (fs := fun e ss => (ss.set 1 (some (.tx e.1))).set 2 (some (.tx e.2))) S0 (it_tup (ev_var S0 rfl)).same ?_ ?_ ?_)) ?_) q
    · exact fun e _ => go_pair
    · omega
    · intro e he σ' H' x S'
      exact ev_tup (eva_cons (ev_var S' rfl) (eva_cons (ev_var S' rfl) eva_nil)) (by show 2 ≤ sizeLine; decide)
    · unfold sysD
      rw [List.map_map]
      rfl
end
end GW

set_option Elab.async false
set_option linter.all false
set_option maxRecDepth 100000
set_option maxHeartbeats 4000000
namespace GW
open PySem PySem.Spec L2 TL
abbrev s_stripped_pair : Stmt := topS 27
theorem sc_stripped_pair : FnScope ["left", "right", "at"] ["left", "right"] (defScope s_stripped_pair) := ⟨rfl, rfl, rfl, by decide +kernel, rfl, by decide +kernel, by decide +kernel⟩
abbrev s_stripped : Stmt := topS 28
theorem sc_stripped : FnScope ["equations", "pairs", "left", "right", "pair"] ["equations"] (defScope s_stripped) := ⟨rfl, rfl, rfl, by decide +kernel, rfl, by decide +kernel, by decide +kernel⟩
abbrev s_first_room : Stmt := topS 29
theorem sc_first_room : FnScope ["system"] ["system"] (defScope s_first_room) := ⟨rfl, rfl, rfl, by decide +kernel, rfl, by decide +kernel, by decide +kernel⟩
abbrev s_is_ended : Stmt := topS 30
theorem sc_is_ended : FnScope ["room"] ["room"] (defScope s_is_ended) := ⟨rfl, rfl, rfl, by decide +kernel, rfl, by decide +kernel, by decide +kernel⟩
abbrev s_is_dead_pair : Stmt := topS 31
theorem sc_is_dead_pair : FnScope ["left", "right", "letter"] ["left", "right"] (defScope s_is_dead_pair) := ⟨rfl, rfl, rfl, by decide +kernel, rfl, by decide +kernel, by decide +kernel⟩
abbrev s_is_dead : Stmt := topS 32
theorem sc_is_dead : FnScope ["room", "left", "right"] ["room"] (defScope s_is_dead) := ⟨rfl, rfl, rfl, by decide +kernel, rfl, by decide +kernel, by decide +kernel⟩
abbrev s_ahead_of : Stmt := topS 38
theorem sc_ahead_of : FnScope ["names", "step", "words"] ["names", "step", "words"] (defScope s_ahead_of) := ⟨rfl, rfl, rfl, by decide +kernel, rfl, by decide +kernel, by decide +kernel⟩
abbrev s_led : Stmt := topS 39
theorem sc_led : FnScope ["room", "step", "words", "at"] ["room", "step", "words"] (defScope s_led) := ⟨rfl, rfl, rfl, by decide +kernel, rfl, by decide +kernel, by decide +kernel⟩
abbrev s_onward : Stmt := topS 40
theorem sc_onward : FnScope ["room", "step", "words", "at", "start"] ["room", "step", "words"] (defScope s_onward) := ⟨rfl, rfl, rfl, by decide +kernel, rfl, by decide +kernel, by decide +kernel⟩
/-! ### what rooms are -/
def strip1 : List Nat → List Nat → Eqn
  | x :: l, y :: r => if x = y then strip1 l r else (x :: l, y :: r)
  | l, r => (l, r)
def stripE (e : Eqn) : Eqn := strip1 e.1 e.2
def strip (s : Sys) : Sys := (s.map stripE).filter fun e => !decide (e = ([], []))
theorem strip1_step {l r : List Nat} {n x : Nat} (h1 : l[n]? = some x) (h2 : r[n]? = some x) : strip1 (l.drop n) (r.drop n) = strip1 (l.drop (n + 1)) (r.drop (n + 1)) := by
  obtain ⟨a1, e1⟩ := List.getElem?_eq_some_iff.mp h1
  obtain ⟨a2, e2⟩ := List.getElem?_eq_some_iff.mp h2
  rw [List.drop_eq_getElem_cons a1, List.drop_eq_getElem_cons a2, e1, e2, strip1, if_pos rfl]
theorem strip1_stop {l r : List Nat} {n : Nat} (h : ¬ (n < l.length ∧ n < r.length ∧ l[n]? = r[n]?)) : strip1 (l.drop n) (r.drop n) = (l.drop n, r.drop n) := by
  by_cases a1 : n < l.length
  · by_cases a2 : n < r.length
    · have hne : ¬ l[n] = r[n] := fun e => h ⟨a1, a2, by rw [List.getElem?_eq_getElem a1, List.getElem?_eq_getElem a2, e]⟩
      rw [List.drop_eq_getElem_cons a1, List.drop_eq_getElem_cons a2, strip1, if_neg hne]
    · rw [List.drop_eq_nil_of_le (show r.length ≤ n by omega)]
      cases l.drop n <;> rfl
  · rw [List.drop_eq_nil_of_le (show l.length ≤ n by omega)]
    cases r.drop n <;> rfl
/-- each side of signs and unknowns, not long -/
def Ok (s : Sys) : Prop := s.length ≤ 100 ∧ ∀ e ∈ s, Sd e.1 ∧ Sd e.2 ∧ e.1.length ≤ 1000 ∧ e.2.length ≤ 1000
theorem strip1_suf : ∀ l r : List Nat, ∃ p, l = p ++ (strip1 l r).1 ∧ r = p ++ (strip1 l r).2
  | [], r => ⟨[], rfl, rfl⟩
  | _ :: _, [] => ⟨[], rfl, rfl⟩
  | x :: l, y :: r => by
    by_cases h : x = y
    · subst h
      obtain ⟨p, h1, h2⟩ := strip1_suf l r
      rw [strip1, if_pos rfl]
      exact ⟨x :: p, by rw [List.cons_append, ← h1], by rw [List.cons_append, ← h2]⟩
    · rw [strip1, if_neg h]
      exact ⟨[], rfl, rfl⟩
theorem Sd.asc {l : List Nat} (h : Sd l) : Asc l := fun c hc => by
  rcases h c hc with q | q
  · have := mem_sgs.mp q
    omega
  · have := mem_uns.mp q
    omega
theorem strip1_ok {l r : List Nat} (h1 : Sd l) (h2 : Sd r) : Sd (strip1 l r).1 ∧ Sd (strip1 l r).2 ∧ (strip1 l r).1.length ≤ l.length ∧ (strip1 l r).2.length ≤ r.length := by
  obtain ⟨p, e1, e2⟩ := strip1_suf l r
  refine ⟨fun c hc => h1 c (by rw [e1]; exact List.mem_append_right _ hc), fun c hc => h2 c (by rw [e2]; exact List.mem_append_right _ hc), ?_, ?_⟩
  · have := congrArg List.length e1
    rw [List.length_append] at this
    omega
  · have := congrArg List.length e2
    rw [List.length_append] at this
    omega
theorem strip_ok {s : Sys} (h : Ok s) : Ok (strip s) := by
  refine ⟨?_, fun e he => ?_⟩
  · unfold strip
    refine Nat.le_trans (List.length_filter_le _ _) ?_
    rw [List.length_map]
    exact h.1
  · have hm := (List.mem_filter.mp he).1
    obtain ⟨e0, h0, rfl⟩ := List.mem_map.mp hm
    obtain ⟨a, b, c, d⟩ := h.2 e0 h0
    obtain ⟨x, y, z, t⟩ := strip1_ok a b
    exact ⟨x, y, Nat.le_trans z c, Nat.le_trans t d⟩
/-- a room: names and equations -/
abbrev Room' := List Nat × Sys
def roomD (r : Room') : D := .tup [.tx r.1, sysD r.2]
def deadP (e : Eqn) : Bool := match e.1, e.2 with
  | x :: _, y :: _ => decide (x ∈ sgs) && decide (y ∈ sgs)
  | l, r => (l ++ r).any fun c => decide (c ∈ sgs)
def dead (s : Sys) : Bool := s.any deadP
section
variable {P : Program} {w : World} {K : PySem.W.Frag} {mg : Str → Option Value} {base : Heap} {tS tU tE tL tN : Tok}
def pStripPair (ds : List D) (d : D) : Prop := ∃ l r, ds = [.tx l, .tx r] ∧ l.length ≤ 1000 ∧ r.length ≤ 1000 ∧ d = eD (strip1 l r)
theorem ok_stripped_pair {f : Addr} {fd : FuncData} {k : Nat} (F : Fun K "stripped_pair" "stripped_pair" s_stripped_pair f fd) (T : Txt mg tS tU tE tL tN) : FnOk P w K mg base CX0 (k + 1) f fd ["left", "right"] (spD K pStripPair) := by
  refine F.ok sc_stripped_pair (fun vs H Q E h => ?_) (fun cdv A outer s H vs Q E hr h => ?_)
  · obtain ⟨ds, d, r, ⟨_, _, rfl, _⟩, _⟩ := h
    exact r.len
  · obtain ⟨ds, d, rr, ⟨l, r, rfl, hl, hr2, rfl⟩, q⟩ := h
    have S0 : Sl K H (start ["left", "right", "at"] vs) [some (.tx l), some (.tx r), none] := Sl.start rr
    refine ⟨_, (pss_cons (ps_set (i := 2) sc_stripped_pair.nd rfl (.inl rfl) pe_int)
    (pss_cons (ps_while PassesOwn.never (PW.pt (pw_and (pt_cmpR op_lt (pv 2) (pe_callB call_lenS (by rfl) T.zlen PySem.boot_len (pa_cons (pv 0) pa_nil)) (nomark _)) (pw_and (pt_cmpR op_lt (pv 2) (pe_callB call_lenS (by rfl) T.zlen PySem.boot_len (pa_cons (pv 1) pa_nil)) (nomark _)) (pw_and1 (pt_cmpR op_eq (pe_ix ix_str (pv 0) (pv 2) (fun _ _ => rfl)) (pe_ix ix_str (pv 1) (pv 2) (fun _ _ => rfl)) (nomark _))))))
    (pss_one (ps_aug (i := 2) sc_stripped_pair.nd rfl (.inl rfl) pe_int ip_add)))
    (pss_one (ps_ret (pe_tup (pa_cons (pe_slice sl_str (pv 0) (po_some (pv 2)) po_none) (pa_cons (pe_slice sl_str (pv 1) (po_some (pv 2)) po_none) pa_nil))))))), ?_⟩
    refine st_set S0 ev_int fun σ1 H1 x1 S1 => ?_
    refine st_while (fun m σ' H' => ∃ n : Nat, Same H1 H' ∧ Sl K H' σ' [some (.tx l), some (.tx r), some (.int n)] ∧ m = l.length - n ∧ n ≤ l.length ∧ strip1 (l.drop n) (r.drop n) = strip1 l r) l.length ⟨0, Same.refl _, S1, rfl, Nat.zero_le _, rfl⟩ ?_
    rintro m σ' H' ⟨n, y, S', em, hn, e⟩
    refine ⟨decide ((n : Int) < (l.length : Int)) && (decide ((n : Int) < (r.length : Int)) && decide (l[n]? = r[n]?)), et_and (et_test (ev_lt (ev_var S' rfl) (ev_lenS (ev_var S' rfl) (line_ge (by omega))))) fun h1 => et_and (et_test (ev_lt (ev_var S' rfl) (ev_lenS (ev_var S' rfl) (line_ge (by omega))))) fun h2 => ?_, fun hb H2 x2 => ?_, fun hb H2 x2 => ?_⟩
    · have a1 : n < l.length := by
        have := of_decide_eq_true h1
        omega
      have a2 : n < r.length := by
        have := of_decide_eq_true h2
        omega
      refine (et_test (ev_eqS (ev_ixS (n := n) (ev_var S' rfl) (ev_var S' rfl) rfl (List.getElem?_eq_getElem a1) (line_ge (by omega))) (ev_ixS (n := n) (ev_var S' rfl) (ev_var S' rfl) rfl (List.getElem?_eq_getElem a2) (line_ge (by omega))))).to ?_
      rw [List.getElem?_eq_getElem a1, List.getElem?_eq_getElem a2]
      simp
    · simp only [Bool.and_eq_true, decide_eq_true_eq] at hb
      obtain ⟨h1, h2, h3⟩ := hb
      have a1 : n < l.length := by omega
      have S2 := S'.mono (Tp.of (K := K) x2)
      refine st_aug S2 rfl (K := K) (e := .int 1) ev_int (fun _ _ _ r1 r2 => ipI_ok r1 r2) fun σ3 H3 x3 S3 => ?_
      refine ⟨l.length - (n + 1), by omega, n + 1, (y.trans x2).trans x3, ?_, rfl, a1, ?_⟩
      · have e2 : ((n : Int) + 1) = ((n + 1 : Nat) : Int) := by omega
        rw [← e2]
        exact S3
      · rw [← e]
        rw [List.getElem?_eq_getElem a1] at h3
        exact (strip1_step (List.getElem?_eq_getElem a1) h3.symm).symm
    · have S2 := S'.mono (Tp.of (K := K) x2)
      have hstop : strip1 l r = (l.drop n, r.drop n) := by
        rw [← e]
        refine strip1_stop fun ⟨h1, h2, h3⟩ => ?_
        have : (decide ((n : Int) < (l.length : Int)) && (decide ((n : Int) < (r.length : Int)) && decide (l[n]? = r[n]?))) = true := by
          simp only [Bool.and_eq_true, decide_eq_true_eq]
          exact ⟨by omega, by omega, h3⟩
        rw [this] at hb
        cases hb
      dsimp only
      refine st_ret (ev_tup (eva_cons (ev_slS (m := l.drop n) (ev_var S2 rfl) (evo_some (ev_var S2 rfl)) evo_none (line_ge (by omega)) (cutS_from l n)) (eva_cons (ev_slS (m := r.drop n) (ev_var S2 rfl) (evo_some (ev_var S2 rfl)) evo_none (line_ge (by omega)) (cutS_from r n)) eva_nil)) (by show 2 ≤ sizeLine; decide)) ?_
      intro v H4 x4 r4
      refine q v H4 (((x1.trans y).trans x2).trans x4) ?_
      rw [hstop]
      exact r4
/-- stripped: of a tuple or of a list -/
def spStripped (K : PySem.W.Frag) : Sp := fun vs H Q _ => ∃ y, Ok y ∧ (RL K H vs [sysD y] ∨ ∃ a xs, vs = [.ref a] ∧ SqL K H a xs ∧ RL K H xs (y.map eD)) ∧ ∀ v H', Same H H' → R K H' v (sysD (strip y)) → Q v H'
theorem ok_stripped {f : Addr} {fd : FuncData} (F : Fun K "stripped" "stripped" s_stripped f fd) (T : Txt mg tS tU tE tL tN) (C_stripped_pair : Cal P w K mg base 1 "stripped_pair" ["left", "right"] (spD K pStripPair)) : FnOk P w K mg base CX0 2 f fd ["equations"] (spStripped K) := by
  refine F.ok sc_stripped (fun vs H Q E h => ?_) (fun cdv A outer s H vs Q E hr h => ?_)
  · obtain ⟨y, _, h | ⟨a, xs, rfl, _⟩, _⟩ := h
    · exact h.len
    · rfl
  · obtain ⟨y, hy, h, q⟩ := h
    have step : ∀ e ∈ y, ∀ (σ' : L2.St) (H' : Hp), ∀ o, Sl K H' σ' [o, none, some (.tx e.1), some (.tx e.2), none] → EvD K (tCall (spD K pStripPair) [] E0 (tCons (tVar 2) (tCons (tVar 3) tNil))) σ' H' (eD (stripE e)) := fun e he σ' H' o S' =>
      ev_call (eva_cons (ev_var S' rfl) (eva_cons (ev_var S' rfl) eva_nil)) ⟨e.1, e.2, rfl, (hy.2 e he).2.2.1, (hy.2 e he).2.2.2, rfl⟩
    have fin : ∀ (D0 : Ends) (σ1 : L2.St) (a : Addr) (vs1 : List V) (H1 : Hp) (o : SD), H1 a = some (.lst vs1) → RL K H1 vs1 (y.map fun e => eD (stripE e)) → Sl K H1 σ1 [o, some (.raw (.ref a)), none, none, none] → (∀ v H', Same H1 H' → R K H' v (sysD (strip y)) → D0.rt v H') →
        tRet (tCB (cTupOf K) (tCons (tLc (iList K (tVar 1)) (gName 4) (tTest (tOp (rNeD K) (tVar 4) (tTup (tCons (tC (.str (Str.ofString ""))) (tCons (tC (.str (Str.ofString ""))) tNil))))) (tVar 4) [4]) tNil)) D0 σ1 H1 := fun D0 σ1 a vs1 H1 o ha hr1 S1 qq => by
      refine st_ret (EvD.to (ev_tupOf (el_lc (xs := y.map stripE) (enc := eD) (f := eD) (p := fun e => !decide (e = ([], []))) (fs := fun e ss => ss.set 4 (some (eD e))) S1 (it_lstR (ev_var S1 rfl) (SqL.of ha) ?_) ?_ ?_ ?_)) rfl) qq
      · rw [List.map_map]
        exact hr1
      · exact fun e _ => go_name 4
      · rw [List.length_map]
        have := hy.1
        omega
      · intro e he σ' H' x S'
        refine ⟨?_, fun _ => ev_var S' rfl⟩
        obtain ⟨e0, he0, rfl⟩ := List.mem_map.mp he
        have hk := strip1_ok (hy.2 e0 he0).1 (hy.2 e0 he0).2.1
        refine (et_test (ev_neT (a := [(stripE e0).1, (stripE e0).2]) (b := [[], []]) (ev_var S' rfl) (EvD.to (ev_tup (eva_cons ev_str (eva_cons ev_str eva_nil)) (by show 2 ≤ sizeLine; decide)) rfl) ?_ ?_)).to ?_
        · intro m hm
          rcases List.mem_cons.mp hm with rfl | hm
          · exact hk.1.asc
          · rcases List.mem_cons.mp hm with rfl | hm
            · exact hk.2.1.asc
            · cases hm
        · intro m hm
          have : m = [] := by simpa using hm
          subst this
          exact fun c hc => nomatch hc
        · congr 1
          generalize stripE e0 = z
          obtain ⟨z1, z2⟩ := z
          simp
    rcases h with h | ⟨a, xs, rfl, ha, hx⟩
    · have S0 : Sl K H (start ["equations", "pairs", "left", "right", "pair"] vs) [some (sysD y), none, none, none, none] := Sl.start h
      refine ⟨_, (pss_cons (ps_setLc (i := 1) (own := [("left", 2), ("right", 3)]) (g := gTup K 2 (gCons (gName 2) (gCons (gName 3) (gNil)))) (by rfl) sc_stripped.nd rfl rfl (sw_true rfl rfl rfl (by decide +kernel)) (pi_tup (pv 0)) (blkOk_by (own := [("left", 2), ("right", 3)]) (N := ["equations", "pairs", "left", "right", "pair"]) (sc := defScope s_stripped) (by decide +kernel)) (fun _ _ _ _ _ => pg_tup rfl (pgs_cons (pg_name (i := 2) sc_stripped.nd rfl (Or.inl rfl)) (pgs_cons (pg_name (i := 3) sc_stripped.nd rfl (Or.inl rfl)) (pgs_nil)))) (fun _ _ _ _ _ => pts_nil) (fun _ _ _ _ _ => (pe_cal C_stripped_pair (hr.mono (by decide)) (by rfl) (pa_cons (pv 2) (pa_cons (pv 3) pa_nil)))))
    (pss_one (ps_ret (pe_callTy (call_tupOfK (K := K)) (by rfl) T.ztuple (by decide +kernel) (pa_cons (pe_lc (own := [("pair", 4)]) (g := gName 4) (by rfl) sc_stripped.nd (pi_list (pv 1)) (blkOk_by (own := [("pair", 4)]) (N := ["equations", "pairs", "left", "right", "pair"]) (sc := defScope s_stripped) (by decide +kernel)) (fun _ _ _ _ _ => pg_name (i := 4) sc_stripped.nd rfl (Or.inl rfl)) (fun _ _ _ _ _ => pts_one (pt_cmpR (op_neDK (K := K) hr) (pv 4) (pe_tup (pa_cons pe_str (pa_cons pe_str pa_nil))) (nomark _))) (fun _ _ _ _ _ => (pv 4))) pa_nil))))), ?_⟩
      refine st_setL S0 (el_map (xs := y) (enc := eD) (f := fun e => eD (stripE e)) (fs := fun e ss => (ss.set 2 (some (.tx e.1))).set 3 (some (.tx e.2))) S0 (it_tup (ev_var S0 rfl)).same (fun e _ => go_pair) (by have := hy.1; omega) fun e he σ' H' x S' => step e he σ' H' _ S') fun σ1 a1 vs1 H1 x1 na ea ra S1 => ?_
      exact fin _ σ1 a1 vs1 H1 _ ea ra S1 fun v H' x r => q v H' (x1.trans x) r
    · have S0 : Sl K H (start ["equations", "pairs", "left", "right", "pair"] [.ref a]) [some (.raw (.ref a)), none, none, none, none] := Sl.start (.one (.raw _))
      refine ⟨_, (pss_cons (ps_setLc (i := 1) (own := [("left", 2), ("right", 3)]) (g := gTup K 2 (gCons (gName 2) (gCons (gName 3) (gNil)))) (by rfl) sc_stripped.nd rfl rfl (sw_true rfl rfl rfl (by decide +kernel)) (pi_list (pv 0)) (blkOk_by (own := [("left", 2), ("right", 3)]) (N := ["equations", "pairs", "left", "right", "pair"]) (sc := defScope s_stripped) (by decide +kernel)) (fun _ _ _ _ _ => pg_tup rfl (pgs_cons (pg_name (i := 2) sc_stripped.nd rfl (Or.inl rfl)) (pgs_cons (pg_name (i := 3) sc_stripped.nd rfl (Or.inl rfl)) (pgs_nil)))) (fun _ _ _ _ _ => pts_nil) (fun _ _ _ _ _ => (pe_cal C_stripped_pair (hr.mono (by decide)) (by rfl) (pa_cons (pv 2) (pa_cons (pv 3) pa_nil)))))
    (pss_one (ps_ret (pe_callTy (call_tupOfK (K := K)) (by rfl) T.ztuple (by decide +kernel) (pa_cons (pe_lc (own := [("pair", 4)]) (g := gName 4) (by rfl) sc_stripped.nd (pi_list (pv 1)) (blkOk_by (own := [("pair", 4)]) (N := ["equations", "pairs", "left", "right", "pair"]) (sc := defScope s_stripped) (by decide +kernel)) (fun _ _ _ _ _ => pg_name (i := 4) sc_stripped.nd rfl (Or.inl rfl)) (fun _ _ _ _ _ => pts_one (pt_cmpR (op_neDK (K := K) hr) (pv 4) (pe_tup (pa_cons pe_str (pa_cons pe_str pa_nil))) (nomark _))) (fun _ _ _ _ _ => (pv 4))) pa_nil))))), ?_⟩
      refine st_setL S0 (el_map (xs := y) (enc := eD) (f := fun e => eD (stripE e)) (fs := fun e ss => (ss.set 2 (some (.tx e.1))).set 3 (some (.tx e.2))) S0 (it_lstR (ev_var S0 rfl) ha hx) (fun e _ => go_pair) (by have := hy.1; omega) fun e he σ' H' x S' => step e he σ' H' _ S') fun σ1 a1 vs1 H1 x1 na ea ra S1 => ?_
      exact fin _ σ1 a1 vs1 H1 _ ea ra S1 fun v H' x r => q v H' (x1.trans x) r
end
end GW

set_option Elab.async false
set_option linter.all false
set_option maxRecDepth 100000
set_option maxHeartbeats 4000000
namespace GW
open PySem PySem.Spec L2 TL
/-! ### steps -/
inductive Step where
  | none (x : Nat) | sign (x a : Nat) | over (x y : Nat)
  deriving DecidableEq
def kN : List Nat := tl (Str.ofString "none")
def kS : List Nat := tl (Str.ofString "sign")
def kO : List Nat := tl (Str.ofString "over")
theorem kN_eq : kN = [110, 111, 110, 101] := by
  unfold kN
  rw [tl_ofString]
  decide
theorem kS_eq : kS = [115, 105, 103, 110] := by
  unfold kS
  rw [tl_ofString]
  decide
theorem kO_eq : kO = [111, 118, 101, 114] := by
  unfold kO
  rw [tl_ofString]
  decide
def Step.ws : Step → List (List Nat)
  | .none x => [kN, [x]]
  | .sign x a => [kS, [x], [a]]
  | .over x y => [kO, [x], [y]]
def Step.x : Step → Nat
  | .none x => x
  | .sign x _ => x
  | .over x _ => x
def Step.kind : Step → List Nat
  | .none _ => kN
  | .sign _ _ => kS
  | .over _ _ => kO
theorem ws0 (t : Step) : t.ws[0]? = some t.kind := by cases t <;> rfl
theorem ws1 (t : Step) : t.ws[1]? = some [t.x] := by cases t <;> rfl
theorem ws_inj {a b : Step} : a.ws = b.ws ↔ a = b := by
  refine ⟨fun h => ?_, fun h => by rw [h]⟩
  cases a <;> cases b <;> simp [Step.ws, kN_eq, kS_eq, kO_eq] at h <;> simp [h]
def stepD (t : Step) : D := stD t.ws
/-- what a step tells that its unknown's word begins with -/
def ahead (nm : List Nat) (t : Step) (ws : List (List Nat)) : List Nat := match t with
  | .none _ => []
  | .sign _ a => [a]
  | .over _ y => ws.getD (nm.idxOf y) []
/-- of the room behind to the room ahead -/
def ledW (nm : List Nat) (t : Step) (ws : List (List Nat)) : List (List Nat) := match t with
  | .none x => ws.take (nm.idxOf x) ++ [[]] ++ ws.drop (nm.idxOf x)
  | t => ws.take (nm.idxOf t.x) ++ [ahead nm t ws ++ ws.getD (nm.idxOf t.x) []] ++ ws.drop (nm.idxOf t.x + 1)
def onW (nm : List Nat) (t : Step) (ws : List (List Nat)) : Option (List (List Nat)) := match t with
  | .none x => if ws.getD (nm.idxOf x) [] = [] then some (ws.take (nm.idxOf x) ++ ws.drop (nm.idxOf x + 1)) else none
  | t => if (ws.getD (nm.idxOf t.x) []).take (ahead nm t ws).length = ahead nm t ws then
      some (ws.take (nm.idxOf t.x) ++ [(ws.getD (nm.idxOf t.x) []).drop (ahead nm t ws).length] ++ ws.drop (nm.idxOf t.x + 1)) else none
/-- a step of these names -/
def Of (nm : List Nat) : Step → Prop
  | .none x => x ∈ nm
  | .sign x _ => x ∈ nm
  | .over x y => x ∈ nm ∧ y ∈ nm
theorem Of.x {nm : List Nat} {t : Step} (h : Of nm t) : t.x ∈ nm := by
  cases t with
  | none x => exact h
  | sign x a => exact h
  | over x y => exact h.1
/-- words that are not long -/
def Ws (n : Nat) (ws : List (List Nat)) : Prop := ws.length = n ∧ n ≤ 100 ∧ ∀ w ∈ ws, w.length ≤ 1000
section
variable {P : Program} {w : World} {K : PySem.W.Frag} {mg : Str → Option Value} {base : Heap} {tS tU tE tL tN : Tok}
def pFirst (ds : List D) (d : D) : Prop := ∃ s, ds = [sysD s] ∧ Sm s ∧ Ok s ∧ d = roomD (names s, strip s)
theorem ev_stripped {ta : TE} {σ : L2.St} {H : Hp} {y : Sys} (h : EvD K ta σ H (sysD y)) (hy : Ok y) : EvD K (tCall (spStripped K) [] E0 (tCons ta tNil)) σ H (sysD (strip y)) := fun H1 x Q q => h H1 x _ fun v H2 x2 r =>
  ⟨y, hy, .inl (.one r), fun v H3 x3 r3 => q v H3 (x2.trans x3) r3⟩
theorem ev_strippedL {ta : TE} {σ : L2.St} {H : Hp} {y : Sys} {a : Addr} {xs : List V} (h : EvD K ta σ H (.raw (.ref a))) (ha : SqL K H a xs) (hx : RL K H xs (y.map eD)) (hy : Ok y) : EvD K (tCall (spStripped K) [] E0 (tCons ta tNil)) σ H (sysD (strip y)) := fun H1 x Q q => h H1 x _ fun v H2 x2 r => by
  cases r
  exact ⟨y, hy, .inr ⟨a, xs, rfl, (x.trans x2).seq ha, hx.mono (Tp.of (x.trans x2))⟩, fun v H3 x3 r3 => q v H3 (x2.trans x3) r3⟩
theorem ok_first_room {f : Addr} {fd : FuncData} (F : Fun K "first_room" "first_room" s_first_room f fd) (C_names_of : Cal P w K mg base 2 "names_of" ["system"] (spD K pNames)) (C_stripped : Cal P w K mg base 2 "stripped" ["equations"] (spStripped K)) : FnOk P w K mg base CX0 3 f fd ["system"] (spD K pFirst) := by
  refine F.ok sc_first_room (fun vs H Q E h => ?_) (fun cdv A outer s H vs Q E hr h => ?_)
  · obtain ⟨ds, d, r, ⟨_, rfl, _⟩, _⟩ := h
    exact r.len
  · obtain ⟨ds, d, r, ⟨y, rfl, h1, h2, rfl⟩, q⟩ := h
    have S0 : Sl K H (start ["system"] vs) [some (sysD y)] := Sl.start r
    refine ⟨_, (pss_one (ps_ret (pe_tup (pa_cons (pe_cal C_names_of (hr.mono (by decide)) (by rfl) (pa_cons (pv 0) pa_nil)) (pa_cons (pe_cal C_stripped (hr.mono (by decide)) (by rfl) (pa_cons (pv 0) pa_nil)) pa_nil))))), ?_⟩
    exact st_ret (ev_tup (eva_cons (ev_call (P := pNames) (eva_cons (ev_var S0 rfl) eva_nil) ⟨y, rfl, h1, rfl⟩) (eva_cons (ev_stripped (ev_var S0 rfl) h2) eva_nil)) (by show 2 ≤ sizeLine; decide)) q
def pEnded (ds : List D) (d : D) : Prop := ∃ r : Room', ds = [roomD r] ∧ d = .bl (decide (r.2 = []))
theorem ok_is_ended {f : Addr} {fd : FuncData} {k : Nat} (F : Fun K "is_ended" "is_ended" s_is_ended f fd) (T : Txt mg tS tU tE tL tN) : FnOk P w K mg base CX0 (k + 1) f fd ["room"] (spD K pEnded) := by
  refine F.ok sc_is_ended (fun vs H Q E h => ?_) (fun cdv A outer s H vs Q E hr h => ?_)
  · obtain ⟨ds, d, r, ⟨_, rfl, _⟩, _⟩ := h
    exact r.len
  · obtain ⟨ds, d, rr, ⟨r, rfl, rfl⟩, q⟩ := h
    have S0 : Sl K H (start ["room"] vs) [some (.tup [.tx r.1, .tup (r.2.map eD)])] := Sl.start rr
    refine ⟨_, (pss_one (ps_ret (pe_cmpR op_eq (pe_callB (call_lenQK (K := K)) (by rfl) T.zlen PySem.boot_len (pa_cons (pe_ix (ix_tupK (K := K)) (pv 0) pe_int (fun _ _ => rfl)) pa_nil)) pe_int (nomark _)))), ?_⟩
    refine st_ret (EvD.to (ev_eqI (ev_lenT (ds := r.2.map eD) (ev_ixT (n := 1) (ev_var S0 rfl) ev_int rfl rfl)) ev_int) ?_) q
    rw [List.length_map]
    cases r.2 with
    | nil => rfl
    | cons e es =>
      congr 1
def pDeadPair (ds : List D) (d : D) : Prop := ∃ e : Eqn, ds = [.tx e.1, .tx e.2] ∧ e.1.length ≤ 1000 ∧ e.2.length ≤ 1000 ∧ d = .bl (deadP e)
theorem ok_is_dead_pair {f : Addr} {fd : FuncData} {k : Nat} (F : Fun K "is_dead_pair" "is_dead_pair" s_is_dead_pair f fd) (T : Txt mg tS tU tE tL tN) : FnOk P w K mg base CX0 (k + 1) f fd ["left", "right"] (spD K pDeadPair) := by
  refine F.ok sc_is_dead_pair (fun vs H Q E h => ?_) (fun cdv A outer s H vs Q E hr h => ?_)
  · obtain ⟨ds, d, r, ⟨_, rfl, _⟩, _⟩ := h
    exact r.len
  · obtain ⟨ds, d, rr, ⟨⟨l, r⟩, rfl, h1, h2, rfl⟩, q⟩ := h
    have S0 : Sl K H (start ["left", "right", "letter"] vs) [some (.tx l), some (.tx r), none] := Sl.start rr
    refine ⟨_, (pss_cons (ps_if (PW.pt (pw_and (pt_cmpR op_ne (pv 0) pe_str (nomark _)) (pw_and1 (pt_cmpR op_ne (pv 1) pe_str (nomark _)))))
    (pss_one (ps_ret (pe_and (pe_cmpR op_inS (pe_ix ix_str (pv 0) pe_int (fun _ _ => rfl)) (pe_glob (by rfl) T.mSIGNS (relS _ _)) rfl) (pe_one (pe_cmpR op_inS (pe_ix ix_str (pv 1) pe_int (fun _ _ => rfl)) (pe_glob (by rfl) T.mSIGNS (relS _ _)) rfl)))))
    pss_nil)
    (pss_one (ps_ret (pe_callB (cr_anyK (K := K) rfl) (by rfl) T.zany (by decide +kernel) (pa_cons (pe_lc (own := [("letter", 2)]) (g := gName 2) (by rfl) sc_is_dead_pair.nd (pi_str (pe_op op_addS (pv 0) (pv 1))) (blkOk_by (own := [("letter", 2)]) (N := ["left", "right", "letter"]) (sc := defScope s_is_dead_pair) (by decide +kernel)) (fun _ _ _ _ _ => pg_name (i := 2) sc_is_dead_pair.nd rfl (Or.inl rfl)) (fun _ _ _ _ _ => pts_nil) (fun _ _ _ _ _ => (pe_cmpR op_inS (pv 2) (pe_glob (by rfl) T.mSIGNS (relS _ _)) rfl))) pa_nil))))), ?_⟩
    refine st_if ((et_and (et_test (ev_neS (ev_var S0 rfl) ev_str)) fun _ => et_test (ev_neS (ev_var S0 rfl) ev_str)).to (c := decide (l ≠ [] ∧ r ≠ [])) ?_) (fun hb H1 x1 => ?_) (fun hb H1 x1 => ?_)
    · show (!decide (l = []) && !decide (r = [])) = _
      cases l <;> cases r <;> simp
    · have S1 := S0.mono (Tp.of (K := K) x1)
      obtain ⟨hl, hr2⟩ := of_decide_eq_true hb
      obtain ⟨x, l, rfl⟩ : ∃ x t, l = x :: t := by
        cases l with
        | nil => exact absurd rfl hl
        | cons x t => exact ⟨x, t, rfl⟩
      obtain ⟨y, r, rfl⟩ : ∃ x t, r = x :: t := by
        cases r with
        | nil => exact absurd rfl hr2
        | cons x t => exact ⟨x, t, rfl⟩
      dsimp only at h1 h2
      refine st_ret (ev_andV (ev_inS (ev_ixS (n := 0) (ev_var S1 rfl) ev_int rfl rfl (line_ge (by omega))) (ev_c .str)) fun _ => ev_inS (ev_ixS (n := 0) (ev_var S1 rfl) ev_int rfl rfl (line_ge (by omega))) (ev_c .str)) ?_
      exact fun v H4 x4 r4 => q v H4 (x1.trans x4) r4
    · have S1 := S0.mono (Tp.of (K := K) x1)
      dsimp only at h1 h2
      refine st_ret (EvD.to (e := .bl (deadP (l, r))) (ev_anyB (bs := (l ++ r).map fun c => decide (c ∈ sgs)) (EvL.to (el_map (xs := l ++ r) (enc := fun c => .tx [c]) (f := fun c => .bl (decide (c ∈ sgs))) (fs := fun c ss => ss.set 2 (some (.tx [c]))) S1 (it_str (ev_addS (ev_var S1 rfl) (ev_var S1 rfl) (line_ge (by omega)))).same ?_ ?_ ?_) ?_)) ?_) ?_
      · exact fun c _ => go_name 2
      · rw [List.length_append]
        omega
      · intro c hc σ' H' x S'
        exact ev_inS (ev_var S' rfl) (ev_c .str)
      · rw [List.map_map]
        rfl
      · have e : ∀ z : List Nat, (z.map fun c => decide (c ∈ sgs)).any id = z.any fun c => decide (c ∈ sgs) := fun z => by
          rw [List.any_map]
          rfl
        rw [e]
        cases l with
        | nil => rfl
        | cons x l =>
          cases r with
          | nil => rfl
          | cons y r => simp at hb
      · exact fun v H4 x4 r4 => q v H4 (x1.trans x4) r4
def pDead (ds : List D) (d : D) : Prop := ∃ r : Room', ds = [roomD r] ∧ Ok r.2 ∧ d = .bl (dead r.2)
theorem ok_is_dead {f : Addr} {fd : FuncData} (F : Fun K "is_dead" "is_dead" s_is_dead f fd) (T : Txt mg tS tU tE tL tN) (C_is_dead_pair : Cal P w K mg base 1 "is_dead_pair" ["left", "right"] (spD K pDeadPair)) : FnOk P w K mg base CX0 2 f fd ["room"] (spD K pDead) := by
  refine F.ok sc_is_dead (fun vs H Q E h => ?_) (fun cdv A outer s H vs Q E hr h => ?_)
  · obtain ⟨ds, d, r, ⟨_, rfl, _⟩, _⟩ := h
    exact r.len
  · obtain ⟨ds, d, rr, ⟨r, rfl, h1, rfl⟩, q⟩ := h
    have S0 : Sl K H (start ["room", "left", "right"] vs) [some (.tup [.tx r.1, .tup (r.2.map eD)]), none, none] := Sl.start rr
    refine ⟨_, (pss_one (ps_ret (pe_callB (cr_anyK (K := K) rfl) (by rfl) T.zany (by decide +kernel) (pa_cons (pe_lc (own := [("left", 1), ("right", 2)]) (g := gTup K 2 (gCons (gName 1) (gCons (gName 2) (gNil)))) (by rfl) sc_is_dead.nd (pi_tup (pe_ix (ix_tupK (K := K)) (pv 0) pe_int (fun _ _ => rfl))) (blkOk_by (own := [("left", 1), ("right", 2)]) (N := ["room", "left", "right"]) (sc := defScope s_is_dead) (by decide +kernel)) (fun _ _ _ _ _ => pg_tup rfl (pgs_cons (pg_name (i := 1) sc_is_dead.nd rfl (Or.inl rfl)) (pgs_cons (pg_name (i := 2) sc_is_dead.nd rfl (Or.inl rfl)) (pgs_nil)))) (fun _ _ _ _ _ => pts_nil) (fun _ _ _ _ _ => (pe_cal C_is_dead_pair (hr.mono (by decide)) (by rfl) (pa_cons (pv 1) (pa_cons (pv 2) pa_nil))))) pa_nil)))), ?_⟩
    refine st_ret (EvD.to (ev_anyB (bs := r.2.map deadP) (EvL.to (el_map (xs := r.2) (enc := eD) (f := fun e => .bl (deadP e)) (fs := fun e ss => (ss.set 1 (some (.tx e.1))).set 2 (some (.tx e.2))) S0 (it_tup (ev_ixT (n := 1) (ev_var S0 rfl) ev_int rfl rfl)).same ?_ ?_ ?_) ?_)) ?_) q
    · exact fun e _ => go_pair
    · have := h1.1
      omega
    · intro e he σ' H' x S'
      exact ev_call (P := pDeadPair) (eva_cons (ev_var S' rfl) (eva_cons (ev_var S' rfl) eva_nil)) ⟨e, rfl, (h1.2 e he).2.2.1, (h1.2 e he).2.2.2, rfl⟩
    · rw [List.map_map]
      rfl
    · rw [List.any_map]
      rfl
/-! ahead_of, led, onward -/
theorem st_at {ws : List (List Nat)} {n : Nat} (h : n < ws.length) : (ws.map D.tx)[n]? = some (.tx (ws.getD n [])) := by
  rw [List.getElem?_map, List.getD_eq_getElem?_getD, List.getElem?_eq_getElem h]
  rfl
theorem getD_mem {ws : List (List Nat)} {n : Nat} (h : n < ws.length) : ws.getD n [] ∈ ws := by
  rw [List.getD_eq_getElem?_getD, List.getElem?_eq_getElem h]
  exact List.getElem_mem h
def pAhead (ds : List D) (d : D) : Prop := ∃ nm t ws, ds = [.tx nm, stepD t, stD ws] ∧ (match t with | .none _ => False | .sign _ _ => True | .over _ y => y ∈ nm ∧ nm.length ≤ ws.length) ∧ d = .tx (ahead nm t ws)
theorem ok_ahead_of {f : Addr} {fd : FuncData} {k : Nat} (F : Fun K "ahead_of" "ahead_of" s_ahead_of f fd) : FnOk P w K mg base CX0 (k + 1) f fd ["names", "step", "words"] (spD K pAhead) := by
  refine F.ok sc_ahead_of (fun vs H Q E h => ?_) (fun cdv A outer s H vs Q E hr h => ?_)
  · obtain ⟨ds, d, r, ⟨_, _, _, rfl, _⟩, _⟩ := h
    exact r.len
  · obtain ⟨ds, d, rr, ⟨nm, t, ws, rfl, ht, rfl⟩, q⟩ := h
    have S0 : Sl K H (start ["names", "step", "words"] vs) [some (.tx nm), some (.tup (t.ws.map D.tx)), some (.tup (ws.map D.tx))] := Sl.start rr
    refine ⟨_, (pss_cons (ps_if (pt_cmpR op_eq (pe_ix (ix_tupK (K := K)) (pv 1) pe_int (fun _ _ => rfl)) pe_str (nomark _))
    (pss_one (ps_ret (pe_ix (ix_tupK (K := K)) (pv 1) pe_int (fun _ _ => rfl))))
    pss_nil)
    (pss_one (ps_ret (pe_ix (ix_tupK (K := K)) (pv 2) (pe_m1 PySem.F.slot_str_index PySem.F.type_str_index mt_indexS (pv 0) (pe_ix (ix_tupK (K := K)) (pv 1) pe_int (fun _ _ => rfl))) (fun _ _ => rfl))))), ?_⟩
    have hk : (t.ws.map D.tx)[0]? = some (.tx t.kind) := by
      rw [List.getElem?_map, ws0]
      rfl
    refine st_if (et_test (ev_eqS (ev_ixT (n := 0) (ev_var S0 rfl) ev_int rfl hk) ev_str)) (fun hb H1 x1 => ?_) (fun hb H1 x1 => ?_)
    · have S1 := S0.mono (Tp.of (K := K) x1)
      cases t with
      | none x => exact ht.elim
      | sign x a =>
        refine st_ret (ev_ixT (n := 2) (d := .tx [a]) (ev_var S1 rfl) ev_int rfl rfl) ?_
        exact fun v H4 x4 r4 => q v H4 (x1.trans x4) r4
      | over x y =>
        have hb := of_decide_eq_true hb
        have hb : kO = kS := hb
        rw [kO_eq, kS_eq] at hb
        cases hb
    · have S1 := S0.mono (Tp.of (K := K) x1)
      cases t with
      | none x => exact ht.elim
      | sign x a => exact absurd rfl (of_decide_eq_false hb)
      | over x y =>
        obtain ⟨hy, hw⟩ := ht
        have hi := List.idxOf_lt_length_of_mem hy
        refine st_ret (ev_ixT (n := nm.idxOf y) (ev_var S1 rfl) (ev_index (ev_var S1 rfl) (ev_ixT (n := 2) (d := .tx [y]) (ev_var S1 rfl) ev_int rfl rfl) hy) rfl (st_at (by omega))) ?_
        exact fun v H4 x4 r4 => q v H4 (x1.trans x4) r4
theorem ev_cutW {ws : List (List Nat)} {te : TE} {σ : L2.St} {H : Hp} {n : Nat} {t1 : TO} (h : EvD K te σ H (stD ws)) (h1 : EvO t1 σ H (some (n : Int))) (hn : n ≤ ws.length) : EvD K (tSl (rSlA K) te tNoPart t1) σ H (stD (ws.take n)) := by
  refine ev_slT h evo_none h1 ?_
  rw [cutD_to (by rw [List.length_map]; exact hn), List.map_take]
theorem ev_cutW2 {ws : List (List Nat)} {te : TE} {σ : L2.St} {H : Hp} {n : Nat} {t1 : TO} (h : EvD K te σ H (stD ws)) (h1 : EvO t1 σ H (some (n : Int))) (hn : n ≤ ws.length) : EvD K (tSl (rSlA K) te t1 tNoPart) σ H (stD (ws.drop n)) := by
  refine ev_slT h h1 evo_none ?_
  rw [cutD_from (by rw [List.length_map]; exact hn), List.map_drop]
theorem ev_catW {a b : List (List Nat)} {ta tb : TE} {σ : L2.St} {H : Hp} (h1 : EvD K ta σ H (stD a)) (h2 : EvD K tb σ H (stD b)) (hl : a.length + b.length ≤ 1000) : EvD K (tOp (rCatA K) ta tb) σ H (stD (a ++ b)) := by
  refine EvD.to (ev_catT h1 h2 ?_) ?_
  · rw [List.length_map, List.length_map]
    exact line_ge (by omega)
  · unfold stD
    rw [List.map_append]
theorem ev_oneW {a : List Nat} {ta : TE} {σ : L2.St} {H : Hp} (h1 : EvD K ta σ H (.tx a)) : EvD K (tTup (tCons ta tNil)) σ H (stD [a]) := ev_tup (eva_cons h1 eva_nil) (by show 1 ≤ sizeLine; decide)
/-- led: for a step of the room's names; the filling of the room behind -/
def pLed (ds : List D) (d : D) : Prop := ∃ (r : Room') (t : Step) (ws : List (List Nat)), ds = [roomD r, stepD t, stD ws] ∧ Of r.1 t ∧ (match t with | .none _ => ws.length + 1 = r.1.length | _ => ws.length = r.1.length) ∧ r.1.length ≤ 100 ∧ (∀ w ∈ ws, w.length ≤ 1000) ∧ d = stD (ledW r.1 t ws)
theorem ok_led {f : Addr} {fd : FuncData} (F : Fun K "led" "led" s_led f fd) (C_ahead_of : Cal P w K mg base 1 "ahead_of" ["names", "step", "words"] (spD K pAhead)) : FnOk P w K mg base CX0 2 f fd ["room", "step", "words"] (spD K pLed) := by
  refine F.ok sc_led (fun vs H Q E h => ?_) (fun cdv A outer s H vs Q E hr h => ?_)
  · obtain ⟨ds, d, r, ⟨_, _, _, rfl, _⟩, _⟩ := h
    exact r.len
  · obtain ⟨ds, d, rr, ⟨r, t, ws, rfl, hof, hlen, hn, hw, rfl⟩, q⟩ := h
    have S0 : Sl K H (start ["room", "step", "words", "at"] vs) [some (.tup [.tx r.1, sysD r.2]), some (.tup (t.ws.map D.tx)), some (stD ws), none] := Sl.start rr
    refine ⟨_, (pss_cons (ps_set (i := 3) sc_led.nd rfl (.inl rfl) (pe_m1 PySem.F.slot_str_index PySem.F.type_str_index mt_indexS (pe_ix (ix_tupK (K := K)) (pv 0) pe_int (fun _ _ => rfl)) (pe_ix (ix_tupK (K := K)) (pv 1) pe_int (fun _ _ => rfl))))
    (pss_cons (ps_if (pt_cmpR op_eq (pe_ix (ix_tupK (K := K)) (pv 1) pe_int (fun _ _ => rfl)) pe_str (nomark _))
    (pss_one (ps_ret (pe_op (op_catK (K := K)) (pe_op (op_catK (K := K)) (pe_slice (sl_tupK (K := K)) (pv 2) po_none (po_some (pv 3))) (pe_tup (pa_cons pe_str pa_nil))) (pe_slice (sl_tupK (K := K)) (pv 2) (po_some (pv 3)) po_none))))
    pss_nil)
    (pss_one (ps_ret (pe_op (op_catK (K := K)) (pe_op (op_catK (K := K)) (pe_slice (sl_tupK (K := K)) (pv 2) po_none (po_some (pv 3))) (pe_tup (pa_cons (pe_op op_addS (pe_cal C_ahead_of (hr.mono (by decide)) (by rfl) (pa_cons (pe_ix (ix_tupK (K := K)) (pv 0) pe_int (fun _ _ => rfl)) (pa_cons (pv 1) (pa_cons (pv 2) pa_nil)))) (pe_ix (ix_tupK (K := K)) (pv 2) (pv 3) (fun _ _ => rfl))) pa_nil))) (pe_slice (sl_tupK (K := K)) (pv 2) (po_some (pe_op op_add (pv 3) pe_int)) po_none)))))), ?_⟩
    have hk : (t.ws.map D.tx)[0]? = some (.tx t.kind) := by
      rw [List.getElem?_map, ws0]
      rfl
    have hk1 : (t.ws.map D.tx)[1]? = some (.tx [t.x]) := by
      rw [List.getElem?_map, ws1]
      rfl
    have hi := List.idxOf_lt_length_of_mem hof.x
    refine st_set S0 (ev_index (ev_ixT (n := 0) (d := .tx r.1) (ev_var S0 rfl) ev_int rfl rfl) (ev_ixT (n := 1) (ev_var S0 rfl) ev_int rfl hk1) hof.x) fun σ1 H1 x1 S1 => ?_
    refine st_if (et_test (ev_eqS (ev_ixT (n := 0) (ev_var S1 rfl) ev_int rfl hk) ev_str)) (fun hb H2 x2 => ?_) (fun hb H2 x2 => ?_)
    · have S2 := S1.mono (Tp.of (K := K) x2)
      have hb : t.kind = kN := of_decide_eq_true hb
      cases t with
      | none x =>
        have hlen : ws.length + 1 = r.1.length := hlen
        have hi : r.1.idxOf x < r.1.length := hi
        refine st_ret (ev_catW (ev_catW (ev_cutW (ev_var S2 rfl) (evo_some (ev_var S2 rfl)) (by omega)) (ev_oneW ev_str) ?_) (ev_cutW2 (ev_var S2 rfl) (evo_some (ev_var S2 rfl)) (by omega)) ?_) ?_
        · rw [List.length_take]
          show _ + 1 ≤ _
          omega
        · rw [List.length_append, List.length_take, List.length_drop]
          show _ + 1 + _ ≤ _
          omega
        · exact fun v H4 x4 r4 => q v H4 ((x1.trans x2).trans x4) r4
      | sign x a =>
        have hb : kS = kN := hb
        rw [kS_eq, kN_eq] at hb
        cases hb
      | over x y =>
        have hb : kO = kN := hb
        rw [kO_eq, kN_eq] at hb
        cases hb
    · have S2 := S1.mono (Tp.of (K := K) x2)
      have hne : t.kind ≠ kN := of_decide_eq_false hb
      have hwl : ws.length = r.1.length := by
        cases t with
        | none x => exact absurd rfl hne
        | sign x a => exact hlen
        | over x y => exact hlen
      have ha : (ahead r.1 t ws).length ≤ 1000 := by
        cases t with
        | none x => exact absurd rfl hne
        | sign x a => show [a].length ≤ 1000; simp
        | over x y => exact hw _ (getD_mem (by have := List.idxOf_lt_length_of_mem hof.2; omega))
      have hlw : ledW r.1 t ws = ws.take (r.1.idxOf t.x) ++ [ahead r.1 t ws ++ ws.getD (r.1.idxOf t.x) []] ++ ws.drop (r.1.idxOf t.x + 1) := by
        cases t with
        | none x => exact absurd rfl hne
        | sign x a => rfl
        | over x y => rfl
      have hgw : (ws.getD (r.1.idxOf t.x) []).length ≤ 1000 := hw _ (getD_mem (by omega))
      refine st_ret (ev_catW (ev_catW (ev_cutW (ev_var S2 rfl) (evo_some (ev_var S2 rfl)) (by omega)) (ev_oneW (ev_addS (ev_call (P := pAhead) (eva_cons (ev_ixT (n := 0) (d := .tx r.1) (ev_var S2 rfl) ev_int rfl rfl) (eva_cons (ev_var S2 rfl) (eva_cons (ev_var S2 rfl) eva_nil))) ⟨r.1, t, ws, rfl, ?_, rfl⟩) (ev_ixT (n := r.1.idxOf t.x) (ev_var S2 rfl) (ev_var S2 rfl) rfl (st_at (by omega))) (line_ge (by omega)))) ?_) (ev_cutW2 (n := r.1.idxOf t.x + 1) (ev_var S2 rfl) (evo_some (EvD.to (ev_add (ev_var S2 rfl) ev_int) rfl)) (by omega)) ?_) ?_
      · cases t with
        | none x => exact absurd rfl hne
        | sign x a => trivial
        | over x y => exact ⟨hof.2, by omega⟩
      · rw [List.length_take]
        show _ + 1 ≤ _
        omega
      · rw [List.length_append, List.length_take, List.length_drop]
        show _ + 1 + _ ≤ _
        omega
      · intro v H4 x4 r4
        refine q v H4 ((x1.trans x2).trans x4) ?_
        rw [hlw]
        exact r4
def optD : Option (List (List Nat)) → D
  | some ws => stD ws
  | none => .non
def pOn (ds : List D) (d : D) : Prop := ∃ (r : Room') (t : Step) (ws : List (List Nat)), ds = [roomD r, stepD t, stD ws] ∧ Of r.1 t ∧ ws.length = r.1.length ∧ r.1.length ≤ 100 ∧ (∀ w ∈ ws, w.length ≤ 1000) ∧ d = optD (onW r.1 t ws)
theorem ok_onward {f : Addr} {fd : FuncData} (F : Fun K "onward" "onward" s_onward f fd) (T : Txt mg tS tU tE tL tN) (C_ahead_of : Cal P w K mg base 1 "ahead_of" ["names", "step", "words"] (spD K pAhead)) : FnOk P w K mg base CX0 2 f fd ["room", "step", "words"] (spD K pOn) := by
  refine F.ok sc_onward (fun vs H Q E h => ?_) (fun cdv A outer s H vs Q E hr h => ?_)
  · obtain ⟨ds, d, r, ⟨_, _, _, rfl, _⟩, _⟩ := h
    exact r.len
  · obtain ⟨ds, d, rr, ⟨r, t, ws, rfl, hof, hwl, hn, hw, rfl⟩, q⟩ := h
    have S0 : Sl K H (start ["room", "step", "words", "at", "start"] vs) [some (.tup [.tx r.1, sysD r.2]), some (.tup (t.ws.map D.tx)), some (stD ws), none, none] := Sl.start rr
    refine ⟨_, (pss_cons (ps_set (i := 3) sc_onward.nd rfl (.inl rfl) (pe_m1 PySem.F.slot_str_index PySem.F.type_str_index mt_indexS (pe_ix (ix_tupK (K := K)) (pv 0) pe_int (fun _ _ => rfl)) (pe_ix (ix_tupK (K := K)) (pv 1) pe_int (fun _ _ => rfl))))
    (pss_cons (ps_if (pt_cmpR op_eq (pe_ix (ix_tupK (K := K)) (pv 1) pe_int (fun _ _ => rfl)) pe_str (nomark _))
    (pss_cons (ps_if (pt_cmpR op_ne (pe_ix (ix_tupK (K := K)) (pv 2) (pv 3) (fun _ _ => rfl)) pe_str (nomark _))
    (pss_one (ps_ret pe_non))
    pss_nil)
    (pss_one (ps_ret (pe_op (op_catK (K := K)) (pe_slice (sl_tupK (K := K)) (pv 2) po_none (po_some (pv 3))) (pe_slice (sl_tupK (K := K)) (pv 2) (po_some (pe_op op_add (pv 3) pe_int)) po_none)))))
    pss_nil)
    (pss_cons (ps_set (i := 4) sc_onward.nd rfl (.inl rfl) (pe_cal C_ahead_of (hr.mono (by decide)) (by rfl) (pa_cons (pe_ix (ix_tupK (K := K)) (pv 0) pe_int (fun _ _ => rfl)) (pa_cons (pv 1) (pa_cons (pv 2) pa_nil)))))
    (pss_cons (ps_if (pt_not (pt_val (pe_m1 PySem.F.slot_str_startswith PySem.F.type_str_startswith mt_startsD (pe_ix (ix_tupK (K := K)) (pv 2) (pv 3) (fun _ _ => rfl)) (pv 4))))
    (pss_one (ps_ret pe_non))
    pss_nil)
    (pss_one (ps_ret (pe_op (op_catK (K := K)) (pe_op (op_catK (K := K)) (pe_slice (sl_tupK (K := K)) (pv 2) po_none (po_some (pv 3))) (pe_tup (pa_cons (pe_slice sl_str (pe_ix (ix_tupK (K := K)) (pv 2) (pv 3) (fun _ _ => rfl)) (po_some (pe_callB call_lenS (by rfl) T.zlen PySem.boot_len (pa_cons (pv 4) pa_nil))) po_none) pa_nil))) (pe_slice (sl_tupK (K := K)) (pv 2) (po_some (pe_op op_add (pv 3) pe_int)) po_none)))))))), ?_⟩
    have hk : (t.ws.map D.tx)[0]? = some (.tx t.kind) := by
      rw [List.getElem?_map, ws0]
      rfl
    have hk1 : (t.ws.map D.tx)[1]? = some (.tx [t.x]) := by
      rw [List.getElem?_map, ws1]
      rfl
    have hi := List.idxOf_lt_length_of_mem hof.x
    have hgw : (ws.getD (r.1.idxOf t.x) []).length ≤ 1000 := hw _ (getD_mem (by omega))
    refine st_set S0 (ev_index (ev_ixT (n := 0) (d := .tx r.1) (ev_var S0 rfl) ev_int rfl rfl) (ev_ixT (n := 1) (ev_var S0 rfl) ev_int rfl hk1) hof.x) fun σ1 H1 x1 S1 => ?_
    refine st_if (et_test (ev_eqS (ev_ixT (n := 0) (ev_var S1 rfl) ev_int rfl hk) ev_str)) (fun hb H2 x2 => ?_) (fun hb H2 x2 => ?_)
    · have S2 := S1.mono (Tp.of (K := K) x2)
      have hb : t.kind = kN := of_decide_eq_true hb
      cases t with
      | none x =>
        have hi : r.1.idxOf x < r.1.length := hi
        refine st_if (et_test (ev_neS (ev_ixT (n := r.1.idxOf x) (ev_var S2 rfl) (ev_var S2 rfl) rfl (st_at (by omega))) ev_str)) (fun hc H3 x3 => ?_) (fun hc H3 x3 => ?_)
        · have hc : (!decide (ws.getD (r.1.idxOf x) [] = [])) = true := hc
          have hno : onW r.1 (.none x) ws = none := if_neg fun z => by
            rw [decide_eq_true z] at hc
            cases hc
          refine st_ret (K := K) ev_non ?_
          intro v H4 x4 r4
          refine q v H4 (((x1.trans x2).trans x3).trans x4) ?_
          rw [hno]
          exact r4
        · have hc : (!decide (ws.getD (r.1.idxOf x) [] = [])) = false := hc
          have hyes : onW r.1 (.none x) ws = some (ws.take (r.1.idxOf x) ++ ws.drop (r.1.idxOf x + 1)) := if_pos (by
            by_cases z : ws.getD (r.1.idxOf x) [] = []
            · exact z
            · rw [decide_eq_false z] at hc
              cases hc)
          have S3 := S2.mono (Tp.of (K := K) x3)
          refine st_ret (ev_catW (ev_cutW (ev_var S3 rfl) (evo_some (ev_var S3 rfl)) (by omega)) (ev_cutW2 (n := r.1.idxOf x + 1) (ev_var S3 rfl) (evo_some (EvD.to (ev_add (ev_var S3 rfl) ev_int) rfl)) (by omega)) ?_) ?_
          · rw [List.length_take, List.length_drop]
            omega
          · intro v H4 x4 r4
            refine q v H4 (((x1.trans x2).trans x3).trans x4) ?_
            rw [hyes]
            exact r4
      | sign x a =>
        have hb : kS = kN := hb
        rw [kS_eq, kN_eq] at hb
        cases hb
      | over x y =>
        have hb : kO = kN := hb
        rw [kO_eq, kN_eq] at hb
        cases hb
    · have S2 := S1.mono (Tp.of (K := K) x2)
      have hne : t.kind ≠ kN := of_decide_eq_false hb
      have ha : (ahead r.1 t ws).length ≤ 1000 := by
        cases t with
        | none x => exact absurd rfl hne
        | sign x a => show [a].length ≤ 1000; simp
        | over x y => exact hw _ (getD_mem (by have := List.idxOf_lt_length_of_mem hof.2; omega))
      have how : onW r.1 t ws = if (ws.getD (r.1.idxOf t.x) []).take (ahead r.1 t ws).length = ahead r.1 t ws then
      some (ws.take (r.1.idxOf t.x) ++ [(ws.getD (r.1.idxOf t.x) []).drop (ahead r.1 t ws).length] ++ ws.drop (r.1.idxOf t.x + 1)) else none := by
        cases t with
        | none x => exact absurd rfl hne
        | sign x a => rfl
        | over x y => rfl
      refine st_set S2 (ev_call (P := pAhead) (eva_cons (ev_ixT (n := 0) (d := .tx r.1) (ev_var S2 rfl) ev_int rfl rfl) (eva_cons (ev_var S2 rfl) (eva_cons (ev_var S2 rfl) eva_nil))) ⟨r.1, t, ws, rfl, ?_, rfl⟩) fun σ3 H3 x3 S3 => ?_
      · cases t with
        | none x => exact absurd rfl hne
        | sign x a => trivial
        | over x y => exact ⟨hof.2, by omega⟩
      · refine st_if (et_not (et_B (ev_starts (ev_ixT (n := r.1.idxOf t.x) (ev_var S3 rfl) (ev_var S3 rfl) rfl (st_at (by omega))) (ev_var S3 rfl)))) (fun hc H4 x4 => ?_) (fun hc H4 x4 => ?_)
        · refine st_ret (K := K) ev_non ?_
          intro v H5 x5 r5
          refine q v H5 ((((x1.trans x2).trans x3).trans x4).trans x5) ?_
          rw [how, if_neg]
          · exact r5
          · intro z
            rw [decide_eq_true z] at hc
            cases hc
        · have S4 := S3.mono (Tp.of (K := K) x4)
          refine st_ret (ev_catW (ev_catW (ev_cutW (ev_var S4 rfl) (evo_some (ev_var S4 rfl)) (by omega)) (ev_oneW (ev_slS (m := (ws.getD (r.1.idxOf t.x) []).drop (ahead r.1 t ws).length) (ev_ixT (n := r.1.idxOf t.x) (ev_var S4 rfl) (ev_var S4 rfl) rfl (st_at (by omega))) (evo_some (ev_lenS (ev_var S4 rfl) (line_ge (by omega)))) evo_none (line_ge (by omega)) (cutS_from _ _))) ?_) (ev_cutW2 (n := r.1.idxOf t.x + 1) (ev_var S4 rfl) (evo_some (EvD.to (ev_add (ev_var S4 rfl) ev_int) rfl)) (by omega)) ?_) ?_
          · rw [List.length_take]
            show _ + 1 ≤ _
            omega
          · rw [List.length_append, List.length_take, List.length_drop]
            show _ + 1 + _ ≤ _
            omega
          · intro v H5 x5 r5
            refine q v H5 ((((x1.trans x2).trans x3).trans x4).trans x5) ?_
            rw [how, if_pos]
            · exact r5
            · by_cases z : (ws.getD (r.1.idxOf t.x) []).take (ahead r.1 t ws).length = ahead r.1 t ws
              · exact z
              · rw [decide_eq_false z] at hc
                cases hc
end
end GW

set_option Elab.async false
set_option linter.all false
set_option maxRecDepth 100000
set_option maxHeartbeats 4000000
/-! Readings with a bound n of the tokens given out: n ≤ toks all along. -/
namespace GW
open PySem PySem.Spec L2 TL
abbrev GK := Nat → V → Hp → Prop
abbrev TGE := Nat → L2.St → Hp → GK → Prop
abbrev TGA := Nat → L2.St → Hp → (Nat → List V → Hp → Prop) → Prop
structure GEnds where
  nx : Nat → L2.St → Hp → Prop
  rt : GK
  bk : Nat → L2.St → Hp → Prop := fun _ _ _ => False
  ct : Nat → L2.St → Hp → Prop := fun _ _ _ => False
def GEnds.at (D : GEnds) (n : Nat) : Ends := { nx := D.nx n, rt := D.rt n, bk := D.bk n, ct := D.ct n }
abbrev TGS := GEnds → Nat → L2.St → Hp → Prop
def EG (Y : Cx) (pn : List (Addr × Obj)) (σ : L2.St) (Q : GK) (u : Value) (z : Shared) : Prop := ∃ n, n ≤ z.toks ∧ EP Y pn σ (Q n) u z
def AG (Y : Cx) (pn : List (Addr × Obj)) (σ : L2.St) (Q : Nat → List V → Hp → Prop) (us : List Value) (z : Shared) : Prop := ∃ n, n ≤ z.toks ∧ AP Y pn σ (Q n) us z
def SG (Y : Cx) (pn : List (Addr × Obj)) (D : GEnds) (f : Flow) (z : Shared) : Prop := ∃ n, n ≤ z.toks ∧ SP Y pn (D.at n) f z
structure GE (Y : Cx) (e : Expr) (t : TGE) : Prop where
  go : ∀ (pn : List (Addr × Obj)) (s : Shared) (σ : L2.St) (H : Hp) (Q : GK) (n : Nat), n ≤ s.toks → Inv Y pn σ H s → t n σ H Q → wpAny (model Y.prog Y.w) Y.A (eval e Y.env) (EG Y pn σ Q) Y.xe s
structure GA (Y : Cx) (es : List Expr) (t : TGA) : Prop where
  go : ∀ (pos : Pos) (pn : List (Addr × Obj)) (s : Shared) (σ : L2.St) (H : Hp) (Q : Nat → List V → Hp → Prop) (n : Nat), n ≤ s.toks → Inv Y pn σ H s → t n σ H Q → wpAny (model Y.prog Y.w) Y.A (spliced (backTo pos (starEach es Y.env))) (AG Y pn σ Q) Y.xe s
structure GS (Y : Cx) (st : Stmt) (t : TGS) : Prop where
  go : ∀ (pn : List (Addr × Obj)) (s : Shared) (σ : L2.St) (H : Hp) (D : GEnds) (n : Nat), n ≤ s.toks → Inv Y pn σ H s → t D n σ H → wpAny (model Y.prog Y.w) Y.A (exec st Y.env) (SG Y pn D) Y.xe s
structure GSs (Y : Cx) (st : List Stmt) (t : TGS) : Prop where
  go : ∀ (pn : List (Addr × Obj)) (s : Shared) (σ : L2.St) (H : Hp) (D : GEnds) (n : Nat), n ≤ s.toks → Inv Y pn σ H s → t D n σ H → wpAny (model Y.prog Y.w) Y.A (execs st Y.env) (SG Y pn D) Y.xe s
/-- a bound that holds stays -/
theorem keepN {al : Type} {M : Model} {A : Around} {t : Sem al} {Q : al → Shared → Prop} {Q' : al → Shared → Prop} {E : Value → Shared → Prop} {s : Shared} {n : Nat} (hn : n ≤ s.toks) (h : wpAny M A t Q E s) (q : ∀ a z, n ≤ z.toks → Q a z → Q' a z) : wpAny M A t Q' E s :=
  wpAny_with_toks hn (wpAny_mono h (fun a z x hz => q a z hz x) fun _ _ x _ => x)
section
variable {Y : Cx} {e : Expr} {es : List Expr} {st : Stmt} {sts : List Stmt} {pos : Pos}
theorem ge_of {t : TE} (h : PE Y e t) : GE Y e (fun n σ H Q => t σ H (Q n)) := ⟨fun pn s σ H Q n hn I q => keepN hn (h.run pn s σ H (Q n) I q) fun _ _ hz x => ⟨n, hz, x⟩⟩
theorem gs_of {t : TS} (h : PS Y st t) : GS Y st (fun D n σ H => t (D.at n) σ H) := ⟨fun pn s σ H D n hn I q => keepN hn (h.run pn s σ H (D.at n) I q) fun _ _ hz x => ⟨n, hz, x⟩⟩
theorem gss_of {t : TS} (h : PSs Y sts t) : GSs Y sts (fun D n σ H => t (D.at n) σ H) := ⟨fun pn s σ H D n hn I q => keepN hn (h.run pn s σ H (D.at n) I q) fun _ _ hz x => ⟨n, hz, x⟩⟩
def gSeq (t u : TGS) : TGS := fun D n σ H => t { D with nx := u D } n σ H
theorem gss_cons {t u : TGS} (h1 : GS Y st t) (h2 : GSs Y sts u) : GSs Y (st :: sts) (gSeq t u) := ⟨fun pn s σ H D n hn I q =>
  wpAny_execs_cons (thn (h1.go pn s σ H { D with nx := u D } n hn I q) fun f z ⟨m, hm, x⟩ => by
    cases f with
    | next =>
      obtain ⟨τ, J, I2, x⟩ := x
      exact h2.go pn z τ J D m hm I2 x
    | ret v => exact ⟨m, hm, x⟩
    | brk => exact ⟨m, hm, x⟩
    | cont => exact ⟨m, hm, x⟩)⟩
theorem gss_one {t : TGS} (h1 : GS Y st t) : GSs Y [st] t := ⟨fun pn s σ H D n hn I q =>
  wpAny_execs_cons (thn (h1.go pn s σ H D n hn I q) fun f z x => by
    cases f with
    | next => exact wpAny_execs_nil x
    | ret v => exact x
    | brk => exact x
    | cont => exact x)⟩
def gIf (c : TT) (t u : TGS) : TGS := fun D n σ H => c σ H fun b J => if b = true then t D n σ J else u D n σ J
theorem gs_if {c : Expr} {a b : List Stmt} {tc : TT} {t u : TGS} (hc : PT Y c tc) (ha : GSs Y a t) (hb : GSs Y b u) : GS Y (.If c a b pos) (gIf tc t u) := ⟨fun pn s σ H D n hn I q =>
  wpAny_If (keepN hn (hc.run pn s σ H _ I q) fun d z hz ⟨J, I2, x⟩ => by
    cases d with
    | true => exact ha.go pn z σ J D n hz I2 x
    | false => exact hb.go pn z σ J D n hz I2 x)⟩
def gAsg (te : TGE) (g : TG) : TGS := fun D n σ H => te n σ H fun m x J => g x σ J (D.nx m)
theorem gs_asg {tg : Expr} {te : TGE} {g : TG} (he : GE Y e te) (hg : PG Y tg g) (hs : swapsWithSole [tg] e pos.line Y.env = pure false := by rfl) (hw : swappedStores [tg] e Y.env = pure none := by rfl)
    (h1 : (assignEach [tg] Y.env).map (·.2) = [assign tg Y.env] := by rfl) : GS Y (.Assign [tg] e pos) (gAsg te g) := ⟨fun pn s σ H D n hn I q => by
  refine wpAny_Assign_stores (thn (he.go pn s σ H _ n hn I q) fun v z ⟨m, hm, x, J, I2, r, y⟩ => ?_) hs hw
  rw [h1]
  exact keepN hm (hg.run pn z σ J x v _ I2 r y) fun _ _ hz x => ⟨m, hz, x⟩⟩
theorem gs_set {i : Nat} {x : Str} {te : TGE} {px : Pos} (hN : Y.N.Nodup) (hi : Y.N[i]? = some x) (hx : Loc Y.env.scope x) (he : GE Y e te) (hs : swapsWith e (some (.Name x px)) pos.line Y.env = pure false := by rfl) (hf : Y.fn x = true ∨ Y.env.scope.names.lookup x = some .local := by first | exact .inl rfl | exact .inr rfl | assumption) :
    GS Y (.Assign [.Name x px] e pos) (gAsg te (gName i)) := ⟨fun pn s σ H D n hn I q => by
  refine wpAny_Assign_Name (thn (he.go pn s σ H _ n hn I q) fun v z ⟨m, hm, y, J, I2, r, w⟩ => ?_) hs
  exact keepN (Q := fun _ z2 => SP Y pn (D.at m) .next z2) hm (store_ok I2 hN hi hx r (fun z2 I3 => ⟨_, J, I3, w⟩) hf) fun _ _ hz x => ⟨m, hz, x⟩⟩
def gRet (te : TGE) : TGS := fun D n σ H => te n σ H D.rt
theorem gs_ret {te : TGE} (he : GE Y e te) : GS Y (.Return (some e) pos) (gRet te) := ⟨fun pn s σ H D n hn I q =>
  wpAny_Return_some (thn (he.go pn s σ H _ n hn I q) fun v z ⟨m, hm, x, J, I2, r, y⟩ => ⟨m, hm, x, σ, J, I2, r, y⟩)⟩
def gDrop (te : TGE) : TGS := fun D n σ H => te n σ H fun m _ J => D.nx m σ J
theorem gs_expr {te : TGE} (he : GE Y e te) (hs : swapsWith e none pos.line Y.env = pure false := by rfl) : GS Y (.Expr e pos) (gDrop te) := ⟨fun pn s σ H D n hn I q =>
  wpAny_Expr_any (thn (he.go pn s σ H _ n hn I q) fun v z ⟨m, hm, x, J, I2, r, y⟩ => ⟨m, hm, σ, J, I2, y⟩) I.quiet hs⟩
def gaNil : TGA := fun n _ H Q => Q n [] H
def gaCons (te : TGE) (ta : TGA) : TGA := fun n σ H Q => te n σ H fun m x J => ta m σ J fun k xs J2 => Q k (x :: xs) J2
theorem ga_nil : GA Y [] gaNil := ⟨fun _ _ _ _ H Q n hn I q => Calls.spliced_nil ⟨n, hn, [], H, I, .nil, q⟩⟩
theorem ga_cons {te : TGE} {ta : TGA} (ha : GE Y e te) (hr : GA Y es ta) (hs : starEach (e :: es) Y.env = (false, eval e Y.env) :: starEach es Y.env := by rfl) : GA Y (e :: es) (gaCons te ta) := ⟨fun pos pn s σ H Q n hn I q => by
  rw [hs]
  show wpAny _ _ (spliced ((false, eval e Y.env) :: backTo pos (starEach es Y.env))) _ _ s
  refine Calls.spliced_cons (thn (ha.go pn s σ H _ n hn I q) fun u z ⟨m, hm, x, J, I2, r, y⟩ => ?_)
  exact thn (hr.go pos pn z σ J _ m hm I2 y) fun us z2 ⟨k, hk, xs, J2, I3, r3, y3⟩ => ⟨k, hk, x :: xs, J2, I3, .cons r r3, y3⟩⟩
def gTupE (ta : TGA) : TGE := fun n σ H Q => ta n σ H fun m xs J => xs.length ≤ sizeLine ∧ ∀ p, J p = none → Q m (.ref p) (upd J p (.tup xs))
theorem ge_tup {x1} {ta : TGA} (h : GA Y es ta) : GE Y (.Tuple es x1 pos) (gTupE ta) := ⟨fun pn s σ H Q n hn I q => by
  refine wpAny_Tuple_spliced (thn (h.go pos pn s σ H _ n hn I q) fun us z ⟨m, hm, xs, J, I2, r, hl, y⟩ => ⟨by rw [← r.length]; exact hl, ?_⟩)
  have hf : J z.heap.objs.size = none := I2.hok.fresh (Nat.le_refl _)
  refine ⟨m, hm, .ref z.heap.objs.size, upd J z.heap.objs.size (.tup xs), I2.laid (t' := z.toks) (fun b u x => Heap.get?_push_of_some _ x) (Nat.le_refl _) ?_, rfl, y _ hf⟩
  exact ⟨hl, us, r, ⟨_, Heap.get?_push_size _ rfl, rfl, _, rfl⟩⟩⟩
/-- a two-place operator, the left one bounded -/
def gOp (r : R2) (ta : TGE) (tb : TE) : TGE := fun n σ H Q => ta n σ H fun m x J => tb σ J fun y J2 => r x y J2 (Q m)
theorem ge_cmp {op : CmpOp} {a b : Expr} {r : R2} {ta : TGE} {tb : TE} (ho : OpR Y (compareOp op) r) (ha : GE Y a ta) (hb : PE Y b tb) (hm : behindInMarks op b = false) : GE Y (.Compare a [op] [b] pos) (gOp r ta tb) := ⟨fun pn s σ H Q n hn I q => by
  refine wpAny_Compare1 (thn (ha.go pn s σ H _ n hn I q) fun v z ⟨m, hz, x, J, I2, r1, y⟩ => ?_) hm
  exact keepN hz (hb.run pn z σ J _ I2 y) fun u z2 hz2 ⟨x2, J2, I3, r2, y2⟩ => keepN hz2 (ho pn z2 σ J2 x x2 v u _ I3 r1 r2 y2) fun _ _ hz3 w => ⟨m, hz3, w⟩⟩
end

/-! ### defs -/
structure FnG (P : Program) (w : World) (K : PySem.W.Frag) (mg : Str → Option Value) (base : Heap) (k : Nat) (f : Addr) (fd : FuncData) (ps : List Str) (sp : List V → Nat → Hp → GK → Prop) : Prop where
  len : ∀ vs n H Q, sp vs n H Q → vs.length = ps.length
  go : ∀ (A : Around) (outer : List Env) (s : Shared) (H : Hp) (args : Args) (us : List Value) (vs : List V) (Q : GK) (n : Nat), n ≤ s.toks → Room k A → Env0 P w K mg base A outer s H → BindsTo s fd args (ps.zip us) → Vals vs us → sp vs n H Q →
    codeAny (model P w) A (.call (.ref f) args) (fun r z => match r with
      | .ok (.ret u) => ∃ m, m ≤ z.toks ∧ CE outer P w H s (Q m) u z
      | _ => False) s
/-- its plain promise -/
theorem FnG.plain {P : Program} {w : World} {K : PySem.W.Frag} {mg : Str → Option Value} {base : Heap} {k : Nat} {f : Addr} {fd : FuncData} {ps : List Str} {sp : List V → Nat → Hp → GK → Prop} {sp' : Sp} (F : FnG P w K mg base k f fd ps sp) (len : ∀ vs H Q E, sp' vs H Q E → vs.length = ps.length)
    (h : ∀ vs H Q E, sp' vs H Q E → sp vs 0 H fun _ => Q) : FnOk P w K mg base CX0 k f fd ps sp' :=
  ⟨len, fun A outer s H args us vs Q E hr e0 hb hv hs => codeAny_mono (F.go A outer s H args us vs _ 0 (Nat.zero_le _) hr e0 hb hv (h _ _ _ _ hs)) fun r z q => by
    cases r with
    | error e => exact q.elim
    | ok fl =>
      cases fl with
      | ret u =>
        obtain ⟨_, _, q⟩ := q
        exact q
      | next => exact q.elim
      | brk => exact q.elim
      | cont => exact q.elim⟩
def CalG (P : Program) (w : World) (K : PySem.W.Frag) (mg : Str → Option Value) (base : Heap) (k : Nat) (x : Str) (ps : List Str) (sp : List V → Nat → Hp → GK → Prop) : Prop :=
  ∃ f fd, FnG P w K mg base k f fd ps sp ∧ mg x = some (.ref f) ∧ PySem.W.keepIn K (.ref f) = true ∧ Binds K fd ps []
section
variable {Y : Cx} {k : Nat} {x : Str} {ps : List Str} {p pos : Pos} {e : Expr} {es : List Expr}
def gCall (sp : List V → Nat → Hp → GK → Prop) (ta : TGA) : TGE := fun n σ H Q => ta n σ H fun m vs J => sp vs m J Q
theorem ge_cal {sp : List V → Nat → Hp → GK → Prop} {ta : TGA} (C : CalG Y.prog Y.w Y.K Y.mg Y.base k x ps sp) (hr : Room k Y.A) (hg : Gl Y x) (ha : GA Y (e :: es) ta)
    (hdb : (x == ("__debug__" : Str)) = false := by decide) (he : starEach (e :: es) Y.env = (false, eval e Y.env) :: starEach es Y.env := by rfl) (hpl : (backTo pos (starEach es Y.env)).any (·.1) = false := by rfl) :
    GE Y (.Call (.Name x p) (e :: es) [] pos) (gCall sp ta) := by
  obtain ⟨f, fd, F, m, kp, b⟩ := C
  refine ⟨fun pn s σ H Q n hn I q => ?_⟩
  refine wpAny_Call_Name_kw (ld_glob I hg m ?_ hdb)
  refine PySem.W.callWith_K (h₀ := Y.base) I.ok.mod.kin kp (thn (ha.go pos pn s σ H _ n hn I q) fun us z ⟨j, hj, vs, J, I2, r, q2⟩ => ⟨I2.kIn, ?_⟩) he hpl
  have hl : us.length = ps.length := by rw [← r.length]; exact F.len _ _ _ _ q2
  have hb := b z us I2.kIn (by rw [List.append_nil]; exact hl)
  rw [List.append_nil] at hb
  refine wpAny_call (codeAny_mono (F.go Y.A Y.stack z J ⟨us, []⟩ us vs Q j hj hr I2.env0 hb r q2) fun rs z2 hq => ?_)
  cases rs with
  | error e => exact hq.elim
  | ok fl =>
    cases fl with
    | ret u =>
      obtain ⟨i, hi, hq⟩ := hq
      exact ⟨i, hi, I2.after hq⟩
    | next => exact hq.elim
    | brk => exact hq.elim
    | cont => exact hq.elim
/-- a plain def, its arguments bounded -/
def gCallP (sp : Sp) (ta : TGA) : TGE := fun n σ H Q => ta n σ H fun m vs J => sp vs J (Q m) E0
theorem ge_calP {sp : Sp} {ta : TGA} (C : Cal Y.prog Y.w Y.K Y.mg Y.base k x ps sp) (hr : Room k Y.A) (hg : Gl Y x) (ha : GA Y (e :: es) ta)
    (hdb : (x == ("__debug__" : Str)) = false := by decide) (he : starEach (e :: es) Y.env = (false, eval e Y.env) :: starEach es Y.env := by rfl) (hpl : (backTo pos (starEach es Y.env)).any (·.1) = false := by rfl) :
    GE Y (.Call (.Name x p) (e :: es) [] pos) (gCallP sp ta) := by
  obtain ⟨f, fd, F, m, kp, b⟩ := C
  refine ⟨fun pn s σ H Q n hn I q => ?_⟩
  refine wpAny_Call_Name_kw (ld_glob I hg m ?_ hdb)
  refine PySem.W.callWith_K (h₀ := Y.base) I.ok.mod.kin kp (thn (ha.go pos pn s σ H _ n hn I q) fun us z ⟨j, hj, vs, J, I2, r, q2⟩ => ⟨I2.kIn, ?_⟩) he hpl
  exact keepN hj (run_fn (dvs := []) (ds := []) (E := E0) F hr b .nil pass0 I2 r (by rw [List.append_nil]; exact q2)) fun _ _ hz x => ⟨j, hz, x⟩
end
theorem FunG.ok {P : Program} {w : World} {K : PySem.W.Frag} {mg : Str → Option Value} {base : Heap} {x qual : Str} {st : Stmt} {f : Addr} {fd : FuncData} {N ps : List Str} {k : Nat} {sp : List V → Nat → Hp → GK → Prop} (F : Fun K x qual st f fd) (S : FnScope N ps (defScope st)) (len : ∀ vs n H Q, sp vs n H Q → vs.length = ps.length)
    (hb : ∀ (cdv : Value) (A : Around) (outer : List Env) (s : Shared) (H : Hp) (vs : List V) (Q : GK) (n : Nat), Room k (A.deeper (PyProof.Rows.envOfC qual (defScope st) s.heap.objs.size f cdv)) → sp vs n H Q →
      ∃ t, GSs (cxOf CX0 P w K mg base N qual (defScope st) f cdv A outer s H E0).nox (defBody st) t ∧ t { nx := fun m _ H' => Q m .non H', rt := Q } n (start N vs) H) : FnG P w K mg base (k + 1) f fd ps sp := by
  obtain ⟨oc, od, kV, doc, pm, an, cdv, ct, osl, rfl, lk, hcd⟩ := F.ex
  refine ⟨len, fun A outer s H args us vs Q n hn hr e0 bt r hsp => ?_⟩
  have hl := len _ _ _ _ hsp
  have KX : K.In s.heap := e0.mod.kin.keeps fun b o q => (e0.bs b o q).1
  have lim : s.heap.NoLimit := e0.mod.nolimit.keeps fun b o q => (e0.bs b o q).1
  have hkind : ∀ y ∈ ps.zip us, (defScope st).names.lookup y.1 = some .local ∨ ((defScope st).names.lookup y.1 = some .cell ∧ ((cellsFrom (s.heap.objs.size + 1) (defScope st).names []).lookup y.1).isSome = true) := fun ⟨a, v⟩ hy => by
    rcases S.par a (List.of_mem_zip hy).1 with z | z
    · exact .inl z
    · exact .inr ⟨z, PySem.W.cellsFrom_some _ _ _ (.inl z)⟩
  refine codeAny_call_function hr.depth (KX _ _ lk) rfl S.co S.gen rfl (PySem.W.codeRec_of KX hcd) (bt _ _ _ _ ?_)
  refine keepN (Q := fun env s1 => env = PyProof.Rows.envOfC qual (defScope st) s.heap.objs.size f cdv ∧ InCallC s s.heap.objs.size (bindL (PyProof.Rows.envOfC qual (defScope st) s.heap.objs.size f cdv).kindOf (ps.zip us) fun _ => none) (cellsFrom (s.heap.objs.size + 1) (defScope st).names []) (bindC (PyProof.Rows.envOfC qual (defScope st) s.heap.objs.size f cdv).kindOf (ps.zip us) fun _ => none) s1) hn (wpAny_newFunctionEnv_cells S.kind hkind fun env he s1 z => by
    subst he
    exact ⟨rfl, z⟩) fun env s1 hz ⟨he, z⟩ => ?_
  subst he
  refine ⟨lim.keeps z.toInCall.keep, codeAny_func ?_⟩
  obtain ⟨t, ht, hq⟩ := hb cdv A outer s H vs Q n (hr.deeper _) hsp
  have I : Inv (cxOf CX0 P w K mg base N qual (defScope st) f cdv A outer s H E0) [] (start N vs) H s1 := inv_start S hr.hd e0 hl r z
  refine wpAny_mono (ht.go [] s1 (start N vs) H _ n hz (I.wish _) hq) (fun fl z2 ⟨m, hm, hs⟩ => ?_) fun _ _ z => z.elim
  have hs := SP.unwish hs
  have fin : ∀ {τ : L2.St} {J : Hp} {v : V} {u : Value}, Inv (cxOf CX0 P w K mg base N qual (defScope st) f cdv A outer s H E0) [] τ J z2 → RelV v u → Q m v J → CE outer P w H s (Q m) u z2 :=
    fun {τ J v u} I2 rv q => ⟨v, J, I2.os, I2.bare, I2.base, I2.hok, rv, q⟩
  cases fl with
  | ret u =>
    obtain ⟨v, τ, J, I2, rv, q⟩ := hs
    exact ⟨m, hm, fin I2 rv q⟩
  | next =>
    obtain ⟨τ, J, I2, q⟩ := hs
    exact ⟨m, hm, fin (v := V.non) (u := Value.none) I2 rfl q⟩
  | brk =>
    obtain ⟨_, _, _, q⟩ := hs
    exact q.elim
  | cont =>
    obtain ⟨_, _, _, q⟩ := hs
    exact q.elim
end GW

set_option Elab.async false
set_option linter.all false
set_option maxRecDepth 100000
set_option maxHeartbeats 4000000
/-! Loops with a bound of the tokens; what bounded readings come to. -/
namespace GW
open PySem PySem.Spec L2 TL
abbrev TGI := Nat → L2.St → Hp → (Nat → It → Hp → Prop) → Prop
structure GI (Y : Cx) (tg iter : Expr) (t : TGI) : Prop where
  go : ∀ (pn : List (Addr × Obj)) (s : Shared) (σ : L2.St) (H : Hp) (Q : Nat → It → Hp → Prop) (n : Nat), n ≤ s.toks → Inv Y pn σ H s → t n σ H Q →
    wpAny (model Y.prog Y.w) Y.A (eval iter Y.env) (fun v z => wpAny (model Y.prog Y.w) Y.A (pyIter v) (fun iv z2 => ∃ m, m ≤ z2.toks ∧ PIE Y pn σ tg (Q m) iv z2) Y.xe z) Y.xe s
section
variable {Y : Cx} {tg iter : Expr} {body : List Stmt} {pos : Pos}
theorem gi_of {wi : TI} (h : PI Y tg iter wi) : GI Y tg iter (fun n σ H Q => wi σ H (Q n)) := ⟨fun pn s σ H Q n hn I q =>
  keepN hn (h.run pn s σ H (Q n) I q) fun v z hz x => keepN hz x fun iv z2 hz2 y => ⟨n, hz2, y⟩⟩
def gTupI (K : PySem.W.Frag) (te : TGE) : TGI := fun n σ H Q => te n σ H fun m x J => ∃ a, x = .ref a ∧ (∃ xs, SqT K J a xs) ∧ Q m (Itt K a) J
theorem gi_tup {te : TGE} (h : GE Y iter te) : GI Y tg iter (gTupI Y.K te) := ⟨fun pn s σ H Q n hn I q => by
  refine thn (h.go pn s σ H _ n hn I q) fun v z ⟨m, hm, x, J, I2, r, q2⟩ => ?_
  obtain ⟨a, e, ⟨xs, hx⟩, q3⟩ := q2
  subst e
  cases r
  obtain ⟨its, rv, ht, hz⟩ := I2.tuple hx
  refine wpAny_pyIter_tuple ht ⟨m, hm, z.heap.objs.size, [z.heap.objs.size], _, _, J, rfl, I2.kept (t' := z.toks) fun b o y => Heap.get?_push_of_some _ y, turn_tuple a _, ⟨_, Heap.get?_push_size _ rfl, rfl, rfl⟩, fun b hb => ?_, q3⟩
  have e : b = z.heap.objs.size := by simpa using hb
  subst e
  exact I2.fpOk (Nat.le_refl _) (I2.hok.fresh (Nat.le_refl _))⟩
def gFor (wi : TGI) (g : TG) (tb : TGS) : TGS := fun D n σ H => wi n σ H fun m J H1 => ∃ W : Nat → Nat → Nat → L2.St → Hp → Prop, (∃ c, W 0 c m σ H1) ∧ ∀ i c m σ H, W i c m σ H →
  (J.stop i H ∧ D.nx m σ H) ∨ (J.go i H ∧ ∃ B : Nat → L2.St → Hp → Prop, (∀ m' σ' H', B m' σ' H' → ∃ c', c' < c ∧ W (i + 1) c' m' σ' H') ∧ ∀ x H', J.yld i H x H' → g x σ H' fun σ2 H2 => tb { D with nx := B, ct := B, bk := D.nx } m σ2 H2)
theorem gs_for {wi : TGI} {g : TG} {tb : TGS} (hp : PassesOwn (model Y.prog Y.w) Y.A Y.env Y.xe) (hc : Y.calm = true) (hi : GI Y tg iter wi) (hg : PG Y tg g) (hb : GSs Y body tb)
    (hs : ∀ x, foldedSetIterable iter Y.env x = pure x := by intro _; rfl) : GS Y (.For tg iter body [] pos) (gFor wi g tb) := ⟨fun pn s σ H D n hn I q => by
  refine wpAny_For (thn (hi.go pn s σ H _ n hn I q) fun v z1 h1 => thn h1 fun iv z2 ⟨m2, hm2, h2⟩ => ?_) hs
  obtain ⟨it, fp, tn, J, H2, e, I2, T, st2, f2, W, ⟨c0, w0⟩, turn⟩ := h2
  subst e
  have own : ∀ {H' : Hp}, (∀ b ∈ fp, H' b = none) → ∀ b ∈ fp, FpOk Y pn H' b := fun hn b hb => ⟨hn b hb, (f2 b hb).2⟩
  refine codeAny_forLoop_any (fun c z => ∃ m, m ≤ z.toks ∧ ∃ i τ H', Inv Y pn τ H' z ∧ tn i z.heap ∧ (∀ b ∈ fp, H' b = none) ∧ W i c m τ H') ?_ c0 ⟨m2, hm2, 0, σ, H2, I2, st2, fun b hb => (f2 b hb).1, w0⟩
  rintro c z3 ⟨m3, hm3, i, τ3, H3, I3, st3, fr3, w3⟩
  rcases turn i c m3 τ3 H3 w3 with ⟨stop, qn⟩ | ⟨goes, B, hB, step⟩
  · refine wpAny_passesOwn hp (keepN hm3 (T.done Y rfl rfl rfl hc i pn z3 τ3 H3 Y.xe I3 (own fr3) st3 stop) fun r z4 hz4 ⟨hr, I4⟩ => ?_)
    subst hr
    exact wpAny_execs_nil ⟨m3, hz4, τ3, H3, I4, qn⟩
  · refine wpAny_passesOwn hp (keepN hm3 (T.item Y rfl rfl rfl hc i pn z3 τ3 H3 Y.xe I3 (own fr3) st3 goes) fun r z4 hz4 ⟨u, hr, h4⟩ => ?_)
    subst hr
    refine wpAny_passesOwn hp (keepN hz4 h4 fun _ z5 hz5 ⟨x, H5, I5, r5, y5, st5, fr5⟩ => ?_)
    have I5p := I5.pinned (own fr5) (T.obj _ _ st5)
    refine wpAny_passesOwn hp (keepN hz5 (hg.run _ z5 τ3 H5 x u _ I5p r5 (step x H5 y5)) fun _ z6 hz6 ⟨τ6, H6, I6, q6⟩ => ?_)
    refine wpAny_passesOwn hp (thn (hb.go _ z6 τ6 H6 _ m3 hz6 I6 q6) fun f z7 ⟨m7, hm7, q7⟩ => ?_)
    have back : ∀ {τ7 : L2.St} {H7 : Hp}, Inv Y (pn ++ pinsAt fp z5.heap) τ7 H7 z7 → B m7 τ7 H7 → ∃ c', c' < c ∧ ∃ m, m ≤ z7.toks ∧ ∃ i τ H', Inv Y pn τ H' z7 ∧ tn i z7.heap ∧ (∀ b ∈ fp, H' b = none) ∧ W i c' m τ H' := fun {τ7 H7} I7 b7 => by
      obtain ⟨c', hc', w7⟩ := hB m7 τ7 H7 b7
      refine ⟨c', hc', m7, hm7, i + 1, τ7, H7, I7.unpinned, T.keep _ _ _ st5 fun b hb o e => (I7.pin (b, o) (List.mem_append_right _ (List.mem_append_right _ (mem_pinsAt hb e)))).1, fun b hb => ?_, w7⟩
      obtain ⟨o, e, d⟩ := T.obj _ _ st5 b hb
      exact (I7.pin (b, o) (List.mem_append_right _ (List.mem_append_right _ (mem_pinsAt hb e)))).2.1
    cases f with
    | next => obtain ⟨τ7, H7, I7, b7⟩ := q7; exact back I7 b7
    | cont => obtain ⟨τ7, H7, I7, b7⟩ := q7; exact back I7 b7
    | brk => obtain ⟨τ7, H7, I7, q8⟩ := q7; exact ⟨m7, hm7, τ7, H7, I7.unpinned, q8⟩
    | ret v => obtain ⟨x7, τ7, H7, I7, r7, q8⟩ := q7; exact ⟨m7, hm7, x7, τ7, H7, I7.unpinned, r7, q8⟩⟩
def gWhile (c : TT) (tb : TGS) : TGS := fun D n σ H => ∃ W : Nat → Nat → L2.St → Hp → Prop, (∃ c0, W c0 n σ H) ∧ ∀ a m σ H, W a m σ H →
  c σ H fun b H1 => if b = true then ∃ B : Nat → L2.St → Hp → Prop, (∀ m' σ' H', B m' σ' H' → ∃ a', a' < a ∧ W a' m' σ' H') ∧ tb { D with nx := B, ct := B, bk := D.nx } m σ H1 else D.nx m σ H1
theorem gs_while {c : Expr} {tc : TT} {tb : TGS} (hp : PassesOwn (model Y.prog Y.w) Y.A Y.env Y.xe) (hc : PT Y c tc) (hb : GSs Y body tb) : GS Y (.While c body [] pos) (gWhile tc tb) := ⟨fun pn s σ H D n hn I q => by
  obtain ⟨W, ⟨a0, w0⟩, turn⟩ := q
  refine wpAny_While (codeAny_whileLoop (fun a z => ∃ m, m ≤ z.toks ∧ ∃ τ H', Inv Y pn τ H' z ∧ W a m τ H') ?_ a0 ⟨n, hn, σ, H, I, w0⟩)
  rintro a z1 ⟨m1, hm1, τ1, H1, I1, w1⟩
  refine wpAny_passesOwn hp (keepN hm1 (hc.run pn z1 τ1 H1 _ I1 (turn a m1 τ1 H1 w1)) fun b z2 hz2 ⟨H2, I2, q2⟩ => ?_)
  cases b with
  | true =>
    obtain ⟨B, hB, q2⟩ := q2
    rw [if_pos rfl]
    refine wpAny_passesOwn hp (thn (hb.go pn z2 τ1 H2 _ m1 hz2 I2 q2) fun f z3 ⟨m3, hm3, q3⟩ => ?_)
    have back : ∀ {τ : L2.St} {J : Hp}, Inv Y pn τ J z3 → B m3 τ J → ∃ a', a' < a ∧ ∃ m, m ≤ z3.toks ∧ ∃ τ H', Inv Y pn τ H' z3 ∧ W a' m τ H' := fun {τ J} I3 b3 => by
      obtain ⟨a', ha, w3⟩ := hB m3 τ J b3
      exact ⟨a', ha, m3, hm3, τ, J, I3, w3⟩
    cases f with
    | next => obtain ⟨τ, J, I3, b3⟩ := q3; exact back I3 b3
    | cont => obtain ⟨τ, J, I3, b3⟩ := q3; exact back I3 b3
    | brk => exact ⟨m3, hm3, q3⟩
    | ret v => exact ⟨m3, hm3, q3⟩
  | false =>
    rw [if_neg Bool.false_ne_true]
    exact wpAny_execs_nil ⟨m1, hz2, τ1, H2, I2, q2⟩⟩
/-- a list's method with a bounded argument -/
def gBM (K : PySem.W.Frag) (T : String) (r : V → List V → Hp → VK → Prop) (to : TE) (ta : TGA) : TGE := fun n σ H Q => to σ H fun x J => tyV K T x J ∧ ta n σ J fun m xs J2 => r x xs J2 (Q m)
theorem ge_bm {T : String} {name : Str} {id : String} {r : V → List V → Hp → VK → Prop} {o e : Expr} {es : List Expr} {apos cpos : Pos} {to : TE} {ta : TGA} (pa : PlainAttrs T) (slot : Slot T name id) (hty : typeOf (.builtin id) = pure (.type "method_descriptor")) (hm : MtR Y id r) (ho : PE Y o to) (ha : GA Y (e :: es) ta)
    (hbase : attributeBase o name Y.env (eval o Y.env) = eval o Y.env := by rfl)
    (hfew : ((backTo cpos (starEach (e :: es) Y.env)).all (fun x => !x.1) && (backToKw cpos (keywordEach [] Y.env)).all (fun x => x.1.isSome)
      && decide ((e :: es).length + ([] : List Keyword).length + (if ([] : List Keyword).isEmpty then 0 else 1) < 30)) = true := by rfl)
    (hline : (apos.endLine == cpos.line) = true := by rfl) (hs : starEach (e :: es) Y.env = (false, eval e Y.env) :: starEach es Y.env := by rfl) (hplain : (backTo cpos (starEach es Y.env)).any (·.1) = false := by rfl) :
    GE Y (.Call (.Attribute o name apos) (e :: es) [] cpos) (gBM Y.K T r to ta) := ⟨fun pn s σ H Q n hn I q => by
  refine wpAny_Call_method_late hbase hfew hline rfl (keepN hn (ho.run pn s σ H _ I q) fun v z1 hz1 ⟨x, H1, I1, r1, ty, q1⟩ => ?_)
  obtain ⟨h1, h2⟩ := tyV_is I1 r1 ty
  refine ⟨T, id, pa, slot, hty, h1, h2, ?_⟩
  have hA := ha.go cpos pn z1 σ H1 _ n hz1 I1 q1
  rw [hs] at hA ⊢
  refine Calls.callWith_builtin (by show (false || (backTo cpos (starEach es Y.env)).any (·.1)) = false; rw [hplain] <;> rfl) (Calls.evalArgs_plain ?_)
  exact thn hA fun us z2 ⟨m, hm2, vs, H2, I2, r2, q2⟩ => keepN hm2 (hm pn z2 σ H2 x vs v us (Q m) I2 r1 r2 q2) fun _ _ hz3 w => ⟨m, hz3, w⟩⟩
theorem ga_of {es : List Expr} {ta : TA} (h : PA Y es ta) : GA Y es (fun n σ H Q => ta σ H (Q n)) := ⟨fun pos pn s σ H Q n hn I q => keepN hn (h.run pos pn s σ H (Q n) I q) fun _ _ hz x => ⟨n, hz, x⟩⟩
end

/-! ### data -/
section
variable (K : PySem.W.Frag)
/-- d may lean on the bound -/
def EvG (te : TGE) (n : Nat) (σ : L2.St) (H : Hp) (d : Nat → D) : Prop := ∀ m H1, n ≤ m → Same H H1 → ∀ Q : GK, (∀ k v H2, m ≤ k → Same H1 H2 → R K H2 v (d k) → Q k v H2) → te m σ H1 Q
def EvGA (ta : TGA) (n : Nat) (σ : L2.St) (H : Hp) (ds : List D) : Prop := ∀ m H1, n ≤ m → Same H H1 → ∀ Q : Nat → List V → Hp → Prop, (∀ k vs H2, m ≤ k → Same H1 H2 → RL K H2 vs ds → Q k vs H2) → ta m σ H1 Q
end
section
variable {K : PySem.W.Frag} {σ : L2.St} {H H' : Hp} {te : TE} {tg ug : TGE} {ta : TA} {ga : TGA} {d : D} {ds : List D} {dn : Nat → D} {n : Nat} {D0 : GEnds} {t1 t2 : TGS} {b : Bool}
theorem EvG.up (h : EvG K tg n σ H dn) (x : Same H H') {m : Nat} (hm : n ≤ m) : EvG K tg m σ H' dn := fun k H1 hk y Q q => h k H1 (Nat.le_trans hm hk) (x.trans y) Q q
theorem EvG.run (h : EvG K tg n σ H dn) {Q : GK} (q : ∀ k v H2, n ≤ k → Same H H2 → R K H2 v (dn k) → Q k v H2) : tg n σ H Q := h n H (Nat.le_refl _) (Same.refl _) Q q
theorem eg_of (h : EvD K te σ H d) : EvG K (fun n σ H Q => te σ H (Q n)) n σ H (fun _ => d) := fun m H1 hm x Q q => h H1 x _ fun v H2 y r => q m v H2 (Nat.le_refl _) y r
theorem ega_of (h : EvA K ta σ H ds) : EvGA K (fun n σ H Q => ta σ H (Q n)) n σ H ds := fun m H1 hm x Q q => h H1 x _ fun v H2 y r => q m v H2 (Nat.le_refl _) y r
theorem ega_nil : EvGA K gaNil n σ H [] := fun m H1 _ _ Q q => q m [] H1 (Nat.le_refl _) (Same.refl _) .nil
theorem ega_cons (h : EvG K tg n σ H (fun _ => d)) (r : EvGA K ga n σ H ds) : EvGA K (gaCons tg ga) n σ H (d :: ds) := fun m H1 hm x Q q => h m H1 hm x _ fun k v H2 hk y rv =>
  r k H2 (Nat.le_trans hm hk) (x.trans y) _ fun j vs H3 hj z rvs => q j (v :: vs) H3 (Nat.le_trans hk hj) (y.trans z) (.cons (rv.mono (Tp.of z)) rvs)
/-- a bounded def's promise over data -/
def spG (K : PySem.W.Frag) (P : Nat → List D → (Nat → D) → Prop) : List V → Nat → Hp → GK → Prop := fun vs n H Q => ∃ ds d, RL K H vs ds ∧ P n ds d ∧ ∀ k v H', n ≤ k → Same H H' → R K H' v (d k) → Q k v H'
theorem eg_call {P : Nat → List D → (Nat → D) → Prop} (h : EvGA K ga n σ H ds) (p : ∀ m, n ≤ m → P m ds dn) : EvG K (gCall (spG K P) ga) n σ H dn := fun m H1 hm x Q q => h m H1 hm x _ fun k vs H2 hk y r =>
  ⟨ds, dn, r, p k (Nat.le_trans hm hk), fun j v H3 hj z rv => q j v H3 (Nat.le_trans hk hj) (y.trans z) rv⟩
theorem eg_callP {P : List D → D → Prop} (h : EvGA K ga n σ H ds) (p : P ds d) : EvG K (gCallP (spD K P) ga) n σ H (fun _ => d) := fun m H1 hm x Q q => h m H1 hm x _ fun k vs H2 hk y r =>
  ⟨ds, d, r, p, fun v H3 z rv => q k v H3 hk (y.trans z) rv⟩
theorem gst_set {k : Nat} {ss : List SD} (S : Sl K H σ ss) (h : EvG K tg n σ H dn) (q : ∀ σ' m H2, n ≤ m → Same H H2 → Sl K H2 σ' (ss.set k (some (dn m))) → D0.nx m σ' H2) : gAsg tg (gName k) D0 n σ H :=
  h.run fun m v H2 hm x r => q _ m H2 hm x ((S.mono (Tp.of x)).set r k)
theorem gst_asg {g : TG} {f : Nat → List SD → List SD} {ss : List SD} (S : Sl K H σ ss) (h : EvG K tg n σ H dn) (hg : ∀ m, GD K g (dn m) (f m)) (q : ∀ σ' m H2, n ≤ m → Same H H2 → Sl K H2 σ' (f m ss) → D0.nx m σ' H2) : gAsg tg g D0 n σ H :=
  h.run fun m v H2 hm x r => hg m v σ ss H2 _ r (S.mono (Tp.of x)) fun σ' S' => q σ' m H2 hm x S'
theorem gst_ret (h : EvG K tg n σ H dn) (q : ∀ m v H2, n ≤ m → Same H H2 → R K H2 v (dn m) → D0.rt m v H2) : gRet tg D0 n σ H := h.run q
theorem gst_if {t : TT} (h : EvT t σ H b) (q1 : b = true → ∀ H2, Same H H2 → t1 D0 n σ H2) (q2 : b = false → ∀ H2, Same H H2 → t2 D0 n σ H2) : gIf t t1 t2 D0 n σ H := h.go fun H2 x => by
  cases b with
  | true => exact q1 rfl H2 x
  | false => exact q2 rfl H2 x
/-- for over a bounded or a plain walk: the invariant knows the bound -/
def ItG (K : PySem.W.Frag) (S : Hp → Hp → Prop) (wi : TGI) (n : Nat) (σ : L2.St) (H : Hp) (its : Nat → List D) : Prop :=
  ∀ m H1, n ≤ m → Same H H1 → ∀ Q : Nat → It → Hp → Prop, (∀ k J H2, m ≤ k → Same H1 H2 → WkD K S J H2 (its k) → Q k J H2) → wi m σ H1 Q
theorem itg_of {wi : TI} {S : Hp → Hp → Prop} {its : List D} (h : ItD K S wi σ H its) : ItG K S (fun n σ H Q => wi σ H (Q n)) n σ H (fun _ => its) := fun m H1 hm x Q q => h H1 x _ fun J H2 y w => q m J H2 (Nat.le_refl _) y w
theorem itg_tup {its : Nat → List D} (h : EvG K tg n σ H (fun k => .tup (its k))) : ItG K (Tp K) (gTupI K tg) n σ H its := fun m H1 hm x Q q => h m H1 hm x _ fun k v H2 hk y r => by
  cases r with
  | tup hs ht =>
    rename_i a xs
    have w : Walk (Itt K a) xs.length (fun H => SqT K H a xs) (YAt xs) := walk_tup
    rw [ht.len] at w
    refine ⟨a, rfl, ⟨xs, hs⟩, q k _ H2 hk y ⟨_, _, w, fun H3 x3 => x3.1 _ _ hs, fun i H3 x H4 x3 z => ?_⟩⟩
    obtain ⟨rfl, hx⟩ := z
    obtain ⟨d, hd, rd⟩ := (ht.mono x3).get hx
    exact ⟨Same.refl _, d, hd, rd⟩
theorem gst_for {al : Type} {xs : List al} {enc : Nat → al → D} {g : TG} {tb : TGS} {wi : TGI} {S : Hp → Hp → Prop} (hi : ItG K S wi n σ H (fun k => xs.map (enc k))) (q : ∀ m H2, n ≤ m → Same H H2 → ∃ Pv : Nat → Nat → L2.St → Hp → Prop, Pv 0 m σ H2 ∧ (∀ k j σ' H', k ≤ xs.length → Pv k j σ' H' → S H2 H') ∧
      (∀ k a j x σ' H' H3, xs[k]? = some a → Pv k j σ' H' → Same H' H3 → R K H3 x (enc m a) → g x σ' H3 fun σ2 H4 => tb { D0 with nx := Pv (k + 1), ct := Pv (k + 1), bk := D0.nx } j σ2 H4) ∧ (∀ j σ' H', Pv xs.length j σ' H' → D0.nx j σ' H')) : gFor wi g tb D0 n σ H :=
  hi n H (Nat.le_refl _) (Same.refl H) _ fun m J H2 hm x2 ⟨G, Yy, w, hG, hY⟩ => by
    rw [List.length_map] at w
    obtain ⟨Pv, h0, hS, hst, hd⟩ := q m H2 hm x2
    refine ⟨fun i c j τ H' => c = xs.length - i ∧ i ≤ xs.length ∧ Pv i j τ H', ⟨xs.length, rfl, Nat.zero_le _, h0⟩, ?_⟩
    rintro i c j τ H' ⟨rfl, hi, p⟩
    have s := hS i j τ H' hi p
    by_cases hlt : i < xs.length
    · refine .inr ⟨w.goes i H' hlt (hG _ s), Pv (i + 1), fun j' τ' H3 p' => ⟨xs.length - (i + 1), by omega, rfl, hlt, p'⟩, fun x H3 hy => ?_⟩
      obtain ⟨ss, d, ed, rd⟩ := hY i H' x H3 s (w.yields i H' x H3 hlt (hG _ s) hy)
      rw [List.getElem?_map] at ed
      obtain ⟨a, ha, rfl⟩ := Option.map_eq_some_iff.mp ed
      exact hst i a j x τ H' H3 ha p ss rd
    · have e : i = xs.length := by omega
      subst e
      exact .inl ⟨w.stops H' (hG _ s), hd j τ H' p⟩
theorem gst_while {c : TT} {tb : TGS} (W : Nat → Nat → L2.St → Hp → Prop) (a0 : Nat) (h0 : W a0 n σ H) (step : ∀ a m σ' H', W a m σ' H' → ∃ b, EvT c σ' H' b ∧
    (b = true → ∀ H2, Same H' H2 → tb { D0 with nx := fun j s h => ∃ a', a' < a ∧ W a' j s h, ct := fun j s h => ∃ a', a' < a ∧ W a' j s h, bk := D0.nx } m σ' H2) ∧ (b = false → ∀ H2, Same H' H2 → D0.nx m σ' H2)) : gWhile c tb D0 n σ H :=
  ⟨W, ⟨a0, h0⟩, fun a m σ' H' hw => by
    obtain ⟨b, hb, q1, q2⟩ := step a m σ' H' hw
    refine hb.go fun H2 x => ?_
    cases b with
    | true =>
      rw [if_pos rfl]
      exact ⟨_, fun _ _ _ z => z, q1 rfl H2 x⟩
    | false =>
      rw [if_neg Bool.false_ne_true]
      exact q2 rfl H2 x⟩
theorem gst_app {a : Addr} {vs : List V} {ta0 : TE} (h1 : EvD K ta0 σ H (.raw (.ref a))) (ha : H a = some (.lst vs)) (hl : vs.length < sizeLine) (h2 : EvG K tg n σ H dn) (q : ∀ m v H2, n ≤ m → Same H H2 → R K H2 v (dn m) → D0.nx m σ (upd H2 a (.lst (vs ++ [v])))) :
    gDrop (gBM K "list" rAppend ta0 (gaCons tg gaNil)) D0 n σ H := h1.go fun v H1 x1 r1 => by
  cases r1
  refine ⟨.inl ⟨rfl, _, SqL.of (x1 _ _ ha)⟩, (h2.up x1 (Nat.le_refl _)).run fun m u H2 hm x2 r2 => ?_⟩
  exact ⟨a, vs, u, rfl, rfl, x2 _ _ (x1 _ _ ha), hl, q m u H2 hm (x1.trans x2) r2⟩
end
end GW

set_option Elab.async false
set_option linter.all false
set_option maxRecDepth 100000
set_option maxHeartbeats 4000000
/-! Where tokens are told: one sign of a text, small tuples, steps_by. -/
namespace GW
open PySem PySem.Spec L2 TL
abbrev s_steps_by : Stmt := topS 34
theorem sc_steps_by : FnScope ["p", "q"] ["p", "q"] (defScope s_steps_by) := ⟨rfl, rfl, rfl, by decide +kernel, rfl, by decide +kernel, by decide +kernel⟩
abbrev s_steps_of : Stmt := topS 35
theorem sc_steps_of : FnScope ["room", "left", "right"] ["room"] (defScope s_steps_of) := ⟨rfl, rfl, rfl, by decide +kernel, rfl, by decide +kernel, by decide +kernel⟩
/-- a text's first sign: its token -/
theorem raw_item0 {Y : Cx} {a : Expr} {ta : TE} {pn : List (Addr × Obj)} {s : Shared} {σ : L2.St} {H : Hp} {Q : Nat → Hp → Prop} {j : Nat} {cp pos : Pos} (ha : PE Y a ta) (I : Inv Y pn σ H s) (h : ta σ H fun x J => ∃ c l, x = .str (mkS (c :: l)) ∧ (c :: l).length ≤ sizeLine ∧ Q c J) :
    wpAny (model Y.prog Y.w) Y.A (eval (.Subscript a (.Constant (.int 0) j cp) pos) Y.env) (fun u z => ∃ c t J, u = .str (mkS [c]) t ∧ 1 ≤ t ∧ t < z.toks ∧ Inv Y pn σ J z ∧ Q c J) Y.xe s := by
  refine PyProof.Rows.Subscript_ (thn (ha.run pn s σ H _ I h) fun v z1 ⟨x, J, I1, r, c, l, e, hl, q⟩ => ?_)
  subst e
  obtain ⟨t, rfl⟩ := r
  refine wpAny_Constant_int ?_
  refine PyProof.Rows.tail_any (typeIs_str _ _ t) PyProof.Rows.slot_str_getitem.lookup (PyProof.Rows.getItem_str (c := c) (by decide) ?_ ⟨c, z1.toks + 1, J, rfl, Nat.le_add_left 1 _, Nat.lt_succ_self _, I1.tok _, q⟩) rfl
  rw [PySem.StrLaws.seqIndex_nonneg (Int.le_refl 0) (by rw [mkS_len, List.length_cons]; omega)]
  rfl
/-- a tuple is laid, its object known -/
theorem inv_frz {Y : Cx} {pn : List (Addr × Obj)} {s : Shared} {σ : L2.St} {H : Hp} {us : List Value} {vs : List V} (I : Inv Y pn σ H s) (r : Vals vs us) (hl : vs.length ≤ sizeLine) :
    H s.heap.objs.size = none ∧ Inv Y pn σ (upd H s.heap.objs.size (.frz { cls := .type "tuple", data := .seq us.toArray } (.tup vs))) { s with heap := s.heap.push { cls := .type "tuple", data := .seq us.toArray } } :=
  ⟨I.hok.fresh (Nat.le_refl _), I.laid (t' := s.toks) (fun b o q => Heap.get?_push_of_some _ q) (Nat.le_refl _) ⟨Heap.get?_push_size _ rfl, hl, us, r, ⟨_, Heap.get?_push_size _ rfl, rfl, _, rfl⟩⟩⟩
theorem inv_tup {Y : Cx} {pn : List (Addr × Obj)} {s : Shared} {σ : L2.St} {H : Hp} {us : List Value} {vs : List V} (I : Inv Y pn σ H s) (r : Vals vs us) (hl : vs.length ≤ sizeLine) :
    H s.heap.objs.size = none ∧ Inv Y pn σ (upd H s.heap.objs.size (.tup vs)) { s with heap := s.heap.push { cls := .type "tuple", data := .seq us.toArray } } :=
  ⟨I.hok.fresh (Nat.le_refl _), I.laid (t' := s.toks) (fun b o q => Heap.get?_push_of_some _ q) (Nat.le_refl _) ⟨hl, us, r, ⟨_, Heap.get?_push_size _ rfl, rfl, _, rfl⟩⟩⟩
theorem stp_new {K : PySem.W.Frag} {H : Hp} {a : Addr} {n x : Nat} {t0 t1 : Tok} {k : List Nat} {us : List Value} {ws : List (List Nat)} (h1 : 1 ≤ t1) (h2 : t1 < n) :
    R K (upd H a (.frz { cls := .type "tuple", data := .seq (Value.str (mkS k) t0 :: Value.str (mkS [x]) t1 :: us).toArray } (.tup ((k :: [x] :: ws).map fun l => V.str (mkS l))))) (.ref a) (.stp n (k :: [x] :: ws)) :=
  .stp upd_same rfl ⟨rfl, _, t1, us, 0, rfl, h1, h2⟩
/-- (kind, text[0]) -/
theorem raw_pair {Y : Cx} {a : Expr} {ta : TE} {kd : Str} {j j1 x1 : Nat} {cp cp1 p1 p2 : Pos} {pn : List (Addr × Obj)} {s : Shared} {σ : L2.St} {H : Hp} {Q : Nat → Hp → Prop} (ha : PE Y a ta) (I : Inv Y pn σ H s) (h : ta σ H fun x J => ∃ c l, x = .str (mkS (c :: l)) ∧ (c :: l).length ≤ sizeLine ∧ Q c J)
    (h2 : starEach [.Constant (.str kd) j1 cp1, .Subscript a (.Constant (.int 0) j cp) p1] Y.env = [(false, eval (.Constant (.str kd) j1 cp1) Y.env), (false, eval (.Subscript a (.Constant (.int 0) j cp) p1) Y.env)]) :
    wpAny (model Y.prog Y.w) Y.A (eval (.Tuple [.Constant (.str kd) j1 cp1, .Subscript a (.Constant (.int 0) j cp) p1] x1 p2) Y.env) (fun u z => ∃ c p J J', u = .ref p ∧ Q c J ∧ Same J J' ∧ Inv Y pn σ J' z ∧ R Y.K J' (.ref p) (.stp z.toks [tl kd, [c]])) Y.xe s := by
  refine wpAny_Tuple_spliced ?_
  rw [h2]
  show wpAny _ _ (spliced [(false, eval (.Constant (.str kd) j1 cp1) Y.env), (false, eval (.Subscript a (.Constant (.int 0) j cp) p1) Y.env)]) _ _ s
  refine Calls.spliced_cons (Calls.Constant_str (Calls.spliced_cons ?_))
  refine thn (raw_item0 ha (I.tok (s.toks + 1)) h) fun u z ⟨c, t, J, eu, h1, h3, I2, q⟩ => Calls.spliced_nil ?_
  subst eu
  have r : Vals [V.str kd, .str (mkS [c])] [Value.str kd s.toks, .str (mkS [c]) t] := .cons ⟨_, rfl⟩ (.cons ⟨_, rfl⟩ .nil)
  obtain ⟨hn, I3⟩ := inv_frz I2 r (by show 2 ≤ sizeLine; decide)
  refine ⟨by show 2 ≤ sizeLine; decide, c, _, J, _, rfl, q, same_new hn, I3, ?_⟩
  have e : kd = mkS (tl kd) := (mkS_tl kd).symm
  have := stp_new (K := Y.K) (H := J) (a := z.heap.objs.size) (n := z.toks) (x := c) (t0 := s.toks) (t1 := t) (k := tl kd) (us := []) (ws := []) h1 h3
  rw [← e] at this
  exact this
/-- ((kind, text[0]),) -/
def gOne (K : PySem.W.Frag) (k : List Nat) (ta : TE) : TGE := fun n σ H Q => ta σ H fun x J => ∃ c l, x = .str (mkS (c :: l)) ∧ (c :: l).length ≤ sizeLine ∧ ∀ m v J', n ≤ m → Same J J' → R K J' v (.tup [.stp m [k, [c]]]) → Q m v J'
theorem ge_one {Y : Cx} {a : Expr} {ta : TE} {kd : Str} {j j1 x1 x2 : Nat} {cp cp1 p1 p2 p3 : Pos} (ha : PE Y a ta)
    (h1 : starEach [.Tuple [.Constant (.str kd) j1 cp1, .Subscript a (.Constant (.int 0) j cp) p1] x1 p2] Y.env = [(false, eval (.Tuple [.Constant (.str kd) j1 cp1, .Subscript a (.Constant (.int 0) j cp) p1] x1 p2) Y.env)] := by rfl)
    (h2 : starEach [.Constant (.str kd) j1 cp1, .Subscript a (.Constant (.int 0) j cp) p1] Y.env = [(false, eval (.Constant (.str kd) j1 cp1) Y.env), (false, eval (.Subscript a (.Constant (.int 0) j cp) p1) Y.env)] := by rfl) :
    GE Y (.Tuple [.Tuple [.Constant (.str kd) j1 cp1, .Subscript a (.Constant (.int 0) j cp) p1] x1 p2] x2 p3) (gOne Y.K (tl kd) ta) := ⟨fun pn s σ H Q n hn I q => by
  refine wpAny_Tuple_spliced ?_
  rw [h1]
  show wpAny _ _ (spliced [(false, eval (.Tuple [.Constant (.str kd) j1 cp1, .Subscript a (.Constant (.int 0) j cp) p1] x1 p2) Y.env)]) _ _ s
  refine Calls.spliced_cons ?_
  refine keepN hn (raw_pair ha I q h2) fun u z hz ⟨c, p, J, J', eu, qq, sm, I2, rp⟩ => Calls.spliced_nil ?_
  subst eu
  have r : Vals [V.ref p] [Value.ref p] := .cons rfl .nil
  obtain ⟨hn2, I3⟩ := inv_tup I2 r (by show 1 ≤ sizeLine; decide)
  exact ⟨by show 1 ≤ sizeLine; decide, z.toks, Nat.le_refl _, .ref z.heap.objs.size, _, I3, rfl, qq z.toks _ _ hz (sm.trans (same_new hn2)) (.tup (SqT.of upd_same) (.one (rp.mono (tp_new hn2))))⟩⟩

/-! ### steps_by -/
def stepsBy (p q : Nat) : List Step := if q ∈ sgs then [.none p, .sign p q] else if p ∈ sgs then [.none q, .sign q p] else [.none p, .none q, .over p q, .over q p]
/-- a local name's raw value -/
def Fq (env : Env) (x : Str) (u : Value) (s : Shared) : Prop := env.scope.kind = .function ∧ env.kindOf x = some .local ∧ ∃ m, s.heap.Ns env.locals m ∧ m x = some u
theorem Fq.push {env : Env} {x : Str} {u : Value} {s : Shared} {t : Nat} {h' : Heap} (F : Fq env x u s) (k : ∀ b o, s.heap.get? b = some o → h'.get? b = some o) : Fq env x u { s with heap := h', toks := t } := by
  obtain ⟨a, b, m, ⟨o, es, ep, e, r⟩, hm⟩ := F
  exact ⟨a, b, m, ⟨o, es, ep, k _ _ e, r⟩, hm⟩
theorem raw_nm {M : Model} {A : Around} {env : Env} {x : Str} {u : Value} {s : Shared} {pos : Pos} {Q E : Value → Shared → Prop} (F : Fq env x u s) (h : Q u s) (hd : (x == ("__debug__" : Str)) = false := by decide) : wpAny M A (eval (.Name x pos) env) Q E s := by
  obtain ⟨a, b, m, hn, hm⟩ := F
  exact wpAny_Name (wpAny_loadName_local a b hn hm h) hd
/-- (kind, x), (kind, x, y) of names -/
theorem raw_two {Y : Cx} {kd x : Str} {c j1 x1 : Nat} {t : Tok} {cp1 p1 p2 : Pos} {pn : List (Addr × Obj)} {s : Shared} {σ : L2.St} {H : Hp} {Q E : Value → Shared → Prop} (I : Inv Y pn σ H s) (F : Fq Y.env x (.str (mkS [c]) t) s) (h1 : 1 ≤ t) (h2 : t < s.toks)
    (hs : starEach [.Constant (.str kd) j1 cp1, .Name x p1] Y.env = [(false, eval (.Constant (.str kd) j1 cp1) Y.env), (false, eval (.Name x p1) Y.env)])
    (q : ∀ p z J, Same H J → Inv Y pn σ J z → s.toks ≤ z.toks → (∀ y u, Fq Y.env y u s → Fq Y.env y u z) → R Y.K J (.ref p) (.stp s.toks [tl kd, [c]]) → Q (.ref p) z) (hd : (x == ("__debug__" : Str)) = false := by decide) :
    wpAny (model Y.prog Y.w) Y.A (eval (.Tuple [.Constant (.str kd) j1 cp1, .Name x p1] x1 p2) Y.env) Q E s := by
  refine wpAny_Tuple_spliced ?_
  rw [hs]
  show wpAny _ _ (spliced [(false, eval (.Constant (.str kd) j1 cp1) Y.env), (false, eval (.Name x p1) Y.env)]) _ _ s
  have F1 : Fq Y.env x (.str (mkS [c]) t) { s with toks := s.toks + 1 } := F.push fun _ _ e => e
  refine Calls.spliced_cons (Calls.Constant_str (Calls.spliced_cons (raw_nm F1 (Calls.spliced_nil ?_) hd)))
  have r : Vals [V.str kd, .str (mkS [c])] [Value.str kd s.toks, .str (mkS [c]) t] := .cons ⟨_, rfl⟩ (.cons ⟨_, rfl⟩ .nil)
  obtain ⟨hn, I3⟩ := inv_frz (I.tok (s.toks + 1)) r (by show 2 ≤ sizeLine; decide)
  refine ⟨by show 2 ≤ sizeLine; decide, q _ _ _ (same_new hn) I3 (Nat.le_succ _) (fun y u G => G.push fun b o e => Heap.get?_push_of_some _ e) ?_⟩
  have e : kd = mkS (tl kd) := (mkS_tl kd).symm
  have := stp_new (K := Y.K) (H := H) (a := s.heap.objs.size) (n := s.toks) (x := c) (t0 := s.toks) (t1 := t) (k := tl kd) (us := []) (ws := []) h1 h2
  rw [← e] at this
  exact this
theorem raw_three {Y : Cx} {kd x x' : Str} {c c' j1 x1 : Nat} {t t' : Tok} {cp1 p1 p1' p2 : Pos} {pn : List (Addr × Obj)} {s : Shared} {σ : L2.St} {H : Hp} {Q E : Value → Shared → Prop} (I : Inv Y pn σ H s) (F : Fq Y.env x (.str (mkS [c]) t) s) (F' : Fq Y.env x' (.str (mkS [c']) t') s) (h1 : 1 ≤ t) (h2 : t < s.toks)
    (hs : starEach [.Constant (.str kd) j1 cp1, .Name x p1, .Name x' p1'] Y.env = [(false, eval (.Constant (.str kd) j1 cp1) Y.env), (false, eval (.Name x p1) Y.env), (false, eval (.Name x' p1') Y.env)])
    (q : ∀ p z J, Same H J → Inv Y pn σ J z → s.toks ≤ z.toks → (∀ y u, Fq Y.env y u s → Fq Y.env y u z) → R Y.K J (.ref p) (.stp s.toks [tl kd, [c], [c']]) → Q (.ref p) z) (hd : (x == ("__debug__" : Str)) = false := by decide) (hd' : (x' == ("__debug__" : Str)) = false := by decide) :
    wpAny (model Y.prog Y.w) Y.A (eval (.Tuple [.Constant (.str kd) j1 cp1, .Name x p1, .Name x' p1'] x1 p2) Y.env) Q E s := by
  refine wpAny_Tuple_spliced ?_
  rw [hs]
  show wpAny _ _ (spliced [(false, eval (.Constant (.str kd) j1 cp1) Y.env), (false, eval (.Name x p1) Y.env), (false, eval (.Name x' p1') Y.env)]) _ _ s
  have F1 : Fq Y.env x (.str (mkS [c]) t) { s with toks := s.toks + 1 } := F.push fun _ _ e => e
  have F2 : Fq Y.env x' (.str (mkS [c']) t') { s with toks := s.toks + 1 } := F'.push fun _ _ e => e
  refine Calls.spliced_cons (Calls.Constant_str (Calls.spliced_cons (raw_nm F1 (Calls.spliced_cons (raw_nm F2 (Calls.spliced_nil ?_) hd')) hd)))
  have r : Vals [V.str kd, .str (mkS [c]), .str (mkS [c'])] [Value.str kd s.toks, .str (mkS [c]) t, .str (mkS [c']) t'] := .cons ⟨_, rfl⟩ (.cons ⟨_, rfl⟩ (.cons ⟨_, rfl⟩ .nil))
  obtain ⟨hn, I3⟩ := inv_frz (I.tok (s.toks + 1)) r (by show 3 ≤ sizeLine; decide)
  refine ⟨by show 3 ≤ sizeLine; decide, q _ _ _ (same_new hn) I3 (Nat.le_succ _) (fun y u G => G.push fun b o e => Heap.get?_push_of_some _ e) ?_⟩
  have e : kd = mkS (tl kd) := (mkS_tl kd).symm
  have := stp_new (K := Y.K) (H := H) (a := s.heap.objs.size) (n := s.toks) (x := c) (t0 := s.toks) (t1 := t) (k := tl kd) (us := [Value.str (mkS [c']) t']) (ws := [[c']]) h1 h2
  rw [← e] at this
  exact this
/-- x in SIGNS -/
theorem raw_in {Y : Cx} {x : Str} {c : Nat} {t tS : Tok} {p1 p2 pos : Pos} {pn : List (Addr × Obj)} {s : Shared} {σ : L2.St} {H : Hp} {whole : Sem Value} {Q : Bool → Shared → Prop} (I : Inv Y pn σ H s) (F : Fq Y.env x (.str (mkS [c]) t) s) (hg : Gl Y "SIGNS") (hm : Y.mg "SIGNS" = some (.str (Str.ofString "abcdefghijklmnopqrstuvwxyz") tS)) (q : Q (decide (c ∈ sgs)) s)
    (hb : behindInMarks .In (.Name "SIGNS" p2) = false := by rfl) (hd : (x == ("__debug__" : Str)) = false := by decide) :
    wpAny (model Y.prog Y.w) Y.A (isTrue (.Compare (.Name x p1) [.In] [.Name "SIGNS" p2] pos) Y.env whole) Q Y.xe s := by
  refine wpAny_isTrue_Compare1 (raw_nm F (ld_glob I hg hm (PyProof.Rows.in_str (wpAny_truthy_bool ?_)) (by decide)) hd) hb
  rw [show mkS [c] = ⟨#[c]⟩ from rfl, PySem.StrLaws.found_one]
  exact q

section
variable {prog : Program} {w : World} {A : Around} {E Q : Value → Shared → Prop} {s : Shared} {env : Env} {e1 e2 e3 e4 : Expr} {x1 : Nat} {pos : Pos}
theorem sp2 (hs : starEach [e1, e2] env = [(false, eval e1 env), (false, eval e2 env)]) (h : wpAny (model prog w) A (eval e1 env) (fun u1 z1 => wpAny (model prog w) A (eval e2 env) (fun u2 z2 => Q (.ref z2.heap.objs.size) { z2 with heap := z2.heap.push { cls := .type "tuple", data := .seq [u1, u2].toArray } }) E z1) E s) :
    wpAny (model prog w) A (eval (.Tuple [e1, e2] x1 pos) env) Q E s := by
  refine wpAny_Tuple_spliced ?_
  rw [hs]
  show wpAny _ _ (spliced [(false, eval e1 env), (false, eval e2 env)]) _ _ s
  exact Calls.spliced_cons (wpAny_mono h (fun u1 z1 h1 => Calls.spliced_cons (wpAny_mono h1 (fun u2 z2 h2 => Calls.spliced_nil ⟨by show 2 ≤ sizeLine; decide, h2⟩) fun _ _ x => x)) fun _ _ x => x)
theorem sp4 (hs : starEach [e1, e2, e3, e4] env = [(false, eval e1 env), (false, eval e2 env), (false, eval e3 env), (false, eval e4 env)]) (h : wpAny (model prog w) A (eval e1 env) (fun u1 z1 => wpAny (model prog w) A (eval e2 env) (fun u2 z2 => wpAny (model prog w) A (eval e3 env) (fun u3 z3 => wpAny (model prog w) A (eval e4 env) (fun u4 z4 => Q (.ref z4.heap.objs.size) { z4 with heap := z4.heap.push { cls := .type "tuple", data := .seq [u1, u2, u3, u4].toArray } }) E z3) E z2) E z1) E s) :
    wpAny (model prog w) A (eval (.Tuple [e1, e2, e3, e4] x1 pos) env) Q E s := by
  refine wpAny_Tuple_spliced ?_
  rw [hs]
  show wpAny _ _ (spliced [(false, eval e1 env), (false, eval e2 env), (false, eval e3 env), (false, eval e4 env)]) _ _ s
  exact Calls.spliced_cons (wpAny_mono h (fun u1 z1 h1 => Calls.spliced_cons (wpAny_mono h1 (fun u2 z2 h2 => Calls.spliced_cons (wpAny_mono h2 (fun u3 z3 h3 => Calls.spliced_cons (wpAny_mono h3 (fun u4 z4 h4 => Calls.spliced_nil ⟨by show 4 ≤ sizeLine; decide, h4⟩) fun _ _ x => x)) fun _ _ x => x)) fun _ _ x => x)) fun _ _ x => x)
end
abbrev nPQ : List Str := ["p", "q"]
abbrev aPQ (p : Nat) (tp : Tok) (q : Nat) (tq : Tok) : List Value := [.str (mkS [p]) tp, .str (mkS [q]) tq]
/-- steps_by, by the raw arguments -/
def SB (P : Program) (w : World) (K : PySem.W.Frag) (mg : Str → Option Value) (base : Heap) (k : Nat) (f : Addr) (fd : FuncData) : Prop :=
  ∀ (A : Around) (outer : List Env) (s : Shared) (H : Hp) (args : Args) (p q : Nat) (tp tq : Tok), Room k A → Env0 P w K mg base A outer s H → BindsTo s fd args (nPQ.zip (aPQ p tp q tq)) → 1 ≤ tp → tp < s.toks → 1 ≤ tq → tq < s.toks →
    codeAny (model P w) A (.call (.ref f) args) (fun r z => match r with
      | .ok (.ret u) => CE outer P w H s (fun v J => Same H J ∧ R K J v (.tup ((stepsBy p q).map fun t => .stp z.toks t.ws))) u z
      | _ => False) s
theorem sb_ok {P : Program} {w : World} {K : PySem.W.Frag} {mg : Str → Option Value} {base : Heap} {tS tU tE tL tN : Tok} {f : Addr} {fd : FuncData} {k : Nat} (F : Fun K "steps_by" "steps_by" s_steps_by f fd) (T : Txt mg tS tU tE tL tN) : SB P w K mg base (k + 1) f fd := by
  obtain ⟨oc, od, kV, doc, pm, an, cdv, ct, osl, rfl, lk, hcd⟩ := F.ex
  intro A outer s H args p q tp tq hr e0 bt a1 a2 a3 a4
  have S := sc_steps_by
  have rV : Vals [V.str (mkS [p]), .str (mkS [q])] [Value.str (mkS [p]) tp, .str (mkS [q]) tq] := .cons ⟨_, rfl⟩ (.cons ⟨_, rfl⟩ .nil)
  have KX : K.In s.heap := e0.mod.kin.keeps fun b o q => (e0.bs b o q).1
  have lim : s.heap.NoLimit := e0.mod.nolimit.keeps fun b o q => (e0.bs b o q).1
  have hkind : ∀ y ∈ nPQ.zip (aPQ p tp q tq), (defScope s_steps_by).names.lookup y.1 = some .local ∨ ((defScope s_steps_by).names.lookup y.1 = some .cell ∧ ((cellsFrom (s.heap.objs.size + 1) (defScope s_steps_by).names []).lookup y.1).isSome = true) := fun ⟨a, v⟩ hy => by
    rcases S.par a (List.of_mem_zip hy).1 with z | z
    · exact .inl z
    · exact .inr ⟨z, PySem.W.cellsFrom_some _ _ _ (.inl z)⟩
  refine codeAny_call_function hr.depth (KX _ _ lk) rfl S.co S.gen rfl (PySem.W.codeRec_of KX hcd) (bt _ _ _ _ ?_)
  refine keepN (n := s.toks) (Q := fun env s1 => env = PyProof.Rows.envOfC "steps_by" (defScope s_steps_by) s.heap.objs.size f cdv ∧ InCallC s s.heap.objs.size (bindL (PyProof.Rows.envOfC "steps_by" (defScope s_steps_by) s.heap.objs.size f cdv).kindOf (nPQ.zip (aPQ p tp q tq)) fun _ => none) (cellsFrom (s.heap.objs.size + 1) (defScope s_steps_by).names []) (bindC (PyProof.Rows.envOfC "steps_by" (defScope s_steps_by) s.heap.objs.size f cdv).kindOf (nPQ.zip (aPQ p tp q tq)) fun _ => none) s1) (Nat.le_refl _) (wpAny_newFunctionEnv_cells S.kind hkind fun env he s1 z => by
    subst he
    exact ⟨rfl, z⟩) fun env s1 hz ⟨he, z⟩ => ?_
  subst he
  refine ⟨lim.keeps z.toInCall.keep, codeAny_func ?_⟩
  have I : Inv (cxOf CX0 P w K mg base ["p", "q"] "steps_by" (defScope s_steps_by) f cdv A outer s H E0) [] (start ["p", "q"] [.str (mkS [p]), .str (mkS [q])]) H s1 := inv_start S hr.hd e0 rfl rV z
  have nd : nPQ.Nodup := S.nd
  have Fp : Fq (cxOf CX0 P w K mg base ["p", "q"] "steps_by" (defScope s_steps_by) f cdv A outer s H E0).env "p" (.str (mkS [p]) tp) s1 := ⟨S.kind, rfl, _, z.toInCall.ns, bindL_get nd (i := 0) rfl rfl rfl⟩
  have Fq' : Fq (cxOf CX0 P w K mg base ["p", "q"] "steps_by" (defScope s_steps_by) f cdv A outer s H E0).env "q" (.str (mkS [q]) tq) s1 := ⟨S.kind, rfl, _, z.toInCall.ns, bindL_get nd (i := 1) rfl rfl rfl⟩
  have fin : ∀ {u1 : List Value} {v1 : List V} {z2 : Shared} {J : Hp} {ts : List Step}, Inv (cxOf CX0 P w K mg base ["p", "q"] "steps_by" (defScope s_steps_by) f cdv A outer s H E0) [] (start ["p", "q"] [.str (mkS [p]), .str (mkS [q])]) J z2 → Same H J → Vals v1 u1 → v1.length ≤ 4 → (stepsBy p q) = ts → RL K J v1 (ts.map fun t => .stp z2.toks t.ws) →
      CE outer P w H s (fun v J => Same H J ∧ R K J v (.tup ((stepsBy p q).map fun t => .stp z2.toks t.ws))) (.ref z2.heap.objs.size) { z2 with heap := z2.heap.push { cls := .type "tuple", data := .seq u1.toArray } } := fun {u1 v1 z2 J ts} I2 sm r hl e rl => by
    obtain ⟨hn, I3⟩ := inv_tup I2 r (Nat.le_trans hl (by decide))
    subst e
    exact ⟨.ref z2.heap.objs.size, _, I3.os, I3.bare, I3.base, I3.hok, rfl, sm.trans (same_new hn), .tup (SqT.of upd_same) (rl.mono (tp_new hn))⟩
  have b1 : tp < s1.toks := Nat.lt_of_lt_of_le a2 hz
  have b2 : tq < s1.toks := Nat.lt_of_lt_of_le a4 hz
  refine wpAny_execs_cons (wpAny_If (raw_in I Fq' rfl T.mSIGNS ?_))
  by_cases hq : q ∈ sgs
  · rw [decide_eq_true hq]
    refine wpAny_execs_cons (wpAny_Return_some (sp2 rfl ?_))
    refine raw_two I Fp a1 b1 rfl fun p1 z1 J1 sm1 I1 tk1 fq1 r1 => ?_
    refine raw_three I1 (fq1 _ _ Fp) (fq1 _ _ Fq') a1 (Nat.lt_of_lt_of_le b1 tk1) rfl fun p2 z2 J2 sm2 I2 tk2 fq2 r2 => ?_
    refine fin (ts := [.none p, .sign p q]) (v1 := [.ref p1, .ref p2]) I2 (sm1.trans sm2) (.cons rfl (.cons rfl .nil)) (by show 2 ≤ 4; omega) (if_pos hq) ?_
    exact .cons ((r1.mono (Tp.of sm2)).later (Nat.le_trans tk1 tk2)) (.cons (r2.later tk2) .nil)
  · rw [decide_eq_false hq]
    refine wpAny_execs_nil ?_
    refine wpAny_execs_cons (wpAny_If (raw_in I Fp rfl T.mSIGNS ?_))
    by_cases hp : p ∈ sgs
    · rw [decide_eq_true hp]
      refine wpAny_execs_cons (wpAny_Return_some (sp2 rfl ?_))
      refine raw_two I Fq' a3 b2 rfl fun p1 z1 J1 sm1 I1 tk1 fq1 r1 => ?_
      refine raw_three I1 (fq1 _ _ Fq') (fq1 _ _ Fp) a3 (Nat.lt_of_lt_of_le b2 tk1) rfl fun p2 z2 J2 sm2 I2 tk2 fq2 r2 => ?_
      refine fin (ts := [.none q, .sign q p]) (v1 := [.ref p1, .ref p2]) I2 (sm1.trans sm2) (.cons rfl (.cons rfl .nil)) (by show 2 ≤ 4; omega) ?_ ?_
      · unfold stepsBy
        rw [if_neg hq, if_pos hp]
      · exact .cons ((r1.mono (Tp.of sm2)).later (Nat.le_trans tk1 tk2)) (.cons (r2.later tk2) .nil)
    · rw [decide_eq_false hp]
      refine wpAny_execs_nil ?_
      refine wpAny_execs_cons (wpAny_Return_some (sp4 rfl ?_))
      refine raw_two I Fp a1 b1 rfl fun p1 z1 J1 sm1 I1 tk1 fq1 r1 => ?_
      refine raw_two I1 (fq1 _ _ Fq') a3 (Nat.lt_of_lt_of_le b2 tk1) rfl fun p2 z2 J2 sm2 I2 tk2 fq2 r2 => ?_
      refine raw_three I2 (fq2 _ _ (fq1 _ _ Fp)) (fq2 _ _ (fq1 _ _ Fq')) a1 (Nat.lt_of_lt_of_le b1 (Nat.le_trans tk1 tk2)) rfl fun p3 z3 J3 sm3 I3 tk3 fq3 r3 => ?_
      refine raw_three I3 (fq3 _ _ (fq2 _ _ (fq1 _ _ Fq'))) (fq3 _ _ (fq2 _ _ (fq1 _ _ Fp))) a3 (Nat.lt_of_lt_of_le b2 (Nat.le_trans tk1 (Nat.le_trans tk2 tk3))) rfl fun p4 z4 J4 sm4 I4 tk4 fq4 r4 => ?_
      refine fin (ts := [.none p, .none q, .over p q, .over q p]) (v1 := [.ref p1, .ref p2, .ref p3, .ref p4]) I4 (((sm1.trans sm2).trans sm3).trans sm4) (.cons rfl (.cons rfl (.cons rfl (.cons rfl .nil)))) (by show 4 ≤ 4; omega) ?_ ?_
      · unfold stepsBy
        rw [if_neg hq, if_neg hp]
      · exact .cons ((((r1.mono (Tp.of sm2)).mono (Tp.of sm3)).mono (Tp.of sm4)).later (Nat.le_trans tk1 (Nat.le_trans tk2 (Nat.le_trans tk3 tk4)))) (.cons (((r2.mono (Tp.of sm3)).mono (Tp.of sm4)).later (Nat.le_trans tk2 (Nat.le_trans tk3 tk4))) (.cons ((r3.mono (Tp.of sm4)).later (Nat.le_trans tk3 tk4)) (.cons (r4.later tk4) .nil)))

/-! ### steps_of -/
/-- steps_by(left[0], right[0]) -/
def gSB (K : PySem.W.Frag) (ta tb : TE) : TGE := fun n σ H Q => ta σ H fun x J => ∃ p l, x = .str (mkS (p :: l)) ∧ (p :: l).length ≤ sizeLine ∧ tb σ J fun y J2 => ∃ q r, y = .str (mkS (q :: r)) ∧ (q :: r).length ≤ sizeLine ∧
  ∀ m v J', n ≤ m → Same J2 J' → R K J' v (.tup ((stepsBy p q).map fun t => .stp m t.ws)) → Q m v J'
theorem ge_sb {Y : Cx} {k : Nat} {f : Addr} {fd : FuncData} {a b : Expr} {ta tb : TE} {p p1 p2 cp1 cp2 pos : Pos} {j1 j2 : Nat} (B : SB Y.prog Y.w Y.K Y.mg Y.base k f fd) (hm : Y.mg "steps_by" = some (.ref f)) (kp : PySem.W.keepIn Y.K (.ref f) = true) (hb : Binds Y.K fd ["p", "q"] []) (hr : Room k Y.A) (hg : Gl Y "steps_by") (ha : PE Y a ta) (hb2 : PE Y b tb)
    (he : starEach (.Subscript a (.Constant (.int 0) j1 cp1) p1 :: [.Subscript b (.Constant (.int 0) j2 cp2) p2]) Y.env = (false, eval (.Subscript a (.Constant (.int 0) j1 cp1) p1) Y.env) :: starEach [.Subscript b (.Constant (.int 0) j2 cp2) p2] Y.env := by rfl)
    (he2 : starEach [.Subscript b (.Constant (.int 0) j2 cp2) p2] Y.env = [(false, eval (.Subscript b (.Constant (.int 0) j2 cp2) p2) Y.env)] := by rfl)
    (hpl : (backTo pos (starEach [.Subscript b (.Constant (.int 0) j2 cp2) p2] Y.env)).any (·.1) = false := by rfl) :
    GE Y (.Call (.Name "steps_by" p) [.Subscript a (.Constant (.int 0) j1 cp1) p1, .Subscript b (.Constant (.int 0) j2 cp2) p2] [] pos) (gSB Y.K ta tb) := ⟨fun pn s σ H Q n hn I q => by
  refine wpAny_Call_Name_kw (ld_glob I hg hm ?_ (by decide))
  refine PySem.W.callWith_K (h₀ := Y.base) I.ok.mod.kin kp ?_ he hpl
  rw [he, he2]
  show wpAny _ _ (spliced [(false, eval (.Subscript a (.Constant (.int 0) j1 cp1) p1) Y.env), (false, eval (.Subscript b (.Constant (.int 0) j2 cp2) p2) Y.env)]) _ _ s
  refine Calls.spliced_cons (keepN hn (raw_item0 ha I q) fun u1 z1 hz1 ⟨c1, t1, J1, e1, a1, a2, I1, q1⟩ => ?_)
  subst e1
  refine Calls.spliced_cons (keepN (Nat.le_refl z1.toks) (raw_item0 hb2 I1 q1) fun u2 z2 hz2 ⟨c2, t2, J2, e2, a3, a4, I2, q2⟩ => ?_)
  subst e2
  refine Calls.spliced_nil ⟨I2.kIn, ?_⟩
  have bt := hb z2 (aPQ c1 t1 c2 t2) I2.kIn rfl
  refine wpAny_call (codeAny_mono (codeAny_toks_of (Nat.le_refl z2.toks) (B Y.A Y.stack z2 J2 ⟨aPQ c1 t1 c2 t2, []⟩ c1 c2 t1 t2 hr I2.env0 bt a1 (Nat.lt_of_lt_of_le a2 hz2) a3 a4)) fun rs z3 ⟨hz3, hq⟩ => ?_)
  cases rs with
  | error e => exact hq.elim
  | ok fl =>
    cases fl with
    | ret u =>
      obtain ⟨v, J3, I3, rv, sm, r3⟩ := I2.after hq
      exact ⟨z3.toks, Nat.le_refl _, v, J3, I3, rv, q2 z3.toks v J3 (Nat.le_trans hz1 (Nat.le_trans hz2 hz3)) sm r3⟩
    | next => exact hq.elim
    | brk => exact hq.elim
    | cont => exact hq.elim⟩
end GW

set_option Elab.async false
set_option linter.all false
set_option maxRecDepth 100000
set_option maxHeartbeats 4000000
/-! steps_of, put_for. -/
namespace GW
open PySem PySem.Spec L2 TL
abbrev s_put_for : Stmt := topS 36
theorem sc_put_for : FnScope ["step"] ["step"] (defScope s_put_for) := ⟨rfl, rfl, rfl, by decide +kernel, rfl, by decide +kernel, by decide +kernel⟩
def NE (s : Sys) : Prop := ∀ e ∈ s, e ≠ ([], [])
def stepsE (e : Eqn) : List Step := match e.1, e.2 with
  | p :: _, q :: _ => stepsBy p q
  | l, r => match l ++ r with
    | c :: _ => [.none c]
    | [] => []
def stepsOf (r : Room') : List Step := match r.2 with
  | [] => []
  | e :: es => if dead (e :: es) = true then [] else stepsE e
def stpD (m : Nat) (ts : List Step) : D := .tup (ts.map fun t => .stp m t.ws)
section
variable {P : Program} {w : World} {K : PySem.W.Frag} {mg : Str → Option Value} {base : Heap} {tS tU tE tL tN : Tok} {σ : L2.St} {H H' : Hp} {ta tb : TE} {n : Nat}
theorem RL.plains {vs : List V} {m : Nat} : ∀ {ts : List Step} {vs : List V}, RL K H vs (ts.map fun t => D.stp m t.ws) → RL K H vs (ts.map stepD)
  | [], _, .nil => .nil
  | _ :: _, _, .cons h t => .cons h.plain (RL.plains (vs := []) t)
theorem R.plains {v : V} {m : Nat} {ts : List Step} (h : R K H v (stpD m ts)) : R K H v (.tup (ts.map stepD)) := by
  cases h with
  | tup hs ht => exact .tup hs (RL.plains (vs := []) ht)
theorem eg_one {k l : List Nat} {c : Nat} (h : EvD K ta σ H (.tx (c :: l))) (hl : (c :: l).length ≤ sizeLine) : EvG K (gOne K k ta) n σ H (fun m => .tup [.stp m [k, [c]]]) := fun m H1 hm x Q q => h H1 x _ fun v H2 y r => by
  cases r
  exact ⟨c, l, rfl, hl, fun j v J hj z rv => q j v J hj (y.trans z) rv⟩
theorem eg_sb {l r : List Nat} {p q : Nat} (h1 : EvD K ta σ H (.tx (p :: l))) (h2 : EvD K tb σ H (.tx (q :: r))) (hl : (p :: l).length ≤ sizeLine) (hr : (q :: r).length ≤ sizeLine) : EvG K (gSB K ta tb) n σ H (fun m => stpD m (stepsBy p q)) := fun m H1 hm x Q qq => h1 H1 x _ fun v H2 y r1 => by
  cases r1
  refine ⟨p, l, rfl, hl, h2 H2 (x.trans y) _ fun v H3 y3 r3 => ?_⟩
  cases r3
  exact ⟨q, r, rfl, hr, fun j v J hj z rv => qq j v J hj ((y.trans y3).trans z) rv⟩
def pStepsOf (n : Nat) (ds : List D) (d : Nat → D) : Prop := ∃ r, ds = [roomD r] ∧ Ok r.2 ∧ NE r.2 ∧ d = fun m => stpD m (stepsOf r)
theorem ok_steps_of {f fB : Addr} {fd fdB : FuncData} (F : Fun K "steps_of" "steps_of" s_steps_of f fd) (T : Txt mg tS tU tE tL tN) (C_is_ended : Cal P w K mg base 1 "is_ended" ["room"] (spD K pEnded)) (C_is_dead : Cal P w K mg base 2 "is_dead" ["room"] (spD K pDead))
    (B : SB P w K mg base 1 fB fdB) (hmB : mg "steps_by" = some (.ref fB)) (kpB : PySem.W.keepIn K (.ref fB) = true) (hbB : Binds K fdB ["p", "q"] []) : FnG P w K mg base 3 f fd ["room"] (spG K pStepsOf) := by
  refine FunG.ok F sc_steps_of (fun vs n H Q h => ?_) (fun cdv A outer s H vs Q n hr h => ?_)
  · obtain ⟨ds, d, r, ⟨_, rfl, _⟩, _⟩ := h
    exact r.len
  · obtain ⟨ds, d, rr, ⟨r, rfl, h1, h2, rfl⟩, q⟩ := h
    have S0 : Sl K H (start ["room", "left", "right"] vs) [some (.tup [.tx r.1, .tup (r.2.map eD)]), none, none] := Sl.start rr
    refine ⟨_, gss_cons (gs_if (PW.pt (pw_or (pt_val (pe_cal C_is_ended (hr.mono (by decide)) (by rfl) (pa_cons (pv 0) pa_nil))) (pw_or1 (pt_val (pe_cal C_is_dead (hr.mono (by decide)) (by rfl) (pa_cons (pv 0) pa_nil)))))) (gss_of (pss_one (ps_ret (pe_tup pa_nil)))) (gss_of pss_nil))
      (gss_cons (gs_of (ps_asg (pe_ix (ix_tupK (K := K)) (pe_ix (ix_tupK (K := K)) (pv 0) pe_int (fun _ _ => rfl)) pe_int (fun _ _ => rfl)) (pg_tup rfl (pgs_cons (pg_name (i := 1) sc_steps_of.nd rfl (.inl rfl)) (pgs_cons (pg_name (i := 2) sc_steps_of.nd rfl (.inl rfl)) (pgs_nil))))))
      (gss_cons (gs_if (PW.pt (pw_or (pt_cmpR op_eq (pv 1) pe_str (nomark _)) (pw_or1 (pt_cmpR op_eq (pv 2) pe_str (nomark _))))) (gss_one (gs_ret (ge_one (pe_op op_addS (pv 1) (pv 2))))) (gss_of pss_nil))
      (gss_one (gs_ret (ge_sb B hmB kpB hbB (hr.mono (by decide)) (by rfl) (pv 1) (pv 2)))))), ?_⟩
    refine gst_if (et_or (et_B (ev_call (P := pEnded) (eva_cons (ev_var S0 rfl) eva_nil) ⟨r, rfl, rfl⟩)) fun _ => et_B (ev_call (P := pDead) (eva_cons (ev_var S0 rfl) eva_nil) ⟨r, rfl, h1, rfl⟩)) (fun hb H1 x1 => ?_) (fun hb H1 x1 => ?_)
    · have e : stepsOf r = [] := by
        unfold stepsOf
        revert hb
        cases r.2 with
        | nil => exact fun _ => rfl
        | cons e es =>
          intro hb
          have hb : dead (e :: es) = true := by simpa using hb
          exact if_pos hb
      refine st_ret (K := K) (ev_tup eva_nil (Nat.zero_le _)) ?_
      intro v H4 x4 r4
      refine q n v H4 (Nat.le_refl _) (x1.trans x4) ?_
      show R K H4 v (stpD n (stepsOf r))
      rw [e]
      exact r4
    · obtain ⟨nm, es⟩ := r
      cases es with
      | nil => simp at hb
      | cons e es =>
        have hb : dead (e :: es) = false := by simpa using hb
        have eo : stepsOf (nm, e :: es) = stepsE e := if_neg (by rw [hb]; exact Bool.false_ne_true)
        have hok := h1.2 e List.mem_cons_self
        obtain ⟨l, r⟩ := e
        have hl1 : l.length ≤ 1000 := hok.2.2.1
        have hl2 : r.length ≤ 1000 := hok.2.2.2
        have S1 := S0.mono (Tp.of (K := K) x1)
        refine st_asg S1 (ev_ixT (n := 0) (d := .tup [.tx l, .tx r]) (ev_ixT (n := 1) (ev_var S1 rfl) ev_int rfl rfl) ev_int rfl rfl) gd_pair fun σ2 H2 x2 S2 => ?_
        dsimp only [GEnds.at, gSeq]
        refine gst_if (b := decide (l = [] ∨ r = [])) (EvT.to (et_or (et_test (ev_eqS (ev_var S2 rfl) ev_str)) fun _ => et_test (ev_eqS (ev_var S2 rfl) ev_str)) ?_) (fun hc H3 x3 => ?_) (fun hc H3 x3 => ?_)
        · show (decide (l = []) || decide (r = [])) = _
          cases l <;> cases r <;> simp
        · have hc := of_decide_eq_true hc
          have S3 := S2.mono (Tp.of (K := K) x3)
          obtain ⟨c, t, hcat⟩ : ∃ c t, l ++ r = c :: t := by
            cases l with
            | nil =>
              cases r with
              | nil => exact absurd rfl (h2 ([], []) List.mem_cons_self)
              | cons y r => exact ⟨y, r, rfl⟩
            | cons y l => exact ⟨y, l ++ r, rfl⟩
          have hE : stepsE (l, r) = [.none c] := by
            unfold stepsE
            cases l with
            | nil =>
              simp only [List.nil_append] at hcat
              subst hcat
              rfl
            | cons y l =>
              rcases hc with hc | hc
              · cases hc
              · subst hc
                simp only [List.append_nil, List.cons.injEq] at hcat
                obtain ⟨rfl, rfl⟩ := hcat
                simp
          have hln : (c :: t).length ≤ sizeLine := by
            rw [← hcat, List.length_append]
            exact line_ge (by omega)
          refine gst_ret (eg_one (EvD.to (e := .tx (c :: t)) (ev_addS (ev_var S3 rfl) (ev_var S3 rfl) (line_ge (by omega))) (by rw [hcat])) hln) fun m v H4 hm x4 r4 => ?_
          refine q m v H4 hm (((x1.trans x2).trans x3).trans x4) ?_
          show R K H4 v (stpD m (stepsOf (nm, (l, r) :: es)))
          rw [eo, hE]
          exact r4
        · have hc := of_decide_eq_false hc
          have S3 := S2.mono (Tp.of (K := K) x3)
          obtain ⟨p, l, rfl⟩ : ∃ x t, l = x :: t := by
            cases l with
            | nil => exact absurd (.inl rfl) hc
            | cons x t => exact ⟨x, t, rfl⟩
          obtain ⟨y, r, rfl⟩ : ∃ x t, r = x :: t := by
            cases r with
            | nil => exact absurd (.inr rfl) hc
            | cons x t => exact ⟨x, t, rfl⟩
          refine gst_ret (eg_sb (ev_var S3 rfl) (ev_var S3 rfl) (line_ge (by omega)) (line_ge (by omega))) fun m v H4 hm x4 r4 => ?_
          refine q m v H4 hm (((x1.trans x2).trans x3).trans x4) ?_
          show R K H4 v (stpD m (stepsOf (nm, (p :: l, y :: r) :: es)))
          rw [eo]
          exact r4
/-- its plain promise -/
def pStepsP (ds : List D) (d : D) : Prop := ∃ r, ds = [roomD r] ∧ Ok r.2 ∧ NE r.2 ∧ d = .tup ((stepsOf r).map stepD)
theorem steps_plain {k : Nat} (C : CalG P w K mg base k "steps_of" ["room"] (spG K pStepsOf)) : Cal P w K mg base k "steps_of" ["room"] (spD K pStepsP) := by
  obtain ⟨f, fd, F, m, kp, b⟩ := C
  refine ⟨f, fd, F.plain (fun vs H Q E h => ?_) (fun vs H Q E h => ?_), m, kp, b⟩
  · obtain ⟨ds, d, r, ⟨_, rfl, _⟩, _⟩ := h
    exact r.len
  · obtain ⟨ds, d, rr, ⟨r, rfl, h1, h2, rfl⟩, q⟩ := h
    exact ⟨_, _, rr, ⟨r, rfl, h1, h2, rfl⟩, fun k v H' _ x rv => q v H' x rv.plains⟩
end
end GW

set_option Elab.async false
set_option linter.all false
set_option maxRecDepth 100000
set_option maxHeartbeats 4000000
/-! put_for, stepped: where replace wants its tokens. -/
namespace GW
open PySem PySem.Spec L2 TL
abbrev s_stepped : Stmt := topS 37
theorem sc_stepped : FnScope ["room", "step", "names", "put", "pairs", "left", "right"] ["room", "step"] (defScope s_stepped) := ⟨rfl, rfl, rfl, by decide +kernel, rfl, by decide +kernel, by decide +kernel⟩
def putW : Step → List Nat
  | .none _ => []
  | .sign x a => [a, x]
  | .over x y => [y, x]
section
variable {Y : Cx} {pn : List (Addr × Obj)} {s : Shared} {σ : L2.St} {H : Hp} {n : Nat}
theorem raw_if {c : Expr} {a b : List Stmt} {pos : Pos} {tc : TT} {Q : Flow → Shared → Prop} {p : Bool} (hc : PT Y c tc) (hn : n ≤ s.toks) (I : Inv Y pn σ H s) (h : EvT tc σ H p) (q : ∀ z J, n ≤ z.toks → Same H J → Inv Y pn σ J z → wpAny (model Y.prog Y.w) Y.A (execs (if p = true then a else b) Y.env) Q Y.xe z) :
    wpAny (model Y.prog Y.w) Y.A (exec (.If c a b pos) Y.env) Q Y.xe s :=
  wpAny_If (keepN hn (hc.run pn s σ H (fun d J => d = p ∧ Same H J) I (h.go fun J x => ⟨rfl, x⟩)) fun d z hz ⟨J, I2, e, x⟩ => by
    subst e
    have := q z J hz x I2
    cases d with
    | true => exact this
    | false => exact this)
theorem raw_add {l r : Expr} {pos : Pos} {ta tb : TE} {x y : List Nat} (ha : PE Y l ta) (hb : PE Y r tb) (hn : n ≤ s.toks) (I : Inv Y pn σ H s) (h1 : EvD Y.K ta σ H (.tx x)) (h2 : EvD Y.K tb σ H (.tx y)) (hx : x ≠ []) (hy : y ≠ []) (hl : x.length + y.length ≤ sizeLine) :
    wpAny (model Y.prog Y.w) Y.A (eval (.BinOp l .Add r pos) Y.env) (fun u z => ∃ tk J, u = .str (mkS (x ++ y)) tk ∧ n ≤ tk ∧ tk < z.toks ∧ Same H J ∧ Inv Y pn σ J z) Y.xe s := by
  refine wpAny_BinOp (keepN hn (ha.run pn s σ H (fun v J => v = .str (mkS x) ∧ Same H J) I (h1.go fun v J e r => ?_)) fun u z hz ⟨v, J, I2, ru, ev, e⟩ => ?_)
  · cases r
    exact ⟨rfl, e⟩
  · subst ev
    obtain ⟨t1, rfl⟩ := ru
    refine keepN hz (hb.run pn z σ J (fun v J2 => v = .str (mkS y) ∧ Same J J2) I2 ((h2.up e).go fun v J2 e2 r => ?_)) fun u2 z2 hz2 ⟨v2, J2, I3, ru2, ev2, e2⟩ => ?_
    · cases r
      exact ⟨rfl, e2⟩
    · subst ev2
      obtain ⟨t2, rfl⟩ := ru2
      refine PySem.P.add_str ?_
      rw [mkS_len, mkS_len, if_neg (by simpa using fun z => hx z), if_neg (by simpa using fun z => hy z)]
      refine ⟨by rw [mkS_app, mkS_len, List.length_append]; exact hl, z2.toks, J2, by rw [mkS_app], hz2, Nat.lt_succ_self _, e.trans e2, I3.tok _⟩
end
/-- put_for, its text's token new -/
def PF (P : Program) (w : World) (K : PySem.W.Frag) (mg : Str → Option Value) (base : Heap) (k : Nat) (f : Addr) (fd : FuncData) : Prop :=
  ∀ (A : Around) (outer : List Env) (s : Shared) (H : Hp) (args : Args) (a : Addr) (t : Step) (n : Nat), Room k A → Env0 P w K mg base A outer s H → BindsTo s fd args ((["step"] : List Str).zip [Value.ref a]) → R K H (.ref a) (.stp n t.ws) →
    codeAny (model P w) A (.call (.ref f) args) (fun r z => match r with
      | .ok (.ret u) => ∃ tk, u = .str (mkS (putW t)) tk ∧ s.toks ≤ tk ∧ tk < z.toks ∧ CE outer P w H s (fun v J => v = .str (mkS (putW t)) ∧ Same H J) u z
      | _ => False) s
section
variable {P : Program} {w : World} {K : PySem.W.Frag} {mg : Str → Option Value} {base : Heap} {tS tU tE tL tN : Tok}
theorem pf_ok {f : Addr} {fd : FuncData} {k : Nat} (F : Fun K "put_for" "put_for" s_put_for f fd) : PF P w K mg base (k + 1) f fd := by
  obtain ⟨oc, od, kV, doc, pm, an, cdv, ct, osl, rfl, lk, hcd⟩ := F.ex
  intro A outer s H args a t n hr e0 bt ra
  have S := sc_put_for
  have rV : Vals [V.ref a] [Value.ref a] := .cons rfl .nil
  have KX : K.In s.heap := e0.mod.kin.keeps fun b o q => (e0.bs b o q).1
  have lim : s.heap.NoLimit := e0.mod.nolimit.keeps fun b o q => (e0.bs b o q).1
  have hkind : ∀ y ∈ (["step"] : List Str).zip [Value.ref a], (defScope s_put_for).names.lookup y.1 = some .local ∨ ((defScope s_put_for).names.lookup y.1 = some .cell ∧ ((cellsFrom (s.heap.objs.size + 1) (defScope s_put_for).names []).lookup y.1).isSome = true) := fun ⟨b, v⟩ hy => by
    rcases S.par b (List.of_mem_zip hy).1 with z | z
    · exact .inl z
    · exact .inr ⟨z, PySem.W.cellsFrom_some _ _ _ (.inl z)⟩
  refine codeAny_call_function hr.depth (KX _ _ lk) rfl S.co S.gen rfl (PySem.W.codeRec_of KX hcd) (bt _ _ _ _ ?_)
  refine keepN (n := s.toks) (Q := fun env s1 => env = PyProof.Rows.envOfC "put_for" (defScope s_put_for) s.heap.objs.size f cdv ∧ InCallC s s.heap.objs.size (bindL (PyProof.Rows.envOfC "put_for" (defScope s_put_for) s.heap.objs.size f cdv).kindOf ((["step"] : List Str).zip [Value.ref a]) fun _ => none) (cellsFrom (s.heap.objs.size + 1) (defScope s_put_for).names []) (bindC (PyProof.Rows.envOfC "put_for" (defScope s_put_for) s.heap.objs.size f cdv).kindOf ((["step"] : List Str).zip [Value.ref a]) fun _ => none) s1) (Nat.le_refl _) (wpAny_newFunctionEnv_cells S.kind hkind fun env he s1 z => by
    subst he
    exact ⟨rfl, z⟩) fun env s1 hz ⟨he, z⟩ => ?_
  subst he
  refine ⟨lim.keeps z.toInCall.keep, codeAny_func ?_⟩
  have I : Inv (cxOf CX0 P w K mg base ["step"] "put_for" (defScope s_put_for) f cdv A outer s H E0) [] (start ["step"] [.ref a]) H s1 := inv_start S hr.hd e0 rfl rV z
  have S0 : Sl K H (start ["step"] [.ref a]) [some (.tup (t.ws.map D.tx))] := Sl.start (.one ra.plain)
  have hk : (t.ws.map D.tx)[0]? = some (.tx t.kind) := by
    rw [List.getElem?_map, ws0]
    rfl
  have fin : ∀ {z2 : Shared} {J : Hp} {tk : Nat}, Inv (cxOf CX0 P w K mg base ["step"] "put_for" (defScope s_put_for) f cdv A outer s H E0) [] (start ["step"] [.ref a]) J z2 → Same H J →
      CE outer P w H s (fun v J => v = .str (mkS (putW t)) ∧ Same H J) (.str (mkS (putW t)) tk) z2 := fun {z2 J tk} I2 sm =>
    ⟨.str (mkS (putW t)), J, I2.os, I2.bare, I2.base, I2.hok, ⟨_, rfl⟩, rfl, sm⟩
  refine wpAny_execs_cons (raw_if (pt_cmpR op_eq (pe_ix (ix_tupK (K := K)) (pv 0) pe_int (fun _ _ => rfl)) pe_str (nomark _)) hz I (et_test (ev_eqS (ev_ixT (n := 0) (ev_var S0 rfl) ev_int rfl hk) ev_str)) fun z2 J hz2 sm I2 => ?_)
  by_cases hb : t.kind = tl (Str.ofString "none")
  · rw [decide_eq_true hb]
    obtain ⟨x, rfl⟩ : ∃ x, t = .none x := by
      cases t with
      | none x => exact ⟨x, rfl⟩
      | sign x a =>
        have hb : kS = kN := hb
        rw [kS_eq, kN_eq] at hb
        cases hb
      | over x y =>
        have hb : kO = kN := hb
        rw [kO_eq, kN_eq] at hb
        cases hb
    refine wpAny_execs_cons (wpAny_Return_some (Calls.Constant_str ?_))
    exact ⟨z2.toks, rfl, hz2, Nat.lt_succ_self _, fin (I2.tok (z2.toks + 1)) sm⟩
  · rw [decide_eq_false hb]
    refine wpAny_execs_nil (wpAny_execs_cons (wpAny_Return_some ?_))
    obtain ⟨x, y, k, hw, hp⟩ : ∃ x y k, t.ws = [k, [x], [y]] ∧ putW t = [y] ++ [x] := by
      cases t with
      | none x => exact absurd rfl hb
      | sign x a => exact ⟨x, a, kS, rfl, rfl⟩
      | over x y => exact ⟨x, y, kO, rfl, rfl⟩
    have S2 := S0.mono (Tp.of (K := K) sm)
    rw [hw] at S2
    rw [hp] at fin ⊢
    refine thn (raw_add (pe_ix (ix_tupK (K := K)) (pv 0) pe_int (fun _ _ => rfl)) (pe_ix (ix_tupK (K := K)) (pv 0) pe_int (fun _ _ => rfl)) hz2 I2 (ev_ixT (n := 2) (ev_var S2 rfl) ev_int rfl rfl) (ev_ixT (n := 1) (ev_var S2 rfl) ev_int rfl rfl) (List.cons_ne_nil _ _) (List.cons_ne_nil _ _) (line_ge (by show 1 + 1 ≤ 100000; omega))) fun u z3 ⟨tk, J3, eu, h1, h2, sm2, I3⟩ => ?_
    subst eu
    exact ⟨tk, rfl, h1, h2, fin I3 (sm.trans sm2)⟩
end
end GW

set_option Elab.async false
set_option linter.all false
set_option maxRecDepth 100000
set_option maxHeartbeats 4000000
/-! A row of a comprehension where a cell's own value is known. -/
namespace GW
open PySem PySem.Spec L2 TL
section
variable {X : Cx} {pn : List (Addr × Obj)} {s : Shared} {σ : L2.St} {H : Hp}
/-- a block changes no cell of the frame around it -/
theorem blk_cell {sco : Scope} {ce : Env} {fp : List Addr} {pn2 : List (Addr × Obj)} {τ : L2.St} {J : Hp} {z : Shared} {x : Str} {c : Addr} {u : Option Value} (I : Inv (X.blk s H sco ce fp) pn2 τ J z) (hl : ce.cells.lookup x = some c) (hc : s.heap.IsCell c u) (hn : H c = none) : z.heap.IsCell c u := by
  obtain ⟨o, e, d⟩ := hc
  obtain ⟨sl, e2⟩ := I.base.any e hn fun y => (I.ok.exf c y).2 x c hl rfl
  exact ⟨_, e2, d⟩
abbrev blkCl (X : Cx) (sco : Scope) (z : Shared) : List (Str × Addr) := cellsFrom (z.heap.objs.size + 1) sco.names (cloFrom X.env.cells sco.names [])
abbrev blkE (X : Cx) (sco : Scope) (z : Shared) : Env := compEnvC sco (blkCl X sco z) z.heap.objs.size X.env
theorem row_core {Q : VK} {elt tg iter : Expr} {sco : Scope} {own : List (Str × Nat)} {p1 p2 : Pos} {wi : TI} {g : TG} {te : TE} {use : Option (Value → Sem Unit)} {Qf : Value → Shared → Prop} {c : Addr} {cv : Option Value}
    (calm : X.calm = true) (nd : X.N.Nodup) (I : Inv X pn σ H s) (bo : BlkOk X.N X.env.scope sco own) (hcell : ∃ y, X.env.cells.lookup y = some c)
    (first : ∀ W : It → Hp → Prop, wi σ H W → wpAny (model X.prog X.w) X.A (eval iter X.env) (fun v z1 => wpAny (model X.prog X.w) X.A (pyIter v) (fun iv z2 => z2.heap.IsCell c cv ∧ PIE X pn σ tg W iv z2) X.xe z1) X.xe s)
    (store : ∀ (z : Shared) (J : Hp) (fp : List Addr), PG (X.blk z J sco (blkE X sco z) fp) tg g)
    (item : ∀ (z : Shared) (J : Hp) (fp : List Addr), J c = none → z.heap.IsCell c cv → PE (X.blk z J sco (blkE X sco z) fp) elt te) (folded : ∀ x, foldedSetIterable iter X.env x = pure x)
    (h : tLc wi g tYes te (own.map (·.2)) σ H Q)
    (last : ∀ L C z m J, Inv X pn σ J z → Q (.ref L) J → z.heap.Ns C m → FpOk X pn J C → compPost (model X.prog X.w) X.A X.xe use Qf (.ref L) C (.ok .next) z) :
    wpAny (model X.prog X.w) X.A (comprehension (.ListComp elt [⟨tg, iter, [], 0⟩] sco p1) sco X.env p2 (newList []) false (eval iter X.env) use) Qf X.xe s := by
  have caught : ∀ y ∈ sco.names, y.2 = .free → ∃ b, X.env.cells.lookup y.1 = some b := fun y m f => (bo.free y m f).elim (fun r => I.ok.has _ (.inl r)) fun r => I.ok.has _ (.inr r)
  refine wpAny_comprehension_free (use := use) rfl folded (closure_ok caught) bo.kind (fun y m f => by rw [bo.uniq y m, f]) (thn (first _ h) fun v z1 h1 => thn h1 fun iv z2 ⟨hc2, h2⟩ => ?_)
  obtain ⟨it, fp, tn, G, J2, ei, I2, T, at2, free2, q⟩ := h2
  subst ei
  refine wpAny_newObj_type (newEnv_comp ?_) (Nat.zero_le _)
  generalize eL : z2.heap.objs.size = L
  have nL : J2 L = none := I2.hok.fresh (Nat.le_of_eq eL)
  obtain ⟨W, ⟨m0, w0⟩, turn⟩ := q L nL
  generalize e3 : ({ z2 with heap := z2.heap.push { cls := .type "list", data := .seq ([] : List Value).toArray } } : Shared) = z3
  have hp3 : z3.heap = z2.heap.push { cls := .type "list", data := .seq ([] : List Value).toArray } := by rw [← e3]
  have grow : ∀ b o, z2.heap.get? b = some o → z3.heap.get? b = some o := fun b o e => by
    rw [hp3]
    exact Heap.get?_push_of_some _ e
  have I3 : Inv X pn σ (upd J2 L (.lst [])) z3 := by
    rw [← e3]
    refine I2.laid (t' := z2.toks) (fun b o => Heap.get?_push_of_some _) (Nat.le_of_eq eL) ⟨Nat.zero_le _, [], 0, .nil, ?_⟩
    rw [← eL]
    exact Heap.get?_push_size _ rfl
  have hc3 : z3.heap.IsCell c cv := by
    obtain ⟨o, e, d⟩ := hc2
    exact ⟨o, grow _ _ e, d⟩
  have free3 : ∀ b ∈ fp, FpOk X pn (upd J2 L (.lst [])) b ∧ b < z3.heap.objs.size := fun b m => by
    obtain ⟨o, e, _⟩ := T.obj _ _ at2 b m
    have lt := Heap.lt_size e
    refine ⟨⟨?_, (free2 b m).2⟩, Heap.lt_size (grow b o e)⟩
    rw [upd_ne (by rw [← eL]; exact Nat.ne_of_lt lt)]
    exact (free2 b m).1
  have at3 : tn 0 z3.heap := T.keep _ _ _ at2 fun b _ o e => grow b o e
  have I4 := block_start I3 bo nd free3
  obtain ⟨cy, hcy⟩ := hcell
  have pg := store z3 (upd J2 L (.lst [])) fp
  have pe := item z3 (upd J2 L (.lst [])) fp (I3.freeC cy c hcy) hc3
  have none3 : ∀ b ∈ fp, (upd J2 L (.lst [])) b = none := fun b m => (free3 b m).1.1
  show codeAny _ _ (.compStart (.ListComp elt [⟨tg, iter, [], 0⟩] sco p1) 0 (.ref it) (.ref L) (blkE X sco z3)) (compPost (model X.prog X.w) X.A X.xe use Qf (.ref L) z3.heap.objs.size) { z3 with heap := pushCells (z3.heap.push { cls := .type "dict", data := .dict #[] }) sco.names }
  have I4 : Inv (X.blk z3 (upd J2 L (.lst [])) sco (blkE X sco z3) fp) [] (wipe σ (own.map (·.2))) (upd J2 L (.lst [])) { z3 with heap := pushCells (z3.heap.push { cls := .type "dict", data := .dict #[] }) sco.names } := I4
  have el : (blkE X sco z3).locals = z3.heap.objs.size := rfl
  generalize (blkE X sco z3) = ce at I4 pg pe el ⊢
  generalize (upd J2 L (.lst [])) = J3 at I3 I4 pg pe w0 none3 free3
  generalize e4 : ({ z3 with heap := pushCells (z3.heap.push { cls := .type "dict", data := .dict #[] }) sco.names } : Shared) = z4 at I4 ⊢
  have at4 : tn 0 z4.heap := T.keep _ _ _ at3 fun b _ o e => by
    rw [← e4]
    exact pushCells_keeps _ _ _ _ (Heap.get?_push_of_some _ e)
  have own4 : ∀ {τ : L2.St} {J : Hp} {z : Shared}, Inv (X.blk z3 J3 sco ce fp) [] τ J z → (∀ b ∈ fp, J b = none) → ∀ b ∈ fp, FpOk (X.blk z3 J3 sco ce fp) [] J b := fun {τ J z} K4 f b m =>
    ⟨f b m, (K4.ok.exf b m).1, K4.ok.exfs b m, .inl m, fun y k e => (K4.ok.exf b m).2 y k e, fun r hr => nomatch (show r ∈ ([] : List (Addr × Obj)) from hr)⟩
  have walk : codeAny (model X.prog X.w) X.A (.compLoop (.ListComp elt [⟨tg, iter, [], 0⟩] sco p1) 0 (.ref it) (.ref L) ce) (compPost (model X.prog X.w) X.A X.xe use Qf (.ref L) z3.heap.objs.size) z4 := by
    refine compLoop_any (fun k z => ∃ j J, Inv (X.blk z3 J3 sco ce fp) [] (wipe σ (own.map (·.2))) J z ∧ tn j z.heap ∧ (∀ b ∈ fp, J b = none) ∧ W j k J) ?_ m0 ⟨0, J3, I4, at4, none3, w0⟩
    rintro k z5 ⟨j, J5, I5, at5, none5, w5⟩
    rcases turn j k J5 w5 with ⟨stop, fine⟩ | ⟨go, Nx, hNx, step⟩
    · refine thnF (T.done (X.blk z3 J3 sco ce fp) rfl rfl rfl calm j [] z5 _ J5 (fun _ _ => False) I5 (own4 I5 none5) at5 stop) fun r z6 ⟨er, I6⟩ => ?_
      subst er
      have back : Inv X pn σ J5 z6 := I3.call' (ch := fp) I6.os I6.base I6.hok I6.bare fun b m =>
        let w := (free3 b m).1
        ⟨w.2.2.2.1, w.2.1, w.2.2.2.2.1, w.2.2.2.2.2⟩
      have nC : J5 ce.locals = none := I6.free
      obtain ⟨mm, hm, _⟩ := I6.loc
      have hm : z6.heap.Ns ce.locals mm := hm
      rw [el] at hm nC
      exact last L _ z6 mm J5 back fine hm (I3.fpOk (Nat.le_refl _) nC)
    · refine thnF (T.item (X.blk z3 J3 sco ce fp) rfl rfl rfl calm j [] z5 _ J5 (fun _ _ => False) I5 (own4 I5 none5) at5 go) fun r z6 ⟨u, er, h6⟩ => ?_
      subst er
      refine thnF h6 fun _ z7 ⟨x, J7, I7, rx, yx, at7, none7⟩ => ?_
      refine thnF (pg.run _ z7 _ J7 x u _ (I7.pinned (own4 I7 none7) (T.obj _ _ at7)) rx (step x J7 yx)) fun _ z8 ⟨τ, J8, I8, same, q8⟩ => ?_
      refine thnF (wpAny_tests_nil (Q := fun b z => b = true ∧ z = z8) ⟨rfl, rfl⟩) fun b z9 ⟨eb, ez⟩ => ?_
      subst eb
      subst ez
      simp only [if_true]
      refine thnF (pe.run _ z9 τ J8 _ I8 q8) fun y z10 ⟨yv, J10, I10, ry, acc, has, room, nx⟩ => ?_
      refine app_ok (X := X.blk z3 J3 sco ce fp) I10 has room ry fun z11 I11 => ?_
      obtain ⟨k', lt, w'⟩ := hNx _ nx
      have pinned : ∀ b ∈ fp, ∀ o, z7.heap.get? b = some o → z11.heap.get? b = some o ∧ (upd J10 L (.lst (acc ++ [yv]))) b = none := fun b m o e =>
        let w := I11.pin (b, o) (List.mem_append_right _ (List.mem_append_right _ (mem_pinsAt m e)))
        ⟨w.1, w.2.1⟩
      refine ⟨k', lt, j + 1, _, (I11.unpinned (pins := [])).weak (by rw [← same, wipe_length]) (fun i v e => ?_), T.keep _ _ _ at7 fun b m o e => (pinned b m o e).1, fun b m => ?_, w'⟩
      · rw [← same] at e
        exact (wipe_some e).1
      · obtain ⟨o, e, _⟩ := T.obj _ _ at7 b m
        exact (pinned b m o e).2
  exact codeAny_compStart_list walk (T.self X.A 0 _ _ _ at4 walk)
end
end GW

set_option Elab.async false
set_option linter.all false
set_option maxRecDepth 100000
set_option maxHeartbeats 4000000
/-! stepped -/
namespace GW
open PySem PySem.Spec L2 TL PyProof.Rows
theorem store_and {M : Model} {A : Around} {E : Value → Shared → Prop} {s : Shared} {env : Env} {name : Str} {v : Value} {c : Addr} {v0 : Option Value} {Q : Unit → Shared → Prop} (hk : env.scope.kind = .function) (hl : env.kindOf name = some .cell) (hc : env.cells.lookup name = some c) (hv : s.heap.IsCell c v0)
    (h : wpAny M A (storeName env name v) Q E s) : wpAny M A (storeName env name v) (fun a z => z.heap.IsCell c (some v) ∧ Q a z) E s := by
  obtain ⟨o, ho, hd⟩ := hv
  intro Γ p hΓ
  have h1 := h Γ p hΓ
  have e : storeName env name v = (load c).bind fun o => match o.data with
      | .cell _ => update c fun o => { o with data := .cell (some v) }
      | _ => unsupported "internal:write-to-non-cell" := by
    unfold storeName cellOf cellSet
    simp only [hl, hk, hc]
    rfl
  rw [e] at h1 ⊢
  obtain ⟨o2, ho2, h2⟩ := h1
  rw [ho] at ho2
  cases ho2
  refine ⟨o, ho, ?_⟩
  revert h2
  show Sem.wp M Γ (match o.data with
      | .cell _ => update c fun o => { o with data := .cell (some v) }
      | _ => unsupported "internal:write-to-non-cell") _ _ p s → Sem.wp M Γ (match o.data with
      | .cell _ => update c fun o => { o with data := .cell (some v) }
      | _ => unsupported "internal:write-to-non-cell") _ _ p s
  rw [hd]
  exact fun h2 => ⟨h2.1, ⟨_, Heap.get?_update_self _ ho rfl, rfl⟩, h2.2⟩
section
variable {X : Cx} {pn : List (Addr × Obj)} {s : Shared} {σ : L2.St} {H : Hp}
theorem raw_setRow {i : Nat} {y : Str} {py : Pos} {elt tg iter : Expr} {sco : Scope} {own : List (Str × Nat)} {pos spos : Pos} {wi : TI} {g : TG} {te : TE} {D : Ends} {c : Addr} {cv : Option Value}
    (calm : X.calm = true) (nd : X.N.Nodup) (I : Inv X pn σ H s) (bo : BlkOk X.N X.env.scope sco own) (hcell : ∃ y, X.env.cells.lookup y = some c) (hy : X.N[i]? = some y) (hyl : X.env.scope.names.lookup y = some .local)
    (hsw : swapsWith (.ListComp elt [⟨tg, iter, [], 0⟩] sco pos) (some (.Name y py)) spos.line X.env = pure true)
    (first : ∀ W : It → Hp → Prop, wi σ H W → wpAny (model X.prog X.w) X.A (eval iter X.env) (fun v z1 => wpAny (model X.prog X.w) X.A (pyIter v) (fun iv z2 => z2.heap.IsCell c cv ∧ PIE X pn σ tg W iv z2) X.xe z1) X.xe s)
    (store : ∀ (z : Shared) (J : Hp) (fp : List Addr), PG (X.blk z J sco (blkE X sco z) fp) tg g)
    (item : ∀ (z : Shared) (J : Hp) (fp : List Addr), J c = none → z.heap.IsCell c cv → PE (X.blk z J sco (blkE X sco z) fp) elt te)
    (h : tAsg (tLc wi g tYes te (own.map (·.2))) (gName i) D σ H) (folded : ∀ x, foldedSetIterable iter X.env x = pure x := by intro _; rfl) :
    wpAny (model X.prog X.w) X.A (exec (.Assign [.Name y py] (.ListComp elt [⟨tg, iter, [], 0⟩] sco pos) spos) X.env) (SP X pn D) X.xe s := by
  rw [exec_Assign_Name_used _ _ _ _ hsw]
  refine wpAny_bind (wpAny_standAt (wpAny_bind ?_))
  show wpAny _ X.A (do let _ ← comprehension (.ListComp elt [⟨tg, iter, [], 0⟩] sco pos) sco X.env (firstIterPos [⟨tg, iter, [], 0⟩] pos) (newList []) false (eval iter X.env) (some (assign (.Name y py) X.env))) _ _ s
  have h : tLc wi g tYes te (own.map (·.2)) σ H (fun x J => gName i x σ J D.nx) := h
  refine wpAny_bind (thn (row_core (Qf := fun _ z => SP X pn D .next z) calm nd I bo hcell first store item folded h fun L C z m J K q hm f => ?_) fun _ z hq => wpAny_pure (wpAny_pure hq))
  show wpAny _ _ (assign (.Name y py) X.env (.ref L)) _ _ _
  refine wpAny_assign_Name (store_ok2 (v := V.ref L) K nd hy (.inl hyl) rfl (fun z2 K2 ⟨b, but, hb⟩ => ?_) (.inr hyl))
  have f1 := f.2.1
  have far : C ≠ b := hb.elim (fun r => by rw [r]; exact f1) fun r e => f.2.2.2.2.1 y b r e.symm
  exact ⟨m, hm.sameBut but far, fun h3 but3 => ⟨_, J, K2.turned (t' := z2.toks) (fun b o hb e => (but3.2 b hb).trans e) f.1 f1 f.2.2.2.1 f.2.2.2.2.1 f.2.2.2.2.2, q⟩⟩
/-- a tuple's item at a written place, walked -/
theorem raw_first {i k j : Nat} {x : Str} {p1 cp pos : Pos} {tg : Expr} {c : Addr} {cv : Option Value} (I : Inv X pn σ H s) (hN : X.N[i]? = some x) (vis : Vis X.env.scope x) (hc : s.heap.IsCell c cv)
    (hx : PlainIx (.Constant (.int k) j cp)) (hd : (x == ("__debug__" : Str)) = false := by decide) (hcd : (x == ("__classdict__" : Str)) = false := by decide) :
    ∀ W : It → Hp → Prop, iTup X.K (tOp (rIxT X.K) (tVar i) (tC (.int k))) σ H W → wpAny (model X.prog X.w) X.A (eval (.Subscript (.Name x p1) (.Constant (.int k) j cp) pos) X.env) (fun v z1 => wpAny (model X.prog X.w) X.A (pyIter v) (fun iv z2 => z2.heap.IsCell c cv ∧ PIE X pn σ tg W iv z2) X.xe z1) X.xe s := fun W h => by
  obtain ⟨v, hv, p, xs, i2, v2, e1, e2, hq, he, a, e3, ⟨ys, hy⟩, w⟩ := h
  subst e1
  cases e2
  subst e3
  refine Subscript_ (raw_name hN vis I hv (fun u r => ?_) hd hcd)
  cases r
  refine wpAny_Constant_int ?_
  have I1 := I.tok (s.toks + 1)
  obtain ⟨its, rv, pl, hz⟩ := I1.tuple hq
  obtain ⟨n, h1, h2, h3, h4, h5⟩ := atI_get he
  obtain ⟨u, eu, ru⟩ := rv.get h2
  have hl := rv.length
  have hn := line63
  have fin : wpAny (model X.prog X.w) X.A (pyIter u) (fun iv z2 => z2.heap.IsCell c cv ∧ PIE X pn σ tg W iv z2) X.xe { s with toks := s.toks + 1 } := by
    cases ru
    obtain ⟨its2, rv2, pl2, hz2⟩ := I1.tuple hy
    refine wpAny_pyIter_tuple (show Heap.IsTuple _ a its2.toArray from pl2) ⟨?_, ?_⟩
    · obtain ⟨o, e, d⟩ := hc
      exact ⟨o, Heap.get?_push_of_some _ e, d⟩
    · refine ⟨s.heap.objs.size, [s.heap.objs.size], _, _, H, rfl, I1.kept (t' := s.toks + 1) fun b o e => Heap.get?_push_of_some _ e, turn_tuple a _, ⟨_, Heap.get?_push_size _ rfl, rfl, rfl⟩, fun b hb => ?_, w⟩
      have e : b = s.heap.objs.size := by simpa using hb
      subst e
      exact I1.fpOk (Nat.le_refl _) (I1.hok.fresh (Nat.le_refl _))
  exact subscriptTail_builtinR (x := u) pl.typeIs slot_tuple_getitem.lookup
    (getItem_tuple (j := n) (Q := fun r z => r = u ∧ wpAny (model X.prog X.w) X.A (pyIter r) (fun iv z2 => z2.heap.IsCell c cv ∧ PIE X pn σ tg W iv z2) X.xe z) pl (by omega) (by omega) (by rw [List.size_toArray, ← hl]; exact h1) (by simpa using eu) ⟨rfl, fin⟩) (hx _ _)
/-- step[1], its token -/
theorem raw_stp1 {i j n x : Nat} {ws : List (List Nat)} {a : Addr} {sx : Str} {p1 cp pos : Pos} {Q E : Value → Shared → Prop} (I : Inv X pn σ H s) (hN : X.N[i]? = some sx) (vis : Vis X.env.scope sx) (hv : σ[i]? = some (some (.ref a))) (r : R X.K H (.ref a) (.stp n ws)) (hw : ws[1]? = some [x]) (hx : PlainIx (.Constant (.int 1) j cp))
    (q : ∀ t k, 1 ≤ t → t < n → s.toks ≤ k → Q (.str (mkS [x]) t) { s with toks := k }) (hd : (sx == ("__debug__" : Str)) = false := by decide) (hcd : (sx == ("__classdict__" : Str)) = false := by decide) :
    wpAny (model X.prog X.w) X.A (eval (.Subscript (.Name sx p1) (.Constant (.int 1) j cp) pos) X.env) Q E s := by
  cases r with
  | stp ho hx2 tk =>
    rw [hw] at hx2
    cases hx2
    obtain ⟨hcls, u0, t1, rest, m, hdat, b1, b2⟩ := tk
    refine Subscript_ (raw_name hN vis I hv (fun u r => ?_) hd hcd)
    cases r
    refine wpAny_Constant_int ?_
    have og := (I.hok a _ ho).1
    have pl : IsTup s.heap a (u0 :: Value.str (mkS [x]) t1 :: rest).toArray := ⟨_, og, hcls, m, hdat⟩
    have hn := line63
    have hz : (u0 :: Value.str (mkS [x]) t1 :: rest).length ≤ sizeLine := by
      obtain ⟨_, hl, its, rv, o2, e2, _, n2, d2⟩ := I.hok a _ ho
      rw [og] at e2
      cases e2
      rw [hdat] at d2
      injection d2 with d2 _
      have e : its = u0 :: Value.str (mkS [x]) t1 :: rest := by simpa using (congrArg Array.toList d2).symm
      rw [← e, ← rv.length]
      exact hl
    exact subscriptTail_builtinR (s := { s with toks := s.toks + 1 }) (x := Value.str (mkS [x]) t1) pl.typeIs slot_tuple_getitem.lookup
      (getItem_tuple (j := 1) (Q := fun r z => r = Value.str (mkS [x]) t1 ∧ Q r z) pl (by omega) (by omega) (by
        show seqIndex? 1 (u0 :: Value.str (mkS [x]) t1 :: rest).toArray.size = some 1
        rw [List.size_toArray]
        rw [PySem.StrLaws.seqIndex_nonneg (by omega) (by simp [List.length_cons]; omega)]
        rfl) rfl ⟨rfl, q t1 _ b1 b2 (Nat.le_succ _)⟩) (hx _ _)
def tRP (K : PySem.W.Frag) (ik is : Nat) (n : Nat) (zt : List Nat) : TE := fun σ H Q => ∃ l a x ws, σ[ik]? = some (some (.str (mkS l))) ∧ σ[is]? = some (some (.ref a)) ∧ R K H (.ref a) (.stp n ws) ∧ ws[1]? = some [x] ∧ zt ≠ [x] ∧ l.length + (l.length + 1) * zt.length ≤ 16777216 ∧ Q (.str (mkS (repl1 x zt l))) H
theorem ne_mkS {x : Nat} {zt : List Nat} (h : zt ≠ [x]) : (mkS [x] == mkS zt) = false := by
  rw [beq_eq_false_iff_ne]
  exact fun e => h (mkS_inj.mp e).symm
/-- text.replace(step[1], put), put's own value known -/
theorem pe_repP {ik is n j1 : Nat} {zt : List Nat} {kx sx px : Str} {p1 p2 p3 c1 q1 apos pos : Pos} {c : Addr} {tk : Tok} {z : Shared} {J : Hp} {sco : Scope} {ce : Env} {fp : List Addr} (hn : n ≤ tk) (hJ : J c = none) (hz : z.heap.IsCell c (some (.str (mkS zt) tk))) (hcl : ce.cells.lookup px = some c) (hkind : ce.scope.kind = .function) (hkp : ce.kindOf px = some .cell)
    (hNk : X.N[ik]? = some kx) (hvk : Vis ce.scope kx) (hNs : X.N[is]? = some sx) (hvs : Vis ce.scope sx)
    (hst : starEach [.Subscript (.Name sx p2) (.Constant (.int 1) j1 c1) q1, .Name px p3] ce = [(false, eval (.Subscript (.Name sx p2) (.Constant (.int 1) j1 c1) q1) ce), (false, eval (.Name px p3) ce)] := by rfl)
    (hbase : attributeBase (.Name kx p1) "replace" ce (eval (.Name kx p1) ce) = eval (.Name kx p1) ce := by rfl) (hline : (apos.endLine == pos.line) = true := by rfl)
    (hdk : (kx == ("__debug__" : Str)) = false := by decide) (hck : (kx == ("__classdict__" : Str)) = false := by decide) (hds : (sx == ("__debug__" : Str)) = false := by decide) (hcs : (sx == ("__classdict__" : Str)) = false := by decide) (hdp : (px == ("__debug__" : Str)) = false := by decide) :
    PE (X.blk z J sco ce fp) (.Call (.Attribute (.Name kx p1) "replace" apos) [.Subscript (.Name sx p2) (.Constant (.int 1) j1 c1) q1, .Name px p3] [] pos) (tRP X.K ik is n zt) := ⟨fun pn2 s2 τ J2 Q I h => by
  obtain ⟨l, a, x, ws, hl, ha, hr, hw, hne, hb, q⟩ := h
  refine PySem.Call_method2 hbase hst hline (raw_name (X := X.blk z J sco ce fp) hNk hvk I hl (fun v r => ?_) hdk hck)
  obtain ⟨tx, rfl⟩ := r
  refine ⟨"str", _, F.plainAttrs_str, F.slot_str_replace, F.type_str_replace, typeIs_str _ _ _, (fun _ e => nomatch e), Calls.callWith_builtin rfl (Calls.evalArgs_plain (Calls.spliced_cons ?_))⟩
  refine raw_stp1 (X := X.blk z J sco ce fp) I hNs hvs ha hr hw (fun _ _ => rfl) (fun t1 k b1 b2 _ => ?_) hds hcs
  have hz2 : s2.heap.IsCell c (some (.str (mkS zt) tk)) := blk_cell I hcl hz hJ
  refine Calls.spliced_cons (wpAny_Name (wpAny_loadName_cell hkind hkp hcl hz2 (Calls.spliced_nil ?_)) hdp)
  refine PySem.SC.replace (show t1 ≠ 0 by omega) (Nat.ne_of_gt (Nat.lt_of_lt_of_le (Nat.lt_of_le_of_lt (Nat.zero_le _) b2) hn)) (Nat.ne_of_lt (Nat.lt_of_lt_of_le b2 hn)) (ne_mkS hne) (by rw [mkS_len, mkS_len]; exact hb) fun t' k2 => ⟨.str (Txt.replace (mkS l) (mkS [x]) (mkS zt)), J2, I.tok k2, ⟨t', rfl⟩, ?_⟩
  rw [replace_one]
  exact q⟩
def gRN (K : PySem.W.Frag) (ik is : Nat) : TGE := fun n σ H Q => ∃ l a x ws, σ[ik]? = some (some (.str (mkS l))) ∧ σ[is]? = some (some (.ref a)) ∧ R K H (.ref a) (.stp n ws) ∧ ws[1]? = some [x] ∧ l.length ≤ 16777216 ∧ Q n (.str (mkS (repl1 x [] l))) H
theorem ge_repN {ik is j1 j2 : Nat} {kx sx : Str} {p1 p2 c1 c2 q1 apos pos : Pos} (hNk : X.N[ik]? = some kx) (hvk : Vis X.env.scope kx) (hNs : X.N[is]? = some sx) (hvs : Vis X.env.scope sx)
    (hst : starEach [.Subscript (.Name sx p2) (.Constant (.int 1) j1 c1) q1, .Constant (.str "") j2 c2] X.env = [(false, eval (.Subscript (.Name sx p2) (.Constant (.int 1) j1 c1) q1) X.env), (false, eval (.Constant (.str "") j2 c2) X.env)] := by rfl)
    (hbase : attributeBase (.Name kx p1) "replace" X.env (eval (.Name kx p1) X.env) = eval (.Name kx p1) X.env := by rfl) (hline : (apos.endLine == pos.line) = true := by rfl)
    (hdk : (kx == ("__debug__" : Str)) = false := by decide) (hck : (kx == ("__classdict__" : Str)) = false := by decide) (hds : (sx == ("__debug__" : Str)) = false := by decide) (hcs : (sx == ("__classdict__" : Str)) = false := by decide) :
    GE X (.Call (.Attribute (.Name kx p1) "replace" apos) [.Subscript (.Name sx p2) (.Constant (.int 1) j1 c1) q1, .Constant (.str "") j2 c2] [] pos) (gRN X.K ik is) := ⟨fun pn2 s2 τ J2 Q n hn I h => by
  obtain ⟨l, a, x, ws, hl, ha, hr, hw, hb, q⟩ := h
  refine PySem.Call_method2 hbase hst hline (raw_name hNk hvk I hl (fun v r => ?_) hdk hck)
  obtain ⟨tx, rfl⟩ := r
  refine ⟨"str", _, F.plainAttrs_str, F.slot_str_replace, F.type_str_replace, typeIs_str _ _ _, (fun _ e => nomatch e), Calls.callWith_builtin rfl (Calls.evalArgs_plain (Calls.spliced_cons ?_))⟩
  refine raw_stp1 I hNs hvs ha hr hw (fun _ _ => rfl) (fun t1 k b1 b2 hk => ?_) hds hcs
  refine Calls.spliced_cons (Calls.Constant_str (Calls.spliced_nil ?_))
  have e : ("" : Str) = mkS [] := rfl
  have hk2 : n ≤ k := Nat.le_trans hn hk
  refine keepN (n := n) (s := { s2 with toks := k + 1 }) (Nat.le_succ_of_le hk2) (PySem.SC.replace (Q := fun u z => EP X pn2 τ (Q n) u z) (show t1 ≠ 0 by omega) (show k ≠ 0 by omega) (show t1 ≠ k by omega) (ne_mkS (zt := []) (List.cons_ne_nil _ _).symm) (by rw [mkS_len]; show _ + _ * 0 ≤ _; omega) fun t' k2 => ⟨.str (Txt.replace (mkS l) (mkS [x]) (mkS [])), J2, I.tok k2, ⟨t', rfl⟩, ?_⟩) fun _ _ hz y => ⟨n, hz, y⟩
  rw [replace_one]
  exact q⟩
end
end GW

set_option Elab.async false
set_option linter.all false
set_option maxRecDepth 100000
set_option maxHeartbeats 4000000
/-! stepped -/
namespace GW
open PySem PySem.Spec L2 TL PyProof.Rows
def substE (t : Step) (e : Eqn) : Eqn := (repl1 t.x (putW t) e.1, repl1 t.x (putW t) e.2)
def nmOf (nm : List Nat) : Step → List Nat
  | .none x => repl1 x [] nm
  | _ => nm
def stepR (r : Room') (t : Step) : Room' := (nmOf r.1 t, strip (r.2.map (substE t)))
abbrev nST : List Str := ["room", "step", "names", "put", "pairs", "left", "right"]
section
variable {X : Cx} {pn : List (Addr × Obj)} {s : Shared} {σ : L2.St} {H : Hp}
/-- put = put_for(step); pairs = [..] -/
def gPP (K : PySem.W.Frag) (wi : TI) (g : TG) (te : Nat → List Nat → TE) (vs : List Nat) (i1 i3 i4 : Nat) : TGS := fun D n σ H => ∃ t a, σ[i1]? = some (some (.ref a)) ∧ R K H (.ref a) (.stp n (Step.ws t)) ∧
  ∀ J, Same H J → tAsg (tLc wi g tYes (te n (putW t)) vs) (gName i4) (D.at n) (σ.set i3 (some (.str (mkS (putW t))))) J
theorem gss_pp {k ir kix jix i1 i3 i4 : Nat} {f : Addr} {fd : FuncData} {sx px yx rx : Str} {pf p1 pp spos py cpp ppx pos spos2 pr cpr : Pos} {elt tg : Expr} {sco : Scope} {own : List (Str × Nat)} {g : TG} {te : Nat → List Nat → TE} {rest : List Stmt} {u : TGS}
    (B : PF X.prog X.w X.K X.mg X.base k f fd) (hm : X.mg "put_for" = some (.ref f)) (kp : PySem.W.keepIn X.K (.ref f) = true) (hb : Binds X.K fd ["step"] []) (hr : Room k X.A) (hg : Gl X "put_for") (calm : X.calm = true) (nd : X.N.Nodup)
    (n1 : X.N[i1]? = some sx) (v1 : Vis X.env.scope sx) (n3 : X.N[i3]? = some px) (hpc : X.env.scope.names.lookup px = some .cell) (hfn : X.fn px = true) (n4 : X.N[i4]? = some yx) (hyl : X.env.scope.names.lookup yx = some .local) (nr : X.N[ir]? = some rx) (vr : Vis X.env.scope rx) (hir : i3 ≠ ir)
    (bo : BlkOk X.N X.env.scope sco own) (hsw : swapsWith (.ListComp elt [⟨tg, .Subscript (.Name rx pr) (.Constant (.int kix) jix cpr) py, [], 0⟩] sco pos) (some (.Name yx ppx)) spos2.line X.env = pure true)
    (hcl : ∀ (z : Shared) (c : Addr), X.env.cells.lookup px = some c → (blkCl X sco z).lookup px = some c)
    (store : ∀ (z : Shared) (J : Hp) (fp : List Addr), PG (X.blk z J sco (blkE X sco z) fp) tg g)
    (item : ∀ (z : Shared) (J : Hp) (fp : List Addr) (c : Addr) (n : Nat) (zt : List Nat) (tk : Tok), n ≤ tk → J c = none → z.heap.IsCell c (some (.str (mkS zt) tk)) → (blkE X sco z).cells.lookup px = some c → PE (X.blk z J sco (blkE X sco z) fp) elt (te n zt))
    (hrest : GSs X rest u) (hds : (sx == ("__debug__" : Str)) = false := by decide) (hdr : (rx == ("__debug__" : Str)) = false := by decide) (hcr : (rx == ("__classdict__" : Str)) = false := by decide)
    (hcs : (sx == ("__classdict__" : Str)) = false := by decide)
    (he : starEach [.Name sx p1] X.env = [(false, eval (.Name sx p1) X.env)] := by rfl) (hpl : (backTo pf (starEach [] X.env)).any (·.1) = false := by rfl)
    (hs : swapsWith (.Call (.Name "put_for" pp) [.Name sx p1] [] pf) (some (.Name px cpp)) spos.line X.env = pure false := by rfl) :
    GSs X (.Assign [.Name px cpp] (.Call (.Name "put_for" pp) [.Name sx p1] [] pf) spos :: .Assign [.Name yx ppx] (.ListComp elt [⟨tg, .Subscript (.Name rx pr) (.Constant (.int kix) jix cpr) py, [], 0⟩] sco pos) spos2 :: rest)
      (gSeq (gPP X.K (iTup X.K (tOp (rIxT X.K) (tVar ir) (tC (.int kix)))) g te (own.map (·.2)) i1 i3 i4) u) := ⟨fun pn s σ H D n hn I q => by
  obtain ⟨t, a, hv, ra, q⟩ := q
  obtain ⟨c, hc⟩ := I.ok.has px (.inl hpc)
  obtain ⟨cv0, hcv0⟩ := I.cell px c hc
  refine wpAny_execs_cons (wpAny_Assign_Name ?_ hs)
  refine wpAny_Call_Name_kw (ld_glob I hg hm ?_ (by decide))
  refine PySem.W.callWith_K (h₀ := X.base) I.ok.mod.kin kp ?_ (by rw [he]; rfl) hpl
  rw [he]
  show wpAny _ _ (spliced [(false, eval (.Name sx p1) X.env)]) _ _ s
  refine Calls.spliced_cons (raw_name n1 v1 I hv (fun w r => ?_) hds hcs)
  cases r
  refine Calls.spliced_nil ⟨I.kIn, ?_⟩
  have bt := hb s [Value.ref a] I.kIn rfl
  refine wpAny_call (codeAny_mono (B X.A X.stack s H ⟨[Value.ref a], []⟩ a t n hr I.env0 bt ra) fun rs z hq => ?_)
  cases rs with
  | error e => exact hq.elim
  | ok fl =>
    cases fl with
    | next => exact hq.elim
    | brk => exact hq.elim
    | cont => exact hq.elim
    | ret w =>
      obtain ⟨tk, ew, b1, b2, hq⟩ := hq
      subst ew
      obtain ⟨v, J, I2, rv, ev, sm⟩ := I.after hq
      subst ev
      have hn2 : n ≤ z.toks := Nat.le_trans hn (Nat.le_trans b1 (Nat.le_of_lt b2))
      obtain ⟨cv1, hcv1⟩ := I2.cell px c hc
      refine keepN hn2 (store_and I2.ok.kind hpc hc hcv1 (store_ok (v := .str (mkS (putW t))) I2 nd n3 (.inr hpc) rv (Q := fun _ z2 => Inv X pn (σ.set i3 (some (.str (mkS (putW t))))) J z2) (fun z2 I3 => I3) (.inl hfn))) fun _ z2 hz2 ⟨hcell, I3⟩ => ?_
      refine wpAny_execs_cons (keepN hz2 (raw_setRow (D := { D with nx := u D : GEnds }.at n) calm nd I3 bo ⟨px, hc⟩ n4 hyl hsw (raw_first I3 nr vr hcell (fun _ _ => rfl) hdr hcr) store (fun z3 J3 fp hJ hz3 => item z3 J3 fp c n (putW t) tk (Nat.le_trans hn b1) hJ hz3 (hcl z3 c hc)) (q J sm)) fun fl z3 hz3 hq3 => ?_)
      cases fl with
      | next =>
        obtain ⟨τ, J4, I4, y⟩ := hq3
        exact hrest.go pn z3 τ J4 D n hz3 I4 y
      | ret w => exact ⟨n, hz3, hq3⟩
      | brk => exact ⟨n, hz3, hq3⟩
      | cont => exact ⟨n, hz3, hq3⟩⟩
end
end GW

set_option Elab.async false
set_option linter.all false
set_option maxRecDepth 100000
set_option maxHeartbeats 4000000
/-! stepped -/
namespace GW
open PySem PySem.Spec L2 TL PyProof.Rows
/-! letters of a step -/
def Step.lets : Step → List Nat
  | .none x => [x]
  | .sign x a => [x, a]
  | .over x y => [x, y]
theorem steps_mem {r : Room'} {t : Step} (h : t ∈ stepsOf r) : ∃ e ∈ r.2, ∀ c ∈ t.lets, c ∈ e.1 ∨ c ∈ e.2 := by
  obtain ⟨nm, es⟩ := r
  cases es with
  | nil => cases h
  | cons e es =>
    refine ⟨e, List.mem_cons_self, ?_⟩
    have h : t ∈ if dead (e :: es) = true then [] else stepsE e := h
    by_cases hd : dead (e :: es) = true
    · rw [if_pos hd] at h
      cases h
    · rw [if_neg hd] at h
      obtain ⟨l, r⟩ := e
      have one : ∀ c m, l ++ r = c :: m → ∀ d ∈ (Step.none c).lets, d ∈ l ∨ d ∈ r := fun c m e d hdm => by
        have hd2 : d = c := by simpa [Step.lets] using hdm
        subst hd2
        exact List.mem_append.mp (e ▸ List.mem_cons_self)
      cases l with
      | nil =>
        cases r with
        | nil => cases h
        | cons y r =>
          have h : t ∈ [Step.none y] := h
          rw [List.mem_singleton.mp h]
          exact one y r rfl
      | cons x l =>
        cases r with
        | nil =>
          have h : t ∈ [Step.none x] := by
            revert h
            unfold stepsE
            simp only [List.append_nil, List.cons_append]
            exact id
          rw [List.mem_singleton.mp h]
          exact one x l (by simp)
        | cons y r =>
          have h : t ∈ stepsBy x y := h
          unfold stepsBy at h
          have key : ∀ c ∈ t.lets, c = x ∨ c = y := by
            intro c hc
            by_cases h1 : y ∈ sgs
            · rw [if_pos h1] at h
              rcases List.mem_cons.mp h with rfl | h
              · simp [Step.lets] at hc
                exact .inl hc
              · rw [List.mem_singleton.mp h] at hc
                simpa [Step.lets] using hc
            · rw [if_neg h1] at h
              by_cases h2 : x ∈ sgs
              · rw [if_pos h2] at h
                rcases List.mem_cons.mp h with rfl | h
                · simp [Step.lets] at hc
                  exact .inr hc
                · rw [List.mem_singleton.mp h] at hc
                  simpa [Step.lets, or_comm] using hc
              · rw [if_neg h2] at h
                simp only [List.mem_cons, List.not_mem_nil, or_false] at h
                rcases h with rfl | rfl | rfl | rfl
                · simp [Step.lets] at hc
                  exact .inl hc
                · simp [Step.lets] at hc
                  exact .inr hc
                · simpa [Step.lets] using hc
                · simpa [Step.lets, or_comm] using hc
          intro c hc
          rcases key c hc with rfl | rfl
          · exact .inl List.mem_cons_self
          · exact .inr List.mem_cons_self
theorem steps_sd {r : Room'} {t : Step} (h : t ∈ stepsOf r) (ok : Ok r.2) : Sd t.lets := fun c hc => by
  obtain ⟨e, he, q⟩ := steps_mem h
  obtain ⟨a, b, _⟩ := ok.2 e he
  rcases q c hc with z | z
  · exact a c z
  · exact b c z
theorem kN_asc : Asc kN := by
  rw [kN_eq]
  unfold Asc
  decide
theorem kS_asc : Asc kS := by
  rw [kS_eq]
  unfold Asc
  decide
theorem kO_asc : Asc kO := by
  rw [kO_eq]
  unfold Asc
  decide
theorem ws_asc {t : Step} (h : Sd t.lets) : ∀ l ∈ t.ws, Asc l := by
  have one : ∀ c ∈ t.lets, Asc [c] := fun c hc d hd => by
    rw [List.mem_singleton.mp hd]
    exact h.asc c hc
  cases t with
  | none x =>
    intro l hl
    simp only [Step.ws, List.mem_cons, List.not_mem_nil, or_false] at hl
    rcases hl with rfl | rfl
    · exact kN_asc
    · exact one x (by simp [Step.lets])
  | sign x a =>
    intro l hl
    simp only [Step.ws, List.mem_cons, List.not_mem_nil, or_false] at hl
    rcases hl with rfl | rfl | rfl
    · exact kS_asc
    · exact one x (by simp [Step.lets])
    · exact one a (by simp [Step.lets])
  | over x y =>
    intro l hl
    simp only [Step.ws, List.mem_cons, List.not_mem_nil, or_false] at hl
    rcases hl with rfl | rfl | rfl
    · exact kO_asc
    · exact one x (by simp [Step.lets])
    · exact one y (by simp [Step.lets])
theorem putW_lets {t : Step} : ∀ c ∈ putW t, c ∈ t.lets := by
  cases t <;> simp [putW, Step.lets]
theorem putW_le (t : Step) : (putW t).length ≤ 2 := by cases t <;> simp [putW]
theorem putW_ne (t : Step) : putW t ≠ [t.x] := by cases t <;> simp [putW]
theorem repl1_nil (c : Nat) (z : List Nat) : repl1 c z [] = [] := rfl
theorem repl1_cons (c : Nat) (z : List Nat) (d : Nat) (l : List Nat) : repl1 c z (d :: l) = (if d = c then z else [d]) ++ repl1 c z l := by
  unfold repl1
  rw [List.flatMap_cons]
theorem repl1_len (c : Nat) {z : List Nat} (hz : z.length ≤ 2) (l : List Nat) : (repl1 c z l).length ≤ 2 * l.length := by
  induction l with
  | nil => exact Nat.zero_le _
  | cons d l ih =>
    rw [repl1_cons, List.length_append, List.length_cons]
    by_cases h : d = c
    · rw [if_pos h]
      omega
    · rw [if_neg h]
      show 1 + _ ≤ _
      omega
theorem repl1_mem {c : Nat} {z l : List Nat} {d : Nat} (h : d ∈ repl1 c z l) : (d ∈ l ∧ d ≠ c) ∨ d ∈ z := by
  unfold repl1 at h
  obtain ⟨x, hx, hd⟩ := List.mem_flatMap.mp h
  by_cases e : x = c
  · rw [if_pos e] at hd
    exact .inr hd
  · rw [if_neg e] at hd
    rw [List.mem_singleton.mp hd]
    exact .inl ⟨hx, e⟩
theorem repl1_sd {c : Nat} {z l : List Nat} (hz : Sd z) (hl : Sd l) : Sd (repl1 c z l) := fun d hd => by
  rcases repl1_mem hd with h | h
  · exact hl d h.1
  · exact hz d h
theorem subst_ok {s : Sys} {t : Step} (h : Ok s) (ht : Sd t.lets) (hs : ∀ e ∈ s, e.1.length ≤ 400 ∧ e.2.length ≤ 400) : Ok (s.map (substE t)) := by
  refine ⟨by rw [List.length_map]; exact h.1, fun e he => ?_⟩
  obtain ⟨e0, h0, rfl⟩ := List.mem_map.mp he
  obtain ⟨a, b, _, _⟩ := h.2 e0 h0
  obtain ⟨x, y⟩ := hs e0 h0
  have hp : Sd (putW t) := fun c hc => ht c (putW_lets c hc)
  refine ⟨repl1_sd hp a, repl1_sd hp b, ?_, ?_⟩
  · have := repl1_len t.x (putW_le t) e0.1
    show (repl1 t.x (putW t) e0.1).length ≤ 1000
    omega
  · have := repl1_len t.x (putW_le t) e0.2
    show (repl1 t.x (putW t) e0.2).length ≤ 1000
    omega
section
variable {P : Program} {w : World} {K : PySem.W.Frag} {mg : Str → Option Value} {base : Heap} {tS tU tE tL tN : Tok} {σ : L2.St} {H H' : Hp} {ta tb : TE} {n : Nat}
theorem ev_stp {m : Nat} {ws : List (List Nat)} (h : EvD K ta σ H (.stp m ws)) : EvD K ta σ H (stD ws) := fun H1 x Q q => h H1 x Q fun v H2 y r => q v H2 y r.plain
theorem slot_stp {ss : List SD} {i m : Nat} {ws : List (List Nat)} (S : Sl K H σ ss) (h : ss[i]? = some (some (.stp m ws))) : ∃ a, σ[i]? = some (some (.ref a)) ∧ R K H (.ref a) (.stp m ws) := by
  obtain ⟨v, h1, h2⟩ := S.get h
  cases h2 with
  | stp a b c => exact ⟨_, h1, .stp a b c⟩
theorem slot_tx {ss : List SD} {i : Nat} {l : List Nat} (S : Sl K H σ ss) (h : ss[i]? = some (some (.tx l))) : σ[i]? = some (some (.str (mkS l))) := by
  obtain ⟨v, h1, h2⟩ := S.get h
  cases h2
  exact h1
theorem ev_rp {ss : List SD} {ik is m : Nat} {l zt : List Nat} {t : Step} (S : Sl K H σ ss) (h1 : ss[ik]? = some (some (.tx l))) (h2 : ss[is]? = some (some (.stp m t.ws))) (hm : m ≤ n) (hz : zt.length ≤ 2) (hne : zt ≠ [t.x]) (hl : l.length ≤ 1000) : EvD K (tRP K ik is n zt) σ H (.tx (repl1 t.x zt l)) := fun H1 x Q q => by
  obtain ⟨a, e, r⟩ := slot_stp (S.mono (Tp.of x)) h2
  refine ⟨l, a, t.x, t.ws, slot_tx S h1, e, r.later hm, ws1 t, hne, ?_, q _ H1 (Same.refl _) (.tx _)⟩
  have : (l.length + 1) * zt.length ≤ 1001 * 2 := Nat.mul_le_mul (by omega) hz
  omega
theorem eg_rn {ss : List SD} {ik is m : Nat} {l : List Nat} {t : Step} (S : Sl K H σ ss) (h1 : ss[ik]? = some (some (.tx l))) (h2 : ss[is]? = some (some (.stp m t.ws))) (hm : m ≤ n) (hl : l.length ≤ 1000) : EvG K (gRN K ik is) n σ H (fun _ => .tx (repl1 t.x [] l)) := fun j H1 hj x Q q => by
  obtain ⟨a, e, r⟩ := slot_stp (S.mono (Tp.of x)) h2
  exact ⟨l, a, t.x, t.ws, slot_tx S h1, e, r.later (Nat.le_trans hm hj), ws1 t, by omega, q j _ H1 (Nat.le_refl _) (Same.refl _) (.tx _)⟩
/-- stepped -/
def pStepped (n : Nat) (ds : List D) (d : Nat → D) : Prop := ∃ r t m, ds = [roomD r, .stp m (Step.ws t)] ∧ m ≤ n ∧ t ∈ stepsOf r ∧ Ok r.2 ∧ NE r.2 ∧ (∀ e ∈ r.2, e.1.length ≤ 400 ∧ e.2.length ≤ 400) ∧ r.1.length ≤ 1000 ∧ d = fun _ => roomD (stepR r t)
theorem ok_stepped {f fB : Addr} {fd fdB : FuncData} (F : Fun K "stepped" "stepped" s_stepped f fd) (C_steps_of : Cal P w K mg base 3 "steps_of" ["room"] (spD K pStepsP)) (C_stripped : Cal P w K mg base 2 "stripped" ["equations"] (spStripped K))
    (B : PF P w K mg base 1 fB fdB) (hmB : mg "put_for" = some (.ref fB)) (kpB : PySem.W.keepIn K (.ref fB) = true) (hbB : Binds K fdB ["step"] []) : FnG P w K mg base 4 f fd ["room", "step"] (spG K pStepped) := by
  refine FunG.ok F sc_stepped (fun vs n H Q h => ?_) (fun cdv A outer s H vs Q n hr h => ?_)
  · obtain ⟨ds, d, r, ⟨_, _, _, rfl, _⟩, _⟩ := h
    exact r.len
  · obtain ⟨ds, d, rr, ⟨r, t, m, rfl, hm, ht, h1, h2, h3, h4, rfl⟩, q⟩ := h
    have S0 : Sl K H (start ["room", "step", "names", "put", "pairs", "left", "right"] vs) [some (.tup [.tx r.1, .tup (r.2.map eD)]), some (.stp m t.ws), none, none, none, none, none] := Sl.start rr
    have sd := steps_sd ht h1
    refine ⟨_, gss_cons (gs_if (pt_cmpR (op_notInDTK (K := K) hr) (pv 1) (pe_cal C_steps_of (hr.mono (by decide)) (by rfl) (pa_cons (pv 0) pa_nil)) rfl) (gss_of (pss_one ps_never)) (gss_of pss_nil))
      (gss_cons (gs_of (ps_set (i := 2) sc_stepped.nd rfl (.inl rfl) (pe_ix (ix_tupK (K := K)) (pv 0) pe_int (fun _ _ => rfl))))
      (gss_cons (gs_if (pt_cmpR op_eq (pe_ix (ix_tupK (K := K)) (pv 1) pe_int (fun _ _ => rfl)) pe_str (nomark _)) (gss_one (gs_set (i := 2) sc_stepped.nd rfl (.inl rfl) (ge_repN (ik := 2) (is := 1) rfl (.inl rfl) rfl (.inr (.inl rfl))))) (gss_of pss_nil))
      (gss_pp (i1 := 1) (i3 := 3) (i4 := 4) (ir := 0) (own := [("left", 5), ("right", 6)]) (g := gTup K 2 (gCons (gName 5) (gCons (gName 6) gNil))) (te := fun n zt => tTup (tCons (tRP K 5 1 n zt) (tCons (tRP K 6 1 n zt) tNil))) B hmB kpB hbB (hr.mono (by decide)) (by rfl) rfl sc_stepped.nd rfl (.inr (.inl rfl)) rfl rfl rfl rfl rfl rfl (.inl rfl) (by decide)
        (blkOk_by (own := [("left", 5), ("right", 6)]) (N := nST) (sc := defScope s_stepped) (by decide +kernel)) (sw_true rfl rfl rfl (by decide +kernel)) (fun _ _ h => h)
        (fun z J fp => pg_tup rfl (pgs_cons (pg_name (i := 5) sc_stepped.nd rfl (Or.inl rfl)) (pgs_cons (pg_name (i := 6) sc_stepped.nd rfl (Or.inl rfl)) pgs_nil)))
        (fun z J fp c n zt tk hn hJ hz hcl => pe_tup (pa_cons (pe_repP (ik := 5) (is := 1) hn hJ hz hcl rfl rfl rfl (.inl rfl) rfl (.inr (.inl rfl))) (pa_cons (pe_repP (ik := 6) (is := 1) hn hJ hz hcl rfl rfl rfl (.inl rfl) rfl (.inr (.inl rfl))) pa_nil)))
        (gss_one (gs_of (ps_ret (pe_tup (pa_cons (pv 2) (pa_cons (pe_cal C_stripped (hr.mono (by decide)) (by rfl) (pa_cons (pv 4) pa_nil)) pa_nil))))))))), ?_⟩
    have hbb : (if true = true then !decide (t.ws ∈ (stepsOf r).map Step.ws) else decide (t.ws ∈ (stepsOf r).map Step.ws)) = false := by
      rw [if_pos rfl, decide_eq_true (List.mem_map.mpr ⟨t, ht, rfl⟩)]
      rfl
    have hasc : ∀ ws ∈ (stepsOf r).map Step.ws, ∀ l ∈ ws, Asc l := fun ws hws => by
      obtain ⟨t2, ht2, rfl⟩ := List.mem_map.mp hws
      exact ws_asc (steps_sd ht2 h1)
    have hmap : D.tup ((stepsOf r).map stepD) = .tup (((stepsOf r).map Step.ws).map stD) := by
      rw [List.map_map]
      rfl
    refine gst_if (EvT.to (et_test (ev_inT (neg := true) (a := t.ws) (b := (stepsOf r).map Step.ws) (ev_stp (ev_var S0 rfl)) (EvD.to (ev_call (P := pStepsP) (eva_cons (ev_var S0 rfl) eva_nil) ⟨r, rfl, h1, h2, rfl⟩) hmap) (ws_asc sd) hasc)) hbb) (fun hb => by cases hb) (fun _ H1 x1 => ?_)
    dsimp only [GEnds.at, gSeq]
    have S1 := S0.mono (Tp.of (K := K) x1)
    refine st_set S1 (ev_ixT (n := 0) (d := .tx r.1) (ev_var S1 rfl) ev_int rfl rfl) fun σ2 H2 x2 S2 => ?_
    dsimp only
    have hk : (t.ws.map D.tx)[0]? = some (.tx t.kind) := by
      rw [List.getElem?_map, ws0]
      rfl
    -- behind the names
    have rest : ∀ (nm : List Nat) (σ3 : L2.St) (H3 : Hp) (k : Nat), nm = nmOf r.1 t → n ≤ k → Same H H3 → Sl K H3 σ3 [some (.tup [.tx r.1, .tup (r.2.map eD)]), some (.stp m t.ws), some (.tx nm), none, none, none, none] →
        gSeq (gPP K (iTup K (tOp (rIxT K) (tVar 0) (tC (.int 1)))) (gTup K 2 (gCons (gName 5) (gCons (gName 6) gNil))) (fun n zt => tTup (tCons (tRP K 5 1 n zt) (tCons (tRP K 6 1 n zt) tNil))) [5, 6] 1 3 4) (fun D n σ H => tRet (tTup (tCons (tVar 2) (tCons (tCall (spStripped K) [] E0 (tCons (tVar 4) tNil)) tNil))) (D.at n) σ H) { nx := fun m _ H' => Q m .non H', rt := Q } k σ3 H3 := fun nm σ3 H3 k e hk x3 S3 => by
      obtain ⟨a, ea, ra⟩ := slot_stp S3 (i := 1) rfl
      refine ⟨t, a, ea, ra.later (Nat.le_trans hm hk), fun J xJ => ?_⟩
      have S4 : Sl K J (σ3.set 3 (some (.str (mkS (putW t))))) [some (.tup [.tx r.1, .tup (r.2.map eD)]), some (.stp m t.ws), some (.tx nm), some (.tx (putW t)), none, none, none] := (S3.mono (Tp.of xJ)).set (.tx (putW t)) 3
      refine st_setL S4 (el_map (xs := r.2) (enc := eD) (f := fun e => eD (substE t e)) (fs := fun e ss => (ss.set 5 (some (.tx e.1))).set 6 (some (.tx e.2))) S4 (it_tup (ev_ixT (n := 1) (d := .tup (r.2.map eD)) (ev_var S4 rfl) ev_int rfl rfl)).same ?_ ?_ ?_) ?_
      · exact fun e _ => go_pair
      · have := h1.1
        omega
      · intro e he σ' H' x S'
        obtain ⟨l1, l2⟩ := h3 e he
        exact ev_tup (eva_cons (ev_rp S' rfl rfl (Nat.le_trans hm hk) (putW_le t) (putW_ne t) (by omega)) (eva_cons (ev_rp S' rfl rfl (Nat.le_trans hm hk) (putW_le t) (putW_ne t) (by omega)) eva_nil)) (by show 2 ≤ sizeLine; decide)
      · intro σ5 L vs5 H5 x5 hL hv5 r5 S5
        refine st_ret (ev_tup (eva_cons (ev_var S5 rfl) (eva_cons (ev_strippedL (y := r.2.map (substE t)) (ev_var S5 rfl) (SqL.of hv5) (by rw [List.map_map]; exact r5) (subst_ok h1 sd h3)) eva_nil)) (by show 2 ≤ sizeLine; decide)) fun v H6 x6 r6 => ?_
        refine q k v H6 hk (((x3.trans xJ).trans x5).trans x6) ?_
        subst e
        exact r6
    refine gst_if (et_test (ev_eqS (ev_ixT (n := 0) (ev_stp (ev_var S2 rfl)) ev_int rfl hk) ev_str)) (fun hb H3 x3 => ?_) (fun hb H3 x3 => ?_)
    · have S3 := S2.mono (Tp.of (K := K) x3)
      have hb : t.kind = kN := of_decide_eq_true hb
      refine gst_set S3 (eg_rn S3 rfl rfl hm (by omega)) fun σ4 k H4 hk4 x4 S4 => ?_
      refine rest _ σ4 H4 k ?_ hk4 (((x1.trans x2).trans x3).trans x4) S4
      cases t with
      | none x => rfl
      | sign x a =>
        have hb : kS = kN := hb
        rw [kS_eq, kN_eq] at hb
        cases hb
      | over x y =>
        have hb : kO = kN := hb
        rw [kO_eq, kN_eq] at hb
        cases hb
    · have S3 := S2.mono (Tp.of (K := K) x3)
      have hne : t.kind ≠ kN := of_decide_eq_false hb
      refine rest _ σ2 H3 n ?_ (Nat.le_refl _) ((x1.trans x2).trans x3) S3
      cases t with
      | none x => exact absurd rfl hne
      | sign x a => rfl
      | over x y => rfl
end
end GW

set_option Elab.async false
set_option linter.all false
set_option maxRecDepth 100000
set_option maxHeartbeats 4000000
/-! next_step, way_of -/
namespace GW
open PySem PySem.Spec L2 TL PyProof.Rows
abbrev s_next_step : Stmt := topS 42
theorem sc_next_step : FnScope ["room", "words", "step", "behind"] ["room", "words"] (defScope s_next_step) := ⟨rfl, rfl, rfl, by decide +kernel, rfl, by decide +kernel, by decide +kernel⟩
abbrev s_way_of : Stmt := topS 43
theorem sc_way_of : FnScope ["system", "words", "room", "steps", "step"] ["system", "words"] (defScope s_way_of) := ⟨rfl, rfl, rfl, by decide +kernel, rfl, by decide +kernel, by decide +kernel⟩
abbrev Wds := List (List Nat)
def nextR (r : Room') (ws : Wds) : Option (Step × Wds) := (stepsOf r).findSome? fun t => (onW r.1 t ws).map fun b => (t, b)
theorem some_at {al be : Type} {f : al → Option be} {y : be} : ∀ {xs : List al} {k : Nat} {a : al}, xs[k]? = some a → (∀ b ∈ xs.take k, f b = none) → f a = some y → xs.findSome? f = some y
  | x :: xs, 0, a, e, _, h => by
    have e : x = a := Option.some.inj e
    subst e
    rw [List.findSome?_cons, h]
  | x :: xs, k + 1, a, e, n, h => by
    rw [List.findSome?_cons, n x (by simp)]
    exact some_at (k := k) e (fun b hb => n b (by rw [List.take_succ_cons]; exact List.mem_cons_of_mem _ hb)) h
  | [], k, a, e, _, _ => by simp at e
/-- what each call wants of a room and its filling -/
structure PG (r : Room') (ws : Wds) : Prop where
  ok : Ok r.2
  ne : NE r.2
  sm : ∀ e ∈ r.2, e.1.length ≤ 400 ∧ e.2.length ≤ 400
  nm : r.1.length ≤ 100
  nm26 : ∀ t ∈ stepsOf r, Of r.1 t
  dif : ∀ x y, Step.over x y ∈ stepsOf r → x ≠ y
  len : ws.length = r.1.length
  wl : ∀ w ∈ ws, w.length ≤ 1000
inductive Way : Room' → Wds → List Step → Room' → Wds → Prop
  | nil {r : Room'} {ws : Wds} : PG r ws → r.2 = [] → Way r ws [] r ws
  | cons {r r' : Room'} {ws ws1 ws' : Wds} {t : Step} {ts : List Step} : PG r ws → r.2 ≠ [] → nextR r ws = some (t, ws1) → Way (stepR r t) ws1 ts r' ws' → Way r ws (t :: ts) r' ws'
theorem Way.pg {r r' : Room'} {ws ws' : Wds} {ts : List Step} (h : Way r ws ts r' ws') : PG r ws := by
  cases h with
  | nil h _ => exact h
  | cons h _ _ _ => exact h
theorem next_mem {r : Room'} {ws ws1 : Wds} {t : Step} (h : nextR r ws = some (t, ws1)) : t ∈ stepsOf r ∧ onW r.1 t ws = some ws1 := by
  obtain ⟨a, ha, e⟩ := List.exists_of_findSome?_eq_some h
  obtain ⟨b, hb, e⟩ := Option.map_eq_some_iff.mp e
  cases e
  exact ⟨ha, hb⟩
section
variable {P : Program} {w : World} {K : PySem.W.Frag} {mg : Str → Option Value} {base : Heap} {tS tU tE tL tN : Tok} {σ : L2.St} {H H' : Hp} {ta tb : TE} {n : Nat}
theorem ev_later {m k : Nat} {ws : List (List Nat)} (h : EvD K ta σ H (.stp m ws)) (hm : m ≤ k) : EvD K ta σ H (.stp k ws) := fun H1 x Q q => h H1 x Q fun v H2 y r => q v H2 y (r.later hm)
theorem RL.laters {m k : Nat} (hm : m ≤ k) : ∀ {ts : List Step} {vs : List V}, RL K H vs (ts.map fun t => D.stp m t.ws) → RL K H vs (ts.map fun t => D.stp k t.ws)
  | [], _, .nil => .nil
  | _ :: _, _, .cons h t => .cons (h.later hm) (RL.laters hm t)
/-- next_step -/
def pNext (n : Nat) (ds : List D) (d : Nat → D) : Prop := ∃ r ws t ws1, ds = [roomD r, stD ws] ∧ PG r ws ∧ nextR r ws = some (t, ws1) ∧ d = fun m => .tup [.stp m (Step.ws t), stD ws1]
theorem ok_next_step {f : Addr} {fd : FuncData} (F : Fun K "next_step" "next_step" s_next_step f fd) (T : Txt mg tS tU tE tL tN) (C_steps_of : CalG P w K mg base 3 "steps_of" ["room"] (spG K pStepsOf)) (C_onward : Cal P w K mg base 2 "onward" ["room", "step", "words"] (spD K pOn)) : FnG P w K mg base 4 f fd ["room", "words"] (spG K pNext) := by
  refine FunG.ok F sc_next_step (fun vs n H Q h => ?_) (fun cdv A outer s H vs Q n hr h => ?_)
  · obtain ⟨ds, d, r, ⟨_, _, _, _, rfl, _⟩, _⟩ := h
    exact r.len
  · obtain ⟨ds, d, rr, ⟨r, ws, t, ws1, rfl, pg, hx, rfl⟩, q⟩ := h
    have S0 : Sl K H (start ["room", "words", "step", "behind"] vs) [some (roomD r), some (stD ws), none, none] := Sl.start rr
    refine ⟨_, gss_cons (gs_for PassesOwn.never rfl (gi_tup (ge_cal C_steps_of (hr.mono (by decide)) (by rfl) (ga_of (pa_cons (pv 0) pa_nil)))) (pg_name (i := 2) sc_next_step.nd rfl (.inl rfl)) (gss_of (pss_cons (ps_set (i := 3) sc_next_step.nd rfl (.inl rfl) (pe_cal C_onward (hr.mono (by decide)) (by rfl) (pa_cons (pv 0) (pa_cons (pv 2) (pa_cons (pv 1) pa_nil))))) (pss_one (ps_if (pt_cmpR op_notN1 (pv 3) pe_non (nomark _))
    (pss_one (ps_ret (pe_tup (pa_cons (pv 2) (pa_cons (pv 3) pa_nil)))))
    pss_nil))))) (gss_one (gs_of ps_never)), ?_⟩
    refine gst_for (xs := stepsOf r) (enc := fun k t => .stp k t.ws) (S := Tp K) (itg_tup (its := fun k => (stepsOf r).map fun t => .stp k t.ws) (eg_call (P := pStepsOf) (ega_of (eva_cons (ev_var S0 rfl) eva_nil)) fun m _ => ⟨r, rfl, pg.ok, pg.ne, rfl⟩)) fun m H2 hm x2 =>
      ⟨fun k j σ' H' => m ≤ j ∧ Same H2 H' ∧ Sl K H' σ' [some (roomD r), some (stD ws), none, none] ∧ ∀ t ∈ (stepsOf r).take k, onW r.1 t ws = none, ⟨Nat.le_refl _, Same.refl _, S0.mono (Tp.of x2), fun t ht => by rw [List.take_zero] at ht; cases ht⟩, fun k j σ' H' _ h => Tp.of h.2.1, fun k u j x σ' H' H3 hk ⟨hj, y, S', hno⟩ s3 rd => ?_, fun j σ' H' ⟨hj, y, S', hno⟩ => ?_⟩
    · have hu := List.mem_of_getElem? hk
      refine gd_name 2 x σ' _ H3 _ rd (S'.mono (Tp.of s3)) fun σ2 S2 => ?_
      refine st_set S2 (ev_call (P := pOn) (eva_cons (ev_var S2 rfl) (eva_cons (ev_stp (ev_var S2 rfl)) (eva_cons (ev_var S2 rfl) eva_nil))) ⟨r, u, ws, rfl, pg.nm26 u hu, pg.len, pg.nm, pg.wl, rfl⟩) fun σ4 H4 x4 S4 => ?_
      cases ho : onW r.1 u ws with
      | none =>
        rw [ho] at S4
        refine st_no (et_test (ev_notN (b := true) (ev_var S4 rfl) fun H1 v r => non_non r)) fun H5 x5 => ?_
        refine ⟨hj, ((y.trans s3).trans x4).trans x5, ((S4.mono (Tp.of x5)).drop1 2).drop1 3, fun t ht => ?_⟩
        rw [List.take_add_one, hk] at ht
        rcases List.mem_append.mp ht with h | h
        · exact hno t h
        · rw [List.mem_singleton.mp h]
          exact ho
      | some b =>
        rw [ho] at S4
        refine st_yes (et_test (ev_notN (b := false) (ev_var S4 rfl) fun H1 v r => non_tup r)) fun H5 x5 => ?_
        have S5 := S4.mono (Tp.of (K := K) x5)
        have hx2 : nextR r ws = some (u, b) := some_at hk (fun t ht => by rw [hno t ht]; rfl) (by rw [ho]; rfl)
        rw [hx] at hx2
        cases hx2
        refine st_ret (ev_tup (eva_cons (ev_later (ev_var S5 rfl) hj) (eva_cons (ev_var S5 rfl) eva_nil)) (by show 2 ≤ sizeLine; decide)) fun v H6 x6 r6 => ?_
        exact q j v H6 (Nat.le_trans hm hj) (((((x2.trans y).trans s3).trans x4).trans x5).trans x6) r6
    · rw [List.take_length] at hno
      obtain ⟨h1, h2⟩ := next_mem hx
      rw [hno t h1] at h2
      cases h2
/-- way_of -/
def pWay (n : Nat) (ds : List D) (d : Nat → D) : Prop := ∃ s ws ts r' ws', ds = [sysD s, stD ws] ∧ Sm s ∧ Ok s ∧ (∀ e ∈ s, (fill (names s) ws e.1).length ≤ 1000) ∧ Ans (names s) ws s ∧ Way (names s, strip s) ws ts r' ws' ∧ ts.length ≤ 1000 ∧ d = fun m => .tup [stpD m ts, stD ws']
theorem gd_pairG {k k2 : Nat} {d1 d2 : Nat → D} (m : Nat) : GD K (gTup K 2 (gCons (gName k) (gCons (gName k2) gNil))) ((fun m => D.tup [d1 m, d2 m]) m) ((fun m ss => (ss.set k (some (d1 m))).set k2 (some (d2 m))) m) := gd_pair
theorem ok_way_of {f : Addr} {fd : FuncData} (F : Fun K "way_of" "way_of" s_way_of f fd) (T : Txt mg tS tU tE tL tN) (C_names_of : Cal P w K mg base 2 "names_of" ["system"] (spD K pNames)) (C_holds : Cal P w K mg base 3 "holds" ["system", "words"] (spD K pHolds)) (C_first_room : Cal P w K mg base 3 "first_room" ["system"] (spD K pFirst)) (C_is_ended : Cal P w K mg base 1 "is_ended" ["room"] (spD K pEnded))
    (C_next_step : CalG P w K mg base 4 "next_step" ["room", "words"] (spG K pNext)) (C_stepped : CalG P w K mg base 4 "stepped" ["room", "step"] (spG K pStepped)) : FnG P w K mg base 5 f fd ["system", "words"] (spG K pWay) := by
  refine FunG.ok F sc_way_of (fun vs n H Q h => ?_) (fun cdv A outer s H vs Q n hr h => ?_)
  · obtain ⟨ds, d, r, ⟨_, _, _, _, _, rfl, _⟩, _⟩ := h
    exact r.len
  · obtain ⟨ds, d, rr, ⟨y, ws, ts, r', ws', rfl, h1, h2, h3, h4, way, hts, rfl⟩, q⟩ := h
    have S0 : Sl K H (start ["system", "words", "room", "steps", "step"] vs) [some (sysD y), some (.tup (ws.map D.tx)), none, none, none] := Sl.start rr
    have wl : ws.length = (names y).length := way.pg.len
    refine ⟨_, gss_cons (gs_of (ps_if (PW.pt (pw_or (pt_cmpR op_ne (pe_callB (call_lenQK (K := K)) (by rfl) T.zlen PySem.boot_len (pa_cons (pv 1) pa_nil)) (pe_callB call_lenS (by rfl) T.zlen PySem.boot_len (pa_cons (pe_cal C_names_of (hr.mono (by decide)) (by rfl) (pa_cons (pv 0) pa_nil)) pa_nil)) (nomark _)) (pw_or1 (pt_not (pt_val (pe_cal C_holds (hr.mono (by decide)) (by rfl) (pa_cons (pv 0) (pa_cons (pv 1) pa_nil))))))))
    (pss_one ps_never)
    pss_nil)) (gss_cons (gs_of (ps_set (i := 2) sc_way_of.nd rfl (.inl rfl) (pe_cal C_first_room (hr.mono (by decide)) (by rfl) (pa_cons (pv 0) pa_nil)))) (gss_cons (gs_of (ps_set (i := 3) sc_way_of.nd rfl (.inl rfl) (pe_lst pa_nil))) (gss_cons (gs_while PassesOwn.never (pt_not (pt_val (pe_cal C_is_ended (hr.mono (by decide)) (by rfl) (pa_cons (pv 2) pa_nil))))
      (gss_cons (gs_asg (ge_cal C_next_step (hr.mono (by decide)) (by rfl) (ga_of (pa_cons (pv 2) (pa_cons (pv 1) pa_nil)))) (pg_tup rfl (pgs_cons (pg_name (i := 4) sc_way_of.nd rfl (.inl rfl)) (pgs_cons (pg_name (i := 1) sc_way_of.nd rfl (.inl rfl)) (pgs_nil)))))
      (gss_cons (gs_of (ps_expr (pe_bm PySem.F.plainAttrs_list PySem.F.slot_list_append PySem.F.type_list_append mt_append (pv 3) (pa_cons (pv 4) pa_nil))))
      (gss_one (gs_set (i := 2) sc_way_of.nd rfl (.inl rfl) (ge_cal C_stepped (hr.mono (by decide)) (by rfl) (ga_of (pa_cons (pv 2) (pa_cons (pv 4) pa_nil)))))))))
      (gss_one (gs_of (ps_ret (pe_tup (pa_cons (pe_callTy (call_tupOfK (K := K)) (by rfl) T.ztuple (by decide +kernel) (pa_cons (pv 3) pa_nil)) (pa_cons (pv 1) pa_nil))))))))), ?_⟩
    have hb0 : (!decide (((ws.map D.tx).length : Int) = ((names y).length : Int)) || !true) = false := by
      rw [List.length_map, wl]
      simp
    refine st_no (EvT.to (et_or (et_test (ev_neI (ev_lenT (ev_var S0 rfl)) (ev_lenS (ev_call (P := pNames) (eva_cons (ev_var S0 rfl) eva_nil) ⟨y, rfl, h1, rfl⟩) (line_ge (by have := names_le y; omega))))) fun _ => et_not (et_B (ev_call (P := pHolds) (eva_cons (ev_var S0 rfl) (eva_cons (ev_var S0 rfl) eva_nil)) ⟨y, ws, rfl, h1, wl, h3, h4, rfl⟩))) hb0) fun H1 x1 => ?_
    dsimp only [GEnds.at, gSeq]
    have S1 := S0.mono (Tp.of (K := K) x1)
    refine st_set S1 (ev_call (P := pFirst) (eva_cons (ev_var S1 rfl) eva_nil) ⟨y, rfl, h1, h2, rfl⟩) fun σ2 H2 x2 S2 => ?_
    dsimp only
    refine st_setL (ds := []) S2 (el_lst eva_nil (Nat.zero_le _)) fun σ3 L vs3 H3 x3 hL hv3 r3 S3 => ?_
    dsimp only
    cases r3
    have hL2 : H2 L = none := hL
    refine gst_while (fun a m σ' H' => n ≤ m ∧ Same H2 H' ∧ ∃ r1 w1 done rem vs1 o, a = rem.length ∧ done ++ rem = ts ∧ Way r1 w1 rem r' ws' ∧ H' L = some (.lst vs1) ∧ RL K H' vs1 (done.map fun t => D.stp m (Step.ws t)) ∧ Sl K H' σ' [some (sysD y), some (stD w1), some (roomD r1), some (.raw (.ref L)), o]) ts.length ⟨Nat.le_refl _, x3, _, _, [], ts, [], _, rfl, rfl, way, hv3, .nil, S3⟩ fun a m σ' H' ⟨hm, sm, r1, w1, done, rem, vs1, o, ea, et, wy, hl, rl, S'⟩ => ⟨!decide (r1.2 = []), et_not (et_B (ev_call (P := pEnded) (eva_cons (ev_var S' rfl) eva_nil) ⟨r1, rfl, rfl⟩)), fun hb H4 x4 => ?_, fun hb H4 x4 => ?_⟩
    · cases wy with
      | nil pg he =>
        rw [decide_eq_true he] at hb
        cases hb
      | @cons _ _ _ w2 _ t rem pg hne hx wy =>
        obtain ⟨ht, hon⟩ := next_mem hx
        have S4 := S'.mono (Tp.of (K := K) x4)
        dsimp only [gSeq]
        refine gst_asg S4 (eg_call (P := pNext) (ega_of (eva_cons (ev_var S4 rfl) (eva_cons (ev_var S4 rfl) eva_nil))) fun m2 _ => ⟨r1, w1, t, w2, rfl, pg, hx, rfl⟩) (gd_pairG (d1 := fun m => .stp m t.ws) (d2 := fun _ => stD w2)) fun σ5 m5 H5 hm5 x5 S5 => ?_
        dsimp only [GEnds.at]
        have e5 : H5 L = some (.lst vs1) := x5 _ _ (x4 _ _ hl)
        have l5 := (rl.mono (Tp.of (K := K) (x4.trans x5))).laters hm5
        have hlen : vs1.length < sizeLine := by
          rw [rl.len, List.length_map]
          have := congrArg List.length et
          rw [List.length_append] at this
          exact line_gt (by omega)
        refine st_app (ev_var S5 rfl) e5 hlen (ev_var S5 rfl) fun v H6 x6 r6 => ?_
        dsimp only
        have e6 : H6 L = some (.lst vs1) := x6 _ _ e5
        have tp6 := tp_mut (K := K) (w := .lst (vs1 ++ [v])) e6 trivial
        have S6 := (S5.mono (Tp.of (K := K) x6)).mono tp6
        have l6 := ((l5.mono (Tp.of (K := K) x6)).app (.one r6)).mono tp6
        have sm6 : Same H2 (upd H6 L (.lst (vs1 ++ [v]))) := Same.mut (((sm.trans x4).trans x5).trans x6) hL2
        refine gst_set S6 (eg_call (P := pStepped) (ega_of (eva_cons (ev_var S6 rfl) (eva_cons (ev_var S6 rfl) eva_nil))) fun m7 h7 => ⟨r1, t, m5, rfl, h7, ht, pg.ok, pg.ne, pg.sm, by have := pg.nm; omega, rfl⟩) fun σ7 m7 H7 hm7 x7 S7 => ?_
        have l7 := (l6.mono (Tp.of (K := K) x7))
        have l7 : RL K H7 (vs1 ++ [v]) ((done ++ [t]).map fun t => D.stp m5 t.ws) := by
          rw [List.map_append]
          exact l7
        exact ⟨rem.length, by rw [ea]; exact Nat.lt_succ_self _, Nat.le_trans hm (Nat.le_trans hm5 hm7), sm6.trans x7, _, _, done ++ [t], rem, vs1 ++ [v], _, rfl, by rw [List.append_assoc]; exact et, wy, x7 _ _ upd_same, l7.laters hm7, S7⟩
    · cases wy with
      | cons pg hne _ _ =>
        rw [decide_eq_false hne] at hb
        cases hb
      | nil pg he =>
        rw [List.append_nil] at et
        subst et
        have S4 := S'.mono (Tp.of (K := K) x4)
        refine st_ret (ev_tup (eva_cons (ev_tupOfL (ev_var S4 rfl) (SqL.of (x4 _ _ hl)) (rl.mono (Tp.of x4))) (eva_cons (ev_var S4 rfl) eva_nil)) (by show 2 ≤ sizeLine; decide)) fun v H6 x6 r6 => ?_
        exact q m v H6 hm ((((x1.trans x2).trans sm).trans x4).trans x6) r6
end
end GW

set_option Elab.async false
set_option linter.all false
set_option maxRecDepth 100000
set_option maxHeartbeats 4000000
/-! rooms_along, led_back -/
namespace GW
open PySem PySem.Spec L2 TL PyProof.Rows
abbrev s_rooms_along : Stmt := topS 44
theorem sc_rooms_along : FnScope ["system", "steps", "rooms", "at", "step"] ["system", "steps"] (defScope s_rooms_along) := ⟨rfl, rfl, rfl, by decide +kernel, rfl, by decide +kernel, by decide +kernel⟩
abbrev s_led_back : Stmt := topS 45
theorem sc_led_back : FnScope ["system", "steps", "rest", "rooms", "words", "at"] ["system", "steps", "rest"] (defScope s_led_back) := ⟨rfl, rfl, rfl, by decide +kernel, rfl, by decide +kernel, by decide +kernel⟩
/-- the rooms to which steps lead -/
def trail (r : Room') : List Step → List Room'
  | [] => [r]
  | t :: ts => r :: trail (stepR r t) ts
theorem trail_len (ts : List Step) : ∀ r : Room', (trail r ts).length = ts.length + 1 := by
  induction ts with
  | nil => exact fun _ => rfl
  | cons t ts ih => exact fun r => congrArg (· + 1) (ih _)
theorem trail_zero (r : Room') (ts : List Step) : (trail r ts)[0]? = some r := by cases ts <;> rfl
theorem way_at {r r' : Room'} {ws ws' : Wds} {ts : List Step} (h : Way r ws ts r' ws') : ∀ {k : Nat} {t : Step}, ts[k]? = some t → ∃ rk wk, (trail r ts)[k]? = some rk ∧ PG rk wk ∧ t ∈ stepsOf rk ∧ (trail r ts)[k + 1]? = some (stepR rk t) := by
  induction h with
  | nil _ _ => intro k t e; simp at e
  | @cons r r' ws ws1 ws' t ts pg hne hx wy ih =>
    intro k u e
    cases k with
    | zero =>
      have e : t = u := Option.some.inj e
      subst e
      exact ⟨r, ws, rfl, pg, (next_mem hx).1, trail_zero _ _⟩
    | succ k =>
      obtain ⟨rk, wk, a, b, c, d⟩ := ih (k := k) (t := u) e
      exact ⟨rk, wk, a, b, c, d⟩
theorem way_last {r r' : Room'} {ws ws' : Wds} {ts : List Step} (h : Way r ws ts r' ws') : (trail r ts)[ts.length]? = some r' ∧ r'.2 = [] ∧ PG r' ws' := by
  induction h with
  | nil pg he => exact ⟨rfl, he, pg⟩
  | cons pg hne hx wy ih => exact ih
theorem mapIdx_zip {al be ga : Type} (f : al → be) (g : Nat → be → ga) (xs : List al) : (xs.map f).mapIdx g = xs.zipIdx.map fun p => g p.2 (f p.1) := by
  refine List.ext_getElem? fun i => ?_
  rw [List.getElem?_mapIdx, List.getElem?_map, List.getElem?_map, List.getElem?_zipIdx]
  cases xs[i]? with
  | none => rfl
  | some x => simp
section
variable {P : Program} {w : World} {K : PySem.W.Frag} {mg : Str → Option Value} {base : Heap} {tS tU tE tL tN : Tok} {σ : L2.St} {H H' : Hp} {ta tb : TE} {n : Nat}
theorem ev_ixL {ds : List D} {d : D} {a : Addr} {vs : List V} {i : Int} {m : Nat} (h1 : EvD K ta σ H (.raw (.ref a))) (ha : SqL K H a vs) (hr : RL K H vs ds) (h2 : EvD K tb σ H (.int i)) (e : i = (m : Int)) (h : ds[m]? = some d) : EvD K (tOp (rIxL K) ta tb) σ H d := fun H1 x Q q =>
  h1 H1 x _ fun v H2 x2 r2 => h2 H2 (x.trans x2) _ fun w H3 x3 r3 => by
    cases r2
    cases r3
    have y := (x.trans x2).trans x3
    obtain ⟨v, hv, rv⟩ := (hr.mono (Tp.of (K := K) y)).at h
    exact ⟨a, vs, i, v, rfl, rfl, y.seq ha, atI_some hv e, q v H3 (x2.trans x3) rv⟩
theorem ev_ixLast {ds : List D} {d : D} {a : Addr} {vs : List V} (h1 : EvD K ta σ H (.raw (.ref a))) (ha : SqL K H a vs) (hr : RL K H vs (ds ++ [d])) (h2 : EvD K tb σ H (.int (-1))) : EvD K (tOp (rIxL K) ta tb) σ H d := fun H1 x Q q =>
  h1 H1 x _ fun v H2 x2 r2 => h2 H2 (x.trans x2) _ fun w H3 x3 r3 => by
    cases r2
    cases r3
    have y := (x.trans x2).trans x3
    have hr3 := hr.mono (Tp.of (K := K) y)
    obtain ⟨v, hv, rv⟩ := hr3.at (i := ds.length) (d := d) (by simp)
    have hlen := hr3.len
    rw [List.length_append, List.length_singleton] at hlen
    have ev : vs = vs.take ds.length ++ [v] := by
      refine List.ext_getElem? fun j => ?_
      by_cases hj : j < ds.length
      · rw [List.getElem?_append_left (by rw [List.length_take]; omega), List.getElem?_take, if_pos hj]
      · rw [List.getElem?_append_right (by rw [List.length_take]; omega)]
        rw [List.length_take, show min ds.length vs.length = ds.length by omega]
        by_cases hj2 : j = ds.length
        · subst hj2
          rw [hv, Nat.sub_self]
          rfl
        · rw [List.getElem?_eq_none (by omega), List.getElem?_eq_none (by simp; omega)]
    refine ⟨a, vs, -1, v, rfl, rfl, y.seq ha, ?_, q v H3 (x2.trans x3) rv⟩
    rw [ev]
    exact atI_last _ v
theorem it_enumM {al : Type} {S : Hp → Hp → Prop} {t : TA} (f : al → D) (xs : List al) (h : ∀ H1, Same H H1 → ∀ Q : List V → Hp → Prop, (∀ c H2, Same H1 H2 → RSc K S H2 c (xs.map f) → Q [c.v] H2) → t σ H1 Q) : ItD K S (iEnumD K t) σ H (xs.zipIdx.map fun p => .tup [.int ((p.2 : Nat) : Int), f p.1]) := by
  rw [← mapIdx_zip f (fun (i : Nat) d => D.tup [.int (i : Nat), d]) xs]
  exact it_enumD h
/-- rooms_along -/
def spRooms (K : PySem.W.Frag) : List V → Nat → Hp → GK → Prop := fun vs n H Q => ∃ s ws ts r' ws' m, RL K H vs [sysD s, stpD m ts] ∧ m ≤ n ∧ Sm s ∧ Ok s ∧ Way (names s, strip s) ws ts r' ws' ∧ ts.length ≤ 1000 ∧
  ∀ k a us H', n ≤ k → Same H H' → H a = none → H' a = some (.lst us) → RL K H' us ((trail (names s, strip s) ts).map roomD) → Q k (.ref a) H'
theorem ok_rooms_along {f : Addr} {fd : FuncData} (F : Fun K "rooms_along" "rooms_along" s_rooms_along f fd) (T : Txt mg tS tU tE tL tN) (C_first_room : Cal P w K mg base 3 "first_room" ["system"] (spD K pFirst)) (C_steps_of : Cal P w K mg base 3 "steps_of" ["room"] (spD K pStepsP)) (C_stepped : CalG P w K mg base 4 "stepped" ["room", "step"] (spG K pStepped)) :
    FnG P w K mg base 5 f fd ["system", "steps"] (spRooms K) := by
  refine FunG.ok F sc_rooms_along (fun vs n H Q h => ?_) (fun cdv A outer s H vs Q n hr h => ?_)
  · obtain ⟨_, _, _, _, _, _, r, _⟩ := h
    exact r.len
  · obtain ⟨y, ws, ts, r', ws', m, rr, hm, h1, h2, way, hts, q⟩ := h
    have S0 : Sl K H (start ["system", "steps", "rooms", "at", "step"] vs) [some (sysD y), some (stpD m ts), none, none, none] := Sl.start rr
    refine ⟨_, gss_cons (gs_of (ps_set (i := 2) sc_rooms_along.nd rfl (.inl rfl) (pe_lst (pa_cons (pe_cal C_first_room (hr.mono (by decide)) (by rfl) (pa_cons (pv 0) pa_nil)) pa_nil)))) (gss_cons (gs_for PassesOwn.never rfl (gi_of (pi_enumD (by rfl) T.zenumerate (pa_cons (pv 1) pa_nil))) (pg_tup rfl (pgs_cons (pg_name (i := 3) sc_rooms_along.nd rfl (.inl rfl)) (pgs_cons (pg_name (i := 4) sc_rooms_along.nd rfl (.inl rfl)) (pgs_nil))))
      (gss_cons (gs_of (ps_if (pt_cmpR (op_notInDTK (K := K) hr) (pv 4) (pe_cal C_steps_of (hr.mono (by decide)) (by rfl) (pa_cons (pe_ix (ix_listK (K := K)) (pv 2) (pv 3) (fun _ _ => rfl)) pa_nil)) rfl)
    (pss_one ps_never)
    pss_nil))
      (gss_one (gs_expr (ge_bm PySem.F.plainAttrs_list PySem.F.slot_list_append PySem.F.type_list_append mt_append (pv 2) (ga_cons (ge_cal C_stepped (hr.mono (by decide)) (by rfl) (ga_of (pa_cons (pe_ix (ix_listK (K := K)) (pv 2) (pv 3) (fun _ _ => rfl)) (pa_cons (pv 4) pa_nil)))) ga_nil))))))
      (gss_one (gs_of (ps_ret (pv 2))))), ?_⟩
    refine st_setL S0 (el_lst (eva_cons (ev_call (P := pFirst) (eva_cons (ev_var S0 rfl) eva_nil) ⟨y, rfl, h1, h2, rfl⟩) eva_nil) (by show 1 ≤ sizeLine; decide)) fun σ1 L vs1 H1 x1 hL hv1 r1 S1 => ?_
    dsimp only [GEnds.at, gSeq]
    generalize hrs : trail (names y, strip y) ts = rs
    have len : rs.length = ts.length + 1 := by rw [← hrs, trail_len]
    have rs0 : rs.take 1 = [(names y, strip y)] := by
      rw [← hrs]
      cases ts <;> rfl
    refine gst_for (xs := ts.zipIdx) (enc := fun _ p => .tup [.int ((p.2 : Nat) : Int), .stp m p.1.ws]) (S := Tp K) (itg_of (its := ts.zipIdx.map fun p => .tup [.int ((p.2 : Nat) : Int), .stp m p.1.ws]) (it_enumM (fun t : Step => D.stp m t.ws) ts (src_tup (ev_var S1 rfl)))) fun n2 H2 hn2 x2 =>
      ⟨fun k j σ' H' => n ≤ j ∧ Tp K H2 H' ∧ Same H H' ∧ ∃ vs2 o1 o2, H' L = some (.lst vs2) ∧ RL K H' vs2 ((rs.take (k + 1)).map roomD) ∧ Sl K H' σ' [some (sysD y), some (stpD m ts), some (.raw (.ref L)), o1, o2],
        ⟨hn2, Tp.refl, x1.trans x2, vs1, none, none, x2 _ _ hv1, by rw [rs0]; exact r1.mono (Tp.of x2), S1.mono (Tp.of x2)⟩, fun k j σ' H' _ h => h.2.1, fun k u j x σ' H' H3 hk ⟨hj, tp, sm, vs2, o1, o2, hl, rl, S'⟩ s3 rd => ?_, fun j σ' H' ⟨hj, tp, sm, vs2, o1, o2, hl, rl, S'⟩ => ?_⟩
    · obtain ⟨t, i⟩ := u
      rw [List.getElem?_zipIdx] at hk
      obtain ⟨t2, ht2, e2⟩ := Option.map_eq_some_iff.mp hk
      cases e2
      rw [Nat.zero_add] at rd
      obtain ⟨rk, wk, e1, pg, hst, e3⟩ := way_at way ht2
      rw [hrs] at e1 e3
      refine gd_pair x σ' _ H3 _ rd (S'.mono (Tp.of s3)) fun σ4 S4 => ?_
      dsimp only [gSeq]
      have l3 := rl.mono (Tp.of (K := K) s3)
      have e4 : H3 L = some (.lst vs2) := s3 _ _ hl
      have ek : ((rs.take (k + 1)).map roomD)[k]? = some (roomD rk) := by
        rw [List.getElem?_map, List.getElem?_take, if_pos (Nat.lt_succ_self _), e1]
        rfl
      have sd := steps_sd hst pg.ok
      have hasc : ∀ ws ∈ (stepsOf rk).map Step.ws, ∀ l ∈ ws, Asc l := fun ws hws => by
        obtain ⟨t3, ht3, rfl⟩ := List.mem_map.mp hws
        exact ws_asc (steps_sd ht3 pg.ok)
      have hmap : D.tup ((stepsOf rk).map stepD) = .tup (((stepsOf rk).map Step.ws).map stD) := by
        rw [List.map_map]
        rfl
      have hbb : (if true = true then !decide (t.ws ∈ (stepsOf rk).map Step.ws) else decide (t.ws ∈ (stepsOf rk).map Step.ws)) = false := by
        rw [if_pos rfl, decide_eq_true (List.mem_map.mpr ⟨t, hst, rfl⟩)]
        rfl
      refine st_no (EvT.to (et_test (ev_inT (neg := true) (a := t.ws) (b := (stepsOf rk).map Step.ws) (ev_stp (ev_var S4 rfl)) (EvD.to (ev_call (P := pStepsP) (eva_cons (ev_ixL (ev_var S4 rfl) (SqL.of e4) l3 (ev_var S4 rfl) rfl ek) eva_nil) ⟨rk, rfl, pg.ok, pg.ne, rfl⟩) hmap) (ws_asc sd) hasc)) hbb) fun H5 x5 => ?_
      have S5 := S4.mono (Tp.of (K := K) x5)
      have e5 : H5 L = some (.lst vs2) := x5 _ _ e4
      have l5 := l3.mono (Tp.of (K := K) x5)
      have hlen : vs2.length < sizeLine := by
        rw [rl.len, List.length_map, List.length_take]
        exact line_gt (by omega)
      refine gst_app (ev_var S5 rfl) e5 hlen (eg_call (P := pStepped) (ega_of (eva_cons (ev_ixL (ev_var S5 rfl) (SqL.of e5) l5 (ev_var S5 rfl) rfl ek) (eva_cons (ev_var S5 rfl) eva_nil))) fun j2 hj2 => ⟨rk, t, m, rfl, Nat.le_trans hm (Nat.le_trans hj hj2), hst, pg.ok, pg.ne, pg.sm, by have := pg.nm; omega, rfl⟩) fun j6 v H6 hj6 x6 r6 => ?_
      dsimp only
      have e6 : H6 L = some (.lst vs2) := x6 _ _ e5
      have tp6 := tp_mut (K := K) (w := .lst (vs2 ++ [v])) e6 trivial
      refine ⟨Nat.le_trans hj hj6, ((tp.trans (Tp.of ((s3.trans x5).trans x6))).trans tp6), Same.mut (((sm.trans s3).trans x5).trans x6) hL, vs2 ++ [v], _, _, upd_same, ?_, (S5.mono (Tp.of (K := K) x6)).mono tp6⟩
      have et : (rs.take (k + 1 + 1)).map roomD = (rs.take (k + 1)).map roomD ++ [roomD (stepR rk t)] := by
        rw [List.take_add_one, e3, List.map_append]
        rfl
      rw [et]
      exact ((l5.mono (Tp.of (K := K) x6)).app (.one r6)).mono tp6
    · rw [List.length_zipIdx] at rl
      dsimp only
      refine EvD.go (ev_var S' rfl) fun v H3 x3 r3 => ?_
      cases r3
      have et : rs.take (ts.length + 1) = rs := by rw [← len, List.take_length]
      rw [et] at rl
      exact q j L vs2 H3 hj (sm.trans x3) hL (x3 _ _ hl) (hrs ▸ rl.mono (Tp.of x3))
end
end GW

set_option Elab.async false
set_option linter.all false
set_option maxRecDepth 100000
set_option maxHeartbeats 4000000
/-! led_back -/
namespace GW
open PySem PySem.Spec L2 TL PyProof.Rows
/-! ### a step led is the step gone onward, back -/
theorem cut_at {al : Type} {ws : List al} {i : Nat} {a : al} (h : ws[i]? = some a) : ws = ws.take i ++ [a] ++ ws.drop (i + 1) := by
  obtain ⟨hi, e⟩ := List.getElem?_eq_some_iff.mp h
  rw [List.append_assoc, List.singleton_append, ← e, ← List.drop_eq_getElem_cons hi, List.take_append_drop]
theorem getD_at {ws : Wds} {i : Nat} (h : i < ws.length) : ws[i]? = some (ws.getD i []) := by
  rw [List.getD_eq_getElem?_getD, List.getElem?_eq_getElem h]
  rfl
theorem take_at {al : Type} {a b : List al} {c : al} {i : Nat} (h : a.length = i) : (a ++ [c] ++ b).take i = a := by
  rw [List.append_assoc, ← h, List.take_left]
theorem drop_at {al : Type} {a b : List al} {c : al} {i : Nat} (h : a.length = i) : (a ++ [c] ++ b).drop (i + 1) = b := by
  rw [← h, show a.length + 1 = (a ++ [c]).length by simp, List.drop_left]
theorem mid_at {a b : Wds} {c : List Nat} {i : Nat} (h : a.length = i) : (a ++ [c] ++ b).getD i [] = c := by
  rw [List.getD_eq_getElem?_getD, List.append_assoc, List.getElem?_append_right (by omega), h, Nat.sub_self]
  rfl
theorem other_at {ws : Wds} {c : List Nat} {i j : Nat} (hi : i < ws.length) (hj : j ≠ i) : (ws.take i ++ [c] ++ ws.drop (i + 1)).getD j [] = ws.getD j [] := by
  rw [List.getD_eq_getElem?_getD, List.getD_eq_getElem?_getD]
  congr 1
  by_cases h : j < i
  · rw [List.append_assoc, List.getElem?_append_left (by rw [List.length_take]; omega), List.getElem?_take, if_pos h]
  · rw [List.getElem?_append_right (by simp; omega), List.getElem?_drop]
    congr 1
    simp
    omega
theorem idx_ne {nm : List Nat} {x y : Nat} (hx : x ∈ nm) (hy : y ∈ nm) (h : x ≠ y) : nm.idxOf y ≠ nm.idxOf x := fun e => by
  have h1 := List.getElem_idxOf (List.idxOf_lt_length_of_mem hx)
  have h2 := List.getElem_idxOf (List.idxOf_lt_length_of_mem hy)
  simp only [e] at h2
  exact h (h1.symm.trans h2)
def LenOk (nm : List Nat) (t : Step) (ws : Wds) : Prop := match t with
  | .none _ => ws.length + 1 = nm.length
  | _ => ws.length = nm.length
theorem led_on {nm : List Nat} {t : Step} {ws ws1 : Wds} (hof : Of nm t) (hd : ∀ x y, t = .over x y → x ≠ y) (hl : ws.length = nm.length) (h : onW nm t ws = some ws1) : ledW nm t ws1 = ws ∧ LenOk nm t ws1 := by
  have hi : nm.idxOf t.x < ws.length := by
    rw [hl]
    exact List.idxOf_lt_length_of_mem hof.x
  have hc := cut_at (getD_at hi)
  have ht : (ws.take (nm.idxOf t.x)).length = nm.idxOf t.x := by
    rw [List.length_take]
    omega
  -- for a step that cuts
  have key : ∀ st : List Nat, (ws.getD (nm.idxOf t.x) []).take st.length = st → ws.take (nm.idxOf t.x) ++ [st ++ (ws.getD (nm.idxOf t.x) []).drop st.length] ++ ws.drop (nm.idxOf t.x + 1) = ws := fun st e => by
    have e2 : st ++ (ws.getD (nm.idxOf t.x) []).drop st.length = ws.getD (nm.idxOf t.x) [] := by
      conv => lhs; arg 1; rw [← e]
      exact List.take_append_drop _ _
    rw [e2]
    exact hc.symm
  have len1 : ∀ c : List Nat, (ws.take (nm.idxOf t.x) ++ [c] ++ ws.drop (nm.idxOf t.x + 1)).length = ws.length := fun c => by
    simp only [List.length_append, List.length_take, List.length_drop, List.length_singleton]
    omega
  cases t with
  | none x =>
    by_cases e : ws.getD (nm.idxOf x) [] = []
    · have h : (if ws.getD (nm.idxOf x) [] = [] then some (ws.take (nm.idxOf x) ++ ws.drop (nm.idxOf x + 1)) else none) = some ws1 := h
      rw [if_pos e] at h
      cases h
      have ht : (ws.take (nm.idxOf x)).length = nm.idxOf x := ht
      have hi : nm.idxOf x < ws.length := hi
      refine ⟨?_, ?_⟩
      · show (ws.take (nm.idxOf x) ++ ws.drop (nm.idxOf x + 1)).take (nm.idxOf x) ++ [[]] ++ (ws.take (nm.idxOf x) ++ ws.drop (nm.idxOf x + 1)).drop (nm.idxOf x) = ws
        rw [show (ws.take (nm.idxOf x) ++ ws.drop (nm.idxOf x + 1)).take (nm.idxOf x) = ws.take (nm.idxOf x) by conv => lhs; arg 1; rw [← ht]
                                                                                                                exact List.take_left]
        rw [show (ws.take (nm.idxOf x) ++ ws.drop (nm.idxOf x + 1)).drop (nm.idxOf x) = ws.drop (nm.idxOf x + 1) by conv => lhs; arg 1; rw [← ht]
                                                                                                                    exact List.drop_left]
        conv => rhs; rw [hc]
        show _ = ws.take (nm.idxOf x) ++ [ws.getD (nm.idxOf x) []] ++ _
        rw [e]
        rfl
      · show (ws.take (nm.idxOf x) ++ ws.drop (nm.idxOf x + 1)).length + 1 = nm.length
        simp only [List.length_append, List.length_take, List.length_drop]
        omega
    · have h : (if ws.getD (nm.idxOf x) [] = [] then some (ws.take (nm.idxOf x) ++ ws.drop (nm.idxOf x + 1)) else none) = some ws1 := h
      rw [if_neg e] at h
      cases h
  | sign x a =>
    have h : (if (ws.getD (nm.idxOf x) []).take [a].length = [a] then some (ws.take (nm.idxOf x) ++ [(ws.getD (nm.idxOf x) []).drop [a].length] ++ ws.drop (nm.idxOf x + 1)) else none) = some ws1 := h
    by_cases e : (ws.getD (nm.idxOf x) []).take [a].length = [a]
    · rw [if_pos e] at h
      cases h
      refine ⟨?_, (len1 _).trans hl⟩
      show (ws.take (nm.idxOf x) ++ [(ws.getD (nm.idxOf x) []).drop [a].length] ++ ws.drop (nm.idxOf x + 1)).take (nm.idxOf x) ++ [[a] ++ (ws.take (nm.idxOf x) ++ [(ws.getD (nm.idxOf x) []).drop [a].length] ++ ws.drop (nm.idxOf x + 1)).getD (nm.idxOf x) []] ++ (ws.take (nm.idxOf x) ++ [(ws.getD (nm.idxOf x) []).drop [a].length] ++ ws.drop (nm.idxOf x + 1)).drop (nm.idxOf x + 1) = ws
      have ht : (ws.take (nm.idxOf x)).length = nm.idxOf x := ht
      rw [take_at ht, drop_at ht, mid_at ht]
      exact key [a] e
    · rw [if_neg e] at h
      cases h
  | over x y =>
    have hne := hd x y rfl
    have hj := idx_ne hof.1 hof.2 hne
    have h : (if (ws.getD (nm.idxOf x) []).take (ws.getD (nm.idxOf y) []).length = ws.getD (nm.idxOf y) [] then some (ws.take (nm.idxOf x) ++ [(ws.getD (nm.idxOf x) []).drop (ws.getD (nm.idxOf y) []).length] ++ ws.drop (nm.idxOf x + 1)) else none) = some ws1 := h
    by_cases e : (ws.getD (nm.idxOf x) []).take (ws.getD (nm.idxOf y) []).length = ws.getD (nm.idxOf y) []
    · rw [if_pos e] at h
      cases h
      refine ⟨?_, (len1 _).trans hl⟩
      show (ws.take (nm.idxOf x) ++ [(ws.getD (nm.idxOf x) []).drop (ws.getD (nm.idxOf y) []).length] ++ ws.drop (nm.idxOf x + 1)).take (nm.idxOf x) ++ [(ws.take (nm.idxOf x) ++ [(ws.getD (nm.idxOf x) []).drop (ws.getD (nm.idxOf y) []).length] ++ ws.drop (nm.idxOf x + 1)).getD (nm.idxOf y) [] ++ (ws.take (nm.idxOf x) ++ [(ws.getD (nm.idxOf x) []).drop (ws.getD (nm.idxOf y) []).length] ++ ws.drop (nm.idxOf x + 1)).getD (nm.idxOf x) []] ++ (ws.take (nm.idxOf x) ++ [(ws.getD (nm.idxOf x) []).drop (ws.getD (nm.idxOf y) []).length] ++ ws.drop (nm.idxOf x + 1)).drop (nm.idxOf x + 1) = ws
      have ht : (ws.take (nm.idxOf x)).length = nm.idxOf x := ht
      have hi : nm.idxOf x < ws.length := hi
      rw [take_at ht, drop_at ht, mid_at ht, other_at hi hj]
      exact key _ e
    · rw [if_neg e] at h
      cases h
/-- the fillings along a way -/
theorem way_words {r r' : Room'} {ws ws' : Wds} {ts : List Step} (h : Way r ws ts r' ws') : ∃ wl : List Wds, wl[0]? = some ws ∧ wl[ts.length]? = some ws' ∧ ∀ {k : Nat} {t : Step}, ts[k]? = some t → ∃ rk wk w1, (trail r ts)[k]? = some rk ∧ wl[k]? = some wk ∧ wl[k + 1]? = some w1 ∧ PG rk wk ∧ Of rk.1 t ∧ ledW rk.1 t w1 = wk ∧ LenOk rk.1 t w1 ∧ ∀ v ∈ w1, v.length ≤ 1000 := by
  induction h with
  | @nil r ws pg he => exact ⟨[ws], rfl, rfl, fun {k t} e => by simp at e⟩
  | @cons r r' ws ws1 ws' t ts pg hne hx wy ih =>
    obtain ⟨wl, h0, hl, hk⟩ := ih
    refine ⟨ws :: wl, rfl, hl, fun {k u} e => ?_⟩
    cases k with
    | zero =>
      have e : t = u := Option.some.inj e
      subst e
      obtain ⟨ht, hon⟩ := next_mem hx
      have hof := pg.nm26 t ht
      obtain ⟨a, b⟩ := led_on hof (fun x y e => pg.dif x y (e ▸ ht)) pg.len hon
      exact ⟨r, ws, ws1, rfl, rfl, h0, pg, hof, a, b, wy.pg.wl⟩
    | succ k =>
      obtain ⟨rk, wk, w1, a, b, c, d⟩ := hk (k := k) (t := u) e
      exact ⟨rk, wk, w1, a, b, c, d⟩
theorem trail_init {r r' : Room'} {ws ws' : Wds} {ts : List Step} (h : Way r ws ts r' ws') : trail r ts = (trail r ts).take ts.length ++ [r'] := by
  have := (way_last h).1
  have hl := trail_len ts r
  conv => lhs; rw [cut_at this]
  rw [List.drop_eq_nil_of_le (by omega), List.append_nil]
section
variable {P : Program} {w : World} {K : PySem.W.Frag} {mg : Str → Option Value} {base : Heap} {tS tU tE tL tN : Tok} {σ : L2.St} {H H' : Hp} {ta tb : TE} {n : Nat}
theorem it_rngDown {t : TA} {i : Int} {m : Nat} (h : EvA K t σ H [.int i, .int (-1), .int (-1)]) (e : i = (m : Int) - 1) (hn : m < 2 ^ 61) : ItD K (Tp K) (iRng3 t) σ H ((List.range m).map fun k => .int ((m - 1 - k : Nat) : Int)) := fun H1 x Q q => h H1 x _ fun vs H2 x2 r => by
  subst e
  cases r with
  | cons r1 r =>
    cases r with
    | cons r2 r =>
      cases r with
      | cons r3 r =>
        cases r1
        cases r2
        cases r3
        cases r
        have rg : RgC ((m : Int) - 1) (-1) (-1) m := by
          have := RgC.neg (i := (m : Int) - 1) (j := -1) (by omega) (by omega) (by omega) (by omega)
          rwa [show ((m : Int) - 1 - -1).toNat = m by omega] at this
        have el : ((List.range m).map fun k => D.int ((m - 1 - k : Nat) : Int)).length = m := by rw [List.length_map, List.length_range]
        have w := (walk_rangeC (lo := (m : Int) - 1) (c := -1) (n := m)).mono (G' := fun _ => True) (Y' := fun i H x H' => i < m ∧ H' = H ∧ x = .int ((m - 1 - i : Nat) : Int)) (fun _ _ => trivial) fun i H x H' hi _ y => by
          obtain ⟨e1, e2⟩ := y
          refine ⟨hi, e1, ?_⟩
          rw [e2]
          have e3 : (m : Int) - 1 + (i : Nat) * (-1) = ((m - 1 - i : Nat) : Int) := by omega
          exact congrArg V.int e3
        refine ⟨_, _, _, m, rfl, rg, q _ H2 x2 ⟨_, _, by rw [el]; exact w, fun _ _ => trivial, fun i H3 x H4 _ y => ?_⟩⟩
        obtain ⟨hi, rfl, rfl⟩ := y
        refine ⟨Same.refl _, .int ((m - 1 - i : Nat) : Int), ?_, .int _⟩
        rw [List.getElem?_map, List.getElem?_range hi]
        rfl
/-- a def that gives a new list -/
theorem gst_setRooms {ss : List SD} {k : Nat} {ga : TGA} {D0 : GEnds} {ds : List D} {s : Sys} {ws ws' : Wds} {ts : List Step} {r' : Room'} {m : Nat} (S : Sl K H σ ss) (h : EvGA K ga n σ H [sysD s, stpD m ts]) (hm : m ≤ n) (h1 : Sm s) (h2 : Ok s) (way : Way (names s, strip s) ws ts r' ws') (hl : ts.length ≤ 1000)
    (q : ∀ σ' j a us H2, n ≤ j → Same H H2 → H a = none → H2 a = some (.lst us) → RL K H2 us ((trail (names s, strip s) ts).map roomD) → Sl K H2 σ' (ss.set k (some (.raw (.ref a)))) → D0.nx j σ' H2) : gAsg (gCall (spRooms K) ga) (gName k) D0 n σ H :=
  h n H (Nat.le_refl _) (Same.refl _) _ fun j vs H2 hj x r => ⟨s, ws, ts, r', ws', m, r, Nat.le_trans hm hj, h1, h2, way, hl, fun i a us H3 hi y ha hu rl => q _ i a us H3 (Nat.le_trans hj hi) (x.trans y) (x.free ha) hu rl ((S.mono (Tp.of (x.trans y))).set (.raw _) k)⟩
/-- led_back -/
def pLedBack (n : Nat) (ds : List D) (d : Nat → D) : Prop := ∃ s ws ts r' ws' m, ds = [sysD s, stpD m ts, stD ws'] ∧ m ≤ n ∧ Sm s ∧ Ok s ∧ Way (names s, strip s) ws ts r' ws' ∧ ts.length ≤ 1000 ∧ d = fun _ => stD ws
theorem ok_led_back {f : Addr} {fd : FuncData} (F : Fun K "led_back" "led_back" s_led_back f fd) (T : Txt mg tS tU tE tL tN) (C_rooms_along : CalG P w K mg base 5 "rooms_along" ["system", "steps"] (spRooms K)) (C_is_ended : Cal P w K mg base 1 "is_ended" ["room"] (spD K pEnded)) (C_led : Cal P w K mg base 2 "led" ["room", "step", "words"] (spD K pLed)) :
    FnG P w K mg base 6 f fd ["system", "steps", "rest"] (spG K pLedBack) := by
  refine FunG.ok F sc_led_back (fun vs n H Q h => ?_) (fun cdv A outer s H vs Q n hr h => ?_)
  · obtain ⟨ds, d, r, ⟨_, _, _, _, _, _, rfl, _⟩, _⟩ := h
    exact r.len
  · obtain ⟨ds, d, rr, ⟨y, ws, ts, r', ws', m, rfl, hm, h1, h2, way, hts, rfl⟩, q⟩ := h
    have S0 : Sl K H (start ["system", "steps", "rest", "rooms", "words", "at"] vs) [some (sysD y), some (stpD m ts), some (.tup (ws'.map D.tx)), none, none, none] := Sl.start rr
    refine ⟨_, gss_cons (gs_set (i := 3) sc_led_back.nd rfl (.inl rfl) (ge_cal C_rooms_along (hr.mono (by decide)) (by rfl) (ga_of (pa_cons (pv 0) (pa_cons (pv 1) pa_nil)))))
      (gss_cons (gs_of (ps_if (PW.pt (pw_or (pt_not (pt_val (pe_cal C_is_ended (hr.mono (by decide)) (by rfl) (pa_cons (pe_ix (ix_listK (K := K)) (pv 3) (pe_un un_neg pe_int) (fun _ _ => rfl)) pa_nil)))) (pw_or1 (pt_cmpR op_ne (pe_callB (call_lenQK (K := K)) (by rfl) T.zlen PySem.boot_len (pa_cons (pv 2) pa_nil)) (pe_callB call_lenS (by rfl) T.zlen PySem.boot_len (pa_cons (pe_ix (ix_tupK (K := K)) (pe_ix (ix_listK (K := K)) (pv 3) (pe_un un_neg pe_int) (fun _ _ => rfl)) pe_int (fun _ _ => rfl)) pa_nil)) (nomark _)))))
    (pss_one ps_never)
    pss_nil)) (gss_cons (gs_of (ps_set (i := 4) sc_led_back.nd rfl (.inl rfl) (pv 2))) (gss_cons (gs_of (ps_for PassesOwn.never rfl (pi_range3 (by rfl) T.zrange (pa_cons (pe_op op_sub (pe_callB (call_lenQK (K := K)) (by rfl) T.zlen PySem.boot_len (pa_cons (pv 1) pa_nil)) pe_int) (pa_cons (pe_un un_neg pe_int) (pa_cons (pe_un un_neg pe_int) pa_nil)))) (pg_name (i := 5) sc_led_back.nd rfl (.inl rfl))
    (pss_one (ps_set (i := 4) sc_led_back.nd rfl (.inl rfl) (pe_cal C_led (hr.mono (by decide)) (by rfl) (pa_cons (pe_ix (ix_listK (K := K)) (pv 3) (pv 5) (fun _ _ => rfl)) (pa_cons (pe_ix (ix_tupK (K := K)) (pv 1) (pv 5) (fun _ _ => rfl)) (pa_cons (pv 4) pa_nil)))))))) (gss_one (gs_of (ps_ret (pv 4))))))), ?_⟩
    refine gst_setRooms (ds := []) S0 (ega_of (eva_cons (ev_var S0 rfl) (eva_cons (ev_var S0 rfl) eva_nil))) hm h1 h2 way hts fun σ1 j L us H1 hj x1 hL hu rl S1 => ?_
    dsimp only
    obtain ⟨hlast, hend, pg'⟩ := way_last way
    have hinit := trail_init way
    have rl2 : RL K H1 us (((trail (names y, strip y) ts).take ts.length).map roomD ++ [roomD r']) := by
      rw [hinit, List.map_append] at rl
      exact rl
    have hb1 : (!decide (r'.2 = []) || !decide ((((ws'.map D.tx).length : Nat) : Int) = ((r'.1.length : Nat) : Int))) = false := by
      rw [List.length_map, pg'.len, hend]
      simp
    refine st_no (EvT.to (et_or (et_not (et_B (ev_call (P := pEnded) (eva_cons (ev_ixLast (ev_var S1 rfl) (SqL.of hu) rl2 (EvD.to (ev_neg ev_int) rfl)) eva_nil) ⟨r', rfl, rfl⟩))) fun _ => et_test (ev_neI (ev_lenT (ev_var S1 rfl)) (ev_lenS (ev_ixT (n := 0) (d := .tx r'.1) (ev_ixLast (d := roomD r') (ev_var S1 rfl) (SqL.of hu) rl2 (EvD.to (ev_neg ev_int) rfl)) ev_int rfl rfl) (line_ge (by have := pg'.nm; omega))))) hb1) fun H2 x2 => ?_
    have S2 := S1.mono (Tp.of (K := K) x2)
    refine st_set S2 (ev_var S2 rfl) fun σ3 H3 x3 S3 => ?_
    dsimp only
    obtain ⟨wl, w0, wn, wk⟩ := way_words way
    have hu3 : H3 L = some (.lst us) := x3 _ _ (x2 _ _ hu)
    have rl3 := rl.mono (Tp.of (K := K) (x2.trans x3))
    have hlen : ((ts.map fun t => D.stp m t.ws).length : Int) - 1 = (ts.length : Int) - 1 := by rw [List.length_map]
    refine st_for (xs := List.range ts.length) (enc := fun k => .int ((ts.length - 1 - k : Nat) : Int)) (S := Tp K) (it_rngDown (eva_cons (ev_sub (ev_lenT (ev_var S3 rfl)) ev_int) (eva_cons (EvD.to (ev_neg ev_int) rfl) (eva_cons (EvD.to (ev_neg ev_int) rfl) eva_nil))) hlen (by omega)) fun H4 x4 =>
      ⟨fun k σ' H' => ∃ wc o, Same H4 H' ∧ wl[ts.length - k]? = some wc ∧ Sl K H' σ' [some (sysD y), some (stpD m ts), some (.tup (ws'.map D.tx)), some (.raw (.ref L)), some (.tup (wc.map D.tx)), o], ⟨ws', _, Same.refl _, wn, S3.mono (Tp.of x4)⟩, fun k σ' H' _ ⟨wc, o, h, _⟩ => Tp.of h, fun k u x σ' H' H5 hk ⟨wc, o, sm, hw, S'⟩ s5 rd => ?_, fun σ' H' ⟨wc, o, sm, hw, S'⟩ => ?_⟩
    · have hk2 : k < ts.length := by
        have := (List.getElem?_eq_some_iff.mp hk).1
        rwa [List.length_range] at this
      rw [List.getElem?_range hk2] at hk
      cases hk
      obtain ⟨t, ht⟩ : ∃ t, ts[ts.length - 1 - k]? = some t := ⟨_, List.getElem?_eq_getElem (by omega)⟩
      obtain ⟨rk, wp, w1, e1, e2, e3, pg, hof, hled, hlo, hwl⟩ := wk ht
      rw [show ts.length - 1 - k + 1 = ts.length - k by omega, hw] at e3
      cases e3
      refine gd_name 5 x σ' _ H5 _ rd (S'.mono (Tp.of s5)) fun σ6 S6 => ?_
      have y5 := (x4.trans sm).trans s5
      have ert : ((trail (names y, strip y) ts).map roomD)[ts.length - 1 - k]? = some (roomD rk) := by
        rw [List.getElem?_map, e1]
        rfl
      have est : (ts.map fun t => D.stp m t.ws)[ts.length - 1 - k]? = some (.stp m t.ws) := by
        rw [List.getElem?_map, ht]
        rfl
      refine st_set S6 (ev_call (P := pLed) (eva_cons (ev_ixL (ev_var S6 rfl) (SqL.of (y5 _ _ hu3)) (rl3.mono (Tp.of y5)) (ev_var S6 rfl) rfl ert) (eva_cons (ev_stp (ev_ixT (ev_var S6 rfl) (ev_var S6 rfl) rfl est)) (eva_cons (ev_var S6 rfl) eva_nil))) ⟨rk, t, wc, rfl, hof, hlo, pg.nm, hwl, rfl⟩) fun σ7 H7 x7 S7 => ?_
      rw [hled] at S7
      exact ⟨wp, _, (sm.trans s5).trans x7, by rw [show ts.length - (k + 1) = ts.length - 1 - k by omega]; exact e2, S7⟩
    · rw [List.length_range, Nat.sub_self, w0] at hw
      cases hw
      dsimp only
      refine st_ret (ev_var S' rfl) fun v H5 x5 r5 => ?_
      exact q j v H5 hj (((((x1.trans x2).trans x3).trans x4).trans sm).trans x5) r5
end
end GW

set_option Elab.async false
set_option linter.all false
set_option maxRecDepth 100000
set_option maxHeartbeats 4000000
/-! read_equation, show_words, read_words -/
namespace GW
open PySem PySem.Spec L2 TL PyProof.Rows
abbrev s_read_equation : Stmt := topS 51
theorem sc_read_equation : FnScope ["text", "left", "middle", "right"] ["text"] (defScope s_read_equation) := ⟨rfl, rfl, rfl, by decide +kernel, rfl, by decide +kernel, by decide +kernel⟩
abbrev s_show_words : Stmt := topS 53
theorem sc_show_words : FnScope ["names", "words", "name", "word"] ["names", "words"] (defScope s_show_words) := ⟨rfl, rfl, rfl, by decide +kernel, rfl, by decide +kernel, by decide +kernel⟩
abbrev s_read_words : Stmt := topS 54
theorem sc_read_words : FnScope ["names", "text", "parts", "words", "name", "part"] ["names", "text"] (defScope s_read_words) := ⟨rfl, rfl, rfl, by decide +kernel, rfl, by decide +kernel, by decide +kernel⟩
theorem tEq : tl (Str.ofString "=") = [61] := by
  rw [tl_ofString]
  decide
theorem tSp : tl (Str.ofString " ") = [32] := by
  rw [tl_ofString]
  decide
theorem tSe : tl (Str.ofString "; ") = [59, 32] := by
  rw [tl_ofString]
  decide
theorem sgs_ne {c d : Nat} (h : c ∈ sgs) (hd : d < 65) : c ≠ d := by
  have := mem_sgs.mp h
  omega
theorem uns_ne {c d : Nat} (h : c ∈ uns) (hd : d < 65) : c ≠ d := by
  have := mem_uns.mp h
  omega
theorem sd_ne {l : List Nat} (h : Sd l) {d : Nat} (hd : d < 65) : d ∉ l := fun m => by
  rcases h d m with q | q
  · exact sgs_ne q hd rfl
  · exact uns_ne q hd rfl
theorem sum_le {b : Nat} : ∀ {ls : List (List Nat)}, (∀ l ∈ ls, l.length ≤ b) → (ls.map List.length).sum ≤ ls.length * b
  | [], _ => Nat.zero_le _
  | l :: ls, h => by
    have ih := sum_le (b := b) (ls := ls) fun m hm => h m (List.mem_cons_of_mem _ hm)
    have h1 := h l List.mem_cons_self
    rw [List.map_cons, List.sum_cons, List.length_cons, Nat.add_mul]
    omega
def showE (e : Eqn) : List Nat := e.1 ++ [61] ++ e.2
def showW (nm : List Nat) (ws : Wds) : List Nat := joinL [32] ((nm.zip ws).map fun p => [p.1] ++ [61] ++ p.2)
section
variable {P : Program} {w : World} {K : PySem.W.Frag} {mg : Str → Option Value} {base : Heap} {tS tU tE tL tN : Tok} {σ : L2.St} {H H' : Hp} {ta tb : TE} {n : Nat}
def pReadEq (ds : List D) (d : D) : Prop := ∃ e : Eqn, ds = [.tx (showE e)] ∧ Sd e.1 ∧ Sd e.2 ∧ e.1.length ≤ 1000 ∧ e.2.length ≤ 1000 ∧ d = eD e
theorem ok_read_equation {f : Addr} {fd : FuncData} (F : Fun K "read_equation" "read_equation" s_read_equation f fd) (T : Txt mg tS tU tE tL tN) (C_is_side : Cal P w K mg base 1 "is_side" ["thing"] (spD K pIsSide)) : FnOk P w K mg base CX0 2 f fd ["text"] (spD K pReadEq) := by
  refine F.ok sc_read_equation (fun vs H Q E h => ?_) (fun cdv A outer s H vs Q E hr h => ?_)
  · obtain ⟨ds, d, r, ⟨_, rfl, _⟩, _⟩ := h
    exact r.len
  · obtain ⟨ds, d, r, ⟨e, rfl, h1, h2, h3, h4, rfl⟩, q⟩ := h
    have S0 : Sl K H (start ["text", "left", "middle", "right"] vs) [some (.tx (showE e)), none, none, none] := Sl.start r
    refine ⟨_, (pss_cons (ps_asg (pe_m1 PySem.F.slot_str_partition PySem.F.type_str_partition mt_partD (pv 0) pe_str) (pg_tup rfl (pgs_cons (pg_name (i := 1) sc_read_equation.nd rfl (.inl rfl)) (pgs_cons (pg_name (i := 2) sc_read_equation.nd rfl (.inl rfl)) (pgs_cons (pg_name (i := 3) sc_read_equation.nd rfl (.inl rfl)) (pgs_nil))))))
    (pss_cons (ps_if (PW.pt (pw_or (pt_cmpR op_eq (pv 2) pe_str (nomark _)) (pw_or (pt_not (pt_val (pe_cal C_is_side (hr.mono (by decide)) (by rfl) (pa_cons (pv 1) pa_nil)))) (pw_or1 (pt_not (pt_val (pe_cal C_is_side (hr.mono (by decide)) (by rfl) (pa_cons (pv 3) pa_nil))))))))
    (pss_one ps_never)
    pss_nil)
    (pss_one (ps_ret (pe_tup (pa_cons (pv 1) (pa_cons (pv 3) pa_nil))))))), ?_⟩
    have hp : Txt.partition (mkS (showE e)) (mkS [61]) = (mkS e.1, mkS [61], mkS e.2) := by
      have := partition_app (y := mkS [61]) (s := 61) (S := []) rfl (a := mkS e.1) (b := mkS e.2) (sd_ne h1 (by omega))
      rw [mkS_app, mkS_app] at this
      exact this
    have hl : (showE e).length ≤ sizeLine := by
      unfold showE
      simp only [List.length_append, List.length_singleton]
      exact line_ge (by omega)
    refine st_asg S0 (ev_part (u := e.1) (v := [61]) (w := e.2) (ev_var S0 rfl) (EvD.to (e := .tx [61]) ev_str (by rw [tEq])) (by simp) hl hp) gd_three fun σ1 H1 x1 S1 => ?_
    dsimp only
    have hb : (decide (([61] : List Nat) = tl (Str.ofString "")) || (!true || !true)) = false := rfl
    refine st_no (EvT.to (et_or (et_test (ev_eqS (ev_var S1 rfl) ev_str)) fun _ => et_or (et_not (et_B (ev_call (P := pIsSide) (eva_cons (ev_var S1 rfl) eva_nil) ⟨_, rfl, h1, rfl⟩))) fun _ => et_not (et_B (ev_call (P := pIsSide) (eva_cons (ev_var S1 rfl) eva_nil) ⟨_, rfl, h2, rfl⟩))) hb) fun H2 x2 => ?_
    have S2 := S1.mono (Tp.of (K := K) x2)
    refine st_ret (ev_tup (eva_cons (ev_var S2 rfl) (eva_cons (ev_var S2 rfl) eva_nil)) (by show 2 ≤ sizeLine; decide)) fun v H3 x3 r3 => ?_
    exact q v H3 ((x1.trans x2).trans x3) r3
theorem zip_maps {al be : Type} (f : al → D) (g : be → D) (xs : List al) (ys : List be) : ((xs.map f).zip (ys.map g)).map (fun p => D.tup [p.1, p.2]) = (xs.zip ys).map fun p => D.tup [f p.1, g p.2] := by
  rw [List.zip_map, List.map_map]
  rfl
theorem it_zipM {al be : Type} {S : Hp → Hp → Prop} {t : TA} (f : al → D) (g : be → D) (xs : List al) (ys : List be) (hl : xs.length = ys.length) (h : ∀ H1, Same H H1 → ∀ Q : List V → Hp → Prop, (∀ c d H2, Same H1 H2 → RSc K S H2 c (xs.map f) → RSc K S H2 d (ys.map g) → Q [c.v, d.v] H2) → t σ H1 Q) :
    ItD K S (iZipD K t) σ H ((xs.zip ys).map fun p => .tup [f p.1, g p.2]) := by
  rw [← zip_maps]
  exact it_zipD (by rw [List.length_map, List.length_map]; exact hl) h
def pShowW (ds : List D) (d : D) : Prop := ∃ nm ws, ds = [.tx nm, stD ws] ∧ ws.length = nm.length ∧ nm.length ≤ 100 ∧ (∀ w ∈ ws, w.length ≤ 1000) ∧ d = .tx (showW nm ws)
theorem ok_show_words {f : Addr} {fd : FuncData} {k : Nat} (F : Fun K "show_words" "show_words" s_show_words f fd) (T : Txt mg tS tU tE tL tN) : FnOk P w K mg base CX0 (k + 1) f fd ["names", "words"] (spD K pShowW) := by
  refine F.ok sc_show_words (fun vs H Q E h => ?_) (fun cdv A outer s H vs Q E hr h => ?_)
  · obtain ⟨ds, d, r, ⟨_, _, rfl, _⟩, _⟩ := h
    exact r.len
  · obtain ⟨ds, d, r, ⟨nm, ws, rfl, h1, h2, h3, rfl⟩, q⟩ := h
    have S0 : Sl K H (start ["names", "words", "name", "word"] vs) [some (.tx nm), some (.tup (ws.map D.tx)), none, none] := Sl.start r
    refine ⟨_, (pss_one (ps_ret (pe_m1 PySem.F.slot_str_join PySem.F.type_str_join (mt_joinK (K := K)) pe_str (pe_lc (own := [("name", 2), ("word", 3)]) (g := gTup K 2 (gCons (gName 2) (gCons (gName 3) (gNil)))) (by rfl) sc_show_words.nd (pi_zipD (by rfl) T.zzip (pa_cons (pv 0) (pa_cons (pv 1) pa_nil))) (blkOk_by (own := [("name", 2), ("word", 3)]) (N := ["names", "words", "name", "word"]) (sc := defScope s_show_words) (by decide +kernel)) (fun _ _ _ _ _ => pg_tup rfl (pgs_cons (pg_name (i := 2) sc_show_words.nd rfl (Or.inl rfl)) (pgs_cons (pg_name (i := 3) sc_show_words.nd rfl (Or.inl rfl)) (pgs_nil)))) (fun _ _ _ _ _ => pts_nil) (fun _ _ _ _ _ => (pe_op op_addS (pe_op op_addS (pv 2) pe_str) (pv 3))))))), ?_⟩
    refine st_ret (ev_join (ls := (nm.zip ws).map fun p => [p.1] ++ [61] ++ p.2) ev_str (EvL.to (el_map (xs := nm.zip ws) (enc := fun p => .tup [.tx [p.1], .tx p.2]) (f := fun p => .tx ([p.1] ++ [61] ++ p.2)) (fs := fun p ss => (ss.set 2 (some (.tx [p.1]))).set 3 (some (.tx p.2))) S0 (it_zipM (fun c => .tx [c]) D.tx nm ws h1.symm (src_tx_tup (ev_var S0 rfl) (ev_var S0 rfl))).same ?_ ?_ ?_) ?_) ?_) ?_
    · exact fun p _ => go_pair
    · rw [List.length_zip]
      omega
    · intro p hp σ' H' x S'
      have hw := h3 p.2 (List.of_mem_zip hp).2
      refine ev_addS (ev_addS (l := [p.1]) (m := [61]) (ev_var S' rfl) (EvD.to (e := .tx [61]) ev_str (by rw [tEq])) (line_ge (by show 1 + 1 ≤ _; omega))) (ev_var S' rfl) (line_ge ?_)
      simp only [List.length_append, List.length_singleton]
      omega
    · rw [List.map_map]
      rfl
    · have := sum_le (b := 1002) (ls := (nm.zip ws).map fun p => [p.1] ++ [61] ++ p.2) fun l hl => by
        obtain ⟨p, hp, rfl⟩ := List.mem_map.mp hl
        have hw := h3 p.2 (List.of_mem_zip hp).2
        simp only [List.length_append, List.length_singleton]
        omega
      rw [tSp]
      rw [List.length_map, List.length_zip] at this ⊢
      simp only [List.length_singleton]
      have : min nm.length ws.length * 1002 ≤ 100 * 1002 := Nat.mul_le_mul_right _ (by omega)
      omega
    · intro v H1 x1 r1
      refine q v H1 x1 ?_
      rw [tSp] at r1
      exact r1
theorem sqL_mut {a b : Addr} {xs : List V} {o : HO} (h : SqL K H a xs) (hne : a ≠ b) : SqL K (upd H b o) a xs := by
  rcases h with (h | ⟨ob, h⟩) | h
  · exact .inl (.inl (by rw [upd_ne hne]; exact h))
  · exact .inl (.inr ⟨ob, by rw [upd_ne hne]; exact h⟩)
  · exact .inr h
def pReadW (ds : List D) (d : D) : Prop := ∃ nm ws, ds = [.tx nm, .tx (showW nm ws)] ∧ ws.length = nm.length ∧ nm.length ≤ 100 ∧ (∀ w ∈ ws, Wd w ∧ w.length ≤ 1000) ∧ (∀ c ∈ nm, c ∈ uns) ∧ d = stD ws
theorem ok_read_words {f : Addr} {fd : FuncData} (F : Fun K "read_words" "read_words" s_read_words f fd) (T : Txt mg tS tU tE tL tN) (C_is_word : Cal P w K mg base 1 "is_word" ["thing"] (spD K pIsWord)) : FnOk P w K mg base CX0 2 f fd ["names", "text"] (spD K pReadW) := by
  refine F.ok sc_read_words (fun vs H Q E h => ?_) (fun cdv A outer s H vs Q E hr h => ?_)
  · obtain ⟨ds, d, r, ⟨_, _, rfl, _⟩, _⟩ := h
    exact r.len
  · obtain ⟨ds, d, r, ⟨nm, ws, rfl, h1, h2, h3, h4, rfl⟩, q⟩ := h
    have S0 : Sl K H (start ["names", "text", "parts", "words", "name", "part"] vs) [some (.tx nm), some (.tx (showW nm ws)), none, none, none, none] := Sl.start r
    refine ⟨_, (pss_cons (ps_if (pt_not (pt_val (pe_callB (call_isiK' (K := K)) (by rfl) T.zisinstance (by decide +kernel) (pa_cons (pv 1) (pa_cons (pe_bltn (v := .ty "str") (by rfl) T.zstr (by decide +kernel) rfl) pa_nil)))))
    (pss_one ps_never)
    pss_nil)
    (pss_cons (ps_if (PW.pt (pw_and (pt_cmpR op_eq (pv 0) pe_str (nomark _)) (pw_and1 (pt_cmpR op_eq (pv 1) pe_str (nomark _)))))
    (pss_one (ps_ret (pe_tup pa_nil)))
    pss_nil)
    (pss_cons (ps_set (i := 2) sc_read_words.nd rfl (.inl rfl) (pe_m1 PySem.F.slot_str_split PySem.F.type_str_split mt_splitD (pv 1) pe_str))
    (pss_cons (ps_if (pt_cmpR op_ne (pe_callB (call_lenQK (K := K)) (by rfl) T.zlen PySem.boot_len (pa_cons (pv 2) pa_nil)) (pe_callB call_lenS (by rfl) T.zlen PySem.boot_len (pa_cons (pv 0) pa_nil)) (nomark _))
    (pss_one ps_never)
    pss_nil)
    (pss_cons (ps_set (i := 3) sc_read_words.nd rfl (.inl rfl) (pe_lst pa_nil))
    (pss_cons (ps_for PassesOwn.never rfl (pi_zipD (by rfl) T.zzip (pa_cons (pv 0) (pa_cons (pv 2) pa_nil))) (pg_tup rfl (pgs_cons (pg_name (i := 4) sc_read_words.nd rfl (.inl rfl)) (pgs_cons (pg_name (i := 5) sc_read_words.nd rfl (.inl rfl)) (pgs_nil))))
    (pss_cons (ps_if (PW.pt (pw_or (pt_not (pt_val (pe_m1 PySem.F.slot_str_startswith PySem.F.type_str_startswith mt_startsD (pv 5) (pe_op op_addS (pv 4) pe_str)))) (pw_or1 (pt_not (pt_val (pe_cal C_is_word (hr.mono (by decide)) (by rfl) (pa_cons (pe_slice sl_str (pv 5) (po_some pe_int) po_none) pa_nil)))))))
    (pss_one ps_never)
    pss_nil)
    (pss_one (ps_expr (pe_bm PySem.F.plainAttrs_list PySem.F.slot_list_append PySem.F.type_list_append mt_append (pv 3) (pa_cons (pe_slice sl_str (pv 5) (po_some pe_int) po_none) pa_nil))))))
    (pss_one (ps_ret (pe_callTy (call_tupOfK (K := K)) (by rfl) T.ztuple (by decide +kernel) (pa_cons (pv 3) pa_nil)))))))))), ?_⟩
    refine st_no (et_not (et_B (ev_isiS (ev_var S0 rfl)))) fun H1 x1 => ?_
    have S1 := S0.mono (Tp.of (K := K) x1)
    refine st_if (et_and (et_test (ev_eqS (ev_var S1 rfl) ev_str)) fun _ => et_test (ev_eqS (ev_var S1 rfl) ev_str)) (fun hb H2 x2 => ?_) (fun hb H2 x2 => ?_)
    · have hn : nm = [] := by
        have := (Bool.and_eq_true_iff.mp hb).1
        exact of_decide_eq_true this
      subst hn
      have hw : ws = [] := List.length_eq_zero_iff.mp h1
      subst hw
      refine st_ret (K := K) (ev_tup eva_nil (Nat.zero_le _)) fun v H3 x3 r3 => q v H3 ((x1.trans x2).trans x3) r3
    · -- some name
      have hn : nm ≠ [] := fun e => by
        subst e
        have e2 : showW [] ws = [] := rfl
        rw [e2] at hb
        simp at hb
        exact hb rfl
      have S2 := S1.mono (Tp.of (K := K) x2)
      generalize hps : ((nm.zip ws).map fun p => [p.1] ++ [61] ++ p.2) = ps
      have plen : ps.length = nm.length := by
        rw [← hps, List.length_map, List.length_zip]
        omega
      have hsum := sum_le (b := 1002) (ls := ps) fun l hl => by
        rw [← hps] at hl
        obtain ⟨p, hp, rfl⟩ := List.mem_map.mp hl
        have hw := (h3 p.2 (List.of_mem_zip hp).2).2
        simp only [List.length_append, List.length_singleton]
        omega
      have hsh : showW nm ws = joinL [32] ps := by rw [← hps]; rfl
      have jl : ∀ qs : List (List Nat), (joinL [32] qs).length ≤ (qs.map List.length).sum + qs.length := by
        intro qs
        induction qs with
        | nil => exact Nat.le_refl _
        | cons a qs ih =>
          cases qs with
          | nil =>
            show a.length ≤ _
            simp
          | cons b qs =>
            show (a ++ ([32] ++ joinL [32] (b :: qs))).length ≤ _
            simp only [List.length_append, List.length_cons, List.length_nil, List.map_cons, List.sum_cons] at ih ⊢
            omega
      have hsplit : Txt.split (mkS (showW nm ws)) (mkS [32]) = ps.map mkS := by
        have := split_join (y := mkS [32]) (s := 32) (S := []) rfl (by simp [mkS]) (parts := ps.map mkS) (fun e => by
          have := congrArg List.length e
          rw [List.length_map, plen] at this
          exact hn (List.length_eq_zero_iff.mp this)) (fun p hp => by
            obtain ⟨l, hl, rfl⟩ := List.mem_map.mp hp
            rw [← hps] at hl
            obtain ⟨u, hu, rfl⟩ := List.mem_map.mp hl
            have hz := List.of_mem_zip (a := u.1) (b := u.2) hu
            intro hm
            have hm : 32 ∈ [u.1] ++ [61] ++ u.2 := hm
            simp only [List.mem_append, List.mem_singleton] at hm
            rcases hm with (hm | hm) | hm
            · exact uns_ne (h4 _ hz.1) (by omega) hm.symm
            · omega
            · exact sgs_ne ((h3 _ hz.2).1 32 hm) (by omega) rfl)
        rw [join_of] at this
        rw [hsh]
        exact this
      have hmul : ps.length * 1002 ≤ 100 * 1002 := Nat.mul_le_mul_right _ (by omega)
      have hlen : (showW nm ws).length + 2 ≤ sizeLine := Nat.le_trans (m := 200000) (by
        rw [hsh]
        have := jl ps
        omega) (by decide)
      refine st_setL S2 (el_split (m := [32]) (ls := ps) (ev_var S2 rfl) (EvD.to (e := .tx [32]) ev_str (by rw [tSp])) (by simp) hlen hsplit) fun σ3 A3 vs3 H3 x3 hA3 hv3 r3 S3 => ?_
      dsimp only
      have hb4 : (!decide ((((ps.map D.tx).length : Nat) : Int) = ((nm.length : Nat) : Int))) = false := by
        rw [List.length_map, plen]
        simp
      have lenL : EvD K (tCB (cLenQ K) (tCons (tVar 2) tNil)) σ3 H3 (.int (ps.map D.tx).length) := fun H9 x9 Q9 q9 => ev_var S3 rfl H9 x9 _ fun v H10 x10 rv => by
        cases rv
        refine ⟨A3, vs3, rfl, .inl (SqL.of (x10 _ _ (x9 _ _ hv3))), ?_⟩
        rw [r3.len]
        exact q9 _ H10 x10 (.int _)
      refine st_no (EvT.to (et_test (ev_neI lenL (ev_lenS (ev_var S3 rfl) (line_ge (by omega))))) hb4) fun H4 x4 => ?_
      have S4 := S3.mono (Tp.of (K := K) x4)
      refine st_setL (ds := []) S4 (el_lst eva_nil (Nat.zero_le _)) fun σ5 B vs5 H5 x5 hB hv5 r5 S5 => ?_
      dsimp only
      cases r5
      have hA5 : H5 A3 = some (.lst vs3) := x5 _ _ (x4 _ _ hv3)
      have hne : A3 ≠ B := fun e => by
        subst e
        have := x4 _ _ hv3
        rw [hB] at this
        cases this
      have hr5 := r3.mono (Tp.of (K := K) (x4.trans x5))
      have hps2 : ps.map D.tx = ps.map D.tx := rfl
      let S : Hp → Hp → Prop := fun H1 H2 => Tp K H1 H2 ∧ (SqL K H1 A3 vs3 → SqL K H2 A3 vs3)
      have hitems : ((nm.map fun c => D.tx [c]).zip (ps.map D.tx)).map (fun p => D.tup [p.1, p.2]) = (nm.zip ws).map fun p => D.tup [.tx [p.1], .tx ([p.1] ++ [61] ++ p.2)] := by
        rw [zip_maps, ← hps]
        have : nm.zip ((nm.zip ws).map fun p => [p.1] ++ [61] ++ p.2) = (nm.zip ws).map fun p => (p.1, [p.1] ++ [61] ++ p.2) := by
          refine List.ext_getElem? fun i => ?_
          rw [List.getElem?_map]
          by_cases hi : i < nm.length
          · have e1 : (nm.zip ws)[i]? = some (nm[i], ws[i]'(by omega)) := List.getElem?_zip_eq_some.mpr ⟨List.getElem?_eq_getElem hi, List.getElem?_eq_getElem (by omega)⟩
            rw [e1]
            exact List.getElem?_zip_eq_some.mpr ⟨List.getElem?_eq_getElem hi, by rw [List.getElem?_map, e1]; rfl⟩
          · rw [List.getElem?_eq_none (by rw [List.length_zip]; omega), List.getElem?_eq_none (by rw [List.length_zip]; omega)]
            rfl
        rw [this, List.map_map]
        rfl
      have hit : ItD K S (iZipD K (tCons (tVar 0) (tCons (tVar 2) tNil))) σ5 H5 ((nm.zip ws).map fun p => D.tup [.tx [p.1], .tx ([p.1] ++ [61] ++ p.2)]) := by
        rw [← hitems]
        exact it_zipD (by rw [List.length_map, List.length_map, plen]) (src_tx_lst (ev_var S5 rfl) (ev_var S5 rfl) (SqL.of hA5) hr5 fun _ _ h => h)
      refine st_for (S := S) hit fun H6 x6 => ⟨fun k σ' H' => S H6 H' ∧ Same H H' ∧ ∃ vs7 o1 o2, H' B = some (.lst vs7) ∧ RL K H' vs7 ((ws.take k).map D.tx) ∧ Sl K H' σ' [some (.tx nm), some (.tx (showW nm ws)), some (.raw (.ref A3)), some (.raw (.ref B)), o1, o2],
        ⟨⟨Tp.refl, id⟩, ((((x1.trans x2).trans x3).trans x4).trans x5).trans x6, [], none, none, x6 _ _ hv5, .nil, S5.mono (Tp.of x6)⟩, fun k σ' H' _ h => h.1, fun k u x σ' H' H7 hk ⟨s7, sm, vs7, o1, o2, hl7, rl7, S'⟩ x7 rd => ?_, fun σ' H' ⟨s7, sm, vs7, o1, o2, hl7, rl7, S'⟩ => ?_⟩
      · obtain ⟨c, wd⟩ := u
        obtain ⟨hc, hw⟩ := List.getElem?_zip_eq_some.mp hk
        have hw : ws[k]? = some wd := hw
        obtain ⟨hwd, hwl⟩ := h3 wd (List.mem_of_getElem? hw)
        refine gd_pair (d1 := .tx [c]) (d2 := .tx ([c] ++ [61] ++ wd)) x σ' _ H7 _ rd (S'.mono (Tp.of x7)) fun σ8 S8 => ?_
        have hll : ([c] ++ [61] ++ wd).length ≤ 2000 := by
          simp only [List.length_append, List.length_singleton]
          omega
        have hst : decide (([c] ++ [61] ++ wd).take ([c] ++ [61]).length = [c] ++ [61]) = true := decide_eq_true List.take_left
        have hcut : EvD K (tSl rSlS (tVar 5) (tPart (tC (.int 2))) tNoPart) σ8 H7 (.tx wd) := ev_slS (l := [c] ++ [61] ++ wd) (ev_var S8 rfl) (evo_some (K := K) (i := 2) ev_int) evo_none (line_ge (by omega)) (cutS_from ([c] ++ [61] ++ wd) 2)
        have hb9 : (!decide (([c] ++ [61] ++ wd).take ([c] ++ [61]).length = [c] ++ [61]) || !true) = false := by
          rw [hst]
          rfl
        refine st_no (EvT.to (et_or (et_not (et_B (ev_starts (l := [c] ++ [61] ++ wd) (m := [c] ++ [61]) (ev_var S8 rfl) (ev_addS (l := [c]) (m := [61]) (ev_var S8 rfl) (EvD.to (e := .tx [61]) ev_str (by rw [tEq])) (line_ge (by show 1 + 1 ≤ _; omega)))))) fun _ => et_not (et_B (ev_call (P := pIsWord) (eva_cons hcut eva_nil) ⟨wd, rfl, hwd, rfl⟩))) hb9) fun H9 x9 => ?_
        have S9 := S8.mono (Tp.of (K := K) x9)
        have e9 : H9 B = some (.lst vs7) := x9 _ _ (x7 _ _ hl7)
        have hlen9 : vs7.length < sizeLine := by
          rw [rl7.len, List.length_map, List.length_take]
          exact line_gt (by omega)
        refine st_app (ev_var S9 rfl) e9 hlen9 (hcut.up x9) fun v H10 x10 r10 => ?_
        have e10 : H10 B = some (.lst vs7) := x10 _ _ e9
        have tp := tp_mut (K := K) (w := .lst (vs7 ++ [v])) e10 trivial
        have y := (x7.trans x9).trans x10
        refine ⟨⟨(s7.1.trans (Tp.of y)).trans tp, fun h => sqL_mut (y.seq (s7.2 h)) hne⟩, Same.mut (sm.trans y) ((((x1.trans x2).trans x3).trans x4).free hB), vs7 ++ [v], _, _, upd_same, ?_, (S9.mono (Tp.of (K := K) x10)).mono tp⟩
        have et : (ws.take (k + 1)).map D.tx = (ws.take k).map D.tx ++ [.tx wd] := by
          rw [List.take_add_one, hw, List.map_append]
          rfl
        rw [et]
        exact ((rl7.mono (Tp.of (K := K) y)).app (.one r10)).mono tp
      · dsimp only
        rw [List.length_zip, show min nm.length ws.length = ws.length by omega, List.take_length] at rl7
        refine st_ret (ev_tupOfL (ev_var S' rfl) (SqL.of hl7) rl7) fun v H8 x8 r8 => ?_
        exact q v H8 (sm.trans x8) r8
end
end GW

set_option Elab.async false
set_option linter.all false
set_option maxRecDepth 100000
set_option maxHeartbeats 4000000
/-! can_be, sums, lacking -/
namespace GW
open PySem PySem.Spec L2 TL PyProof.Rows
abbrev s_sums : Stmt := topS 47
theorem sc_sums : FnScope ["system", "found", "left", "right", "coefficients", "name", "sign"] ["system"] (defScope s_sums) := ⟨rfl, rfl, rfl, by decide +kernel, rfl, by decide +kernel, by decide +kernel⟩
abbrev s_can_be : Stmt := topS 48
theorem sc_can_be : FnScope ["coefficients", "amount", "turn", "one"] ["coefficients", "amount"] (defScope s_can_be) := ⟨rfl, rfl, rfl, by decide +kernel, rfl, by decide +kernel, by decide +kernel⟩
abbrev s_lacking : Stmt := topS 49
theorem sc_lacking : FnScope ["system", "number", "row", "sign", "coefficients", "amount"] ["system"] (defScope s_lacking) := ⟨rfl, rfl, rfl, by decide +kernel, rfl, by decide +kernel, by decide +kernel⟩
def trn (a : Int) : Int := if a < 0 then -1 else 1
def CB (cs : List Int) (a : Int) : Prop := a = 0 ∨ ((cs.any fun c => decide (0 < trn a * c)) = true ∧ (decide (a % 2 = 0) || cs.any fun c => decide (c % 2 = 1)) = true)
def coefs (s : Sys) (e : Eqn) : List Int := (names s).map fun x => (e.1.count x : Int) - (e.2.count x : Int)
def amt (e : Eqn) (g : Nat) : Int := (e.2.count g : Int) - (e.1.count g : Int)
def cellD (s : Sys) (e : Eqn) (g : Nat) : D := .tup [.tx [g], .tup ((coefs s e).map D.int), .int (amt e g)]
def rowD (s : Sys) (e : Eqn) : D := .tup ((signs s).map (cellD s e))
section
variable {P : Program} {w : World} {K : PySem.W.Frag} {mg : Str → Option Value} {base : Heap} {tS tU tE tL tN : Tok} {σ : L2.St} {H H' : Hp} {ta tb : TE} {n : Nat}
def pCanBe (ds : List D) (d : D) : Prop := ∃ cs a, ds = [.tup (cs.map D.int), .int a] ∧ cs.length ≤ 100 ∧ CB cs a ∧ d = .bl true
theorem st_ifM {D0 : Ends} {t1 t2 : TS} {t : TT} {b : Bool} {Rr : L2.St → Hp → Prop} (h : EvT t σ H b) (q1 : b = true → ∀ H2, Same H H2 → (∀ σ' H', Rr σ' H' → D0.nx σ' H') → t1 D0 σ H2) (q2 : b = false → ∀ H2, Same H H2 → (∀ σ' H', Rr σ' H' → D0.nx σ' H') → t2 D0 σ H2) (q : ∀ σ' H', Rr σ' H' → D0.nx σ' H') : tIfS t t1 t2 D0 σ H :=
  st_if h (fun hb H2 x => q1 hb H2 x q) fun hb H2 x => q2 hb H2 x q
theorem mul_trn (a c : Int) : CMul (trn a) c := by
  unfold trn
  by_cases h : a < 0
  · rw [if_pos h]
    exact .inl (by decide)
  · rw [if_neg h]
    exact .inl (by decide)
theorem ok_can_be {f : Addr} {fd : FuncData} {k : Nat} (F : Fun K "can_be" "can_be" s_can_be f fd) (T : Txt mg tS tU tE tL tN) : FnOk P w K mg base CX0 (k + 1) f fd ["coefficients", "amount"] (spD K pCanBe) := by
  refine F.ok sc_can_be (fun vs H Q E h => ?_) (fun cdv A outer s H vs Q E hr h => ?_)
  · obtain ⟨ds, d, r, ⟨_, _, rfl, _⟩, _⟩ := h
    exact r.len
  · obtain ⟨ds, d, r, ⟨cs, a, rfl, h1, h2, rfl⟩, q⟩ := h
    have S0 : Sl K H (start ["coefficients", "amount", "turn", "one"] vs) [some (.tup (cs.map D.int)), some (.int a), none, none] := Sl.start r
    refine ⟨_, (pss_cons (ps_if (pt_cmpR op_eq (pv 1) pe_int (nomark _))
    (pss_one (ps_ret pe_bl))
    pss_nil)
    (pss_cons (ps_set (i := 2) sc_can_be.nd rfl (.inr rfl) pe_int)
    (pss_cons (ps_if (pt_cmpR op_lt (pv 1) pe_int (nomark _))
    (pss_one (ps_set (i := 2) sc_can_be.nd rfl (.inr rfl) (pe_un un_neg pe_int)))
    pss_nil)
    (pss_cons (ps_if (pt_not (pt_val (pe_callB (cr_anyK (K := K) rfl) (by rfl) T.zany (by decide +kernel) (pa_cons (pe_lc (own := [("one", 3)]) (g := gName 3) (by rfl) sc_can_be.nd (pi_tup (pv 0)) (blkOk_by (own := [("one", 3)]) (N := ["coefficients", "amount", "turn", "one"]) (sc := defScope s_can_be) (by decide +kernel)) (fun _ _ _ _ _ => pg_name (i := 3) sc_can_be.nd rfl (Or.inl rfl)) (fun _ _ _ _ _ => pts_nil) (fun _ _ _ _ _ => (pe_cmpR op_gt (pe_op op_mul (pv 2) (pv 3)) pe_int (nomark _)))) pa_nil))))
    (pss_one (ps_ret pe_bl))
    pss_nil)
    (pss_one (ps_ret (pe_or (pe_cmpR op_eq (pe_op op_mod (pv 1) pe_int) pe_int (nomark _)) (pe_one (pe_callB (cr_anyK (K := K) rfl) (by rfl) T.zany (by decide +kernel) (pa_cons (pe_lc (own := [("one", 3)]) (g := gName 3) (by rfl) sc_can_be.nd (pi_tup (pv 0)) (blkOk_by (own := [("one", 3)]) (N := ["coefficients", "amount", "turn", "one"]) (sc := defScope s_can_be) (by decide +kernel)) (fun _ _ _ _ _ => pg_name (i := 3) sc_can_be.nd rfl (Or.inl rfl)) (fun _ _ _ _ _ => pts_nil) (fun _ _ _ _ _ => (pe_cmpR op_eq (pe_op op_mod (pv 3) pe_int) pe_int (nomark _)))) pa_nil)))))))))), ?_⟩
    refine st_if (et_test (ev_eqI (ev_var S0 rfl) ev_int)) (fun hb H1 x1 => ?_) (fun hb H1 x1 => ?_)
    · exact st_ret (K := K) ev_bl fun v H2 x2 r2 => q v H2 (x1.trans x2) r2
    · have ha : a ≠ 0 := of_decide_eq_false hb
      obtain ⟨c1, c2⟩ := h2.resolve_left ha
      have S1 := S0.mono (Tp.of (K := K) x1)
      dsimp only [tNext]
      refine st_set (K := K) S1 ev_int fun σ2 H2 x2 S2 => ?_
      dsimp only
      have any_ev : ∀ (σ' : L2.St) (H' : Hp) (tt : TE) (o : SD) (f : Int → Bool), Sl K H' σ' [some (.tup (cs.map D.int)), some (.int a), o, none] → (∀ c ∈ cs, ∀ σ2 H2, Same H' H2 → Sl K H2 σ2 [some (.tup (cs.map D.int)), some (.int a), o, some (.int c)] → EvD K tt σ2 H2 (.bl (f c))) →
          EvD K (tCB (rAny K) (tCons (tLc (iTup K (tVar 0)) (gName 3) tYes tt [3]) tNil)) σ' H' (.bl (cs.any f)) := fun σ' H' tt o f S' ht => by
        refine EvD.to (ev_anyB (bs := cs.map f) (EvL.to (el_map (xs := cs) (enc := D.int) (f := fun c => .bl (f c)) (fs := fun c ss => ss.set 3 (some (.int c))) S' (it_tup (ev_var S' rfl)).same (fun c _ => go_name 3) (by omega) fun c hc σ2 H2 x S2 => ht c hc σ2 H2 x S2) ?_)) ?_
        · rw [List.map_map]
          rfl
        · rw [List.any_map]
          rfl
      refine st_ifM (Rr := fun σ' H' => Same H H' ∧ Sl K H' σ' [some (.tup (cs.map D.int)), some (.int a), some (.int (trn a)), none]) (et_test (ev_lt (ev_var S2 rfl) ev_int)) (fun hb H3 x3 q3 => ?_) (fun hb H3 x3 q3 => ?_) (fun σ3 H3 ⟨x3, S3⟩ => ?_)
      · have hneg : a < 0 := of_decide_eq_true hb
        refine st_set (S2.mono (Tp.of (K := K) x3)) (EvD.to (ev_neg ev_int) rfl) fun σ4 H4 x4 S4 => q3 _ _ ⟨((x1.trans x2).trans x3).trans x4, ?_⟩
        have e : trn a = -1 := if_pos hneg
        rw [e]
        exact S4
      · have hneg : ¬ a < 0 := of_decide_eq_false hb
        have e : trn a = 1 := if_neg hneg
        refine q3 _ _ ⟨(x1.trans x2).trans x3, ?_⟩
        rw [e]
        exact S2.mono (Tp.of x3)
      · dsimp only
        have hb3 : (!cs.any fun c => decide (0 < trn a * c)) = false := by
          rw [c1]
          rfl
        refine st_no (EvT.to (et_not (et_B (any_ev σ3 H3 _ _ (fun c => decide (0 < trn a * c)) S3 fun c hc σ4 H4 x4 S4 => ev_gt (ev_mul (ev_var S4 rfl) (ev_var S4 rfl) (mul_trn a c)) ev_int))) hb3) fun H4 x4 => ?_
        have S4 := S3.mono (Tp.of (K := K) x4)
        refine st_ret (EvD.to (ev_orV (ev_eqI (ev_mod (ev_var S4 rfl) ev_int (by decide)) ev_int) fun _ => any_ev σ3 H4 _ _ (fun c => decide (c % 2 = 1)) S4 fun c hc σ5 H5 x5 S5 => ev_eqI (ev_mod (ev_var S5 rfl) ev_int (by decide)) ev_int) (by rw [c2])) fun v H5 x5 r5 => ?_
        exact q v H5 ((x3.trans x4).trans x5) r5
def pSums (ds : List D) (d : D) : Prop := ∃ s, ds = [sysD s] ∧ Sm s ∧ d = .tup (s.map (rowD s))
theorem ok_sums {f : Addr} {fd : FuncData} (F : Fun K "sums" "sums" s_sums f fd) (T : Txt mg tS tU tE tL tN) (C_names_of : Cal P w K mg base 2 "names_of" ["system"] (spD K pNames)) (C_signs_of : Cal P w K mg base 2 "signs_of" ["system"] (spD K pSigns)) : FnOk P w K mg base CX0 3 f fd ["system"] (spD K pSums) := by
  refine F.ok sc_sums (fun vs H Q E h => ?_) (fun cdv A outer s H vs Q E hr h => ?_)
  · obtain ⟨ds, d, r, ⟨_, rfl, _⟩, _⟩ := h
    exact r.len
  · obtain ⟨ds, d, r, ⟨y, rfl, h1, rfl⟩, q⟩ := h
    have S0 : Sl K H (start ["system", "found", "left", "right", "coefficients", "name", "sign"] vs) [some (.tup (y.map eD)), none, none, none, none, none, none] := Sl.start r
    refine ⟨_, (pss_cons (ps_set (i := 1) sc_sums.nd rfl (.inl rfl) (pe_lst pa_nil))
    (pss_cons (ps_for PassesOwn.never rfl (pi_tup (pv 0)) (pg_tup rfl (pgs_cons (pg_name (i := 2) sc_sums.nd rfl (.inr rfl)) (pgs_cons (pg_name (i := 3) sc_sums.nd rfl (.inr rfl)) (pgs_nil))))
    (pss_cons (ps_set (i := 4) sc_sums.nd rfl (.inr rfl) (pe_callTy (call_tupOfK (K := K)) (by rfl) T.ztuple (by decide +kernel) (pa_cons (pe_lc (own := [("name", 5)]) (g := gName 5) (by rfl) sc_sums.nd (pi_str (pe_cal C_names_of (hr.mono (by decide)) (by rfl) (pa_cons (pv 0) pa_nil))) (blkOk_by (own := [("name", 5)]) (N := ["system", "found", "left", "right", "coefficients", "name", "sign"]) (sc := defScope s_sums) (by decide +kernel)) (fun _ _ _ _ _ => pg_name (i := 5) sc_sums.nd rfl (Or.inl rfl)) (fun _ _ _ _ _ => pts_nil) (fun _ _ _ _ _ => (pe_op op_sub (pe_m1 PySem.F.slot_str_count PySem.F.type_str_count mt_countD (pv 2) (pv 5)) (pe_m1 PySem.F.slot_str_count PySem.F.type_str_count mt_countD (pv 3) (pv 5))))) pa_nil)))
    (pss_one (ps_expr (pe_bm PySem.F.plainAttrs_list PySem.F.slot_list_append PySem.F.type_list_append mt_append (pv 1) (pa_cons (pe_callTy (call_tupOfK (K := K)) (by rfl) T.ztuple (by decide +kernel) (pa_cons (pe_lc (own := [("sign", 6)]) (g := gName 6) (by rfl) sc_sums.nd (pi_str (pe_cal C_signs_of (hr.mono (by decide)) (by rfl) (pa_cons (pv 0) pa_nil))) (blkOk_by (own := [("sign", 6)]) (N := ["system", "found", "left", "right", "coefficients", "name", "sign"]) (sc := defScope s_sums) (by decide +kernel)) (fun _ _ _ _ _ => pg_name (i := 6) sc_sums.nd rfl (Or.inl rfl)) (fun _ _ _ _ _ => pts_nil) (fun _ _ _ _ _ => (pe_tup (pa_cons (pv 6) (pa_cons (pv 4) (pa_cons (pe_op op_sub (pe_m1 PySem.F.slot_str_count PySem.F.type_str_count mt_countD (pv 3) (pv 6)) (pe_m1 PySem.F.slot_str_count PySem.F.type_str_count mt_countD (pv 2) (pv 6))) pa_nil)))))) pa_nil)) pa_nil))))))
    (pss_one (ps_ret (pe_callTy (call_tupOfK (K := K)) (by rfl) T.ztuple (by decide +kernel) (pa_cons (pv 1) pa_nil)))))), ?_⟩
    refine st_setL (ds := []) S0 (el_lst eva_nil (Nat.zero_le _)) fun σ1 L vs1 H1 x1 hL hv1 r1 S1 => ?_
    dsimp only
    cases r1
    refine st_for (xs := y) (enc := eD) (S := Tp K) (it_tup (ev_var S1 rfl)) fun H2 x2 =>
      ⟨fun k σ' H' => Tp K H2 H' ∧ Same H H' ∧ ∃ vs2 o1 o2 o3, H' L = some (.lst vs2) ∧ RL K H' vs2 ((y.take k).map (rowD y)) ∧ Sl K H' σ' [some (.tup (y.map eD)), some (.raw (.ref L)), o1, o2, o3, none, none],
        ⟨Tp.refl, x1.trans x2, [], none, none, none, x2 _ _ hv1, .nil, S1.mono (Tp.of x2)⟩, fun k σ' H' _ h => h.1, fun k e x σ' H' H3 hk ⟨tp, sm, vs2, o1, o2, o3, hl, rl, S'⟩ x3 rd => ?_, fun σ' H' ⟨tp, sm, vs2, o1, o2, o3, hl, rl, S'⟩ => ?_⟩
    · have hle := h1.1
      have he := len_mem (List.mem_of_getElem? hk)
      refine gd_pair (d1 := .tx e.1) (d2 := .tx e.2) x σ' _ H3 _ rd (S'.mono (Tp.of x3)) fun σ4 S4 => ?_
      have S4 : Sl K H3 σ4 [some (.tup (y.map eD)), some (.raw (.ref L)), some (.tx e.1), some (.tx e.2), o3, none, none] := S4
      refine st_set S4 (EvD.to (e := .tup ((coefs y e).map D.int)) (ev_tupOf (el_map (xs := names y) (enc := fun c => .tx [c]) (f := fun c => .int ((e.1.count c : Int) - (e.2.count c : Int))) (fs := fun c ss => ss.set 5 (some (.tx [c]))) S4 (it_str (ev_call (P := pNames) (eva_cons (ev_var S4 rfl) eva_nil) ⟨y, rfl, h1, rfl⟩)).same (fun c _ => go_name 5) (by have := names_le y; omega) fun c hc σ5 H5 x5 S5 => ev_sub (ev_count (ev_var S5 rfl) (ev_var S5 rfl)) (ev_count (ev_var S5 rfl) (ev_var S5 rfl)))) ?_) fun σ5 H5 x5 S5 => ?_
      · unfold coefs
        rw [List.map_map]
        rfl
      · have e5 : H5 L = some (.lst vs2) := x5 _ _ (x3 _ _ hl)
        have hlen : vs2.length < sizeLine := by
          rw [rl.len, List.length_map, List.length_take]
          have := h1.2
          exact line_gt (by omega)
        refine st_app (ev_var S5 rfl) e5 hlen (EvD.to (e := rowD y e) (ev_tupOf (el_map (xs := signs y) (enc := fun c => .tx [c]) (f := cellD y e) (fs := fun c ss => ss.set 6 (some (.tx [c]))) S5 (it_str (ev_call (P := pSigns) (eva_cons (ev_var S5 rfl) eva_nil) ⟨y, rfl, h1, rfl⟩)).same (fun c _ => go_name 6) (by have := signs_le y; omega) fun c hc σ6 H6 x6 S6 => ev_tup (eva_cons (ev_var S6 rfl) (eva_cons (ev_var S6 rfl) (eva_cons (ev_sub (ev_count (ev_var S6 rfl) (ev_var S6 rfl)) (ev_count (ev_var S6 rfl) (ev_var S6 rfl))) eva_nil))) (by show 3 ≤ sizeLine; decide))) rfl) fun v H6 x6 r6 => ?_
        have e6 : H6 L = some (.lst vs2) := x6 _ _ e5
        have tq := tp_mut (K := K) (w := .lst (vs2 ++ [v])) e6 trivial
        have z := (x3.trans x5).trans x6
        refine ⟨(tp.trans (Tp.of z)).trans tq, Same.mut (sm.trans z) hL, vs2 ++ [v], _, _, _, upd_same, ?_, (S5.mono (Tp.of (K := K) x6)).mono tq⟩
        have et : (y.take (k + 1)).map (rowD y) = (y.take k).map (rowD y) ++ [rowD y e] := by
          rw [List.take_add_one, hk, List.map_append]
          rfl
        rw [et]
        exact ((rl.mono (Tp.of (K := K) z)).app (.one r6)).mono tq
    · dsimp only
      rw [List.take_length] at rl
      refine st_ret (ev_tupOfL (ev_var S' rfl) (SqL.of hl) rl) fun v H3 x3 r3 => ?_
      exact q v H3 (sm.trans x3) r3
def pLack (ds : List D) (d : D) : Prop := ∃ s, ds = [sysD s] ∧ Sm s ∧ (∀ e ∈ s, ∀ g ∈ signs s, CB (coefs s e) (amt e g)) ∧ d = .non
theorem ok_lacking {f : Addr} {fd : FuncData} (F : Fun K "lacking" "lacking" s_lacking f fd) (T : Txt mg tS tU tE tL tN) (C_sums : Cal P w K mg base 3 "sums" ["system"] (spD K pSums)) (C_can_be : Cal P w K mg base 1 "can_be" ["coefficients", "amount"] (spD K pCanBe)) : FnOk P w K mg base CX0 4 f fd ["system"] (spD K pLack) := by
  refine F.ok sc_lacking (fun vs H Q E h => ?_) (fun cdv A outer s H vs Q E hr h => ?_)
  · obtain ⟨ds, d, r, ⟨_, rfl, _⟩, _⟩ := h
    exact r.len
  · obtain ⟨ds, d, r, ⟨y, rfl, h1, h2, rfl⟩, q⟩ := h
    have S0 : Sl K H (start ["system", "number", "row", "sign", "coefficients", "amount"] vs) [some (sysD y), none, none, none, none, none] := Sl.start r
    refine ⟨_, (pss_cons (ps_for PassesOwn.never rfl (pi_enumD (by rfl) T.zenumerate (pa_cons (pe_cal C_sums (hr.mono (by decide)) (by rfl) (pa_cons (pv 0) pa_nil)) pa_nil)) (pg_tup rfl (pgs_cons (pg_name (i := 1) sc_lacking.nd rfl (.inl rfl)) (pgs_cons (pg_name (i := 2) sc_lacking.nd rfl (.inl rfl)) (pgs_nil))))
    (pss_one (ps_for PassesOwn.never rfl (pi_tup (pv 2)) (pg_tup rfl (pgs_cons (pg_name (i := 3) sc_lacking.nd rfl (.inl rfl)) (pgs_cons (pg_name (i := 4) sc_lacking.nd rfl (.inl rfl)) (pgs_cons (pg_name (i := 5) sc_lacking.nd rfl (.inl rfl)) (pgs_nil)))))
    (pss_one (ps_if (pt_not (pt_val (pe_cal C_can_be (hr.mono (by decide)) (by rfl) (pa_cons (pv 4) (pa_cons (pv 5) pa_nil)))))
    (pss_one (ps_ret (pe_tup (pa_cons (pv 1) (pa_cons (pv 3) pa_nil)))))
    pss_nil)))))
    (pss_one (ps_ret pe_non))), ?_⟩
    refine st_for (S := Tp K) (it_enumM (rowD y) y (src_tup (ev_call (P := pSums) (eva_cons (ev_var S0 rfl) eva_nil) ⟨y, rfl, h1, rfl⟩))) fun H2 x2 =>
      ⟨fun k σ' H' => Same H2 H' ∧ ∃ o1 o2 o3 o4 o5, Sl K H' σ' [some (sysD y), o1, o2, o3, o4, o5], ⟨Same.refl _, _, _, _, _, _, S0.mono (Tp.of x2)⟩, fun k σ' H' _ h => Tp.of h.1, fun k u x σ' H' H3 hk ⟨sm, o1, o2, o3, o4, o5, S'⟩ x3 rd => ?_, fun σ' H' ⟨sm, o1, o2, o3, o4, o5, S'⟩ => ?_⟩
    · obtain ⟨e, i⟩ := u
      have he : e ∈ y := by
        rw [List.getElem?_zipIdx] at hk
        obtain ⟨e2, he2, ee⟩ := Option.map_eq_some_iff.mp hk
        cases ee
        exact List.mem_of_getElem? he2
      refine gd_pair (d1 := .int ((i : Nat) : Int)) (d2 := rowD y e) x σ' _ H3 _ rd (S'.mono (Tp.of x3)) fun σ4 S4 => ?_
      refine st_for (xs := signs y) (enc := cellD y e) (S := Tp K) (it_tup (ev_var S4 rfl)) fun H5 x5 =>
        ⟨fun k σ' H' => Same H5 H' ∧ ∃ o3 o4 o5, Sl K H' σ' [some (sysD y), some (.int ((i : Nat) : Int)), some (rowD y e), o3, o4, o5], ⟨Same.refl _, _, _, _, S4.mono (Tp.of x5)⟩, fun k σ' H' _ h => Tp.of h.1, fun k g x σ' H' H6 hk ⟨sm2, o3, o4, o5, S'⟩ x6 rd => ?_, fun σ' H' ⟨sm2, o3, o4, o5, S'⟩ => ?_⟩
      · refine gd_three (d1 := .tx [g]) (d2 := .tup ((coefs y e).map D.int)) (d3 := .int (amt e g)) x σ' _ H6 _ rd (S'.mono (Tp.of x6)) fun σ7 S7 => ?_
        refine st_no (EvT.to (et_not (et_B (ev_call (P := pCanBe) (eva_cons (ev_var S7 rfl) (eva_cons (ev_var S7 rfl) eva_nil)) ⟨coefs y e, amt e g, rfl, by unfold coefs; rw [List.length_map]; have := names_le y; omega, h2 e he g (List.mem_of_getElem? hk), rfl⟩))) rfl) fun H8 x8 => ?_
        exact ⟨(sm2.trans x6).trans x8, _, _, _, S7.mono (Tp.of x8)⟩
      · exact ⟨((sm.trans x3).trans x5).trans sm2, _, _, _, _, _, S'⟩
    · dsimp only
      refine st_ret (K := K) ev_non fun v H4 x4 r4 => ?_
      exact q v H4 ((x2.trans sm).trans x4) r4
end
end GW

set_option Elab.async false
set_option linter.all false
set_option maxRecDepth 100000
set_option maxHeartbeats 4000000
/-! check_thrice, check, read_system -/
namespace GW
open PySem PySem.Spec L2 TL PyProof.Rows
abbrev s_check_thrice : Stmt := topS 21
theorem sc_check_thrice : FnScope ["system", "counts", "number", "equation", "side", "place", "letter"] ["system"] (defScope s_check_thrice) := ⟨rfl, rfl, rfl, by decide +kernel, rfl, by decide +kernel, by decide +kernel⟩
abbrev s_check : Stmt := topS 22
theorem sc_check : FnScope ["thing", "equation", "many", "names"] ["thing"] (defScope s_check) := ⟨rfl, rfl, rfl, by decide +kernel, rfl, by decide +kernel, by decide +kernel⟩
abbrev s_read_system : Stmt := topS 52
theorem sc_read_system : FnScope ["text", "parts", "system", "part"] ["text"] (defScope s_read_system) := ⟨rfl, rfl, rfl, by decide +kernel, rfl, by decide +kernel, by decide +kernel⟩
/-! ### counts in a dict -/
abbrev ky (c : Nat) : Key := .inr (mkS [c])
theorem ky_inj {c d : Nat} : ky c = ky d ↔ c = d := ⟨fun h => by
  have := mkS_inj.mp (Sum.inr.inj h)
  simpa using this, fun h => by rw [h]⟩
def Dc (kvs : List (Key × V)) (pre : List Nat) : Prop := (∀ c, valV kvs (ky c) = if c ∈ pre then some (.int (pre.count c : Nat)) else none) ∧ kvs.length ≤ pre.length
theorem dc_nil : Dc [] [] := ⟨fun c => rfl, Nat.le_refl _⟩
theorem putK_len (kvs : List (Key × V)) (k : Key) (v : V) : (putK kvs k v).length ≤ kvs.length + 1 := by
  unfold putK
  by_cases h : (kvs.any fun kv => decide (kv.1 = k)) = true
  · rw [if_pos h, List.length_map]
    omega
  · rw [if_neg h, List.length_append]
    exact Nat.le_refl _
theorem dc_put {kvs : List (Key × V)} {pre : List Nat} (h : Dc kvs pre) (c : Nat) : Dc (putK kvs (ky c) (.int ((pre.count c : Nat) + 1))) (pre ++ [c]) := by
  refine ⟨fun d => ?_, ?_⟩
  · rw [valV_put]
    by_cases e : d = c
    · subst e
      rw [if_pos rfl, if_pos (by simp), List.count_append, List.count_singleton_self]
      rfl
    · rw [if_neg fun z => e (ky_inj.mp z), h.1 d]
      have hc : (pre ++ [c]).count d = pre.count d := by
        rw [List.count_append, List.count_eq_zero_of_not_mem (a := d) (l := [c]) (by simpa using e)]
        rfl
      rw [hc]
      by_cases m : d ∈ pre
      · rw [if_pos m, if_pos (List.mem_append_left _ m)]
      · rw [if_neg m, if_neg]
        intro z
        rcases List.mem_append.mp z with z | z
        · exact m z
        · exact e (List.mem_singleton.mp z)
  · have := putK_len kvs (ky c) (.int ((pre.count c : Nat) + 1))
    have := h.2
    rw [List.length_append]
    show _ ≤ pre.length + 1
    omega
section
variable {P : Program} {w : World} {K : PySem.W.Frag} {mg : Str → Option Value} {base : Heap} {tS tU tE tL tN : Tok} {σ : L2.St} {H H' : Hp} {td ty tx tv : TE} {n : Nat} {a : Addr} {kvs : List (Key × V)} {c : Nat} {i : Int}
theorem ev_dget2 {pre : List Nat} (h : Dc kvs pre) (h1 : EvD K td σ H (.raw (.ref a))) (ha : H a = some (.dK kvs)) (h2 : EvD K ty σ H (.tx [c])) (h3 : EvD K tx σ H (.int 0)) : EvD K (tDGet2 td ty tx) σ H (.int (pre.count c : Nat)) := fun H1 x Q q =>
  h1 H1 x _ fun v H2 x2 r2 => by
    cases r2
    have e2 := x2 _ _ (x _ _ ha)
    refine ⟨a, rfl, .inl ⟨kvs, .inl e2⟩, h2 H2 (x.trans x2) _ fun v H3 x3 r3 => h3 H3 ((x.trans x2).trans x3) _ fun z H4 x4 r4 => ?_⟩
    cases r3
    cases r4
    refine ⟨_, DGet.k (k := ky c) (x4 _ _ (x3 _ _ e2)), ?_⟩
    rw [h.1 c]
    by_cases m : c ∈ pre
    · rw [if_pos m]
      exact q _ H4 ((x2.trans x3).trans x4) (.int _)
    · rw [if_neg m]
      refine q _ H4 ((x2.trans x3).trans x4) ?_
      rw [List.count_eq_zero_of_not_mem m]
      exact .int _
theorem ev_dget (h1 : EvD K td σ H (.raw (.ref a))) (ha : H a = some (.dK kvs)) (h2 : EvD K ty σ H (.tx [c])) (hv : valV kvs (ky c) = some (.int i)) : EvD K (tDGet td ty) σ H (.int i) := fun H1 x Q q =>
  h1 H1 x _ fun v H2 x2 r2 => h2 H2 (x.trans x2) _ fun v H3 x3 r3 => by
    cases r2
    cases r3
    have e3 := x3 _ _ (x2 _ _ (x _ _ ha))
    exact ⟨a, .int i, rfl, hv ▸ DGet.k (k := ky c) e3, q _ H3 (x2.trans x3) (.int i)⟩
theorem st_dput {D0 : Ends} (hv : EvD K tv σ H (.int i)) (h1 : EvD K td σ H (.raw (.ref a))) (h2 : EvD K ty σ H (.tx [c])) (ha : H a = some (.dK kvs)) (hl : kvs.length < sizeLine) (q : ∀ H2, Same H H2 → D0.nx σ (upd H2 a (.dK (putK kvs (ky c) (.int i))))) : sDPut td ty tv D0 σ H :=
  hv.go fun v H1 x1 r1 => h1 H1 x1 _ fun v2 H2 x2 r2 => h2 H2 (x1.trans x2) _ fun v3 H3 x3 r3 => by
    cases r1
    cases r2
    cases r3
    have e3 := x3 _ _ (x2 _ _ (x1 _ _ ha))
    exact ⟨a, _, rfl, DPut.k (k := ky c) e3 hl, q H3 ((x1.trans x2).trans x3)⟩
theorem st_setDict {k : Nat} {ss : List SD} {D0 : Ends} (S : Sl K H σ ss) (q : ∀ σ' a H2, Same H H2 → H a = none → H2 a = some (.dK []) → Sl K H2 σ' (ss.set k (some (.raw (.ref a)))) → D0.nx σ' H2) : tAsg tDNewK (gName k) D0 σ H := fun p hp =>
  q _ p _ (same_new hp) hp upd_same ((S.mono (tp_new hp)).set (.raw _) k)
def sideOf (e : Eqn) (j : Nat) : List Nat := if j = 0 then e.1 else e.2
theorem letters_app (a b : Sys) : letters (a ++ b) = letters a ++ letters b := by
  unfold letters
  rw [List.flatMap_append]
theorem letters_one (e : Eqn) : letters [e] = e.1 ++ e.2 := by
  rw [letters_cons]
  exact List.append_nil _
def pThrice (ds : List D) (d : D) : Prop := ∃ s, ds = [sysD s] ∧ Sm s ∧ (∀ c ∈ uns, (letters s).count c ≤ 2) ∧ d = .non
theorem ok_check_thrice {f : Addr} {fd : FuncData} {k : Nat} (F : Fun K "check_thrice" "check_thrice" s_check_thrice f fd) (T : Txt mg tS tU tE tL tN) : FnOk P w K mg base CX0 (k + 1) f fd ["system"] (spD K pThrice) := by
  refine F.ok sc_check_thrice (fun vs H Q E h => ?_) (fun cdv A outer s H vs Q E hr h => ?_)
  · obtain ⟨ds, d, r, ⟨_, rfl, _⟩, _⟩ := h
    exact r.len
  · obtain ⟨ds, d, r, ⟨y, rfl, h1, h2, rfl⟩, q⟩ := h
    have S0 : Sl K H (start ["system", "counts", "number", "equation", "side", "place", "letter"] vs) [some (.tup (y.map eD)), none, none, none, none, none, none] := Sl.start r
    refine ⟨_, (pss_cons (ps_set (i := 1) sc_check_thrice.nd rfl (.inl rfl) pe_dnewK)
    (pss_one (ps_for PassesOwn.never rfl (pi_enumD (by rfl) T.zenumerate (pa_cons (pv 0) pa_nil)) (pg_tup rfl (pgs_cons (pg_name (i := 2) sc_check_thrice.nd rfl (.inl rfl)) (pgs_cons (pg_name (i := 3) sc_check_thrice.nd rfl (.inl rfl)) (pgs_nil))))
    (pss_one (ps_for PassesOwn.never rfl (pi_range1 (by rfl) T.zrange (pa_cons pe_int pa_nil)) (pg_name (i := 4) sc_check_thrice.nd rfl (.inl rfl))
    (pss_one (ps_for PassesOwn.never rfl (pi_enumD (by rfl) T.zenumerate (pa_cons (pe_ix (ix_tupK (K := K)) (pv 3) (pv 4) (fun _ _ => rfl)) pa_nil)) (pg_tup rfl (pgs_cons (pg_name (i := 5) sc_check_thrice.nd rfl (.inl rfl)) (pgs_cons (pg_name (i := 6) sc_check_thrice.nd rfl (.inl rfl)) (pgs_nil))))
    (pss_cons (ps_dput (hu_of hr) (pv 1) (pv 6) (pe_op op_add (pe_dget2 (hu_of hr) (pv 1) (pv 6) pe_int ⟨rfl, rfl, rfl, rfl⟩) pe_int) rfl)
    (pss_one (ps_if (PW.pt (pw_and (pt_cmpR op_inS (pv 6) (pe_glob (by rfl) T.mUNKNOWNS (relS _ _)) rfl) (pw_and1 (pt_cmpR op_eq (pe_dget (hu_of hr) (pv 1) (pv 6) (fun _ _ => rfl)) pe_int (nomark _)))))
    (pss_one ps_never)
    pss_nil)))))))))), ?_⟩
    refine st_setDict S0 fun σ1 A1 H1 x1 hA hv1 S1 => ?_
    dsimp only
    -- what is known all along
    let Kn : Hp → List Nat → Hp → Prop := fun H2 pre H' => Tp K H2 H' ∧ Same H H' ∧ ∃ kvs, H' A1 = some (.dK kvs) ∧ Dc kvs pre
    have same : ∀ {H2 pre H3 H4}, Kn H2 pre H3 → Same H3 H4 → Kn H2 pre H4 := fun {H2 pre H3 H4} ⟨a, b, kvs, c, d⟩ x => ⟨a.trans (Tp.of x), b.trans x, kvs, x _ _ c, d⟩
    refine st_for (S := Tp K) (it_enumM eD y (src_tup (ev_var S1 rfl))) fun H2 x2 =>
      ⟨fun k σ' H' => Kn H2 (letters (y.take k)) H' ∧ ∃ o2 o3 o4 o5 o6, Sl K H' σ' [some (.tup (y.map eD)), some (.raw (.ref A1)), o2, o3, o4, o5, o6], ⟨⟨Tp.refl, x1.trans x2, [], x2 _ _ hv1, dc_nil⟩, none, none, none, none, none, S1.mono (Tp.of x2)⟩, fun k σ' H' _ h => h.1.1,
        fun k u x σ' H' H3 hk ⟨kn, o2, o3, o4, o5, o6, S'⟩ x3 rd => ?_, fun σ' H' ⟨kn, o2, o3, o4, o5, o6, S'⟩ => q _ H' kn.2.1 .non⟩
    obtain ⟨e, i⟩ := u
    have hk2 : y[k]? = some e := by
      rw [List.getElem?_zipIdx] at hk
      obtain ⟨e2, he2, ee⟩ := Option.map_eq_some_iff.mp hk
      cases ee
      exact he2
    have hsplit : letters (y.take k) ++ (e.1 ++ (e.2 ++ letters (y.drop (k + 1)))) = letters y := by
      have := cut_at hk2
      conv => rhs; rw [this, letters_app, letters_app, letters_one]
      simp only [List.append_assoc]
    have hnext : letters (y.take (k + 1)) = letters (y.take k) ++ (e.1 ++ e.2) := by
      rw [List.take_add_one, hk2, letters_app]
      show _ ++ letters [e] = _
      rw [letters_one]
    refine gd_pair (d1 := .int ((i : Nat) : Int)) (d2 := eD e) x σ' _ H3 _ rd (S'.mono (Tp.of x3)) fun σ4 S4 => ?_
    have S4 : Sl K H3 σ4 [some (.tup (y.map eD)), some (.raw (.ref A1)), some (.int ((i : Nat) : Int)), some (.tup [.tx e.1, .tx e.2]), o4, o5, o6] := S4
    refine st_for (xs := List.range 2) (enc := fun j => .int ((j : Nat) : Int)) (S := Tp K) (it_rng1 (eva_cons ev_int eva_nil) rfl (by omega)) fun H5 x5 =>
      ⟨fun j σ' H' => Tp K H5 H' ∧ Kn H2 (letters (y.take k) ++ ((if 1 ≤ j then e.1 else []) ++ (if 2 ≤ j then e.2 else []))) H' ∧ ∃ o4 o5 o6, Sl K H' σ' [some (.tup (y.map eD)), some (.raw (.ref A1)), some (.int ((i : Nat) : Int)), some (.tup [.tx e.1, .tx e.2]), o4, o5, o6],
        ⟨Tp.refl, by
          have := same kn (x3.trans x5)
          simpa using this, _, _, _, S4.mono (Tp.of x5)⟩, fun j σ' H' _ h => h.1, fun j u x σ' H' H6 hj ⟨tp, kn, o4, o5, o6, S'⟩ x6 rd => ?_, fun σ' H' ⟨tp, kn, o4, o5, o6, S'⟩ => ⟨by
          rw [hnext]
          exact kn, _, _, _, _, _, S'⟩⟩
    have hj2 : j < 2 := by
      have := (List.getElem?_eq_some_iff.mp hj).1
      rwa [List.length_range] at this
    rw [List.getElem?_range hj2] at hj
    cases hj
    refine gd_name 4 x σ' _ H6 _ rd (S'.mono (Tp.of x6)) fun σ7 S7 => ?_
    have S7 : Sl K H6 σ7 [some (.tup (y.map eD)), some (.raw (.ref A1)), some (.int ((i : Nat) : Int)), some (.tup [.tx e.1, .tx e.2]), some (.int ((j : Nat) : Int)), o5, o6] := S7
    generalize hp2 : letters (y.take k) ++ ((if 1 ≤ j then e.1 else []) ++ (if 2 ≤ j then e.2 else [])) = p2 at kn
    obtain ⟨post, hpost⟩ : ∃ post, p2 ++ (sideOf e j ++ post) = letters y := by
      rw [← hp2, ← hsplit]
      rcases Nat.lt_or_ge j 1 with h | h
      · obtain rfl : j = 0 := by omega
        exact ⟨e.2 ++ letters (y.drop (k + 1)), by simp [sideOf]⟩
      · obtain rfl : j = 1 := by omega
        exact ⟨letters (y.drop (k + 1)), by simp [sideOf]⟩
    have hside : ([D.tx e.1, D.tx e.2])[j]? = some (.tx (sideOf e j)) := by
      rcases Nat.lt_or_ge j 1 with h | h
      · obtain rfl : j = 0 := by omega
        rfl
      · obtain rfl : j = 1 := by omega
        rfl
    refine st_for (S := Tp K) (it_enumM (fun c => D.tx [c]) (sideOf e j) (src_tx (ev_ixT (ev_var S7 rfl) (ev_var S7 rfl) rfl hside))) fun H8 x8 =>
      ⟨fun m σ' H' => Tp K H8 H' ∧ Kn H2 (p2 ++ (sideOf e j).take m) H' ∧ ∃ o5 o6, Sl K H' σ' [some (.tup (y.map eD)), some (.raw (.ref A1)), some (.int ((i : Nat) : Int)), some (.tup [.tx e.1, .tx e.2]), some (.int ((j : Nat) : Int)), o5, o6],
        ⟨Tp.refl, by
          have := same kn (x6.trans x8)
          simpa using this, _, _, S7.mono (Tp.of x8)⟩, fun m σ' H' _ h => h.1, fun m u x σ' H' H9 hm ⟨tp9, kn9, o5, o6, S'⟩ x9 rd => ?_, fun σ' H' ⟨tp9, kn9, o5, o6, S'⟩ => ?_⟩
    · obtain ⟨c, i2⟩ := u
      have hm2 : (sideOf e j)[m]? = some c := by
        rw [List.getElem?_zipIdx] at hm
        obtain ⟨e2, he2, ee⟩ := Option.map_eq_some_iff.mp hm
        cases ee
        exact he2
      refine gd_pair (d1 := .int ((i2 : Nat) : Int)) (d2 := .tx [c]) x σ' _ H9 _ rd (S'.mono (Tp.of x9)) fun σ10 S10 => ?_
      obtain ⟨t9, s9, kvs, ek, dc⟩ := kn9
      have e9 := x9 _ _ ek
      have hpl : (p2 ++ (sideOf e j).take m).length ≤ 1000 := by
        have h3 := congrArg List.length hpost
        have h4 := h1.1
        simp only [List.length_append, List.length_take] at h3 ⊢
        omega
      have hkl : kvs.length < sizeLine := line_gt (by have := dc.2; omega)
      refine st_dput (kvs := kvs) (c := c) (ev_add (ev_dget2 dc (ev_var S10 rfl) e9 (ev_var S10 rfl) ev_int) ev_int) (ev_var S10 rfl) (ev_var S10 rfl) e9 hkl fun H11 x11 => ?_
      have dc2 := dc_put dc c
      have e11 := x11 _ _ e9
      have tp11 := tp_mut (K := K) (w := .dK (putK kvs (ky c) (.int (((p2 ++ (sideOf e j).take m).count c : Nat) + 1)))) e11 trivial
      have S11 := (S10.mono (Tp.of (K := K) x11)).mono tp11
      have et : p2 ++ (sideOf e j).take (m + 1) = p2 ++ (sideOf e j).take m ++ [c] := by
        rw [List.take_add_one, hm2, List.append_assoc]
        rfl
      have hin : c ∈ p2 ++ (sideOf e j).take m ++ [c] := by simp
      have hval := dc2.1 c
      rw [if_pos hin] at hval
      have hcnt : c ∈ uns → (p2 ++ (sideOf e j).take m ++ [c]).count c ≤ 2 := fun hc => by
        have h3 := h2 c hc
        rw [← hpost, ← List.take_append_drop (m + 1) (sideOf e j), List.append_assoc, ← List.append_assoc p2, et, List.count_append] at h3
        omega
      have hb : (decide (c ∈ tl (Str.ofString "ABCDEFGHIJKLMNOPQRSTUVWXYZ")) && decide ((((p2 ++ (sideOf e j).take m ++ [c]).count c : Nat) : Int) = 3)) = false := by
        by_cases hc : c ∈ uns
        · have := hcnt hc
          rw [in_uns hc]
          simp only [Bool.true_and, decide_eq_false_iff_not]
          omega
        · have : decide (c ∈ tl (Str.ofString "ABCDEFGHIJKLMNOPQRSTUVWXYZ")) = false := decide_eq_false hc
          rw [this]
          rfl
      refine st_no (EvT.to (et_and (et_test (ev_inS (ev_var S11 rfl) (ev_c .str))) fun _ => et_test (ev_eqI (ev_dget (ev_var S11 rfl) upd_same (ev_var S11 rfl) hval) ev_int)) hb) fun H12 x12 => ?_
      refine ⟨((tp9.trans (Tp.of (x9.trans x11))).trans tp11).trans (Tp.of x12), ⟨((t9.trans (Tp.of (x9.trans x11))).trans tp11).trans (Tp.of x12), (Same.mut ((s9.trans x9).trans x11) hA).trans x12, _, x12 _ _ upd_same, by rw [et]; exact dc2⟩, _, _, S11.mono (Tp.of x12)⟩
    · rw [List.length_zipIdx, List.take_length] at kn9
      refine ⟨(tp.trans (Tp.of (x6.trans x8))).trans tp9, ?_, _, _, _, S'⟩
      have : letters (y.take k) ++ ((if 1 ≤ j + 1 then e.1 else []) ++ (if 2 ≤ j + 1 then e.2 else [])) = p2 ++ sideOf e j := by
        rw [← hp2]
        rcases Nat.lt_or_ge j 1 with h | h
        · obtain rfl : j = 0 := by omega
          simp [sideOf]
        · obtain rfl : j = 1 := by omega
          simp [sideOf]
      rw [this]
      exact kn9
end
end GW

set_option Elab.async false
set_option linter.all false
set_option maxRecDepth 100000
set_option maxHeartbeats 4000000
/-! check, read_system -/
namespace GW
open PySem PySem.Spec L2 TL PyProof.Rows
structure CkS (s : Sys) : Prop where
  lo : 1 ≤ s.length
  hi : s.length ≤ 6
  sd : ∀ e ∈ s, Sd e.1 ∧ Sd e.2
  two : ∀ c ∈ uns, (letters s).count c ≤ 2
  forty : (letters s).length ≤ 40
  six : (names s).length ≤ 6
theorem CkS.sm {s : Sys} (h : CkS s) : Sm s := ⟨by have := h.forty; omega, by have := h.hi; omega⟩
section
variable {P : Program} {w : World} {K : PySem.W.Frag} {mg : Str → Option Value} {base : Heap} {tS tU tE tL tN : Tok} {σ : L2.St} {H H' : Hp} {ta tb tc te : TE} {n : Nat} {i j k : Int}
theorem ev_chain (h1 : EvD K ta σ H (.int i)) (h2 : EvD K tb σ H (.int j)) (h3 : EvD K tc σ H (.int k)) (a : i ≤ j) (b : j ≤ k) : EvD K (tChain (rI0 fun i j => .bl (decide (i ≤ j))) (rI0 fun i j => .bl (decide (i ≤ j))) ta tb tc) σ H (.bl true) := fun H1 x Q q =>
  h1 H1 x _ fun v H2 x2 r2 => h2 H2 (x.trans x2) _ fun w H3 x3 r3 => by
    cases r2
    cases r3
    refine ⟨i, j, rfl, rfl, true, congrArg V.bl (decide_eq_true a), ?_⟩
    rw [if_pos rfl]
    refine h3 H3 ((x.trans x2).trans x3) _ fun z H4 x4 r4 => ?_
    cases r4
    refine ⟨j, k, rfl, rfl, ?_⟩
    show Q (V.bl (decide (j ≤ k))) H4
    rw [decide_eq_true b]
    exact q _ H4 ((x2.trans x3).trans x4) (.bl true)
theorem st_expr {D0 : Ends} {d : D} (h : EvD K te σ H d) (q : ∀ H2, Same H H2 → D0.nx σ H2) : tDrop te D0 σ H := h.go fun v H2 x r => q H2 x
def pCheck (ds : List D) (d : D) : Prop := ∃ s, ds = [sysD s] ∧ CkS s ∧ d = .non
theorem ok_check {f : Addr} {fd : FuncData} (F : Fun K "check" "check" s_check f fd) (T : Txt mg tS tU tE tL tN) (C_is_equation : Cal P w K mg base 2 "is_equation" ["thing"] (spD K pIsEqn)) (C_check_thrice : Cal P w K mg base 1 "check_thrice" ["system"] (spD K pThrice))
    (C_letters_of : Cal P w K mg base 1 "letters_of" ["system"] (spD K pLetters)) (C_names_of : Cal P w K mg base 2 "names_of" ["system"] (spD K pNames)) : FnOk P w K mg base CX0 3 f fd ["thing"] (spD K pCheck) := by
  refine F.ok sc_check (fun vs H Q E h => ?_) (fun cdv A outer s H vs Q E hr h => ?_)
  · obtain ⟨ds, d, r, ⟨_, rfl, _⟩, _⟩ := h
    exact r.len
  · obtain ⟨ds, d, r, ⟨y, rfl, ck, rfl⟩, q⟩ := h
    have S0 : Sl K H (start ["thing", "equation", "many", "names"] vs) [some (.tup (y.map eD)), none, none, none] := Sl.start r
    have sm := ck.sm
    have hlen : ((y.map eD).length : Nat) = y.length := List.length_map _
    refine ⟨_, (pss_cons (ps_if (PW.pt (pw_or (pt_not (pt_val (pe_callB (call_isiK' (K := K)) (by rfl) T.zisinstance (by decide +kernel) (pa_cons (pv 0) (pa_cons (pe_bltn (v := .ty "tuple") (by rfl) T.ztuple (by decide +kernel) rfl) pa_nil))))) (pw_or1 (pt_not (pt_chain op_le op_le pe_int (pe_callB (call_lenQK (K := K)) (by rfl) T.zlen PySem.boot_len (pa_cons (pv 0) pa_nil)) (pe_glob (by rfl) T.mMOST_EQUATIONS (relI _ _)))))))
    (pss_one ps_never)
    pss_nil)
    (pss_cons (ps_for PassesOwn.never rfl (pi_tup (pv 0)) (pg_name (i := 1) sc_check.nd rfl (.inl rfl))
    (pss_one (ps_if (pt_not (pt_val (pe_cal C_is_equation (hr.mono (by decide)) (by rfl) (pa_cons (pv 1) pa_nil))))
    (pss_one ps_never)
    pss_nil)))
    (pss_cons (ps_expr (pe_cal C_check_thrice (hr.mono (by decide)) (by rfl) (pa_cons (pv 0) pa_nil)))
    (pss_cons (ps_set (i := 2) sc_check.nd rfl (.inl rfl) (pe_callB call_lenS (by rfl) T.zlen PySem.boot_len (pa_cons (pe_cal C_letters_of (hr.mono (by decide)) (by rfl) (pa_cons (pv 0) pa_nil)) pa_nil)))
    (pss_cons (ps_if (pt_cmpR op_gt (pv 2) (pe_glob (by rfl) T.mMOST_LETTERS (relI _ _)) (nomark _))
    (pss_one ps_never)
    pss_nil)
    (pss_cons (ps_set (i := 3) sc_check.nd rfl (.inl rfl) (pe_cal C_names_of (hr.mono (by decide)) (by rfl) (pa_cons (pv 0) pa_nil)))
    (pss_one (ps_if (pt_cmpR op_gt (pe_callB call_lenS (by rfl) T.zlen PySem.boot_len (pa_cons (pv 3) pa_nil)) (pe_glob (by rfl) T.mMOST_NAMES (relI _ _)) (nomark _))
    (pss_one ps_never)
    pss_nil)))))))), ?_⟩
    refine st_no (EvT.to (et_or (et_not (et_B (ev_isiT (ev_var S0 rfl)))) fun _ => et_not (et_test (ev_chain (ev_int) (ev_lenT (ev_var S0 rfl)) ev_int (by have := ck.lo; omega) (by have := ck.hi; omega)))) rfl) fun H1 x1 => ?_
    have S1 := S0.mono (Tp.of (K := K) x1)
    refine st_for (xs := y) (enc := eD) (S := Tp K) (it_tup (ev_var S1 rfl)) fun H2 x2 => ⟨fun _ σ' H' => Same H2 H' ∧ Sl K H' σ' [some (.tup (y.map eD)), none, none, none], ⟨Same.refl _, S1.mono (Tp.of x2)⟩, fun k σ' H' _ h => Tp.of h.1, fun k e x σ' H' H3 hk ⟨z, S'⟩ x3 rd => ?_, fun σ' H' ⟨z, S'⟩ => ?_⟩
    · obtain ⟨h1, h2⟩ := ck.sd e (List.mem_of_getElem? hk)
      refine gd_name 1 x σ' _ H3 _ rd (S'.mono (Tp.of x3)) fun σ4 S4 => ?_
      refine st_no (EvT.to (et_not (et_B (ev_call (P := pIsEqn) (eva_cons (ev_var S4 rfl) eva_nil) ⟨e, rfl, h1, h2, rfl⟩))) rfl) fun H5 x5 => ?_
      exact ⟨(z.trans x3).trans x5, (S4.mono (Tp.of x5)).drop1 1⟩
    · dsimp only
      refine st_expr (ev_call (P := pThrice) (eva_cons (ev_var S' rfl) eva_nil) ⟨y, rfl, sm, ck.two, rfl⟩) fun H3 x3 => ?_
      have S3 := S'.mono (Tp.of (K := K) x3)
      refine st_set S3 (ev_lenS (ev_call (P := pLetters) (eva_cons (ev_var S3 rfl) eva_nil) ⟨y, rfl, sm, rfl⟩) (line_ge (by have := sm.1; omega))) fun σ4 H4 x4 S4 => ?_
      have hb : decide ((40 : Int) < ((letters y).length : Nat)) = false := decide_eq_false (by have := ck.forty; omega)
      refine st_no (EvT.to (et_test (ev_gt (ev_var S4 rfl) ev_int)) hb) fun H5 x5 => ?_
      have S5 := S4.mono (Tp.of (K := K) x5)
      refine st_set S5 (ev_call (P := pNames) (eva_cons (ev_var S5 rfl) eva_nil) ⟨y, rfl, sm, rfl⟩) fun σ6 H6 x6 S6 => ?_
      have hb2 : decide ((6 : Int) < ((names y).length : Nat)) = false := decide_eq_false (by have := ck.six; omega)
      refine st_no (EvT.to (et_test (ev_gt (ev_lenS (ev_var S6 rfl) (line_ge (by have := ck.six; omega))) ev_int)) hb2) fun H7 x7 => ?_
      exact q _ H7 (((((((x1.trans x2).trans z).trans x3).trans x4).trans x5).trans x6).trans x7) .non
def showS (s : Sys) : List Nat := joinL [59, 32] (s.map showE)
def pReadS (ds : List D) (d : D) : Prop := ∃ s, ds = [.tx (showS s)] ∧ CkS s ∧ d = sysD s
theorem jl_len (y : List Nat) : ∀ qs : List (List Nat), (joinL y qs).length ≤ (qs.map List.length).sum + qs.length * y.length
  | [] => Nat.zero_le _
  | [a] => by
    show a.length ≤ _
    simp
  | a :: b :: qs => by
    have ih := jl_len y (b :: qs)
    show (a ++ (y ++ joinL y (b :: qs))).length ≤ _
    rw [List.length_append, List.length_append, List.map_cons, List.sum_cons, List.length_cons, Nat.add_mul, Nat.one_mul]
    omega
theorem ok_read_system {f : Addr} {fd : FuncData} (F : Fun K "read_system" "read_system" s_read_system f fd) (T : Txt mg tS tU tE tL tN) (C_read_equation : Cal P w K mg base 2 "read_equation" ["text"] (spD K pReadEq)) (C_check : Cal P w K mg base 3 "check" ["thing"] (spD K pCheck)) : FnOk P w K mg base CX0 4 f fd ["text"] (spD K pReadS) := by
  refine F.ok sc_read_system (fun vs H Q E h => ?_) (fun cdv A outer s H vs Q E hr h => ?_)
  · obtain ⟨ds, d, r, ⟨_, rfl, _⟩, _⟩ := h
    exact r.len
  · obtain ⟨ds, d, r, ⟨y, rfl, ck, rfl⟩, q⟩ := h
    have S0 : Sl K H (start ["text", "parts", "system", "part"] vs) [some (.tx (showS y)), none, none, none] := Sl.start r
    have sm := ck.sm
    have side : ∀ e ∈ y, e.1.length ≤ 40 ∧ e.2.length ≤ 40 := fun e he => by
      have := len_mem he
      have := ck.forty
      omega
    have slen : (showS y).length + 2 ≤ sizeLine := Nat.le_trans (m := 10000) (by
      have h1 := jl_len [59, 32] (y.map showE)
      have h2 := sum_le (b := 81) (ls := y.map showE) fun l hl => by
        obtain ⟨e, he, rfl⟩ := List.mem_map.mp hl
        have := side e he
        unfold showE
        simp only [List.length_append, List.length_singleton]
        omega
      have h3 := ck.hi
      rw [List.length_map] at h1 h2
      have h4 : ([59, 32] : List Nat).length = 2 := rfl
      rw [h4] at h1
      unfold showS
      omega) (by decide)
    have hsplit : Txt.split (mkS (showS y)) (mkS [59, 32]) = (y.map showE).map mkS := by
      have := split_join (y := mkS [59, 32]) (s := 59) (S := [32]) rfl (by simp [mkS]) (parts := (y.map showE).map mkS) (fun e => by
        have := congrArg List.length e
        rw [List.length_map, List.length_map] at this
        have h0 := ck.lo
        rw [this] at h0
        exact absurd h0 (by decide)) (fun p hp => by
          obtain ⟨l, hl, rfl⟩ := List.mem_map.mp hp
          obtain ⟨e, he, rfl⟩ := List.mem_map.mp hl
          obtain ⟨h1, h2⟩ := ck.sd e he
          intro hm
          have hm : 59 ∈ e.1 ++ [61] ++ e.2 := hm
          simp only [List.mem_append, List.mem_singleton] at hm
          rcases hm with (hm | hm) | hm
          · exact sd_ne h1 (by omega) hm
          · omega
          · exact sd_ne h2 (by omega) hm)
      rw [join_of] at this
      exact this
    refine ⟨_, (pss_cons (ps_if (pt_not (pt_val (pe_callB (call_isiK' (K := K)) (by rfl) T.zisinstance (by decide +kernel) (pa_cons (pv 0) (pa_cons (pe_bltn (v := .ty "str") (by rfl) T.zstr (by decide +kernel) rfl) pa_nil)))))
    (pss_one ps_never)
    pss_nil)
    (pss_cons (ps_set (i := 1) sc_read_system.nd rfl (.inl rfl) (pe_m1 PySem.F.slot_str_split PySem.F.type_str_split mt_splitD (pv 0) pe_str))
    (pss_cons (ps_if (pt_cmpR op_gt (pe_callB (call_lenQK (K := K)) (by rfl) T.zlen PySem.boot_len (pa_cons (pv 1) pa_nil)) (pe_glob (by rfl) T.mMOST_EQUATIONS (relI _ _)) (nomark _))
    (pss_one ps_never)
    pss_nil)
    (pss_cons (ps_set (i := 2) sc_read_system.nd rfl (.inl rfl) (pe_callTy (call_tupOfK (K := K)) (by rfl) T.ztuple (by decide +kernel) (pa_cons (pe_lc (own := [("part", 3)]) (g := gName 3) (by rfl) sc_read_system.nd (pi_list (pv 1)) (blkOk_by (own := [("part", 3)]) (N := ["text", "parts", "system", "part"]) (sc := defScope s_read_system) (by decide +kernel)) (fun _ _ _ _ _ => pg_name (i := 3) sc_read_system.nd rfl (Or.inl rfl)) (fun _ _ _ _ _ => pts_nil) (fun _ _ _ _ _ => (pe_cal C_read_equation (hr.mono (by decide)) (by rfl) (pa_cons (pv 3) pa_nil)))) pa_nil)))
    (pss_cons (ps_expr (pe_cal C_check (hr.mono (by decide)) (by rfl) (pa_cons (pv 2) pa_nil)))
    (pss_one (ps_ret (pv 2)))))))), ?_⟩
    refine st_no (et_not (et_B (ev_isiS (ev_var S0 rfl)))) fun H1 x1 => ?_
    have S1 := S0.mono (Tp.of (K := K) x1)
    refine st_setL S1 (el_split (m := [59, 32]) (ls := y.map showE) (ev_var S1 rfl) (EvD.to (e := .tx [59, 32]) ev_str (by rw [tSe])) (by simp) slen hsplit) fun σ2 A2 vs2 H2 x2 hA2 hv2 r2 S2 => ?_
    have hb4 : decide ((6 : Int) < ((((y.map showE).map D.tx).length : Nat) : Int)) = false := by
      rw [List.length_map, List.length_map]
      exact decide_eq_false (by have := ck.hi; omega)
    have lenL : EvD K (tCB (cLenQ K) (tCons (tVar 1) tNil)) σ2 H2 (.int ((y.map showE).map D.tx).length) := fun H9 x9 Q9 q9 => ev_var S2 rfl H9 x9 _ fun v H10 x10 rv => by
      cases rv
      refine ⟨A2, vs2, rfl, .inl (SqL.of (x10 _ _ (x9 _ _ hv2))), ?_⟩
      rw [r2.len]
      exact q9 _ H10 x10 (.int _)
    refine st_no (EvT.to (et_test (ev_gt lenL ev_int)) hb4) fun H3 x3 => ?_
    have S3 := S2.mono (Tp.of (K := K) x3)
    have r3 : RL K H3 vs2 (y.map fun e => .tx (showE e)) := by
      have := r2.mono (Tp.of (K := K) x3)
      rw [List.map_map] at this
      exact this
    refine st_set S3 (EvD.to (e := sysD y) (ev_tupOf (el_map (xs := y) (enc := fun e => .tx (showE e)) (f := eD) (fs := fun e ss => ss.set 3 (some (.tx (showE e)))) S3 (it_lstR (ev_var S3 rfl) (SqL.of (x3 _ _ hv2)) r3) (fun e _ => go_name 3) (by have := ck.hi; omega) fun e he σ4 H4 x4 S4 => ?_)) rfl) fun σ5 H5 x5 S5 => ?_
    · obtain ⟨h1, h2⟩ := ck.sd e he
      obtain ⟨h3, h4⟩ := side e he
      exact ev_call (P := pReadEq) (eva_cons (ev_var S4 rfl) eva_nil) ⟨e, rfl, h1, h2, by omega, by omega, rfl⟩
    · refine st_expr (ev_call (P := pCheck) (eva_cons (ev_var S5 rfl) eva_nil) ⟨y, rfl, ck, rfl⟩) fun H6 x6 => ?_
      refine st_ret (ev_var (S5.mono (Tp.of (K := K) x6)) rfl) fun v H7 x7 r7 => ?_
      exact q v H7 (((((x1.trans x2).trans x3).trans x5).trans x6).trans x7) r7
end
end GW

set_option Elab.async false
set_option linter.all false
set_option maxRecDepth 100000
set_option maxHeartbeats 4000000
/-! _law_there_and_back -/
namespace GW
open PySem PySem.Spec L2 TL PyProof.Rows
abbrev s__law_there_and_back : Stmt := topS 65
theorem sc__law_there_and_back : FnScope ["_law_system", "_law_text", "_law_names_here", "_law_words", "_law_room", "_law_step", "_law_steps", "_law_rest"] ["_law_system", "_law_text"] (defScope s__law_there_and_back) := ⟨rfl, rfl, rfl, by decide +kernel, rfl, by decide +kernel, by decide +kernel⟩
theorem CkS.side {s : Sys} (h : CkS s) : ∀ e ∈ s, e.1.length ≤ 40 ∧ e.2.length ≤ 40 := fun e he => by
  have := len_mem he
  have := h.forty
  omega
theorem CkS.ok {s : Sys} (h : CkS s) : Ok s := ⟨by have := h.hi; omega, fun e he => ⟨(h.sd e he).1, (h.sd e he).2, by have := h.side e he; omega, by have := h.side e he; omega⟩⟩
/-- a system, its answer, its way -/
structure Gw (s : Sys) (ws : Wds) : Prop where
  ck : CkS s
  len : ws.length = (names s).length
  wd : ∀ w ∈ ws, Wd w ∧ w.length ≤ 9
  ans : Ans (names s) ws s
  fl : ∀ e ∈ s, (fill (names s) ws e.1).length ≤ 1000
  way : ∃ ts r' ws', Way (names s, strip s) ws ts r' ws' ∧ ts.length ≤ ws.flatten.length + (names s).length
  cb : ∀ e ∈ s, ∀ g ∈ signs s, CB (coefs s e) (amt e g)
theorem flat_sum (ws : Wds) : ws.flatten.length = (ws.map List.length).sum := List.length_flatten
section
variable {P : Program} {w : World} {K : PySem.W.Frag} {mg : Str → Option Value} {base : Heap} {tS tU tE tL tN : Tok} {σ : L2.St} {H H' : Hp} {ta tb : TE} {n : Nat}
theorem eg_eqS {tg : TGE} {l m : List Nat} (h1 : EvG K tg n σ H (fun _ => .tx l)) (h2 : EvD K tb σ H (.tx m)) : EvG K (gOp rEq tg tb) n σ H (fun _ => .bl (decide (l = m))) := fun k H1 hk x Q q => h1 k H1 hk x _ fun j v H2 hj y r => h2 H2 (x.trans y) _ fun u H3 z r2 => by
  cases r
  cases r2
  refine ⟨rfl, ?_⟩
  rw [dec_mkS]
  exact q j _ H3 hj (y.trans z) (.bl _)
theorem names_in (s : Sys) : ∀ c ∈ names s, c ∈ uns := fun c h => (List.mem_filter.mp h).1
def pThere (ds : List D) (d : D) : Prop := ∃ s ws, ds = [sysD s, .tx (showW (names s) ws)] ∧ Gw s ws ∧ d = .bl true
theorem ok_there {f : Addr} {fd : FuncData} (F : Fun K "_law_there_and_back" "_law_there_and_back" s__law_there_and_back f fd) (T : Txt mg tS tU tE tL tN) (C_names_of : Cal P w K mg base 2 "names_of" ["system"] (spD K pNames)) (C_read_words : Cal P w K mg base 2 "read_words" ["names", "text"] (spD K pReadW))
    (C_holds : Cal P w K mg base 3 "holds" ["system", "words"] (spD K pHolds)) (C_lacking : Cal P w K mg base 4 "lacking" ["system"] (spD K pLack)) (C_way_of : CalG P w K mg base 5 "way_of" ["system", "words"] (spG K pWay)) (C_first_room : Cal P w K mg base 3 "first_room" ["system"] (spD K pFirst))
    (C_steps_of : Cal P w K mg base 3 "steps_of" ["room"] (spD K pStepsP)) (C_stepped : CalG P w K mg base 4 "stepped" ["room", "step"] (spG K pStepped)) (C_is_ended : Cal P w K mg base 1 "is_ended" ["room"] (spD K pEnded)) (C_show_words : Cal P w K mg base 1 "show_words" ["names", "words"] (spD K pShowW))
    (C_led_back : CalG P w K mg base 6 "led_back" ["system", "steps", "rest"] (spG K pLedBack)) : FnG P w K mg base 7 f fd ["_law_system", "_law_text"] (spG K fun _ ds d => ∃ d0, pThere ds d0 ∧ d = fun _ => d0) := by
  refine FunG.ok F sc__law_there_and_back (fun vs n H Q h => ?_) (fun cdv A outer s H vs Q n hr h => ?_)
  · obtain ⟨ds, d, r, ⟨_, ⟨_, _, rfl, _⟩, _⟩, _⟩ := h
    exact r.len
  · obtain ⟨ds, d, rr, ⟨_, ⟨y, ws, rfl, gw, rfl⟩, rfl⟩, q⟩ := h
    have S0 : Sl K H (start ["_law_system", "_law_text", "_law_names_here", "_law_words", "_law_room", "_law_step", "_law_steps", "_law_rest"] vs) [some (sysD y), some (.tx (showW (names y) ws)), none, none, none, none, none, none] := Sl.start rr
    have ck := gw.ck
    have sm := ck.sm
    have ok := ck.ok
    obtain ⟨ts, r', ws', way, hts⟩ := gw.way
    have n26 := names_le y
    have wl1 : ∀ w ∈ ws, w.length ≤ 1000 := fun w hw => by have := (gw.wd w hw).2; omega
    have hflat : ws.flatten.length ≤ 26 * 9 := by
      rw [flat_sum]
      refine Nat.le_trans (sum_le (b := 9) fun w hw => (gw.wd w hw).2) ?_
      have := gw.len
      exact Nat.mul_le_mul_right _ (by omega)
    have hts2 : ts.length ≤ 1000 := by omega
    refine ⟨_, gss_cons (gs_of (ps_set (i := 2) sc__law_there_and_back.nd rfl (.inl rfl) (pe_cal C_names_of (hr.mono (by decide)) (by rfl) (pa_cons (pv 0) pa_nil)))) (gss_cons (gs_of (ps_set (i := 3) sc__law_there_and_back.nd rfl (.inl rfl) (pe_cal C_read_words (hr.mono (by decide)) (by rfl) (pa_cons (pv 2) (pa_cons (pv 1) pa_nil))))) (gss_cons (gs_of (ps_if (PW.pt (pw_or (pt_not (pt_val (pe_cal C_holds (hr.mono (by decide)) (by rfl) (pa_cons (pv 0) (pa_cons (pv 3) pa_nil))))) (pw_or1 (pt_cmpR op_notN1 (pe_cal C_lacking (hr.mono (by decide)) (by rfl) (pa_cons (pv 0) pa_nil)) pe_non (nomark _)))))
    (pss_one (ps_ret pe_bl))
    pss_nil))
      (gss_cons (gs_asg (ge_cal C_way_of (hr.mono (by decide)) (by rfl) (ga_of (pa_cons (pv 0) (pa_cons (pv 3) pa_nil)))) (pg_tup rfl (pgs_cons (pg_name (i := 6) sc__law_there_and_back.nd rfl (.inl rfl)) (pgs_cons (pg_name (i := 7) sc__law_there_and_back.nd rfl (.inl rfl)) (pgs_nil)))))
      (gss_cons (gs_of (ps_if (pt_cmpR op_gt (pe_callB (call_lenQK (K := K)) (by rfl) T.zlen PySem.boot_len (pa_cons (pv 6) pa_nil)) (pe_op op_add (pe_callB call_lenS (by rfl) T.zlen PySem.boot_len (pa_cons (pe_m1 PySem.F.slot_str_join PySem.F.type_str_join (mt_joinK (K := K)) pe_str (pv 3)) pa_nil)) (pe_callB call_lenS (by rfl) T.zlen PySem.boot_len (pa_cons (pv 2) pa_nil))) (nomark _))
    (pss_one (ps_ret pe_bl))
    pss_nil)) (gss_cons (gs_of (ps_set (i := 4) sc__law_there_and_back.nd rfl (.inl rfl) (pe_cal C_first_room (hr.mono (by decide)) (by rfl) (pa_cons (pv 0) pa_nil))))
      (gss_cons (gs_for PassesOwn.never rfl (gi_of (pi_tup (pv 6))) (pg_name (i := 5) sc__law_there_and_back.nd rfl (.inl rfl))
        (gss_cons (gs_of (ps_if (pt_cmpR (op_notInDTK (K := K) hr) (pv 5) (pe_cal C_steps_of (hr.mono (by decide)) (by rfl) (pa_cons (pv 4) pa_nil)) rfl)
    (pss_one (ps_ret pe_bl))
    pss_nil)) (gss_one (gs_set (i := 4) sc__law_there_and_back.nd rfl (.inl rfl) (ge_cal C_stepped (hr.mono (by decide)) (by rfl) (ga_of (pa_cons (pv 4) (pa_cons (pv 5) pa_nil))))))))
      (gss_cons (gs_of (ps_if (PW.pt (pw_or (pt_not (pt_val (pe_cal C_is_ended (hr.mono (by decide)) (by rfl) (pa_cons (pv 4) pa_nil)))) (pw_or1 (pt_cmpR op_ne (pe_callB (call_lenQK (K := K)) (by rfl) T.zlen PySem.boot_len (pa_cons (pv 7) pa_nil)) (pe_callB call_lenS (by rfl) T.zlen PySem.boot_len (pa_cons (pe_ix (ix_tupK (K := K)) (pv 4) pe_int (fun _ _ => rfl)) pa_nil)) (nomark _)))))
    (pss_one (ps_ret pe_bl))
    pss_nil))
      (gss_one (gs_ret (ge_cmp op_eq (ge_calP C_show_words (hr.mono (by decide)) (by rfl) (ga_cons (ge_of (pv 2)) (ga_cons (ge_cal C_led_back (hr.mono (by decide)) (by rfl) (ga_of (pa_cons (pv 0) (pa_cons (pv 6) (pa_cons (pv 7) pa_nil))))) ga_nil))) (pv 1) (nomark _))))))))))), ?_⟩
    refine st_set S0 (ev_call (P := pNames) (eva_cons (ev_var S0 rfl) eva_nil) ⟨y, rfl, sm, rfl⟩) fun σ1 H1 x1 S1 => ?_
    dsimp only
    refine st_set S1 (ev_call (P := pReadW) (eva_cons (ev_var S1 rfl) (eva_cons (ev_var S1 rfl) eva_nil)) ⟨names y, ws, rfl, gw.len, by omega, fun w hw => ⟨(gw.wd w hw).1, wl1 w hw⟩, names_in y, rfl⟩) fun σ2 H2 x2 S2 => ?_
    dsimp only
    refine st_no (EvT.to (et_or (et_not (et_B (ev_call (P := pHolds) (eva_cons (ev_var S2 rfl) (eva_cons (ev_var S2 rfl) eva_nil)) ⟨y, ws, rfl, sm, gw.len, gw.fl, gw.ans, rfl⟩))) fun _ => et_test (ev_notN (b := true) (ev_call (P := pLack) (eva_cons (ev_var S2 rfl) eva_nil) ⟨y, rfl, sm, gw.cb, rfl⟩) fun H1 v r => non_non r)) rfl) fun H3 x3 => ?_
    have S3 := S2.mono (Tp.of (K := K) x3)
    dsimp only [gSeq]
    refine gst_asg S3 (eg_call (P := pWay) (ega_of (eva_cons (ev_var S3 rfl) (eva_cons (ev_var S3 rfl) eva_nil))) fun m2 _ => ⟨y, ws, ts, r', ws', rfl, sm, ok, gw.fl, gw.ans, way, hts2, rfl⟩) (gd_pairG (d1 := fun m => stpD m ts) (d2 := fun _ => stD ws')) fun σ4 m H4 hm x4 S4 => ?_
    dsimp only
    have S4 : Sl K H4 σ4 [some (sysD y), some (.tx (showW (names y) ws)), some (.tx (names y)), some (.tup (ws.map D.tx)), none, none, some (.tup (ts.map fun t => .stp m t.ws)), some (.tup (ws'.map D.tx))] := S4
    have hb4 : decide ((((joinL (tl (Str.ofString "")) ws).length : Nat) : Int) + (((names y).length : Nat) : Int) < (((ts.map fun t => D.stp m t.ws).length : Nat) : Int)) = false := decide_eq_false (by
      have : joinL (tl (Str.ofString "")) ws = ws.flatten := joinL_nil ws
      rw [this, List.length_map]
      omega)
    have jz : (ws.map List.length).sum + ws.length * (tl (Str.ofString "")).length ≤ 16777216 := by
      rw [← flat_sum]
      show _ + _ * 0 ≤ _
      omega
    have jl : (joinL (tl (Str.ofString "")) ws).length ≤ sizeLine := by
      have : joinL (tl (Str.ofString "")) ws = ws.flatten := joinL_nil ws
      rw [this]
      exact line_ge (by omega)
    refine st_no (EvT.to (et_test (ev_gt (ev_lenT (ev_var S4 rfl)) (ev_add (ev_lenS (ev_joinT (ls := ws) ev_str (ev_var S4 rfl) jz) jl) (ev_lenS (ev_var S4 rfl) (line_ge (by omega)))))) hb4) fun H5 x5 => ?_
    have S5 := S4.mono (Tp.of (K := K) x5)
    dsimp only [GEnds.at]
    refine st_set S5 (ev_call (P := pFirst) (eva_cons (ev_var S5 rfl) eva_nil) ⟨y, rfl, sm, ok, rfl⟩) fun σ6 H6 x6 S6 => ?_
    dsimp only
    have S6 : Sl K H6 σ6 [some (sysD y), some (.tx (showW (names y) ws)), some (.tx (names y)), some (.tup (ws.map D.tx)), some (roomD (names y, strip y)), none, some (.tup (ts.map fun t => .stp m t.ws)), some (.tup (ws'.map D.tx))] := S6
    refine gst_for (xs := ts) (enc := fun _ t => .stp m t.ws) (S := Tp K) (itg_of (its := ts.map fun t => .stp m t.ws) (it_tup (ev_var S6 rfl))) fun n7 H7 hn7 x7 =>
      ⟨fun k j σ' H' => m ≤ j ∧ Same H7 H' ∧ ∃ rk o, (trail (names y, strip y) ts)[k]? = some rk ∧ Sl K H' σ' [some (sysD y), some (.tx (showW (names y) ws)), some (.tx (names y)), some (.tup (ws.map D.tx)), some (roomD rk), o, some (.tup (ts.map fun t => .stp m t.ws)), some (.tup (ws'.map D.tx))],
        ⟨hn7, Same.refl _, _, _, trail_zero _ _, S6.mono (Tp.of x7)⟩, fun k j σ' H' _ h => Tp.of h.2.1, fun k u j x σ' H' H8 hk ⟨hj, s8, rk, o, hrk, S'⟩ x8 rd => ?_, fun j σ' H' ⟨hj, s8, rk, o, hrk, S'⟩ => ?_⟩
    · obtain ⟨rk2, wk, e1, pg, hst, e3⟩ := way_at way hk
      rw [hrk] at e1
      cases e1
      refine gd_name 5 x σ' _ H8 _ rd (S'.mono (Tp.of x8)) fun σ9 S9 => ?_
      dsimp only [gSeq]
      have sd := steps_sd hst pg.ok
      have hasc : ∀ ws ∈ (stepsOf rk).map Step.ws, ∀ l ∈ ws, Asc l := fun ws hws => by
        obtain ⟨t3, ht3, rfl⟩ := List.mem_map.mp hws
        exact ws_asc (steps_sd ht3 pg.ok)
      have hmap : D.tup ((stepsOf rk).map stepD) = .tup (((stepsOf rk).map Step.ws).map stD) := by
        rw [List.map_map]
        rfl
      have hbb : (if true = true then !decide (u.ws ∈ (stepsOf rk).map Step.ws) else decide (u.ws ∈ (stepsOf rk).map Step.ws)) = false := by
        rw [if_pos rfl, decide_eq_true (List.mem_map.mpr ⟨u, hst, rfl⟩)]
        rfl
      refine st_no (EvT.to (et_test (ev_inT (neg := true) (a := u.ws) (b := (stepsOf rk).map Step.ws) (ev_stp (ev_var S9 rfl)) (EvD.to (ev_call (P := pStepsP) (eva_cons (ev_var S9 rfl) eva_nil) ⟨rk, rfl, pg.ok, pg.ne, rfl⟩) hmap) (ws_asc sd) hasc)) hbb) fun H10 x10 => ?_
      have S10 := S9.mono (Tp.of (K := K) x10)
      refine gst_set S10 (eg_call (P := pStepped) (ega_of (eva_cons (ev_var S10 rfl) (eva_cons (ev_var S10 rfl) eva_nil))) fun j2 hj2 => ⟨rk, u, m, rfl, Nat.le_trans hj hj2, hst, pg.ok, pg.ne, pg.sm, by have := pg.nm; omega, rfl⟩) fun σ11 j11 H11 hj11 x11 S11 => ?_
      exact ⟨Nat.le_trans hj hj11, ((s8.trans x8).trans x10).trans x11, _, _, e3, S11⟩
    · obtain ⟨hlast, hend, pg'⟩ := way_last way
      rw [hlast] at hrk
      cases hrk
      dsimp only
      have hb7 : (!decide (r'.2 = []) || !decide ((((ws'.map D.tx).length : Nat) : Int) = ((r'.1.length : Nat) : Int))) = false := by
        rw [List.length_map, pg'.len, hend]
        simp
      refine st_no (EvT.to (et_or (et_not (et_B (ev_call (P := pEnded) (eva_cons (ev_var S' rfl) eva_nil) ⟨r', rfl, rfl⟩))) fun _ => et_test (ev_neI (ev_lenT (ev_var S' rfl)) (ev_lenS (ev_ixT (n := 0) (d := .tx r'.1) (ev_var S' rfl) ev_int rfl rfl) (line_ge (by have := pg'.nm; omega))))) hb7) fun H9 x9 => ?_
      have S9 := S'.mono (Tp.of (K := K) x9)
      refine gst_ret (eg_eqS (l := showW (names y) ws) (m := showW (names y) ws) (eg_callP (P := pShowW) (ega_cons (eg_of (ev_var S9 rfl)) (ega_cons (eg_call (P := pLedBack) (ega_of (eva_cons (ev_var S9 rfl) (eva_cons (ev_var S9 rfl) (eva_cons (ev_var S9 rfl) eva_nil)))) fun j2 hj2 => ⟨y, ws, ts, r', ws', m, rfl, Nat.le_trans hj hj2, sm, ok, way, hts2, rfl⟩) ega_nil)) ⟨names y, ws, rfl, gw.len, by omega, wl1, rfl⟩) (ev_var S9 rfl)) fun j10 v H10 hj10 x10 r10 => ?_
      refine q j10 v H10 (Nat.le_trans hm (Nat.le_trans hj hj10)) ((((((((((x1.trans x2).trans x3).trans x4).trans x5).trans x6).trans x7).trans s8).trans x9).trans x10)) ?_
      rw [decide_eq_true rfl] at r10
      exact r10
end
end GW

set_option Elab.async false
set_option linter.all false
set_option maxRecDepth 100000
set_option maxHeartbeats 4000000
/-! _law_written, law -/
namespace GW
open PySem PySem.Spec L2 TL PyProof.Rows
abbrev s__law_written : Stmt := topS 64
theorem sc__law_written : FnScope ["_law_names_here", "_law_words", "_law_k"] ["_law_names_here", "_law_words"] (defScope s__law_written) := ⟨rfl, rfl, rfl, by decide +kernel, rfl, by decide +kernel, by decide +kernel⟩
abbrev s_law : Stmt := topS 66
theorem sc_law : FnScope ["_law_script", "_law_written_here", "_law_told", "_law_text", "_law_system", "_law_names_here", "_law_words", "_law_left_here", "_law_right"] ["_law_script"] (defScope s_law) := ⟨rfl, rfl, rfl, by decide +kernel, rfl, by decide +kernel, by decide +kernel⟩
theorem zip_range (nm : List Nat) (ws : Wds) (h : ws.length = nm.length) : (List.range ws.length).map (fun k => [nm.getD k 0] ++ [61] ++ ws.getD k []) = (nm.zip ws).map fun p => [p.1] ++ [61] ++ p.2 := by
  refine List.ext_getElem? fun i => ?_
  rw [List.getElem?_map, List.getElem?_map]
  by_cases hi : i < ws.length
  · rw [List.getElem?_range hi, List.getElem?_zip_eq_some (z := (nm[i]'(by omega), ws[i])).mpr ⟨List.getElem?_eq_getElem _, List.getElem?_eq_getElem hi⟩]
    show some ([nm.getD i 0] ++ [61] ++ ws.getD i []) = some ([nm[i]'(by omega)] ++ [61] ++ ws[i])
    rw [List.getD_eq_getElem?_getD, List.getD_eq_getElem?_getD, List.getElem?_eq_getElem hi, List.getElem?_eq_getElem (show i < nm.length by omega)]
    rfl
  · rw [List.getElem?_eq_none (by rw [List.length_range]; omega), List.getElem?_eq_none (by rw [List.length_zip]; omega)]
    rfl
theorem showW_len (nm : List Nat) (ws : Wds) (h1 : nm.length ≤ 100) (h3 : ∀ w ∈ ws, w.length ≤ 1000) : (((nm.zip ws).map fun p => [p.1] ++ [61] ++ p.2).map List.length).sum ≤ 100 * 1002 := by
  refine Nat.le_trans (sum_le (b := 1002) fun l hl => ?_) ?_
  · obtain ⟨p, hp, rfl⟩ := List.mem_map.mp hl
    have hw := h3 p.2 (List.of_mem_zip hp).2
    simp only [List.length_append, List.length_singleton]
    omega
  · rw [List.length_map, List.length_zip]
    exact Nat.mul_le_mul_right _ (by omega)
section
variable {P : Program} {w : World} {K : PySem.W.Frag} {mg : Str → Option Value} {base : Heap} {tS tU tE tL tN : Tok} {σ : L2.St} {H H' : Hp} {ta tb : TE} {n : Nat}
theorem ok_written {f : Addr} {fd : FuncData} {k : Nat} (F : Fun K "_law_written" "_law_written" s__law_written f fd) (T : Txt mg tS tU tE tL tN) : FnOk P w K mg base CX0 (k + 1) f fd ["_law_names_here", "_law_words"] (spD K pShowW) := by
  refine F.ok sc__law_written (fun vs H Q E h => ?_) (fun cdv A outer s H vs Q E hr h => ?_)
  · obtain ⟨ds, d, r, ⟨_, _, rfl, _⟩, _⟩ := h
    exact r.len
  · obtain ⟨ds, d, r, ⟨nm, ws, rfl, h1, h2, h3, rfl⟩, q⟩ := h
    have S0 : Sl K H (start ["_law_names_here", "_law_words", "_law_k"] vs) [some (.tx nm), some (.tup (ws.map D.tx)), none] := Sl.start r
    have hl : (((ws.map D.tx).length : Nat) : Int) = ((ws.length : Nat) : Int) := by rw [List.length_map]
    refine ⟨_, (pss_one (ps_ret (pe_m1 PySem.F.slot_str_join PySem.F.type_str_join (mt_joinK (K := K)) pe_str (pe_lc (own := [("_law_k", 2)]) (g := gName 2) (by rfl) sc__law_written.nd (pi_range1 (by rfl) T.zrange (pa_cons (pe_callB (call_lenQK (K := K)) (by rfl) T.zlen PySem.boot_len (pa_cons (pv 1) pa_nil)) pa_nil)) (blkOk_by (own := [("_law_k", 2)]) (N := ["_law_names_here", "_law_words", "_law_k"]) (sc := defScope s__law_written) (by decide +kernel)) (fun _ _ _ _ _ => pg_name (i := 2) sc__law_written.nd rfl (Or.inl rfl)) (fun _ _ _ _ _ => pts_nil) (fun _ _ _ _ _ => (pe_op op_addS (pe_op op_addS (pe_ix ix_str (pv 0) (pv 2) (fun _ _ => rfl)) pe_str) (pe_ix (ix_tupK (K := K)) (pv 1) (pv 2) (fun _ _ => rfl)))))))), ?_⟩
    refine st_ret (ev_join (ls := (nm.zip ws).map fun p => [p.1] ++ [61] ++ p.2) ev_str (EvL.to (el_map (xs := List.range ws.length) (enc := fun k => .int ((k : Nat) : Int)) (f := fun k => .tx ([nm.getD k 0] ++ [61] ++ ws.getD k [])) (fs := fun k ss => ss.set 2 (some (.int ((k : Nat) : Int)))) S0 (it_rng1 (eva_cons (ev_lenT (ev_var S0 rfl)) eva_nil) hl (by omega)).same ?_ ?_ ?_) ?_) ?_) ?_
    · exact fun k _ => go_name 2
    · rw [List.length_range]
      omega
    · intro k hk σ' H' x S'
      have hk := List.mem_range.mp hk
      have e1 : nm[k]? = some (nm.getD k 0) := by
        rw [List.getD_eq_getElem?_getD, List.getElem?_eq_getElem (show k < nm.length by omega)]
        rfl
      have hw := h3 _ (getD_mem hk)
      refine ev_addS (ev_addS (l := [nm.getD k 0]) (m := [61]) (ev_ixS (n := k) (ev_var S' rfl) (ev_var S' rfl) rfl e1 (line_ge (by omega))) (EvD.to (e := .tx [61]) ev_str (by rw [tEq])) (line_ge (by show 1 + 1 ≤ _; omega))) (ev_ixT (n := k) (ev_var S' rfl) (ev_var S' rfl) rfl (st_at hk)) (line_ge ?_)
      simp only [List.length_append, List.length_singleton]
      omega
    · rw [← zip_range nm ws h1, List.map_map]
      rfl
    · have := showW_len nm ws h2 h3
      rw [tSp]
      rw [List.length_map, List.length_zip]
      simp only [List.length_singleton]
      omega
    · intro v H1 x1 r1
      refine q v H1 x1 ?_
      rw [tSp] at r1
      exact r1
/-- what the script builds -/
def spAns (K : PySem.W.Frag) : Sp := fun vs H Q _ => ∃ (a : Addr) (xs : List Int), vs = [.ref a] ∧ SqL K H a (xs.map V.int) ∧ xs.length ≤ 63 ∧ ∀ v H' s ws, Same H H' → Gw s ws → Gw (s.map swp).reverse ws → names (s.map swp).reverse = names s → R K H' v (.tup [sysD s, .tx (names s), stD ws]) → Q v H'
/-- a law kept -/
def spLaw (K : PySem.W.Frag) : Sp := fun vs H Q _ => ∃ (a : Addr) (xs : List Int), vs = [.ref a] ∧ SqL K H a (xs.map V.int) ∧ xs.length ≤ 63 ∧ ∀ H', Same H H' → Q (.bl true) H'
theorem eD_asc {s : Sys} (h : CkS s) : ∀ e ∈ s, ∀ l ∈ [e.1, e.2], Asc l := fun e he l hl => by
  obtain ⟨a, b⟩ := h.sd e he
  simp only [List.mem_cons, List.not_mem_nil, or_false] at hl
  rcases hl with rfl | rfl
  · exact a.asc
  · exact b.asc
theorem ok_law {f : Addr} {fd : FuncData} (F : Fun K "law" "law" s_law f fd) (T : Txt mg tS tU tE tL tN) (C__law_answered : Cal P w K mg base 4 "_law_answered" ["_law_script"] (spAns K)) (C_read_system : Cal P w K mg base 4 "read_system" ["text"] (spD K pReadS)) (C__law_written : Cal P w K mg base 1 "_law_written" ["_law_names_here", "_law_words"] (spD K pShowW))
    (C__law_there_and_back : Cal P w K mg base 7 "_law_there_and_back" ["_law_system", "_law_text"] (spD K pThere)) (C_turned : Cal P w K mg base 1 "turned" ["system"] (spD K pTurned)) : FnOk P w K mg base CX0 8 f fd ["_law_script"] (spLaw K) := by
  refine F.ok sc_law (fun vs H Q E h => ?_) (fun cdv A outer s H vs Q E hr h => ?_)
  · obtain ⟨a, xs, rfl, _⟩ := h
    rfl
  · obtain ⟨a, xs, rfl, hx, hl, q⟩ := h
    have S0 : Sl K H (start ["_law_script", "_law_written_here", "_law_told", "_law_text", "_law_system", "_law_names_here", "_law_words", "_law_left_here", "_law_right"] [.ref a]) [some (.raw (.ref a)), none, none, none, none, none, none, none, none] := Sl.start (.one (.raw _))
    refine ⟨_, (pss_cons (ps_asg (pe_cal C__law_answered (hr.mono (by decide)) (by rfl) (pa_cons (pv 0) pa_nil)) (pg_tup rfl (pgs_cons (pg_name (i := 4) sc_law.nd rfl (.inl rfl)) (pgs_cons (pg_name (i := 5) sc_law.nd rfl (.inl rfl)) (pgs_cons (pg_name (i := 6) sc_law.nd rfl (.inl rfl)) (pgs_nil))))))
    (pss_cons (ps_set (i := 1) sc_law.nd rfl (.inl rfl) (pe_m1 PySem.F.slot_str_join PySem.F.type_str_join (mt_joinK (K := K)) pe_str (pe_lc (own := [("_law_left_here", 7), ("_law_right", 8)]) (g := gTup K 2 (gCons (gName 7) (gCons (gName 8) (gNil)))) (by rfl) sc_law.nd (pi_tup (pv 4)) (blkOk_by (own := [("_law_left_here", 7), ("_law_right", 8)]) (N := ["_law_script", "_law_written_here", "_law_told", "_law_text", "_law_system", "_law_names_here", "_law_words", "_law_left_here", "_law_right"]) (sc := defScope s_law) (by decide +kernel)) (fun _ _ _ _ _ => pg_tup rfl (pgs_cons (pg_name (i := 7) sc_law.nd rfl (Or.inl rfl)) (pgs_cons (pg_name (i := 8) sc_law.nd rfl (Or.inl rfl)) (pgs_nil)))) (fun _ _ _ _ _ => pts_nil) (fun _ _ _ _ _ => (pe_op op_addS (pe_op op_addS (pv 7) pe_str) (pv 8))))))
    (pss_cons (ps_set (i := 2) sc_law.nd rfl (.inl rfl) (pe_cal C_read_system (hr.mono (by decide)) (by rfl) (pa_cons (pv 1) pa_nil)))
    (pss_cons (ps_set (i := 3) sc_law.nd rfl (.inl rfl) (pe_cal C__law_written (hr.mono (by decide)) (by rfl) (pa_cons (pv 5) (pa_cons (pv 6) pa_nil))))
    (pss_cons (ps_if (PW.pt (pw_or (pt_cmpR (op_neDK (K := K) hr) (pv 2) (pv 4) (nomark _)) (pw_or1 (pt_not (pt_val (pe_cal C__law_there_and_back (hr.mono (by decide)) (by rfl) (pa_cons (pv 2) (pa_cons (pv 3) pa_nil))))))))
    (pss_one (ps_ret pe_bl))
    pss_nil)
    (pss_one (ps_ret (pe_cal C__law_there_and_back (hr.mono (by decide)) (by rfl) (pa_cons (pe_revT (pe_cal C_turned (hr.mono (by decide)) (by rfl) (pa_cons (pv 2) pa_nil))) (pa_cons (pv 3) pa_nil)))))))))), ?_⟩
    refine ev_var S0 rfl H (Same.refl _) _ fun v H0 x0 rv => ?_
    cases rv
    refine ⟨a, xs, rfl, x0.seq hx, hl, fun v H1 y ws x1 gw gw2 hnm r1 => ?_⟩
    refine gd_three v _ _ H1 _ r1 (S0.mono (Tp.of (x0.trans x1))) fun σ1 S1 => ?_
    have ck := gw.ck
    have hy := ck.hi
    have S1 : Sl K H1 σ1 [some (.raw (.ref a)), none, none, none, some (.tup (y.map eD)), some (.tx (names y)), some (.tup (ws.map D.tx)), none, none] := S1
    have jz : ((y.map showE).map List.length).sum + (y.map showE).length * (tl (Str.ofString "; ")).length ≤ 16777216 := by
      have h2 := sum_le (b := 81) (ls := y.map showE) fun l hl => by
        obtain ⟨e, he, rfl⟩ := List.mem_map.mp hl
        have := ck.side e he
        unfold showE
        simp only [List.length_append, List.length_singleton]
        omega
      rw [tSe]
      rw [List.length_map] at h2 ⊢
      show _ + _ * 2 ≤ _
      omega
    dsimp only
    refine st_set S1 (EvD.to (e := .tx (showS y)) (ev_join (ls := y.map showE) ev_str (EvL.to (el_map (xs := y) (enc := eD) (f := fun e => .tx (showE e)) (fs := fun e ss => (ss.set 7 (some (.tx e.1))).set 8 (some (.tx e.2))) S1 (it_tup (ev_var S1 rfl)).same (fun e _ => go_pair) (by omega) fun e he σ' H' x S' => ?_) (by rw [List.map_map]; rfl)) jz) (by rw [tSe]; rfl)) fun σ2 H2 x2 S2 => ?_
    · obtain ⟨h1, h2⟩ := ck.side e he
      refine ev_addS (ev_addS (ev_var S' rfl) (EvD.to (e := .tx [61]) ev_str (by rw [tEq])) (line_ge (by show _ + 1 ≤ _; omega))) (ev_var S' rfl) (line_ge ?_)
      simp only [List.length_append, List.length_singleton]
      omega
    · dsimp only
      refine st_set S2 (ev_call (P := pReadS) (eva_cons (ev_var S2 rfl) eva_nil) ⟨y, rfl, ck, rfl⟩) fun σ3 H3 x3 S3 => ?_
      dsimp only
      refine st_set S3 (ev_call (P := pShowW) (eva_cons (ev_var S3 rfl) (eva_cons (ev_var S3 rfl) eva_nil)) ⟨names y, ws, rfl, gw.len, by have := names_le y; omega, fun w hw => by have := (gw.wd w hw).2; omega, rfl⟩) fun σ4 H4 x4 S4 => ?_
      dsimp only
      have hsys : D.tup (y.map eD) = .tup ((y.map fun e : Eqn => [e.1, e.2]).map stD) := by
        rw [List.map_map]
        rfl
      have hasc : ∀ ws ∈ y.map (fun e : Eqn => [e.1, e.2]), ∀ l ∈ ws, Asc l := fun ws hws => by
        obtain ⟨e, he, rfl⟩ := List.mem_map.mp hws
        exact eD_asc ck e he
      have hb : (!decide (y.map (fun e : Eqn => [e.1, e.2]) = y.map fun e : Eqn => [e.1, e.2]) || !true) = false := by simp
      refine st_no (EvT.to (et_or (et_test (ev_neTs (a := y.map fun e : Eqn => [e.1, e.2]) (b := y.map fun e : Eqn => [e.1, e.2]) (EvD.to (ev_var S4 rfl) hsys) (EvD.to (ev_var S4 rfl) hsys) hasc hasc)) fun _ => et_not (et_B (ev_call (P := pThere) (eva_cons (ev_var S4 rfl) (eva_cons (ev_var S4 rfl) eva_nil)) ⟨y, ws, rfl, gw, rfl⟩))) hb) fun H5 x5 => ?_
      have S5 := S4.mono (Tp.of (K := K) x5)
      have hrev : D.tup ((y.map swp).map eD).reverse = sysD (y.map swp).reverse := by
        show _ = D.tup _
        rw [List.map_reverse]
      refine st_ret (ev_call (P := pThere) (eva_cons (EvD.to (ev_revT (ev_call (P := pTurned) (eva_cons (ev_var S5 rfl) eva_nil) ⟨y, rfl, by omega, rfl⟩)) hrev) (eva_cons (ev_var S5 rfl) eva_nil)) ⟨(y.map swp).reverse, ws, by rw [hnm], gw2, rfl⟩) fun v H6 x6 r6 => ?_
      cases r6
      exact q H6 ((((((x0.trans x1).trans x2).trans x3).trans x4).trans x5).trans x6)
end
end GW

set_option Elab.async false
set_option linter.all false
set_option maxRecDepth 100000
set_option maxHeartbeats 4000000
/-! The plain law: sums; rooms. -/
namespace GW
open PySem PySem.Spec L2 TL PyProof.Rows
/-! ### fillings -/
theorem wd_in {nm : List Nat} {ws : Wds} {c : Nat} (h : c ∈ nm) : wd nm ws c = ws.getD (nm.idxOf c) [] := if_pos h
theorem wd_out {nm : List Nat} {ws : Wds} {c : Nat} (h : c ∉ nm) : wd nm ws c = [c] := if_neg h
theorem wd_mem {nm : List Nat} {ws : Wds} {c : Nat} (h : c ∈ nm) (hl : ws.length = nm.length) : wd nm ws c ∈ ws := by
  rw [wd_in h]
  exact getD_mem (by rw [hl]; exact List.idxOf_lt_length_of_mem h)
theorem fill_len {nm : List Nat} {ws : Wds} (hl : ws.length = nm.length) (hw : ∀ w ∈ ws, w.length ≤ 9) (l : List Nat) : (fill nm ws l).length ≤ 9 * l.length := by
  induction l with
  | nil => exact Nat.zero_le _
  | cons c l ih =>
    rw [fill_cons, List.length_append, List.length_cons]
    have h : (wd nm ws c).length ≤ 9 := by
      by_cases m : c ∈ nm
      · exact hw _ (wd_mem m hl)
      · rw [wd_out m]
        show 1 ≤ 9
        omega
    omega
/-! ### sums -/
def dot : List Int → List Int → Int
  | c :: cs, n :: ns => c * n + dot cs ns
  | _, _ => 0
theorem dot_le : ∀ (cs ns : List Int) (t : Int), (∀ n ∈ ns, 0 ≤ n) → (∀ c ∈ cs, t * c ≤ 0) → t * dot cs ns ≤ 0
  | [], ns, t, _, _ => by
    show t * 0 ≤ 0
    simp
  | _ :: _, [], t, _, _ => by
    show t * 0 ≤ 0
    simp
  | c :: cs, n :: ns, t, hn, hc => by
    have ih := dot_le cs ns t (fun m h => hn m (List.mem_cons_of_mem _ h)) fun m h => hc m (List.mem_cons_of_mem _ h)
    have h1 := hn n List.mem_cons_self
    have h2 := hc c List.mem_cons_self
    show t * (c * n + dot cs ns) ≤ 0
    have h3 : t * c * n ≤ 0 := Int.mul_nonpos_of_nonpos_of_nonneg h2 h1
    have e : t * (c * n + dot cs ns) = t * c * n + t * dot cs ns := by rw [Int.mul_add, Int.mul_assoc]
    rw [e]
    omega
theorem dot_even : ∀ (cs ns : List Int), (∀ c ∈ cs, c % 2 = 0) → dot cs ns % 2 = 0
  | [], ns, _ => rfl
  | _ :: _, [], _ => rfl
  | c :: cs, n :: ns, hc => by
    have ih := dot_even cs ns fun m h => hc m (List.mem_cons_of_mem _ h)
    have h2 := hc c List.mem_cons_self
    show (c * n + dot cs ns) % 2 = 0
    have h3 : c * n % 2 = 0 := by rw [Int.mul_emod, h2, Int.zero_mul]; rfl
    omega
theorem cb_dot {cs ns : List Int} {a : Int} (hn : ∀ n ∈ ns, 0 ≤ n) (h : dot cs ns = a) : CB cs a := by
  by_cases h0 : a = 0
  · exact .inl h0
  · refine .inr ⟨?_, ?_⟩
    · by_cases hh : (cs.any fun c => decide (0 < trn a * c)) = true
      · exact hh
      · exfalso
        have hc : ∀ c ∈ cs, trn a * c ≤ 0 := fun c hm => by
          have : ¬ decide (0 < trn a * c) = true := fun z => hh (List.any_eq_true.mpr ⟨c, hm, z⟩)
          have := of_decide_eq_false (Bool.eq_false_iff.mpr this)
          omega
        have h1 := dot_le cs ns (trn a) hn hc
        rw [h] at h1
        unfold trn at h1
        by_cases hneg : a < 0
        · rw [if_pos hneg] at h1
          omega
        · rw [if_neg hneg] at h1
          omega
    · by_cases hh : (cs.any fun c => decide (c % 2 = 1)) = true
      · rw [hh, Bool.or_true]
      · have hc : ∀ c ∈ cs, c % 2 = 0 := fun c hm => by
          have : ¬ decide (c % 2 = 1) = true := fun z => hh (List.any_eq_true.mpr ⟨c, hm, z⟩)
          have := of_decide_eq_false (Bool.eq_false_iff.mpr this)
          omega
        have := dot_even cs ns hc
        rw [h] at this
        rw [decide_eq_true this]
        rfl
theorem dot_map {al : Type} (f g : al → Int) (xs : List al) : dot (xs.map f) (xs.map g) = (xs.map fun x => f x * g x).sum := by
  induction xs with
  | nil => rfl
  | cons x xs ih =>
    show f x * g x + dot (xs.map f) (xs.map g) = _
    rw [ih, List.map_cons, List.sum_cons]
/-- how often a sign stands in a filling -/
theorem count_fill {nm : List Nat} {ws : Wds} {g : Nat} (nd : nm.Nodup) (hg : g ∉ nm) (l : List Nat) : ((fill nm ws l).count g : Int) = (l.count g : Int) + (nm.map fun x => (l.count x : Int) * ((wd nm ws x).count g : Int)).sum := by
  have zero : ∀ (xs : List Nat) (f : Nat → Int), (∀ x ∈ xs, f x = 0) → (xs.map f).sum = 0 := by
    intro xs f
    induction xs with
    | nil => exact fun _ => rfl
    | cons x xs ih =>
      intro h
      rw [List.map_cons, List.sum_cons, h x List.mem_cons_self, ih fun y hy => h y (List.mem_cons_of_mem _ hy)]
      rfl
  have one : ∀ (xs : List Nat) (c : Nat) (f h : Nat → Int), xs.Nodup → c ∈ xs → (∀ x, f x = (if x = c then h x else 0)) → (xs.map f).sum = h c := by
    intro xs c f h
    induction xs with
    | nil => intro _ m; cases m
    | cons x xs ih =>
      intro nd m hf
      rw [List.map_cons, List.sum_cons]
      have nd2 := List.nodup_cons.mp nd
      by_cases e : x = c
      · subst e
        rw [zero xs f fun y hy => by rw [hf, if_neg]; rintro rfl; exact nd2.1 hy, hf, if_pos rfl, Int.add_zero]
      · rw [ih nd2.2 ((List.mem_cons.mp m).resolve_left (Ne.symm e)) hf, hf, if_neg e, Int.zero_add]
  have addl : ∀ (xs : List Nat) (f h : Nat → Int), (xs.map fun x => f x + h x).sum = (xs.map f).sum + (xs.map h).sum := by
    intro xs f h
    induction xs with
    | nil => rfl
    | cons x xs ih =>
      simp only [List.map_cons, List.sum_cons]
      rw [ih]
      omega
  induction l with
  | nil =>
    rw [zero _ _ fun x _ => by simp]
    rfl
  | cons c l ih =>
    rw [fill_cons, List.count_append]
    have ec : ∀ x, ((c :: l).count x : Int) = (l.count x : Int) + if x = c then 1 else 0 := fun x => by
      rw [List.count_cons]
      by_cases e : c = x
      · subst e
        simp
      · have e2 : ¬ x = c := fun z => e z.symm
        simp [e, e2]
    have esum : (nm.map fun x => ((c :: l).count x : Int) * ((wd nm ws x).count g : Int)).sum = (nm.map fun x => (l.count x : Int) * ((wd nm ws x).count g : Int)).sum + (nm.map fun x => (if x = c then ((wd nm ws x).count g : Int) else 0)).sum := by
      rw [← addl]
      congr 1
      refine List.map_congr_left fun x _ => ?_
      rw [ec, Int.add_mul]
      by_cases e : x = c
      · rw [if_pos e, if_pos e, Int.one_mul]
      · rw [if_neg e, if_neg e, Int.zero_mul]
    rw [esum, ec g]
    by_cases m : c ∈ nm
    · have hgc : ¬ g = c := fun e => hg (e ▸ m)
      rw [one nm c _ (fun x => ((wd nm ws x).count g : Int)) nd m fun x => rfl, if_neg hgc]
      push_cast
      omega
    · rw [zero nm (fun x => if x = c then ((wd nm ws x).count g : Int) else 0) fun x hx => if_neg fun (e : x = c) => m (e ▸ hx), wd_out m]
      have e1 : (([c] : List Nat).count g : Int) = if g = c then 1 else 0 := by
        have := ec g
        rw [List.count_singleton]
        by_cases e : c = g
        · subst e
          simp
        · have e2 : ¬ g = c := fun z => e z.symm
          simp [e, e2]
      push_cast
      rw [e1]
      omega
theorem sub_sum (xs : List Nat) (f h k : Nat → Int) : (xs.map fun x => (f x - h x) * k x).sum = (xs.map fun x => f x * k x).sum - (xs.map fun x => h x * k x).sum := by
  induction xs with
  | nil => rfl
  | cons x xs ih =>
    simp only [List.map_cons, List.sum_cons]
    rw [ih, Int.sub_mul]
    omega
theorem names_nodup (s : Sys) : (names s).Nodup := by
  unfold names
  rw [uns_eq]
  exact List.Nodup.sublist List.filter_sublist List.nodup_range'
theorem cb_ok {s : Sys} {ws : Wds} (ans : Ans (names s) ws s) {e : Eqn} (he : e ∈ s) {g : Nat} (hg : g ∈ signs s) : CB (coefs s e) (amt e g) := by
  have hgs : g ∈ sgs := (List.mem_filter.mp hg).1
  have hn : g ∉ names s := fun h => by
    have h1 := mem_uns.mp (names_in s g h)
    have h2 := mem_sgs.mp hgs
    omega
  refine cb_dot (ns := (names s).map fun x => ((wd (names s) ws x).count g : Int)) (fun n hn => ?_) ?_
  · obtain ⟨x, _, rfl⟩ := List.mem_map.mp hn
    exact Int.natCast_nonneg _
  · have h1 := count_fill (ws := ws) (names_nodup s) hn e.1
    have h2 := count_fill (ws := ws) (names_nodup s) hn e.2
    rw [ans e he] at h1
    unfold coefs
    rw [dot_map]
    have e3 : ((names s).map fun x => ((e.1.count x : Int) - (e.2.count x : Int)) * ((wd (names s) ws x).count g : Int)).sum = ((names s).map fun x => (e.1.count x : Int) * ((wd (names s) ws x).count g : Int)).sum - ((names s).map fun x => (e.2.count x : Int) * ((wd (names s) ws x).count g : Int)).sum := by
      exact sub_sum _ _ _ _
    rw [e3]
    unfold amt
    omega
end GW

set_option Elab.async false
set_option linter.all false
set_option maxRecDepth 100000
set_option maxHeartbeats 4000000
/-! The plain law: rooms keep what they have; the way. -/
namespace GW
open PySem PySem.Spec L2 TL PyProof.Rows
theorem sg_un {c : Nat} (h : c ∈ sgs) (h2 : c ∈ uns) : False := by
  have h1 := mem_uns.mp h2
  have h2 := mem_sgs.mp h
  omega
/-! ### stripping -/
theorem strip1_heads : ∀ {l r a b : List Nat} {x y : Nat}, strip1 l r = (x :: a, y :: b) → x ≠ y
  | [], r, a, b, x, y, h => by
    have h : (([] : List Nat), r) = (x :: a, y :: b) := h
    cases h
  | z :: l, [], a, b, x, y, h => by
    have h : ((z :: l), ([] : List Nat)) = (x :: a, y :: b) := h
    cases h
  | z :: l, u :: r, a, b, x, y, h => by
    by_cases e : z = u
    · rw [strip1, if_pos e] at h
      exact strip1_heads h
    · rw [strip1, if_neg e] at h
      cases h
      exact e
theorem strip1_count (l r : List Nat) (c : Nat) : ((strip1 l r).1 ++ (strip1 l r).2).count c ≤ (l ++ r).count c := by
  obtain ⟨p, e1, e2⟩ := strip1_suf l r
  have h1 := congrArg (List.count c) e1
  have h2 := congrArg (List.count c) e2
  simp only [List.count_append] at h1 h2 ⊢
  omega
theorem strip1_len (l r : List Nat) : ((strip1 l r).1 ++ (strip1 l r).2).length ≤ (l ++ r).length := by
  obtain ⟨p, e1, e2⟩ := strip1_suf l r
  have h1 := congrArg List.length e1
  have h2 := congrArg List.length e2
  simp only [List.length_append] at h1 h2 ⊢
  omega
theorem letters_strip (s : Sys) : letters (strip s) = letters (s.map stripE) := by
  unfold strip
  generalize s.map stripE = t
  induction t with
  | nil => rfl
  | cons e t ih =>
    rw [List.filter_cons]
    by_cases h : e = ([], [])
    · subst h
      simp only [decide_true, Bool.not_true, Bool.false_eq_true, if_false]
      rw [ih, letters_cons]
      rfl
    · rw [decide_eq_false h]
      simp only [Bool.not_false, if_true]
      rw [letters_cons, letters_cons, ih]
theorem strip_count (s : Sys) (c : Nat) : (letters (strip s)).count c ≤ (letters s).count c := by
  rw [letters_strip]
  induction s with
  | nil => exact Nat.le_refl _
  | cons e s ih =>
    rw [List.map_cons, letters_cons, letters_cons]
    have := strip1_count e.1 e.2 c
    simp only [List.count_append] at this ih ⊢
    show (strip1 e.1 e.2).1.count c + (strip1 e.1 e.2).2.count c + _ ≤ _
    omega
theorem strip_len (s : Sys) : (letters (strip s)).length ≤ (letters s).length := by
  rw [letters_strip]
  induction s with
  | nil => exact Nat.le_refl _
  | cons e s ih =>
    rw [List.map_cons, letters_cons, letters_cons]
    have := strip1_len e.1 e.2
    simp only [List.length_append] at this ih ⊢
    show (strip1 e.1 e.2).1.length + (strip1 e.1 e.2).2.length + _ ≤ _
    omega
/-- where the first equation's sides begin alike -/
theorem strip_first {s : Sys} {z : Nat} {l r : List Nat} : (∀ c, (letters (strip ((z :: l, z :: r) :: s))).count c + (if c = z then 2 else 0) ≤ (letters ((z :: l, z :: r) :: s)).count c) ∧ (letters (strip ((z :: l, z :: r) :: s))).length + 2 ≤ (letters ((z :: l, z :: r) :: s)).length := by
  have e : letters (strip ((z :: l, z :: r) :: s)) = letters (strip ((l, r) :: s)) := by
    rw [letters_strip, letters_strip, List.map_cons, List.map_cons, letters_cons, letters_cons]
    have : stripE (z :: l, z :: r) = stripE (l, r) := by
      show strip1 (z :: l) (z :: r) = strip1 l r
      rw [strip1, if_pos rfl]
    rw [this]
  rw [e]
  refine ⟨fun c => ?_, ?_⟩
  · have := strip_count ((l, r) :: s) c
    rw [letters_cons] at this ⊢
    by_cases h : c = z
    · subst h
      rw [if_pos rfl]
      simp only [List.count_append, List.count_cons_self] at this ⊢
      omega
    · have h2 : ∀ m : List Nat, (z :: m).count c = m.count c := fun m => List.count_cons_of_ne (fun e => h e.symm)
      rw [if_neg h]
      simp only [List.count_append, h2] at this ⊢
      omega
  · have := strip_len ((l, r) :: s)
    rw [letters_cons] at this ⊢
    simp only [List.length_append, List.length_cons] at this ⊢
    omega
/-! ### putting -/
theorem repl1_count {x c : Nat} (z l : List Nat) : (repl1 x z l).count c + (if c = x then l.count x else 0) = l.count c + z.count c * l.count x := by
  induction l with
  | nil => simp [repl1_nil]
  | cons d l ih =>
    rw [repl1_cons, List.count_append]
    by_cases h : d = x
    · subst h
      rw [if_pos rfl, List.count_cons_self, Nat.mul_add, Nat.mul_one]
      by_cases e : c = d
      · subst e
        rw [if_pos rfl] at ih ⊢
        rw [List.count_cons_self]
        omega
      · have h2 : (d :: l).count c = l.count c := List.count_cons_of_ne (fun z => e z.symm)
        rw [if_neg e] at ih ⊢
        rw [h2]
        omega
    · have h2 : (d :: l).count x = l.count x := List.count_cons_of_ne h
      rw [if_neg h, h2]
      by_cases e : c = d
      · subst e
        rw [if_neg h] at ih ⊢
        have h5 : ([c] : List Nat).count c = 1 := by simp
        rw [h5, List.count_cons_self]
        omega
      · have h3 : (d :: l).count c = l.count c := List.count_cons_of_ne (fun z => e z.symm)
        have h4 : ([d] : List Nat).count c = 0 := List.count_eq_zero_of_not_mem (by simpa using e)
        rw [h3, h4]
        omega
theorem repl1_length {x : Nat} (z l : List Nat) : (repl1 x z l).length + l.count x = l.length + z.length * l.count x := by
  induction l with
  | nil => simp [repl1_nil]
  | cons d l ih =>
    rw [repl1_cons, List.length_append, List.length_cons]
    by_cases h : d = x
    · subst h
      rw [if_pos rfl, List.count_cons_self, Nat.mul_add, Nat.mul_one]
      omega
    · have h2 : (d :: l).count x = l.count x := List.count_cons_of_ne h
      rw [if_neg h, h2, List.length_singleton]
      omega
theorem letters_put (t : Step) (s : Sys) : letters (s.map (substE t)) = repl1 t.x (putW t) (letters s) := by
  induction s with
  | nil => rfl
  | cons e s ih =>
    rw [List.map_cons, letters_cons, letters_cons, ih]
    unfold repl1 substE
    simp only [repl1, List.flatMap_append]
/-! ### the room's own -/
structure RI (r : Room') (ws : Wds) : Prop where
  cnt : r.2.length ≤ 6
  sd : ∀ e ∈ r.2, Sd e.1 ∧ Sd e.2
  ne : NE r.2
  hd : ∀ x a y b, (x :: a, y :: b) ∈ r.2 → x ≠ y
  nd : r.1.Nodup
  nu : ∀ c ∈ r.1, c ∈ uns
  nl : r.1.length ≤ 6
  sub : ∀ c ∈ letters r.2, c ∈ uns → c ∈ r.1
  two : ∀ c ∈ uns, (letters r.2).count c ≤ 2
  forty : (letters r.2).length ≤ 40
  len : ws.length = r.1.length
  wl : ∀ w ∈ ws, Wd w ∧ w.length ≤ 9
  ans : ∀ e ∈ r.2, fill r.1 ws e.1 = fill r.1 ws e.2
theorem strip_hd {s : Sys} {x y : Nat} {a b : List Nat} (h : (x :: a, y :: b) ∈ strip s) : x ≠ y := by
  obtain ⟨e, _, h2⟩ := List.mem_map.mp (List.mem_filter.mp h).1
  exact strip1_heads h2
theorem strip_ne (s : Sys) : NE (strip s) := fun e h => by
  have := (List.mem_filter.mp h).2
  simpa using this
theorem strip_sd {s : Sys} (h : ∀ e ∈ s, Sd e.1 ∧ Sd e.2) : ∀ e ∈ strip s, Sd e.1 ∧ Sd e.2 := fun e he => by
  obtain ⟨e0, h0, rfl⟩ := List.mem_map.mp (List.mem_filter.mp he).1
  obtain ⟨a, b⟩ := h e0 h0
  obtain ⟨x, y, _⟩ := strip1_ok a b
  exact ⟨x, y⟩
theorem strip_ans {nm : List Nat} {ws : Wds} {s : Sys} (h : ∀ e ∈ s, fill nm ws e.1 = fill nm ws e.2) : ∀ e ∈ strip s, fill nm ws e.1 = fill nm ws e.2 := fun e he => by
  obtain ⟨e0, h0, rfl⟩ := List.mem_map.mp (List.mem_filter.mp he).1
  obtain ⟨p, e1, e2⟩ := strip1_suf e0.1 e0.2
  have h3 := h e0 h0
  have h1 := congrArg (fill nm ws) e1
  have h2 := congrArg (fill nm ws) e2
  rw [fill_app] at h1 h2
  exact List.append_cancel_left (h1.symm.trans (h3.trans h2))
theorem strip_cnt (s : Sys) : (strip s).length ≤ s.length := by
  unfold strip
  refine Nat.le_trans (List.length_filter_le _ _) ?_
  rw [List.length_map]
  exact Nat.le_refl _
theorem strip_mem {s : Sys} {c : Nat} (h : c ∈ letters (strip s)) : c ∈ letters s := by
  have := strip_count s c
  exact List.count_pos_iff.mp (Nat.lt_of_lt_of_le (List.count_pos_iff.mpr h) this)
theorem ri_first {s : Sys} {ws : Wds} (ck : CkS s) (len : ws.length = (names s).length) (wl : ∀ w ∈ ws, Wd w ∧ w.length ≤ 9) (ans : Ans (names s) ws s) : RI (names s, strip s) ws where
  cnt := Nat.le_trans (strip_cnt s) ck.hi
  sd := strip_sd ck.sd
  ne := strip_ne s
  hd := fun x a y b h => strip_hd h
  nd := names_nodup s
  nu := names_in s
  nl := ck.six
  sub := fun c h hu => List.mem_filter.mpr ⟨hu, decide_eq_true (strip_mem h)⟩
  two := fun c h => Nat.le_trans (strip_count s c) (ck.two c h)
  forty := Nat.le_trans (strip_len s) ck.forty
  len := len
  wl := wl
  ans := strip_ans ans
section
variable {r : Room'} {ws : Wds}
theorem RI.mem (h : RI r ws) {e : Eqn} (he : e ∈ r.2) {c : Nat} (hc : c ∈ e.1 ∨ c ∈ e.2) (hu : c ∈ uns) : c ∈ r.1 := h.sub c (mem_letters.mpr ⟨e, he, hc⟩) hu
theorem RI.sg (h : RI r ws) {c : Nat} (hc : c ∈ sgs) : wd r.1 ws c = [c] := wd_out fun m => sg_un hc (h.nu c m)
theorem RI.first (h : RI r ws) {x y : Nat} {a b : List Nat} (he : (x :: a, y :: b) ∈ r.2) : ¬ (x ∈ sgs ∧ y ∈ sgs) := fun ⟨hx, hy⟩ => by
  have e := h.ans _ he
  have e : fill r.1 ws (x :: a) = fill r.1 ws (y :: b) := e
  rw [fill_cons, fill_cons, h.sg hx, h.sg hy] at e
  exact h.hd _ _ _ _ he (List.cons.inj e).1
theorem fill_no (h : RI r ws) {l : List Nat} (hl : fill r.1 ws l = []) : ∀ c ∈ l, c ∉ sgs ∧ wd r.1 ws c = [] := by
  induction l with
  | nil => intro c hc; cases hc
  | cons d l ih =>
    rw [fill_cons] at hl
    obtain ⟨h1, h2⟩ := List.append_eq_nil_iff.mp hl
    intro c hc
    rcases List.mem_cons.mp hc with rfl | hc
    · refine ⟨fun m => ?_, h1⟩
      rw [h.sg m] at h1
      cases h1
    · exact ih h2 c hc
theorem RI.one (h : RI r ws) {e : Eqn} (he : e ∈ r.2) (hn : e.1 = [] ∨ e.2 = []) : ∀ c ∈ e.1 ++ e.2, c ∉ sgs ∧ wd r.1 ws c = [] := by
  have ea := h.ans e he
  rcases hn with hn | hn
  · rw [hn, fill_nil] at ea
    rw [hn, List.nil_append]
    exact fill_no h ea.symm
  · rw [hn, fill_nil] at ea
    rw [hn, List.append_nil]
    exact fill_no h ea
theorem RI.alive (h : RI r ws) : dead r.2 = false := by
  refine List.any_eq_false.mpr fun e he => ?_
  obtain ⟨l, s⟩ := e
  cases l with
  | nil =>
    have h1 := h.one he (.inl rfl)
    intro hb
    obtain ⟨c, hc, hd⟩ := List.any_eq_true.mp (show (([] : List Nat) ++ s).any (fun c => decide (c ∈ sgs)) = true from hb)
    exact (h1 c hc).1 (of_decide_eq_true hd)
  | cons x l =>
    cases s with
    | nil =>
      have h1 := h.one he (.inr rfl)
      intro hb
      obtain ⟨c, hc, hd⟩ := List.any_eq_true.mp (show ((x :: l) ++ ([] : List Nat)).any (fun c => decide (c ∈ sgs)) = true from hb)
      exact (h1 c hc).1 (of_decide_eq_true hd)
    | cons y s =>
      intro hb
      have hb : (decide (x ∈ sgs) && decide (y ∈ sgs)) = true := hb
      have := Bool.and_eq_true_iff.mp hb
      exact h.first he ⟨of_decide_eq_true this.1, of_decide_eq_true this.2⟩
theorem RI.stepsIs (h : RI r ws) {e : Eqn} {es : Sys} (hr : r.2 = e :: es) : stepsOf r = stepsE e := by
  have ha := h.alive
  obtain ⟨nm, s⟩ := r
  have hr : s = e :: es := hr
  subst hr
  show (if dead (e :: es) = true then [] else stepsE e) = _
  rw [if_neg]
  rw [show dead (e :: es) = false from ha]
  exact Bool.false_ne_true
/-- what a step of a room is -/
inductive Kd (nm : List Nat) : Step → Prop
  | none {x : Nat} : x ∈ nm → Kd nm (.none x)
  | sign {x a : Nat} : x ∈ nm → a ∈ sgs → Kd nm (.sign x a)
  | over {x y : Nat} : x ∈ nm → y ∈ nm → x ≠ y → Kd nm (.over x y)
theorem sd_un {c : Nat} (h : c ∈ sgs ∨ c ∈ uns) (n : c ∉ sgs) : c ∈ uns := h.resolve_left n
theorem RI.kd (h : RI r ws) {t : Step} (ht : t ∈ stepsOf r) : Kd r.1 t := by
  cases hr : r.2 with
  | nil =>
    obtain ⟨nm, s⟩ := r
    have hr : s = [] := hr
    subst hr
    cases ht
  | cons e es =>
    rw [h.stepsIs hr] at ht
    have he : e ∈ r.2 := by
      rw [hr]
      exact List.mem_cons_self
    obtain ⟨sd1, sd2⟩ := h.sd e he
    obtain ⟨l, s⟩ := e
    have one : ∀ c m, l ++ s = c :: m → (l = [] ∨ s = []) → Kd r.1 (.none c) := fun c m ec hn => by
      have hc : c ∈ l ++ s := ec ▸ List.mem_cons_self
      have h1 := (h.one he hn c hc).1
      have hm : c ∈ l ∨ c ∈ s := List.mem_append.mp hc
      exact .none (h.mem he hm (sd_un (hm.elim (sd1 c) (sd2 c)) h1))
    cases l with
    | nil =>
      cases s with
      | nil => cases ht
      | cons y s =>
        have ht : t ∈ [Step.none y] := ht
        rw [List.mem_singleton.mp ht]
        exact one y s rfl (.inl rfl)
    | cons x l =>
      cases s with
      | nil =>
        have ht : t ∈ [Step.none x] := by
          revert ht
          unfold stepsE
          simp only [List.append_nil, List.cons_append]
          exact id
        rw [List.mem_singleton.mp ht]
        exact one x l (by simp) (.inr rfl)
      | cons y s =>
        have ht : t ∈ stepsBy x y := ht
        have hno := h.first he
        have hxy := h.hd _ _ _ _ he
        have un1 : x ∉ sgs → x ∈ r.1 := fun n => h.mem he (.inl List.mem_cons_self) (sd_un (sd1 x List.mem_cons_self) n)
        have un2 : y ∉ sgs → y ∈ r.1 := fun n => h.mem he (.inr List.mem_cons_self) (sd_un (sd2 y List.mem_cons_self) n)
        unfold stepsBy at ht
        by_cases h1 : y ∈ sgs
        · rw [if_pos h1] at ht
          have hx := un1 fun z => hno ⟨z, h1⟩
          simp only [List.mem_cons, List.not_mem_nil, or_false] at ht
          rcases ht with rfl | rfl
          · exact .none hx
          · exact .sign hx h1
        · rw [if_neg h1] at ht
          by_cases h2 : x ∈ sgs
          · rw [if_pos h2] at ht
            simp only [List.mem_cons, List.not_mem_nil, or_false] at ht
            rcases ht with rfl | rfl
            · exact .none (un2 h1)
            · exact .sign (un2 h1) h2
          · rw [if_neg h2] at ht
            simp only [List.mem_cons, List.not_mem_nil, or_false] at ht
            rcases ht with rfl | rfl | rfl | rfl
            · exact .none (un1 h2)
            · exact .none (un2 h1)
            · exact .over (un1 h2) (un2 h1) hxy
            · exact .over (un2 h1) (un1 h2) (Ne.symm hxy)
theorem RI.pg (h : RI r ws) : PG r ws where
  ok := ⟨by have := h.cnt; omega, fun e he => ⟨(h.sd e he).1, (h.sd e he).2, by have := len_mem he; have := h.forty; omega, by have := len_mem he; have := h.forty; omega⟩⟩
  ne := h.ne
  sm := fun e he => by
    have := len_mem he
    have := h.forty
    omega
  nm := by have := h.nl; omega
  nm26 := fun t ht => by
    cases h.kd ht with
    | none a => exact a
    | sign a _ => exact a
    | over a b _ => exact ⟨a, b⟩
  dif := fun x y ht => by
    cases h.kd ht with
    | over a b c => exact c
  len := h.len
  wl := fun w hw => by have := (h.wl w hw).2; omega
end
end GW

set_option Elab.async false
set_option linter.all false
set_option maxRecDepth 100000
set_option maxHeartbeats 4000000
/-! The plain law: the way. -/
namespace GW
open PySem PySem.Spec L2 TL PyProof.Rows
/-! ### a step is found -/
def nx (nm : List Nat) (ws : Wds) (ts : List Step) : Option (Step × Wds) := ts.findSome? fun t => (onW nm t ws).map fun b => (t, b)
theorem nx_some {nm : List Nat} {ws : Wds} {t : Step} {ts : List Step} {b : Wds} (h : onW nm t ws = some b) : nx nm ws (t :: ts) = some (t, b) := by
  unfold nx
  rw [List.findSome?_cons, h]
  rfl
theorem nx_none {nm : List Nat} {ws : Wds} {t : Step} {ts : List Step} (h : onW nm t ws = none) : nx nm ws (t :: ts) = nx nm ws ts := by
  unfold nx
  rw [List.findSome?_cons, h]
  rfl
section
variable {nm : List Nat} {ws : Wds}
theorem on_none {x : Nat} (hx : x ∈ nm) : (wd nm ws x = [] → ∃ b, onW nm (.none x) ws = some b) ∧ (wd nm ws x ≠ [] → onW nm (.none x) ws = none) := by
  rw [wd_in hx]
  exact ⟨fun h => ⟨_, if_pos h⟩, fun h => if_neg h⟩
theorem on_sign {x a : Nat} (hx : x ∈ nm) (h : (wd nm ws x).take 1 = [a]) : ∃ b, onW nm (.sign x a) ws = some b := by
  rw [wd_in hx] at h
  exact ⟨_, if_pos h⟩
theorem on_over {x y : Nat} (hx : x ∈ nm) (hy : y ∈ nm) (h : (wd nm ws x).take (wd nm ws y).length = wd nm ws y) : ∃ b, onW nm (.over x y) ws = some b := by
  rw [wd_in hx, wd_in hy] at h
  exact ⟨_, if_pos h⟩
end
theorem take_pre {a b c d : List Nat} (h : a ++ b = c ++ d) (hl : c.length ≤ a.length) : a.take c.length = c := by
  have := congrArg (List.take c.length) h
  rw [List.take_left, List.take_append_of_le_length hl] at this
  exact this
theorem RI.next {r : Room'} {ws : Wds} (h : RI r ws) {e : Eqn} {es : Sys} (hr : r.2 = e :: es) : ∃ t b, nextR r ws = some (t, b) ∧ ∀ x y, t = .over x y → wd r.1 ws y ≠ [] := by
  have he : e ∈ r.2 := by
    rw [hr]
    exact List.mem_cons_self
  have hkd : ∀ t ∈ stepsE e, Kd r.1 t := fun t ht => h.kd (by rw [h.stepsIs hr]; exact ht)
  show ∃ t b, nx r.1 ws (stepsOf r) = some (t, b) ∧ _
  rw [h.stepsIs hr]
  have ea := h.ans e he
  have hne := h.ne e he
  obtain ⟨l, s⟩ := e
  have nno : ∀ {c : Nat} {b : Wds} {ts : List Step}, onW r.1 (.none c) ws = some b → ∃ t b, nx r.1 ws (.none c :: ts) = some (t, b) ∧ ∀ x y, t = Step.over x y → wd r.1 ws y ≠ [] := fun hb => ⟨_, _, nx_some hb, fun x y z => by cases z⟩
  cases l with
  | nil =>
    cases s with
    | nil => exact absurd rfl hne
    | cons y s =>
      have hk := hkd (.none y) (by show Step.none y ∈ [Step.none y]; simp)
      cases hk with
      | none hy =>
        obtain ⟨b, hb⟩ := (on_none hy).1 (h.one he (.inl rfl) y (by simp)).2
        exact nno hb
  | cons x l =>
    cases s with
    | nil =>
      have est : stepsE (x :: l, []) = [.none x] := by
        unfold stepsE
        simp
      rw [est] at hkd ⊢
      have hk := hkd (.none x) (by simp)
      cases hk with
      | none hx =>
        obtain ⟨b, hb⟩ := (on_none hx).1 (h.one he (.inr rfl) x (by simp)).2
        exact nno hb
    | cons y s =>
      have ea : wd r.1 ws x ++ fill r.1 ws l = wd r.1 ws y ++ fill r.1 ws s := by
        rw [← fill_cons, ← fill_cons]
        exact ea
      have est : stepsE (x :: l, y :: s) = stepsBy x y := rfl
      rw [est] at hkd ⊢
      unfold stepsBy at hkd ⊢
      by_cases h1 : y ∈ sgs
      · rw [if_pos h1] at hkd ⊢
        have hk := hkd (.none x) (by simp)
        cases hk with
        | none hx =>
          by_cases hw : wd r.1 ws x = []
          · obtain ⟨b, hb⟩ := (on_none hx).1 hw
            exact nno hb
          · rw [nx_none ((on_none hx).2 hw)]
            obtain ⟨b, hb⟩ := on_sign (a := y) (ws := ws) hx (by
              rw [h.sg h1] at ea
              have := take_pre ea (List.length_pos_iff.mpr hw)
              exact this)
            exact ⟨_, _, nx_some hb, fun x y z => by cases z⟩
      · rw [if_neg h1] at hkd ⊢
        by_cases h2 : x ∈ sgs
        · rw [if_pos h2] at hkd ⊢
          have hk := hkd (.none y) (by simp)
          cases hk with
          | none hy =>
            by_cases hw : wd r.1 ws y = []
            · obtain ⟨b, hb⟩ := (on_none hy).1 hw
              exact nno hb
            · rw [nx_none ((on_none hy).2 hw)]
              obtain ⟨b, hb⟩ := on_sign (a := x) (ws := ws) hy (by
                rw [h.sg h2] at ea
                have := take_pre ea.symm (List.length_pos_iff.mpr hw)
                exact this)
              exact ⟨_, _, nx_some hb, fun x y z => by cases z⟩
        · rw [if_neg h2] at hkd ⊢
          have hk := hkd (.over x y) (by simp)
          cases hk with
          | over hx hy hxy =>
            by_cases hw : wd r.1 ws x = []
            · obtain ⟨b, hb⟩ := (on_none hx).1 hw
              exact nno hb
            · rw [nx_none ((on_none hx).2 hw)]
              by_cases hv : wd r.1 ws y = []
              · obtain ⟨b, hb⟩ := (on_none hy).1 hv
                exact nno hb
              · rw [nx_none ((on_none hy).2 hv)]
                cases ho : onW r.1 (.over x y) ws with
                | some b => exact ⟨_, _, nx_some ho, fun x2 y2 z => by cases z; exact hv⟩
                | none =>
                  rw [nx_none ho]
                  rcases Nat.le_total (wd r.1 ws y).length (wd r.1 ws x).length with hl | hl
                  · obtain ⟨b, hb⟩ := on_over (ws := ws) hx hy (take_pre ea hl)
                    rw [hb] at ho
                    cases ho
                  · obtain ⟨b, hb⟩ := on_over (ws := ws) hy hx (take_pre ea.symm hl)
                    exact ⟨_, _, nx_some hb, fun x2 y2 z => by cases z; exact hw⟩
/-! ### the words behind a step -/
theorem split_nm {nm : List Nat} {x : Nat} (nd : nm.Nodup) (hx : x ∈ nm) : ∃ A B, nm = A ++ x :: B ∧ x ∉ A ∧ x ∉ B ∧ nm.idxOf x = A.length := by
  obtain ⟨A, B, rfl⟩ := List.append_of_mem hx
  have nd2 := List.nodup_append.mp nd
  have h1 : x ∉ A := fun m => nd2.2.2 x m x List.mem_cons_self rfl
  have h2 : x ∉ B := (List.nodup_cons.mp nd2.2.1).1
  refine ⟨A, B, rfl, h1, h2, ?_⟩
  rw [List.idxOf_append, if_neg h1, List.idxOf_cons_self, Nat.zero_add]
theorem repl1_no {x : Nat} {l : List Nat} (h : x ∉ l) (z : List Nat) : repl1 x z l = l := by
  induction l with
  | nil => rfl
  | cons d l ih =>
    have h1 : d ≠ x := fun e => h (e ▸ List.mem_cons_self)
    rw [repl1_cons, if_neg h1, ih fun m => h (List.mem_cons_of_mem _ m)]
    rfl
theorem repl1_app (x : Nat) (z a b : List Nat) : repl1 x z (a ++ b) = repl1 x z a ++ repl1 x z b := by
  unfold repl1
  rw [List.flatMap_append]
theorem wd_drop {A B : List Nat} {x : Nat} {U V : Wds} {w : List Nat} (hl : U.length = A.length) {c : Nat} (hc : c ≠ x) : wd (A ++ B) (U ++ V) c = wd (A ++ x :: B) (U ++ w :: V) c := by
  have hm : c ∈ A ++ B ↔ c ∈ A ++ x :: B := by simp [hc]
  by_cases m : c ∈ A ++ B
  · rw [wd_in m, wd_in (hm.mp m), List.getD_eq_getElem?_getD, List.getD_eq_getElem?_getD]
    congr 1
    rw [List.idxOf_append, List.idxOf_append]
    by_cases ma : c ∈ A
    · rw [if_pos ma, if_pos ma]
      have := List.idxOf_lt_length_of_mem ma
      rw [List.getElem?_append_left (by omega), List.getElem?_append_left (by omega)]
    · have ei : List.idxOf c (x :: B) = List.idxOf c B + 1 := by
        rw [List.idxOf_cons, beq_eq_false_iff_ne.mpr (Ne.symm hc)]
        rfl
      rw [if_neg ma, if_neg ma, ei]
      rw [List.getElem?_append_right (by omega), List.getElem?_append_right (by omega)]
      rw [show List.idxOf c B + 1 + A.length - U.length = (List.idxOf c B + A.length - U.length) + 1 by omega, List.getElem?_cons_succ]
  · rw [wd_out m, wd_out fun z => m (hm.mpr z)]
theorem wd_same {nm : List Nat} {ws : Wds} {x c : Nat} {k : List Nat} (hx : nm.idxOf x < ws.length) (hxm : x ∈ nm) (hc : c ≠ x) : wd nm (ws.take (nm.idxOf x) ++ [k] ++ ws.drop (nm.idxOf x + 1)) c = wd nm ws c := by
  by_cases m : c ∈ nm
  · rw [wd_in m, wd_in m]
    exact other_at hx (idx_ne hxm m (Ne.symm hc))
  · rw [wd_out m, wd_out m]
theorem wd_self {nm : List Nat} {ws : Wds} {x : Nat} {k : List Nat} (hx : nm.idxOf x < ws.length) (hxm : x ∈ nm) : wd nm (ws.take (nm.idxOf x) ++ [k] ++ ws.drop (nm.idxOf x + 1)) x = k := by
  rw [wd_in hxm]
  exact mid_at (by rw [List.length_take]; omega)
/-- how the words stand behind a step -/
structure Beh (r : Room') (ws : Wds) (t : Step) (ws1 : Wds) : Prop where
  nd : (nmOf r.1 t).Nodup
  nu : ∀ c ∈ nmOf r.1 t, c ∈ r.1
  keep : ∀ c ∈ r.1, (∀ x, t = .none x → c ≠ x) → c ∈ nmOf r.1 t
  nl : (nmOf r.1 t).length ≤ r.1.length
  len : ws1.length = (nmOf r.1 t).length
  wl : ∀ w ∈ ws1, Wd w ∧ w.length ≤ 9
  other : ∀ c, c ≠ t.x → wd (nmOf r.1 t) ws1 c = wd r.1 ws c
  put : fill (nmOf r.1 t) ws1 (putW t) = wd r.1 ws t.x
  less : ws1.flatten.length + (nmOf r.1 t).length < ws.flatten.length + r.1.length
theorem flat3 (a b : Wds) (c : List Nat) : (a ++ [c] ++ b).flatten.length = a.flatten.length + c.length + b.flatten.length := by
  rw [List.flatten_append, List.flatten_append, List.length_append, List.length_append]
  simp
theorem beh_none {r : Room'} {ws ws1 : Wds} {x : Nat} (h : RI r ws) (hx : x ∈ r.1) (ho : onW r.1 (.none x) ws = some ws1) : Beh r ws (.none x) ws1 := by
  obtain ⟨A, B, eA, hA, hB, hi⟩ := split_nm h.nd hx
  have hlen := h.len
  have hi2 : r.1.idxOf x < ws.length := by
    rw [hlen]
    exact List.idxOf_lt_length_of_mem hx
  by_cases e : ws.getD (r.1.idxOf x) [] = []
  · have ho : (if ws.getD (r.1.idxOf x) [] = [] then some (ws.take (r.1.idxOf x) ++ ws.drop (r.1.idxOf x + 1)) else none) = some ws1 := ho
    rw [if_pos e] at ho
    cases ho
    have enm : nmOf r.1 (.none x) = A ++ B := by
      show repl1 x [] r.1 = _
      rw [eA, repl1_app, repl1_cons, if_pos rfl, repl1_no hA, repl1_no hB]
      rfl
    have hc := cut_at (getD_at hi2)
    have lenU : (ws.take (r.1.idxOf x)).length = A.length := by
      rw [List.length_take, hi] at *
      omega
    have nd2 : (A ++ x :: B).Nodup := eA ▸ h.nd
    have lenA := congrArg List.length eA
    simp only [List.length_append, List.length_cons] at lenA
    refine ⟨?_, ?_, ?_, ?_, ?_, ?_, ?_, ?_, ?_⟩
    · rw [enm]
      exact List.Nodup.sublist (List.Sublist.append_left (List.sublist_cons_self _ _) _) nd2
    · rw [enm, eA]
      intro c hc
      simp only [List.mem_append, List.mem_cons] at hc ⊢
      rcases hc with hc | hc
      · exact .inl hc
      · exact .inr (.inr hc)
    · rw [enm, eA]
      intro c hc hne
      have := hne x rfl
      simp only [List.mem_append, List.mem_cons] at hc ⊢
      rcases hc with hc | hc | hc
      · exact .inl hc
      · exact absurd hc this
      · exact .inr hc
    · rw [enm, List.length_append]
      omega
    · rw [enm, List.length_append, List.length_append, lenU, List.length_drop]
      omega
    · intro w hw
      rcases List.mem_append.mp hw with hw | hw
      · exact h.wl w (List.mem_of_mem_take hw)
      · exact h.wl w (List.mem_of_mem_drop hw)
    · intro c hc2
      have hc2 : c ≠ x := hc2
      have := wd_drop (A := A) (B := B) (x := x) (U := ws.take (r.1.idxOf x)) (V := ws.drop (r.1.idxOf x + 1)) (w := ws.getD (r.1.idxOf x) []) lenU hc2
      rw [enm, this, ← eA]
      congr 1
      conv => rhs; rw [hc]
      simp
    · show ([] : List Nat) = wd r.1 ws x
      rw [wd_in hx, e]
    · have h1 := congrArg (fun z : Wds => z.flatten.length) hc
      simp only [flat3] at h1
      rw [e] at h1
      rw [enm, List.flatten_append, List.length_append, List.length_append]
      simp only [List.length_nil] at h1
      omega
  · have ho : (if ws.getD (r.1.idxOf x) [] = [] then some (ws.take (r.1.idxOf x) ++ ws.drop (r.1.idxOf x + 1)) else none) = some ws1 := ho
    rw [if_neg e] at ho
    cases ho
theorem beh_cut {r : Room'} {ws : Wds} {t : Step} {st : List Nat} (h : RI r ws) (hx : t.x ∈ r.1) (hnm : nmOf r.1 t = r.1) (hn : ∀ x, t ≠ .none x) (hs : (wd r.1 ws t.x).take st.length = st) (hne : st ≠ []) (z : Nat) (hz : z ≠ t.x) (hp : putW t = [z, t.x]) (hzw : wd r.1 ws z = st) :
    Beh r ws t (ws.take (r.1.idxOf t.x) ++ [(wd r.1 ws t.x).drop st.length] ++ ws.drop (r.1.idxOf t.x + 1)) := by
  have hlen := h.len
  have hi2 : r.1.idxOf t.x < ws.length := by
    rw [hlen]
    exact List.idxOf_lt_length_of_mem hx
  have hc := cut_at (getD_at hi2)
  rw [← wd_in hx] at hc
  have hwm := h.wl _ (wd_mem hx hlen)
  have est : st ++ (wd r.1 ws t.x).drop st.length = wd r.1 ws t.x := by
    conv => lhs; arg 1; rw [← hs]
    exact List.take_append_drop _ _
  refine ⟨by rw [hnm]; exact h.nd, fun c hc => by rw [hnm] at hc; exact hc, fun c hc _ => by rw [hnm]; exact hc, by rw [hnm]; exact Nat.le_refl _, ?_, ?_, ?_, ?_, ?_⟩
  · rw [hnm]
    simp only [List.length_append, List.length_take, List.length_drop, List.length_singleton]
    omega
  · intro w hw
    simp only [List.mem_append, List.mem_singleton] at hw
    rcases hw with (hw | hw) | hw
    · exact h.wl w (List.mem_of_mem_take hw)
    · subst hw
      refine ⟨fun c hc => hwm.1 c (List.mem_of_mem_drop hc), ?_⟩
      rw [List.length_drop]
      have := hwm.2
      omega
    · exact h.wl w (List.mem_of_mem_drop hw)
  · intro c hc2
    rw [hnm]
    exact wd_same hi2 hx hc2
  · rw [hnm, hp, fill_cons, fill_cons, fill_nil, List.append_nil, wd_same hi2 hx hz, wd_self hi2 hx, hzw]
    exact est
  · have h1 := congrArg (fun z : Wds => z.flatten.length) hc
    simp only [flat3] at h1
    have h2 := congrArg List.length est
    rw [List.length_append] at h2
    rw [hnm, flat3]
    have := List.length_pos_iff.mpr hne
    omega
theorem beh_ok {r : Room'} {ws ws1 : Wds} {t : Step} (h : RI r ws) (k : Kd r.1 t) (ho : onW r.1 t ws = some ws1) (hv : ∀ x y, t = .over x y → wd r.1 ws y ≠ []) : Beh r ws t ws1 := by
  cases k with
  | none hx => exact beh_none h hx ho
  | @sign x a hx ha =>
    have ho : (if (ws.getD (r.1.idxOf x) []).take [a].length = [a] then some (ws.take (r.1.idxOf x) ++ [(ws.getD (r.1.idxOf x) []).drop [a].length] ++ ws.drop (r.1.idxOf x + 1)) else none) = some ws1 := ho
    rw [← wd_in hx] at ho
    by_cases e : (wd r.1 ws x).take [a].length = [a]
    · rw [if_pos e] at ho
      cases ho
      exact beh_cut (t := .sign x a) (st := [a]) h hx rfl (fun x z => by cases z) e (by simp) a (fun e => sg_un ha (h.nu a (e ▸ hx))) rfl (h.sg ha)
    · rw [if_neg e] at ho
      cases ho
  | @over x y hx hy hxy =>
    have ho : (if (ws.getD (r.1.idxOf x) []).take (ws.getD (r.1.idxOf y) []).length = ws.getD (r.1.idxOf y) [] then some (ws.take (r.1.idxOf x) ++ [(ws.getD (r.1.idxOf x) []).drop (ws.getD (r.1.idxOf y) []).length] ++ ws.drop (r.1.idxOf x + 1)) else none) = some ws1 := ho
    rw [← wd_in hx, ← wd_in hy] at ho
    by_cases e : (wd r.1 ws x).take (wd r.1 ws y).length = wd r.1 ws y
    · rw [if_pos e] at ho
      cases ho
      exact beh_cut (t := .over x y) (st := wd r.1 ws y) h hx rfl (fun x z => by cases z) e (hv x y rfl) y (Ne.symm hxy) rfl rfl
    · rw [if_neg e] at ho
      cases ho
/-- a filling behind a step -/
theorem fill_put {r : Room'} {ws ws1 : Wds} {t : Step} (b : Beh r ws t ws1) (l : List Nat) : fill (nmOf r.1 t) ws1 (repl1 t.x (putW t) l) = fill r.1 ws l := by
  induction l with
  | nil => rfl
  | cons d l ih =>
    rw [repl1_cons, fill_app, fill_cons, ih]
    congr 1
    by_cases e : d = t.x
    · subst e
      rw [if_pos rfl]
      exact b.put
    · rw [if_neg e, fill_cons, fill_nil, List.append_nil]
      exact b.other d e
/-- the first equation's sides begin alike behind it -/
theorem alike {r : Room'} {ws : Wds} (h : RI r ws) {t : Step} (ht : t ∈ stepsOf r) {z : Nat} (hp : putW t = [z, t.x]) (hz : z ≠ t.x) : ∃ l s es, r.2.map (substE t) = (z :: l, z :: s) :: es := by
  cases hr : r.2 with
  | nil =>
    obtain ⟨nm, s⟩ := r
    have hr : s = [] := hr
    subst hr
    cases ht
  | cons e es =>
    rw [h.stepsIs hr] at ht
    obtain ⟨l, s⟩ := e
    have two : ∀ a b l s, (l, s) = (t.x :: a, z :: b) ∨ (l, s) = (z :: a, t.x :: b) → ∃ l2 s2, substE t (l, s) = (z :: l2, z :: s2) := fun a b l s hh => by
      rcases hh with hh | hh
      · cases hh
        refine ⟨t.x :: repl1 t.x (putW t) a, repl1 t.x (putW t) b, ?_⟩
        unfold substE
        simp only [repl1_cons, if_neg hz, if_true, hp]
        rfl
      · cases hh
        refine ⟨repl1 t.x (putW t) a, t.x :: repl1 t.x (putW t) b, ?_⟩
        unfold substE
        simp only [repl1_cons, if_neg hz, if_true, hp]
        rfl
    suffices hs : ∃ a b, (l, s) = (t.x :: a, z :: b) ∨ (l, s) = (z :: a, t.x :: b) by
      obtain ⟨a, b, hh⟩ := hs
      obtain ⟨l2, s2, e2⟩ := two a b l s hh
      exact ⟨l2, s2, es.map (substE t), by rw [List.map_cons, e2]⟩
    have nno : ∀ c, t ≠ .none c := fun c e => by
      subst e
      cases hp
    cases l with
    | nil =>
      cases s with
      | nil => cases ht
      | cons y s =>
        have ht : t ∈ [Step.none y] := ht
        exact absurd (List.mem_singleton.mp ht) (nno y)
    | cons x l =>
      cases s with
      | nil =>
        have est : stepsE (x :: l, []) = [.none x] := by
          unfold stepsE
          simp
        rw [est] at ht
        exact absurd (List.mem_singleton.mp ht) (nno x)
      | cons y s =>
        have ht : t ∈ stepsBy x y := ht
        unfold stepsBy at ht
        refine ⟨l, s, ?_⟩
        by_cases h1 : y ∈ sgs
        · rw [if_pos h1] at ht
          simp only [List.mem_cons, List.not_mem_nil, or_false] at ht
          rcases ht with rfl | rfl
          · exact absurd rfl (nno x)
          · cases hp
            exact .inl rfl
        · rw [if_neg h1] at ht
          by_cases h2 : x ∈ sgs
          · rw [if_pos h2] at ht
            simp only [List.mem_cons, List.not_mem_nil, or_false] at ht
            rcases ht with rfl | rfl
            · exact absurd rfl (nno y)
            · cases hp
              exact .inr rfl
          · rw [if_neg h2] at ht
            simp only [List.mem_cons, List.not_mem_nil, or_false] at ht
            rcases ht with rfl | rfl | rfl | rfl
            · exact absurd rfl (nno x)
            · exact absurd rfl (nno y)
            · cases hp
              exact .inl rfl
            · cases hp
              exact .inr rfl
/-- letters behind a step -/
theorem few {r : Room'} {ws : Wds} (h : RI r ws) {t : Step} (ht : t ∈ stepsOf r) : (∀ c ∈ uns, (letters (strip (r.2.map (substE t)))).count c ≤ 2) ∧ (letters (strip (r.2.map (substE t)))).length ≤ 40 := by
  have k := h.kd ht
  have forty := h.forty
  have hput : letters (r.2.map (substE t)) = repl1 t.x (putW t) (letters r.2) := letters_put t r.2
  have hrl := repl1_length (x := t.x) (putW t) (letters r.2)
  have hrc : ∀ c, _ := fun c => repl1_count (x := t.x) (c := c) (putW t) (letters r.2)
  have hx2 : (letters r.2).count t.x ≤ 2 := h.two _ (h.nu _ (by cases k <;> assumption))
  have two : ∀ z, putW t = [z, t.x] → z ≠ t.x → (∀ c ∈ uns, (letters (strip (r.2.map (substE t)))).count c ≤ 2) ∧ (letters (strip (r.2.map (substE t)))).length ≤ 40 := fun z hp hz => by
    obtain ⟨l, s, es, e⟩ := alike h ht hp hz
    have hf := strip_first (s := es) (z := z) (l := l) (r := s)
    rw [← e, hput] at hf
    rw [hp] at hf hrl hrc
    refine ⟨fun c hc => ?_, ?_⟩
    · have h1 := hf.1 c
      have h2 := hrc c
      have h3 := h.two c hc
      have e1 : ([z, t.x] : List Nat).count c = (if c = z then 1 else 0) + if c = t.x then 1 else 0 := by
        rw [List.count_cons, List.count_singleton]
        by_cases a : c = z
        · have a2 : ¬ c = t.x := fun q => hz (a.symm.trans q)
          have a3 : ¬ t.x = c := fun q => a2 q.symm
          subst a
          simp [a2, a3]
        · have a4 : ¬ z = c := fun q => a q.symm
          by_cases b : c = t.x
          · subst b
            simp [a, a4]
          · have b3 : ¬ t.x = c := fun q => b q.symm
            simp [a, a4, b, b3]
      rw [e1] at h2
      by_cases a : c = z
      · have a2 : ¬ c = t.x := fun q => hz (a.symm.trans q)
        rw [if_pos a] at h1 h2
        rw [if_neg a2, if_neg a2] at h2
        omega
      · rw [if_neg a] at h1 h2
        by_cases b : c = t.x
        · rw [if_pos b, if_pos b, Nat.zero_add, Nat.one_mul] at h2
          omega
        · rw [if_neg b, if_neg b, Nat.zero_add, Nat.zero_mul] at h2
          omega
    · have h1 := hf.2
      have e1 : ([z, t.x] : List Nat).length = 2 := rfl
      rw [e1] at hrl
      omega
  cases k with
  | @none x hx =>
    refine ⟨fun c hc => ?_, ?_⟩
    · have h1 := strip_count (r.2.map (substE (.none x))) c
      rw [hput] at h1
      have h2 := hrc c
      have h3 := h.two c hc
      have e1 : (putW (.none x)).count c = 0 := rfl
      rw [e1, Nat.zero_mul] at h2
      omega
    · have h1 := strip_len (r.2.map (substE (.none x)))
      rw [hput] at h1
      have e1 : (putW (.none x)).length = 0 := rfl
      rw [e1, Nat.zero_mul] at hrl
      omega
  | @sign x a hx ha => exact two a rfl fun e => sg_un ha (h.nu a (e ▸ hx))
  | @over x y hx hy hxy => exact two y rfl (Ne.symm hxy)
theorem RI.step {r : Room'} {ws ws1 : Wds} {t : Step} (h : RI r ws) (ht : t ∈ stepsOf r) (b : Beh r ws t ws1) : RI (stepR r t) ws1 where
  cnt := Nat.le_trans (strip_cnt _) (by rw [List.length_map]; exact h.cnt)
  sd := strip_sd fun e he => by
    obtain ⟨e0, h0, rfl⟩ := List.mem_map.mp he
    obtain ⟨s1, s2⟩ := h.sd e0 h0
    have hp : Sd (putW t) := fun c hc => steps_sd ht h.pg.ok c (putW_lets c hc)
    exact ⟨repl1_sd hp s1, repl1_sd hp s2⟩
  ne := strip_ne _
  hd := fun x a y b h => strip_hd h
  nd := b.nd
  nu := fun c hc => h.nu c (b.nu c hc)
  nl := Nat.le_trans b.nl h.nl
  sub := fun c hc hu => by
    have hc := strip_mem hc
    rw [letters_put] at hc
    have k := h.kd ht
    rcases repl1_mem hc with ⟨h1, h2⟩ | h1
    · exact b.keep c (h.sub c h1 hu) fun x e => by
        subst e
        exact h2
    · cases k with
      | none hx => cases h1
      | @sign x a hx ha =>
        have h1 : c ∈ [a, x] := h1
        simp only [List.mem_cons, List.not_mem_nil, or_false] at h1
        rcases h1 with rfl | rfl
        · exact (sg_un ha hu).elim
        · exact hx
      | @over x y hx hy hxy =>
        have h1 : c ∈ [y, x] := h1
        simp only [List.mem_cons, List.not_mem_nil, or_false] at h1
        rcases h1 with rfl | rfl
        · exact hy
        · exact hx
  two := (few h ht).1
  forty := (few h ht).2
  len := b.len
  wl := b.wl
  ans := strip_ans fun e he => by
    obtain ⟨e0, h0, rfl⟩ := List.mem_map.mp he
    show fill (nmOf r.1 t) ws1 (repl1 t.x (putW t) e0.1) = fill (nmOf r.1 t) ws1 (repl1 t.x (putW t) e0.2)
    rw [fill_put b, fill_put b]
    exact h.ans e0 h0
theorem way_of_ri : ∀ (m : Nat) {r : Room'} {ws : Wds}, RI r ws → ws.flatten.length + r.1.length ≤ m → ∃ ts r' ws', Way r ws ts r' ws' ∧ ts.length ≤ m
  | m, r, ws, h, hm => by
    cases hr : r.2 with
    | nil => exact ⟨[], r, ws, .nil h.pg hr, Nat.zero_le _⟩
    | cons e es =>
      obtain ⟨t, ws1, hx, hv⟩ := h.next hr
      obtain ⟨ht, ho⟩ := next_mem hx
      have b := beh_ok h (h.kd ht) ho hv
      have hl := b.less
      cases m with
      | zero => omega
      | succ m =>
        obtain ⟨ts, r', ws', wy, hts⟩ := way_of_ri m (h.step ht b) (by show ws1.flatten.length + (nmOf r.1 t).length ≤ m; omega)
        exact ⟨t :: ts, r', ws', .cons h.pg (by rw [hr]; exact List.cons_ne_nil _ _) hx wy, Nat.succ_le_succ hts⟩
/-- all that the walk asks -/
theorem gw_of {s : Sys} {ws : Wds} (ck : CkS s) (len : ws.length = (names s).length) (wl : ∀ w ∈ ws, Wd w ∧ w.length ≤ 9) (ans : Ans (names s) ws s) : Gw s ws where
  ck := ck
  len := len
  wd := wl
  ans := ans
  fl := fun e he => by
    have := fill_len len (fun w hw => (wl w hw).2) e.1
    have := ck.side e he
    omega
  way := way_of_ri _ (ri_first ck len wl ans) (Nat.le_refl _)
  cb := fun e he g hg => cb_ok ans he hg
end GW

set_option Elab.async false
set_option linter.all false
set_option maxRecDepth 100000
set_option maxHeartbeats 4000000
/-! The plain law: the system turned; what the script builds. -/
namespace GW
open PySem PySem.Spec L2 TL PyProof.Rows
/-! ### turned, from its end -/
theorem rev_count (s : Sys) (c : Nat) : (letters s.reverse).count c = (letters s).count c := by
  induction s with
  | nil => rfl
  | cons e s ih =>
    rw [List.reverse_cons, letters_app, letters_one, letters_cons]
    simp only [List.count_append] at ih ⊢
    omega
theorem rev_len (s : Sys) : (letters s.reverse).length = (letters s).length := by
  induction s with
  | nil => rfl
  | cons e s ih =>
    rw [List.reverse_cons, letters_app, letters_one, letters_cons]
    simp only [List.length_append] at ih ⊢
    omega
theorem swp_count (s : Sys) (c : Nat) : (letters (s.map swp)).count c = (letters s).count c := by
  induction s with
  | nil => rfl
  | cons e s ih =>
    rw [List.map_cons, letters_cons, letters_cons]
    simp only [List.count_append] at ih ⊢
    show e.2.count c + e.1.count c + _ = _
    omega
theorem swp_len (s : Sys) : (letters (s.map swp)).length = (letters s).length := by
  induction s with
  | nil => rfl
  | cons e s ih =>
    rw [List.map_cons, letters_cons, letters_cons]
    simp only [List.length_append] at ih ⊢
    show e.2.length + e.1.length + _ = _
    omega
theorem turn_count (s : Sys) (c : Nat) : (letters (s.map swp).reverse).count c = (letters s).count c := (rev_count _ c).trans (swp_count s c)
theorem turn_names (s : Sys) : names (s.map swp).reverse = names s := by
  unfold names
  refine List.filter_congr fun c _ => ?_
  have h := turn_count s c
  have e : c ∈ letters (s.map swp).reverse ↔ c ∈ letters s := by
    rw [← List.count_pos_iff, ← List.count_pos_iff, h]
  exact decide_eq_decide.mpr e
theorem turn_mem {s : Sys} {e : Eqn} (h : e ∈ (s.map swp).reverse) : ∃ e0 ∈ s, e = (e0.2, e0.1) := by
  obtain ⟨e0, h0, rfl⟩ := List.mem_map.mp (List.mem_reverse.mp h)
  exact ⟨e0, h0, rfl⟩
theorem turn_ck {s : Sys} (h : CkS s) : CkS (s.map swp).reverse where
  lo := by rw [List.length_reverse, List.length_map]; exact h.lo
  hi := by rw [List.length_reverse, List.length_map]; exact h.hi
  sd := fun e he => by
    obtain ⟨e0, h0, rfl⟩ := turn_mem he
    exact ⟨(h.sd e0 h0).2, (h.sd e0 h0).1⟩
  two := fun c hc => by rw [turn_count]; exact h.two c hc
  forty := by rw [rev_len, swp_len]; exact h.forty
  six := by rw [turn_names]; exact h.six
theorem gw_turn {s : Sys} {ws : Wds} (ck : CkS s) (len : ws.length = (names s).length) (wl : ∀ w ∈ ws, Wd w ∧ w.length ≤ 9) (ans : Ans (names s) ws s) : Gw (s.map swp).reverse ws :=
  gw_of (turn_ck ck) (by rw [turn_names]; exact len) wl fun e he => by
    obtain ⟨e0, h0, rfl⟩ := turn_mem he
    rw [turn_names]
    exact (ans e0 h0).symm
/-! ### what the script builds -/
structure Nms (nm : List Nat) : Prop where
  up : nm.Pairwise (· < ·)
  un : ∀ c ∈ nm, c ∈ uns
  lo : 1 ≤ nm.length
  six : nm.length ≤ 6
theorem Nms.nd {nm : List Nat} (h : Nms nm) : nm.Nodup := h.up.imp fun a b => by
  subst b
  exact absurd a (Nat.lt_irrefl _)
def mostOf (m : Nat) : Nat := if m = 1 then 12 else if m = 2 then 6 else 4
def wideOf (m : Nat) : Nat := if m = 1 then 20 else if m = 2 then 9 else 6
/-- a left side and a right side -/
structure Eq1 (nm : List Nat) (ws : Wds) (m : Nat) (l r : List Nat) : Prop where
  ll : ∀ c ∈ l, c ∈ sgs ∨ c ∈ nm
  lr : ∀ c ∈ r, c ∈ sgs ∨ c ∈ nm
  eq : fill nm ws l = fill nm ws r
  most : l.length ≤ mostOf m
  wide : (fill nm ws l).length ≤ wideOf m
  one : ∀ c ∈ nm, wd nm ws c = [] → r.count c ≤ 1
structure Gen (nm : List Nat) (ws : Wds) (s : Sys) : Prop where
  nms : Nms nm
  len : ws.length = nm.length
  wl : ∀ w ∈ ws, Wd w ∧ w.length ≤ 9
  lo : 1 ≤ s.length
  hi : s.length ≤ 3
  eqs : ∀ e ∈ s, ∃ l r, Eq1 nm ws s.length l r ∧ (e = (l, r) ∨ e = (r, l))
  two : ∀ c ∈ nm, (letters s).count c ≤ 2
def emp (nm : List Nat) (ws : Wds) (l : List Nat) : Nat := l.countP fun d => decide (wd nm ws d = [])
theorem emp_app (nm : List Nat) (ws : Wds) (a b : List Nat) : emp nm ws (a ++ b) = emp nm ws a + emp nm ws b := List.countP_append
theorem len_emp (nm : List Nat) (ws : Wds) (l : List Nat) : l.length ≤ (fill nm ws l).length + emp nm ws l := by
  induction l with
  | nil => exact Nat.zero_le _
  | cons d l ih =>
    rw [fill_cons, List.length_append, List.length_cons]
    unfold emp at ih ⊢
    rw [List.countP_cons]
    by_cases h : wd nm ws d = []
    · rw [decide_eq_true h]
      simp only [if_true]
      omega
    · have := List.length_pos_iff.mpr h
      rw [decide_eq_false h]
      simp only [Bool.false_eq_true, if_false]
      omega
theorem countP_add (c : Nat) (E l : List Nat) : l.countP (fun d => decide (d ∈ c :: E)) ≤ l.count c + l.countP (fun d => decide (d ∈ E)) := by
  induction l with
  | nil => exact Nat.zero_le _
  | cons d l il =>
    rw [List.countP_cons, List.countP_cons, List.count_cons]
    by_cases e : d = c
    · subst e
      have e3 : decide (d ∈ d :: E) = true := decide_eq_true List.mem_cons_self
      rw [e3, beq_self_eq_true, if_pos rfl]
      omega
    · have e2 : (d == c) = false := beq_eq_false_iff_ne.mpr e
      have e3 : decide (d ∈ c :: E) = decide (d ∈ E) := by simp [e]
      rw [e2, e3, if_neg Bool.false_ne_true]
      omega
theorem emp_sum (nm : List Nat) (ws : Wds) {E : List Nat} (nd : E.Nodup) (hE : ∀ c, wd nm ws c = [] ↔ c ∈ E) (l : List Nat) {b : Nat} (hb : ∀ c ∈ E, l.count c ≤ b) : emp nm ws l ≤ E.length * b := by
  have key : ∀ (E : List Nat), E.Nodup → (∀ c ∈ E, l.count c ≤ b) → l.countP (fun d => decide (d ∈ E)) ≤ E.length * b := by
    intro E
    induction E with
    | nil =>
      intro _ _
      rw [List.countP_eq_zero.mpr fun a _ => by simp]
      exact Nat.zero_le _
    | cons c E ih =>
      intro nd hb
      obtain ⟨n1, n2⟩ := List.nodup_cons.mp nd
      have h1 := ih n2 fun x hx => hb x (List.mem_cons_of_mem _ hx)
      have h2 := hb c List.mem_cons_self
      have h3 := countP_add c E l
      rw [List.length_cons, Nat.add_mul, Nat.one_mul]
      omega
  have e : emp nm ws l = l.countP (fun d => decide (d ∈ E)) := by
    unfold emp
    refine List.countP_congr fun d _ => ?_
    simp only [decide_eq_true_eq]
    exact hE d
  rw [e]
  exact key E nd hb
theorem emp_letters (nm : List Nat) (ws : Wds) (s : Sys) {b k : Nat} (h : ∀ e ∈ s, e.1.length + e.2.length ≤ b + emp nm ws (e.1 ++ e.2)) : (letters s).length ≤ s.length * b + emp nm ws (letters s) := by
  induction s with
  | nil => exact Nat.zero_le _
  | cons e s ih =>
    have h1 := ih fun x hx => h x (List.mem_cons_of_mem _ hx)
    have h2 := h e List.mem_cons_self
    rw [letters_cons, emp_app, List.length_append, List.length_append, List.length_cons, Nat.add_mul, Nat.one_mul]
    omega
theorem Gen.forty {nm : List Nat} {ws : Wds} {s : Sys} (g : Gen nm ws s) : (letters s).length ≤ 40 := by
  have nms := g.nms
  let E := nm.filter fun c => decide (wd nm ws c = [])
  have ndE : E.Nodup := List.Nodup.sublist List.filter_sublist nms.nd
  have hE : ∀ c, wd nm ws c = [] ↔ c ∈ E := fun c => by
    refine ⟨fun h => List.mem_filter.mpr ⟨?_, decide_eq_true h⟩, fun h => of_decide_eq_true (List.mem_filter.mp h).2⟩
    by_cases m : c ∈ nm
    · exact m
    · rw [wd_out m] at h
      cases h
  have hEnm : ∀ c ∈ E, c ∈ nm := fun c h => (List.mem_filter.mp h).1
  have hEl : E.length ≤ nm.length := List.length_filter_le _ _
  have six := nms.six
  have lo := g.lo
  have hi := g.hi
  have big := emp_sum nm ws ndE hE (letters s) (b := 2) fun c hc => g.two c (hEnm c hc)
  -- each equation
  have each : ∀ W : Nat, (∀ l r, Eq1 nm ws s.length l r → (fill nm ws l).length ≤ W) → ∀ e ∈ s, e.1.length + e.2.length ≤ (mostOf s.length + W) + emp nm ws (e.1 ++ e.2) := fun W hW e he => by
    obtain ⟨l, r, q, hh⟩ := g.eqs e he
    have h1 := len_emp nm ws r
    rw [← q.eq] at h1
    have h2 := hW l r q
    have h3 := q.most
    rcases hh with rfl | rfl
    · rw [emp_app]
      show l.length + r.length ≤ mostOf s.length + W + (emp nm ws l + emp nm ws r)
      omega
    · rw [emp_app]
      show r.length + l.length ≤ mostOf s.length + W + (emp nm ws r + emp nm ws l)
      omega
  by_cases all : ∀ c ∈ nm, wd nm ws c = []
  · have hW : ∀ l r, Eq1 nm ws s.length l r → (fill nm ws l).length ≤ mostOf s.length := fun l r q => by
      refine Nat.le_trans ?_ q.most
      clear q
      induction l with
      | nil => exact Nat.le_refl _
      | cons d l ih =>
        rw [fill_cons, List.length_append, List.length_cons]
        have : (wd nm ws d).length ≤ 1 := by
          by_cases m : d ∈ nm
          · rw [all d m]
            exact Nat.zero_le _
          · rw [wd_out m]
            exact Nat.le_refl _
        omega
    have h1 := emp_letters nm ws s (k := 0) (each _ hW)
    have h2 : s.length = 1 ∨ s.length = 2 ∨ s.length = 3 := by omega
    rcases h2 with h2 | h2 | h2 <;> simp only [h2, mostOf] at h1 <;> simp at h1 <;> omega
  · have hlt : E.length ≤ 5 := by
      have hne : ∃ c ∈ nm, ¬ wd nm ws c = [] := Classical.byContradiction fun z => all fun c hc => Classical.byContradiction fun y => z ⟨c, hc, y⟩
      obtain ⟨c, hc, hw⟩ := hne
      have : E.length < nm.length := by
        refine Nat.lt_of_le_of_ne hEl fun e => ?_
        have h3 : E = nm := List.filter_sublist.eq_of_length e
        have h4 : c ∈ E := h3 ▸ hc
        exact hw ((hE c).mpr h4)
      omega
    have h1 := emp_letters nm ws s (k := 0) (each _ fun l r q => q.wide)
    have h2 : s.length = 1 ∨ s.length = 2 ∨ s.length = 3 := by omega
    rcases h2 with h2 | h2 | h2
    · -- one equation
      obtain ⟨e, rfl⟩ := List.length_eq_one_iff.mp h2
      obtain ⟨l, r, q, hh⟩ := g.eqs e List.mem_cons_self
      have h3 := len_emp nm ws r
      rw [← q.eq] at h3
      have h4 := q.most
      have h5 := q.wide
      have h6 := emp_sum nm ws ndE hE r (b := 1) fun c hc => q.one c (hEnm c hc) ((hE c).mpr hc)
      have m1 : mostOf [e].length = 12 := rfl
      have w1 : wideOf [e].length = 20 := rfl
      rw [m1] at h4
      rw [w1] at h5
      rw [letters_one, List.length_append]
      rcases hh with rfl | rfl
      · show l.length + r.length ≤ 40
        omega
      · show r.length + l.length ≤ 40
        omega
    · simp only [h2, mostOf, wideOf] at h1
      simp at h1
      omega
    · simp only [h2, mostOf, wideOf] at h1
      simp at h1
      omega
/-- two rising rows of the same numbers -/
theorem up_eq : ∀ {a b : List Nat}, a.Pairwise (· < ·) → b.Pairwise (· < ·) → (∀ c, c ∈ a ↔ c ∈ b) → a = b
  | [], [], _, _, _ => rfl
  | [], y :: b, _, _, h => absurd ((h y).mpr List.mem_cons_self) (by simp)
  | x :: a, [], _, _, h => absurd ((h x).mp List.mem_cons_self) (by simp)
  | x :: a, y :: b, ha, hb, h => by
    obtain ⟨a1, a2⟩ := List.pairwise_cons.mp ha
    obtain ⟨b1, b2⟩ := List.pairwise_cons.mp hb
    have e : x = y := by
      have h1 := (h x).mp List.mem_cons_self
      have h2 := (h y).mpr List.mem_cons_self
      rcases List.mem_cons.mp h1 with h1 | h1
      · exact h1
      · rcases List.mem_cons.mp h2 with h2 | h2
        · exact h2.symm
        · have := b1 x h1
          have := a1 y h2
          omega
    subst e
    rw [up_eq a2 b2 fun c => ?_]
    have hc := h c
    simp only [List.mem_cons] at hc
    refine ⟨fun m => ?_, fun m => ?_⟩
    · rcases hc.mp (.inr m) with e | e
      · have := a1 c m
        omega
      · exact e
    · rcases hc.mpr (.inr m) with e | e
      · have := b1 c m
        omega
      · exact e
theorem Gen.names {nm : List Nat} {ws : Wds} {s : Sys} (g : Gen nm ws s) : names s = nm.filter fun c => decide (c ∈ letters s) := by
  refine up_eq ?_ (List.Pairwise.sublist List.filter_sublist g.nms.up) fun c => ?_
  · unfold GW.names
    refine List.Pairwise.sublist List.filter_sublist ?_
    rw [uns_eq]
    exact List.pairwise_lt_range'
  · rw [List.mem_filter]
    unfold GW.names
    rw [List.mem_filter]
    refine ⟨fun ⟨h1, h2⟩ => ⟨?_, h2⟩, fun ⟨h1, h2⟩ => ⟨g.nms.un c h1, h2⟩⟩
    obtain ⟨e, he, hc⟩ := mem_letters.mp (of_decide_eq_true h2)
    obtain ⟨l, r, q, hh⟩ := g.eqs e he
    have : c ∈ sgs ∨ c ∈ nm := by
      rcases hh with rfl | rfl
      · exact hc.elim (q.ll c) (q.lr c)
      · exact hc.elim (q.lr c) (q.ll c)
    exact this.resolve_left fun z => sg_un z h1
/-! words by names -/
theorem wd_lookup : ∀ {nm : List Nat} {ws : Wds} (c : Nat), ws.length = nm.length → wd nm ws c = ((nm.zip ws).lookup c).getD [c]
  | [], ws, c, _ => rfl
  | x :: nm, [], c, h => by cases h
  | x :: nm, w :: ws, c, h => by
    have ih := wd_lookup (nm := nm) (ws := ws) c (Nat.succ.inj h)
    rw [List.zip_cons_cons, List.lookup_cons]
    by_cases e : c = x
    · subst e
      rw [wd_in List.mem_cons_self, List.idxOf_cons_self, beq_self_eq_true]
      rfl
    · rw [beq_eq_false_iff_ne.mpr e]
      show _ = ((nm.zip ws).lookup c).getD [c]
      rw [← ih]
      by_cases m : c ∈ nm
      · rw [wd_in m, wd_in (List.mem_cons_of_mem _ m)]
        have ei : List.idxOf c (x :: nm) = List.idxOf c nm + 1 := by
          rw [List.idxOf_cons, beq_eq_false_iff_ne.mpr (Ne.symm e)]
          rfl
        rw [ei]
        rfl
      · rw [wd_out m, wd_out]
        intro z
        rcases List.mem_cons.mp z with z | z
        · exact e z
        · exact m z
theorem lookup_filter {p : Nat → Bool} : ∀ (zs : List (Nat × List Nat)) (c : Nat), p c = true → (zs.filter fun z => p z.1).lookup c = zs.lookup c
  | [], c, _ => rfl
  | z :: zs, c, h => by
    have ih := lookup_filter zs c h
    rw [List.filter_cons, List.lookup_cons]
    by_cases e : c = z.1
    · subst e
      rw [h, if_pos rfl, List.lookup_cons, beq_self_eq_true]
    · rw [beq_eq_false_iff_ne.mpr e]
      by_cases m : p z.1 = true
      · rw [if_pos m, List.lookup_cons, beq_eq_false_iff_ne.mpr e]
        exact ih
      · rw [if_neg m]
        exact ih
def pick (L nm : List Nat) (ws : Wds) : List (Nat × List Nat) := (nm.zip ws).filter fun z => decide (z.1 ∈ L)
theorem zip_un {al be : Type} (zs : List (al × be)) : (zs.map (·.1)).zip (zs.map (·.2)) = zs := by
  induction zs with
  | nil => rfl
  | cons z zs ih =>
    rw [List.map_cons, List.map_cons, List.zip_cons_cons, ih]
theorem pick_fst (L nm : List Nat) (ws : Wds) (h : ws.length = nm.length) : (pick L nm ws).map (·.1) = nm.filter fun c => decide (c ∈ L) := by
  unfold pick
  have e : (nm.zip ws).map (·.1) = nm := by
    rw [List.map_fst_zip]
    omega
  conv => rhs; rw [← e]
  rw [List.filter_map]
  rfl
/-- .. all that the law asks -/
theorem Gen.good {nm : List Nat} {ws : Wds} {s : Sys} (g : Gen nm ws s) : (pick (letters s) nm ws).map (·.1) = GW.names s ∧ Gw s ((pick (letters s) nm ws).map (·.2)) ∧ Gw (s.map swp).reverse ((pick (letters s) nm ws).map (·.2)) := by
  have hn : (pick (letters s) nm ws).map (·.1) = GW.names s := by rw [pick_fst _ _ _ g.len, g.names]
  have hlen : ((pick (letters s) nm ws).map (·.2)).length = (GW.names s).length := by rw [← hn, List.length_map, List.length_map]
  have hin : ∀ c ∈ letters s, c ∈ sgs ∨ c ∈ nm := fun c hc => by
    obtain ⟨e, he, hc⟩ := mem_letters.mp hc
    obtain ⟨l, r, q, hh⟩ := g.eqs e he
    rcases hh with rfl | rfl
    · exact hc.elim (q.ll c) (q.lr c)
    · exact hc.elim (q.lr c) (q.ll c)
  have hwd : ∀ c ∈ letters s, wd (GW.names s) ((pick (letters s) nm ws).map (·.2)) c = wd nm ws c := fun c hc => by
    rw [wd_lookup c hlen, wd_lookup c g.len, ← hn, zip_un]
    unfold pick
    rw [lookup_filter (p := fun z => decide (z ∈ letters s)) _ c (decide_eq_true hc)]
  have hfill : ∀ l : List Nat, (∀ c ∈ l, c ∈ letters s) → fill (GW.names s) ((pick (letters s) nm ws).map (·.2)) l = fill nm ws l := by
    intro l
    induction l with
    | nil => exact fun _ => rfl
    | cons d l ih =>
      intro h
      rw [fill_cons, fill_cons, hwd d (h d List.mem_cons_self), ih fun c hc => h c (List.mem_cons_of_mem _ hc)]
  have ans : Ans (GW.names s) ((pick (letters s) nm ws).map (·.2)) s := fun e he => by
    rw [hfill e.1 fun c hc => mem_letters.mpr ⟨e, he, .inl hc⟩, hfill e.2 fun c hc => mem_letters.mpr ⟨e, he, .inr hc⟩]
    obtain ⟨l, r, q, hh⟩ := g.eqs e he
    rcases hh with rfl | rfl
    · exact q.eq
    · exact q.eq.symm
  have wl : ∀ w ∈ (pick (letters s) nm ws).map (·.2), Wd w ∧ w.length ≤ 9 := fun w hw => by
    obtain ⟨z, hz, rfl⟩ := List.mem_map.mp hw
    exact g.wl _ (List.of_mem_zip (a := z.1) (b := z.2) (List.mem_filter.mp hz).1).2
  have ck : CkS s := {
    lo := g.lo
    hi := by have := g.hi; omega
    sd := fun e he => ⟨fun c hc => (hin c (mem_letters.mpr ⟨e, he, .inl hc⟩)).imp_right (g.nms.un c), fun c hc => (hin c (mem_letters.mpr ⟨e, he, .inr hc⟩)).imp_right (g.nms.un c)⟩
    two := fun c hc => by
      by_cases m : c ∈ letters s
      · exact g.two c ((hin c m).resolve_left fun z => sg_un z hc)
      · rw [List.count_eq_zero_of_not_mem m]
        exact Nat.zero_le _
    forty := g.forty
    six := by
      rw [g.names]
      exact Nat.le_trans (List.length_filter_le _ _) g.nms.six }
  exact ⟨hn, gw_of ck hlen wl ans, gw_turn ck hlen wl ans⟩
end GW

set_option Elab.async false
set_option linter.all false
set_option maxRecDepth 100000
set_option maxHeartbeats 4000000
/-! _law_cell_at, _law_names, _law_word -/
namespace GW
open PySem PySem.Spec L2 TL PyProof.Rows
abbrev s__law_cell_at : Stmt := topS 58
theorem sc__law_cell_at : FnScope ["_law_script", "_law_k"] ["_law_script", "_law_k"] (defScope s__law_cell_at) := ⟨rfl, rfl, rfl, by decide +kernel, rfl, by decide +kernel, by decide +kernel⟩
abbrev s__law_word : Stmt := topS 60
theorem sc__law_word : FnScope ["_law_cell", "_law_signs", "_law_word_here", "_law_number", "_law_k"] ["_law_cell", "_law_signs"] (defScope s__law_word) := ⟨rfl, rfl, rfl, by decide +kernel, rfl, by decide +kernel, by decide +kernel⟩
def rMulS : R2 := fun x y H Q => ∃ z, x = .str z ∧ y = .int 2 ∧ z.length ≤ 50000 ∧ Q (.str (mkS (tl z ++ tl z))) H
theorem op_mulS {X : Cx} : OpR X (binaryOp .Mult) rMulS := by
  intro pn s σ H x y v u Q I rx ry h
  obtain ⟨z, rfl, rfl, hz, q⟩ := h
  obtain ⟨t, rfl⟩ := rx
  obtain ⟨t', rfl⟩ := ry
  have hl : z.length * 2 ≤ sizeLine := line_ge (by omega)
  refine PySem.P.mul_str (by decide) (fun _ _ => ?_) (fun _ _ => ?_) ?_
  · have h2 : ((2 : Int) ^ 63 - 1) / 2 = 4611686018427387903 := by decide
    rw [h2]
    omega
  · unfold Builtin.Str.tooLong
    exact decide_eq_false (Nat.not_lt.mpr hl)
  · rw [if_neg (by decide)]
    by_cases h0 : z.length = 0
    · have e : z = mkS [] := ext_tl (List.length_eq_zero_iff.mp (by rw [← len_tl]; exact h0))
      subst e
      rw [if_pos (by simp [mkS_len])]
      exact ⟨.str (mkS []), H, I, ⟨_, rfl⟩, q⟩
    · rw [if_neg (by simp [h0])]
      have e : (⟨(List.replicate (2 : Int).toNat z.cps).foldl (· ++ ·) #[]⟩ : Str) = mkS (tl z ++ tl z) := ext_tl (by
        show ((#[] ++ z.cps) ++ z.cps).toList = tl z ++ tl z
        rw [Array.toList_append, Array.toList_append]
        rfl)
      rw [e]
      refine ⟨?_, .str (mkS (tl z ++ tl z)), H, I.tok _, ⟨_, rfl⟩, q⟩
      rw [mkS_len, List.length_append, ← len_tl]
      omega
section
variable {P : Program} {w : World} {K : PySem.W.Frag} {mg : Str → Option Value} {base : Heap} {tS tU tE tL tN : Tok} {σ : L2.St} {H H' : Hp} {ta tb te : TE} {n : Nat}
theorem ev_mulS {l : List Nat} (h1 : EvD K ta σ H (.tx l)) (h2 : EvD K tb σ H (.int 2)) (hl : l.length ≤ 50000) : EvD K (tOp rMulS ta tb) σ H (.tx (l ++ l)) := ev_op h1 h2 fun H1 v w r1 r2 Q q => by
  cases r1
  cases r2
  exact ⟨mkS l, rfl, rfl, by rw [mkS_len]; exact hl, q _ H1 (Same.refl _) (.tx _)⟩
theorem ev_lenR {a : Addr} {vs : List V} (h : EvD K ta σ H (.raw (.ref a))) (ha : SqL K H a vs) : EvD K (tCB (cLenQ K) (tCons ta tNil)) σ H (.int (vs.length : Nat)) := fun H1 x Q q => h H1 x _ fun v H2 x2 r => by
  cases r
  exact ⟨a, vs, rfl, .inl ((x.trans x2).seq ha), q _ H2 x2 (.int _)⟩
/-- an item of a written list -/
theorem ev_ixD {ds : List D} {d : D} {i : Int} {m : Nat} (h1 : EvL K ta σ H ds) (h2 : EvD K tb σ H (.int i)) (e : i = (m : Int)) (h : ds[m]? = some d) : EvD K (tOp (rIxL K) ta tb) σ H d := fun H1 x Q q =>
  h1 H1 x _ fun a vs H2 x2 _ ha r2 => h2 H2 (x.trans x2) _ fun w H3 x3 r3 => by
    cases r3
    obtain ⟨v, hv, rv⟩ := (r2.mono (Tp.of (K := K) x3)).at h
    exact ⟨a, vs, i, v, rfl, rfl, x3.seq (SqL.of ha), atI_some hv e, q v H3 (x2.trans x3) rv⟩
def rInt1 : List V → Hp → VK → Prop := fun xs H Q => (∃ i, xs = [.int i] ∧ Q (.int i) H) ∨ ∃ k, xs = [.bl k] ∧ Q (.int (if k then 1 else 0)) H
theorem ev_intB {b : Bool} (h : EvD K ta σ H (.bl b)) : EvD K (tCB rInt1 (tCons ta tNil)) σ H (.int (if b then 1 else 0)) := fun H1 x Q q => h H1 x _ fun v H2 x2 r => by
  cases r
  exact .inr ⟨b, rfl, q _ H2 x2 (.int _)⟩
def spCell (K : PySem.W.Frag) : Sp := fun vs H Q _ => ∃ (a : Addr) (xs : List Int) (k : Nat), vs = [.ref a, .int k] ∧ SqL K H a (xs.map V.int) ∧ ∀ v H', Same H H' → R K H' v (.int (xs.getD k 0)) → Q v H'
theorem ok_cell_at {f : Addr} {fd : FuncData} {k : Nat} (F : Fun K "_law_cell_at" "_law_cell_at" s__law_cell_at f fd) (T : Txt mg tS tU tE tL tN) : FnOk P w K mg base CX0 (k + 1) f fd ["_law_script", "_law_k"] (spCell K) := by
  refine F.ok sc__law_cell_at (fun vs H Q E h => ?_) (fun cdv A outer s H vs Q E hr h => ?_)
  · obtain ⟨a, xs, k, rfl, _⟩ := h
    rfl
  · obtain ⟨a, xs, k, rfl, hx, q⟩ := h
    have S0 : Sl K H (start ["_law_script", "_law_k"] [.ref a, .int k]) [some (.raw (.ref a)), some (.int ((k : Nat) : Int))] := Sl.start (.cons (.raw _) (.cons (.int _) .nil))
    refine ⟨_, (pss_cons (ps_if (pt_cmpR op_lt (pv 1) (pe_callB (call_lenQK (K := K)) (by rfl) T.zlen PySem.boot_len (pa_cons (pv 0) pa_nil)) (nomark _))
    (pss_one (ps_ret (pe_ix (ix_listK (K := K)) (pv 0) (pv 1) (fun _ _ => rfl))))
    pss_nil)
    (pss_one (ps_ret pe_int))), ?_⟩
    refine st_if (et_test (ev_lt (ev_var S0 rfl) (ev_lenR (ev_var S0 rfl) hx))) (fun hb H1 x1 => ?_) (fun hb H1 x1 => ?_)
    · have hk : k < xs.length := by
        have := of_decide_eq_true hb
        rw [List.length_map] at this
        omega
      have e : (xs.map D.int)[k]? = some (.int (xs.getD k 0)) := by
        rw [List.getElem?_map, List.getD_eq_getElem?_getD, List.getElem?_eq_getElem hk]
        rfl
      have S1 := S0.mono (Tp.of (K := K) x1)
      exact st_ret (ev_ixL (ev_var S1 rfl) (x1.seq hx) (RL.ofInts xs) (ev_var S1 rfl) rfl e) fun v H2 x2 r2 => q v H2 (x1.trans x2) r2
    · have hk : ¬ k < xs.length := by
        have := of_decide_eq_false hb
        rw [List.length_map] at this
        omega
      have e : xs.getD k 0 = 0 := by
        rw [List.getD_eq_getElem?_getD, List.getElem?_eq_none (by omega)]
        rfl
      dsimp only [tNext]
      refine st_ret (K := K) ev_int fun v H2 x2 r2 => q v H2 (x1.trans x2) ?_
      rw [e]
      exact r2
theorem ev_cell {a : Addr} {xs : List Int} {k : Nat} {i : Int} (h1 : EvD K ta σ H (.raw (.ref a))) (ha : SqL K H a (xs.map V.int)) (h2 : EvD K tb σ H (.int i)) (e : i = (k : Int)) : EvD K (tCall (spCell K) [] E0 (tCons ta (tCons tb tNil))) σ H (.int (xs.getD k 0)) := fun H1 x Q q =>
  h1 H1 x _ fun v H2 x2 r2 => h2 H2 (x.trans x2) _ fun w H3 x3 r3 => by
    cases r2
    cases r3
    subst e
    exact ⟨a, xs, k, rfl, ((x.trans x2).trans x3).seq ha, fun v H4 x4 r4 => q v H4 ((x2.trans x3).trans x4) r4⟩
/-! ### words -/
def num (cell : Int) : Nat → Int
  | 0 => cell * 48271 % 2147483647
  | k + 1 => (num cell k * num cell k + 69621 * num cell k + (k : Int)) % 2147483629
theorem num_lo (cell : Int) (k : Nat) : 0 ≤ num cell k := by
  cases k with
  | zero => exact Int.emod_nonneg _ (by decide)
  | succ k => exact Int.emod_nonneg _ (by decide)
theorem num_hi (cell : Int) (k : Nat) : num cell k < 2147483647 := by
  cases k with
  | zero => exact Int.emod_lt_of_pos _ (by decide)
  | succ k =>
    have : num cell (k + 1) < 2147483629 := Int.emod_lt_of_pos _ (by decide)
    omega
def wlen (cell : Int) : Nat := [0, 1, 2, 3, 5, 9].getD (cell % 6).toNat 0
def wat (cell : Int) (sg : List Nat) (k : Nat) : Nat := sg.getD (num cell (k + 1) / 7 % (sg.length : Nat)).toNat 0
def wordOf (cell : Int) (sg : List Nat) : List Nat := (List.range (wlen cell)).map (wat cell sg)
theorem six_ix (cell : Int) : (cell % 6).toNat < 6 ∧ cell % 6 = ((cell % 6).toNat : Nat) := by omega
theorem wlen_le (cell : Int) : wlen cell ≤ 9 := by
  unfold wlen
  obtain ⟨h, _⟩ := six_ix cell
  generalize (cell % 6).toNat = k at h
  have : k = 0 ∨ k = 1 ∨ k = 2 ∨ k = 3 ∨ k = 4 ∨ k = 5 := by omega
  rcases this with rfl | rfl | rfl | rfl | rfl | rfl <;> decide
theorem sg_ix {sg : List Nat} (h : sg ≠ []) (i : Int) : (i % (sg.length : Nat)).toNat < sg.length ∧ i % (sg.length : Nat) = ((i % (sg.length : Nat)).toNat : Nat) := by
  have hp := List.length_pos_iff.mpr h
  have h1 := Int.emod_nonneg i (b := (sg.length : Int)) (by omega)
  have h2 := Int.emod_lt_of_pos i (b := (sg.length : Int)) (by omega)
  omega
theorem getD_in {l : List Nat} {k : Nat} (h : k < l.length) : l[k]? = some (l.getD k 0) := by
  rw [List.getD_eq_getElem?_getD, List.getElem?_eq_getElem h]
  rfl
theorem wordOf_mem {cell : Int} {sg : List Nat} (h : sg ≠ []) : ∀ c ∈ wordOf cell sg, c ∈ sg := fun c hc => by
  obtain ⟨k, _, rfl⟩ := List.mem_map.mp hc
  exact List.mem_of_getElem? (getD_in (sg_ix h (num cell (k + 1) / 7)).1)
theorem wordOf_len (cell : Int) (sg : List Nat) : (wordOf cell sg).length ≤ 9 := by
  unfold wordOf
  rw [List.length_map, List.length_range]
  exact wlen_le cell
def pWord (ds : List D) (d : D) : Prop := ∃ cell sg, ds = [.int cell, .tx sg] ∧ sg ≠ [] ∧ sg.length ≤ 100 ∧ d = .tx (wordOf cell sg)
theorem ok_word {f : Addr} {fd : FuncData} {k : Nat} (F : Fun K "_law_word" "_law_word" s__law_word f fd) (T : Txt mg tS tU tE tL tN) : FnOk P w K mg base CX0 (k + 1) f fd ["_law_cell", "_law_signs"] (spD K pWord) := by
  refine F.ok sc__law_word (fun vs H Q E h => ?_) (fun cdv A outer s H vs Q E hr h => ?_)
  · obtain ⟨ds, d, r, ⟨_, _, rfl, _⟩, _⟩ := h
    exact r.len
  · obtain ⟨ds, d, r, ⟨cell, sg, rfl, h1, h2, rfl⟩, q⟩ := h
    have S0 : Sl K H (start ["_law_cell", "_law_signs", "_law_word_here", "_law_number", "_law_k"] vs) [some (.int cell), some (.tx sg), none, none, none] := Sl.start r
    refine ⟨_, (pss_cons (ps_set (i := 2) sc__law_word.nd rfl (.inl rfl) pe_str)
    (pss_cons (ps_set (i := 3) sc__law_word.nd rfl (.inl rfl) (pe_op op_mod (pe_op op_mul (pv 0) pe_int) pe_int))
    (pss_cons (ps_for PassesOwn.never rfl (pi_range1 (by rfl) T.zrange (pa_cons (pe_ix (ix_listK (K := K)) (pe_lst (pa_cons pe_int (pa_cons pe_int (pa_cons pe_int (pa_cons pe_int (pa_cons pe_int (pa_cons pe_int pa_nil))))))) (pe_op op_mod (pv 0) pe_int) (fun _ _ => rfl)) pa_nil)) (pg_name (i := 4) sc__law_word.nd rfl (.inl rfl))
    (pss_cons (ps_set (i := 3) sc__law_word.nd rfl (.inl rfl) (pe_op op_mod (pe_op op_add (pe_op op_add (pe_op op_mul (pv 3) (pv 3)) (pe_op op_mul pe_int (pv 3))) (pv 4)) pe_int))
    (pss_one (ps_set (i := 2) sc__law_word.nd rfl (.inl rfl) (pe_op op_addS (pv 2) (pe_ix ix_str (pv 1) (pe_op op_mod (pe_op op_fdiv (pv 3) pe_int) (pe_callB call_lenS (by rfl) T.zlen PySem.boot_len (pa_cons (pv 1) pa_nil))) (fun _ _ => rfl)))))))
    (pss_one (ps_ret (pv 2)))))), ?_⟩
    refine st_set (K := K) S0 ev_str fun σ1 H1 x1 S1 => ?_
    dsimp only
    refine st_set S1 (EvD.to (e := .int (num cell 0)) (ev_mod (ev_mul (ev_var S1 rfl) ev_int (.inr (by decide))) ev_int (by decide)) rfl) fun σ2 H2 x2 S2 => ?_
    dsimp only
    obtain ⟨i1, i2⟩ := six_ix cell
    have hd : ([D.int 0, .int 1, .int 2, .int 3, .int 5, .int 9])[(cell % 6).toNat]? = some (.int ((wlen cell : Nat) : Int)) := by
      unfold wlen
      generalize (cell % 6).toNat = k at i1
      have : k = 0 ∨ k = 1 ∨ k = 2 ∨ k = 3 ∨ k = 4 ∨ k = 5 := by omega
      rcases this with rfl | rfl | rfl | rfl | rfl | rfl <;> rfl
    have hw9 := wlen_le cell
    refine st_for (xs := List.range (wlen cell)) (enc := fun k => .int ((k : Nat) : Int)) (S := Tp K) (it_rng1 (eva_cons (ev_ixD (el_lst (eva_cons ev_int (eva_cons ev_int (eva_cons ev_int (eva_cons ev_int (eva_cons ev_int (eva_cons ev_int eva_nil)))))) (by show 6 ≤ sizeLine; decide)) (ev_mod (ev_var S2 rfl) ev_int (by decide)) i2 hd) eva_nil) rfl (by omega)) fun H3 x3 =>
      ⟨fun k σ' H' => Same H3 H' ∧ ∃ o, Sl K H' σ' [some (.int cell), some (.tx sg), some (.tx ((List.range k).map (wat cell sg))), some (.int (num cell k)), o], ⟨Same.refl _, none, S2.mono (Tp.of x3)⟩, fun k σ' H' _ h => Tp.of h.1, fun k u x σ' H' H4 hk ⟨y, o, S'⟩ x4 rd => ?_, fun σ' H' ⟨y, o, S'⟩ => ?_⟩
    · have hk2 : k < wlen cell := by
        have := (List.getElem?_eq_some_iff.mp hk).1
        rwa [List.length_range] at this
      rw [List.getElem?_range hk2] at hk
      cases hk
      refine gd_name 4 x σ' _ H4 _ rd (S'.mono (Tp.of x4)) fun σ5 S5 => ?_
      have b1 := num_lo cell k
      have b2 := num_hi cell k
      refine st_set S5 (EvD.to (e := .int (num cell (k + 1))) (ev_mod (ev_add (ev_add (ev_mul (ev_var S5 rfl) (ev_var S5 rfl) (.inl (by omega))) (ev_mul ev_int (ev_var S5 rfl) (.inl (by decide)))) (ev_var S5 rfl)) ev_int (by decide)) rfl) fun σ6 H6 x6 S6 => ?_
      obtain ⟨j1, j2⟩ := sg_ix h1 (num cell (k + 1) / 7)
      have hp := List.length_pos_iff.mpr h1
      refine st_set S6 (EvD.to (e := .tx ((List.range (k + 1)).map (wat cell sg))) (ev_addS (m := [wat cell sg k]) (ev_var S6 rfl) (ev_ixS (n := (num cell (k + 1) / 7 % (sg.length : Nat)).toNat) (ev_var S6 rfl) (ev_mod (ev_fdiv (ev_var S6 rfl) ev_int ⟨by decide, by decide⟩) (ev_lenS (ev_var S6 rfl) (line_ge (by omega))) (by omega)) j2 (getD_in j1) (line_ge (by omega))) (line_ge ?_)) ?_) fun σ7 H7 x7 S7 => ?_
      · rw [List.length_map, List.length_range]
        show k + 1 ≤ _
        omega
      · rw [List.range_succ, List.map_append]
        rfl
      · exact ⟨((y.trans x4).trans x6).trans x7, _, S7⟩
    · rw [List.length_range] at S'
      dsimp only
      exact st_ret (ev_var S' rfl) fun v H4 x4 r4 => q v H4 ((((x1.trans x2).trans x3).trans y).trans x4) r4
end
end GW

set_option Elab.async false
set_option linter.all false
set_option maxRecDepth 100000
set_option maxHeartbeats 4000000
/-! _law_names -/
namespace GW
open PySem PySem.Spec L2 TL PyProof.Rows
abbrev s__law_names : Stmt := topS 59
theorem sc__law_names : FnScope ["_law_cell", "_law_names_here", "_law_many", "_law_k", "_law_name", "_law_at", "_law_known"] ["_law_cell"] (defScope s__law_names) := ⟨rfl, rfl, rfl, by decide +kernel, rfl, by decide +kernel, by decide +kernel⟩
def manyOf (c : Int) : Int := if c / 1560 % 8 = 5 then 5 + c % 2 else 1 + c % 4
theorem many_bd (c : Int) : 1 ≤ manyOf c ∧ manyOf c ≤ 6 := by
  unfold manyOf
  by_cases h : c / 1560 % 8 = 5
  · rw [if_pos h]
    omega
  · rw [if_neg h]
    omega
def stepOf (c : Int) : Int := [1, 5, 9].getD (c / 104 % 3).toNat 1
def chOf (c : Int) (k : Nat) : Nat := 65 + ((c / 4 + stepOf c * (k : Nat)) % 26).toNat
theorem stepOf_is (c : Int) : stepOf c = 1 ∨ stepOf c = 5 ∨ stepOf c = 9 := by
  unfold stepOf
  have h : (c / 104 % 3).toNat = 0 ∨ (c / 104 % 3).toNat = 1 ∨ (c / 104 % 3).toNat = 2 := by omega
  rcases h with h | h | h <;> rw [h]
  · exact .inl rfl
  · exact .inr (.inl rfl)
  · exact .inr (.inr rfl)
theorem ch_un (c : Int) (k : Nat) : chOf c k ∈ uns := by
  rw [mem_uns]
  unfold chOf
  omega
theorem ch_ne (c : Int) {j k : Nat} (hj : j < k) (hk : k < 6) : chOf c j ≠ chOf c k := by
  unfold chOf
  intro e
  rcases stepOf_is c with h | h | h <;> rw [h] at e <;> omega
theorem uns_at {n : Nat} (h : n < 26) : (tl (Str.ofString "ABCDEFGHIJKLMNOPQRSTUVWXYZ"))[n]? = some (65 + n) := by
  have e : tl (Str.ofString "ABCDEFGHIJKLMNOPQRSTUVWXYZ") = List.range' 65 26 := uns_eq
  rw [e, List.getElem?_range' h]
  rw [Nat.one_mul]
/-- where a name is put in -/
theorem put_in : ∀ {nm : List Nat} (c : Nat), nm.Pairwise (· < ·) → c ∉ nm → ∃ A B, nm = A ++ B ∧ (nm.filter fun x => decide (x < c)) = A ∧ (A ++ [c] ++ B).Pairwise (· < ·)
  | [], c, _, _ => ⟨[], [], rfl, rfl, List.pairwise_singleton _ _⟩
  | x :: nm, c, hp, hn => by
    obtain ⟨h1, h2⟩ := List.pairwise_cons.mp hp
    by_cases hx : x < c
    · obtain ⟨A, B, e, f, p⟩ := put_in c h2 fun m => hn (List.mem_cons_of_mem _ m)
      refine ⟨x :: A, B, by rw [e]; rfl, ?_, ?_⟩
      · rw [List.filter_cons, decide_eq_true hx, if_pos rfl, f]
      · show (x :: (A ++ [c] ++ B)).Pairwise _
        refine List.pairwise_cons.mpr ⟨fun y hy => ?_, p⟩
        simp only [List.mem_append, List.mem_singleton] at hy
        rcases hy with (hy | hy) | hy
        · exact h1 y (by rw [e]; exact List.mem_append_left _ hy)
        · rw [hy]
          exact hx
        · exact h1 y (by rw [e]; exact List.mem_append_right _ hy)
    · have hlt : c < x := by
        have : c ≠ x := fun e => hn (e ▸ List.mem_cons_self)
        omega
      refine ⟨[], x :: nm, rfl, ?_, ?_⟩
      · refine List.filter_eq_nil_iff.mpr fun y hy => ?_
        rcases List.mem_cons.mp hy with rfl | hy
        · simpa using hx
        · have := h1 y hy
          simp only [decide_eq_true_eq]
          omega
      · show (c :: x :: nm).Pairwise _
        refine List.pairwise_cons.mpr ⟨fun y hy => ?_, hp⟩
        rcases List.mem_cons.mp hy with rfl | hy
        · exact hlt
        · have := h1 y hy
          omega
theorem lt_one (x c : Nat) : decide (([x] : List Nat) < [c]) = decide (x < c) := by
  by_cases h : x < c
  · rw [decide_eq_true h, decide_eq_true (List.cons_lt_cons_iff.mpr (.inl h))]
  · rw [decide_eq_false h, decide_eq_false]
    intro z
    rcases List.cons_lt_cons_iff.mp z with z | ⟨_, z⟩
    · exact h z
    · exact absurd z (List.lt_irrefl _)
section
variable {P : Program} {w : World} {K : PySem.W.Frag} {mg : Str → Option Value} {base : Heap} {tS tU tE tL tN : Tok} {σ : L2.St} {H H' : Hp} {ta tb te : TE} {n : Nat}
def spNames (K : PySem.W.Frag) : Sp := fun vs H Q _ => ∃ c : Int, vs = [.int c] ∧ ∀ v H' nm, Same H H' → Nms nm → R K H' v (.tx nm) → Q v H'
theorem ok_names {f : Addr} {fd : FuncData} {k : Nat} (F : Fun K "_law_names" "_law_names" s__law_names f fd) (T : Txt mg tS tU tE tL tN) : FnOk P w K mg base CX0 (k + 1) f fd ["_law_cell"] (spNames K) := by
  refine F.ok sc__law_names (fun vs H Q E h => ?_) (fun cdv A outer s H vs Q E hr h => ?_)
  · obtain ⟨c, rfl, _⟩ := h
    rfl
  · obtain ⟨c, rfl, q⟩ := h
    have S0 : Sl K H (start ["_law_cell", "_law_names_here", "_law_many", "_law_k", "_law_name", "_law_at", "_law_known"] [.int c]) [some (.int c), none, none, none, none, none, none] := Sl.start (.one (.int c))
    refine ⟨_, (pss_cons (ps_set (i := 1) sc__law_names.nd rfl (.inl rfl) pe_str)
    (pss_cons (ps_set (i := 2) sc__law_names.nd rfl (.inl rfl) (pe_ix (ix_listK (K := K)) (pe_lst (pa_cons (pe_op op_add pe_int (pe_op op_mod (pv 0) pe_int)) (pa_cons (pe_op op_add pe_int (pe_op op_mod (pv 0) pe_int)) pa_nil))) (pe_callTy call_int1 (by rfl) T.zint (by decide +kernel) (pa_cons (pe_cmpR op_eq (pe_op op_mod (pe_op op_fdiv (pv 0) pe_int) pe_int) pe_int (nomark _)) pa_nil)) (fun _ _ => rfl)))
    (pss_cons (ps_for PassesOwn.never rfl (pi_range1 (by rfl) T.zrange (pa_cons (pv 2) pa_nil)) (pg_name (i := 3) sc__law_names.nd rfl (.inl rfl))
    (pss_cons (ps_set (i := 4) sc__law_names.nd rfl (.inr rfl) (pe_ix ix_str pe_str (pe_op op_mod (pe_op op_add (pe_op op_fdiv (pv 0) pe_int) (pe_op op_mul (pe_ix (ix_listK (K := K)) (pe_lst (pa_cons pe_int (pa_cons pe_int (pa_cons pe_int pa_nil)))) (pe_op op_mod (pe_op op_fdiv (pv 0) pe_int) pe_int) (fun _ _ => rfl)) (pv 3))) pe_int) (fun _ _ => rfl)))
    (pss_cons (ps_set (i := 5) sc__law_names.nd rfl (.inl rfl) (pe_callB (call_lenQK (K := K)) (by rfl) T.zlen PySem.boot_len (pa_cons (pe_lc (own := [("_law_known", 6)]) (g := gName 6) (by rfl) sc__law_names.nd (pi_str (pv 1)) (blkOk_by (own := [("_law_known", 6)]) (N := ["_law_cell", "_law_names_here", "_law_many", "_law_k", "_law_name", "_law_at", "_law_known"]) (sc := defScope s__law_names) (by decide +kernel)) (fun _ _ _ _ _ => pg_name (i := 6) sc__law_names.nd rfl (Or.inl rfl)) (fun _ _ _ _ _ => pts_one (pt_cmpR op_ltS (pv 6) (pv 4) (nomark _))) (fun _ _ _ _ _ => (pv 6))) pa_nil)))
    (pss_one (ps_set (i := 1) sc__law_names.nd rfl (.inl rfl) (pe_op op_addS (pe_op op_addS (pe_slice sl_str (pv 1) po_none (po_some (pv 5))) (pv 4)) (pe_slice sl_str (pv 1) (po_some (pv 5)) po_none)))))))
    (pss_one (ps_ret (pv 1)))))), ?_⟩
    refine st_set (K := K) S0 ev_str fun σ1 H1 x1 S1 => ?_
    dsimp only
    have hm : ([D.int (1 + c % 4), .int (5 + c % 2)])[if decide (c / 1560 % 8 = 5) = true then 1 else 0]? = some (.int (manyOf c)) := by
      unfold manyOf
      by_cases h : c / 1560 % 8 = 5
      · rw [decide_eq_true h, if_pos rfl, if_pos h]
        rfl
      · rw [decide_eq_false h, if_neg Bool.false_ne_true, if_neg h]
        rfl
    have hi : (if decide (c / 1560 % 8 = 5) = true then (1 : Int) else 0) = ((if decide (c / 1560 % 8 = 5) = true then 1 else 0 : Nat) : Int) := by
      by_cases h : c / 1560 % 8 = 5
      · rw [decide_eq_true h]
        rfl
      · rw [decide_eq_false h]
        rfl
    refine st_set S1 (ev_ixD (el_lst (eva_cons (ev_add ev_int (ev_mod (ev_var S1 rfl) ev_int (by decide))) (eva_cons (ev_add ev_int (ev_mod (ev_var S1 rfl) ev_int (by decide))) eva_nil)) (by show 2 ≤ sizeLine; decide)) (ev_intB (ev_eqI (ev_mod (ev_fdiv (ev_var S1 rfl) ev_int ⟨by decide, by decide⟩) ev_int (by decide)) ev_int)) hi hm) fun σ2 H2 x2 S2 => ?_
    dsimp only
    obtain ⟨m1, m6⟩ := many_bd c
    obtain ⟨m, em⟩ : ∃ m : Nat, manyOf c = (m : Int) := ⟨(manyOf c).toNat, by omega⟩
    refine st_for (xs := List.range m) (enc := fun k => .int ((k : Nat) : Int)) (S := Tp K) (it_rng1 (eva_cons (ev_var S2 rfl) eva_nil) em (by omega)) fun H3 x3 =>
      ⟨fun k σ' H' => Same H3 H' ∧ ∃ nm o3 o4 o5, nm.Pairwise (· < ·) ∧ (∀ x ∈ nm, ∃ j, j < k ∧ x = chOf c j) ∧ nm.length = k ∧ Sl K H' σ' [some (.int c), some (.tx nm), some (.int (manyOf c)), o3, o4, o5, none], ⟨Same.refl _, [], none, none, none, .nil, (fun x hx => by cases hx), rfl, S2.mono (Tp.of x3)⟩, fun k σ' H' _ h => Tp.of h.1, fun k u x σ' H' H4 hk ⟨y, nm, o3, o4, o5, p1, p2, p3, S'⟩ x4 rd => ?_, fun σ' H' ⟨y, nm, o3, o4, o5, p1, p2, p3, S'⟩ => ?_⟩
    · have hk2 : k < m := by
        have := (List.getElem?_eq_some_iff.mp hk).1
        rwa [List.length_range] at this
      rw [List.getElem?_range hk2] at hk
      cases hk
      have hk6 : k < 6 := by omega
      refine gd_name 3 x σ' _ H4 _ rd (S'.mono (Tp.of x4)) fun σ5 S5 => ?_
      have hst : ([D.int 1, .int 5, .int 9])[(c / 104 % 3).toNat]? = some (.int (stepOf c)) := by
        unfold stepOf
        have h : (c / 104 % 3).toNat = 0 ∨ (c / 104 % 3).toNat = 1 ∨ (c / 104 % 3).toNat = 2 := by omega
        rcases h with h | h | h <;> rw [h] <;> rfl
      have b26 : ((c / 4 + stepOf c * (k : Nat)) % 26).toNat < 26 := by omega
      refine st_set S5 (ev_ixS (n := ((c / 4 + stepOf c * (k : Nat)) % 26).toNat) ev_str (ev_mod (ev_add (ev_fdiv (ev_var S5 rfl) ev_int ⟨by decide, by decide⟩) (ev_mul (ev_ixD (el_lst (eva_cons ev_int (eva_cons ev_int (eva_cons ev_int eva_nil))) (by show 3 ≤ sizeLine; decide)) (ev_mod (ev_fdiv (ev_var S5 rfl) ev_int ⟨by decide, by decide⟩) ev_int (by decide)) (by omega) hst) (ev_var S5 rfl) (.inr ⟨by omega, by omega⟩))) ev_int (by decide)) (by omega) (uns_at b26) (by rw [show (tl (Str.ofString "ABCDEFGHIJKLMNOPQRSTUVWXYZ")).length = 26 from len_uns]; decide)) fun σ6 H6 x6 S6 => ?_
      have S6 : Sl K H6 σ6 [some (.int c), some (.tx nm), some (.int (manyOf c)), some (.int ((k : Nat) : Int)), some (.tx [chOf c k]), o5, none] := S6
      refine st_set S6 (ev_lenL (el_lc (xs := nm) (enc := fun c => .tx [c]) (f := fun c => .tx [c]) (p := fun x => decide (x < chOf c k)) (fs := fun c ss => ss.set 6 (some (.tx [c]))) S6 (it_str (ev_var S6 rfl)).same (fun c _ => go_name 6) (by omega) fun x hx σ' H' z S' => ⟨EvT.to (et_test (ev_ltS (ev_var S' rfl) (ev_var S' rfl))) (lt_one _ _), fun _ => ev_var S' rfl⟩)) fun σ7 H7 x7 S7 => ?_
      have hfresh : chOf c k ∉ nm := fun hm => by
        obtain ⟨j, hj, e⟩ := p2 _ hm
        exact ch_ne c hj hk6 e.symm
      obtain ⟨A1, B1, e1, f1, up⟩ := put_in (chOf c k) p1 hfresh
      have elen : ((((nm.filter fun x => decide (x < chOf c k)).map fun c => D.tx [c]).length : Nat) : Int) = ((A1.length : Nat) : Int) := by rw [List.length_map, f1]
      have hA : A1.length ≤ nm.length := by
        rw [e1, List.length_append]
        omega
      have c1 : cutS (mkS nm) none (some ((A1.length : Nat) : Int)) = mkS A1 := by rw [cutS_to, e1, List.take_left]
      have c2 : cutS (mkS nm) (some ((A1.length : Nat) : Int)) none = mkS B1 := by rw [cutS_from, e1, List.drop_left]
      have hlen : nm.length = A1.length + B1.length := by rw [e1, List.length_append]
      refine st_set S7 (ev_addS (l := A1 ++ [chOf c k]) (m := B1) (ev_addS (l := A1) (m := [chOf c k]) (ev_slS (l := nm) (m := A1) (ev_var S7 rfl) evo_none (evo_some (EvD.to (ev_var S7 rfl) (congrArg D.int elen))) (line_ge (by omega)) c1) (ev_var S7 rfl) (line_ge (by show _ + 1 ≤ _; omega))) (ev_slS (l := nm) (m := B1) (ev_var S7 rfl) (evo_some (EvD.to (ev_var S7 rfl) (congrArg D.int elen))) evo_none (line_ge (by omega)) c2) (line_ge (by rw [List.length_append, List.length_singleton]; omega))) fun σ8 H8 x8 S8 => ?_
      refine ⟨(((y.trans x4).trans x6).trans x7).trans x8, A1 ++ [chOf c k] ++ B1, _, _, _, up, fun x hx => ?_, ?_, S8⟩
      · simp only [List.mem_append, List.mem_singleton] at hx
        have old : x ∈ nm → ∃ j, j < k + 1 ∧ x = chOf c j := fun hm => by
          obtain ⟨j, hj, e⟩ := p2 x hm
          exact ⟨j, Nat.lt_succ_of_lt hj, e⟩
        rcases hx with (hx | hx) | hx
        · exact old (by rw [e1]; exact List.mem_append_left _ hx)
        · exact ⟨k, Nat.lt_succ_self _, hx⟩
        · exact old (by rw [e1]; exact List.mem_append_right _ hx)
      · simp only [List.length_append, List.length_singleton]
        omega
    · rw [List.length_range] at p2 p3
      dsimp only
      have nms : Nms nm := ⟨p1, fun x hx => by obtain ⟨j, _, e⟩ := p2 x hx; rw [e]; exact ch_un c j, by omega, by omega⟩
      exact st_ret (ev_var S' rfl) fun v H4 x4 r4 => q v H4 nm ((((x1.trans x2).trans x3).trans y).trans x4) nms r4
end
end GW

set_option Elab.async false
set_option linter.all false
set_option maxRecDepth 100000
set_option maxHeartbeats 4000000
/-! _law_left -/
namespace GW
open PySem PySem.Spec L2 TL PyProof.Rows
abbrev s__law_left : Stmt := topS 61
theorem sc__law_left : FnScope ["_law_cells", "_law_names_here", "_law_words", "_law_signs", "_law_uses", "_law_most", "_law_wide", "_law_side", "_law_full", "_law_cell", "_law_pool", "_law_letter", "_law_word_here", "_law_name"] ["_law_cells", "_law_names_here", "_law_words", "_law_signs", "_law_uses", "_law_most", "_law_wide"] (defScope s__law_left) := ⟨rfl, rfl, rfl, by decide +kernel, rfl, by decide +kernel, by decide +kernel⟩
theorem fnd_mem {c : Nat} {l : List Nat} (h : c ∈ l) : fnd c l = (l.idxOf c : Nat) := if_pos h
/-- the uses that are left -/
def Us (nm : List Nat) (kvs : List (Key × V)) (u : Nat → Int) : Prop := (∀ c ∈ nm, valV kvs (ky c) = some (.int (u c))) ∧ kvs.length ≤ 100
theorem us_put {nm : List Nat} {kvs : List (Key × V)} {u : Nat → Int} (h : Us nm kvs u) {c : Nat} (hc : c ∈ nm) (i : Int) : Us nm (putK kvs (ky c) (.int i)) (fun d => if d = c then i else u d) := by
  refine ⟨fun d hd => ?_, ?_⟩
  · rw [valV_put]
    show _ = some (V.int (if d = c then i else u d))
    by_cases e : d = c
    · subst e
      rw [if_pos rfl, if_pos rfl]
    · rw [if_neg fun z => e (ky_inj.mp z), if_neg e]
      exact h.1 d hd
  · unfold putK
    have ha : (kvs.any fun kv => decide (kv.1 = ky c)) = true := by
      rw [valV_any, h.1 c hc]
      rfl
    rw [if_pos ha, List.length_map]
    exact h.2
/-- all but the one at C -/
def SX (C : Addr) (H H' : Hp) : Prop := ∀ b o, b ≠ C → H b = some o → H' b = some o
theorem SX.of {C : Addr} {H H' : Hp} (x : Same H H') : SX C H H' := fun b o _ e => x b o e
theorem SX.same {C : Addr} {H H1 H2 : Hp} (x : SX C H H1) (y : Same H1 H2) : SX C H H2 := fun b o n e => y _ _ (x b o n e)
theorem SX.trans {C : Addr} {H H1 H2 : Hp} (x : SX C H H1) (y : SX C H1 H2) : SX C H H2 := fun b o n e => y b o n (x b o n e)
theorem SX.mut {C : Addr} {H H1 : Hp} {o : HO} (x : SX C H H1) : SX C H (upd H1 C o) := fun b p n e => by
  rw [upd_ne n]
  exact x b p n e
theorem SX.tp {K : PySem.W.Frag} {C : Addr} {H H' : Hp} {kvs : List (Key × V)} (x : SX C H H') (h : H C = some (.dK kvs)) : Tp K H H' := ⟨fun b xs q => by
  rcases q with (q | ⟨o, q⟩) | q
  · exact .inl (.inl (x b _ (by rintro rfl; rw [h] at q; cases q) q))
  · exact .inl (.inr ⟨o, x b _ (by rintro rfl; rw [h] at q; cases q) q⟩)
  · exact .inr q, fun b o u q => x b _ (by rintro rfl; rw [h] at q; cases q) q⟩
theorem ne_dict {C A : Addr} {H : Hp} {kvs : List (Key × V)} {vs : List V} (h : H C = some (.dK kvs)) (a : H A = some (.lst vs)) : A ≠ C := by
  rintro rfl
  rw [h] at a
  cases a
section
variable {P : Program} {w : World} {K : PySem.W.Frag} {mg : Str → Option Value} {base : Heap} {tS tU tE tL tN : Tok} {σ : L2.St} {H H' : Hp} {ta tb te : TE} {n : Nat}
/-- what both sides' makers know -/
structure Kn (K : PySem.W.Frag) (H : Hp) (nm : List Nat) (ws : Wds) (B : Addr) (us : List V) : Prop where
  nms : Nms nm
  b : H B = some (.lst us)
  r : RL K H us (ws.map D.tx)
  len : ws.length = nm.length
  wl : ∀ w ∈ ws, Wd w ∧ w.length ≤ 9
theorem Kn.sx {nm : List Nat} {ws : Wds} {B C : Addr} {us : List V} {kvs : List (Key × V)} (h : Kn K H nm ws B us) (c : H C = some (.dK kvs)) (x : SX C H H') : Kn K H' nm ws B us := ⟨h.nms, x _ _ (ne_dict c h.b) h.b, h.r.mono (x.tp c), h.len, h.wl⟩
theorem Kn.same {nm : List Nat} {ws : Wds} {B : Addr} {us : List V} (h : Kn K H nm ws B us) (x : Same H H') : Kn K H' nm ws B us := ⟨h.nms, x _ _ h.b, h.r.mono (Tp.of x), h.len, h.wl⟩
/-- an unknown's word -/
theorem ev_word {nm : List Nat} {ws : Wds} {B : Addr} {us : List V} {c : Nat} (kn : Kn K H nm ws B us) (hc : c ∈ nm) (h1 : EvD K ta σ H (.raw (.ref B))) {i : Int} (h2 : EvD K tb σ H (.int i)) (e : i = (nm.idxOf c : Nat)) : EvD K (tOp (rIxL K) ta tb) σ H (.tx (wd nm ws c)) := by
  rw [wd_in hc]
  exact ev_ixL h1 (SqL.of kn.b) kn.r h2 e (st_at (by rw [kn.len]; exact List.idxOf_lt_length_of_mem hc))
theorem wd_le {nm : List Nat} {ws : Wds} {B : Addr} {us : List V} (kn : Kn K H nm ws B us) (c : Nat) : (wd nm ws c).length ≤ 9 := by
  by_cases m : c ∈ nm
  · exact (kn.wl _ (wd_mem m kn.len)).2
  · rw [wd_out m]
    show 1 ≤ 9
    omega
def spLeft (K : PySem.W.Frag) : Sp := fun vs H Q _ => ∃ (A : Addr) (xs : List Int) (nm : List Nat) (ws : Wds) (B : Addr) (us : List V) (sg : List Nat) (C : Addr) (kvs : List (Key × V)) (u : Nat → Int) (most wide : Nat),
  vs = [.ref A, .str (mkS nm), .ref B, .str (mkS sg), .ref C, .int (most : Nat), .int (wide : Nat)] ∧ H A = some (.lst (xs.map V.int)) ∧ xs.length ≤ 100 ∧ Kn K H nm ws B us ∧ sg ≠ [] ∧ sg.length ≤ 100 ∧ Wd sg ∧ H C = some (.dK kvs) ∧ Us nm kvs u ∧ (∀ c ∈ nm, 0 ≤ u c) ∧ most ≤ 100 ∧ wide ≤ 100 ∧
  ∀ v H' l kvs' u', SX C H H' → H' C = some (.dK kvs') → Us nm kvs' u' → (∀ c ∈ nm, 0 ≤ u' c) → (∀ c ∈ nm, u' c + (l.count c : Nat) = u c) → (∀ c ∈ l, c ∈ sgs ∨ c ∈ nm) → l.length ≤ most → (fill nm ws l).length ≤ wide → R K H' v (.tup [.tx l, .tx (fill nm ws l)]) → Q v H'
theorem ok_left {f : Addr} {fd : FuncData} {k : Nat} (F : Fun K "_law_left" "_law_left" s__law_left f fd) (T : Txt mg tS tU tE tL tN) : FnOk P w K mg base CX0 (k + 1) f fd ["_law_cells", "_law_names_here", "_law_words", "_law_signs", "_law_uses", "_law_most", "_law_wide"] (spLeft K) := by
  refine F.ok sc__law_left (fun vs H Q E h => ?_) (fun cdv A0 outer s H vs Q E hr h => ?_)
  · obtain ⟨_, _, _, _, _, _, _, _, _, _, _, _, rfl, _⟩ := h
    rfl
  · obtain ⟨A, xs, nm, ws, B, us, sg, C, kvs, u, most, wide, rfl, hA, hxs, kn, g1, g2, g3, hC, hu, hu0, hm, hw, q⟩ := h
    have S0 : Sl K H (start ["_law_cells", "_law_names_here", "_law_words", "_law_signs", "_law_uses", "_law_most", "_law_wide", "_law_side", "_law_full", "_law_cell", "_law_pool", "_law_letter", "_law_word_here", "_law_name"] [.ref A, .str (mkS nm), .ref B, .str (mkS sg), .ref C, .int (most : Nat), .int (wide : Nat)])
        [some (.raw (.ref A)), some (.tx nm), some (.raw (.ref B)), some (.tx sg), some (.raw (.ref C)), some (.int (most : Nat)), some (.int (wide : Nat)), none, none, none, none, none, none, none] := Sl.start (.cons (.raw _) (.cons (.tx nm) (.cons (.raw _) (.cons (.tx sg) (.cons (.raw _) (.cons (.int _) (.cons (.int _) .nil)))))))
    have six := kn.nms.six
    refine ⟨_, (pss_cons (ps_set (i := 7) sc__law_left.nd rfl (.inl rfl) pe_str)
    (pss_cons (ps_set (i := 8) sc__law_left.nd rfl (.inl rfl) pe_str)
    (pss_cons (ps_for PassesOwn.never rfl (pi_list (pv 0)) (pg_name (i := 9) sc__law_left.nd rfl (.inl rfl))
    (pss_cons (ps_set (i := 10) sc__law_left.nd rfl (.inl rfl) (pe_op op_addS (pe_op op_mulS (pe_m1 PySem.F.slot_str_join PySem.F.type_str_join (mt_joinK (K := K)) pe_str (pe_lc (own := [("_law_name", 13)]) (g := gName 13) (by rfl) sc__law_left.nd (pi_str (pv 1)) (blkOk_by (own := [("_law_name", 13)]) (N := ["_law_cells", "_law_names_here", "_law_words", "_law_signs", "_law_uses", "_law_most", "_law_wide", "_law_side", "_law_full", "_law_cell", "_law_pool", "_law_letter", "_law_word_here", "_law_name"]) (sc := defScope s__law_left) (by decide +kernel)) (fun _ _ _ _ _ => pg_name (i := 13) sc__law_left.nd rfl (Or.inl rfl)) (fun _ _ _ _ _ => pts_one (pt_cmpR op_gt (pe_dget (hu_of hr) (pv 4) (pv 13) (fun _ _ => rfl)) pe_int (nomark _))) (fun _ _ _ _ _ => (pv 13)))) pe_int) (pv 3)))
    (pss_cons (ps_set (i := 11) sc__law_left.nd rfl (.inl rfl) (pe_ix ix_str (pv 10) (pe_op op_mod (pe_op op_mod (pe_op op_mul (pv 9) pe_int) pe_int) (pe_callB call_lenS (by rfl) T.zlen PySem.boot_len (pa_cons (pv 10) pa_nil))) (fun _ _ => rfl)))
    (pss_cons (ps_set (i := 12) sc__law_left.nd rfl (.inl rfl) (pv 11))
    (pss_cons (ps_if (pt_cmpR op_inS (pv 11) (pv 1) rfl)
    (pss_one (ps_set (i := 12) sc__law_left.nd rfl (.inl rfl) (pe_ix (ix_listK (K := K)) (pv 2) (pe_m1 PySem.F.slot_str_find PySem.F.type_str_find mt_findD (pv 1) (pv 11)) (fun _ _ => rfl))))
    pss_nil)
    (pss_one (ps_if (PW.pt (pw_and (pt_cmpR op_lt (pe_callB call_lenS (by rfl) T.zlen PySem.boot_len (pa_cons (pv 7) pa_nil)) (pv 5) (nomark _)) (pw_and1 (pt_cmpR op_le (pe_op op_add (pe_callB call_lenS (by rfl) T.zlen PySem.boot_len (pa_cons (pv 8) pa_nil)) (pe_callB call_lenS (by rfl) T.zlen PySem.boot_len (pa_cons (pv 12) pa_nil))) (pv 6) (nomark _)))))
    (pss_cons (ps_set (i := 7) sc__law_left.nd rfl (.inl rfl) (pe_op op_addS (pv 7) (pv 11)))
    (pss_cons (ps_set (i := 8) sc__law_left.nd rfl (.inl rfl) (pe_op op_addS (pv 8) (pv 12)))
    (pss_one (ps_if (pt_cmpR op_inS (pv 11) (pv 1) rfl)
    (pss_one (ps_dput (hu_of hr) (pv 4) (pv 11) (pe_op op_sub (pe_dget (hu_of hr) (pv 4) (pv 11) (fun _ _ => rfl)) pe_int) rfl))
    pss_nil))))
    pss_nil)))))))
    (pss_one (ps_ret (pe_tup (pa_cons (pv 7) (pa_cons (pv 8) pa_nil)))))))), ?_⟩
    refine st_set (K := K) S0 ev_str fun σ1 H1 x1 S1 => ?_
    dsimp only
    refine st_set (K := K) S1 ev_str fun σ2 H2 x2 S2 => ?_
    dsimp only
    have hA2 := x2 _ _ (x1 _ _ hA)
    have hC2 := x2 _ _ (x1 _ _ hC)
    let S : Hp → Hp → Prop := fun H1 H2 => Tp K H1 H2 ∧ (SqL K H1 A (xs.map V.int) → SqL K H2 A (xs.map V.int))
    refine st_for (xs := xs) (enc := D.int) (S := S) (it_lstS (ev_var S2 rfl) (SqL.of hA2) (RL.ofInts xs) fun _ _ h => h) fun H3 x3 =>
      ⟨fun k σ' H' => S H3 H' ∧ SX C H H' ∧ ∃ l kvs' u' o9 o10 o11 o12, H' C = some (.dK kvs') ∧ Us nm kvs' u' ∧ (∀ c ∈ nm, 0 ≤ u' c) ∧ (∀ c ∈ nm, u' c + (l.count c : Nat) = u c) ∧ (∀ c ∈ l, c ∈ sgs ∨ c ∈ nm) ∧ l.length ≤ most ∧ (fill nm ws l).length ≤ wide ∧
        Sl K H' σ' [some (.raw (.ref A)), some (.tx nm), some (.raw (.ref B)), some (.tx sg), some (.raw (.ref C)), some (.int (most : Nat)), some (.int (wide : Nat)), some (.tx l), some (.tx (fill nm ws l)), o9, o10, o11, o12, none],
        ⟨⟨Tp.refl, id⟩, SX.of ((x1.trans x2).trans x3), [], kvs, u, none, none, none, none, x3 _ _ hC2, hu, hu0, fun c _ => by simp, (fun c hc => by cases hc), Nat.zero_le _, Nat.zero_le _, S2.mono (Tp.of x3)⟩, fun k σ' H' _ h => h.1, fun k cell x σ' H' H4 hk ⟨s3, sx, l, kvs', u', o9, o10, o11, o12, hC', hus, hu0', hcnt, hlet, hl, hf, S'⟩ x4 rd => ?_, fun σ' H' ⟨s3, sx, l, kvs', u', o9, o10, o11, o12, hC', hus, hu0', hcnt, hlet, hl, hf, S'⟩ => ?_⟩
    · refine gd_name 9 x σ' _ H4 _ rd (S'.mono (Tp.of x4)) fun σ5 S5 => ?_
      have S5 : Sl K H4 σ5 [some (.raw (.ref A)), some (.tx nm), some (.raw (.ref B)), some (.tx sg), some (.raw (.ref C)), some (.int (most : Nat)), some (.int (wide : Nat)), some (.tx l), some (.tx (fill nm ws l)), some (.int cell), o10, o11, o12, none] := S5
      have hC4 := x4 _ _ hC'
      have sx4 := sx.same x4
      have kn4 := kn.sx hC sx4
      generalize hpl : (nm.filter fun c => decide (0 < u' c)) = pl
      have pll : pl.length ≤ 6 := by
        rw [← hpl]
        exact Nat.le_trans (List.length_filter_le _ _) six
      have hj : joinL (tl (Str.ofString "")) (pl.map fun c => [c]) = pl := by
        show joinL [] _ = _
        rw [joinL_nil, flat_ones]
      have hpool : EvD K (tOp rAddS (tOp rMulS (tM1 (mJoin K) (tC (.str (Str.ofString ""))) (tLc (iStr (tVar 1)) (gName 13) (tTest (tOp (rI0 fun i j => .bl (decide (j < i))) (tDGet (tVar 4) (tVar 13)) (tC (.int 0)))) (tVar 13) [13])) (tC (.int 2))) (tVar 3)) σ5 H4 (.tx (pl ++ pl ++ sg)) := by
        refine ev_addS (ev_mulS (EvD.to (e := .tx pl) (ev_join (ls := pl.map fun c => [c]) ev_str (EvL.to (el_lc (xs := nm) (enc := fun c => .tx [c]) (f := fun c => .tx [c]) (p := fun c => decide (0 < u' c)) (fs := fun c ss => ss.set 13 (some (.tx [c]))) S5 (it_str (ev_var S5 rfl)).same (fun c _ => go_name 13) (by omega) fun c hc σ' H' z S' => ⟨et_test (ev_gt (ev_dget (ev_var S' rfl) (z _ _ hC4) (ev_var S' rfl) (hus.1 c hc)) ev_int), fun _ => ev_var S' rfl⟩) ?_) ?_) (by rw [hj])) ev_int (by omega)) (ev_var S5 rfl) (line_ge (by rw [List.length_append]; omega))
        · rw [hpl, List.map_map]
          rfl
        · rw [sum_ones, List.length_map]
          show _ + _ * 0 ≤ _
          omega
      refine st_set S5 hpool fun σ6 H6 x6 S6 => ?_
      have hne : pl ++ pl ++ sg ≠ [] := fun e => g1 (List.append_eq_nil_iff.mp e).2
      have hplen : (pl ++ pl ++ sg).length ≤ 200 := by
        simp only [List.length_append]
        omega
      have hpos := List.length_pos_iff.mpr hne
      obtain ⟨j1, j2⟩ := sg_ix hne (cell * 48271 % 1000003)
      generalize hch : (pl ++ pl ++ sg).getD (cell * 48271 % 1000003 % ((pl ++ pl ++ sg).length : Nat)).toNat 0 = ch
      have hchat : (pl ++ pl ++ sg)[(cell * 48271 % 1000003 % ((pl ++ pl ++ sg).length : Nat)).toNat]? = some ch := by rw [getD_in j1, hch]
      have hchm : ch ∈ pl ∨ ch ∈ sg := by
        have := List.mem_of_getElem? hchat
        simp only [List.mem_append] at this
        rcases this with (h | h) | h
        · exact .inl h
        · exact .inl h
        · exact .inr h
      have hchu : ch ∈ nm → 0 < u' ch := fun hm => by
        rcases hchm with h | h
        · rw [← hpl] at h
          exact of_decide_eq_true (List.mem_filter.mp h).2
        · exact (sg_un (g3 ch h) (kn.nms.un ch hm)).elim
      have hchl : ch ∈ sgs ∨ ch ∈ nm := by
        rcases hchm with h | h
        · rw [← hpl] at h
          exact .inr (List.mem_filter.mp h).1
        · exact .inl (g3 ch h)
      refine st_set S6 (ev_ixS (n := (cell * 48271 % 1000003 % ((pl ++ pl ++ sg).length : Nat)).toNat) (ev_var S6 rfl) (ev_mod (ev_mod (ev_mul (ev_var S6 rfl) ev_int (.inr (by decide))) ev_int (by decide)) (ev_lenS (ev_var S6 rfl) (line_ge (by omega))) (by omega)) j2 hchat (line_ge (by omega))) fun σ7 H7 x7 S7 => ?_
      refine st_set S7 (ev_var S7 rfl) fun σ8 H8 x8 S8 => ?_
      have S8 : Sl K H8 σ8 [some (.raw (.ref A)), some (.tx nm), some (.raw (.ref B)), some (.tx sg), some (.raw (.ref C)), some (.int (most : Nat)), some (.int (wide : Nat)), some (.tx l), some (.tx (fill nm ws l)), some (.int cell), some (.tx (pl ++ pl ++ sg)), some (.tx [ch]), some (.tx [ch]), none] := S8
      have z8 := (x6.trans x7).trans x8
      have kn8 := kn4.same z8
      have hC8 := z8 _ _ hC4
      have sx8 := sx4.same z8
      refine st_ifM (Rr := fun σ' H' => Same H8 H' ∧ Sl K H' σ' [some (.raw (.ref A)), some (.tx nm), some (.raw (.ref B)), some (.tx sg), some (.raw (.ref C)), some (.int (most : Nat)), some (.int (wide : Nat)), some (.tx l), some (.tx (fill nm ws l)), some (.int cell), some (.tx (pl ++ pl ++ sg)), some (.tx [ch]), some (.tx (wd nm ws ch)), none]) (et_test (ev_inS (ev_var S8 rfl) (ev_var S8 rfl))) (fun hb H9 x9 q9 => ?_) (fun hb H9 x9 q9 => ?_) (fun σ10 H10 ⟨x10, S10⟩ => ?_)
      · have hin : ch ∈ nm := of_decide_eq_true hb
        have S9 := S8.mono (Tp.of (K := K) x9)
        refine st_set S9 (ev_word (kn8.same x9) hin (ev_var S9 rfl) (ev_find (ev_var S9 rfl) (ev_var S9 rfl)) (fnd_mem hin)) fun σ11 H11 x11 S11 => q9 _ _ ⟨x9.trans x11, S11⟩
      · have hout : ch ∉ nm := of_decide_eq_false hb
        have S9 := S8.mono (Tp.of (K := K) x9)
        refine q9 _ _ ⟨x9, ?_⟩
        rw [wd_out hout]
        exact S9
      · have kn10 := kn8.same x10
        have hC10 := x10 _ _ hC8
        have sx10 := sx8.same x10
        have hwl := wd_le kn10 ch
        have S3' : S H3 H10 := ⟨s3.1.trans (Tp.of ((x4.trans z8).trans x10)), fun h => ((x4.trans z8).trans x10).seq (s3.2 h)⟩
        refine st_if (et_and (et_test (ev_lt (ev_lenS (ev_var S10 rfl) (line_ge (by omega))) (ev_var S10 rfl))) fun _ => et_test (ev_le (ev_add (ev_lenS (ev_var S10 rfl) (line_ge (by omega))) (ev_lenS (ev_var S10 rfl) (line_ge (by omega)))) (ev_var S10 rfl))) (fun hb H11 x11 => ?_) (fun hb H11 x11 => ?_)
        · obtain ⟨hb1, hb2⟩ := Bool.and_eq_true_iff.mp hb
          have hb1 := of_decide_eq_true hb1
          have hb2 := of_decide_eq_true hb2
          have S11 := S10.mono (Tp.of (K := K) x11)
          refine st_set S11 (ev_addS (m := [ch]) (ev_var S11 rfl) (ev_var S11 rfl) (line_ge (by show _ + 1 ≤ _; omega))) fun σ12 H12 x12 S12 => ?_
          refine st_set S12 (EvD.to (e := .tx (fill nm ws (l ++ [ch]))) (ev_addS (ev_var S12 rfl) (ev_var S12 rfl) (line_ge (by omega))) (by rw [fill_app, fill_cons, fill_nil, List.append_nil])) fun σ13 H13 x13 S13 => ?_
          have S13 : Sl K H13 σ13 [some (.raw (.ref A)), some (.tx nm), some (.raw (.ref B)), some (.tx sg), some (.raw (.ref C)), some (.int (most : Nat)), some (.int (wide : Nat)), some (.tx (l ++ [ch])), some (.tx (fill nm ws (l ++ [ch]))), some (.int cell), some (.tx (pl ++ pl ++ sg)), some (.tx [ch]), some (.tx (wd nm ws ch)), none] := S13
          have z13 := (x11.trans x12).trans x13
          have l1 : (l ++ [ch]).length ≤ most := by
            rw [List.length_append, List.length_singleton]
            omega
          have l2 : (fill nm ws (l ++ [ch])).length ≤ wide := by
            rw [fill_app, fill_cons, fill_nil, List.append_nil, List.length_append]
            omega
          have l3 : ∀ c ∈ l ++ [ch], c ∈ sgs ∨ c ∈ nm := fun c hc => by
            rcases List.mem_append.mp hc with hc | hc
            · exact hlet c hc
            · rw [List.mem_singleton.mp hc]
              exact hchl
          have hC13 := z13 _ _ hC10
          refine st_if (et_test (ev_inS (ev_var S13 rfl) (ev_var S13 rfl))) (fun hb3 H14 x14 => ?_) (fun hb3 H14 x14 => ?_)
          · have hin : ch ∈ nm := of_decide_eq_true hb3
            have S14 := S13.mono (Tp.of (K := K) x14)
            have hC14 := x14 _ _ hC13
            refine st_dput (c := ch) (i := u' ch - 1) (ev_sub (ev_dget (ev_var S14 rfl) hC14 (ev_var S14 rfl) (hus.1 ch hin)) ev_int) (ev_var S14 rfl) (ev_var S14 rfl) hC14 (line_gt (by have := hus.2; omega)) fun H15 x15 => ?_
            have hC15 := x15 _ _ hC14
            have tp := tp_mut (K := K) (w := .dK (putK kvs' (ky ch) (.int (u' ch - 1)))) hC15 trivial
            have z15 := (z13.trans x14).trans x15
            have hAC : A ≠ C := ne_dict hC hA
            refine ⟨⟨(S3'.1.trans (Tp.of z15)).trans tp, fun h => sqL_mut (z15.seq (S3'.2 h)) hAC⟩, (sx10.same z15).mut, l ++ [ch], _, _, _, _, _, _, upd_same, us_put hus hin _, fun c hc => ?_, fun c hc => ?_, l3, l1, l2, (S14.mono (Tp.of (K := K) x15)).mono tp⟩
            · have := hchu hin
              have := hu0' c hc
              by_cases e : c = ch
              · rw [if_pos e]
                omega
              · rw [if_neg e]
                exact this
            · have := hcnt c hc
              rw [List.count_append]
              by_cases e : c = ch
              · subst e
                rw [if_pos rfl, List.count_singleton_self]
                omega
              · rw [if_neg e, List.count_eq_zero_of_not_mem (l := [ch]) (by simpa using e)]
                omega
          · have hout : ch ∉ nm := of_decide_eq_false hb3
            have z14 := z13.trans x14
            refine ⟨⟨S3'.1.trans (Tp.of z14), fun h => z14.seq (S3'.2 h)⟩, sx10.same z14, l ++ [ch], kvs', u', _, _, _, _, x14 _ _ hC13, hus, hu0', fun c hc => ?_, l3, l1, l2, S13.mono (Tp.of x14)⟩
            have := hcnt c hc
            rw [List.count_append, List.count_eq_zero_of_not_mem (l := [ch]) (by
              intro z
              rw [List.mem_singleton.mp z] at hc
              exact hout hc)]
            omega
        · exact ⟨⟨S3'.1.trans (Tp.of x11), fun h => x11.seq (S3'.2 h)⟩, sx10.same x11, l, kvs', u', _, _, _, _, x11 _ _ hC10, hus, hu0', hcnt, hlet, hl, hf, S10.mono (Tp.of x11)⟩
    · dsimp only
      refine st_ret (ev_tup (eva_cons (ev_var S' rfl) (eva_cons (ev_var S' rfl) eva_nil)) (by show 2 ≤ sizeLine; decide)) fun v H4 x4 r4 => ?_
      exact q v H4 l kvs' u' (sx.same x4) (x4 _ _ hC') hus hu0' hcnt hlet hl hf r4
end
end GW

set_option Elab.async false
set_option linter.all false
set_option maxRecDepth 100000
set_option maxHeartbeats 4000000
/-! _law_cut -/
namespace GW
open PySem PySem.Spec L2 TL PyProof.Rows
abbrev s__law_cut : Stmt := topS 62
theorem sc__law_cut : FnScope ["_law_cell", "_law_full", "_law_names_here", "_law_words", "_law_uses", "_law_side", "_law_number", "_law_at", "_law_k", "_law_letter", "_law_step", "_law_name", "_law_word_here", "_law_place"] ["_law_cell", "_law_full", "_law_names_here", "_law_words", "_law_uses"] (defScope s__law_cut) := ⟨rfl, rfl, rfl, by decide +kernel, rfl, by decide +kernel, by decide +kernel⟩
theorem idx_at {nm : List Nat} (nd : nm.Nodup) {k c : Nat} (h : nm[k]? = some c) : c ∈ nm ∧ nm.idxOf c = k := by
  have hm := List.mem_of_getElem? h
  refine ⟨hm, ?_⟩
  obtain ⟨hk, e⟩ := List.getElem?_eq_some_iff.mp h
  have h2 := List.getElem_idxOf (List.idxOf_lt_length_of_mem hm)
  exact (List.getElem_inj nd).mp (h2.trans e.symm)
section
variable {P : Program} {w : World} {K : PySem.W.Frag} {mg : Str → Option Value} {base : Heap} {tS tU tE tL tN : Tok} {σ : L2.St} {H H' : Hp} {ta tb te : TE} {n : Nat}
theorem st_forM {D0 : Ends} {al : Type} {xs : List al} {enc : al → D} {g : TG} {tbd : TS} {wi : TI} {S : Hp → Hp → Prop} {Rr : L2.St → Hp → Prop} (hi : ItD K S wi σ H (xs.map enc)) (body : (∀ σ' H', Rr σ' H' → D0.nx σ' H') → ∀ H2, Same H H2 → ∃ Pv : Nat → L2.St → Hp → Prop, Pv 0 σ H2 ∧ (∀ k σ' H', k ≤ xs.length → Pv k σ' H' → S H2 H') ∧
      (∀ k a x σ' H' H3, xs[k]? = some a → Pv k σ' H' → Same H' H3 → R K H3 x (enc a) → g x σ' H3 fun σ2 H4 => tbd { D0 with nx := Pv (k + 1), ct := Pv (k + 1), bk := D0.nx } σ2 H4) ∧ (∀ σ' H', Pv xs.length σ' H' → D0.nx σ' H')) (q : ∀ σ' H', Rr σ' H' → D0.nx σ' H') : tFor wi g tbd D0 σ H := st_for hi (body q)
/-- a letter cut -/
def Ch (nm : List Nat) (ws : Wds) (u : Nat → Int) (full : List Nat) (at' ch st : Nat) : Prop := (full.drop at').take st = wd nm ws ch ∧ 1 ≤ st ∧ at' + st ≤ full.length ∧ ((ch ∈ sgs ∧ ch ∉ nm) ∨ (ch ∈ nm ∧ 0 < u ch ∧ wd nm ws ch ≠ []))
def spCut (K : PySem.W.Frag) : Sp := fun vs H Q _ => ∃ (cell : Int) (full nm : List Nat) (ws : Wds) (B : Addr) (us : List V) (C : Addr) (kvs : List (Key × V)) (u : Nat → Int),
  vs = [.int cell, .str (mkS full), .str (mkS nm), .ref B, .ref C] ∧ Wd full ∧ full.length ≤ 100 ∧ Kn K H nm ws B us ∧ H C = some (.dK kvs) ∧ Us nm kvs u ∧ (∀ c ∈ nm, 0 ≤ u c) ∧
  ∀ v H' r kvs' u', SX C H H' → H' C = some (.dK kvs') → Us nm kvs' u' → (∀ c ∈ nm, 0 ≤ u' c) → (∀ c ∈ nm, u' c + (r.count c : Nat) = u c) → (∀ c ∈ r, c ∈ sgs ∨ c ∈ nm) → fill nm ws r = full → (∀ c ∈ nm, wd nm ws c = [] → r.count c ≤ 1) → R K H' v (.tx r) → Q v H'
/-- what is known of a right side in the making -/
structure Mk (nm : List Nat) (ws : Wds) (u u' : Nat → Int) (r : List Nat) : Prop where
  pos : ∀ c ∈ nm, 0 ≤ u' c
  cnt : ∀ c ∈ nm, u' c + (r.count c : Nat) = u c
  let' : ∀ c ∈ r, c ∈ sgs ∨ c ∈ nm
theorem ok_cut {f : Addr} {fd : FuncData} {k : Nat} (F : Fun K "_law_cut" "_law_cut" s__law_cut f fd) (T : Txt mg tS tU tE tL tN) : FnOk P w K mg base CX0 (k + 1) f fd ["_law_cell", "_law_full", "_law_names_here", "_law_words", "_law_uses"] (spCut K) := by
  refine F.ok sc__law_cut (fun vs H Q E h => ?_) (fun cdv A0 outer s H vs Q E hr h => ?_)
  · obtain ⟨_, _, _, _, _, _, _, _, _, rfl, _⟩ := h
    rfl
  · obtain ⟨cell, full, nm, ws, B, us, C, kvs, u, rfl, hw, hl, kn, hC, hu, hu0, q⟩ := h
    have S0 : Sl K H (start ["_law_cell", "_law_full", "_law_names_here", "_law_words", "_law_uses", "_law_side", "_law_number", "_law_at", "_law_k", "_law_letter", "_law_step", "_law_name", "_law_word_here", "_law_place"] [.int cell, .str (mkS full), .str (mkS nm), .ref B, .ref C])
        [some (.int cell), some (.tx full), some (.tx nm), some (.raw (.ref B)), some (.raw (.ref C)), none, none, none, none, none, none, none, none, none] := Sl.start (.cons (.int _) (.cons (.tx full) (.cons (.tx nm) (.cons (.raw _) (.cons (.raw _) .nil)))))
    have six := kn.nms.six
    have nlo := kn.nms.lo
    have nd := kn.nms.nd
    have nne : nm ≠ [] := List.length_pos_iff.mp nlo
    have wlen : (ws.length : Nat) = nm.length := kn.len
    refine ⟨_, (pss_cons (ps_set (i := 5) sc__law_cut.nd rfl (.inl rfl) pe_str)
    (pss_cons (ps_set (i := 6) sc__law_cut.nd rfl (.inl rfl) (pe_op op_mod (pe_op op_mul (pv 0) pe_int) pe_int))
    (pss_cons (ps_set (i := 7) sc__law_cut.nd rfl (.inl rfl) pe_int)
    (pss_cons (ps_while PassesOwn.never (pt_cmpR op_lt (pv 7) (pe_callB call_lenS (by rfl) T.zlen PySem.boot_len (pa_cons (pv 1) pa_nil)) (nomark _))
    (pss_cons (ps_set (i := 6) sc__law_cut.nd rfl (.inl rfl) (pe_op op_mod (pe_op op_add (pe_op op_add (pe_op op_mul (pv 6) (pv 6)) (pe_op op_mul pe_int (pv 6))) (pv 7)) pe_int))
    (pss_cons (ps_set (i := 9) sc__law_cut.nd rfl (.inl rfl) (pe_ix ix_str (pv 1) (pv 7) (fun _ _ => rfl)))
    (pss_cons (ps_set (i := 10) sc__law_cut.nd rfl (.inl rfl) pe_int)
    (pss_cons (ps_for PassesOwn.never rfl (pi_range1 (by rfl) T.zrange (pa_cons (pe_callB call_lenS (by rfl) T.zlen PySem.boot_len (pa_cons (pv 2) pa_nil)) pa_nil)) (pg_name (i := 8) sc__law_cut.nd rfl (.inl rfl))
    (pss_cons (ps_set (i := 11) sc__law_cut.nd rfl (.inl rfl) (pe_ix ix_str (pv 2) (pe_op op_mod (pe_op op_add (pe_op op_fdiv (pv 6) pe_int) (pv 8)) (pe_callB call_lenS (by rfl) T.zlen PySem.boot_len (pa_cons (pv 2) pa_nil))) (fun _ _ => rfl)))
    (pss_cons (ps_set (i := 12) sc__law_cut.nd rfl (.inl rfl) (pe_ix (ix_listK (K := K)) (pv 3) (pe_m1 PySem.F.slot_str_find PySem.F.type_str_find mt_findD (pv 2) (pv 11)) (fun _ _ => rfl)))
    (pss_one (ps_if (PW.pt (pw_and (pt_cmpR op_gt (pe_op op_mod (pv 6) pe_int) pe_int (nomark _)) (pw_and (pt_cmpR op_gt (pe_dget (hu_of hr) (pv 4) (pv 11) (fun _ _ => rfl)) pe_int (nomark _)) (pw_and (pt_cmpR op_ne (pv 12) pe_str (nomark _)) (pw_and1 (pt_cmpR op_eq (pe_slice sl_str (pv 1) (po_some (pv 7)) (po_some (pe_op op_add (pv 7) (pe_callB call_lenS (by rfl) T.zlen PySem.boot_len (pa_cons (pv 12) pa_nil))))) (pv 12) (nomark _)))))))
    (pss_cons (ps_set (i := 9) sc__law_cut.nd rfl (.inl rfl) (pv 11))
    (pss_cons (ps_set (i := 10) sc__law_cut.nd rfl (.inl rfl) (pe_callB call_lenS (by rfl) T.zlen PySem.boot_len (pa_cons (pv 12) pa_nil)))
    (pss_one ps_break)))
    pss_nil)))))
    (pss_cons (ps_if (pt_cmpR op_inS (pv 9) (pv 2) rfl)
    (pss_one (ps_dput (hu_of hr) (pv 4) (pv 9) (pe_op op_sub (pe_dget (hu_of hr) (pv 4) (pv 9) (fun _ _ => rfl)) pe_int) rfl))
    pss_nil)
    (pss_cons (ps_set (i := 5) sc__law_cut.nd rfl (.inl rfl) (pe_op op_addS (pv 5) (pv 9)))
    (pss_one (ps_set (i := 7) sc__law_cut.nd rfl (.inl rfl) (pe_op op_add (pv 7) (pv 10)))))))))))
    (pss_cons (ps_for PassesOwn.never rfl (pi_range1 (by rfl) T.zrange (pa_cons (pe_callB call_lenS (by rfl) T.zlen PySem.boot_len (pa_cons (pv 2) pa_nil)) pa_nil)) (pg_name (i := 8) sc__law_cut.nd rfl (.inl rfl))
    (pss_one (ps_if (PW.pt (pw_and (pt_cmpR op_eq (pe_ix (ix_listK (K := K)) (pv 3) (pv 8) (fun _ _ => rfl)) pe_str (nomark _)) (pw_and (pt_cmpR op_gt (pe_dget (hu_of hr) (pv 4) (pe_ix ix_str (pv 2) (pv 8) (fun _ _ => rfl)) (fun _ _ => rfl)) pe_int (nomark _)) (pw_and1 (pt_cmpR op_gt (pe_op op_mod (pe_op op_fdiv (pv 6) pe_int) pe_int) pe_int (nomark _))))))
    (pss_cons (ps_set (i := 13) sc__law_cut.nd rfl (.inl rfl) (pe_op op_mod (pe_op op_fdiv (pv 6) pe_int) (pe_op op_add (pe_callB call_lenS (by rfl) T.zlen PySem.boot_len (pa_cons (pv 5) pa_nil)) pe_int)))
    (pss_cons (ps_set (i := 5) sc__law_cut.nd rfl (.inl rfl) (pe_op op_addS (pe_op op_addS (pe_slice sl_str (pv 5) po_none (po_some (pv 13))) (pe_ix ix_str (pv 2) (pv 8) (fun _ _ => rfl))) (pe_slice sl_str (pv 5) (po_some (pv 13)) po_none)))
    (pss_one (ps_dput (hu_of hr) (pv 4) (pe_ix ix_str (pv 2) (pv 8) (fun _ _ => rfl)) (pe_op op_sub (pe_dget (hu_of hr) (pv 4) (pe_ix ix_str (pv 2) (pv 8) (fun _ _ => rfl)) (fun _ _ => rfl)) pe_int) rfl))))
    pss_nil)))
    (pss_one (ps_ret (pv 5)))))))), ?_⟩
    refine st_set (K := K) S0 ev_str fun σ1 H1 x1 S1 => ?_
    dsimp only
    refine st_set S1 (ev_mod (ev_mul (ev_var S1 rfl) ev_int (.inr (by decide))) ev_int (by decide)) fun σ2 H2 x2 S2 => ?_
    dsimp only
    refine st_set (K := K) S2 ev_int fun σ3 H3 x3 S3 => ?_
    dsimp only
    have hC3 := x3 _ _ (x2 _ _ (x1 _ _ hC))
    have n0 : 0 ≤ cell * 69621 % 2147483647 := Int.emod_nonneg _ (by decide)
    have n1 : cell * 69621 % 2147483647 < 2147483647 := Int.emod_lt_of_pos _ (by decide)
    refine st_while (fun m σ' H' => ∃ (r : List Nat) (number : Int) (at' : Nat) (kvs' : List (Key × V)) (u' : Nat → Int) (o8 o9 o10 o11 o12 : SD), m = full.length - at' ∧ at' ≤ full.length ∧ 0 ≤ number ∧ number < 2147483647 ∧ SX C H H' ∧ H' C = some (.dK kvs') ∧ Us nm kvs' u' ∧ Mk nm ws u u' r ∧ fill nm ws r = full.take at' ∧ (∀ c ∈ nm, wd nm ws c = [] → r.count c = 0) ∧ r.length ≤ at' ∧
        Sl K H' σ' [some (.int cell), some (.tx full), some (.tx nm), some (.raw (.ref B)), some (.raw (.ref C)), some (.tx r), some (.int number), some (.int (at' : Nat)), o8, o9, o10, o11, o12, none])
      full.length ⟨[], _, 0, kvs, u, none, none, none, none, none, rfl, Nat.zero_le _, n0, n1, SX.of ((x1.trans x2).trans x3), hC3, hu, ⟨hu0, fun c _ => by simp, fun c hc => by cases hc⟩, rfl, fun c _ _ => rfl, Nat.le_refl _, S3⟩
      fun m σ' H' ⟨r, number, at', kvs', u', o8, o9, o10, o11, o12, em, hat, b0, b1, sx, hC', hus, mk, hfill, hemp, hrl, S'⟩ => ⟨decide ((at' : Int) < ((full.length : Nat) : Int)), et_test (ev_lt (ev_var S' rfl) (ev_lenS (ev_var S' rfl) (line_ge (by omega)))), fun hb H4 x4 => ?_, fun hb H4 x4 => ?_⟩
    · have hlt : at' < full.length := by
        have := of_decide_eq_true hb
        omega
      have S4 := S'.mono (Tp.of (K := K) x4)
      refine st_set S4 (ev_mod (ev_add (ev_add (ev_mul (ev_var S4 rfl) (ev_var S4 rfl) (.inl (by omega))) (ev_mul ev_int (ev_var S4 rfl) (.inl (by decide)))) (ev_var S4 rfl)) ev_int (by decide)) fun σ5 H5 x5 S5 => ?_
      dsimp only
      generalize hnum : (number * number + 48271 * number + (at' : Int)) % 2147483629 = num2 at S5
      have c0 : 0 ≤ num2 := hnum ▸ Int.emod_nonneg _ (by decide)
      have c1 : num2 < 2147483629 := hnum ▸ Int.emod_lt_of_pos _ (by decide)
      obtain ⟨z, hz⟩ : ∃ z, full[at']? = some z := ⟨_, List.getElem?_eq_getElem hlt⟩
      have hzs : z ∈ sgs := hw z (List.mem_of_getElem? hz)
      have hzn : z ∉ nm := fun m => sg_un hzs (kn.nms.un z m)
      refine st_set S5 (ev_ixS (n := at') (ev_var S5 rfl) (ev_var S5 rfl) rfl hz (line_ge (by omega))) fun σ6 H6 x6 S6 => ?_
      dsimp only
      refine st_set (K := K) S6 ev_int fun σ7 H7 x7 S7 => ?_
      dsimp only
      have S7 : Sl K H7 σ7 [some (.int cell), some (.tx full), some (.tx nm), some (.raw (.ref B)), some (.raw (.ref C)), some (.tx r), some (.int num2), some (.int (at' : Nat)), o8, some (.tx [z]), some (.int ((1 : Nat) : Int)), o11, o12, none] := S7
      have z7 := ((x4.trans x5).trans x6).trans x7
      have sx7 := sx.same z7
      have hC7 := z7 _ _ hC'
      have kn7 := kn.sx hC sx7
      have first : Ch nm ws u' full at' z 1 := ⟨by
        rw [wd_out hzn]
        obtain ⟨hk, e⟩ := List.getElem?_eq_some_iff.mp hz
        rw [List.drop_eq_getElem_cons hk, e]
        rfl, Nat.le_refl _, hlt, .inl ⟨hzs, hzn⟩⟩
      refine st_forM (xs := List.range nm.length) (enc := fun k => .int ((k : Nat) : Int)) (S := Tp K) (Rr := fun σ' H' => Same H7 H' ∧ ∃ ch st o8 o11 o12, Ch nm ws u' full at' ch st ∧ Sl K H' σ' [some (.int cell), some (.tx full), some (.tx nm), some (.raw (.ref B)), some (.raw (.ref C)), some (.tx r), some (.int num2), some (.int (at' : Nat)), o8, some (.tx [ch]), some (.int (st : Nat)), o11, o12, none])
        (it_rng1 (eva_cons (ev_lenS (ev_var S7 rfl) (line_ge (by omega))) eva_nil) rfl (by omega)) (fun qq H8 x8 => ⟨fun k σ' H' => Same H7 H' ∧ ∃ o8 o11 o12, Sl K H' σ' [some (.int cell), some (.tx full), some (.tx nm), some (.raw (.ref B)), some (.raw (.ref C)), some (.tx r), some (.int num2), some (.int (at' : Nat)), o8, some (.tx [z]), some (.int ((1 : Nat) : Int)), o11, o12, none] ∧ Same H8 H', ⟨x8, _, _, _, S7.mono (Tp.of x8), Same.refl _⟩, fun k σ' H' _ h => ?_, fun k uu x σ' H' H9 hk ⟨y, o8, o11, o12, S', y2⟩ x9 rd => ?_, fun σ' H' ⟨y, o8, o11, o12, S', y2⟩ => qq _ _ ⟨y, z, 1, o8, o11, o12, first, S'⟩⟩) (fun σ10 H10 ⟨x10, ch, st, o8, o11, o12, hch, S10⟩ => ?_)
      · obtain ⟨_, _, _, _, _, h⟩ := h
        exact Tp.of h
      · have hk2 : k < nm.length := by
          have := (List.getElem?_eq_some_iff.mp hk).1
          rwa [List.length_range] at this
        rw [List.getElem?_range hk2] at hk
        cases hk
        refine gd_name 8 x σ' _ H9 _ rd (S'.mono (Tp.of x9)) fun σ11 S11 => ?_
        obtain ⟨j1, j2⟩ := sg_ix nne (num2 / 9 + (k : Int))
        generalize hname : nm.getD ((num2 / 9 + (k : Int)) % (nm.length : Nat)).toNat 0 = nam
        have hnat : nm[((num2 / 9 + (k : Int)) % (nm.length : Nat)).toNat]? = some nam := by rw [getD_in j1, hname]
        have hnm := List.mem_of_getElem? hnat
        refine st_set S11 (ev_ixS (n := ((num2 / 9 + (k : Int)) % (nm.length : Nat)).toNat) (ev_var S11 rfl) (ev_mod (ev_add (ev_fdiv (ev_var S11 rfl) ev_int ⟨by decide, by decide⟩) (ev_var S11 rfl)) (ev_lenS (ev_var S11 rfl) (line_ge (by omega))) (by omega)) j2 hnat (line_ge (by omega))) fun σ12 H12 x12 S12 => ?_
        have y12 := (y.trans x9).trans x12
        refine st_set S12 (ev_word (kn7.same y12) hnm (ev_var S12 rfl) (ev_find (ev_var S12 rfl) (ev_var S12 rfl)) (fnd_mem hnm)) fun σ13 H13 x13 S13 => ?_
        have S13 : Sl K H13 σ13 [some (.int cell), some (.tx full), some (.tx nm), some (.raw (.ref B)), some (.raw (.ref C)), some (.tx r), some (.int num2), some (.int (at' : Nat)), some (.int ((k : Nat) : Int)), some (.tx [z]), some (.int ((1 : Nat) : Int)), some (.tx [nam]), some (.tx (wd nm ws nam)), none] := S13
        have y13 := y12.trans x13
        have hwl := wd_le kn7 nam
        refine st_if (et_and (et_test (ev_gt (ev_mod (ev_var S13 rfl) ev_int (by decide)) ev_int)) fun _ => et_and (et_test (ev_gt (ev_dget (ev_var S13 rfl) (y13 _ _ hC7) (ev_var S13 rfl) (hus.1 nam hnm)) ev_int)) fun _ => et_and (et_test (ev_neS (ev_var S13 rfl) ev_str)) fun _ => et_test (ev_eqS (ev_slS (l := full) (m := (full.drop at').take (at' + (wd nm ws nam).length - at')) (ev_var S13 rfl) (evo_some (ev_var S13 rfl)) (evo_some (ev_add (ev_var S13 rfl) (ev_lenS (ev_var S13 rfl) (line_ge (by omega))))) (line_ge (by omega)) (cutS_mid full at' (at' + (wd nm ws nam).length))) (ev_var S13 rfl))) (fun hb2 H14 x14 => ?_) (fun hb2 H14 x14 => ?_)
        · obtain ⟨_, hb2⟩ := Bool.and_eq_true_iff.mp hb2
          obtain ⟨hb3, hb2⟩ := Bool.and_eq_true_iff.mp hb2
          obtain ⟨hb4, hb5⟩ := Bool.and_eq_true_iff.mp hb2
          have hb3 := of_decide_eq_true hb3
          have hb5 := of_decide_eq_true hb5
          have hne : wd nm ws nam ≠ [] := fun e => by
            rw [e] at hb4
            simp at hb4
            exact hb4 rfl
          rw [Nat.add_sub_cancel_left] at hb5
          have S14 := S13.mono (Tp.of (K := K) x14)
          refine st_set S14 (ev_var S14 rfl) fun σ15 H15 x15 S15 => ?_
          refine st_set S15 (ev_lenS (ev_var S15 rfl) (line_ge (by omega))) fun σ16 H16 x16 S16 => ?_
          have hle : at' + (wd nm ws nam).length ≤ full.length := by
            have := congrArg List.length hb5
            rw [List.length_take, List.length_drop] at this
            omega
          exact qq _ _ ⟨((y13.trans x14).trans x15).trans x16, nam, (wd nm ws nam).length, _, _, _, ⟨hb5, List.length_pos_iff.mpr hne, hle, .inr ⟨hnm, hb3, hne⟩⟩, S16⟩
        · exact ⟨y13.trans x14, _, _, _, S13.mono (Tp.of x14), (((y2.trans x9).trans x12).trans x13).trans x14⟩
      · -- behind the inner loop
        dsimp only
        obtain ⟨hcut, hst1, hle, hkind⟩ := hch
        have sx10 := sx7.same x10
        have hC10 := x10 _ _ hC7
        have hwd1 : 1 ≤ (wd nm ws ch).length := by
          rw [← hcut, List.length_take, List.length_drop]
          omega
        have hletter : ch ∈ sgs ∨ ch ∈ nm := hkind.elim (fun h => .inl h.1) fun h => .inr h.1
        have hfill2 : fill nm ws (r ++ [ch]) = full.take (at' + st) := by
          rw [fill_app, fill_cons, fill_nil, List.append_nil, hfill, ← hcut, List.take_add]
        have hwne : wd nm ws ch ≠ [] := List.length_pos_iff.mp hwd1
        have hemp2 : ∀ c ∈ nm, wd nm ws c = [] → (r ++ [ch]).count c = 0 := fun c hc he => by
          rw [List.count_append, hemp c hc he, List.count_eq_zero_of_not_mem (l := [ch]) (by
            intro z
            rw [List.mem_singleton.mp z] at he
            exact hwne he)]
        have hlet2 : ∀ c ∈ r ++ [ch], c ∈ sgs ∨ c ∈ nm := fun c hc => by
          rcases List.mem_append.mp hc with hc | hc
          · exact mk.let' c hc
          · rw [List.mem_singleton.mp hc]
            exact hletter
        refine st_ifM (Rr := fun σ' H' => SX C H H' ∧ ∃ kvs2 u2, H' C = some (.dK kvs2) ∧ Us nm kvs2 u2 ∧ Mk nm ws u u2 (r ++ [ch]) ∧ Sl K H' σ' [some (.int cell), some (.tx full), some (.tx nm), some (.raw (.ref B)), some (.raw (.ref C)), some (.tx r), some (.int num2), some (.int (at' : Nat)), o8, some (.tx [ch]), some (.int (st : Nat)), o11, o12, none]) (et_test (ev_inS (ev_var S10 rfl) (ev_var S10 rfl))) (fun hb2 H11 x11 qq => ?_) (fun hb2 H11 x11 qq => ?_) (fun σ12 H12 ⟨sx12, kvs2, u2, hC12, hus2, mk2, S12⟩ => ?_)
        · have hin : ch ∈ nm := of_decide_eq_true hb2
          have hpos : 0 < u' ch := hkind.elim (fun h => absurd hin h.2) fun h => h.2.1
          have S11 := S10.mono (Tp.of (K := K) x11)
          have hC11 := x11 _ _ hC10
          refine st_dput (c := ch) (i := u' ch - 1) (ev_sub (ev_dget (ev_var S11 rfl) hC11 (ev_var S11 rfl) (hus.1 ch hin)) ev_int) (ev_var S11 rfl) (ev_var S11 rfl) hC11 (line_gt (by have := hus.2; omega)) fun H13 x13 => ?_
          have hC13 := x13 _ _ hC11
          have tp := tp_mut (K := K) (w := .dK (putK kvs' (ky ch) (.int (u' ch - 1)))) hC13 trivial
          refine qq _ _ ⟨((sx10.same x11).same x13).mut, _, _, upd_same, us_put hus hin _, ⟨fun c hc => ?_, fun c hc => ?_, hlet2⟩, (S11.mono (Tp.of (K := K) x13)).mono tp⟩
          · have := mk.pos c hc
            by_cases e : c = ch
            · rw [if_pos e]
              omega
            · rw [if_neg e]
              exact this
          · have := mk.cnt c hc
            rw [List.count_append]
            by_cases e : c = ch
            · subst e
              rw [if_pos rfl, List.count_singleton_self]
              omega
            · rw [if_neg e, List.count_eq_zero_of_not_mem (l := [ch]) (by simpa using e)]
              omega
        · have hout : ch ∉ nm := of_decide_eq_false hb2
          refine qq _ _ ⟨sx10.same x11, kvs', u', x11 _ _ hC10, hus, ⟨mk.pos, fun c hc => ?_, hlet2⟩, S10.mono (Tp.of x11)⟩
          have := mk.cnt c hc
          rw [List.count_append, List.count_eq_zero_of_not_mem (l := [ch]) (by
            intro z
            rw [List.mem_singleton.mp z] at hc
            exact hout hc)]
          omega
        · dsimp only
          refine st_set S12 (ev_addS (m := [ch]) (ev_var S12 rfl) (ev_var S12 rfl) (line_ge (by show _ + 1 ≤ _; omega))) fun σ13 H13 x13 S13 => ?_
          dsimp only
          refine st_set S13 (EvD.to (e := .int ((at' + st : Nat) : Int)) (ev_add (ev_var S13 rfl) (ev_var S13 rfl)) (by rw [Int.natCast_add])) fun σ14 H14 x14 S14 => ?_
          refine ⟨full.length - (at' + st), by omega, r ++ [ch], num2, at' + st, kvs2, u2, _, _, _, _, _, rfl, hle, c0, by omega, (sx12.same x13).same x14, x14 _ _ (x13 _ _ hC12), hus2, mk2, hfill2, hemp2, ?_, S14⟩
          rw [List.length_append, List.length_singleton]
          omega
    · -- the empty words
      have hge : at' = full.length := by
        have := of_decide_eq_false hb
        omega
      rw [hge, List.take_length] at hfill
      have S4 := S'.mono (Tp.of (K := K) x4)
      have sx4 := sx.same x4
      have hC4 := x4 _ _ hC'
      dsimp only
      refine st_for (xs := List.range nm.length) (enc := fun k => .int ((k : Nat) : Int)) (S := Tp K) (it_rng1 (eva_cons (ev_lenS (ev_var S4 rfl) (line_ge (by omega))) eva_nil) rfl (by omega)) fun H5 x5 =>
        ⟨fun k σ' H' => Tp K H5 H' ∧ SX C H H' ∧ ∃ r2 kvs2 u2 o8 o13, H' C = some (.dK kvs2) ∧ Us nm kvs2 u2 ∧ Mk nm ws u u2 r2 ∧ fill nm ws r2 = full ∧ (∀ c ∈ nm, wd nm ws c = [] → r2.count c ≤ 1) ∧ (∀ c ∈ nm, wd nm ws c = [] → k ≤ nm.idxOf c → r2.count c = 0) ∧ r2.length ≤ 100 + k ∧
          Sl K H' σ' [some (.int cell), some (.tx full), some (.tx nm), some (.raw (.ref B)), some (.raw (.ref C)), some (.tx r2), some (.int number), some (.int (at' : Nat)), o8, o9, o10, o11, o12, o13],
          ⟨Tp.refl, sx4.same x5, r, kvs', u', o8, none, x5 _ _ hC4, hus, mk, hfill, fun c hc he => by rw [hemp c hc he]; exact Nat.zero_le _, fun c hc he _ => hemp c hc he, by omega, S4.mono (Tp.of x5)⟩, fun k σ' H' _ h => h.1, fun k uu x σ' H' H6 hk ⟨tp6, sx6, r2, kvs2, u2, o8, o13, hC6, hus2, mk2, hf2, hone, hzero, hr2, S'⟩ x6 rd => ?_, fun σ' H' ⟨tp6, sx6, r2, kvs2, u2, o8, o13, hC6, hus2, mk2, hf2, hone, hzero, hr2, S'⟩ => ?_⟩
      · have hk2 : k < nm.length := by
          have := (List.getElem?_eq_some_iff.mp hk).1
          rwa [List.length_range] at this
        rw [List.getElem?_range hk2] at hk
        cases hk
        refine gd_name 8 x σ' _ H6 _ rd (S'.mono (Tp.of x6)) fun σ7 S7 => ?_
        have hC7 := x6 _ _ hC6
        have sx7 := sx6.same x6
        have kn7 := kn.sx hC sx7
        obtain ⟨c, hck⟩ : ∃ c, nm[k]? = some c := ⟨_, List.getElem?_eq_getElem hk2⟩
        obtain ⟨hcm, hci⟩ := idx_at nd hck
        have wordk : ∀ {σ' : L2.St} {H8 : Hp} {t1 t2 : TE}, Same H6 H8 → EvD K t1 σ' H8 (.raw (.ref B)) → EvD K t2 σ' H8 (.int ((k : Nat) : Int)) → EvD K (tOp (rIxL K) t1 t2) σ' H8 (.tx (wd nm ws c)) := fun y a b => ev_word (kn7.same y) hcm a b (by rw [hci])
        have namk : ∀ {σ' : L2.St} {H8 : Hp} {t1 t2 : TE}, EvD K t1 σ' H8 (.tx nm) → EvD K t2 σ' H8 (.int ((k : Nat) : Int)) → EvD K (tOp rIxS t1 t2) σ' H8 (.tx [c]) := fun a b => ev_ixS (n := k) a b rfl hck (line_ge (by omega))
        refine st_if (et_and (et_test (ev_eqS (wordk (Same.refl _) (ev_var S7 rfl) (ev_var S7 rfl)) ev_str)) fun _ => et_and (et_test (ev_gt (ev_dget (ev_var S7 rfl) hC7 (namk (ev_var S7 rfl) (ev_var S7 rfl)) (hus2.1 c hcm)) ev_int)) fun _ => et_test (ev_gt (ev_mod (ev_fdiv (ev_var S7 rfl) ev_int ⟨by decide, by decide⟩) ev_int (by decide)) ev_int)) (fun hb2 H8 x8 => ?_) (fun hb2 H8 x8 => ?_)
        · obtain ⟨hb2, hb3⟩ := Bool.and_eq_true_iff.mp hb2
          obtain ⟨hb3, _⟩ := Bool.and_eq_true_iff.mp hb3
          have hwe : wd nm ws c = [] := of_decide_eq_true hb2
          have hpos : 0 < u2 c := of_decide_eq_true hb3
          have S8 := S7.mono (Tp.of (K := K) x8)
          obtain ⟨pl, hpl, hple⟩ : ∃ pl : Nat, number / 33 % (((r2.length : Nat) : Int) + 1) = (pl : Int) ∧ pl ≤ r2.length := ⟨(number / 33 % (((r2.length : Nat) : Int) + 1)).toNat, by
            have := Int.emod_nonneg (number / 33) (b := ((r2.length : Nat) : Int) + 1) (by omega)
            omega, by
            have := Int.emod_lt_of_pos (number / 33) (b := ((r2.length : Nat) : Int) + 1) (by omega)
            omega⟩
          have hr106 : r2.length ≤ 106 := by omega
          refine st_set S8 (EvD.to (e := .int (pl : Nat)) (ev_mod (ev_fdiv (ev_var S8 rfl) ev_int ⟨by decide, by decide⟩) (ev_add (ev_lenS (ev_var S8 rfl) (line_ge (by omega))) ev_int) (by omega)) (congrArg D.int hpl)) fun σ9 H9 x9 S9 => ?_
          refine st_set S9 (ev_addS (l := r2.take pl ++ [c]) (m := r2.drop pl) (ev_addS (l := r2.take pl) (m := [c]) (ev_slS (ev_var S9 rfl) evo_none (evo_some (ev_var S9 rfl)) (line_ge (by omega)) (cutS_to r2 pl)) (namk (ev_var S9 rfl) (ev_var S9 rfl)) (line_ge (by rw [List.length_take]; show _ + 1 ≤ _; omega))) (ev_slS (ev_var S9 rfl) (evo_some (ev_var S9 rfl)) evo_none (line_ge (by omega)) (cutS_from r2 pl)) (line_ge (by simp only [List.length_append, List.length_take, List.length_drop, List.length_singleton]; omega))) fun σ10 H10 x10 S10 => ?_
          have z10 := (x8.trans x9).trans x10
          have hC10 := z10 _ _ hC7
          refine st_dput (c := c) (i := u2 c - 1) (ev_sub (ev_dget (ev_var S10 rfl) hC10 (namk (ev_var S10 rfl) (ev_var S10 rfl)) (hus2.1 c hcm)) ev_int) (ev_var S10 rfl) (namk (ev_var S10 rfl) (ev_var S10 rfl)) hC10 (line_gt (by have := hus2.2; omega)) fun H11 x11 => ?_
          have hC11 := x11 _ _ hC10
          have tp := tp_mut (K := K) (w := .dK (putK kvs2 (ky c) (.int (u2 c - 1)))) hC11 trivial
          have z11 := (x6.trans z10).trans x11
          have hcount : ∀ d, (r2.take pl ++ [c] ++ r2.drop pl).count d = r2.count d + if d = c then 1 else 0 := fun d => by
            have e : r2.count d = (r2.take pl).count d + (r2.drop pl).count d := by
              rw [← List.count_append, List.take_append_drop]
            rw [List.count_append, List.count_append, e]
            by_cases h : d = c
            · subst h
              rw [if_pos rfl, List.count_singleton_self]
              omega
            · rw [if_neg h, List.count_eq_zero_of_not_mem (l := [c]) (by simpa using h)]
              omega
          refine ⟨(tp6.trans (Tp.of z11)).trans tp, ((sx7.same z10).same x11).mut, r2.take pl ++ [c] ++ r2.drop pl, _, _, _, _, upd_same, us_put hus2 hcm _, ⟨fun d hd => ?_, fun d hd => ?_, fun d hd => ?_⟩, ?_, fun d hd he => ?_, fun d hd he hi => ?_, ?_, (S10.mono (Tp.of (K := K) x11)).mono tp⟩
          · have := mk2.pos d hd
            by_cases e : d = c
            · rw [if_pos e]
              omega
            · rw [if_neg e]
              exact this
          · have := mk2.cnt d hd
            rw [hcount]
            by_cases e : d = c
            · subst e
              rw [if_pos rfl, if_pos rfl]
              omega
            · rw [if_neg e, if_neg e]
              omega
          · simp only [List.mem_append, List.mem_singleton] at hd
            rcases hd with (hd | hd) | hd
            · exact mk2.let' d (List.mem_of_mem_take hd)
            · rw [hd]
              exact .inr hcm
            · exact mk2.let' d (List.mem_of_mem_drop hd)
          · rw [fill_app, fill_app, fill_cons, fill_nil, hwe, List.append_nil, List.append_nil, ← fill_app, List.take_append_drop]
            exact hf2
          · rw [hcount]
            by_cases e : d = c
            · subst e
              rw [if_pos rfl, hzero d hd he (by omega)]
              omega
            · rw [if_neg e]
              exact hone d hd he
          · rw [hcount]
            have e : d ≠ c := by
              rintro rfl
              omega
            rw [if_neg e, hzero d hd he (by omega)]
          · simp only [List.length_append, List.length_take, List.length_drop, List.length_singleton]
            omega
        · exact ⟨tp6.trans (Tp.of (x6.trans x8)), sx7.same x8, r2, kvs2, u2, _, _, x8 _ _ hC7, hus2, mk2, hf2, hone, fun d hd he hi => hzero d hd he (by omega), by omega, S7.mono (Tp.of x8)⟩
      · dsimp only
        refine st_ret (ev_var S' rfl) fun v H7 x7 r7 => ?_
        exact q v H7 r2 kvs2 u2 (sx6.same x7) (x7 _ _ hC6) hus2 mk2.pos mk2.cnt mk2.let' hf2 hone r7
end
end GW

set_option Elab.async false
set_option linter.all false
set_option maxRecDepth 100000
set_option maxHeartbeats 4000000
/-! _law_answered -/
namespace GW
open PySem PySem.Spec L2 TL PyProof.Rows
abbrev s__law_answered : Stmt := topS 63
theorem sc__law_answered : FnScope ["_law_script", "_law_first", "_law_signs", "_law_names_here", "_law_words", "_law_uses", "_law_name", "_law_many", "_law_cells", "_law_system", "_law_k", "_law_letters", "_law_there", "_law_some", "_law_most", "_law_right", "_law_left_here", "_law_full"] ["_law_script"] (defScope s__law_answered) := ⟨rfl, rfl, rfl, by decide +kernel, rfl, by decide +kernel, by decide +kernel⟩
def sgL : List (List Nat) := [tl (Str.ofString "a"), tl (Str.ofString "ab"), tl (Str.ofString "qz"), tl (Str.ofString "abc"), tl (Str.ofString "aekz")]
theorem sgL_ok : ∀ l ∈ sgL, l ≠ [] ∧ l.length ≤ 100 ∧ Wd l := by
  have h1 : tl (Str.ofString "a") = [97] := by rw [tl_ofString]; decide
  have h2 : tl (Str.ofString "ab") = [97, 98] := by rw [tl_ofString]; decide
  have h3 : tl (Str.ofString "qz") = [113, 122] := by rw [tl_ofString]; decide
  have h4 : tl (Str.ofString "abc") = [97, 98, 99] := by rw [tl_ofString]; decide
  have h5 : tl (Str.ofString "aekz") = [97, 101, 107, 122] := by rw [tl_ofString]; decide
  unfold sgL
  rw [h1, h2, h3, h4, h5]
  have wd : ∀ l : List Nat, (∀ c ∈ l, 97 ≤ c ∧ c ≤ 122) → Wd l := fun l h c hc => mem_sgs.mpr (h c hc)
  intro l hl
  simp only [List.mem_cons, List.not_mem_nil, or_false] at hl
  rcases hl with rfl | rfl | rfl | rfl | rfl
  · exact ⟨by decide, by decide, wd _ (by decide)⟩
  · exact ⟨by decide, by decide, wd _ (by decide)⟩
  · exact ⟨by decide, by decide, wd _ (by decide)⟩
  · exact ⟨by decide, by decide, wd _ (by decide)⟩
  · exact ⟨by decide, by decide, wd _ (by decide)⟩
def cutI (xs : List Int) (lo hi : Option Int) : List Int := (xs.drop (HT.sIx xs.length 0 lo)).take (HT.sIx xs.length xs.length hi - HT.sIx xs.length 0 lo)
theorem cutI_len (xs : List Int) (lo hi : Option Int) : (cutI xs lo hi).length ≤ xs.length := by
  unfold cutI
  rw [List.length_take, List.length_drop]
  omega
theorem cutD_ints (xs : List Int) (lo hi : Option Int) : cutD (xs.map D.int) lo hi = (cutI xs lo hi).map D.int := by
  unfold cutD cutI
  rw [List.length_map, List.map_take, List.map_drop]
theorem pick_range (L nm : List Nat) (ws : Wds) (h : ws.length = nm.length) : ((List.range nm.length).filter fun k => decide (nm.getD k 0 ∈ L)).map (fun k => (nm.getD k 0, ws.getD k [])) = pick L nm ws := by
  have e : nm.zip ws = (List.range nm.length).map fun k => (nm.getD k 0, ws.getD k []) := by
    refine List.ext_getElem? fun i => ?_
    rw [List.getElem?_map]
    by_cases hi : i < nm.length
    · rw [List.getElem?_range hi]
      exact List.getElem?_zip_eq_some.mpr ⟨getD_in hi, getD_at (by omega)⟩
    · rw [List.getElem?_eq_none (by rw [List.length_zip]; omega), List.getElem?_eq_none (by rw [List.length_range]; omega)]
      rfl
  unfold pick
  rw [e, List.filter_map]
  rfl
section
variable {P : Program} {w : World} {K : PySem.W.Frag} {mg : Str → Option Value} {base : Heap} {tS tU tE tL tN : Tok} {σ : L2.St} {H H' : Hp} {ta tb te : TE} {n : Nat}
theorem RL.vints : ∀ {vs : List V} {ns : List Int}, RL K H vs (ns.map D.int) → vs = ns.map V.int := RL.ints
theorem ev_sum {a : Addr} {ns : List Int} (h : EvD K ta σ H (.raw (.ref a))) (ha : SqL K H a (ns.map V.int)) : EvD K (tCB (rSum K) (tCons ta tNil)) σ H (.int ns.sum) := fun H1 x Q q => h H1 x _ fun v H2 x2 r => by
  cases r
  exact ⟨a, ns, rfl, (x.trans x2).seq ha, q _ H2 x2 (.int _)⟩
theorem st_names {D0 : Ends} {k : Nat} {ss : List SD} {c : Int} (S : Sl K H σ ss) (h : EvD K te σ H (.int c)) (q : ∀ σ' H2 nm, Same H H2 → Nms nm → Sl K H2 σ' (ss.set k (some (.tx nm))) → D0.nx σ' H2) : tAsg (tCall (spNames K) [] E0 (tCons te tNil)) (gName k) D0 σ H :=
  h.go fun v H1 x r => by
    cases r
    exact ⟨c, rfl, fun v H2 nm y nms rv => q _ H2 nm (x.trans y) nms ((S.mono (Tp.of (x.trans y))).set rv k)⟩
theorem st_left {D0 : Ends} {t : TA} {ss : List SD} {A B C : Addr} {xs : List Int} {nm sg : List Nat} {ws : Wds} {us : List V} {kvs : List (Key × V)} {u : Nat → Int} {most wide k1 k2 : Nat} (S : Sl K H σ ss) (h : EvA K t σ H [.raw (.ref A), .tx nm, .raw (.ref B), .tx sg, .raw (.ref C), .int (most : Nat), .int (wide : Nat)])
    (hA : H A = some (.lst (xs.map V.int))) (hxs : xs.length ≤ 100) (kn : Kn K H nm ws B us) (g1 : sg ≠ []) (g2 : sg.length ≤ 100) (g3 : Wd sg) (hC : H C = some (.dK kvs)) (hu : Us nm kvs u) (hu0 : ∀ c ∈ nm, 0 ≤ u c) (hm : most ≤ 100) (hw : wide ≤ 100)
    (q : ∀ σ' H' l kvs' u', SX C H H' → H' C = some (.dK kvs') → Us nm kvs' u' → (∀ c ∈ nm, 0 ≤ u' c) → (∀ c ∈ nm, u' c + (l.count c : Nat) = u c) → (∀ c ∈ l, c ∈ sgs ∨ c ∈ nm) → l.length ≤ most → (fill nm ws l).length ≤ wide → Sl K H' σ' ((ss.set k1 (some (.tx l))).set k2 (some (.tx (fill nm ws l)))) → D0.nx σ' H') :
    tAsg (tCall (spLeft K) [] E0 t) (gTup K 2 (gCons (gName k1) (gCons (gName k2) gNil))) D0 σ H := h.go fun vs H1 x r => by
  cases r with
  | cons r1 r =>
    cases r with
    | cons r2 r =>
      cases r with
      | cons r3 r =>
        cases r with
        | cons r4 r =>
          cases r with
          | cons r5 r =>
            cases r with
            | cons r6 r =>
              cases r with
              | cons r7 r =>
                cases r
                cases r1
                cases r2
                cases r3
                cases r4
                cases r5
                cases r6
                cases r7
                refine ⟨A, xs, nm, ws, B, us, sg, C, kvs, u, most, wide, rfl, x _ _ hA, hxs, kn.same x, g1, g2, g3, x _ _ hC, hu, hu0, hm, hw, fun v H2 l kvs' u' sx hC' hus hp hc hl h1 h2 rv => ?_⟩
                have sx2 := (SX.of (C := C) x).trans sx
                exact gd_pair v σ ss H2 _ rv (S.mono (sx2.tp hC)) fun σ' S' => q σ' H2 l kvs' u' sx2 hC' hus hp hc hl h1 h2 S'
theorem st_cut {D0 : Ends} {t : TA} {ss : List SD} {B C : Addr} {cell : Int} {full nm : List Nat} {ws : Wds} {us : List V} {kvs : List (Key × V)} {u : Nat → Int} {k1 : Nat} (S : Sl K H σ ss) (h : EvA K t σ H [.int cell, .tx full, .tx nm, .raw (.ref B), .raw (.ref C)])
    (hf : Wd full) (hl : full.length ≤ 100) (kn : Kn K H nm ws B us) (hC : H C = some (.dK kvs)) (hu : Us nm kvs u) (hu0 : ∀ c ∈ nm, 0 ≤ u c)
    (q : ∀ σ' H' r kvs' u', SX C H H' → H' C = some (.dK kvs') → Us nm kvs' u' → (∀ c ∈ nm, 0 ≤ u' c) → (∀ c ∈ nm, u' c + (r.count c : Nat) = u c) → (∀ c ∈ r, c ∈ sgs ∨ c ∈ nm) → fill nm ws r = full → (∀ c ∈ nm, wd nm ws c = [] → r.count c ≤ 1) → Sl K H' σ' (ss.set k1 (some (.tx r))) → D0.nx σ' H') :
    tAsg (tCall (spCut K) [] E0 t) (gName k1) D0 σ H := h.go fun vs H1 x r => by
  cases r with
  | cons r1 r =>
    cases r with
    | cons r2 r =>
      cases r with
      | cons r3 r =>
        cases r with
        | cons r4 r =>
          cases r with
          | cons r5 r =>
            cases r
            cases r1
            cases r2
            cases r3
            cases r4
            cases r5
            refine ⟨cell, full, nm, ws, B, us, C, kvs, u, rfl, hf, hl, kn.same x, x _ _ hC, hu, hu0, fun v H2 r kvs' u' sx hC' hus hp hc hlr h1 h2 rv => ?_⟩
            have sx2 := (SX.of (C := C) x).trans sx
            exact q _ H2 r kvs' u' sx2 hC' hus hp hc hlr h1 h2 ((S.mono (sx2.tp hC)).set rv k1)
theorem same_sx {C : Addr} {H0 H1 H2 : Hp} (x : Same H0 H1) (y : SX C H1 H2) (n : H0 C = none) : Same H0 H2 := fun b o e => y b o (by
  rintro rfl
  rw [n] at e
  cases e) (x b o e)
theorem wd_fill {nm : List Nat} {ws : Wds} {l : List Nat} (hl : ∀ c ∈ l, c ∈ sgs ∨ c ∈ nm) (len : ws.length = nm.length) (hw : ∀ w ∈ ws, Wd w) (un : ∀ c ∈ nm, c ∈ uns) : Wd (fill nm ws l) := fun c hc => by
  obtain ⟨d, hd, h⟩ := List.mem_flatMap.mp hc
  by_cases m : d ∈ nm
  · exact hw _ (wd_mem m len) c h
  · rw [wd_out m] at h
    rw [List.mem_singleton.mp h]
    exact (hl d hd).resolve_right m
theorem ok_answered {f : Addr} {fd : FuncData} (F : Fun K "_law_answered" "_law_answered" s__law_answered f fd) (T : Txt mg tS tU tE tL tN) (C__law_cell_at : Cal P w K mg base 1 "_law_cell_at" ["_law_script", "_law_k"] (spCell K)) (C__law_names : Cal P w K mg base 1 "_law_names" ["_law_cell"] (spNames K)) (C__law_word : Cal P w K mg base 1 "_law_word" ["_law_cell", "_law_signs"] (spD K pWord))
    (C__law_left : Cal P w K mg base 1 "_law_left" ["_law_cells", "_law_names_here", "_law_words", "_law_signs", "_law_uses", "_law_most", "_law_wide"] (spLeft K)) (C__law_cut : Cal P w K mg base 1 "_law_cut" ["_law_cell", "_law_full", "_law_names_here", "_law_words", "_law_uses"] (spCut K)) : FnOk P w K mg base CX0 4 f fd ["_law_script"] (spAns K) := by
  refine F.ok sc__law_answered (fun vs H Q E h => ?_) (fun cdv A0 outer s H vs Q E hr h => ?_)
  · obtain ⟨a, xs, rfl, _⟩ := h
    rfl
  · obtain ⟨A, xs, rfl, hx, hxl, q⟩ := h
    have S0 : Sl K H (start ["_law_script", "_law_first", "_law_signs", "_law_names_here", "_law_words", "_law_uses", "_law_name", "_law_many", "_law_cells", "_law_system", "_law_k", "_law_letters", "_law_there", "_law_some", "_law_most", "_law_right", "_law_left_here", "_law_full"] [.ref A])
        [some (.raw (.ref A)), none, none, none, none, none, none, none, none, none, none, none, none, none, none, none, none, none] := Sl.start (.one (.raw _))
    refine ⟨_, (pss_cons (ps_set (i := 1) sc__law_answered.nd rfl (.inl rfl) (pe_cal C__law_cell_at (hr.mono (by decide)) (by rfl) (pa_cons (pv 0) (pa_cons pe_int pa_nil))))
    (pss_cons (ps_set (i := 2) sc__law_answered.nd rfl (.inr rfl) (pe_ix (ix_listK (K := K)) (pe_lst (pa_cons pe_str (pa_cons pe_str (pa_cons pe_str (pa_cons pe_str (pa_cons pe_str pa_nil)))))) (pe_op op_mod (pe_op op_fdiv (pv 1) pe_int) pe_int) (fun _ _ => rfl)))
    (pss_cons (ps_set (i := 3) sc__law_answered.nd rfl (.inr rfl) (pe_cal C__law_names (hr.mono (by decide)) (by rfl) (pa_cons (pv 1) pa_nil)))
    (pss_cons (ps_set (i := 4) sc__law_answered.nd rfl (.inr rfl) (pe_lc (own := [("_law_k", 10)]) (g := gName 10) (by rfl) sc__law_answered.nd (pi_range1 (by rfl) T.zrange (pa_cons (pe_callB call_lenS (by rfl) T.zlen PySem.boot_len (pa_cons (pv 3) pa_nil)) pa_nil)) (blkOk_by (own := [("_law_k", 10)]) (N := ["_law_script", "_law_first", "_law_signs", "_law_names_here", "_law_words", "_law_uses", "_law_name", "_law_many", "_law_cells", "_law_system", "_law_k", "_law_letters", "_law_there", "_law_some", "_law_most", "_law_right", "_law_left_here", "_law_full"]) (sc := defScope s__law_answered) (by decide +kernel)) (fun _ _ _ _ _ => pg_name (i := 10) sc__law_answered.nd rfl (Or.inl rfl)) (fun _ _ _ _ _ => pts_nil) (fun _ _ _ _ _ => (pe_cal C__law_word (hr.mono (by decide)) (by rfl) (pa_cons (pe_cal C__law_cell_at (hr.mono (by decide)) (by rfl) (pa_cons (pv 0) (pa_cons (pe_op op_add pe_int (pv 10)) pa_nil))) (pa_cons (pv 2) pa_nil))))))
    (pss_cons (ps_set (i := 5) sc__law_answered.nd rfl (.inl rfl) pe_dnewK)
    (pss_cons (ps_for PassesOwn.never rfl (pi_str (pv 3)) (pg_name (i := 6) sc__law_answered.nd rfl (.inl rfl))
    (pss_one (ps_dput (hu_of hr) (pv 5) (pv 6) pe_int rfl)))
    (pss_cons (ps_set (i := 7) sc__law_answered.nd rfl (.inl rfl) (pe_op op_add pe_int (pe_op op_mod (pe_cal C__law_cell_at (hr.mono (by decide)) (by rfl) (pa_cons (pv 0) (pa_cons pe_int pa_nil))) pe_int)))
    (pss_cons (ps_set (i := 8) sc__law_answered.nd rfl (.inl rfl) (pe_slice (sl_listK (K := K)) (pv 0) (po_some pe_int) (po_some pe_int)))
    (pss_cons (ps_set (i := 9) sc__law_answered.nd rfl (.inl rfl) (pe_lst pa_nil))
    (pss_cons (ps_for PassesOwn.never rfl (pi_range1 (by rfl) T.zrange (pa_cons (pv 7) pa_nil)) (pg_name (i := 10) sc__law_answered.nd rfl (.inl rfl))
    (pss_cons (ps_set (i := 13) sc__law_answered.nd rfl (.inl rfl) (pe_slice (sl_listK (K := K)) (pv 8) (po_some (pe_op op_fdiv (pe_op op_mul (pv 10) (pe_callB (call_lenQK (K := K)) (by rfl) T.zlen PySem.boot_len (pa_cons (pv 8) pa_nil))) (pv 7))) (po_some (pe_op op_fdiv (pe_op op_mul (pe_op op_add (pv 10) pe_int) (pe_callB (call_lenQK (K := K)) (by rfl) T.zlen PySem.boot_len (pa_cons (pv 8) pa_nil))) (pv 7)))))
    (pss_cons (ps_set (i := 14) sc__law_answered.nd rfl (.inl rfl) (pe_ix (ix_listK (K := K)) (pe_lst (pa_cons pe_int (pa_cons pe_int (pa_cons pe_int pa_nil)))) (pe_op op_sub (pv 7) pe_int) (fun _ _ => rfl)))
    (pss_cons (ps_asg (pe_cal C__law_left (hr.mono (by decide)) (by rfl) (pa_cons (pv 13) (pa_cons (pv 3) (pa_cons (pv 4) (pa_cons (pv 2) (pa_cons (pv 5) (pa_cons (pv 14) (pa_cons (pe_ix (ix_listK (K := K)) (pe_lst (pa_cons pe_int (pa_cons pe_int (pa_cons pe_int pa_nil)))) (pe_op op_sub (pv 7) pe_int) (fun _ _ => rfl)) pa_nil)))))))) (pg_tup rfl (pgs_cons (pg_name (i := 16) sc__law_answered.nd rfl (.inl rfl)) (pgs_cons (pg_name (i := 17) sc__law_answered.nd rfl (.inl rfl)) (pgs_nil)))))
    (pss_cons (ps_set (i := 15) sc__law_answered.nd rfl (.inl rfl) (pe_cal C__law_cut (hr.mono (by decide)) (by rfl) (pa_cons (pe_op op_add (pe_op op_add (pe_op op_fdiv (pe_cal C__law_cell_at (hr.mono (by decide)) (by rfl) (pa_cons (pv 0) (pa_cons pe_int pa_nil))) pe_int) (pe_op op_mul pe_int (pv 10))) (pe_op op_mod (pe_callB (cr_sumK (K := K) rfl) (by rfl) T.zsum (by decide +kernel) (pa_cons (pv 13) pa_nil)) pe_int)) (pa_cons (pv 17) (pa_cons (pv 3) (pa_cons (pv 4) (pa_cons (pv 5) pa_nil)))))))
    (pss_one (ps_expr (pe_bm PySem.F.plainAttrs_list PySem.F.slot_list_append PySem.F.type_list_append mt_append (pv 9) (pa_cons (pe_ix (ix_listK (K := K)) (pe_lst (pa_cons (pe_tup (pa_cons (pv 16) (pa_cons (pv 15) pa_nil))) (pa_cons (pe_tup (pa_cons (pv 15) (pa_cons (pv 16) pa_nil))) pa_nil))) (pe_op op_mod (pe_op op_fdiv (pe_cal C__law_cell_at (hr.mono (by decide)) (by rfl) (pa_cons (pv 0) (pa_cons pe_int pa_nil))) (pe_op op_add pe_int (pv 10))) pe_int) (fun _ _ => rfl)) pa_nil)))))))))
    (pss_cons (ps_set (i := 11) sc__law_answered.nd rfl (.inr rfl) (pe_m1 PySem.F.slot_str_join PySem.F.type_str_join (mt_joinK (K := K)) pe_str (pe_lc (own := [("_law_left_here", 16), ("_law_right", 15)]) (g := gTup K 2 (gCons (gName 16) (gCons (gName 15) (gNil)))) (by rfl) sc__law_answered.nd (pi_list (pv 9)) (blkOk_by (own := [("_law_left_here", 16), ("_law_right", 15)]) (N := ["_law_script", "_law_first", "_law_signs", "_law_names_here", "_law_words", "_law_uses", "_law_name", "_law_many", "_law_cells", "_law_system", "_law_k", "_law_letters", "_law_there", "_law_some", "_law_most", "_law_right", "_law_left_here", "_law_full"]) (sc := defScope s__law_answered) (by decide +kernel)) (fun _ _ _ _ _ => pg_tup rfl (pgs_cons (pg_name (i := 16) sc__law_answered.nd rfl (Or.inl rfl)) (pgs_cons (pg_name (i := 15) sc__law_answered.nd rfl (Or.inl rfl)) (pgs_nil)))) (fun _ _ _ _ _ => pts_nil) (fun _ _ _ _ _ => (pe_op op_addS (pv 16) (pv 15))))))
    (pss_cons (ps_setLc (i := 12) (own := [("_law_k", 10)]) (g := gName 10) (by rfl) sc__law_answered.nd rfl rfl (sw_true rfl rfl rfl (by decide +kernel)) (pi_range1 (by rfl) T.zrange (pa_cons (pe_callB call_lenS (by rfl) T.zlen PySem.boot_len (pa_cons (pv 3) pa_nil)) pa_nil)) (blkOk_by (own := [("_law_k", 10)]) (N := ["_law_script", "_law_first", "_law_signs", "_law_names_here", "_law_words", "_law_uses", "_law_name", "_law_many", "_law_cells", "_law_system", "_law_k", "_law_letters", "_law_there", "_law_some", "_law_most", "_law_right", "_law_left_here", "_law_full"]) (sc := defScope s__law_answered) (by decide +kernel)) (fun _ _ _ _ _ => pg_name (i := 10) sc__law_answered.nd rfl (Or.inl rfl)) (fun _ _ _ _ _ => pts_one (pt_cmpR op_inS (pe_ix ix_str (pv 3) (pv 10) (fun _ _ => rfl)) (pv 11) rfl)) (fun _ _ _ _ _ => (pv 10)))
    (pss_one (ps_ret (pe_tup (pa_cons (pe_callTy (call_tupOfK (K := K)) (by rfl) T.ztuple (by decide +kernel) (pa_cons (pv 9) pa_nil)) (pa_cons (pe_m1 PySem.F.slot_str_join PySem.F.type_str_join (mt_joinK (K := K)) pe_str (pe_lc (own := [("_law_k", 10)]) (g := gName 10) (by rfl) sc__law_answered.nd (pi_list (pv 12)) (blkOk_by (own := [("_law_k", 10)]) (N := ["_law_script", "_law_first", "_law_signs", "_law_names_here", "_law_words", "_law_uses", "_law_name", "_law_many", "_law_cells", "_law_system", "_law_k", "_law_letters", "_law_there", "_law_some", "_law_most", "_law_right", "_law_left_here", "_law_full"]) (sc := defScope s__law_answered) (by decide +kernel)) (fun _ _ _ _ _ => pg_name (i := 10) sc__law_answered.nd rfl (Or.inl rfl)) (fun _ _ _ _ _ => pts_nil) (fun _ _ _ _ _ => (pe_ix ix_str (pv 3) (pv 10) (fun _ _ => rfl))))) (pa_cons (pe_callTy (call_tupOfK (K := K)) (by rfl) T.ztuple (by decide +kernel) (pa_cons (pe_lc (own := [("_law_k", 10)]) (g := gName 10) (by rfl) sc__law_answered.nd (pi_list (pv 12)) (blkOk_by (own := [("_law_k", 10)]) (N := ["_law_script", "_law_first", "_law_signs", "_law_names_here", "_law_words", "_law_uses", "_law_name", "_law_many", "_law_cells", "_law_system", "_law_k", "_law_letters", "_law_there", "_law_some", "_law_most", "_law_right", "_law_left_here", "_law_full"]) (sc := defScope s__law_answered) (by decide +kernel)) (fun _ _ _ _ _ => pg_name (i := 10) sc__law_answered.nd rfl (Or.inl rfl)) (fun _ _ _ _ _ => pts_nil) (fun _ _ _ _ _ => (pe_ix (ix_listK (K := K)) (pv 4) (pv 10) (fun _ _ => rfl)))) pa_nil)) pa_nil)))))))))))))))))), ?_⟩
    refine st_set S0 (ev_cell (k := 0) (ev_var S0 rfl) hx ev_int rfl) fun σ1 H1 x1 S1 => ?_
    dsimp only
    generalize hc1 : xs.getD 0 0 = first at S1
    have h5 : (first / 312 % 5).toNat < 5 ∧ first / 312 % 5 = ((first / 312 % 5).toNat : Nat) := by omega
    obtain ⟨sg, hsg⟩ : ∃ sg, sgL[(first / 312 % 5).toNat]? = some sg := ⟨_, List.getElem?_eq_getElem (show _ < 5 from h5.1)⟩
    obtain ⟨g1, g2, g3⟩ := sgL_ok sg (List.mem_of_getElem? hsg)
    have hsgD : (sgL.map D.tx)[(first / 312 % 5).toNat]? = some (.tx sg) := by
      rw [List.getElem?_map, hsg]
      rfl
    refine st_set S1 (ev_ixD (el_lst (ds := sgL.map D.tx) (eva_cons ev_str (eva_cons ev_str (eva_cons ev_str (eva_cons ev_str (eva_cons ev_str eva_nil))))) (by show 5 ≤ sizeLine; decide)) (ev_mod (ev_fdiv (ev_var S1 rfl) ev_int ⟨by decide, by decide⟩) ev_int (by decide)) h5.2 hsgD) fun σ2 H2 x2 S2 => ?_
    dsimp only
    refine st_names S2 (ev_var S2 rfl) fun σ3 H3 nm x3 nms S3 => ?_
    dsimp only
    have six := nms.six
    have lo := nms.lo
    have z3 := (x1.trans x2).trans x3
    generalize hws : ((List.range nm.length).map fun k => wordOf (xs.getD (2 + k) 0) sg) = ws
    have wlen : ws.length = nm.length := by rw [← hws, List.length_map, List.length_range]
    have wl : ∀ w ∈ ws, Wd w ∧ w.length ≤ 9 := fun w hw => by
      rw [← hws] at hw
      obtain ⟨k, _, rfl⟩ := List.mem_map.mp hw
      exact ⟨fun c hc => g3 c (wordOf_mem g1 c hc), wordOf_len _ _⟩
    refine st_setL (ds := ws.map D.tx) S3 (EvL.to (el_map (xs := List.range nm.length) (enc := fun k => .int ((k : Nat) : Int)) (f := fun k => .tx (wordOf (xs.getD (2 + k) 0) sg)) (fs := fun k ss => ss.set 10 (some (.int ((k : Nat) : Int)))) S3 (it_rng1 (eva_cons (ev_lenS (ev_var S3 rfl) (line_ge (by omega))) eva_nil) rfl (by omega)).same (fun k _ => go_name 10) (by rw [List.length_range]; omega) fun k hk σ' H' y S' => ev_call (P := pWord) (eva_cons (ev_cell (k := 2 + k) (ev_var S' rfl) ((z3.trans y).seq hx) (ev_add ev_int (ev_var S' rfl)) (by omega)) (eva_cons (ev_var S' rfl) eva_nil)) ⟨_, sg, rfl, g1, g2, rfl⟩) (by rw [← hws, List.map_map]; rfl)) fun σ4 B us H4 x4 hB hus4 r4 S4 => ?_
    dsimp only
    refine st_setDict S4 fun σ5 C H5 x5 hCn hC5 S5 => ?_
    dsimp only
    have z5 := (z3.trans x4).trans x5
    have hHC : H C = none := (z3.trans x4).free hCn
    have kn5 : Kn K H5 nm ws B us := ⟨nms, x5 _ _ hus4, r4.mono (Tp.of x5), wlen, wl⟩
    have S5 : Sl K H5 σ5 [some (.raw (.ref A)), some (.int first), some (.tx sg), some (.tx nm), some (.raw (.ref B)), some (.raw (.ref C)), none, none, none, none, none, none, none, none, none, none, none, none] := S5
    refine st_forM (xs := nm) (enc := fun c => .tx [c]) (S := Tp K) (Rr := fun σ' H' => SX C H5 H' ∧ (∃ kvs, H' C = some (.dK kvs) ∧ Us nm kvs (fun _ => 2)) ∧ ∃ o6, Sl K H' σ' [some (.raw (.ref A)), some (.int first), some (.tx sg), some (.tx nm), some (.raw (.ref B)), some (.raw (.ref C)), o6, none, none, none, none, none, none, none, none, none, none, none]) (it_str (ev_var S5 rfl))
      (fun qq H6 x6 => ⟨fun k σ' H' => Tp K H6 H' ∧ SX C H5 H' ∧ (∃ kvs, H' C = some (.dK kvs) ∧ (∀ c ∈ nm.take k, valV kvs (ky c) = some (.int 2)) ∧ kvs.length ≤ k) ∧ ∃ o6, Sl K H' σ' [some (.raw (.ref A)), some (.int first), some (.tx sg), some (.tx nm), some (.raw (.ref B)), some (.raw (.ref C)), o6, none, none, none, none, none, none, none, none, none, none, none],
        ⟨Tp.refl, SX.of x6, ⟨[], x6 _ _ hC5, (fun c hc => by rw [List.take_zero] at hc; cases hc), Nat.le_refl _⟩, _, S5.mono (Tp.of x6)⟩, fun k σ' H' _ h => h.1, fun k c x σ' H' H7 hk ⟨tp7, sx7, ⟨kvs, hC7, hv7, hl7⟩, o6, S'⟩ x7 rd => ?_, fun σ' H' ⟨tp7, sx7, ⟨kvs, hC7, hv7, hl7⟩, o6, S'⟩ => ?_⟩) (fun σ8 H8 ⟨sx8, ⟨kvs8, hC8, hu8⟩, o6, S8⟩ => ?_)
    · have hk2 := (List.getElem?_eq_some_iff.mp hk).1
      refine gd_name 6 x σ' _ H7 _ rd (S'.mono (Tp.of x7)) fun σ9 S9 => ?_
      have hC9 := x7 _ _ hC7
      refine st_dput (c := c) (i := 2) ev_int (ev_var S9 rfl) (ev_var S9 rfl) hC9 (line_gt (by omega)) fun H10 x10 => ?_
      have hC10 := x10 _ _ hC9
      have tp := tp_mut (K := K) (w := .dK (putK kvs (ky c) (.int 2))) hC10 trivial
      refine ⟨(tp7.trans (Tp.of (x7.trans x10))).trans tp, ((sx7.same x7).same x10).mut, ⟨_, upd_same, fun d hd => ?_, ?_⟩, _, (S9.mono (Tp.of (K := K) x10)).mono tp⟩
      · rw [valV_put]
        by_cases e : ky d = ky c
        · rw [if_pos e]
        · rw [if_neg e]
          rw [List.take_add_one, hk] at hd
          rcases List.mem_append.mp hd with hd | hd
          · exact hv7 d hd
          · exact absurd (congrArg ky (List.mem_singleton.mp hd)) e
      · have := putK_len kvs (ky c) (.int 2)
        omega
    · rw [List.take_length] at hv7
      exact qq _ _ ⟨sx7, ⟨kvs, hC7, hv7, by omega⟩, o6, S'⟩
    · dsimp only
      have s8 : Same H H8 := same_sx z5 sx8 hHC
      have kn8 := kn5.sx hC5 sx8
      -- how many
      obtain ⟨m, em, m1, m3⟩ : ∃ m : Nat, 1 + xs.getD 1 0 % 3 = (m : Int) ∧ 1 ≤ m ∧ m ≤ 3 := ⟨(1 + xs.getD 1 0 % 3).toNat, by omega, by omega, by omega⟩
      refine st_set S8 (EvD.to (e := .int (m : Nat)) (ev_add ev_int (ev_mod (ev_cell (k := 1) (ev_var S8 rfl) (s8.seq hx) ev_int rfl) ev_int (by decide))) (congrArg D.int em)) fun σ9 H9 x9 S9 => ?_
      dsimp only
      have s9 := s8.trans x9
      refine st_setL S9 (el_slL (es := (cutI xs (some 6) (some 66)).map D.int) (ev_var S9 rfl) (s9.seq hx) (RL.ofInts xs) (evo_some (K := K) (i := 6) ev_int) (evo_some (K := K) (i := 66) ev_int) (cutD_ints xs _ _)) fun σ10 Ce cv H10 x10 hCe hcv r10 S10 => ?_
      dsimp only
      have ecv := RL.ints r10
      subst ecv
      generalize hzs : cutI xs (some 6) (some 66) = zs at hcv S10 r10
      have zsl : zs.length ≤ 63 := by
        rw [← hzs]
        exact Nat.le_trans (cutI_len _ _ _) hxl
      refine st_setL (ds := []) S10 (el_lst eva_nil (Nat.zero_le _)) fun σ11 E1 ev11 H11 x11 hE hev r11 S11 => ?_
      dsimp only
      cases r11
      have s11 := (s9.trans x10).trans x11
      have hHE : H E1 = none := (s9.trans x10).free hE
      have kn11 := kn8.same ((x9.trans x10).trans x11)
      have hC11 := x11 _ _ (x10 _ _ (x9 _ _ hC8))
      have hce11 := x11 _ _ hcv
      have neCE : C ≠ E1 := by
        rintro rfl
        rw [x10 _ _ (x9 _ _ hC8)] at hE
        cases hE
      have neBE : B ≠ E1 := by
        rintro rfl
        rw [x10 _ _ (x9 _ _ kn8.b)] at hE
        cases hE
      have neDE : Ce ≠ E1 := by
        rintro rfl
        rw [hcv] at hE
        cases hE
      have S11 : Sl K H11 σ11 [some (.raw (.ref A)), some (.int first), some (.tx sg), some (.tx nm), some (.raw (.ref B)), some (.raw (.ref C)), o6, some (.int (m : Nat)), some (.raw (.ref Ce)), some (.raw (.ref E1)), none, none, none, none, none, none, none, none] := S11
      have mosts : ([D.int 12, .int 6, .int 4])[m - 1]? = some (.int ((mostOf m : Nat) : Int)) := by
        have : m = 1 ∨ m = 2 ∨ m = 3 := by omega
        rcases this with rfl | rfl | rfl <;> rfl
      have wides : ([D.int 20, .int 9, .int 6])[m - 1]? = some (.int ((wideOf m : Nat) : Int)) := by
        have : m = 1 ∨ m = 2 ∨ m = 3 := by omega
        rcases this with rfl | rfl | rfl <;> rfl
      have mw : mostOf m ≤ 100 ∧ wideOf m ≤ 100 := by
        have : m = 1 ∨ m = 2 ∨ m = 3 := by omega
        rcases this with rfl | rfl | rfl <;> decide
      refine st_for (xs := List.range m) (enc := fun k => .int ((k : Nat) : Int)) (S := Tp K) (it_rng1 (eva_cons (ev_var S11 rfl) eva_nil) rfl (by omega)) fun H12 x12 =>
        ⟨fun k σ' H' => Tp K H12 H' ∧ Same H H' ∧ ∃ (sy : Sys) (kvs : List (Key × V)) (u : Nat → Int) (se : List V) (o10 o13 o14 o15 o16 o17 : SD), sy.length = k ∧ (∀ e ∈ sy, ∃ l r, Eq1 nm ws m l r ∧ (e = (l, r) ∨ e = (r, l))) ∧ (∀ c ∈ nm, 0 ≤ u c) ∧ (∀ c ∈ nm, u c + ((letters sy).count c : Nat) = 2) ∧ Kn K H' nm ws B us ∧ H' C = some (.dK kvs) ∧ Us nm kvs u ∧ H' Ce = some (.lst (zs.map V.int)) ∧ H' E1 = some (.lst se) ∧ RL K H' se (sy.map eD) ∧
          Sl K H' σ' [some (.raw (.ref A)), some (.int first), some (.tx sg), some (.tx nm), some (.raw (.ref B)), some (.raw (.ref C)), o6, some (.int (m : Nat)), some (.raw (.ref Ce)), some (.raw (.ref E1)), o10, none, none, o13, o14, o15, o16, o17],
          ⟨Tp.refl, s11.trans x12, [], kvs8, fun _ => 2, [], none, none, none, none, none, none, rfl, (fun e he => by cases he), (fun c _ => by show (0 : Int) ≤ 2; decide), (fun c _ => rfl), kn11.same x12, x12 _ _ hC11, hu8, x12 _ _ hce11, x12 _ _ hev, .nil, S11.mono (Tp.of x12)⟩, fun k σ' H' _ h => h.1,
          fun k uu x σ' H' H13 hk ⟨tp13, s13, sy, kvs, u, se, o10, o13, o14, o15, o16, o17, e1, e2, e3, e4, kn13, hC13, hu13, hce13, hE13, rse13, S'⟩ x13 rd => ?_, fun σ' H' ⟨tp13, s13, sy, kvs, u, se, o10, o13, o14, o15, o16, o17, e1, e2, e3, e4, kn13, hC13, hu13, hce13, hE13, rse13, S'⟩ => ?_⟩
      · have hk2 : k < m := by
          have := (List.getElem?_eq_some_iff.mp hk).1
          rwa [List.length_range] at this
        rw [List.getElem?_range hk2] at hk
        cases hk
        refine gd_name 10 x σ' _ H13 _ rd (S'.mono (Tp.of x13)) fun σ14 S14 => ?_
        have lenz : (((zs.map V.int).length : Nat) : Int) = ((zs.length : Nat) : Int) := by rw [List.length_map]
        have s14 := s13.trans x13
        refine st_setL S14 (el_slL (es := (cutI zs (some ((k : Int) * ((zs.map V.int).length : Nat) / (m : Nat))) (some (((k : Int) + 1) * ((zs.map V.int).length : Nat) / (m : Nat)))).map D.int) (ev_var S14 rfl) (SqL.of (x13 _ _ hce13)) (RL.ofInts zs) (evo_some (ev_fdiv (ev_mul (ev_var S14 rfl) (ev_lenR (ev_var S14 rfl) (SqL.of (x13 _ _ hce13))) (.inl (by omega))) (ev_var S14 rfl) ⟨by omega, by omega⟩)) (evo_some (ev_fdiv (ev_mul (ev_add (ev_var S14 rfl) ev_int) (ev_lenR (ev_var S14 rfl) (SqL.of (x13 _ _ hce13))) (.inl (by omega))) (ev_var S14 rfl) ⟨by omega, by omega⟩)) (cutD_ints zs _ _)) fun σ15 So sv H15 x15 hSo hsv r15 S15 => ?_
        have esv := RL.ints r15
        subst esv
        generalize hys : cutI zs (some ((k : Int) * ((zs.map V.int).length : Nat) / (m : Nat))) (some (((k : Int) + 1) * ((zs.map V.int).length : Nat) / (m : Nat))) = ys at hsv r15
        have ysl : ys.length ≤ 63 := by
          rw [← hys]
          exact Nat.le_trans (cutI_len _ _ _) zsl
        refine st_set S15 (ev_ixD (el_lst (eva_cons ev_int (eva_cons ev_int (eva_cons ev_int eva_nil))) (by show 3 ≤ sizeLine; decide)) (ev_sub (ev_var S15 rfl) ev_int) (by omega) mosts) fun σ16 H16 x16 S16 => ?_
        have z16 := (x13.trans x15).trans x16
        have kn16 := kn13.same z16
        have hC16 := z16 _ _ hC13
        refine st_left (most := mostOf m) (wide := wideOf m) S16 (eva_cons (ev_var S16 rfl) (eva_cons (ev_var S16 rfl) (eva_cons (ev_var S16 rfl) (eva_cons (ev_var S16 rfl) (eva_cons (ev_var S16 rfl) (eva_cons (ev_var S16 rfl) (eva_cons (ev_ixD (el_lst (eva_cons ev_int (eva_cons ev_int (eva_cons ev_int eva_nil))) (by show 3 ≤ sizeLine; decide)) (ev_sub (ev_var S16 rfl) ev_int) (by omega) wides) eva_nil))))))) (x16 _ _ hsv) (by omega) kn16 g1 g2 g3 hC16 hu13 e3 mw.1 mw.2 fun σ17 H17 l kvs17 u17 sx17 hC17 hu17 p17 c17 l17 m17 w17 S17 => ?_
        have kn17 := kn16.sx hC16 sx17
        have s17 : Same H H17 := same_sx ((s14.trans x15).trans x16) sx17 hHC
        have hso17 : H17 So = some (.lst (ys.map V.int)) := sx17 _ _ (ne_dict hC16 (x16 _ _ hsv)) (x16 _ _ hsv)
        have wf := wd_fill l17 wlen (fun w hw => (wl w hw).1) nms.un
        refine st_cut (full := fill nm ws l) S17 (eva_cons (ev_add (ev_add (ev_fdiv (ev_cell (k := 1) (ev_var S17 rfl) (s17.seq hx) ev_int rfl) ev_int ⟨by decide, by decide⟩) (ev_mul ev_int (ev_var S17 rfl) (.inl (by decide)))) (ev_mod (ev_sum (ev_var S17 rfl) (SqL.of hso17)) ev_int (by decide))) (eva_cons (ev_var S17 rfl) (eva_cons (ev_var S17 rfl) (eva_cons (ev_var S17 rfl) (eva_cons (ev_var S17 rfl) eva_nil))))) wf (by omega) kn17 hC17 hu17 p17 fun σ18 H18 r kvs18 u18 sx18 hC18 hu18 p18 c18 l18 f18 o18 S18 => ?_
        have kn18 := kn17.sx hC17 sx18
        have s18 : Same H H18 := same_sx s17 sx18 hHC
        have hE16 := z16 _ _ hE13
        have hE17 : H17 E1 = some (.lst se) := sx17 _ _ (Ne.symm neCE) hE16
        have hE18 : H18 E1 = some (.lst se) := sx18 _ _ (Ne.symm neCE) hE17
        have tp18 : Tp K H' H18 := ((Tp.of z16).trans (sx17.tp hC16)).trans (sx18.tp hC17)
        have q1 : Eq1 nm ws m l r := ⟨l17, l18, f18.symm, m17, w17, o18⟩
        obtain ⟨b, hb, b2⟩ : ∃ b : Nat, xs.getD 1 0 / (3 + (k : Int)) % 2 = (b : Int) ∧ b < 2 := ⟨(xs.getD 1 0 / (3 + (k : Int)) % 2).toNat, by omega, by omega⟩
        obtain ⟨e, he, hee⟩ : ∃ e : Eqn, ([D.tup [.tx l, .tx r], .tup [.tx r, .tx l]])[b]? = some (eD e) ∧ (e = (l, r) ∨ e = (r, l)) := by
          have : b = 0 ∨ b = 1 := by omega
          rcases this with rfl | rfl
          · exact ⟨(l, r), rfl, .inl rfl⟩
          · exact ⟨(r, l), rfl, .inr rfl⟩
        have hlen18 : se.length < sizeLine := by
          rw [rse13.len, List.length_map, e1]
          exact line_gt (by omega)
        refine st_app (ev_var S18 rfl) hE18 hlen18 (ev_ixD (el_lst (eva_cons (ev_tup (eva_cons (ev_var S18 rfl) (eva_cons (ev_var S18 rfl) eva_nil)) (by show 2 ≤ sizeLine; decide)) (eva_cons (ev_tup (eva_cons (ev_var S18 rfl) (eva_cons (ev_var S18 rfl) eva_nil)) (by show 2 ≤ sizeLine; decide)) eva_nil)) (by show 2 ≤ sizeLine; decide)) (ev_mod (ev_fdiv (ev_cell (k := 1) (ev_var S18 rfl) (s18.seq hx) ev_int rfl) (ev_add ev_int (ev_var S18 rfl)) ⟨by omega, by omega⟩) ev_int (by decide)) hb he) fun v H19 x19 r19 => ?_
        have hE19 := x19 _ _ hE18
        have tp19 := tp_mut (K := K) (w := .lst (se ++ [v])) hE19 trivial
        have kn19 := kn18.same x19
        have hcount : ∀ c, (letters (sy ++ [e])).count c = (letters sy).count c + (l.count c + r.count c) := fun c => by
          rw [letters_app, letters_one, List.count_append, List.count_append]
          rcases hee with rfl | rfl
          · rfl
          · show _ + (r.count c + l.count c) = _
            omega
        have hce18 : H18 Ce = some (.lst (zs.map V.int)) := sx18 _ _ (ne_dict hC17 (sx17 _ _ (ne_dict hC16 (z16 _ _ hce13)) (z16 _ _ hce13))) (sx17 _ _ (ne_dict hC16 (z16 _ _ hce13)) (z16 _ _ hce13))
        refine ⟨((tp13.trans tp18).trans (Tp.of x19)).trans tp19, Same.mut (s18.trans x19) hHE, sy ++ [e], kvs18, u18, se ++ [v], _, _, _, _, _, _, ?_, fun e' he' => ?_, p18, fun c hc => ?_, ⟨nms, by rw [upd_ne neBE]; exact kn19.b, kn19.r.mono tp19, wlen, wl⟩, by rw [upd_ne neCE]; exact x19 _ _ hC18, hu18, by rw [upd_ne neDE]; exact x19 _ _ hce18, upd_same, ?_, (S18.mono (Tp.of (K := K) x19)).mono tp19⟩
        · rw [List.length_append, e1]
          rfl
        · rcases List.mem_append.mp he' with he' | he'
          · exact e2 e' he'
          · rw [List.mem_singleton.mp he']
            exact ⟨l, r, q1, hee⟩
        · have a1 := e4 c hc
          have a2 := c17 c hc
          have a3 := c18 c hc
          rw [hcount]
          omega
        · rw [List.map_append]
          exact (((rse13.mono tp18).mono (Tp.of x19)).app (.one r19)).mono tp19
      · -- the end
        rw [List.length_range] at e1
        dsimp only
        have gen : Gen nm ws sy := ⟨nms, wlen, wl, by omega, by omega, by rw [e1]; exact e2, fun c hc => by
          have := e3 c hc
          have := e4 c hc
          omega⟩
        have forty := gen.forty
        obtain ⟨gn, gw, gw2⟩ := gen.good
        obtain ⟨pw, hpw⟩ : ∃ pw : Wds, pw = (pick (letters sy) nm ws).map (fun z => z.2) := ⟨_, rfl⟩
        have gw : Gw sy pw := hpw ▸ gw
        have gw2 : Gw (sy.map swp).reverse pw := hpw ▸ gw2
        have jz : ((sy.map fun e => e.1 ++ e.2).map List.length).sum + (sy.map fun e => e.1 ++ e.2).length * (tl (Str.ofString "")).length ≤ 16777216 := by
          rw [sum_letters]
          show _ + _ * 0 ≤ _
          omega
        have jl : joinL (tl (Str.ofString "")) (sy.map fun e => e.1 ++ e.2) = letters sy := by
          show joinL [] _ = _
          rw [joinL_nil]
          rfl
        refine st_set S' (EvD.to (e := .tx (letters sy)) (ev_join (ls := sy.map fun e => e.1 ++ e.2) ev_str (EvL.to (el_map (xs := sy) (enc := eD) (f := fun e => .tx (e.1 ++ e.2)) (fs := fun e ss => (ss.set 16 (some (.tx e.1))).set 15 (some (.tx e.2))) S' (it_lstR (ev_var S' rfl) (SqL.of hE13) rse13) (fun e _ => go_pair) (by omega) fun e he σ2 H2 x2 S2 => ev_addS (ev_var S2 rfl) (ev_var S2 rfl) (line_ge (by have := len_mem he; omega))) (by rw [List.map_map]; rfl)) jz) (by rw [jl])) fun σ14 H14 x14 S14 => ?_
        dsimp only
        have hlenN : (((nm.length : Nat)) : Int) = ((nm.length : Nat) : Int) := rfl
        refine st_setL (ds := ((List.range nm.length).filter fun k => decide (nm.getD k 0 ∈ letters sy)).map fun k => .int ((k : Nat) : Int)) S14 (el_lc (xs := List.range nm.length) (enc := fun k => .int ((k : Nat) : Int)) (f := fun k => .int ((k : Nat) : Int)) (p := fun k => decide (nm.getD k 0 ∈ letters sy)) (fs := fun k ss => ss.set 10 (some (.int ((k : Nat) : Int)))) S14 (it_rng1 (eva_cons (ev_lenS (ev_var S14 rfl) (line_ge (by omega))) eva_nil) rfl (by omega)).same (fun k _ => go_name 10) (by rw [List.length_range]; omega) fun k hk σ2 H2 x2 S2 => ⟨et_test (ev_inS (ev_ixS (n := k) (ev_var S2 rfl) (ev_var S2 rfl) rfl (getD_in (List.mem_range.mp hk)) (line_ge (by omega))) (ev_var S2 rfl)), fun _ => ev_var S2 rfl⟩) fun σ15 Th tv H15 x15 hTh htv r15 S15 => ?_
        dsimp only
        generalize hth : ((List.range nm.length).filter fun k => decide (nm.getD k 0 ∈ letters sy)) = th at r15 S15
        have thm : ∀ k ∈ th, k < nm.length := fun k hk => by
          rw [← hth] at hk
          exact List.mem_range.mp (List.mem_filter.mp hk).1
        have thl : th.length ≤ 6 := by
          rw [← hth]
          refine Nat.le_trans (List.length_filter_le _ _) ?_
          rw [List.length_range]
          exact six
        have hpick : th.map (fun k => (nm.getD k 0, ws.getD k [])) = pick (letters sy) nm ws := by rw [← hth]; exact pick_range _ _ _ wlen
        have hp1 : th.map (fun k => nm.getD k 0) = GW.names sy := by
          rw [← gn, ← hpick, List.map_map]
          rfl
        have hp2 : th.map (fun k => ws.getD k []) = pw := by
          rw [hpw, ← hpick, List.map_map]
          rfl
        have z15 := x14.trans x15
        have kn15 := kn13.same z15
        have hE15 := z15 _ _ hE13
        have rse15 := rse13.mono (Tp.of (K := K) z15)
        have jz2 : ((th.map fun k => [nm.getD k 0]).map List.length).sum + (th.map fun k => [nm.getD k 0]).length * (tl (Str.ofString "")).length ≤ 16777216 := by
          have : (th.map fun k => [nm.getD k 0]) = (th.map fun k => nm.getD k 0).map fun c => [c] := by
            rw [List.map_map]
            rfl
          rw [this, sum_ones, List.length_map]
          show _ + _ * 0 ≤ _
          omega
        have jl2 : joinL (tl (Str.ofString "")) (th.map fun k => [nm.getD k 0]) = GW.names sy := by
          show joinL [] _ = _
          have : (th.map fun k => [nm.getD k 0]) = (th.map fun k => nm.getD k 0).map fun c => [c] := by
            rw [List.map_map]
            rfl
          rw [joinL_nil, this, flat_ones, hp1]
        refine st_ret (ev_tup (ds := [sysD sy, .tx (GW.names sy), stD pw]) (eva_cons (ev_tupOfL (ev_var S15 rfl) (SqL.of hE15) rse15) (eva_cons (EvD.to (e := .tx (GW.names sy)) (ev_join (ls := th.map fun k => [nm.getD k 0]) ev_str (EvL.to (el_map (xs := th) (enc := fun k => .int ((k : Nat) : Int)) (f := fun k => .tx [nm.getD k 0]) (fs := fun k ss => ss.set 10 (some (.int ((k : Nat) : Int)))) S15 (it_lstR (ev_var S15 rfl) (SqL.of htv) r15) (fun k _ => go_name 10) (by omega) fun k hk σ2 H2 x2 S2 => ev_ixS (n := k) (ev_var S2 rfl) (ev_var S2 rfl) rfl (getD_in (thm k hk)) (line_ge (by omega))) (by rw [List.map_map]; rfl)) jz2) (by rw [jl2])) (eva_cons (EvD.to (e := stD pw) (ev_tupOf (el_map (xs := th) (enc := fun k => .int ((k : Nat) : Int)) (f := fun k => .tx (ws.getD k [])) (fs := fun k ss => ss.set 10 (some (.int ((k : Nat) : Int)))) S15 (it_lstR (ev_var S15 rfl) (SqL.of htv) r15) (fun k _ => go_name 10) (by omega) fun k hk σ2 H2 x2 S2 => ev_ixL (ev_var S2 rfl) (SqL.of (kn15.same x2).b) (kn15.same x2).r (ev_var S2 rfl) rfl (st_at (by rw [wlen]; exact thm k hk)))) (by rw [← hp2]; unfold stD; rw [List.map_map]; rfl)) eva_nil))) (by show 3 ≤ sizeLine; decide)) fun v H16 x16 r16 => ?_
        exact q v H16 sy _ ((s13.trans z15).trans x16) gw gw2 (turn_names sy) r16
end
end GW

set_option Elab.async false
set_option linter.all false
set_option maxRecDepth 100000
set_option maxHeartbeats 4000000
namespace GW
open PySem PySem.Spec L2 TL PyProof.Rows
theorem there_plain {P : Program} {w : World} {K : PySem.W.Frag} {mg : Str → Option Value} {base : Heap} {k : Nat} {f : Addr} {fd : FuncData} (F : FnG P w K mg base k f fd ["_law_system", "_law_text"] (spG K fun _ ds d => ∃ d0, pThere ds d0 ∧ d = fun _ => d0)) : FnOk P w K mg base CX0 k f fd ["_law_system", "_law_text"] (spD K pThere) := by
  refine F.plain (fun vs H Q E h => ?_) (fun vs H Q E h => ?_)
  · obtain ⟨ds, d, r, ⟨_, _, rfl, _⟩, _⟩ := h
    exact r.len
  · obtain ⟨ds, d, r, p, q⟩ := h
    exact ⟨ds, _, r, ⟨d, p, rfl⟩, fun k v H' _ x rv => q v H' x rv⟩
/-! ### what the top has written; the law's own head -/
theorem all_mk {l : PySem.W.OpenLaw} {w : World} {K : PySem.W.Frag} {h : Heap} {mg : Str → Option Value} {fa : Addr} (X : K.In h) (G : h.Ns mainGlobals mg) (hfa : mg "law" = some (.ref fa)) {tS tU tE tL tN : Tok}
    {f0 : Addr} {od0 an0 : Option Addr} {sl0 : Array (Option Value)} {oc0 kV0 dc0 pm0 cd0 ct0 : Value}
    (a0 : PySem.W.nsIn K mainGlobals "letters_of" = some (some (.ref f0))) (l0 : K.lookup f0 = some ⟨oc0, od0, .func (PySem.W.fnOf "letters_of" "letters_of" (defArgs s_letters_of) (defBody s_letters_of) (defScope s_letters_of) .none kV0 dc0 pm0 an0 cd0 ct0), sl0⟩) (c0 : PySem.W.codeIn K cd0 "letters_of" = true) (k0 : PySem.W.keepIn K (.ref f0) = true)
    {f1 : Addr} {od1 an1 : Option Addr} {sl1 : Array (Option Value)} {oc1 kV1 dc1 pm1 cd1 ct1 : Value}
    (a1 : PySem.W.nsIn K mainGlobals "names_of" = some (some (.ref f1))) (l1 : K.lookup f1 = some ⟨oc1, od1, .func (PySem.W.fnOf "names_of" "names_of" (defArgs s_names_of) (defBody s_names_of) (defScope s_names_of) .none kV1 dc1 pm1 an1 cd1 ct1), sl1⟩) (c1 : PySem.W.codeIn K cd1 "names_of" = true) (k1 : PySem.W.keepIn K (.ref f1) = true)
    {f2 : Addr} {od2 an2 : Option Addr} {sl2 : Array (Option Value)} {oc2 kV2 dc2 pm2 cd2 ct2 : Value}
    (a2 : PySem.W.nsIn K mainGlobals "signs_of" = some (some (.ref f2))) (l2 : K.lookup f2 = some ⟨oc2, od2, .func (PySem.W.fnOf "signs_of" "signs_of" (defArgs s_signs_of) (defBody s_signs_of) (defScope s_signs_of) .none kV2 dc2 pm2 an2 cd2 ct2), sl2⟩) (c2 : PySem.W.codeIn K cd2 "signs_of" = true) (k2 : PySem.W.keepIn K (.ref f2) = true)
    {f3 : Addr} {od3 an3 : Option Addr} {sl3 : Array (Option Value)} {oc3 kV3 dc3 pm3 cd3 ct3 : Value}
    (a3 : PySem.W.nsIn K mainGlobals "is_word" = some (some (.ref f3))) (l3 : K.lookup f3 = some ⟨oc3, od3, .func (PySem.W.fnOf "is_word" "is_word" (defArgs s_is_word) (defBody s_is_word) (defScope s_is_word) .none kV3 dc3 pm3 an3 cd3 ct3), sl3⟩) (c3 : PySem.W.codeIn K cd3 "is_word" = true) (k3 : PySem.W.keepIn K (.ref f3) = true)
    {f4 : Addr} {od4 an4 : Option Addr} {sl4 : Array (Option Value)} {oc4 kV4 dc4 pm4 cd4 ct4 : Value}
    (a4 : PySem.W.nsIn K mainGlobals "is_side" = some (some (.ref f4))) (l4 : K.lookup f4 = some ⟨oc4, od4, .func (PySem.W.fnOf "is_side" "is_side" (defArgs s_is_side) (defBody s_is_side) (defScope s_is_side) .none kV4 dc4 pm4 an4 cd4 ct4), sl4⟩) (c4 : PySem.W.codeIn K cd4 "is_side" = true) (k4 : PySem.W.keepIn K (.ref f4) = true)
    {f5 : Addr} {od5 an5 : Option Addr} {sl5 : Array (Option Value)} {oc5 kV5 dc5 pm5 cd5 ct5 : Value}
    (a5 : PySem.W.nsIn K mainGlobals "is_equation" = some (some (.ref f5))) (l5 : K.lookup f5 = some ⟨oc5, od5, .func (PySem.W.fnOf "is_equation" "is_equation" (defArgs s_is_equation) (defBody s_is_equation) (defScope s_is_equation) .none kV5 dc5 pm5 an5 cd5 ct5), sl5⟩) (c5 : PySem.W.codeIn K cd5 "is_equation" = true) (k5 : PySem.W.keepIn K (.ref f5) = true)
    {f6 : Addr} {od6 an6 : Option Addr} {sl6 : Array (Option Value)} {oc6 kV6 dc6 pm6 cd6 ct6 : Value}
    (a6 : PySem.W.nsIn K mainGlobals "filled" = some (some (.ref f6))) (l6 : K.lookup f6 = some ⟨oc6, od6, .func (PySem.W.fnOf "filled" "filled" (defArgs s_filled) (defBody s_filled) (defScope s_filled) .none kV6 dc6 pm6 an6 cd6 ct6), sl6⟩) (c6 : PySem.W.codeIn K cd6 "filled" = true) (k6 : PySem.W.keepIn K (.ref f6) = true)
    {f7 : Addr} {od7 an7 : Option Addr} {sl7 : Array (Option Value)} {oc7 kV7 dc7 pm7 cd7 ct7 : Value}
    (a7 : PySem.W.nsIn K mainGlobals "holds" = some (some (.ref f7))) (l7 : K.lookup f7 = some ⟨oc7, od7, .func (PySem.W.fnOf "holds" "holds" (defArgs s_holds) (defBody s_holds) (defScope s_holds) .none kV7 dc7 pm7 an7 cd7 ct7), sl7⟩) (c7 : PySem.W.codeIn K cd7 "holds" = true) (k7 : PySem.W.keepIn K (.ref f7) = true)
    {f8 : Addr} {od8 an8 : Option Addr} {sl8 : Array (Option Value)} {oc8 kV8 dc8 pm8 cd8 ct8 : Value}
    (a8 : PySem.W.nsIn K mainGlobals "turned" = some (some (.ref f8))) (l8 : K.lookup f8 = some ⟨oc8, od8, .func (PySem.W.fnOf "turned" "turned" (defArgs s_turned) (defBody s_turned) (defScope s_turned) .none kV8 dc8 pm8 an8 cd8 ct8), sl8⟩) (c8 : PySem.W.codeIn K cd8 "turned" = true) (k8 : PySem.W.keepIn K (.ref f8) = true)
    {f9 : Addr} {od9 an9 : Option Addr} {sl9 : Array (Option Value)} {oc9 kV9 dc9 pm9 cd9 ct9 : Value}
    (a9 : PySem.W.nsIn K mainGlobals "stripped_pair" = some (some (.ref f9))) (l9 : K.lookup f9 = some ⟨oc9, od9, .func (PySem.W.fnOf "stripped_pair" "stripped_pair" (defArgs s_stripped_pair) (defBody s_stripped_pair) (defScope s_stripped_pair) .none kV9 dc9 pm9 an9 cd9 ct9), sl9⟩) (c9 : PySem.W.codeIn K cd9 "stripped_pair" = true) (k9 : PySem.W.keepIn K (.ref f9) = true)
    {f10 : Addr} {od10 an10 : Option Addr} {sl10 : Array (Option Value)} {oc10 kV10 dc10 pm10 cd10 ct10 : Value}
    (a10 : PySem.W.nsIn K mainGlobals "stripped" = some (some (.ref f10))) (l10 : K.lookup f10 = some ⟨oc10, od10, .func (PySem.W.fnOf "stripped" "stripped" (defArgs s_stripped) (defBody s_stripped) (defScope s_stripped) .none kV10 dc10 pm10 an10 cd10 ct10), sl10⟩) (c10 : PySem.W.codeIn K cd10 "stripped" = true) (k10 : PySem.W.keepIn K (.ref f10) = true)
    {f11 : Addr} {od11 an11 : Option Addr} {sl11 : Array (Option Value)} {oc11 kV11 dc11 pm11 cd11 ct11 : Value}
    (a11 : PySem.W.nsIn K mainGlobals "first_room" = some (some (.ref f11))) (l11 : K.lookup f11 = some ⟨oc11, od11, .func (PySem.W.fnOf "first_room" "first_room" (defArgs s_first_room) (defBody s_first_room) (defScope s_first_room) .none kV11 dc11 pm11 an11 cd11 ct11), sl11⟩) (c11 : PySem.W.codeIn K cd11 "first_room" = true) (k11 : PySem.W.keepIn K (.ref f11) = true)
    {f12 : Addr} {od12 an12 : Option Addr} {sl12 : Array (Option Value)} {oc12 kV12 dc12 pm12 cd12 ct12 : Value}
    (a12 : PySem.W.nsIn K mainGlobals "is_ended" = some (some (.ref f12))) (l12 : K.lookup f12 = some ⟨oc12, od12, .func (PySem.W.fnOf "is_ended" "is_ended" (defArgs s_is_ended) (defBody s_is_ended) (defScope s_is_ended) .none kV12 dc12 pm12 an12 cd12 ct12), sl12⟩) (c12 : PySem.W.codeIn K cd12 "is_ended" = true) (k12 : PySem.W.keepIn K (.ref f12) = true)
    {f13 : Addr} {od13 an13 : Option Addr} {sl13 : Array (Option Value)} {oc13 kV13 dc13 pm13 cd13 ct13 : Value}
    (a13 : PySem.W.nsIn K mainGlobals "is_dead_pair" = some (some (.ref f13))) (l13 : K.lookup f13 = some ⟨oc13, od13, .func (PySem.W.fnOf "is_dead_pair" "is_dead_pair" (defArgs s_is_dead_pair) (defBody s_is_dead_pair) (defScope s_is_dead_pair) .none kV13 dc13 pm13 an13 cd13 ct13), sl13⟩) (c13 : PySem.W.codeIn K cd13 "is_dead_pair" = true) (k13 : PySem.W.keepIn K (.ref f13) = true)
    {f14 : Addr} {od14 an14 : Option Addr} {sl14 : Array (Option Value)} {oc14 kV14 dc14 pm14 cd14 ct14 : Value}
    (a14 : PySem.W.nsIn K mainGlobals "is_dead" = some (some (.ref f14))) (l14 : K.lookup f14 = some ⟨oc14, od14, .func (PySem.W.fnOf "is_dead" "is_dead" (defArgs s_is_dead) (defBody s_is_dead) (defScope s_is_dead) .none kV14 dc14 pm14 an14 cd14 ct14), sl14⟩) (c14 : PySem.W.codeIn K cd14 "is_dead" = true) (k14 : PySem.W.keepIn K (.ref f14) = true)
    {f15 : Addr} {od15 an15 : Option Addr} {sl15 : Array (Option Value)} {oc15 kV15 dc15 pm15 cd15 ct15 : Value}
    (a15 : PySem.W.nsIn K mainGlobals "ahead_of" = some (some (.ref f15))) (l15 : K.lookup f15 = some ⟨oc15, od15, .func (PySem.W.fnOf "ahead_of" "ahead_of" (defArgs s_ahead_of) (defBody s_ahead_of) (defScope s_ahead_of) .none kV15 dc15 pm15 an15 cd15 ct15), sl15⟩) (c15 : PySem.W.codeIn K cd15 "ahead_of" = true) (k15 : PySem.W.keepIn K (.ref f15) = true)
    {f16 : Addr} {od16 an16 : Option Addr} {sl16 : Array (Option Value)} {oc16 kV16 dc16 pm16 cd16 ct16 : Value}
    (a16 : PySem.W.nsIn K mainGlobals "led" = some (some (.ref f16))) (l16 : K.lookup f16 = some ⟨oc16, od16, .func (PySem.W.fnOf "led" "led" (defArgs s_led) (defBody s_led) (defScope s_led) .none kV16 dc16 pm16 an16 cd16 ct16), sl16⟩) (c16 : PySem.W.codeIn K cd16 "led" = true) (k16 : PySem.W.keepIn K (.ref f16) = true)
    {f17 : Addr} {od17 an17 : Option Addr} {sl17 : Array (Option Value)} {oc17 kV17 dc17 pm17 cd17 ct17 : Value}
    (a17 : PySem.W.nsIn K mainGlobals "onward" = some (some (.ref f17))) (l17 : K.lookup f17 = some ⟨oc17, od17, .func (PySem.W.fnOf "onward" "onward" (defArgs s_onward) (defBody s_onward) (defScope s_onward) .none kV17 dc17 pm17 an17 cd17 ct17), sl17⟩) (c17 : PySem.W.codeIn K cd17 "onward" = true) (k17 : PySem.W.keepIn K (.ref f17) = true)
    {f18 : Addr} {od18 an18 : Option Addr} {sl18 : Array (Option Value)} {oc18 kV18 dc18 pm18 cd18 ct18 : Value}
    (a18 : PySem.W.nsIn K mainGlobals "steps_by" = some (some (.ref f18))) (l18 : K.lookup f18 = some ⟨oc18, od18, .func (PySem.W.fnOf "steps_by" "steps_by" (defArgs s_steps_by) (defBody s_steps_by) (defScope s_steps_by) .none kV18 dc18 pm18 an18 cd18 ct18), sl18⟩) (c18 : PySem.W.codeIn K cd18 "steps_by" = true) (k18 : PySem.W.keepIn K (.ref f18) = true)
    {f19 : Addr} {od19 an19 : Option Addr} {sl19 : Array (Option Value)} {oc19 kV19 dc19 pm19 cd19 ct19 : Value}
    (a19 : PySem.W.nsIn K mainGlobals "steps_of" = some (some (.ref f19))) (l19 : K.lookup f19 = some ⟨oc19, od19, .func (PySem.W.fnOf "steps_of" "steps_of" (defArgs s_steps_of) (defBody s_steps_of) (defScope s_steps_of) .none kV19 dc19 pm19 an19 cd19 ct19), sl19⟩) (c19 : PySem.W.codeIn K cd19 "steps_of" = true) (k19 : PySem.W.keepIn K (.ref f19) = true)
    {f20 : Addr} {od20 an20 : Option Addr} {sl20 : Array (Option Value)} {oc20 kV20 dc20 pm20 cd20 ct20 : Value}
    (a20 : PySem.W.nsIn K mainGlobals "put_for" = some (some (.ref f20))) (l20 : K.lookup f20 = some ⟨oc20, od20, .func (PySem.W.fnOf "put_for" "put_for" (defArgs s_put_for) (defBody s_put_for) (defScope s_put_for) .none kV20 dc20 pm20 an20 cd20 ct20), sl20⟩) (c20 : PySem.W.codeIn K cd20 "put_for" = true) (k20 : PySem.W.keepIn K (.ref f20) = true)
    {f21 : Addr} {od21 an21 : Option Addr} {sl21 : Array (Option Value)} {oc21 kV21 dc21 pm21 cd21 ct21 : Value}
    (a21 : PySem.W.nsIn K mainGlobals "stepped" = some (some (.ref f21))) (l21 : K.lookup f21 = some ⟨oc21, od21, .func (PySem.W.fnOf "stepped" "stepped" (defArgs s_stepped) (defBody s_stepped) (defScope s_stepped) .none kV21 dc21 pm21 an21 cd21 ct21), sl21⟩) (c21 : PySem.W.codeIn K cd21 "stepped" = true) (k21 : PySem.W.keepIn K (.ref f21) = true)
    {f22 : Addr} {od22 an22 : Option Addr} {sl22 : Array (Option Value)} {oc22 kV22 dc22 pm22 cd22 ct22 : Value}
    (a22 : PySem.W.nsIn K mainGlobals "next_step" = some (some (.ref f22))) (l22 : K.lookup f22 = some ⟨oc22, od22, .func (PySem.W.fnOf "next_step" "next_step" (defArgs s_next_step) (defBody s_next_step) (defScope s_next_step) .none kV22 dc22 pm22 an22 cd22 ct22), sl22⟩) (c22 : PySem.W.codeIn K cd22 "next_step" = true) (k22 : PySem.W.keepIn K (.ref f22) = true)
    {f23 : Addr} {od23 an23 : Option Addr} {sl23 : Array (Option Value)} {oc23 kV23 dc23 pm23 cd23 ct23 : Value}
    (a23 : PySem.W.nsIn K mainGlobals "way_of" = some (some (.ref f23))) (l23 : K.lookup f23 = some ⟨oc23, od23, .func (PySem.W.fnOf "way_of" "way_of" (defArgs s_way_of) (defBody s_way_of) (defScope s_way_of) .none kV23 dc23 pm23 an23 cd23 ct23), sl23⟩) (c23 : PySem.W.codeIn K cd23 "way_of" = true) (k23 : PySem.W.keepIn K (.ref f23) = true)
    {f24 : Addr} {od24 an24 : Option Addr} {sl24 : Array (Option Value)} {oc24 kV24 dc24 pm24 cd24 ct24 : Value}
    (a24 : PySem.W.nsIn K mainGlobals "rooms_along" = some (some (.ref f24))) (l24 : K.lookup f24 = some ⟨oc24, od24, .func (PySem.W.fnOf "rooms_along" "rooms_along" (defArgs s_rooms_along) (defBody s_rooms_along) (defScope s_rooms_along) .none kV24 dc24 pm24 an24 cd24 ct24), sl24⟩) (c24 : PySem.W.codeIn K cd24 "rooms_along" = true) (k24 : PySem.W.keepIn K (.ref f24) = true)
    {f25 : Addr} {od25 an25 : Option Addr} {sl25 : Array (Option Value)} {oc25 kV25 dc25 pm25 cd25 ct25 : Value}
    (a25 : PySem.W.nsIn K mainGlobals "led_back" = some (some (.ref f25))) (l25 : K.lookup f25 = some ⟨oc25, od25, .func (PySem.W.fnOf "led_back" "led_back" (defArgs s_led_back) (defBody s_led_back) (defScope s_led_back) .none kV25 dc25 pm25 an25 cd25 ct25), sl25⟩) (c25 : PySem.W.codeIn K cd25 "led_back" = true) (k25 : PySem.W.keepIn K (.ref f25) = true)
    {f26 : Addr} {od26 an26 : Option Addr} {sl26 : Array (Option Value)} {oc26 kV26 dc26 pm26 cd26 ct26 : Value}
    (a26 : PySem.W.nsIn K mainGlobals "check_thrice" = some (some (.ref f26))) (l26 : K.lookup f26 = some ⟨oc26, od26, .func (PySem.W.fnOf "check_thrice" "check_thrice" (defArgs s_check_thrice) (defBody s_check_thrice) (defScope s_check_thrice) .none kV26 dc26 pm26 an26 cd26 ct26), sl26⟩) (c26 : PySem.W.codeIn K cd26 "check_thrice" = true) (k26 : PySem.W.keepIn K (.ref f26) = true)
    {f27 : Addr} {od27 an27 : Option Addr} {sl27 : Array (Option Value)} {oc27 kV27 dc27 pm27 cd27 ct27 : Value}
    (a27 : PySem.W.nsIn K mainGlobals "check" = some (some (.ref f27))) (l27 : K.lookup f27 = some ⟨oc27, od27, .func (PySem.W.fnOf "check" "check" (defArgs s_check) (defBody s_check) (defScope s_check) .none kV27 dc27 pm27 an27 cd27 ct27), sl27⟩) (c27 : PySem.W.codeIn K cd27 "check" = true) (k27 : PySem.W.keepIn K (.ref f27) = true)
    {f28 : Addr} {od28 an28 : Option Addr} {sl28 : Array (Option Value)} {oc28 kV28 dc28 pm28 cd28 ct28 : Value}
    (a28 : PySem.W.nsIn K mainGlobals "read_equation" = some (some (.ref f28))) (l28 : K.lookup f28 = some ⟨oc28, od28, .func (PySem.W.fnOf "read_equation" "read_equation" (defArgs s_read_equation) (defBody s_read_equation) (defScope s_read_equation) .none kV28 dc28 pm28 an28 cd28 ct28), sl28⟩) (c28 : PySem.W.codeIn K cd28 "read_equation" = true) (k28 : PySem.W.keepIn K (.ref f28) = true)
    {f29 : Addr} {od29 an29 : Option Addr} {sl29 : Array (Option Value)} {oc29 kV29 dc29 pm29 cd29 ct29 : Value}
    (a29 : PySem.W.nsIn K mainGlobals "read_system" = some (some (.ref f29))) (l29 : K.lookup f29 = some ⟨oc29, od29, .func (PySem.W.fnOf "read_system" "read_system" (defArgs s_read_system) (defBody s_read_system) (defScope s_read_system) .none kV29 dc29 pm29 an29 cd29 ct29), sl29⟩) (c29 : PySem.W.codeIn K cd29 "read_system" = true) (k29 : PySem.W.keepIn K (.ref f29) = true)
    {f30 : Addr} {od30 an30 : Option Addr} {sl30 : Array (Option Value)} {oc30 kV30 dc30 pm30 cd30 ct30 : Value}
    (a30 : PySem.W.nsIn K mainGlobals "show_words" = some (some (.ref f30))) (l30 : K.lookup f30 = some ⟨oc30, od30, .func (PySem.W.fnOf "show_words" "show_words" (defArgs s_show_words) (defBody s_show_words) (defScope s_show_words) .none kV30 dc30 pm30 an30 cd30 ct30), sl30⟩) (c30 : PySem.W.codeIn K cd30 "show_words" = true) (k30 : PySem.W.keepIn K (.ref f30) = true)
    {f31 : Addr} {od31 an31 : Option Addr} {sl31 : Array (Option Value)} {oc31 kV31 dc31 pm31 cd31 ct31 : Value}
    (a31 : PySem.W.nsIn K mainGlobals "read_words" = some (some (.ref f31))) (l31 : K.lookup f31 = some ⟨oc31, od31, .func (PySem.W.fnOf "read_words" "read_words" (defArgs s_read_words) (defBody s_read_words) (defScope s_read_words) .none kV31 dc31 pm31 an31 cd31 ct31), sl31⟩) (c31 : PySem.W.codeIn K cd31 "read_words" = true) (k31 : PySem.W.keepIn K (.ref f31) = true)
    {f32 : Addr} {od32 an32 : Option Addr} {sl32 : Array (Option Value)} {oc32 kV32 dc32 pm32 cd32 ct32 : Value}
    (a32 : PySem.W.nsIn K mainGlobals "sums" = some (some (.ref f32))) (l32 : K.lookup f32 = some ⟨oc32, od32, .func (PySem.W.fnOf "sums" "sums" (defArgs s_sums) (defBody s_sums) (defScope s_sums) .none kV32 dc32 pm32 an32 cd32 ct32), sl32⟩) (c32 : PySem.W.codeIn K cd32 "sums" = true) (k32 : PySem.W.keepIn K (.ref f32) = true)
    {f33 : Addr} {od33 an33 : Option Addr} {sl33 : Array (Option Value)} {oc33 kV33 dc33 pm33 cd33 ct33 : Value}
    (a33 : PySem.W.nsIn K mainGlobals "can_be" = some (some (.ref f33))) (l33 : K.lookup f33 = some ⟨oc33, od33, .func (PySem.W.fnOf "can_be" "can_be" (defArgs s_can_be) (defBody s_can_be) (defScope s_can_be) .none kV33 dc33 pm33 an33 cd33 ct33), sl33⟩) (c33 : PySem.W.codeIn K cd33 "can_be" = true) (k33 : PySem.W.keepIn K (.ref f33) = true)
    {f34 : Addr} {od34 an34 : Option Addr} {sl34 : Array (Option Value)} {oc34 kV34 dc34 pm34 cd34 ct34 : Value}
    (a34 : PySem.W.nsIn K mainGlobals "lacking" = some (some (.ref f34))) (l34 : K.lookup f34 = some ⟨oc34, od34, .func (PySem.W.fnOf "lacking" "lacking" (defArgs s_lacking) (defBody s_lacking) (defScope s_lacking) .none kV34 dc34 pm34 an34 cd34 ct34), sl34⟩) (c34 : PySem.W.codeIn K cd34 "lacking" = true) (k34 : PySem.W.keepIn K (.ref f34) = true)
    {f35 : Addr} {od35 an35 : Option Addr} {sl35 : Array (Option Value)} {oc35 kV35 dc35 pm35 cd35 ct35 : Value}
    (a35 : PySem.W.nsIn K mainGlobals "_law_cell_at" = some (some (.ref f35))) (l35 : K.lookup f35 = some ⟨oc35, od35, .func (PySem.W.fnOf "_law_cell_at" "_law_cell_at" (defArgs s__law_cell_at) (defBody s__law_cell_at) (defScope s__law_cell_at) .none kV35 dc35 pm35 an35 cd35 ct35), sl35⟩) (c35 : PySem.W.codeIn K cd35 "_law_cell_at" = true) (k35 : PySem.W.keepIn K (.ref f35) = true)
    {f36 : Addr} {od36 an36 : Option Addr} {sl36 : Array (Option Value)} {oc36 kV36 dc36 pm36 cd36 ct36 : Value}
    (a36 : PySem.W.nsIn K mainGlobals "_law_names" = some (some (.ref f36))) (l36 : K.lookup f36 = some ⟨oc36, od36, .func (PySem.W.fnOf "_law_names" "_law_names" (defArgs s__law_names) (defBody s__law_names) (defScope s__law_names) .none kV36 dc36 pm36 an36 cd36 ct36), sl36⟩) (c36 : PySem.W.codeIn K cd36 "_law_names" = true) (k36 : PySem.W.keepIn K (.ref f36) = true)
    {f37 : Addr} {od37 an37 : Option Addr} {sl37 : Array (Option Value)} {oc37 kV37 dc37 pm37 cd37 ct37 : Value}
    (a37 : PySem.W.nsIn K mainGlobals "_law_word" = some (some (.ref f37))) (l37 : K.lookup f37 = some ⟨oc37, od37, .func (PySem.W.fnOf "_law_word" "_law_word" (defArgs s__law_word) (defBody s__law_word) (defScope s__law_word) .none kV37 dc37 pm37 an37 cd37 ct37), sl37⟩) (c37 : PySem.W.codeIn K cd37 "_law_word" = true) (k37 : PySem.W.keepIn K (.ref f37) = true)
    {f38 : Addr} {od38 an38 : Option Addr} {sl38 : Array (Option Value)} {oc38 kV38 dc38 pm38 cd38 ct38 : Value}
    (a38 : PySem.W.nsIn K mainGlobals "_law_left" = some (some (.ref f38))) (l38 : K.lookup f38 = some ⟨oc38, od38, .func (PySem.W.fnOf "_law_left" "_law_left" (defArgs s__law_left) (defBody s__law_left) (defScope s__law_left) .none kV38 dc38 pm38 an38 cd38 ct38), sl38⟩) (c38 : PySem.W.codeIn K cd38 "_law_left" = true) (k38 : PySem.W.keepIn K (.ref f38) = true)
    {f39 : Addr} {od39 an39 : Option Addr} {sl39 : Array (Option Value)} {oc39 kV39 dc39 pm39 cd39 ct39 : Value}
    (a39 : PySem.W.nsIn K mainGlobals "_law_cut" = some (some (.ref f39))) (l39 : K.lookup f39 = some ⟨oc39, od39, .func (PySem.W.fnOf "_law_cut" "_law_cut" (defArgs s__law_cut) (defBody s__law_cut) (defScope s__law_cut) .none kV39 dc39 pm39 an39 cd39 ct39), sl39⟩) (c39 : PySem.W.codeIn K cd39 "_law_cut" = true) (k39 : PySem.W.keepIn K (.ref f39) = true)
    {f40 : Addr} {od40 an40 : Option Addr} {sl40 : Array (Option Value)} {oc40 kV40 dc40 pm40 cd40 ct40 : Value}
    (a40 : PySem.W.nsIn K mainGlobals "_law_answered" = some (some (.ref f40))) (l40 : K.lookup f40 = some ⟨oc40, od40, .func (PySem.W.fnOf "_law_answered" "_law_answered" (defArgs s__law_answered) (defBody s__law_answered) (defScope s__law_answered) .none kV40 dc40 pm40 an40 cd40 ct40), sl40⟩) (c40 : PySem.W.codeIn K cd40 "_law_answered" = true) (k40 : PySem.W.keepIn K (.ref f40) = true)
    {f41 : Addr} {od41 an41 : Option Addr} {sl41 : Array (Option Value)} {oc41 kV41 dc41 pm41 cd41 ct41 : Value}
    (a41 : PySem.W.nsIn K mainGlobals "_law_written" = some (some (.ref f41))) (l41 : K.lookup f41 = some ⟨oc41, od41, .func (PySem.W.fnOf "_law_written" "_law_written" (defArgs s__law_written) (defBody s__law_written) (defScope s__law_written) .none kV41 dc41 pm41 an41 cd41 ct41), sl41⟩) (c41 : PySem.W.codeIn K cd41 "_law_written" = true) (k41 : PySem.W.keepIn K (.ref f41) = true)
    {f42 : Addr} {od42 an42 : Option Addr} {sl42 : Array (Option Value)} {oc42 kV42 dc42 pm42 cd42 ct42 : Value}
    (a42 : PySem.W.nsIn K mainGlobals "_law_there_and_back" = some (some (.ref f42))) (l42 : K.lookup f42 = some ⟨oc42, od42, .func (PySem.W.fnOf "_law_there_and_back" "_law_there_and_back" (defArgs s__law_there_and_back) (defBody s__law_there_and_back) (defScope s__law_there_and_back) .none kV42 dc42 pm42 an42 cd42 ct42), sl42⟩) (c42 : PySem.W.codeIn K cd42 "_law_there_and_back" = true) (k42 : PySem.W.keepIn K (.ref f42) = true)
    {f43 : Addr} {od43 an43 : Option Addr} {sl43 : Array (Option Value)} {oc43 kV43 dc43 pm43 cd43 ct43 : Value}
    (a43 : PySem.W.nsIn K mainGlobals "law" = some (some (.ref f43))) (l43 : K.lookup f43 = some ⟨oc43, od43, .func (PySem.W.fnOf "law" "law" (defArgs s_law) (defBody s_law) (defScope s_law) .none kV43 dc43 pm43 an43 cd43 ct43), sl43⟩) (c43 : PySem.W.codeIn K cd43 "law" = true) (k43 : PySem.W.keepIn K (.ref f43) = true)
    (z_len : PySem.W.nsIn K mainGlobals "len" = some none)
    (z_isinstance : PySem.W.nsIn K mainGlobals "isinstance" = some none)
    (z_str : PySem.W.nsIn K mainGlobals "str" = some none)
    (z_tuple : PySem.W.nsIn K mainGlobals "tuple" = some none)
    (z_any : PySem.W.nsIn K mainGlobals "any" = some none)
    (z_range : PySem.W.nsIn K mainGlobals "range" = some none)
    (z_enumerate : PySem.W.nsIn K mainGlobals "enumerate" = some none)
    (z_zip : PySem.W.nsIn K mainGlobals "zip" = some none)
    (z_int : PySem.W.nsIn K mainGlobals "int" = some none)
    (z_sum : PySem.W.nsIn K mainGlobals "sum" = some none)
    (m_SIGNS : PySem.W.nsIn K mainGlobals "SIGNS" = some (some (.str (Str.ofString "abcdefghijklmnopqrstuvwxyz") tS)))
    (m_UNKNOWNS : PySem.W.nsIn K mainGlobals "UNKNOWNS" = some (some (.str (Str.ofString "ABCDEFGHIJKLMNOPQRSTUVWXYZ") tU)))
    (m_MOST_EQUATIONS : PySem.W.nsIn K mainGlobals "MOST_EQUATIONS" = some (some (.int 6 tE)))
    (m_MOST_LETTERS : PySem.W.nsIn K mainGlobals "MOST_LETTERS" = some (some (.int 40 tL)))
    (m_MOST_NAMES : PySem.W.nsIn K mainGlobals "MOST_NAMES" = some (some (.int 6 tN)))
    : ∃ fd : FuncData, (∀ (s : Shared) (v : Value), BindsTo s fd ⟨[v], []⟩ [("_law_script", v)]) ∧ ∀ base : Heap, K.In base → base.Ns mainGlobals mg → FnOk l.prog w K mg base CX0 8 fa fd ["_law_script"] (spLaw K) := by
  have e := hfa.symm.trans (PySem.W.mg_of X G a43)
  cases e
  have T : Txt mg tS tU tE tL tN := ⟨PySem.W.mg_none_of X G z_len, PySem.W.mg_none_of X G z_isinstance, PySem.W.mg_none_of X G z_str, PySem.W.mg_none_of X G z_tuple, PySem.W.mg_none_of X G z_any, PySem.W.mg_none_of X G z_range, PySem.W.mg_none_of X G z_enumerate, PySem.W.mg_none_of X G z_zip, PySem.W.mg_none_of X G z_int, PySem.W.mg_none_of X G z_sum, PySem.W.mg_of X G m_SIGNS, PySem.W.mg_of X G m_UNKNOWNS, PySem.W.mg_of X G m_MOST_EQUATIONS, PySem.W.mg_of X G m_MOST_LETTERS, PySem.W.mg_of X G m_MOST_NAMES⟩
  have F0 := fun_mk (st := s_letters_of) l0 c0 k0
  have F1 := fun_mk (st := s_names_of) l1 c1 k1
  have F2 := fun_mk (st := s_signs_of) l2 c2 k2
  have F3 := fun_mk (st := s_is_word) l3 c3 k3
  have F4 := fun_mk (st := s_is_side) l4 c4 k4
  have F5 := fun_mk (st := s_is_equation) l5 c5 k5
  have F6 := fun_mk (st := s_filled) l6 c6 k6
  have F7 := fun_mk (st := s_holds) l7 c7 k7
  have F8 := fun_mk (st := s_turned) l8 c8 k8
  have F9 := fun_mk (st := s_stripped_pair) l9 c9 k9
  have F10 := fun_mk (st := s_stripped) l10 c10 k10
  have F11 := fun_mk (st := s_first_room) l11 c11 k11
  have F12 := fun_mk (st := s_is_ended) l12 c12 k12
  have F13 := fun_mk (st := s_is_dead_pair) l13 c13 k13
  have F14 := fun_mk (st := s_is_dead) l14 c14 k14
  have F15 := fun_mk (st := s_ahead_of) l15 c15 k15
  have F16 := fun_mk (st := s_led) l16 c16 k16
  have F17 := fun_mk (st := s_onward) l17 c17 k17
  have F18 := fun_mk (st := s_steps_by) l18 c18 k18
  have F19 := fun_mk (st := s_steps_of) l19 c19 k19
  have F20 := fun_mk (st := s_put_for) l20 c20 k20
  have F21 := fun_mk (st := s_stepped) l21 c21 k21
  have F22 := fun_mk (st := s_next_step) l22 c22 k22
  have F23 := fun_mk (st := s_way_of) l23 c23 k23
  have F24 := fun_mk (st := s_rooms_along) l24 c24 k24
  have F25 := fun_mk (st := s_led_back) l25 c25 k25
  have F26 := fun_mk (st := s_check_thrice) l26 c26 k26
  have F27 := fun_mk (st := s_check) l27 c27 k27
  have F28 := fun_mk (st := s_read_equation) l28 c28 k28
  have F29 := fun_mk (st := s_read_system) l29 c29 k29
  have F30 := fun_mk (st := s_show_words) l30 c30 k30
  have F31 := fun_mk (st := s_read_words) l31 c31 k31
  have F32 := fun_mk (st := s_sums) l32 c32 k32
  have F33 := fun_mk (st := s_can_be) l33 c33 k33
  have F34 := fun_mk (st := s_lacking) l34 c34 k34
  have F35 := fun_mk (st := s__law_cell_at) l35 c35 k35
  have F36 := fun_mk (st := s__law_names) l36 c36 k36
  have F37 := fun_mk (st := s__law_word) l37 c37 k37
  have F38 := fun_mk (st := s__law_left) l38 c38 k38
  have F39 := fun_mk (st := s__law_cut) l39 c39 k39
  have F40 := fun_mk (st := s__law_answered) l40 c40 k40
  have F41 := fun_mk (st := s__law_written) l41 c41 k41
  have F42 := fun_mk (st := s__law_there_and_back) l42 c42 k42
  have F43 := fun_mk (st := s_law) l43 c43 k43
  refine ⟨PySem.W.fnOf "law" "law" (defArgs s_law) (defBody s_law) (defScope s_law) .none kV43 dc43 pm43 an43 cd43 ct43, fun s v => .of_eq rfl, fun base _ _ => ?_⟩
  have b0 := F0.binds (ps := ["system"]) fun _ _ _ _ _ _ us hl => match us, hl with | [_], _ => rfl
  have C_letters_of : Cal l.prog w K mg base 1 "letters_of" ["system"] (spD K pLetters) := ⟨_, _, ok_letters_of (F := F0) , PySem.W.mg_of X G a0, k0, b0⟩
  have b1 := F1.binds (ps := ["system"]) fun _ _ _ _ _ _ us hl => match us, hl with | [_], _ => rfl
  have C_names_of : Cal l.prog w K mg base 2 "names_of" ["system"] (spD K pNames) := ⟨_, _, ok_names_of (F := F1) (T := T) (C_letters_of := C_letters_of), PySem.W.mg_of X G a1, k1, b1⟩
  have b2 := F2.binds (ps := ["system"]) fun _ _ _ _ _ _ us hl => match us, hl with | [_], _ => rfl
  have C_signs_of : Cal l.prog w K mg base 2 "signs_of" ["system"] (spD K pSigns) := ⟨_, _, ok_signs_of (F := F2) (T := T) (C_letters_of := C_letters_of), PySem.W.mg_of X G a2, k2, b2⟩
  have b3 := F3.binds (ps := ["thing"]) fun _ _ _ _ _ _ us hl => match us, hl with | [_], _ => rfl
  have C_is_word : Cal l.prog w K mg base 1 "is_word" ["thing"] (spD K pIsWord) := ⟨_, _, ok_is_word (F := F3) (T := T), PySem.W.mg_of X G a3, k3, b3⟩
  have b4 := F4.binds (ps := ["thing"]) fun _ _ _ _ _ _ us hl => match us, hl with | [_], _ => rfl
  have C_is_side : Cal l.prog w K mg base 1 "is_side" ["thing"] (spD K pIsSide) := ⟨_, _, ok_is_side (F := F4) (T := T), PySem.W.mg_of X G a4, k4, b4⟩
  have b5 := F5.binds (ps := ["thing"]) fun _ _ _ _ _ _ us hl => match us, hl with | [_], _ => rfl
  have C_is_equation : Cal l.prog w K mg base 2 "is_equation" ["thing"] (spD K pIsEqn) := ⟨_, _, ok_is_equation (F := F5) (T := T) (C_is_side := C_is_side), PySem.W.mg_of X G a5, k5, b5⟩
  have b6 := F6.binds (ps := ["side", "names", "words"]) fun _ _ _ _ _ _ us hl => match us, hl with | [_, _, _], _ => rfl
  have C_filled : Cal l.prog w K mg base 1 "filled" ["side", "names", "words"] (spD K pFilled) := ⟨_, _, ok_filled (F := F6) , PySem.W.mg_of X G a6, k6, b6⟩
  have b7 := F7.binds (ps := ["system", "words"]) fun _ _ _ _ _ _ us hl => match us, hl with | [_, _], _ => rfl
  have C_holds : Cal l.prog w K mg base 3 "holds" ["system", "words"] (spD K pHolds) := ⟨_, _, ok_holds (F := F7) (C_names_of := C_names_of) (C_filled := C_filled), PySem.W.mg_of X G a7, k7, b7⟩
  have b8 := F8.binds (ps := ["system"]) fun _ _ _ _ _ _ us hl => match us, hl with | [_], _ => rfl
  have C_turned : Cal l.prog w K mg base 1 "turned" ["system"] (spD K pTurned) := ⟨_, _, ok_turned (F := F8) (T := T), PySem.W.mg_of X G a8, k8, b8⟩
  have b9 := F9.binds (ps := ["left", "right"]) fun _ _ _ _ _ _ us hl => match us, hl with | [_, _], _ => rfl
  have C_stripped_pair : Cal l.prog w K mg base 1 "stripped_pair" ["left", "right"] (spD K pStripPair) := ⟨_, _, ok_stripped_pair (F := F9) (T := T), PySem.W.mg_of X G a9, k9, b9⟩
  have b10 := F10.binds (ps := ["equations"]) fun _ _ _ _ _ _ us hl => match us, hl with | [_], _ => rfl
  have C_stripped : Cal l.prog w K mg base 2 "stripped" ["equations"] (spStripped K) := ⟨_, _, ok_stripped (F := F10) (T := T) (C_stripped_pair := C_stripped_pair), PySem.W.mg_of X G a10, k10, b10⟩
  have b11 := F11.binds (ps := ["system"]) fun _ _ _ _ _ _ us hl => match us, hl with | [_], _ => rfl
  have C_first_room : Cal l.prog w K mg base 3 "first_room" ["system"] (spD K pFirst) := ⟨_, _, ok_first_room (F := F11) (C_names_of := C_names_of) (C_stripped := C_stripped), PySem.W.mg_of X G a11, k11, b11⟩
  have b12 := F12.binds (ps := ["room"]) fun _ _ _ _ _ _ us hl => match us, hl with | [_], _ => rfl
  have C_is_ended : Cal l.prog w K mg base 1 "is_ended" ["room"] (spD K pEnded) := ⟨_, _, ok_is_ended (F := F12) (T := T), PySem.W.mg_of X G a12, k12, b12⟩
  have b13 := F13.binds (ps := ["left", "right"]) fun _ _ _ _ _ _ us hl => match us, hl with | [_, _], _ => rfl
  have C_is_dead_pair : Cal l.prog w K mg base 1 "is_dead_pair" ["left", "right"] (spD K pDeadPair) := ⟨_, _, ok_is_dead_pair (F := F13) (T := T), PySem.W.mg_of X G a13, k13, b13⟩
  have b14 := F14.binds (ps := ["room"]) fun _ _ _ _ _ _ us hl => match us, hl with | [_], _ => rfl
  have C_is_dead : Cal l.prog w K mg base 2 "is_dead" ["room"] (spD K pDead) := ⟨_, _, ok_is_dead (F := F14) (T := T) (C_is_dead_pair := C_is_dead_pair), PySem.W.mg_of X G a14, k14, b14⟩
  have b15 := F15.binds (ps := ["names", "step", "words"]) fun _ _ _ _ _ _ us hl => match us, hl with | [_, _, _], _ => rfl
  have C_ahead_of : Cal l.prog w K mg base 1 "ahead_of" ["names", "step", "words"] (spD K pAhead) := ⟨_, _, ok_ahead_of (F := F15) , PySem.W.mg_of X G a15, k15, b15⟩
  have b16 := F16.binds (ps := ["room", "step", "words"]) fun _ _ _ _ _ _ us hl => match us, hl with | [_, _, _], _ => rfl
  have C_led : Cal l.prog w K mg base 2 "led" ["room", "step", "words"] (spD K pLed) := ⟨_, _, ok_led (F := F16) (C_ahead_of := C_ahead_of), PySem.W.mg_of X G a16, k16, b16⟩
  have b17 := F17.binds (ps := ["room", "step", "words"]) fun _ _ _ _ _ _ us hl => match us, hl with | [_, _, _], _ => rfl
  have C_onward : Cal l.prog w K mg base 2 "onward" ["room", "step", "words"] (spD K pOn) := ⟨_, _, ok_onward (F := F17) (T := T) (C_ahead_of := C_ahead_of), PySem.W.mg_of X G a17, k17, b17⟩
  have b18 := F18.binds (ps := ["p", "q"]) fun _ _ _ _ _ _ us hl => match us, hl with | [_, _], _ => rfl
  have B18 : SB l.prog w K mg base 1 _ _ := sb_ok (F := F18) (T := T)
  have b19 := F19.binds (ps := ["room"]) fun _ _ _ _ _ _ us hl => match us, hl with | [_], _ => rfl
  have C_steps_of : CalG l.prog w K mg base 3 "steps_of" ["room"] (spG K pStepsOf) := ⟨_, _, ok_steps_of (F := F19) (T := T) (C_is_ended := C_is_ended) (C_is_dead := C_is_dead) (B := B18) (hmB := PySem.W.mg_of X G a18) (kpB := k18) (hbB := b18), PySem.W.mg_of X G a19, k19, b19⟩
  have b20 := F20.binds (ps := ["step"]) fun _ _ _ _ _ _ us hl => match us, hl with | [_], _ => rfl
  have B20 : PF l.prog w K mg base 1 _ _ := pf_ok (F := F20) 
  have b21 := F21.binds (ps := ["room", "step"]) fun _ _ _ _ _ _ us hl => match us, hl with | [_, _], _ => rfl
  have C_stepped : CalG l.prog w K mg base 4 "stepped" ["room", "step"] (spG K pStepped) := ⟨_, _, ok_stepped (F := F21) (C_steps_of := steps_plain C_steps_of) (C_stripped := C_stripped) (B := B20) (hmB := PySem.W.mg_of X G a20) (kpB := k20) (hbB := b20), PySem.W.mg_of X G a21, k21, b21⟩
  have b22 := F22.binds (ps := ["room", "words"]) fun _ _ _ _ _ _ us hl => match us, hl with | [_, _], _ => rfl
  have C_next_step : CalG l.prog w K mg base 4 "next_step" ["room", "words"] (spG K pNext) := ⟨_, _, ok_next_step (F := F22) (T := T) (C_steps_of := C_steps_of) (C_onward := C_onward), PySem.W.mg_of X G a22, k22, b22⟩
  have b23 := F23.binds (ps := ["system", "words"]) fun _ _ _ _ _ _ us hl => match us, hl with | [_, _], _ => rfl
  have C_way_of : CalG l.prog w K mg base 5 "way_of" ["system", "words"] (spG K pWay) := ⟨_, _, ok_way_of (F := F23) (T := T) (C_names_of := C_names_of) (C_holds := C_holds) (C_first_room := C_first_room) (C_is_ended := C_is_ended) (C_next_step := C_next_step) (C_stepped := C_stepped), PySem.W.mg_of X G a23, k23, b23⟩
  have b24 := F24.binds (ps := ["system", "steps"]) fun _ _ _ _ _ _ us hl => match us, hl with | [_, _], _ => rfl
  have C_rooms_along : CalG l.prog w K mg base 5 "rooms_along" ["system", "steps"] (spRooms K) := ⟨_, _, ok_rooms_along (F := F24) (T := T) (C_first_room := C_first_room) (C_steps_of := steps_plain C_steps_of) (C_stepped := C_stepped), PySem.W.mg_of X G a24, k24, b24⟩
  have b25 := F25.binds (ps := ["system", "steps", "rest"]) fun _ _ _ _ _ _ us hl => match us, hl with | [_, _, _], _ => rfl
  have C_led_back : CalG l.prog w K mg base 6 "led_back" ["system", "steps", "rest"] (spG K pLedBack) := ⟨_, _, ok_led_back (F := F25) (T := T) (C_rooms_along := C_rooms_along) (C_is_ended := C_is_ended) (C_led := C_led), PySem.W.mg_of X G a25, k25, b25⟩
  have b26 := F26.binds (ps := ["system"]) fun _ _ _ _ _ _ us hl => match us, hl with | [_], _ => rfl
  have C_check_thrice : Cal l.prog w K mg base 1 "check_thrice" ["system"] (spD K pThrice) := ⟨_, _, ok_check_thrice (F := F26) (T := T), PySem.W.mg_of X G a26, k26, b26⟩
  have b27 := F27.binds (ps := ["thing"]) fun _ _ _ _ _ _ us hl => match us, hl with | [_], _ => rfl
  have C_check : Cal l.prog w K mg base 3 "check" ["thing"] (spD K pCheck) := ⟨_, _, ok_check (F := F27) (T := T) (C_is_equation := C_is_equation) (C_check_thrice := C_check_thrice) (C_letters_of := C_letters_of) (C_names_of := C_names_of), PySem.W.mg_of X G a27, k27, b27⟩
  have b28 := F28.binds (ps := ["text"]) fun _ _ _ _ _ _ us hl => match us, hl with | [_], _ => rfl
  have C_read_equation : Cal l.prog w K mg base 2 "read_equation" ["text"] (spD K pReadEq) := ⟨_, _, ok_read_equation (F := F28) (T := T) (C_is_side := C_is_side), PySem.W.mg_of X G a28, k28, b28⟩
  have b29 := F29.binds (ps := ["text"]) fun _ _ _ _ _ _ us hl => match us, hl with | [_], _ => rfl
  have C_read_system : Cal l.prog w K mg base 4 "read_system" ["text"] (spD K pReadS) := ⟨_, _, ok_read_system (F := F29) (T := T) (C_read_equation := C_read_equation) (C_check := C_check), PySem.W.mg_of X G a29, k29, b29⟩
  have b30 := F30.binds (ps := ["names", "words"]) fun _ _ _ _ _ _ us hl => match us, hl with | [_, _], _ => rfl
  have C_show_words : Cal l.prog w K mg base 1 "show_words" ["names", "words"] (spD K pShowW) := ⟨_, _, ok_show_words (F := F30) (T := T), PySem.W.mg_of X G a30, k30, b30⟩
  have b31 := F31.binds (ps := ["names", "text"]) fun _ _ _ _ _ _ us hl => match us, hl with | [_, _], _ => rfl
  have C_read_words : Cal l.prog w K mg base 2 "read_words" ["names", "text"] (spD K pReadW) := ⟨_, _, ok_read_words (F := F31) (T := T) (C_is_word := C_is_word), PySem.W.mg_of X G a31, k31, b31⟩
  have b32 := F32.binds (ps := ["system"]) fun _ _ _ _ _ _ us hl => match us, hl with | [_], _ => rfl
  have C_sums : Cal l.prog w K mg base 3 "sums" ["system"] (spD K pSums) := ⟨_, _, ok_sums (F := F32) (T := T) (C_names_of := C_names_of) (C_signs_of := C_signs_of), PySem.W.mg_of X G a32, k32, b32⟩
  have b33 := F33.binds (ps := ["coefficients", "amount"]) fun _ _ _ _ _ _ us hl => match us, hl with | [_, _], _ => rfl
  have C_can_be : Cal l.prog w K mg base 1 "can_be" ["coefficients", "amount"] (spD K pCanBe) := ⟨_, _, ok_can_be (F := F33) (T := T), PySem.W.mg_of X G a33, k33, b33⟩
  have b34 := F34.binds (ps := ["system"]) fun _ _ _ _ _ _ us hl => match us, hl with | [_], _ => rfl
  have C_lacking : Cal l.prog w K mg base 4 "lacking" ["system"] (spD K pLack) := ⟨_, _, ok_lacking (F := F34) (T := T) (C_sums := C_sums) (C_can_be := C_can_be), PySem.W.mg_of X G a34, k34, b34⟩
  have b35 := F35.binds (ps := ["_law_script", "_law_k"]) fun _ _ _ _ _ _ us hl => match us, hl with | [_, _], _ => rfl
  have C__law_cell_at : Cal l.prog w K mg base 1 "_law_cell_at" ["_law_script", "_law_k"] (spCell K) := ⟨_, _, ok_cell_at (F := F35) (T := T), PySem.W.mg_of X G a35, k35, b35⟩
  have b36 := F36.binds (ps := ["_law_cell"]) fun _ _ _ _ _ _ us hl => match us, hl with | [_], _ => rfl
  have C__law_names : Cal l.prog w K mg base 1 "_law_names" ["_law_cell"] (spNames K) := ⟨_, _, ok_names (F := F36) (T := T), PySem.W.mg_of X G a36, k36, b36⟩
  have b37 := F37.binds (ps := ["_law_cell", "_law_signs"]) fun _ _ _ _ _ _ us hl => match us, hl with | [_, _], _ => rfl
  have C__law_word : Cal l.prog w K mg base 1 "_law_word" ["_law_cell", "_law_signs"] (spD K pWord) := ⟨_, _, ok_word (F := F37) (T := T), PySem.W.mg_of X G a37, k37, b37⟩
  have b38 := F38.binds (ps := ["_law_cells", "_law_names_here", "_law_words", "_law_signs", "_law_uses", "_law_most", "_law_wide"]) fun _ _ _ _ _ _ us hl => match us, hl with | [_, _, _, _, _, _, _], _ => rfl
  have C__law_left : Cal l.prog w K mg base 1 "_law_left" ["_law_cells", "_law_names_here", "_law_words", "_law_signs", "_law_uses", "_law_most", "_law_wide"] (spLeft K) := ⟨_, _, ok_left (F := F38) (T := T), PySem.W.mg_of X G a38, k38, b38⟩
  have b39 := F39.binds (ps := ["_law_cell", "_law_full", "_law_names_here", "_law_words", "_law_uses"]) fun _ _ _ _ _ _ us hl => match us, hl with | [_, _, _, _, _], _ => rfl
  have C__law_cut : Cal l.prog w K mg base 1 "_law_cut" ["_law_cell", "_law_full", "_law_names_here", "_law_words", "_law_uses"] (spCut K) := ⟨_, _, ok_cut (F := F39) (T := T), PySem.W.mg_of X G a39, k39, b39⟩
  have b40 := F40.binds (ps := ["_law_script"]) fun _ _ _ _ _ _ us hl => match us, hl with | [_], _ => rfl
  have C__law_answered : Cal l.prog w K mg base 4 "_law_answered" ["_law_script"] (spAns K) := ⟨_, _, ok_answered (F := F40) (T := T) (C__law_cell_at := C__law_cell_at) (C__law_names := C__law_names) (C__law_word := C__law_word) (C__law_left := C__law_left) (C__law_cut := C__law_cut), PySem.W.mg_of X G a40, k40, b40⟩
  have b41 := F41.binds (ps := ["_law_names_here", "_law_words"]) fun _ _ _ _ _ _ us hl => match us, hl with | [_, _], _ => rfl
  have C__law_written : Cal l.prog w K mg base 1 "_law_written" ["_law_names_here", "_law_words"] (spD K pShowW) := ⟨_, _, ok_written (F := F41) (T := T), PySem.W.mg_of X G a41, k41, b41⟩
  have b42 := F42.binds (ps := ["_law_system", "_law_text"]) fun _ _ _ _ _ _ us hl => match us, hl with | [_, _], _ => rfl
  have G42 : FnG l.prog w K mg base 7 _ _ ["_law_system", "_law_text"] _ := ok_there (F := F42) (T := T) (C_names_of := C_names_of) (C_read_words := C_read_words) (C_holds := C_holds) (C_lacking := C_lacking) (C_way_of := C_way_of) (C_first_room := C_first_room) (C_steps_of := steps_plain C_steps_of) (C_stepped := C_stepped) (C_is_ended := C_is_ended) (C_show_words := C_show_words) (C_led_back := C_led_back)
  have C__law_there_and_back : Cal l.prog w K mg base 7 "_law_there_and_back" ["_law_system", "_law_text"] (spD K pThere) := ⟨_, _, there_plain G42, PySem.W.mg_of X G a42, k42, b42⟩
  exact ok_law (F := F43) (T := T) (C__law_answered := C__law_answered) (C_read_system := C_read_system) (C__law_written := C__law_written) (C__law_there_and_back := C__law_there_and_back) (C_turned := C_turned)
end GW

set_option Elab.async false
set_option linter.all false
set_option maxRecDepth 100000
open PySem PySem.W PyProof.Rows
set_option maxHeartbeats 0 in
theorem PySem.Challenge.cw_gapwords_k90_whole_from_text_to_text_holds : PySem.Challenge.rw_gapwords_k90_whole_from_text_to_text.Holds := by
  w_on; o_law; k_head; (case hw => w_witness2)
  k_fill
  refine L2.walk_of (l := PySem.Challenge.rw_gapwords_k90_whole_from_text_to_text) (n := 63) (k := 8) (x := "_law_script") (CX := fun _ => L2.CX0) (sp := fun w => GW.spLaw _) rfl (by decide) rfl ⟨rfl, by decide, by decide⟩ (fun w h Y => PySem.W.kIn_of Y) ?F (fun _ _ a ns hl _ hS => ⟨a, ns, rfl, hS, hl, fun _ _ => rfl⟩) (fun _ _ _ _ _ h => h)
  case F =>
    intro w mg fa h KX G hmg
    refine' GW.all_mk KX G hmg ?a0 ?l0 ?c0 ?k0 ?a1 ?l1 ?c1 ?k1 ?a2 ?l2 ?c2 ?k2 ?a3 ?l3 ?c3 ?k3 ?a4 ?l4 ?c4 ?k4 ?a5 ?l5 ?c5 ?k5 ?a6 ?l6 ?c6 ?k6 ?a7 ?l7 ?c7 ?k7 ?a8 ?l8 ?c8 ?k8 ?a9 ?l9 ?c9 ?k9 ?a10 ?l10 ?c10 ?k10 ?a11 ?l11 ?c11 ?k11 ?a12 ?l12 ?c12 ?k12 ?a13 ?l13 ?c13 ?k13 ?a14 ?l14 ?c14 ?k14 ?a15 ?l15 ?c15 ?k15 ?a16 ?l16 ?c16 ?k16 ?a17 ?l17 ?c17 ?k17 ?a18 ?l18 ?c18 ?k18 ?a19 ?l19 ?c19 ?k19 ?a20 ?l20 ?c20 ?k20 ?a21 ?l21 ?c21 ?k21 ?a22 ?l22 ?c22 ?k22 ?a23 ?l23 ?c23 ?k23 ?a24 ?l24 ?c24 ?k24 ?a25 ?l25 ?c25 ?k25 ?a26 ?l26 ?c26 ?k26 ?a27 ?l27 ?c27 ?k27 ?a28 ?l28 ?c28 ?k28 ?a29 ?l29 ?c29 ?k29 ?a30 ?l30 ?c30 ?k30 ?a31 ?l31 ?c31 ?k31 ?a32 ?l32 ?c32 ?k32 ?a33 ?l33 ?c33 ?k33 ?a34 ?l34 ?c34 ?k34 ?a35 ?l35 ?c35 ?k35 ?a36 ?l36 ?c36 ?k36 ?a37 ?l37 ?c37 ?k37 ?a38 ?l38 ?c38 ?k38 ?a39 ?l39 ?c39 ?k39 ?a40 ?l40 ?c40 ?k40 ?a41 ?l41 ?c41 ?k41 ?a42 ?l42 ?c42 ?k42 ?a43 ?l43 ?c43 ?k43 ?z_len ?z_isinstance ?z_str ?z_tuple ?z_any ?z_range ?z_enumerate ?z_zip ?z_int ?z_sum ?m_SIGNS ?m_UNKNOWNS ?m_MOST_EQUATIONS ?m_MOST_LETTERS ?m_MOST_NAMES
    (case a0 => k_is); (case l0 => k_is); (case c0 => k_is); (case k0 => k_is); (case a1 => k_is); (case l1 => k_is); (case c1 => k_is); (case k1 => k_is)
    (case a2 => k_is); (case l2 => k_is); (case c2 => k_is); (case k2 => k_is); (case a3 => k_is); (case l3 => k_is); (case c3 => k_is); (case k3 => k_is)
    (case a4 => k_is); (case l4 => k_is); (case c4 => k_is); (case k4 => k_is); (case a5 => k_is); (case l5 => k_is); (case c5 => k_is); (case k5 => k_is)
    (case a6 => k_is); (case l6 => k_is); (case c6 => k_is); (case k6 => k_is); (case a7 => k_is); (case l7 => k_is); (case c7 => k_is); (case k7 => k_is)
    (case a8 => k_is); (case l8 => k_is); (case c8 => k_is); (case k8 => k_is); (case a9 => k_is); (case l9 => k_is); (case c9 => k_is); (case k9 => k_is)
    (case a10 => k_is); (case l10 => k_is); (case c10 => k_is); (case k10 => k_is); (case a11 => k_is); (case l11 => k_is); (case c11 => k_is); (case k11 => k_is)
    (case a12 => k_is); (case l12 => k_is); (case c12 => k_is); (case k12 => k_is); (case a13 => k_is); (case l13 => k_is); (case c13 => k_is); (case k13 => k_is)
    (case a14 => k_is); (case l14 => k_is); (case c14 => k_is); (case k14 => k_is); (case a15 => k_is); (case l15 => k_is); (case c15 => k_is); (case k15 => k_is)
    (case a16 => k_is); (case l16 => k_is); (case c16 => k_is); (case k16 => k_is); (case a17 => k_is); (case l17 => k_is); (case c17 => k_is); (case k17 => k_is)
    (case a18 => k_is); (case l18 => k_is); (case c18 => k_is); (case k18 => k_is); (case a19 => k_is); (case l19 => k_is); (case c19 => k_is); (case k19 => k_is)
    (case a20 => k_is); (case l20 => k_is); (case c20 => k_is); (case k20 => k_is); (case a21 => k_is); (case l21 => k_is); (case c21 => k_is); (case k21 => k_is)
    (case a22 => k_is); (case l22 => k_is); (case c22 => k_is); (case k22 => k_is); (case a23 => k_is); (case l23 => k_is); (case c23 => k_is); (case k23 => k_is)
    (case a24 => k_is); (case l24 => k_is); (case c24 => k_is); (case k24 => k_is); (case a25 => k_is); (case l25 => k_is); (case c25 => k_is); (case k25 => k_is)
    (case a26 => k_is); (case l26 => k_is); (case c26 => k_is); (case k26 => k_is); (case a27 => k_is); (case l27 => k_is); (case c27 => k_is); (case k27 => k_is)
    (case a28 => k_is); (case l28 => k_is); (case c28 => k_is); (case k28 => k_is); (case a29 => k_is); (case l29 => k_is); (case c29 => k_is); (case k29 => k_is)
    (case a30 => k_is); (case l30 => k_is); (case c30 => k_is); (case k30 => k_is); (case a31 => k_is); (case l31 => k_is); (case c31 => k_is); (case k31 => k_is)
    (case a32 => k_is); (case l32 => k_is); (case c32 => k_is); (case k32 => k_is); (case a33 => k_is); (case l33 => k_is); (case c33 => k_is); (case k33 => k_is)
    (case a34 => k_is); (case l34 => k_is); (case c34 => k_is); (case k34 => k_is); (case a35 => k_is); (case l35 => k_is); (case c35 => k_is); (case k35 => k_is)
    (case a36 => k_is); (case l36 => k_is); (case c36 => k_is); (case k36 => k_is); (case a37 => k_is); (case l37 => k_is); (case c37 => k_is); (case k37 => k_is)
    (case a38 => k_is); (case l38 => k_is); (case c38 => k_is); (case k38 => k_is); (case a39 => k_is); (case l39 => k_is); (case c39 => k_is); (case k39 => k_is)
    (case a40 => k_is); (case l40 => k_is); (case c40 => k_is); (case k40 => k_is); (case a41 => k_is); (case l41 => k_is); (case c41 => k_is); (case k41 => k_is)
    (case a42 => k_is); (case l42 => k_is); (case c42 => k_is); (case k42 => k_is); (case a43 => k_is); (case l43 => k_is); (case c43 => k_is); (case k43 => k_is)
    (case z_len => k_is); (case z_isinstance => k_is); (case z_str => k_is); (case z_tuple => k_is); (case z_any => k_is); (case z_range => k_is); (case z_enumerate => k_is); (case z_zip => k_is)
    (case z_int => k_is); (case z_sum => k_is); (case m_SIGNS => k_is); (case m_UNKNOWNS => k_is); (case m_MOST_EQUATIONS => k_is); (case m_MOST_LETTERS => k_is); (case m_MOST_NAMES => k_is)
