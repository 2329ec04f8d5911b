import PyProof.Rows.All
import Wide.All
import OpenK.AllK
import Wide.FinOn
import HandS.Base
import HandS.Call
import HandS.List
import HandS.Words
import KE.KUnpackStar
import HandS.ForMost
import HandS.Codes
import HandS.Evl
import HandS.IsInst
import HandS.Zip
import HandS.Star
import PySem.Challenge.RW_handedworld_k08_whole_texts_there_and_ba
import HandS.OwnEq
import HandS.Deep
import HandS.Style
import HandS.Strs
import HandS.SetBool
import HandS.DeepEq
import HandS.DictComp
import HandS.WordsDict
import HandS.ClsMeth
import HandS.Property
import HandS.FStr
import HandS.ReplaceLit
import HandS.ReplaceDef
import HandS.ReplaceList
import KE.KRevSl
import KE.KDictZip
import KE.KItemsList
import KE.KTurns
import HandS.ListItems
import HandS.GenList
import HandS.Wide
import HandS.Conv
import HandS.TupAny
import HandS.More
import HandS.NoneIn
import HandS.ExcOwn
import HandS.WordsExc
import HandS.TryOnly
import HandS.Lambda
import HandS.EndOwn
set_option Elab.async false
set_option linter.all false
set_option maxRecDepth 100000
set_option maxHeartbeats 4000000
/-! The match statement over the hand layer: patterns of the shapes [S, x, ..], [S, x, .., *y] and S, where S is a text or one of several. -/
namespace K8
open PySem PySem.Spec L2
open PyProof.Rows hiding St

/-- a star unpack of a tuple, told by the heap -/
theorem star_tup {prog : Program} {w : World} {A : Around} {E : Value → Shared → Prop} {s : Shared} {l : Addr} {items : Array Value} {n i : Nat} {Q : List Value → Shared → Prop} (hl : IsTup s.heap l items) (hh : A.handled = none) (hi : i < n) (hn : n ≤ items.size + 1) (hz : items.size ≤ sizeLine)
    (h : ∀ (h' : Heap) (tk : Nat), (∀ b o, s.heap.get? b = some o → h'.get? b = some o) →
      Q (items.toList.take i ++ [.ref h'.objs.size] ++ (items.toList.drop i).drop (items.size + 1 - n)) { s with heap := h'.push { cls := .type "list", data := .seq ((items.toList.drop i).take (items.size + 1 - n)).toArray }, toks := tk }) : wpAny (model prog w) A (unpackItems (.ref l) n (some i)) Q E s := by
  have hlt : l ≠ s.heap.objs.size := by obtain ⟨o, ho, _⟩ := hl; exact Nat.ne_of_lt (Heap.lt_size ho)
  have hll : l < s.heap.objs.size := by obtain ⟨o, ho, _⟩ := hl; exact Heap.lt_size ho
  unfold unpackItems
  refine wpAny_bind ?_
  unfold notIterableAtAll
  refine wpAny_bind (wpAny_specialOf hl.typeIs slot_tuple_iter.lookup ?_)
  refine wpAny_pure ?_
  simp only [Bool.false_eq_true, if_false]
  refine wpAny_bind (wpAny_holding (iter_tuple hl ?_))
  refine wpAny_bind (wpAny_holding (draw_tuple hlt i 0 _ _ ⟨_, Heap.get?_push_size _ rfl, rfl, rfl⟩ (hl.push _) (by omega) fun h₁ hit₁ hs₁ => ?_))
  have hl₁ : IsTup h₁ l items := (hl.push _).extBut hs₁.extBut hlt
  rw [Nat.zero_add] at hit₁
  have hit₁' := hit₁
  obtain ⟨oi, hoi, _⟩ := hit₁'
  have hl₁' := hl₁
  obtain ⟨ol, hol, _⟩ := hl₁'
  rw [List.drop_zero]
  have hfl : (items.toList.take i).length = i := by rw [List.length_take, Array.length_toList]; omega
  rw [if_neg (show ¬ ((items.toList.take i).length < i) by rw [hfl]; omega)]
  refine wpAny_bind (wpAny_holding (PySem.W.kun_collect (s := { s with heap := h₁ }) (T := "tuple_iterator") (.inr (.inr (.inr rfl))) (Walks.tuple (A := A.in1) hh s.heap.objs.size l hlt items) (fun j u st => st.1.typeIs) (k := i) (by omega) ⟨hit₁, hl₁⟩ (Heap.lt_size hoi) (Heap.lt_size hol) (fun h₂ tk hk => ?_) hz))
  have hrl : (items.toList.drop i).length = items.size - i := by rw [List.length_drop, Array.length_toList]
  have hmid : (items.toList.drop i).length - (n - 1 - i) = items.size + 1 - n := by rw [hrl]; omega
  show wpAny _ _ (if (items.toList.drop i).length < n - 1 - i then _ else _) _ _ _
  rw [if_neg (by rw [hrl]; omega)]
  show wpAny _ _ (newList ((items.toList.drop i).take ((items.toList.drop i).length - (n - 1 - i))) >>= fun d => pure (items.toList.take i ++ [d] ++ (items.toList.drop i).drop ((items.toList.drop i).length - (n - 1 - i)))) _ _ _
  rw [hmid]
  have he : Heap.ExtBut s.heap.objs.size s.heap h₂ := fun b o hb e => hk b o hb (hs₁.extBut b o hb (Heap.get?_push_of_some _ e))
  refine wpAny_bind ?_
  unfold newList
  refine wpAny_newObj_type ?_ (by show _ ≤ sizeLine; simp only [List.size_toArray, List.length_take]; rw [hrl]; omega)
  exact wpAny_pure (h h₂ tk fun b o e => he b o (Nat.ne_of_lt (Heap.lt_size e)) e)

/-! ### a text's pattern, or one of several -/
inductive StrPats : List Pattern → List Str → Prop
  | nil : StrPats [] []
  | cons {z : Str} {j : Nat} {p1 p2 : Pos} {ps : List Pattern} {zs : List Str} : StrPats ps zs → StrPats (.MatchValue (.Constant (.str z) j p1) p2 :: ps) (z :: zs)
inductive StrPat : Pattern → List Str → Prop
  | one {z : Str} {j : Nat} {p1 p2 : Pos} : StrPat (.MatchValue (.Constant (.str z) j p1) p2) [z]
  | many {p : Pos} {ps : List Pattern} {zs : List Str} : StrPats ps zs → StrPat (.MatchOr ps p) zs
theorem StrPats.names : ∀ {ps : List Pattern} {zs : List Str}, StrPats ps zs → namesOfAll (ps.take 1) = []
  | _, _, .nil => rfl
  | _, _, .cons _ => rfl
theorem StrPat.notStar : ∀ {p : Pattern} {zs : List Str}, StrPat p zs → p.isStar = false ∧ p.isWildcard = false
  | _, _, .one => ⟨rfl, rfl⟩
  | _, _, .many _ => ⟨rfl, rfl⟩
def hit (y : Str) (zs : List Str) : Option (List (Str × Value)) := if y ∈ zs then some [] else none

section
variable {X : Cx} {pins : List (Addr × Obj)} {σ : St} {H : Hp} {s : Shared}
theorem val_run {z y : Str} {t : Tok} {j : Nat} {p1 p2 : Pos} {Q : Option (List (Str × Value)) → Shared → Prop} {E : Value → Shared → Prop} (I : Inv X pins σ H s) (k : ∀ s', Inv X pins σ H s' → Q (if y = z then some [] else none) s') :
    wpAny (model X.prog X.w) X.A (matchPattern (.MatchValue (.Constant (.str z) j p1) p2) X.env (.str y t)) Q E s := by
  refine wpAny_matchPattern_Value (Calls.Constant_str (eq_str (wpAny_truthy_bool ?_)))
  have I' := I.tok (s.toks + 1)
  by_cases e : y = z
  · have q := k _ I'
    rw [if_pos e] at q
    subst e
    simpa using q
  · have q := k _ I'
    rw [if_neg e] at q
    have e' : (y == z) = false := beq_eq_false_iff_ne.mpr e
    simpa [e'] using q
theorem first_run {y : Str} {t : Tok} {E : Value → Shared → Prop} {ps : List Pattern} {zs : List Str} (h : StrPats ps zs) : ∀ {s : Shared} {Q : Option (List (Str × Value)) → Shared → Prop}, Inv X pins σ H s →
    (∀ s', Inv X pins σ H s' → Q (hit y zs) s') → wpAny (model X.prog X.w) X.A (matchFirst ps X.env (.str y t)) Q E s := by
  induction h with
  | nil => exact fun {s Q} I k => wpAny_matchFirst_nil (by simpa [hit] using k s I)
  | @cons z j p1 p2 ps zs r ih =>
    intro s Q I k
    refine wpAny_matchFirst_cons (val_run I fun s' I' => ?_)
    by_cases e : y = z
    · rw [if_pos e]
      have q := k s' I'
      simpa [hit, e] using q
    · rw [if_neg e]
      refine ih I' fun s2 I2 => ?_
      have q := k s2 I2
      simpa [hit, e] using q
theorem pat_run {p : Pattern} {zs : List Str} {y : Str} {t : Tok} {Q : Option (List (Str × Value)) → Shared → Prop} {E : Value → Shared → Prop} (h : StrPat p zs) (I : Inv X pins σ H s) (k : ∀ s', Inv X pins σ H s' → Q (hit y zs) s') :
    wpAny (model X.prog X.w) X.A (matchPattern p X.env (.str y t)) Q E s := by
  cases h with
  | @one z j p1 p2 => exact val_run I fun s' I' => by simpa [hit] using k s' I'
  | @many p ps zs r =>
    refine wpAny_matchPattern_Or (first_run r I fun s' I' => ?_)
    have q := k s' I'
    by_cases e : y ∈ zs
    · simp only [hit, if_pos e] at q ⊢
      rw [r.names]
      exact q
    · simp only [hit, if_neg e] at q ⊢
      exact q

/-! ### captures -/
inductive Caps : List Pattern → List Str → Prop
  | nil : Caps [] []
  | cons {x : Str} {p : Pos} {ps : List Pattern} {xs : List Str} : Caps ps xs → Caps (.MatchAs none (some x) p :: ps) (x :: xs)
/-- captures, a star's name at the end -/
inductive CapsS : List Pattern → List Str → Str → Prop
  | nil {x : Str} {p : Pos} : CapsS [.MatchStar (some x) p] [] x
  | cons {x y : Str} {p : Pos} {ps : List Pattern} {xs : List Str} : CapsS ps xs y → CapsS (.MatchAs none (some x) p :: ps) (x :: xs) y
theorem Caps.length : ∀ {ps : List Pattern} {xs : List Str}, Caps ps xs → ps.length = xs.length
  | _, _, .nil => rfl
  | _, _, .cons r => congrArg (· + 1) r.length
theorem CapsS.length : ∀ {ps : List Pattern} {xs : List Str} {x : Str}, CapsS ps xs x → ps.length = xs.length + 1
  | _, _, _, .nil => rfl
  | _, _, _, .cons r => congrArg (· + 1) r.length
theorem Caps.nostar : ∀ {ps : List Pattern} {xs : List Str}, Caps ps xs → ps.findIdx? (·.isStar) = none
  | _, _, .nil => rfl
  | _, _, .cons r => by
    rw [List.findIdx?_cons, show Pattern.isStar (.MatchAs none (some _) _) = false from rfl, r.nostar]
    rfl
theorem CapsS.star : ∀ {ps : List Pattern} {xs : List Str} {x : Str}, CapsS ps xs x → ps.findIdx? (·.isStar) = some xs.length ∧ ∃ p, ps[xs.length]? = some (.MatchStar (some x) p)
  | _, _, _, .nil => ⟨rfl, _, rfl⟩
  | _, _, _, .cons r => by
    obtain ⟨h1, p, h2⟩ := r.star
    refine ⟨?_, p, by simpa using h2⟩
    rw [List.findIdx?_cons, show Pattern.isStar (.MatchAs none (some _) _) = false from rfl, h1]
    rfl
theorem each_run {E : Value → Shared → Prop} {ps : List Pattern} {xs : List Str} (h : Caps ps xs) : ∀ {us : List Value} {s : Shared} {Q : Option (List (Str × Value)) → Shared → Prop}, us.length = xs.length →
    Q (some (xs.zip us)) s → wpAny (model X.prog X.w) X.A (matchEach ps X.env us) Q E s := by
  induction h with
  | nil =>
    intro us s Q hl q
    have e : us = [] := List.eq_nil_of_length_eq_zero hl
    subst e
    exact wpAny_matchEach_nil q
  | cons r ih =>
    intro us s Q hl q
    cases us with
    | nil => cases hl
    | cons u us =>
      refine wpAny_matchEach_cons (wpAny_matchPattern_Capture (ih (us := us) (by simpa using hl) ?_)) rfl
      simpa using q
theorem eachS_run {E : Value → Shared → Prop} {ps : List Pattern} {xs : List Str} {x : Str} (h : CapsS ps xs x) : ∀ {us : List Value} {s : Shared} {Q : Option (List (Str × Value)) → Shared → Prop}, us.length = xs.length + 1 →
    Q (some ((xs ++ [x]).zip us)) s → wpAny (model X.prog X.w) X.A (matchEach ps X.env us) Q E s := by
  induction h with
  | nil =>
    intro us s Q hl q
    match us, hl with
    | [u], _ => exact PySem.W.kun_each (wpAny_matchEach_nil (by simpa using q))
  | cons r ih =>
    intro us s Q hl q
    cases us with
    | nil => cases hl
    | cons u us =>
      refine wpAny_matchEach_cons (wpAny_matchPattern_Capture (ih (us := us) (by simpa using hl) ?_)) rfl
      simpa using q

/-! ### the names stored -/
inductive SlotsOk (X : Cx) : List Str → List Nat → Prop
  | nil : SlotsOk X [] []
  | cons {x : Str} {j : Nat} {xs : List Str} {js : List Nat} (hj : X.N[j]? = some x) (hx : Loc X.env.scope x) (hf : X.fn x = true ∨ X.env.scope.names.lookup x = some .local) (r : SlotsOk X xs js) : SlotsOk X (x :: xs) (j :: js)
def setAll : St → List Nat → List V → St
  | σ, j :: js, v :: vs => setAll (σ.set j (some v)) js vs
  | σ, _, _ => σ
theorem bind_run {E : Value → Shared → Prop} (hN : X.N.Nodup) {xs : List Str} {js : List Nat} (h : SlotsOk X xs js) : ∀ {vs : List V} {us : List Value} {σ : St} {s : Shared} {Q : Unit → Shared → Prop}, xs.length = us.length → Vals vs us → Inv X pins σ H s →
    (∀ s', Inv X pins (setAll σ js vs) H s' → Q () s') → wpAny (model X.prog X.w) X.A (assignInOrder ((xs.zip us).map fun (n, _) => bindName X.env n) ((xs.zip us).map (·.2))) Q E s := by
  induction h with
  | nil =>
    intro vs us σ s Q hl r I k
    have e : us = [] := List.eq_nil_of_length_eq_zero hl.symm
    subst e
    cases r
    exact wpAny_assignInOrder_none (k s I)
  | cons hj hx hf r ih =>
    intro vs us σ s Q hl rv I k
    cases rv with
    | nil => cases hl
    | @cons v u vs us r1 r2 =>
      refine wpAny_assignInOrder_more (wpAny_bindName (store_ok I hN hj hx r1 (fun s' I' => ?_) hf))
      exact ih (by simpa using hl) r2 I' k
end

/-! ### the cases -/
abbrev TM := V → TS
structure PMs (X : Cx) (cs : List MatchCase) (t : TM) : Prop where
  run : ∀ (first : Bool) (pins : List (Addr × Obj)) (s : Shared) (σ : St) (H : Hp) (D : Ends) (v : V) (u : Value), Inv X pins σ H s → RelV v u → t v D σ H → wpAny (model X.prog X.w) X.A (matchCases cs X.env u first) (SP X pins D) X.xe s
section
variable {X : Cx} {cs : List MatchCase} {t : TM} {tb : TS} {body : List Stmt} {p0 : Pattern} {zs : List Str} {caps : List Pattern} {xs : List Str} {x : Str} {js : List Nat} {pos : Pos}
theorem pms_nil : PMs X [] (fun _ D σ H => D.nx σ H) := ⟨fun _ _ _ σ H _ _ _ I _ h => wpAny_matchCases_nil ⟨σ, H, I, h⟩⟩
theorem ps_match {e : Expr} {te : TE} (he : PE X e te) (hc : PMs X cs t) : PS X (.Match e cs pos) (fun D σ H => te σ H fun v H1 => t v D σ H1) := by
  refine ⟨fun pins s σ H D I h => ?_⟩
  exact wpAny_Match (thn (he.run pins s σ H _ I h) fun u s1 ⟨v, H1, I1, r, q⟩ => hc.run true pins s1 σ H1 D v u I1 r q)
/-- case "a" | "b": -/
def tMC (zs : List Str) (tb : TS) (t : TM) : TM := fun v D σ H => ∃ y, v = .str y ∧ ((y ∈ zs ∧ tb D σ H) ∨ (y ∉ zs ∧ t v D σ H))
theorem pms_str (hp : StrPat p0 zs) (hb : PSs X body tb) (hr : PMs X cs t) : PMs X (⟨p0, none, body⟩ :: cs) (tMC zs tb t) := by
  refine ⟨fun first pins s σ H D v u I r h => ?_⟩
  obtain ⟨y, rfl, h⟩ := h
  obtain ⟨tk, rfl⟩ := r
  refine wpAny_matchCases_cons (pat_run hp I fun s' I' => ?_)
  by_cases e : y ∈ zs
  · simp only [hit, if_pos e]
    rcases h with ⟨_, h⟩ | ⟨n, _⟩
    · exact wpAny_assignInOrder_none (hb.run pins s' σ H D I' h)
    · exact absurd e n
  · simp only [hit, if_neg e]
    rcases h with ⟨n, _⟩ | ⟨_, h⟩
    · exact absurd n e
    · exact hr.run false pins s' σ H D (V.str y) _ I' ⟨tk, rfl⟩ h
/-- case ["a" | "b", x, y]: -/
def tMA (K : PySem.W.Frag) (zs : List Str) (n : Nat) (js : List Nat) (tb : TS) (t : TM) : TM := fun v D σ H => ∃ a y r, v = .ref a ∧ SqT K H a (.str y :: r) ∧
  ((r.length = n ∧ y ∈ zs ∧ tb D (setAll σ js r) H) ∨ (¬ (r.length = n ∧ y ∈ zs) ∧ t v D σ H))
theorem seq_fit {n : Nat} (h : n ≤ sizeLine) : (n : Int) < 2 ^ 63 := by
  rw [sizeLine_eq] at h
  omega
theorem pms_seq (hN : X.N.Nodup) (hc : X.calm = true) (hp : StrPat p0 zs) (hcap : Caps caps xs) (hs : SlotsOk X xs js) (hb : PSs X body tb) (hr : PMs X cs t) :
    PMs X (⟨.MatchSequence (p0 :: caps) pos, none, body⟩ :: cs) (tMA X.K zs xs.length js tb t) := by
  refine ⟨fun first pins s σ H D v u I r h => ?_⟩
  obtain ⟨a, y, rs, rfl, hq, h⟩ := h
  cases r
  obtain ⟨its, rv, ht, hz⟩ := I.tuple hq
  cases rv with
  | @cons _ u0 _ us r1 r2 =>
    obtain ⟨tk, rfl⟩ := r1
    have hlen := r2.length
    have hfit : (((Value.str y tk :: us).toArray.size : Nat) : Int) < 2 ^ 63 := seq_fit (by simpa [← hlen] using hz)
    have hst : (p0 :: caps).findIdx? (·.isStar) = none := by
      rw [List.findIdx?_cons, hp.notStar.1, hcap.nostar]
      rfl
    have hwild : ((p0 :: caps).all fun p => p.isWildcard || (p.isStar && p.names.isEmpty)) = false := by
      simp [hp.notStar.1, hp.notStar.2]
    have hcl := hcap.length
    by_cases hl : rs.length = xs.length
    · have hsz : (Value.str y tk :: us).toArray.size = (p0 :: caps).length := by
        simp only [List.size_toArray, List.length_cons]; omega
      refine wpAny_matchCases_cons (matchSeq_tuple_hit ht hfit hsz ?_ hst hwild)
      rw [← hsz]
      refine unpackItems_tuple (I.ok.hd hc) ht fun h' hx => ?_
      have I1 : Inv X pins σ H { s with heap := h', toks := s.toks + 1 + 1 } := I.kept fun b o e => hx b o (Nat.ne_of_lt (Heap.lt_size e)) e
      show wpAny _ _ (matchEach (p0 :: caps) X.env (Value.str y tk :: us)) _ _ _
      refine wpAny_matchEach_cons (pat_run hp I1 fun s' I' => ?_) hp.notStar.1
      by_cases e : y ∈ zs
      · simp only [hit, if_pos e]
        rcases h with ⟨_, _, h⟩ | ⟨n, _⟩
        · refine each_run hcap (us := us) (by omega) ?_
          simp only [List.nil_append]
          exact bind_run hN hs (by omega) r2 I' fun s2 I2 => hb.run pins s2 _ H D I2 h
        · exact absurd ⟨hl, e⟩ n
      · simp only [hit, if_neg e]
        rcases h with ⟨_, n, _⟩ | ⟨_, h⟩
        · exact absurd n e
        · exact hr.run false pins s' σ H D (V.ref a) _ I' rfl h
    · refine wpAny_matchCases_cons (matchSeq_tuple_miss ht hfit (by simp only [List.size_toArray, List.length_cons]; omega) ?_ hst hwild)
      rcases h with ⟨n, _⟩ | ⟨_, h⟩
      · exact absurd n hl
      · exact hr.run false pins _ σ H D (V.ref a) _ (I.tok _) rfl h
/-- case ["a" | "b", x, *y]: -/
def tMB (K : PySem.W.Frag) (zs : List Str) (n : Nat) (js : List Nat) (tb : TS) (t : TM) : TM := fun v D σ H => ∃ a y r, v = .ref a ∧ SqT K H a (.str y :: r) ∧
  ((n ≤ r.length ∧ y ∈ zs ∧ ∀ p, H p = none → tb D (setAll σ js (r.take n ++ [.ref p])) (upd H p (.lst (r.drop n)))) ∨ (¬ (n ≤ r.length ∧ y ∈ zs) ∧ t v D σ H))
theorem pms_star (hN : X.N.Nodup) (hc : X.calm = true) (hp : StrPat p0 zs) (hcap : CapsS caps xs x) (hs : SlotsOk X (xs ++ [x]) js) (hb : PSs X body tb) (hr : PMs X cs t) :
    PMs X (⟨.MatchSequence (p0 :: caps) pos, none, body⟩ :: cs) (tMB X.K zs xs.length js tb t) := by
  refine ⟨fun first pins s σ H D v u I r h => ?_⟩
  obtain ⟨a, y, rs, rfl, hq, h⟩ := h
  cases r
  obtain ⟨its, rv, ht, hz⟩ := I.tuple hq
  cases rv with
  | @cons _ u0 _ us r1 r2 =>
    obtain ⟨tk, rfl⟩ := r1
    have hlen := r2.length
    have hz' : (Value.str y tk :: us).toArray.size ≤ sizeLine := by simpa [← hlen] using hz
    have hfit := seq_fit hz'
    have hcl := hcap.length
    obtain ⟨hst0, ps, hps⟩ := hcap.star
    have hst : (p0 :: caps).findIdx? (·.isStar) = some (xs.length + 1) := by
      rw [List.findIdx?_cons, hp.notStar.1, hst0]
      rfl
    have hwild : ((p0 :: caps).all fun p => p.isWildcard || (p.isStar && p.names.isEmpty)) = false := by
      simp [hp.notStar.1, hp.notStar.2]
    have hname : ((p0 :: caps)[xs.length + 1]?.elim [] (·.names)).isEmpty = false := by
      simp [hps, Pattern.names]
    have h1 : (p0 :: caps).length > 1 := by simp only [List.length_cons]; omega
    by_cases hl : xs.length ≤ rs.length
    · have hsz : (p0 :: caps).length ≤ (Value.str y tk :: us).toArray.size + 1 := by
        simp only [List.size_toArray, List.length_cons]; omega
      refine wpAny_matchCases_cons (PySem.W.kun_seqT ht hfit hst hwild hname h1 hsz ?_)
      refine star_tup (s := { s with toks := s.toks + 1 + 1 }) ht (I.ok.hd hc) (by simp only [List.length_cons]; omega) hsz hz' fun h' tk' hk => ?_
      have I1 : Inv X pins σ H { s with heap := h', toks := tk' } := I.kept hk
      have ed : (Value.str y tk :: us).toArray.size + 1 - (p0 :: caps).length = us.length - xs.length := by
        simp only [List.size_toArray, List.length_cons]; omega
      have e2 : ((Value.str y tk :: us).toArray.toList.drop (xs.length + 1)) = us.drop xs.length := by simp
      rw [ed, e2]
      have e3 : (us.drop xs.length).take (us.length - xs.length) = us.drop xs.length := List.take_of_length_le (by simp)
      have e4 : (us.drop xs.length).drop (us.length - xs.length) = [] := List.drop_eq_nil_of_le (by simp)
      rw [e3, e4, List.append_nil]
      have e5 : (Value.str y tk :: us).toArray.toList.take (xs.length + 1) ++ [Value.ref h'.objs.size] = Value.str y tk :: (us.take xs.length ++ [Value.ref h'.objs.size]) := by simp
      rw [e5]
      have hf : H h'.objs.size = none := I1.hok.fresh (Nat.le_refl _)
      have hzd : (rs.drop xs.length).length ≤ sizeLine := by
        rw [List.length_drop]
        simp only [List.length_cons] at hz
        omega
      have rd : Vals (rs.drop xs.length) (us.drop xs.length) := L2.Vals.drop _ r2
      have I2 : Inv X pins σ (upd H h'.objs.size (.lst (rs.drop xs.length))) { s with heap := h'.push { cls := .type "list", data := .seq (us.drop xs.length).toArray }, toks := tk' } :=
        I1.laid (s := { s with heap := h', toks := tk' }) (fun b o e => Heap.get?_push_of_some _ e) (Nat.le_refl _) ⟨hzd, _, _, rd, Heap.get?_push_size _ rfl⟩
      have I3 : Inv X pins σ H { s with heap := h'.push { cls := .type "list", data := .seq (us.drop xs.length).toArray }, toks := tk' } :=
        I1.kept (s := { s with heap := h', toks := tk' }) fun b o e => Heap.get?_push_of_some _ e
      by_cases e : y ∈ zs
      · refine wpAny_matchEach_cons (pat_run hp I2 fun s' I' => ?_) hp.notStar.1
        simp only [hit, if_pos e]
        rcases h with ⟨_, _, h⟩ | ⟨n, _⟩
        · refine eachS_run hcap (by simp only [List.length_append, List.length_take, List.length_singleton]; omega) ?_
          simp only [List.nil_append]
          have rt : Vals (rs.take xs.length ++ [V.ref h'.objs.size]) (us.take xs.length ++ [Value.ref h'.objs.size]) := L2.Vals.append (L2.Vals.take _ r2) (.cons rfl .nil)
          exact bind_run hN hs (by simp only [List.length_append, List.length_take, List.length_singleton]; omega) rt I' fun s2 I2 => hb.run pins s2 _ _ D I2 (h _ hf)
        · exact absurd ⟨hl, e⟩ n
      · refine wpAny_matchEach_cons (pat_run hp I3 fun s' I' => ?_) hp.notStar.1
        simp only [hit, if_neg e]
        rcases h with ⟨_, n, _⟩ | ⟨_, h⟩
        · exact absurd n e
        · exact hr.run false pins s' σ H D (V.ref a) _ I' rfl h
    · refine wpAny_matchCases_cons (PySem.W.kun_fewT ht hfit hst h1 (by simp only [List.size_toArray, List.length_cons]; omega) ?_)
      rcases h with ⟨n, _⟩ | ⟨_, h⟩
      · exact absurd n hl
      · exact hr.run false pins _ σ H D (V.ref a) _ (I.tok _) rfl h
end
end K8
/-! What all defs of this program lean on: the text by places, a def by its name, the module's names. -/
namespace K8
open PySem PySem.Spec L2 Evl
open PyProof.Rows hiding St

abbrev Row : PySem.W.OpenLaw := PySem.Challenge.rw_handedworld_k08_whole_texts_there_and_ba
def top (i : Nat) : Stmt := PySem.Challenge.pw_handedworld_k08_whole_texts_there_and_ba.main.body.getD i (.Pass ⟨0, 0, 0, 0⟩)

/-- a def of the module by its name -/
structure Dfn (K : PySem.W.Frag) (mg : Str → Option Value) (x : Str) (st : Stmt) (ps : List Str) : Prop where
  ex : ∃ (f : Addr) (fd : FuncData), L2.Fun K x x st f fd ∧ mg x = some (.ref f) ∧ Binds K fd ps []
/-- .. that may be called -/
structure Cal (P : Program) (w : World) (K : PySem.W.Frag) (mg : Str → Option Value) (base : Heap) (k : Nat) (x : Str) (sp : Sp) : Prop where
  ex : ∃ (f : Addr) (fd : FuncData) (ps : List Str), FnOk P w K mg base L2.CX0 k f fd ps sp ∧ mg x = some (.ref f) ∧ PySem.W.keepIn K (.ref f) = true ∧ Binds K fd ps []
section
variable {P : Program} {w : World} {K : PySem.W.Frag} {mg : Str → Option Value} {base : Heap}
theorem Dfn.cal {x : Str} {st : Stmt} {N ps : List Str} {k : Nat} {sp : Sp} (D : Dfn K mg x st ps) (S : C8.scC N ps (defScope st) = true) (len : ∀ vs H Q E, sp vs H Q E → vs.length = ps.length)
    (hbody : ∀ (f : Addr) (cdv : Value) (A : Around) (outer : List Env) (s : Shared) (H : Hp) (vs : List V) (Q : VK) (E : XK), Room k (A.deeper (envOfC x (defScope st) s.heap.objs.size f cdv)) → N.Nodup → sp vs H Q E →
      ∃ t, PSs (cxOf L2.CX0 P w K mg base N x (defScope st) f cdv A outer s H E).nox (defBody st) t ∧ t { nx := fun _ H' => Q .non H', rt := Q } (start N vs) H) : Cal P w K mg base (k + 1) x sp := by
  obtain ⟨f, fd, F, m, b⟩ := D.ex
  have sc := C8.fnScope_by S
  exact ⟨f, fd, ps, F.ok sc len fun cdv A outer s H vs Q E hr h => hbody f cdv A outer s H vs Q E hr sc.nd h, m, F.kp, b⟩
theorem Cal.mono {x : Str} {k j : Nat} {sp : Sp} (c : Cal P w K mg base k x sp) (h : k ≤ j) : Cal P w K mg base j x sp := by
  obtain ⟨f, fd, ps, F, m, kp, b⟩ := c.ex
  exact ⟨f, fd, ps, F.mono h, m, kp, b⟩
theorem Cal.imp {x : Str} {k : Nat} {sp sp' : Sp} (c : Cal P w K mg base k x sp) (h : ∀ vs H Q E, sp' vs H Q E → sp vs H Q E) : Cal P w K mg base k x sp' := by
  obtain ⟨f, fd, ps, F, m, kp, b⟩ := c.ex
  exact ⟨f, fd, ps, F.imp h, m, kp, b⟩
end
section
variable {X : Cx} {k j : Nat} {x : Str} {sp : Sp} {p pos : Pos} {e : Expr} {es : List Expr} {t : TA}
theorem pe_c (c : Cal X.prog X.w X.K X.mg X.base k x sp) (hr : Room j X.A) (hk : k ≤ j) (ha : PA X (e :: es) t) (hg : Gl X x := by rfl)
    (hdb : (x == ("__debug__" : Str)) = false := by decide) (he : starEach (e :: es) X.env = (false, eval e X.env) :: starEach es X.env := by rfl) (hpl : (backTo pos (starEach es X.env)).any (·.1) = false := by rfl) :
    PE X (.Call (.Name x p) (e :: es) [] pos) (tCall sp [] E0 t) := by
  obtain ⟨f, fd, ps, F, hm, kp, b⟩ := c.ex
  exact pe_call F (hr.mono hk) hg hm kp b .nil pass0 ha hdb he hpl
end

/-- the module's names that the defs lean on -/
structure Txt (K : PySem.W.Frag) (mg : Str → Option Value) : Prop where
  len : mg "len" = none
  all : mg "all" = none
  isinstance : mg "isinstance" = none
  zip : mg "zip" = none
  int : mg "int" = none
  bool : mg "bool" = none
  str : mg "str" = none
  tuple : mg "tuple" = none
  list : mg "list" = none
  set : mg "set" = none
  sorted : mg "sorted" = none
  range : mg "range" = none
  enumerate : mg "enumerate" = none
  max : mg "max" = none
  min : mg "min" = none
  abs : mg "abs" = none
  LETTERS : ∃ u, mg "LETTERS" = some u ∧ RelV (.str "abcdefghijklmnopqrstuvwxyz") u
  DIGITS : ∃ u, mg "DIGITS" = some u ∧ RelV (.str "0123456789") u
  MAX_LETTERS : ∃ u, mg "MAX_LETTERS" = some u ∧ RelV (.int 8) u
  MAX_PARAMETERS : ∃ u, mg "MAX_PARAMETERS" = some u ∧ RelV (.int 3) u
  MAX_DEPTH : ∃ u, mg "MAX_DEPTH" = some u ∧ RelV (.int 6) u
  MAX_TERMS : ∃ u, mg "MAX_TERMS" = some u ∧ RelV (.int 40) u
  MAX_MODES : ∃ u, mg "MAX_MODES" = some u ∧ RelV (.int 3) u
  MAIN : ∃ u, mg "MAIN" = some u ∧ RelV (.str "main") u
  MAX_PROCEDURES : ∃ u, mg "MAX_PROCEDURES" = some u ∧ RelV (.int 10) u
  MAX_SIGNALS : ∃ u, mg "MAX_SIGNALS" = some u ∧ RelV (.int 2) u
  MAX_DIGITS : ∃ u, mg "MAX_DIGITS" = some u ∧ RelV (.int 40) u
  MAX_BRACKETS : ∃ u, mg "MAX_BRACKETS" = some u ∧ RelV (.int 12) u
  BARE : ∃ a, mg "BARE" = some (.ref a) ∧ ∀ H, SqT K H a [.str "do", .str "run", .str "exit", .str "raise"]
theorem boot_isinstance : bootBuiltins "isinstance" = some (.builtin "isinstance") := by decide +kernel
theorem boot_all : bootBuiltins "all" = some (.builtin "all") := by decide +kernel
theorem boot_zip : bootBuiltins "zip" = some (.type "zip") := by decide +kernel
theorem boot_bool : bootBuiltins "bool" = some (.type "bool") := by decide +kernel
theorem boot_str : bootBuiltins "str" = some (.type "str") := by decide +kernel
theorem boot_tuple : bootBuiltins "tuple" = some (.type "tuple") := by decide +kernel
theorem boot_list : bootBuiltins "list" = some (.type "list") := by decide +kernel
theorem boot_int : bootBuiltins "int" = some (.type "int") := by decide +kernel
section
variable {X : Cx} {K : PySem.W.Frag} {H : Hp}
theorem ty_int (i : Int) : TyX K H (.int i) (.type "int") := .base (.int i)
theorem ty_str (x : Str) : TyX K H (.str x) (.type "str") := .base (.str x)
theorem ty_non : TyX K H .non (.type "NoneType") := .base .non
theorem ty_sqT {a : Addr} {xs : List V} (h : SqT K H a xs) : TyX K H (.ref a) (.type "tuple") := by
  rcases h with (h | ⟨o, h⟩) | ⟨o, its, n, hk, hc, _⟩
  · exact .base (.tup h)
  · exact .fTuple h
  · exact .kTuple hk hc
theorem ty_sqL {a : Addr} {xs : List V} (h : SqL K H a xs) : TyX K H (.ref a) (.type "list") := by
  rcases h with (h | ⟨o, h⟩) | ⟨o, its, n, hk, hc, _⟩
  · exact .base (.lst h)
  · exact .base (.frz h)
  · exact .kList hk hc
theorem pe_ty {x : Str} {n : String} {pos : Pos} (hm : X.mg x = none) (hv : bootBuiltins x = some (.type n)) (hg : Gl X x := by rfl) (hn : x ≠ "__name__" := by decide) (hd : (x == ("__debug__" : Str)) = false := by decide) : PE X (.Name x pos) (tC (.ty n)) := pe_bltn hg hm hv rfl hn hd
/-- isinstance(x, T) of a built-in class, told -/
theorem isi_yes {x : V} {a b : String} {r : Bool} {Q : VK} (ty : TyX K H x (.type a)) (h : kitB a b = some r) (q : Q (.bl r) H) : rIsi K [x, .ty b] H Q := ⟨x, .ty b, _, _, r, rfl, .ty b, ty, kit_ty h, q⟩
end
theorem kb_int_int : kitB "int" "int" = some true := by decide +kernel
theorem kb_int_bool : kitB "int" "bool" = some false := by decide +kernel
theorem kb_str_str : kitB "str" "str" = some true := by decide +kernel
theorem kb_tuple_tuple : kitB "tuple" "tuple" = some true := by decide +kernel
theorem kb_list_list : kitB "list" "list" = some true := by decide +kernel
theorem kb_list_str : kitB "list" "str" = some false := by decide +kernel
theorem kb_none_str : kitB "NoneType" "str" = some false := by decide +kernel
theorem kb_str_list : kitB "str" "list" = some false := by decide +kernel

end K8
/-! t[lo:hi] that is the whole of t. -/
namespace K8
open PySem PySem.Spec L2 HT
open PyProof.Rows hiding St
section
variable {prog : Program} {w : World} {A : Around} {E : Value → Shared → Prop} {s : Shared}
theorem getItem_tuple_whole {t sl : Addr} {items : Array Value} {vl vu : Value} {lo hi : Option Int} {Q : Value → Shared → Prop} (ht : IsTup s.heap t items) (hs : s.heap.IsSliceOf sl vl vu .none) (pl : IsPart vl lo) (pu : IsPart vu hi)
    (hw : sIx items.size 0 lo = 0 ∧ sIx items.size items.size hi = items.size) (h : Q (.ref t) s) : wpAny (model prog w) A (getItem (.ref t) (.ref sl)) Q E s := by
  obtain ⟨os, hos, hcs, hds⟩ := id hs
  have hTs : s.TypeIs (.ref sl) "slice" := ⟨os, hos, hcs⟩
  unfold getItem
  try with_reducible refine wpAny_holding ?_
  first | refine wpAny_bind (wpAny_pure ?_) | skip
  refine wpAny_bind (wpAny_sequenceKey ht.typeIs (by decide) ?_)
  refine wpAny_bind (wpAny_callSpecial?_slot (name := Str.ofString "__getitem__") ht.typeIs PyProof.Rows.slot_tuple_getitem
    (wpAny_call_entry PyProof.Rows.slot_tuple_getitem ht.typeIs entry_tuple_getitem ?_ (args_tuple_getitem _ _)))
  show wpAny _ _ (Builtin.Tuple.tupleItemsOf (.ref t) >>= _) _ _ s
  refine wpAny_bind (tupleItemsOf_ ht ?_)
  refine wpAny_bind (wpAny_typeOf hTs ?_)
  rw [if_pos (by decide)]
  refine wpAny_bind (sliceApplied_gen hs pl pu ?_)
  have hyes : ((((sIx items.size 0 lo : Nat) : Int) == 0 && (1 : Int) == 1 && (sIx items.size items.size hi - sIx items.size 0 lo) == items.size) = true) := by
    rw [hw.1, hw.2]
    simp
  show wpAny _ _ (if (((sIx items.size 0 lo : Nat) : Int) == 0 && (1 : Int) == 1 && (sIx items.size items.size hi - sIx items.size 0 lo) == items.size) = true then _ else _) _ _ s
  rw [if_pos hyes]
  show wpAny _ _ (Builtin.Tuple.tupleIsExact (.ref t) >>= _) _ _ s
  unfold Builtin.Tuple.tupleIsExact
  refine wpAny_bind (wpAny_bind (wpAny_typeOf ht.typeIs (wpAny_pure ?_)))
  rw [if_pos (by decide)]
  refine wpAny_bind (wpAny_rule ?_)
  first
    | exact wpAny_bind (wpAny_pure (wpAny_pure ⟨_, rfl, wpAny_pure h⟩))
    | exact wpAny_pure ⟨_, rfl, wpAny_pure h⟩
end
section
variable {X : Cx}
def rSlTW (K : PySem.W.Frag) : V → Option Int → Option Int → Hp → VK → Prop := fun x lo hi H Q => ∃ a xs, x = .ref a ∧ SqT K H a xs ∧ (sIx xs.length 0 lo = 0 ∧ sIx xs.length xs.length hi = xs.length) ∧ Q (.ref a) H
theorem sl_tupW : SlR X (rSlTW X.K) := by
  intro pins s σ H x v vl vu lo hi sl Q I rx hs pl pu h
  obtain ⟨a, xs, rfl, hx, hw, q⟩ := h
  cases rx
  obtain ⟨its, r, ht, hz⟩ := I.tuple hx
  have hlen : its.toArray.size = xs.length := by rw [List.size_toArray]; exact r.length.symm
  refine ⟨"tuple", _, PyProof.Rows.slot_tuple_getitem.lookup, ht.typeIs, ?_⟩
  exact getItem_tuple_whole ht hs pl pu (by rw [hlen]; exact hw) ⟨.ref a, H, I, rfl, q⟩
end
end K8
/-! Readings step by step: one lemma a combinator, each leaving what follows. -/
namespace K8
open PySem PySem.Spec L2 Evl
open PyProof.Rows hiding St
section
variable {K : PySem.W.Frag} {σ : L2.St} {H : Hp} {ta tb tc te : TE} {t u c : TT} {ts tr : TA} {Q : VK} {QB : Bool → Hp → Prop} {QL : List V → Hp → Prop} {D : Ends} {sa sb : TS} {v x y : V} {i : Nat}
theorem r_var (h : σ[i]? = some (some v)) (q : Q v H) : tVar i σ H Q := ⟨v, h, q⟩
theorem r_c (q : Q v H) : tC v σ H Q := q
theorem r_nil (q : QL [] H) : tNil σ H QL := q
theorem r_cons (q : ta σ H fun x H1 => ts σ H1 fun xs H2 => QL (x :: xs) H2) : tCons ta ts σ H QL := q
theorem r_star (q : ta σ H fun x H1 => ∃ p xs, x = V.ref p ∧ (SqT K H1 p xs ∨ SqL K H1 p xs) ∧ ts σ H1 fun ys H2 => QL (xs ++ ys) H2) : StX.tStar K ta ts σ H QL := q
theorem r_cb {r : List V → Hp → VK → Prop} (q : ts σ H fun vs H1 => r vs H1 Q) : tCB r ts σ H Q := q
theorem r_call {sp : Sp} {E : XK} (q : ts σ H fun vs H1 => sp vs H1 Q E) : tCall sp [] E ts σ H Q := by
  show ts σ H fun vs H1 => sp (vs ++ []) H1 Q E
  have e : (fun vs H1 => sp (vs ++ []) H1 Q E) = fun vs H1 => sp vs H1 Q E := by
    funext vs H1
    rw [List.append_nil]
  rw [e]
  exact q
theorem r_ret (q : te σ H D.rt) : tRet te D σ H := q
theorem r_drop (q : te σ H fun _ H1 => D.nx σ H1) : tDrop te D σ H := q
theorem r_seq (q : sa { D with nx := sb D } σ H) : tSeq sa sb D σ H := q
theorem r_next (q : D.nx σ H) : tNext D σ H := q
theorem r_asg {g : TG} (q : te σ H fun x H1 => g x σ H1 D.nx) : tAsg te g D σ H := q
theorem r_name {QS : L2.St → Hp → Prop} (q : QS (σ.set i (some v)) H) : gName i v σ H QS := q
theorem r_ifS (q : t σ H fun b H1 => if b = true then sa D σ H1 else sb D σ H1) : tIfS t sa sb D σ H := q
theorem r_ifE (q : t σ H fun b H1 => if b = true then ta σ H1 Q else tb σ H1 Q) : tIf t ta tb σ H Q := q
theorem r_op {r : R2} (q : ta σ H fun x H1 => tb σ H1 fun y H2 => r x y H2 Q) : tOp r ta tb σ H Q := q
theorem r_un {r : V → Hp → VK → Prop} (q : ta σ H fun x H1 => r x H1 Q) : tUn r ta σ H Q := q
theorem r_test (q : te σ H fun x H' => ∃ k, x = .bl k ∧ QB k H') : tTest te σ H QB := q
theorem r_B (q : te σ H fun x H' => ∃ k, x = .bl k ∧ QB k H') : tB te σ H QB := q
theorem r_and (q : t σ H fun b H1 => if b = true then u σ H1 QB else QB false H1) : tAnd t u σ H QB := q
theorem r_or (q : t σ H fun b H1 => if b = true then QB true H1 else u σ H1 QB) : tOr t u σ H QB := q
theorem r_not (q : t σ H fun b H1 => QB (!b) H1) : tNot t σ H QB := q
theorem r_andV (q : ta σ H fun x H1 => ∃ b, x = .bl b ∧ if b = true then tb σ H1 Q else Q (.bl false) H1) : tAndV ta tb σ H Q := q
theorem r_orV (q : ta σ H fun x H1 => ∃ b, x = .bl b ∧ if b = true then Q (.bl true) H1 else tb σ H1 Q) : tOrV ta tb σ H Q := q
theorem r_notV (q : ta σ H fun x H1 => ∃ b, x = .bl b ∧ Q (.bl (!b)) H1) : tNotV ta σ H Q := q
theorem r_chain {r r' : R2} (q : ta σ H fun x H1 => tb σ H1 fun y H2 => r x y H2 fun z H3 => ∃ k, z = .bl k ∧ (if k = true then tc σ H3 fun w' H4 => r' y w' H4 Q else Q (.bl false) H3)) : tChain r r' ta tb tc σ H Q := q
theorem r_bl {b : Bool} {P : Bool → Prop} (q : P b) : ∃ k, V.bl b = .bl k ∧ P k := ⟨b, rfl, q⟩
theorem r_tup (q : ts σ H fun xs H1 => xs.length ≤ sizeLine ∧ ∀ p, H1 p = none → Q (.ref p) (upd H1 p (.tup xs))) : tTup ts σ H Q := q
theorem r_lst (q : ts σ H fun xs H1 => xs.length ≤ sizeLine ∧ ∀ p, H1 p = none → Q (.ref p) (upd H1 p (.lst xs))) : tLst ts σ H Q := q
theorem r_isi {a b : String} {r : Bool} (ty : TyX K H x (.type a)) (h : kitB a b = some r) (q : Q (.bl r) H) : rIsi K [x, .ty b] H Q := isi_yes ty h q
theorem r_I0 {g : Int → Int → V} {a b : Int} (q : Q (g a b) H) : rI0 g (.int a) (.int b) H Q := ⟨a, b, rfl, rfl, q⟩
theorem r_I {C : Int → Int → Prop} {g : Int → Int → V} {a b : Int} (h : C a b) (q : Q (g a b) H) : rI C g (.int a) (.int b) H Q := ⟨a, b, rfl, rfl, h, q⟩
theorem r_eq (h : scal x y = true) (q : Q (.bl (decide (x = y))) H) : rEq x y H Q := ⟨h, q⟩
theorem r_ne (h : scal x y = true) (q : Q (.bl (!decide (x = y))) H) : rNe x y H Q := ⟨h, q⟩
theorem r_ixL {p : Addr} {xs : List V} {j : Int} (h : SqL K H p xs) (a : atI xs j = some v) (q : Q v H) : rIxL K (.ref p) (.int j) H Q := ⟨p, xs, j, v, rfl, rfl, h, a, q⟩
theorem r_ixT {p : Addr} {xs : List V} {j : Int} (h : SqT K H p xs) (a : atI xs j = some v) (q : Q v H) : rIxT K (.ref p) (.int j) H Q := ⟨p, xs, j, v, rfl, rfl, h, a, q⟩
theorem r_at0 {a : V} {xs : List V} : atI (a :: xs) 0 = some a := by
  have h : (a :: xs)[0]? = some a := rfl
  exact atI_nat (j := 0) h
theorem r_at1 {a b : V} {xs : List V} : atI (a :: b :: xs) 1 = some b := by
  have h : (a :: b :: xs)[1]? = some b := rfl
  exact atI_nat (j := 1) h
theorem r_at2 {a b d : V} {xs : List V} : atI (a :: b :: d :: xs) 2 = some d := by
  have h : (a :: b :: d :: xs)[2]? = some d := rfl
  exact atI_nat (j := 2) h
theorem r_lenL {p : Addr} {xs : List V} (h : SqL K H p xs) (q : Q (.int xs.length) H) : rLenS K [.ref p] H Q := ⟨p, xs, rfl, .inl h, q⟩
theorem r_lenT {p : Addr} {xs : List V} (h : SqT K H p xs) (q : Q (.int xs.length) H) : rLenS K [.ref p] H Q := ⟨p, xs, rfl, .inr h, q⟩
theorem r_true {A B : Prop} (q : A) : if true = true then A else B := iteT q
theorem r_false {A B : Prop} (q : B) : if false = true then A else B := iteF q
theorem r_ntrue {A B : Prop} (q : B) : if (!true) = true then A else B := iteF q
theorem r_nfalse {A B : Prop} (q : A) : if (!false) = true then A else B := iteT q
theorem r_yes {p A B : Prop} [Decidable p] (h : p) (q : A) : if decide p = true then A else B := by
  rw [decide_eq_true h]
  exact iteT q
theorem r_no {p A B : Prop} [Decidable p] (h : ¬ p) (q : B) : if decide p = true then A else B := by
  rw [decide_eq_false h]
  exact iteF q
theorem r_nyes {p A B : Prop} [Decidable p] (h : p) (q : B) : if (!decide p) = true then A else B := by
  rw [decide_eq_true h]
  exact iteF q
theorem r_nno {p A B : Prop} [Decidable p] (h : ¬ p) (q : A) : if (!decide p) = true then A else B := by
  rw [decide_eq_false h]
  exact iteT q
theorem r_iStr {R : It → Hp → Prop} (q : te σ H fun v H1 => ∃ x, v = .str x ∧ R (Its x) H1) : iStr te σ H R := q
theorem r_iList {R : It → Hp → Prop} (q : te σ H fun x H1 => ∃ a, x = .ref a ∧ (∃ xs, SqL K H1 a xs) ∧ R (Itl K a) H1) : iList K te σ H R := q
theorem r_iTup {R : It → Hp → Prop} (q : te σ H fun x H1 => ∃ a, x = .ref a ∧ (∃ xs, SqT K H1 a xs) ∧ R (Itt K a) H1) : iTup K te σ H R := q
theorem r_iZip {R : It → Hp → Prop} (q : ts σ H fun vs H1 => ∃ a b xs ys, vs = [.ref a, .ref b] ∧ ((SqL K H1 a xs ∧ SqL K H1 b ys ∧ R (Itz K a b) H1) ∨ (SqT K H1 a xs ∧ SqT K H1 b ys ∧ R (RZ.ItzT K a b) H1))) : RZ.iZipA K ts σ H R := q
theorem r_sl {r : V → Option Int → Option Int → Hp → VK → Prop} {tl th : TO} (q : te σ H fun x H1 => tl σ H1 fun l H2 => th σ H2 fun u H3 => r x l u H3 Q) : tSl r te tl th σ H Q := q
theorem r_part {QO : Option Int → Hp → Prop} (q : te σ H fun x H1 => ∃ i, x = .int i ∧ QO (some i) H1) : tPart te σ H QO := q
theorem r_nopart {QO : Option Int → Hp → Prop} (q : QO none H) : tNoPart σ H QO := q
theorem r_int {i : Int} {P : Int → Prop} (q : P i) : ∃ k, V.int i = .int k ∧ P k := ⟨i, rfl, q⟩
theorem r_fld {f : Str} (q : ta σ H fun x H1 => ∃ a C dx fs v, x = .ref a ∧ H1 a = some (.ins C dx fs) ∧ Cls K C ∧ NoAttr K C f ∧ fs.lookup f = some v ∧ Q v H1) : tFld K ta f σ H Q := q
theorem r_bm {T : String} {r : V → List V → Hp → VK → Prop} (q : ta σ H fun x H1 => tyV K T x H1 ∧ ts σ H1 fun xs H2 => r x xs H2 Q) : tBM K T r ta ts σ H Q := q
theorem r_bm0 {T : String} {r : V → List V → Hp → VK → Prop} (q : ta σ H fun x H1 => tyV K T x H1 ∧ r x [] H1 Q) : tBM0 K T r ta σ H Q := q
theorem r_m1 {r : V → List V → Hp → VK → Prop} (q : ta σ H fun x H1 => (∃ a, x = .str a) ∧ tb σ H1 fun y H2 => r x [y] H2 Q) : tM1 r ta tb σ H Q := q
theorem r_match {s1 : TE} {tm : TM} (q : s1 σ H fun v H1 => tm v D σ H1) : (fun (D : Ends) (σ : L2.St) (H : Hp) => s1 σ H fun v H1 => tm v D σ H1) D σ H := q
end

theorem call_lenS {X : Cx} : CallR X (.builtin "len") (rLenS X.K) := call_len_seq
/-! ### what stays while lists grow: all but lists, dicts, sets -/
def stays : HO → Bool
  | .tup _ => true | .frz _ (.tup _) => true
  | _ => false
def Kx (H H' : Hp) : Prop := ∀ a u, H a = some u → stays u = true → H' a = some u
theorem Kx.refl (H : Hp) : Kx H H := fun _ _ h _ => h
theorem Kx.trans {H H1 H2 : Hp} (a : Kx H H1) (b : Kx H1 H2) : Kx H H2 := fun x o h s => b x o (a x o h s) s
theorem Kx.of {H H' : Hp} (e : Ex H H') : Kx H H' := fun a u h _ => e a u h
theorem Kx.upd {H : Hp} {p : Addr} {o u : HO} (h : H p = some o) (hs : stays o = false) : Kx H (upd H p u) := fun a v ha s => by
  have ne : a ≠ p := fun e => by
    subst e
    rw [h] at ha
    cases ha
    rw [hs] at s
    cases s
  rw [upd_ne ne]
  exact ha
theorem kx_t {K : PySem.W.Frag} {H H' : Hp} {a : Addr} {xs : List V} (e : Kx H H') (h : SqT K H a xs) : SqT K H' a xs := by
  rcases h with (h | ⟨o, h⟩) | h
  · exact .inl (.inl (e _ _ h rfl))
  · exact .inl (.inr ⟨o, e _ _ h rfl⟩)
  · exact .inr h
mutual
/-- data without lists -/
def noL : PyData → Bool
  | .list _ => false
  | .dict _ => false
  | .tuple ds => noLs ds
  | _ => true
def noLs : List PyData → Bool
  | [] => true
  | d :: ds => noL d && noLs ds
end
mutual
theorem Dp.kx {K : PySem.W.Frag} {H H' : Hp} (e : Kx H H') : ∀ (d : PyData) (v : V), Dp K H v d → noL d = true → Dp K H' v d
  | .none, _, h, _ => by cases h; exact .non
  | .bool b, _, h, _ => by cases h; exact .bl b
  | .int i, _, h, _ => by cases h; exact .int i
  | .str x, _, h, _ => by cases h; exact .str x
  | .tuple ds, _, h, n => by
    cases h with
    | tup hs ha => exact .tup (kx_t e hs) (DpAll.kx e ds _ ha n)
theorem DpAll.kx {K : PySem.W.Frag} {H H' : Hp} (e : Kx H H') : ∀ (ds : List PyData) (vs : List V), DpAll K H vs ds → noLs ds = true → DpAll K H' vs ds
  | [], _, h, _ => by cases h; exact .nil
  | d :: ds, _, h, n => by
    cases h with
    | cons h1 h2 =>
      have n' : (noL d && noLs ds) = true := n
      rw [Bool.and_eq_true] at n'
      exact .cons (Dp.kx e d _ h1 n'.1) (DpAll.kx e ds _ h2 n'.2)
end
mutual
theorem Dp.ex {K : PySem.W.Frag} {H H' : Hp} (e : Ex H H') : ∀ (d : PyData) (v : V), Dp K H v d → Dp K H' v d
  | .none, _, h => by cases h; exact .non
  | .bool b, _, h => by cases h; exact .bl b
  | .int i, _, h => by cases h; exact .int i
  | .str x, _, h => by cases h; exact .str x
  | .list ds, _, h => by
    cases h with
    | lst hs ha => exact .lst (ex_l e hs) (DpAll.ex e ds _ ha)
  | .tuple ds, _, h => by
    cases h with
    | tup hs ha => exact .tup (ex_t e hs) (DpAll.ex e ds _ ha)
theorem DpAll.ex {K : PySem.W.Frag} {H H' : Hp} (e : Ex H H') : ∀ (ds : List PyData) (vs : List V), DpAll K H vs ds → DpAll K H' vs ds
  | [], _, h => by cases h; exact .nil
  | d :: ds, _, h => by
    cases h with
    | cons h1 h2 => exact .cons (Dp.ex e d _ h1) (DpAll.ex e ds _ h2)
end
theorem _root_.L2.DpAll.len {K : PySem.W.Frag} {H : Hp} {vs : List V} : ∀ {ds : List PyData}, DpAll K H vs ds → vs.length = ds.length := by
  intro ds
  induction ds generalizing vs with
  | nil => intro h; cases h; rfl
  | cons d ds ih =>
    intro h
    cases h with
    | cons h1 h2 => exact congrArg (· + 1) (ih h2)
theorem _root_.L2.DpAll.at {K : PySem.W.Frag} {H : Hp} {vs : List V} {ds : List PyData} (h : DpAll K H vs ds) : ∀ {i : Nat} {v : V}, vs[i]? = some v → ∃ d, ds[i]? = some d ∧ Dp K H v d := by
  induction ds generalizing vs with
  | nil =>
    cases h
    intro i v e
    simp at e
  | cons d ds ih =>
    cases h with
    | cons h1 h2 =>
      intro i v e
      cases i with
      | zero => exact ⟨d, rfl, by cases (show some _ = some v from e); exact h1⟩
      | succ i => exact ih h2 e
theorem dpa_strs {K : PySem.W.Frag} {H : Hp} : ∀ (zs : List Str), DpAll K H (zs.map V.str) (zs.map PyData.str)
  | [] => .nil
  | z :: zs => .cons (.str z) (dpa_strs zs)
theorem dpa_strs_eq {K : PySem.W.Frag} {H : Hp} : ∀ {zs : List Str} {vs : List V}, DpAll K H vs (zs.map PyData.str) → vs = zs.map V.str
  | [], _, h => by cases h; rfl
  | z :: zs, _, h => by
    cases h with
    | cons h1 h2 =>
      cases h1
      rw [dpa_strs_eq h2]
      rfl

/-! ### what is walked -/
structure Over (J : It) (n : Nat) (G : Hp → Prop) (Y : Nat → V → Hp → Prop) : Prop where
  go : ∀ i H, G H → i < n → J.go i H
  stop : ∀ i H, G H → n ≤ i → J.stop i H
  yld : ∀ i H x H', G H → i < n → J.yld i H x H' → Ex H H' ∧ Y i x H'
section
variable {K : PySem.W.Frag} {a b : Addr} {xs ys : List V}
theorem over_list : Over (Itl K a) xs.length (fun H => SqL K H a xs) (fun i x _ => xs[i]? = some x) :=
  ⟨fun i _ h hi => ⟨xs, xs[i], h, by simp [hi]⟩, fun _ _ h hi => ⟨xs, h, hi⟩, fun _ _ _ _ h _ ⟨e, y⟩ => by subst e; exact ⟨Ex.refl _, y xs h⟩⟩
theorem over_tup : Over (Itt K a) xs.length (fun H => SqT K H a xs) (fun i x _ => xs[i]? = some x) :=
  ⟨fun i _ h hi => ⟨xs, xs[i], h, by simp [hi]⟩, fun _ _ h hi => ⟨xs, h, hi⟩, fun _ _ _ _ h _ ⟨e, y⟩ => by subst e; exact ⟨Ex.refl _, y xs h⟩⟩
theorem over_str {z : Str} : Over (Its z) z.cps.size (fun _ => True) (fun i x _ => ∃ c, z.cps[i]? = some c ∧ x = .str ⟨#[c]⟩) :=
  ⟨fun _ _ _ hi => hi, fun _ _ _ hi => hi, fun _ _ _ _ _ _ ⟨e, y⟩ => by subst e; exact ⟨Ex.refl _, y⟩⟩
theorem over_range {lo : Int} {n : Nat} : Over (Itr lo n) n (fun _ => True) (fun i x _ => x = .int (lo + i)) :=
  ⟨fun _ _ _ hi => hi, fun _ _ _ hi => hi, fun _ _ _ _ _ _ ⟨e, y⟩ => by subst e; exact ⟨Ex.refl _, y⟩⟩
theorem over_enum : Over (Ite K a) xs.length (fun H => SqL K H a xs) (fun i v H' => ∃ T x, v = .ref T ∧ H' T = some (.tup [.int (i : Nat), x]) ∧ xs[i]? = some x) :=
  ⟨fun i _ h hi => ⟨xs, xs[i], h, by simp [hi]⟩, fun _ _ h hi => ⟨xs, h, hi⟩, fun _ _ _ _ h _ ⟨T, x, e1, e2, e3, y⟩ => by subst e3; exact ⟨Ex.new e2, T, x, e1, upd_same, y xs h⟩⟩
theorem over_zipL : Over (Itz K a b) (min xs.length ys.length) (fun H => SqL K H a xs ∧ SqL K H b ys) (fun i v H' => ∃ T x y, v = .ref T ∧ H' T = some (.tup [x, y]) ∧ xs[i]? = some x ∧ ys[i]? = some y) := by
  refine ⟨fun i _ h hi => ?_, fun i _ h hi => ⟨xs, ys, h.1, h.2, by omega⟩, fun _ _ _ _ h _ ⟨T, x, y, e1, e2, e3, y1, y2⟩ => by subst e3; exact ⟨Ex.new e2, T, x, y, e1, upd_same, y1 xs h.1, y2 ys h.2⟩⟩
  have h1 : i < xs.length := by omega
  have h2 : i < ys.length := by omega
  exact ⟨xs, ys, xs[i], ys[i], h.1, h.2, by simp [h1], by simp [h2]⟩
theorem over_zipT : Over (RZ.ItzT K a b) (min xs.length ys.length) (fun H => SqT K H a xs ∧ SqT K H b ys) (fun i v H' => ∃ T x y, v = .ref T ∧ H' T = some (.tup [x, y]) ∧ xs[i]? = some x ∧ ys[i]? = some y) := by
  refine ⟨fun i _ h hi => ?_, fun i _ h hi => ⟨xs, ys, h.1, h.2, by omega⟩, fun _ _ _ _ h _ ⟨T, x, y, e1, e2, e3, y1, y2⟩ => by subst e3; exact ⟨Ex.new e2, T, x, y, e1, upd_same, y1 xs h.1, y2 ys h.2⟩⟩
  have h1 : i < xs.length := by omega
  have h2 : i < ys.length := by omega
  exact ⟨xs, ys, xs[i], ys[i], h.1, h.2, by simp [h1], by simp [h2]⟩
end
section
variable {J : It} {n : Nat} {G : Hp → Prop} {Y : Nat → V → Hp → Prop} {g : TG} {tt : TT} {te : TE} {tb : TS} {vs : List Nat} {σ : L2.St} {H1 : Hp} {D : Addr} {E : Ends}
/-- the block of a comprehension over what J tells: D the new list -/
def LcB (J : It) (g : TG) (tt : TT) (te : TE) (vs : List Nat) (σ : L2.St) (Qd : Addr → Hp → Prop) (H1 : Hp) : Prop := ∀ D, H1 D = none → ∃ W : Nat → Nat → Hp → Prop, (∃ m, W 0 m (upd H1 D (.lst []))) ∧ ∀ i m H, W i m H →
  (J.stop i H ∧ Qd D H) ∨ (J.go i H ∧ ∃ Nx : Hp → Prop, (∀ H', Nx H' → ∃ m', m' < m ∧ W (i + 1) m' H') ∧ ∀ x H', J.yld i H x H' → g x (wipe σ vs) H' fun σ2 H2 => wipe σ2 vs = wipe σ vs ∧ tt σ2 H2 fun b H3 =>
    if b = true then te σ2 H3 fun y H4 => ∃ acc, H4 D = some (.lst acc) ∧ acc.length < sizeLine ∧ Nx (upd H4 D (.lst (acc ++ [y]))) else Nx H3)
theorem r_lc {wi : TI} {H : Hp} {Q : VK} (q : wi σ H fun J H1 => LcB J g tt te vs σ (fun D H => Q (.ref D) H) H1) : tLc wi g tt te vs σ H Q := q
/-- the loop of a for -/
def ForB (J : It) (g : TG) (tb : TS) (D : Ends) (σ : L2.St) (H : Hp) : Prop := ∃ W : Nat → Nat → L2.St → Hp → Prop, (∃ m, W 0 m σ H) ∧ ∀ i m σ H, W i m σ H →
  (J.stop i H ∧ D.nx σ H) ∨ (J.go i H ∧ ∃ N : L2.St → Hp → Prop, (∀ σ' H', N σ' H' → ∃ m', m' < m ∧ W (i + 1) m' σ' H') ∧ ∀ x H', J.yld i H x H' → g x σ H' fun σ2 H2 => tb { D with nx := N, ct := N, bk := D.nx } σ2 H2)
theorem r_for {wi : TI} {H : Hp} (q : wi σ H fun J H1 => ForB J g tb E σ H1) : tFor wi g tb E σ H := q
/-- a comprehension, by an invariant -/
theorem lc_over {Qd : Hp → Prop} (O : Over J n G Y) (Pv : Nat → Hp → Prop) (h0 : Pv 0 (upd H1 D (.lst []))) (hG : ∀ i H, Pv i H → G H)
    (hs : ∀ i x H H', i < n → Pv i H → Ex H H' → Y i x H' → g x (wipe σ vs) H' fun σ2 H2 => wipe σ2 vs = wipe σ vs ∧ tt σ2 H2 fun b H3 =>
      if b = true then te σ2 H3 fun y H4 => ∃ acc, H4 D = some (.lst acc) ∧ acc.length < sizeLine ∧ Pv (i + 1) (upd H4 D (.lst (acc ++ [y]))) else Pv (i + 1) H3) (hd : ∀ H, Pv n H → Qd H) :
    ∃ W : Nat → Nat → Hp → Prop, (∃ m, W 0 m (upd H1 D (.lst []))) ∧ ∀ i m H, W i m H →
      (J.stop i H ∧ Qd H) ∨ (J.go i H ∧ ∃ Nx : Hp → Prop, (∀ H', Nx H' → ∃ m', m' < m ∧ W (i + 1) m' H') ∧ ∀ x H', J.yld i H x H' → g x (wipe σ vs) H' fun σ2 H2 => wipe σ2 vs = wipe σ vs ∧ tt σ2 H2 fun b H3 =>
        if b = true then te σ2 H3 fun y H4 => ∃ acc, H4 D = some (.lst acc) ∧ acc.length < sizeLine ∧ Nx (upd H4 D (.lst (acc ++ [y]))) else Nx H3) := by
  refine ⟨fun i m H => m = n - i ∧ i ≤ n ∧ Pv i H, ⟨n, by simp, Nat.zero_le _, h0⟩, ?_⟩
  rintro i m H ⟨rfl, hi, p⟩
  by_cases hlt : i < n
  · refine .inr ⟨O.go i H (hG i H p) hlt, Pv (i + 1), fun H' p' => ⟨n - (i + 1), by omega, rfl, hlt, p'⟩, fun x H' y => ?_⟩
    obtain ⟨e, y'⟩ := O.yld i H x H' (hG i H p) hlt y
    exact hs i x H H' hlt p e y'
  · have e : i = n := by omega
    subst e
    exact .inl ⟨O.stop i H (hG i H p) (Nat.le_refl _), hd H p⟩
/-- a comprehension without a test whose elements leave all that stood -/
theorem lc_pure {Qd : Addr → Hp → Prop} (O : Over J n G Y) (hG : ∀ H, Ex H1 H → G H) (R : Nat → V → Hp → Prop) (hR : ∀ i y H H', Kx H H' → R i y H → R i y H') (hn : n < sizeLine)
    (he : ∀ i x H, i < n → Ex H1 H → Y i x H → ∀ Q : VK, (∀ y H', Ex H H' → R i y H' → Q y H') → g x (wipe σ vs) H fun σ2 H2 => wipe σ2 vs = wipe σ vs ∧ te σ2 H2 Q)
    (hd : ∀ D H' ys, H1 D = none → Ex H1 H' → H' D = some (.lst ys) → ys.length = n → (∀ i y, ys[i]? = some y → R i y H') → Qd D H') : LcB J g tYes te vs σ Qd H1 := fun D hD => by
  refine lc_over O (fun i H => Ex H1 H ∧ ∃ ys, H D = some (.lst ys) ∧ ys.length = i ∧ ∀ j y, ys[j]? = some y → R j y H) ⟨Ex.new hD, [], upd_same, rfl, fun j y h => by simp at h⟩ (fun i H p => hG H p.1) (fun i x H H' hi p e y => ?_) fun H p => ?_
  · obtain ⟨p1, ys, p2, p3, p4⟩ := p
    refine he i x H' hi (p1.trans e) y (fun y H4 => ∃ acc, H4 D = some (.lst acc) ∧ acc.length < sizeLine ∧ Ex H1 (upd H4 D (.lst (acc ++ [y]))) ∧ ∃ ys, (upd H4 D (.lst (acc ++ [y]))) D = some (.lst ys) ∧ ys.length = i + 1 ∧ ∀ j y', ys[j]? = some y' → R j y' (upd H4 D (.lst (acc ++ [y])))) fun z H4 e4 r => ?_
    have h4 : H4 D = some (.lst ys) := e4 _ _ (e _ _ p2)
    have kx : Kx H4 (upd H4 D (.lst (ys ++ [z]))) := Kx.upd h4 rfl
    refine ⟨ys, h4, by omega, Ex.mut ((p1.trans e).trans e4) hD, ys ++ [z], upd_same, by simp [p3], fun j y' hj => ?_⟩
    by_cases hlt : j < ys.length
    · rw [List.getElem?_append_left hlt] at hj
      exact hR j y' _ _ ((Kx.of (e.trans e4)).trans kx) (p4 j y' hj)
    · have hl := (List.getElem?_eq_some_iff.mp hj).1
      rw [List.length_append, List.length_singleton] at hl
      have ej : j = ys.length := by omega
      rw [List.getElem?_append_right (by omega), ej, Nat.sub_self] at hj
      cases (show some z = some y' from hj)
      rw [ej, p3]
      exact hR i z _ _ kx r
  · obtain ⟨p1, ys, p2, p3, p4⟩ := p
    exact hd D H ys hD p1 p2 p3 p4
/-- a for, by an invariant -/
theorem for_over (O : Over J n G Y) (Pv : Nat → L2.St → Hp → Prop) {H : Hp} (h0 : Pv 0 σ H) (hG : ∀ i σ H, Pv i σ H → G H)
    (hs : ∀ i x σ H H', i < n → Pv i σ H → Ex H H' → Y i x H' → g x σ H' fun σ2 H2 => tb { E with nx := Pv (i + 1), ct := Pv (i + 1), bk := E.nx } σ2 H2) (hd : ∀ σ H, Pv n σ H → E.nx σ H) :
    ForB J g tb E σ H := by
  refine ⟨fun i m σ H => m = n - i ∧ i ≤ n ∧ Pv i σ H, ⟨n, by simp, Nat.zero_le _, h0⟩, ?_⟩
  rintro i m σ H ⟨rfl, hi, p⟩
  by_cases hlt : i < n
  · refine .inr ⟨O.go i H (hG i σ H p) hlt, Pv (i + 1), fun σ' H' p' => ⟨n - (i + 1), by omega, rfl, hlt, p'⟩, fun x H' y => ?_⟩
    obtain ⟨e, y'⟩ := O.yld i H x H' (hG i σ H p) hlt y
    exact hs i x σ H H' hlt p e y'
  · have e : i = n := by omega
    subst e
    exact .inl ⟨O.stop i H (hG i σ H p) (Nat.le_refl _), hd σ H p⟩
end
end K8
/-! is_integer, is_from, is_name, is_ascending, are_names -/
local macro_rules | `(tactic| walk_at "rd") => `(tactic| with_reducible first
  | (refine' K8.r_var ?h ?_; (case h => with_unfolding_all rfl))
  | refine K8.r_cons ?_ | refine K8.r_nil ?_ | refine K8.r_cb ?_ | refine K8.r_call ?_ | refine K8.r_ret ?_ | refine K8.r_drop ?_ | refine K8.r_seq ?_ | refine K8.r_next ?_ | refine K8.r_asg ?_ | refine K8.r_name ?_ | refine K8.r_ifS ?_ | refine K8.r_ifE ?_
  | refine K8.r_op ?_ | refine K8.r_un ?_ | refine K8.r_test ?_ | refine K8.r_B ?_ | refine K8.r_and ?_ | refine K8.r_or ?_ | refine K8.r_not ?_ | refine K8.r_andV ?_ | refine K8.r_orV ?_ | refine K8.r_notV ?_ | refine K8.r_chain ?_ | refine K8.r_bl ?_
  | refine K8.r_tup ?_ | refine K8.r_lst ?_ | refine K8.r_I0 ?_ | refine K8.r_true ?_ | refine K8.r_false ?_ | refine K8.r_ntrue ?_ | refine K8.r_nfalse ?_ | refine K8.r_fld ?_ | refine K8.r_bm ?_ | refine K8.r_bm0 ?_ | refine K8.r_m1 ?_ | refine K8.r_star ?_ | refine K8.r_lc ?_ | refine K8.r_for ?_ | refine K8.r_iStr ?_ | refine K8.r_iList ?_ | refine K8.r_iTup ?_ | refine K8.r_iZip ?_ | refine K8.r_sl ?_ | refine K8.r_part ?_ | refine K8.r_nopart ?_ | refine K8.r_int ?_ | refine K8.r_c ?_)
local macro_rules | `(tactic| walk_at "rds") => `(tactic| repeat walk_at "rd")
namespace K8
open PySem PySem.Spec L2 Evl
open PyProof.Rows hiding St

/-! ### plain -/
def letters : List Nat := ("abcdefghijklmnopqrstuvwxyz" : Str).cps.toList
def isNm (x : Str) : Bool := decide (1 ≤ x.length) && decide (x.length ≤ 8) && x.cps.toList.all (fun c => decide (c ∈ letters))
def ltS (x y : Str) : Bool := decide (x.cps.toList < y.cps.toList)
def asc : List Str → Bool
  | x :: y :: r => ltS x y && asc (y :: r)
  | _ => true
theorem all_bls {xs : List V} {p : Nat → Bool} (h : ∀ (i : Nat) (y : V), xs[i]? = some y → y = V.bl (p i)) : ∃ bs : List Bool, xs = bs.map V.bl ∧ bs = (List.range xs.length).map p := by
  refine ⟨(List.range xs.length).map p, ?_, rfl⟩
  apply List.ext_getElem?
  intro i
  by_cases hi : i < xs.length
  · rw [List.getElem?_map, List.getElem?_map, List.getElem?_range hi, List.getElem?_eq_getElem hi]
    exact congrArg some (h i _ (List.getElem?_eq_getElem hi))
  · rw [List.getElem?_eq_none (by omega), List.getElem?_eq_none (by simp; omega)]
theorem all_range_true {n : Nat} {p : Nat → Bool} (h : ∀ i, i < n → p i = true) : ((List.range n).map p).all id = true := by
  rw [List.all_eq_true]
  intro b hb
  obtain ⟨i, hi, e⟩ := List.mem_map.mp hb
  rw [← e]
  exact h i (List.mem_range.mp hi)
theorem small {n : Nat} (h : n ≤ 100000) : n < sizeLine := Nat.lt_of_le_of_lt h (by decide)
section
variable {P : Program} {w : World} {K : PySem.W.Frag} {mg : Str → Option Value} {base : Heap}
/-- all([..]) of a new list whose items are all True -/
theorem r_allT {H : Hp} {l : Addr} {ys : List V} {Q : VK} (h : H l = some (.lst ys)) (ht : ∀ (i : Nat) (y : V), ys[i]? = some y → y = V.bl true) (q : Q (.bl true) H) : rAll K [.ref l] H Q := by
  obtain ⟨bs, e1, e2⟩ := all_bls (p := fun _ => true) ht
  refine ⟨l, bs, rfl, by rw [← e1]; exact SqL.of h, ?_⟩
  have e : bs.all id = true := by rw [e2]; exact all_range_true fun _ _ => rfl
  rw [e]
  exact q
theorem r_allB {H : Hp} {l : Addr} {ys : List V} {p : Nat → Bool} {Q : VK} {b : Bool} (h : H l = some (.lst ys)) (ht : ∀ (i : Nat) (y : V), ys[i]? = some y → y = V.bl (p i)) (hb : ((List.range ys.length).map p).all id = b) (q : Q (.bl b) H) : rAll K [.ref l] H Q := by
  obtain ⟨bs, e1, e2⟩ := all_bls ht
  refine ⟨l, bs, rfl, by rw [← e1]; exact SqL.of h, ?_⟩
  rw [e2, hb]
  exact q

def spInteger : Sp := fun vs H Q _ => ∃ i, vs = [.int i] ∧ Q (.bl true) H
theorem c_is_integer (D : Dfn K mg "is_integer" (top 4) ["value"]) (T : Txt K mg) : Cal P w K mg base 1 "is_integer" spInteger := by
  refine D.cal (N := ["value"]) (by decide +kernel) (fun vs H Q E h => ?_) fun f cdv A outer s H vs Q E hr nd h => ?_
  · obtain ⟨i, rfl, _⟩ := h
    rfl
  obtain ⟨i, rfl, q⟩ := h
  refine ⟨_, pss_one (ps_ret (pe_and (pe_callB call_isi rfl T.isinstance boot_isinstance (pa_cons (pv 0) (pa_cons (pe_ty T.int boot_int) pa_nil)))
    (pe_one (pe_not (pe_callB call_isi rfl T.isinstance boot_isinstance (pa_cons (pv 0) (pa_cons (pe_ty T.bool boot_bool) pa_nil))))))), ?_⟩
  walk_at "rds"
  refine r_isi (ty_int i) kb_int_int ?_
  walk_at "rds"
  refine r_isi (ty_int i) kb_int_bool ?_
  walk_at "rds"
  exact q
def spFrom : Sp := fun vs H Q _ => ∃ i a b : Int, vs = [.int i, .int a, .int b] ∧ Q (.bl (decide (a ≤ i) && decide (i ≤ b))) H
theorem c_is_from (D : Dfn K mg "is_from" (top 5) ["value", "first", "last"]) (C : Cal P w K mg base 1 "is_integer" spInteger) : Cal P w K mg base 2 "is_from" spFrom := by
  refine D.cal (N := ["value", "first", "last"]) (by decide +kernel) (fun vs H Q E h => ?_) fun f cdv A outer s H vs Q E hr nd h => ?_
  · obtain ⟨i, a, b, rfl, _⟩ := h
    rfl
  obtain ⟨i, a, b, rfl, q⟩ := h
  refine ⟨_, pss_one (ps_ret (pe_and (pe_c C hr (by decide) (pa_cons (pv 0) pa_nil)) (pe_one (pe_chain op_le op_le (pv 1) (pv 0) (pv 2))))), ?_⟩
  walk_at "rds"
  refine ⟨i, rfl, ?_⟩
  walk_at "rds"
  by_cases e : a ≤ i
  · rw [decide_eq_true e] at q ⊢
    walk_at "rds"
    exact q
  · rw [decide_eq_false e] at q ⊢
    walk_at "rds"
    exact q
/-- is_name of a name -/
def spName : Sp := fun vs H Q _ => ∃ x, vs = [.str x] ∧ isNm x = true ∧ RetV (.bl true) H Q
theorem c_is_name (D : Dfn K mg "is_name" (top 6) ["value"]) (T : Txt K mg) : Cal P w K mg base 1 "is_name" spName := by
  refine D.cal (N := ["value", "letter"]) (by decide +kernel) (fun vs H Q E h => ?_) fun f cdv A outer s H vs Q E hr nd h => ?_
  · obtain ⟨x, rfl, _⟩ := h
    rfl
  obtain ⟨x, rfl, hx, q⟩ := h
  unfold isNm at hx
  rw [Bool.and_eq_true, Bool.and_eq_true, decide_eq_true_eq, decide_eq_true_eq, List.all_eq_true] at hx
  obtain ⟨⟨h1, h2⟩, h3⟩ := hx
  have hz : x.length ≤ sizeLine := Nat.le_trans h2 (by decide)
  refine ⟨_, pss_cons (ps_if (PW.pt (pw_or (pt_not (pt_val (pe_callB call_isi rfl T.isinstance boot_isinstance (pa_cons (pv 0) (pa_cons (pe_ty T.str boot_str) pa_nil)))))
      (pw_or1 (pt_not (pt_chain op_le op_le pe_int (pe_callB call_len_str rfl T.len PySem.boot_len (pa_cons (pv 0) pa_nil)) (C8.pe_gc rfl T.MAX_LETTERS))))))
      (pss_one (ps_ret pe_bl)) pss_nil)
    (pss_one (ps_ret (pe_callB (cr_all rfl) rfl T.all boot_all (pa_cons (pe_lc (own := [("letter", 1)]) (g := gName 1) (tt := tYes) rfl nd (pi_str (pv 0)) (blkOk_by (N := ["value", "letter"]) (sc := defScope (top 6)) (by decide +kernel))
      (fun _ _ _ _ _ => pg_name (i := 1) nd rfl (Or.inl rfl)) (fun _ _ _ _ _ => pts_nil) (fun _ _ _ _ _ => pe_cmpR op_in_sign (pv 1) (C8.pe_gc rfl T.LETTERS) rfl)) pa_nil)))), ?_⟩
  walk_at "rds"
  refine r_isi (ty_str x) kb_str_str ?_
  walk_at "rds"
  refine ⟨x, rfl, hz, ?_⟩
  walk_at "rds"
  rw [decide_eq_true (show (1 : Int) ≤ (x.length : Int) by omega)]
  walk_at "rds"
  refine r_nyes (by omega) ?_
  walk_at "rds"
  refine ⟨x, rfl, lc_pure over_str (fun _ _ => trivial) (fun _ y _ => y = .bl true) (fun _ _ _ _ _ h => h) (Nat.lt_of_le_of_lt h2 (by decide)) (fun i y H1 hi e hy Q q => ?_) fun D H1 ys hD e h ht hall => ?_⟩
  · obtain ⟨c, hc, rfl⟩ := hy
    refine r_name ⟨rfl, ?_⟩
    walk_at "rds"
    refine ⟨c, _, rfl, rfl, q _ _ (Ex.refl _) ?_⟩
    exact congrArg V.bl (h3 c (Array.mem_toList_iff.mpr (Array.mem_of_getElem? hc)))
  · walk_at "rds"
    exact r_allT h hall (q _ e)

/-! ### slices -/
theorem cutV_from (xs : List V) (k : Nat) : cutV xs (some (k : Int)) none = xs.drop k := by
  unfold cutV
  rw [HT.sIx_nat, HT.sIx_none]
  by_cases h : k ≤ xs.length
  · rw [Nat.min_eq_left h, List.take_of_length_le (by rw [List.length_drop]; exact Nat.le_refl _)]
  · rw [Nat.min_eq_right (by omega), Nat.sub_self, List.drop_eq_nil_of_le (as := xs) (i := k) (by omega)]
    exact List.take_zero
theorem sl_anyT {X : Cx} : SlR X (fun x lo hi H Q => rSlT X.K x lo hi H Q ∨ rSlTW X.K x lo hi H Q) := sl_tup.or sl_tupW
/-- t[k:] of a tuple -/
theorem r_slT {H : Hp} {a : Addr} {xs : List V} {k : Nat} {Q : VK} (h : SqT K H a xs) (q : ∀ p H', Ex H H' → SqT K H' p (xs.drop k) → Q (.ref p) H') : rSlT K (.ref a) (some (k : Int)) none H Q ∨ rSlTW K (.ref a) (some (k : Int)) none H Q := by
  by_cases hw : HT.sIx xs.length 0 (some (k : Int)) = 0 ∧ HT.sIx xs.length xs.length none = xs.length
  · refine .inr ⟨a, xs, rfl, h, hw, q a H (Ex.refl _) ?_⟩
    rw [HT.sIx_nat] at hw
    by_cases hk : k = 0
    · subst hk
      exact h
    · have e : xs = [] := List.eq_nil_of_length_eq_zero (by omega)
      subst e
      rw [List.drop_nil]
      exact h
  · refine .inl ⟨a, xs, rfl, h, hw, fun p hp => ?_⟩
    rw [cutV_from]
    exact q p _ (Ex.new hp) (SqT.of upd_same)
theorem r_slL {H : Hp} {a : Addr} {xs : List V} {k : Nat} {Q : VK} (h : SqL K H a xs) (q : ∀ p H', H p = none → Ex H H' → H' p = some (.lst (xs.drop k)) → Q (.ref p) H') : rSlL K (.ref a) (some (k : Int)) none H Q := by
  refine ⟨a, xs, rfl, h, fun p hp => ?_⟩
  rw [cutV_from]
  exact q p _ hp (Ex.new hp) upd_same
/-! ### ascending -/
theorem asc_at : ∀ {zs : List Str}, asc zs = true → ∀ {i : Nat} {x y : Str}, zs[i]? = some x → zs[i + 1]? = some y → ltS x y = true
  | [], _, _, _, _, h, _ => by simp at h
  | [a], _, i, _, _, _, h => by simp at h
  | a :: b :: r, h, i, x, y, h1, h2 => by
    have h' : (ltS a b && asc (b :: r)) = true := h
    rw [Bool.and_eq_true] at h'
    cases i with
    | zero =>
      cases (show some a = some x from h1)
      cases (show some b = some y from h2)
      exact h'.1
    | succ i => exact asc_at (zs := b :: r) h'.2 (i := i) h1 h2
def spAsc (K : PySem.W.Frag) : Sp := fun vs H Q _ => ∃ (a : Addr) (zs : List Str), vs = [.ref a] ∧ (SqL K H a (zs.map V.str) ∨ SqT K H a (zs.map V.str)) ∧ asc zs = true ∧ zs.length ≤ 1000 ∧ RetV (.bl true) H Q
theorem r_gTup {n : Nat} {t : TGs} {a : Addr} {xs : List V} {σ : L2.St} {H : Hp} {QS : L2.St → Hp → Prop} (h : SqT K H a xs) (hn : xs.length = n) (q : t xs σ H QS) : gTup K n t (.ref a) σ H QS := ⟨a, xs, rfl, h, hn, q⟩
theorem r_gCons {t : TG} {u : TGs} {v : V} {r : List V} {σ : L2.St} {H : Hp} {QS : L2.St → Hp → Prop} (q : t v σ H fun σ' H' => u r σ' H' QS) : gCons t u (v :: r) σ H QS := ⟨v, r, rfl, q⟩
theorem r_gNil {σ : L2.St} {H : Hp} {QS : L2.St → Hp → Prop} (q : QS σ H) : gNil [] σ H QS := ⟨rfl, q⟩
theorem c_is_ascending (D : Dfn K mg "is_ascending" (top 7) ["items"]) (T : Txt K mg) : Cal P w K mg base 1 "is_ascending" (spAsc K) := by
  refine D.cal (N := ["items", "one", "other"]) (by decide +kernel) (fun vs H Q E h => ?_) fun f cdv A outer s H vs Q E hr nd h => ?_
  · obtain ⟨a, zs, rfl, _⟩ := h
    rfl
  obtain ⟨a, zs, rfl, hs, ha, hl, q⟩ := h
  have bk := blkOk_by (N := ["items", "one", "other"]) (sc := defScope (top 7)) (own := [("one", 1), ("other", 2)]) (scope := ((match defBody (top 7) with | [.Return (some (.Call _ [.ListComp _ _ sc _] _ _)) _] => sc | _ => default : Scope))) (by decide +kernel)
  refine ⟨_, pss_one (ps_ret (pe_callB (cr_all rfl) rfl T.all boot_all (pa_cons (pe_lc (own := [("one", 1), ("other", 2)]) (g := gTup K 2 (gCons (gName 1) (gCons (gName 2) gNil))) (tt := tYes) rfl nd
    (RZ.pi_zipA rfl T.zip (pa_cons (pv 0) (pa_cons (pe_slice (sl_list.or sl_anyT) (pv 0) (po_some pe_int) po_none) pa_nil))) bk
      (fun _ _ _ _ _ => pg_tup rfl (pgs_cons (pg_name (i := 1) nd rfl (Or.inl rfl)) (pgs_cons (pg_name (i := 2) nd rfl (Or.inl rfl)) pgs_nil))) (fun _ _ _ _ _ => pts_nil) (fun _ _ _ _ _ => pe_cmpR op_lt_str (pv 1) (pv 2) (nomark _))) pa_nil))), ?_⟩
  walk_at "rds"
  have hn : min (zs.map V.str).length ((zs.map V.str).drop 1).length < sizeLine := by
    rw [List.length_map]
    exact small (by omega)
  have ht : ∀ (i : Nat) (v : V) (H' : Hp), (∃ (T : Addr) (x y : V), v = V.ref T ∧ H' T = some (.tup [x, y]) ∧ (zs.map V.str)[i]? = some x ∧ ((zs.map V.str).drop 1)[i]? = some y) → ∃ T x y, v = V.ref T ∧ SqT K H' T [V.str x, V.str y] ∧ ltS x y = true := fun i v H' ⟨T, x, y, e1, e2, e3, e4⟩ => by
    rw [List.getElem?_map] at e3
    rw [List.getElem?_drop, List.getElem?_map, Nat.add_comm] at e4
    cases h1 : zs[i]? with
    | none => rw [h1] at e3; cases e3
    | some x' =>
      cases h2 : zs[i + 1]? with
      | none => rw [h2] at e4; cases e4
      | some y' =>
        rw [h1] at e3
        rw [h2] at e4
        cases e3
        cases e4
        exact ⟨T, x', y', e1, SqT.of e2, asc_at ha h1 h2⟩
  refine Or.elim hs (fun hs => ?_) fun hs => ?_
  · refine .inl (r_slL (k := 1) hs fun p H1 hp e h1 => ?_)
    walk_at "rds"
    refine ⟨a, p, _, _, rfl, .inl ⟨ex_l e hs, SqL.of h1, ?_⟩⟩
    refine lc_pure over_zipL (fun H2 e2 => ⟨ex_l (e.trans e2) hs, SqL.of (e2 _ _ h1)⟩) (fun _ y _ => y = .bl true) (fun _ _ _ _ _ h => h) hn (fun i v H1 hi e hy Q q => ?_) fun D H2 ys hD e2 h _ hall => ?_
    · obtain ⟨T, x, y, rfl, hT, hlt⟩ := ht i v H1 hy
      refine r_gTup hT rfl (r_gCons (r_name (r_gCons (r_name (r_gNil ⟨rfl, ?_⟩)))))
      walk_at "rds"
      exact ⟨x, y, rfl, rfl, q _ _ (Ex.refl _) (congrArg V.bl hlt)⟩
    · walk_at "rds"
      exact r_allT h hall (q _ (e.trans e2))
  · refine .inr (r_slT (k := 1) hs fun p H1 e h1 => ?_)
    walk_at "rds"
    refine ⟨a, p, _, _, rfl, .inr ⟨ex_t e hs, h1, ?_⟩⟩
    refine lc_pure over_zipT (fun H2 e2 => ⟨ex_t (e.trans e2) hs, ex_t e2 h1⟩) (fun _ y _ => y = .bl true) (fun _ _ _ _ _ h => h) hn (fun i v H1 hi e hy Q q => ?_) fun D H2 ys hD e2 h _ hall => ?_
    · obtain ⟨T, x, y, rfl, hT, hlt⟩ := ht i v H1 hy
      refine r_gTup hT rfl (r_gCons (r_name (r_gCons (r_name (r_gNil ⟨rfl, ?_⟩)))))
      walk_at "rds"
      exact ⟨x, y, rfl, rfl, q _ _ (Ex.refl _) (congrArg V.bl hlt)⟩
    · walk_at "rds"
      exact r_allT h hall (q _ (e.trans e2))

/-! ### are_names -/
def spNames (K : PySem.W.Frag) : Sp := fun vs H Q _ => ∃ (a : Addr) (zs : List Str), vs = [.ref a] ∧ SqT K H a (zs.map V.str) ∧ (∀ z ∈ zs, isNm z = true) ∧ zs.length ≤ 1000 ∧ RetV (.bl true) H Q
theorem str_at {zs : List Str} {i : Nat} {x : V} (h : (zs.map V.str)[i]? = some x) : ∃ z, zs[i]? = some z ∧ x = .str z := by
  rw [List.getElem?_map] at h
  cases e : zs[i]? with
  | none => rw [e] at h; cases h
  | some z => rw [e] at h; cases h; exact ⟨z, rfl, rfl⟩
theorem c_are_names (D : Dfn K mg "are_names" (top 8) ["value"]) (T : Txt K mg) (C : Cal P w K mg base 1 "is_name" spName) : Cal P w K mg base 2 "are_names" (spNames K) := by
  refine D.cal (N := ["value", "one"]) (by decide +kernel) (fun vs H Q E h => ?_) fun f cdv A outer s H vs Q E hr nd h => ?_
  · obtain ⟨a, zs, rfl, _⟩ := h
    rfl
  obtain ⟨a, zs, rfl, hs, hz, hl, q⟩ := h
  refine ⟨_, pss_one (ps_ret (pe_and (pe_callB call_isi rfl T.isinstance boot_isinstance (pa_cons (pv 0) (pa_cons (pe_ty T.tuple boot_tuple) pa_nil)))
    (pe_one (pe_callB (cr_all rfl) rfl T.all boot_all (pa_cons (pe_lc (own := [("one", 1)]) (g := gName 1) (tt := tYes) rfl nd (pi_tup (pv 0)) (blkOk_by (N := ["value", "one"]) (sc := defScope (top 8)) (by decide +kernel))
      (fun _ _ _ _ _ => pg_name (i := 1) nd rfl (Or.inl rfl)) (fun _ _ _ _ _ => pts_nil) (fun _ _ _ _ _ => pe_c C hr (by decide) (pa_cons (pv 1) pa_nil))) pa_nil))))), ?_⟩
  walk_at "rds"
  refine r_isi (ty_sqT hs) kb_tuple_tuple ?_
  walk_at "rds"
  refine ⟨a, rfl, ⟨_, hs⟩, lc_pure over_tup (fun H2 e2 => ex_t e2 hs) (fun _ y _ => y = .bl true) (fun _ _ _ _ _ h => h) (by rw [List.length_map]; exact small (by omega)) (fun i v H1 hi e hy Q q => ?_) fun D H2 ys hD e2 h _ hall => ?_⟩
  · obtain ⟨z, hzi, rfl⟩ := str_at hy
    refine r_name ⟨rfl, ?_⟩
    walk_at "rds"
    exact ⟨z, rfl, hz z (List.mem_of_getElem? hzi), fun H' e' => q _ _ e' rfl⟩
  · walk_at "rds"
    exact r_allT h hall (q _ e2)
end
end K8
/-! Comparisons: with an empty list or tuple; None in a list of tuples; own == with both answers, tuples of such. -/
namespace K8
open PySem PySem.Spec L2 Evl
open PyProof.Rows hiding St
section
variable {X : Cx}
/-- xs == [], t == () -/
def rEqNil (K : PySem.W.Frag) : R2 := fun x y H Q => ∃ a b xs, x = .ref a ∧ y = .ref b ∧ ((SqL K H a xs ∧ SqL K H b []) ∨ (SqT K H a xs ∧ SqT K H b [])) ∧ Q (.bl xs.isEmpty) H
def rNeNil (K : PySem.W.Frag) : R2 := fun x y H Q => ∃ a b xs, x = .ref a ∧ y = .ref b ∧ ((SqL K H a xs ∧ SqL K H b []) ∨ (SqT K H a xs ∧ SqT K H b [])) ∧ Q (.bl (!xs.isEmpty)) H
theorem emp_of {xs : List V} {its : List Value} (r : Vals xs its) : (its.length == 0) = xs.isEmpty := by
  cases r <;> simp
theorem op_eq_nil (hu : X.A.units < cLine) : OpR X (compareOp .Eq) (rEqNil X.K) := by
  intro pins s σ H x y v u Q I rx ry h
  obtain ⟨a, b, xs, rfl, rfl, h, q⟩ := h
  cases rx
  cases ry
  have fin : EP X pins σ Q (.bool xs.isEmpty) s := ⟨.bl xs.isEmpty, H, I, rfl, q⟩
  rcases h with ⟨h1, h2⟩ | ⟨h1, h2⟩
  · obtain ⟨its, r, p, z⟩ := I.list h1
    obtain ⟨its2, r2, p2, z2⟩ := I.list h2
    cases r2
    cases r with
    | nil => exact SeqAt.eq_listAt (e := fun _ => true) p.isList p2.isList rfl hu (fun j h1 _ => absurd h1 (by simp)) fin
    | cons r1 r2 => exact SeqAt.eq_list_lengthsAt p.isList p2.isList (by simp) hu fin
  · obtain ⟨its, r, p, z⟩ := I.tuple h1
    obtain ⟨its2, r2, p2, z2⟩ := I.tuple h2
    cases r2
    refine SeqAt.eq_tupleAt (e := fun _ => true) p p2 hu (fun j _ h2 => absurd h2 (by simp)) ?_
    have e := emp_of r
    simpa [e] using fin
theorem op_ne_nil (hu : X.A.units < cLine) : OpR X (compareOp .NotEq) (rNeNil X.K) := by
  intro pins s σ H x y v u Q I rx ry h
  obtain ⟨a, b, xs, rfl, rfl, h, q⟩ := h
  cases rx
  cases ry
  have fin : EP X pins σ Q (.bool (!xs.isEmpty)) s := ⟨.bl (!xs.isEmpty), H, I, rfl, q⟩
  rcases h with ⟨h1, h2⟩ | ⟨h1, h2⟩
  · obtain ⟨its, r, p, z⟩ := I.list h1
    obtain ⟨its2, r2, p2, z2⟩ := I.list h2
    cases r2
    cases r with
    | nil => exact SeqAt.RcNeAt.lists (e := fun _ => true) p.isList p2.isList rfl hu (fun j h1 _ => absurd h1 (by simp)) X.prog X.w X.xe _ fin
    | cons r1 r2 => exact SeqAt.RcNeAt.lists_lengths p.isList p2.isList (by simp) hu X.prog X.w X.xe _ fin
  · obtain ⟨its, r, p, z⟩ := I.tuple h1
    obtain ⟨its2, r2, p2, z2⟩ := I.tuple h2
    cases r2
    refine SeqAt.RcNeAt.tuples (e := fun _ => true) p p2 hu (fun j _ h2 => absurd h2 (by simp)) X.prog X.w X.xe _ ?_
    have e := emp_of r
    simpa [e] using fin
theorem r_eqNilL {K : PySem.W.Frag} {H : Hp} {a b : Addr} {xs : List V} {Q : VK} (h : SqL K H a xs) (h2 : SqL K H b []) (q : Q (.bl xs.isEmpty) H) : rEqNil K (.ref a) (.ref b) H Q := ⟨a, b, xs, rfl, rfl, .inl ⟨h, h2⟩, q⟩
theorem r_eqNilT {K : PySem.W.Frag} {H : Hp} {a b : Addr} {xs : List V} {Q : VK} (h : SqT K H a xs) (h2 : SqT K H b []) (q : Q (.bl xs.isEmpty) H) : rEqNil K (.ref a) (.ref b) H Q := ⟨a, b, xs, rfl, rfl, .inr ⟨h, h2⟩, q⟩
theorem r_neNilL {K : PySem.W.Frag} {H : Hp} {a b : Addr} {xs : List V} {Q : VK} (h : SqL K H a xs) (h2 : SqL K H b []) (q : Q (.bl (!xs.isEmpty)) H) : rNeNil K (.ref a) (.ref b) H Q := ⟨a, b, xs, rfl, rfl, .inl ⟨h, h2⟩, q⟩
theorem r_neNilT {K : PySem.W.Frag} {H : Hp} {a b : Addr} {xs : List V} {Q : VK} (h : SqT K H a xs) (h2 : SqT K H b []) (q : Q (.bl (!xs.isEmpty)) H) : rNeNil K (.ref a) (.ref b) H Q := ⟨a, b, xs, rfl, rfl, .inr ⟨h, h2⟩, q⟩
/-- None in xs, xs a list of tuples -/
def rInNo (K : PySem.W.Frag) : R2 := fun x y H Q => ∃ p xs, x = .non ∧ y = .ref p ∧ SqL K H p xs ∧ (∀ x ∈ xs, ∃ a ys, x = V.ref a ∧ SqT K H a ys) ∧ Q (.bl false) H
theorem op_in_no (hu : X.A.units + 1 < cLine) : OpR X (compareOp .In) (rInNo X.K) := by
  intro pins s σ H x y v u Q I rx ry h
  obtain ⟨p, xs, rfl, rfl, h, ht, q⟩ := h
  cases rx
  cases ry
  obtain ⟨its, r, pl, z⟩ := I.list h
  refine SeqAt.in_listAt (fun _ => false) pl.isList (fun y hy => ?_) ?_
  · obtain ⟨i, hi, e⟩ := List.getElem_of_mem (Array.mem_toList_iff.mpr hy)
    have hi' : i < its.length := hi
    have hx : i < xs.length := by rw [r.length]; exact hi'
    obtain ⟨u, hu1, hu2⟩ := r.get (List.getElem?_eq_getElem hx)
    obtain ⟨a, ys, ea, hT⟩ := ht _ (List.getElem_mem hx)
    rw [ea] at hu2
    cases hu2
    have ey : y = .ref a := by
      have : its[i]? = some y := by rw [List.getElem?_eq_getElem hi']; exact congrArg some e
      rw [hu1] at this
      exact (Option.some.inj this).symm
    subst ey
    obtain ⟨jts, r2, p2, z2⟩ := I.tuple hT
    exact SeqAt.EqAt.tuple_none p2 (by show X.A.units + 1 < cLine; exact hu)
  · have e : (its.toArray.any fun _ => false) = false := by simp
    rw [e]
    exact ⟨.bl false, H, I, rfl, q⟩
end
end K8

namespace K8G
open PySem PySem.AutoSeq1 PySem.SeqAt PySem.MeetsSeq PySem.MeetsSeq2 PySem.MeetsSeq3 GQ
section
variable {prog : Program} {w : World} {A : Around} {R : Result → Shared → Prop}
theorem tuple_eqB (l b : Addr) (items items2 : Array Value) (n n2 : Nat) (dd dd2 : Option Addr) (sl sl2 : Array (Option Value)) (e : Nat → Bool) (I : Shared → Prop)
    (turn : ∀ i (h1 : i < items.size) (h2 : i < items2.size) s, I s → wpAny (model prog w) A.in1 (eqBool items[i] items2[i]) (fun r s' => r = e i ∧ I s') (fun e s' => R (.error e) s') s)
    (fin : ∀ s, I s → R (.ok (.ret (.bool ((List.range (min items.size items2.size)).all e && items.size == items2.size)))) s) {s : Shared} (hl1 : s.heap.get? l = some { cls := .type "tuple", dict := dd, data := .seq items n, slots := sl }) (hb1 : s.heap.get? b = some { cls := .type "tuple", dict := dd2, data := .seq items2 n2, slots := sl2 }) (h : I s) :
    wpAny (model prog w) A.in1 (Builtin.«tuple.__eq__» ⟨[.ref l, .ref b], []⟩) (FinOf prog w A R) (fun e s' => R (.error e) s') s := by
  have f2 := AutoSeq1.sub_tuple_tuple
  have hZ : (items.toList.zip items2.toList).length = min items.size items2.size := by simp
  have h0 := h
  obtain ⟨hp, g, d, tk, os⟩ := s
  wp_walk using wpAny_loadPart' hl1, wpAny_loadPart' hb1, wpAny_forIn_list _ (fun rest b s' => b.1 = none ∧ I s' ∧ ∃ i, rest = (items.toList.zip items2.toList).drop i ∧
      ((List.range (min items.size items2.size)).all e && items.size == items2.size) = (((List.range (min items.size items2.size)).drop i).all e && items.size == items2.size)) _
  case turn =>
    rintro ⟨y, x⟩ rest b s' ⟨hb', hI, i, hz, hR⟩
    have hlt : i < (items.toList.zip items2.toList).length := by
      rcases Nat.lt_or_ge i (items.toList.zip items2.toList).length with h' | h'
      · exact h'
      · rw [List.drop_of_length_le h'] at hz; cases hz
    have hm : i < min items.size items2.size := hZ ▸ hlt
    have h1 : i < items.size := Nat.lt_of_lt_of_le hm (Nat.min_le_left _ _)
    have h2 : i < items2.size := Nat.lt_of_lt_of_le hm (Nat.min_le_right _ _)
    rw [List.drop_eq_getElem_cons hlt] at hz
    injection hz with hyx hrest
    have hy : y = items[i] := by have := congrArg Prod.fst hyx; simpa using this
    have hx : x = items2[i] := by have := congrArg Prod.snd hyx; simpa using this
    subst hy hx
    have hd : (List.range (min items.size items2.size)).drop i = i :: (List.range (min items.size items2.size)).drop (i + 1) := by simp [List.drop_eq_getElem_cons, hm]
    rw [hd, List.all_cons] at hR
    refine wpAny_bind (wpAny_mono (turn i h1 h2 s' hI) (fun r s2 q2 => ?_) fun _ _ x => x)
    obtain ⟨hr, q2⟩ := q2
    have hf := fin s2 q2
    rw [hR] at hf
    cases hy : e i with
    | true =>
      rw [hy] at hr hR
      subst hr
      wp_walk
      exact ⟨rfl, q2, i + 1, hrest, by simpa using hR⟩
    | false =>
      rw [hy] at hr hf
      subst hr
      wp_walk
      simpa using hf
  case fin =>
    rintro ⟨b1, b2⟩ s' ⟨hb', hI, i, hz, hR⟩
    simp only at hb'
    subst hb'
    have hge : min items.size items2.size ≤ i := by
      rcases Nat.lt_or_ge i (items.toList.zip items2.toList).length with h' | h'
      · rw [List.drop_eq_getElem_cons h'] at hz; cases hz
      · exact hZ ▸ h'
    have hf := fin s' hI
    rw [hR, List.drop_of_length_le (by simpa using hge)] at hf
    wp_walk
    simpa [Builtin.Tuple.tupleCompareSizes] using hf
  case h =>
    exact ⟨rfl, h0, 0, rfl, by simp⟩
end
section
variable {prog : Program} {w : World} {A : Around} {E : Value → Shared → Prop} {s : Shared}
theorem rc_tupB {l b : Addr} {items items2 : Array Value} {Q : Value → Shared → Prop} (e : Nat → Bool) (hu : A.units < cLine) (I : Shared → Prop)
    (hl : s.heap.IsTuple l items) (hb : s.heap.IsTuple b items2)
    (turn : ∀ i (h1 : i < items.size) (h2 : i < items2.size) s, I s → wpAny (model prog w) A.in1 (eqBool items[i] items2[i]) (fun r s' => r = e i ∧ I s') E s)
    (fin : ∀ s, I s → Q (.bool ((List.range (min items.size items2.size)).all e && items.size == items2.size)) s) (h : I s) : wpAny (model prog w) A (richCompare .Eq (.ref l) (.ref b)) Q E s := by
  obtain ⟨⟨cls, dd, data, sl⟩, ho, hc, n, hd⟩ := id hl
  obtain ⟨⟨cls2, dd2, data2, sl2⟩, ho2, hc2, n2, hd2⟩ := id hb
  simp only at hc hd hc2 hd2
  subst hc hd hc2 hd2
  refine wpAny_richCompare_same_room (op := .Eq) ⟨_, ho, rfl⟩ ⟨_, ho2, rfl⟩ F.slot_tuple_eq (call_here F.slot_tuple_eq ⟨_, ho, rfl⟩ F.entry_tuple_eq (F.args_tuple_eq_2 _ _) ?_) hu
  exact tuple_eqB (R := wants (fun v s' => v ≠ .notImplemented ∧ Q v s') E) l b items items2 n n2 dd dd2 sl sl2 e I turn (fun s' q => ⟨(fun x => nomatch x), fin s' q⟩) ho ho2 h
end
end K8G

namespace K8
open PySem PySem.Spec L2 Evl
open PyProof.Rows hiding St
section
variable {X : Cx} {n : Nat}
/-- == inside a tuple gives D's answer, and only makes objects -/
def EqB (X : Cx) (n : Nat) (D : V → V → Bool → Hp → Prop) : Prop :=
  ∀ (A : Around) (pins : List (Addr × Obj)) (s : Shared) (σ : L2.St) (H : Hp) (x y : V) (b : Bool) (u v : Value), Sub X n A → Inv X pins σ H s → RelV x u → RelV y v → D x y b H →
    wpAny (model X.prog X.w) A (eqBool u v) (fun r s' => r = b ∧ ∃ H', Inv X pins σ H' s' ∧ Ex H H') X.xe s
def RcB (X : Cx) (n : Nat) (D : V → V → Bool → Hp → Prop) : Prop :=
  ∀ (A : Around) (pins : List (Addr × Obj)) (s : Shared) (σ : L2.St) (H : Hp) (x y : V) (b : Bool) (u v : Value), Sub X n A → Inv X pins σ H s → RelV x u → RelV y v → D x y b H →
    wpAny (model X.prog X.w) A (richCompare .Eq u v) (fun r s' => r = .bool b ∧ ∃ H', Inv X pins σ H' s' ∧ Ex H H') X.xe s
/-- two instances of the class at C whose own == answers b -/
def DInsB (C : Addr) (R : Addr → Addr → Bool → Hp → Prop) (x y : V) (r : Bool) (H : Hp) : Prop := ∃ a b dx dy fs gs, x = .ref a ∧ y = .ref b ∧ H a = some (.ins C dx fs) ∧ H b = some (.ins C dy gs) ∧ R a b r H
def spEqB (R : Addr → Addr → Bool → Hp → Prop) : Sp := fun vs H Q _ => ∃ a b r, vs = [.ref a, .ref b] ∧ R a b r H ∧ ∀ H', Ex H H' → Q (.bl r) H'
theorem rcB_ins {CX : CXT} {C f : Addr} {fd : FuncData} {ps : List Str} {R : Addr → Addr → Bool → Hp → Prop} {E : XK} (F : FnOk X.prog X.w X.K X.mg X.base CX n f fd ps (spEqB R))
    (hs : PySem.W.findIn X.K (.ref C) "__eq__" = some (some (.ref f))) (hf : PySem.W.isFn X.K (.ref f) = true) (hb : Binds X.K fd ps []) (hx : Passes CX X E) : RcB X n (DInsB C R) := by
  intro A pins s σ H x y r u v sb I rx ry d
  obtain ⟨a, b, dx, dy, fs, gs, rfl, rfl, ha, hb', hr⟩ := d
  cases rx
  cases ry
  obtain ⟨mA, J, _⟩ := ins_get I.hok ha
  obtain ⟨mB, J', _⟩ := ins_get I.hok hb'
  obtain ⟨od, J, _⟩ := J.look
  obtain ⟨od', J', _⟩ := J'.look
  obtain ⟨m, hF⟩ := I.fr
  refine PySem.W.cmp_K (op := .Eq) (tb := .ref C) sb.room.units0 hF I.ok.mod.kin J J'.type (by simp [PySem.W.notFirst]) hs hf ?_
  have hsp : spEqB R [.ref a, .ref b] H (fun v H' => v = .bl r ∧ Ex H H') E := ⟨a, b, r, rfl, hr, fun H' e => ⟨rfl, e⟩⟩
  have e0 : Env0 X.prog X.w X.K X.mg X.base A X.stack s H := by
    have e := I.env0
    exact ⟨by rw [sb.fr]; exact e.frames, e.mod, e.bs, e.bsz, e.funs, e.frf, e.hok, e.bare⟩
  have hl := F.len _ _ _ _ hsp
  have r2 : Vals [V.ref a, V.ref b] [Value.ref a, Value.ref b] := .cons rfl (.cons rfl .nil)
  refine wpAny_call (codeAny_mono (F.run A X.stack s H ⟨[.ref a, .ref b], []⟩ [.ref a, .ref b] [.ref a, .ref b] _ E sb.room e0 (by
    have := hb s [.ref a, .ref b] I.kIn (by simpa using hl)
    simpa using this) r2 hsp) fun r' s' hq => ?_)
  cases r' with
  | error e => exact hx pins σ H s e s' I hq
  | ok fl =>
    cases fl with
    | ret w =>
      obtain ⟨z, H', I', rz, ez, ex⟩ := I.after hq
      subst ez
      cases rz
      exact ⟨rfl, H', I', ex⟩
    | next => exact False.elim hq
    | brk => exact False.elim hq
    | cont => exact False.elim hq
theorem RcB.eqB {C : Addr} {R : Addr → Addr → Bool → Hp → Prop} (h : RcB X n (DInsB C R)) (hsame : ∀ (pins : List (Addr × Obj)) (σ : L2.St) (H : Hp) (s : Shared) (a : Addr) (r : Bool), Inv X pins σ H s → R a a r H → r = true) : EqB X n (DInsB C R) := by
  intro A pins s σ H x y r u v sb I rx ry d
  obtain ⟨a, b, _, _, _, _, rfl, rfl, _, _, hR⟩ := id d
  cases rx
  cases ry
  by_cases hab : a = b
  · subst hab
    rw [hsame pins σ H s a r I hR]
    exact SeqAt.EqAt.same (A := A) (s := s) (.ref a) X.prog X.w X.xe _ ⟨rfl, H, I, Ex.refl H⟩
  · refine GQ.eqBool_refG hab (wpAny_mono (h A pins s σ H (.ref a) (.ref b) r _ _ sb I rfl rfl d) (fun r' s' q => ?_) fun _ _ x => x)
    obtain ⟨hr', q⟩ := q
    exact ⟨r, hr', rfl, q⟩
/-- tuples, item by item -/
def DTupB (K : PySem.W.Frag) (D : V → V → Bool → Hp → Prop) (x y : V) (r : Bool) (H : Hp) : Prop := ∃ a b xs ys, ∃ e : Nat → Bool, x = .ref a ∧ y = .ref b ∧ SqT K H a xs ∧ SqT K H b ys ∧
  (∀ (i : Nat) x y, xs[i]? = some x → ys[i]? = some y → D x y (e i) H) ∧ r = ((List.range (min xs.length ys.length)).all e && xs.length == ys.length)
theorem rcB_tup {D : V → V → Bool → Hp → Prop} (hD : ∀ x y b H H', Ex H H' → D x y b H → D x y b H') (h : EqB X n D) : RcB X (n + 1) (DTupB X.K D) := by
  intro A pins s σ H x y r u v sb I rx ry d
  obtain ⟨a, b, xs, ys, e, rfl, rfl, ha, hb, hp, rfl⟩ := d
  cases rx
  cases ry
  obtain ⟨its, r1, e1, z1⟩ := I.tuple ha
  obtain ⟨its2, r2, e2, z2⟩ := I.tuple hb
  have hl1 : its.toArray.size = xs.length := by rw [List.size_toArray, ← r1.length]
  have hl2 : its2.toArray.size = ys.length := by rw [List.size_toArray, ← r2.length]
  refine K8G.rc_tupB e sb.room.units0 (fun s' => ∃ H', Inv X pins σ H' s' ∧ Ex H H') e1 e2 (fun i h1 h2 s' ⟨H1, I1, x1⟩ => ?_) (fun s' q => ⟨by rw [hl1, hl2], q⟩) ⟨H, I, Ex.refl H⟩
  have k1 : i < xs.length := by rw [← hl1]; exact h1
  have k2 : i < ys.length := by rw [← hl2]; exact h2
  have j1 : i < its.length := by simpa using h1
  have j2 : i < its2.length := by simpa using h2
  obtain ⟨u, hu, ru⟩ := r1.get (List.getElem?_eq_getElem k1)
  obtain ⟨v, hv, rv⟩ := r2.get (List.getElem?_eq_getElem k2)
  have g1 : u = its.toArray[i] := by
    rw [List.getElem?_eq_getElem j1] at hu
    have := Option.some.inj hu
    simpa using this.symm
  have g2 : v = its2.toArray[i] := by
    rw [List.getElem?_eq_getElem j2] at hv
    have := Option.some.inj hv
    simpa using this.symm
  rw [← g1, ← g2]
  refine wpAny_mono (h A.in1 pins s' σ H1 _ _ (e i) u v sb.in1 I1 ru rv (hD _ _ _ _ _ x1 (hp i _ _ (List.getElem?_eq_getElem k1) (List.getElem?_eq_getElem k2)))) (fun r s2 q => ?_) fun _ _ x => x
  obtain ⟨hr, H2, I2, x2⟩ := q
  exact ⟨hr, H2, I2, x1.trans x2⟩
/-- x == y as an expression -/
def rEqB (D : V → V → Bool → Hp → Prop) : R2 := fun x y H Q => ∃ r, D x y r H ∧ ∀ H', Ex H H' → Q (.bl r) H'
theorem op_eqB {D : V → V → Bool → Hp → Prop} (h : RcB X n D) (hr : Room n X.A) : OpR X (compareOp .Eq) (rEqB D) := by
  intro pins s σ H x y v u Q I rx ry hq
  obtain ⟨r, d, q⟩ := hq
  show wpAny (model X.prog X.w) X.A (richCompare .Eq v u) (EP X pins σ Q) X.xe s
  refine wpAny_mono (h X.A pins s σ H x y r v u ⟨hr, rfl⟩ I rx ry d) (fun r' s' z => ?_) fun _ _ x => x
  obtain ⟨hr', H', I', e⟩ := z
  subst hr'
  exact ⟨.bl r, H', I', rfl, q H' e⟩
end
end K8
/-! Terms, programs, texts: plain. -/
namespace K8
open PySem PySem.Spec L2

inductive Tm where
  | act (w : Str) (tab : List (Option Nat))
  | nam (k x : Str)
  | ser (k : Str) (ts : List Tm)
  | cal (x : Str) (ts : List Tm)
  | sco (x : Str) (t : Tm)
  | ans (ss : List Str) (ts : List Tm) (t : Tm)

/-! ### as the program's own tuples -/
def entD : Option Nat → PyData
  | none => .none
  | some n => .int (n : Int)
mutual
def toD : Tm → PyData
  | .act w tab => .tuple [.str "do", .str w, .tuple (tab.map entD)]
  | .nam k x => .tuple [.str k, .str x]
  | .ser k ts => .tuple (.str k :: toDs ts)
  | .cal x ts => .tuple (.str "call" :: .str x :: toDs ts)
  | .sco x t => .tuple [.str "scope", .str x, toD t]
  | .ans ss ts t => .tuple [.str "answer", .tuple (prs ts ss), toD t]
def toDs : List Tm → List PyData
  | [] => []
  | t :: ts => toD t :: toDs ts
def prs : List Tm → List Str → List PyData
  | t :: ts, s :: ss => .tuple [.str s, toD t] :: prs ts ss
  | _, _ => []
end
theorem toDs_map : ∀ ts : List Tm, toDs ts = ts.map toD
  | [] => by simp [toDs]
  | t :: ts => by simp [toDs, toDs_map ts]
theorem toDs_len (ts : List Tm) : (toDs ts).length = ts.length := by rw [toDs_map, List.length_map]

/-! ### the terms in a term -/
def kids : Tm → List Tm
  | .act _ _ => []
  | .nam _ _ => []
  | .ser _ ts => ts
  | .cal _ ts => ts
  | .sco _ t => [t]
  | .ans _ ts t => ts ++ [t]
mutual
def subs : Tm → List Tm
  | .act w tab => [.act w tab]
  | .nam k x => [.nam k x]
  | .ser k ts => .ser k ts :: subss ts
  | .cal x ts => .cal x ts :: subss ts
  | .sco x t => .sco x t :: subs t
  | .ans ss ts t => .ans ss ts t :: (subss ts ++ subs t)
def subss : List Tm → List Tm
  | [] => []
  | t :: ts => subs t ++ subss ts
end
theorem subss_flat : ∀ ts : List Tm, subss ts = ts.flatMap subs
  | [] => by simp [subss]
  | t :: ts => by simp [subss, subss_flat ts]
theorem subs_eq (t : Tm) : subs t = t :: (kids t).flatMap subs := by
  cases t <;> simp [subs, kids, subss_flat]
def size (t : Tm) : Nat := (subs t).length
theorem size_eq (t : Tm) : size t = 1 + ((kids t).map size).sum := by
  unfold size
  rw [subs_eq, List.length_cons, List.length_flatMap, Nat.add_comm]
theorem size_pos (t : Tm) : 0 < size t := by rw [size_eq]; omega
mutual
def dep : Tm → Nat
  | .act _ _ => 1
  | .nam _ _ => 1
  | .ser _ ts => deps ts + 1
  | .cal _ ts => deps ts + 1
  | .sco _ t => dep t + 1
  | .ans _ ts t => max (deps ts) (dep t) + 1
def deps : List Tm → Nat
  | [] => 0
  | t :: ts => max (dep t) (deps ts)
end
theorem dep_le : ∀ {ts : List Tm} {t : Tm}, t ∈ ts → dep t ≤ deps ts
  | a :: r, t, h => by
    unfold deps
    rcases List.mem_cons.mp h with e | h
    · subst e; exact Nat.le_max_left _ _
    · exact Nat.le_trans (dep_le h) (Nat.le_max_right _ _)
theorem dep_kids {t u : Tm} (h : u ∈ kids t) : dep u + 1 ≤ dep t := by
  cases t with
  | act => simp [kids] at h
  | nam => simp [kids] at h
  | ser k ts => have q : dep u ≤ deps ts := dep_le h; simp only [dep]; omega
  | cal k ts => have q : dep u ≤ deps ts := dep_le h; simp only [dep]; omega
  | sco x t =>
    have e : u = t := by simpa [kids] using h
    subst e
    simp only [dep]; omega
  | ans ss ts t =>
    simp only [dep]
    rcases List.mem_append.mp h with h | h
    · have := dep_le h; omega
    · have e : u = t := by simpa using h
      subst e
      omega
theorem dep_pos (t : Tm) : 1 ≤ dep t := by cases t <;> simp only [dep] <;> omega
/-- the labels of the scopes -/
def lab : Tm → List Str
  | .sco x _ => [x]
  | _ => []
def labs (t : Tm) : List Str := (subs t).flatMap lab
theorem labs_eq (t : Tm) : labs t = lab t ++ (kids t).flatMap labs := by
  unfold labs
  rw [subs_eq, List.flatMap_cons, List.flatMap_assoc]

/-! ### right terms -/
structure Cfg where
  modes : Nat
  sigs : List Str
  heads : List (Str × Nat)
def lab1 : Tm → List Str → List Str
  | .sco x _, L => L ++ [x]
  | _, L => L
/-- what one node must be -/
def okN (c : Cfg) (own L : List Str) : Tm → Prop
  | .act w tab => isNm w = true ∧ tab.length = c.modes ∧ ∀ e ∈ tab, ∀ n, e = some n → n < c.modes
  | .nam k x => isNm x = true ∧ ((k = "run" ∧ x ∈ own) ∨ (k = "exit" ∧ x ∈ L) ∨ (k = "raise" ∧ x ∈ c.sigs))
  | .ser k ts => k = "seq" ∨ ((k = "or" ∨ k = "and") ∧ ts ≠ []) ∨ (k = "case" ∧ ts.length = c.modes)
  | .cal x ts => isNm x = true ∧ c.heads.lookup x = some ts.length
  | .sco x _ => isNm x = true
  | .ans ss ts _ => ss.length = ts.length ∧ ss ≠ [] ∧ asc ss = true ∧ ss.length ≤ 2 ∧ ∀ s ∈ ss, isNm s = true ∧ s ∈ c.sigs
mutual
def Wf (c : Cfg) (own : List Str) : List Str → Tm → Prop
  | L, .act w tab => okN c own L (.act w tab)
  | L, .nam k x => okN c own L (.nam k x)
  | L, .ser k ts => okN c own L (.ser k ts) ∧ Wfs c own L ts
  | L, .cal x ts => okN c own L (.cal x ts) ∧ Wfs c own L ts
  | L, .sco x t => okN c own L (.sco x t) ∧ Wf c own (L ++ [x]) t
  | L, .ans ss ts t => okN c own L (.ans ss ts t) ∧ Wfs c own L ts ∧ Wf c own L t
def Wfs (c : Cfg) (own : List Str) : List Str → List Tm → Prop
  | _, [] => True
  | L, t :: ts => Wf c own L t ∧ Wfs c own L ts
end
theorem wfs_iff {c : Cfg} {own L : List Str} : ∀ {ts : List Tm}, Wfs c own L ts ↔ ∀ t ∈ ts, Wf c own L t
  | [] => by simp [Wfs]
  | t :: ts => by simp [Wfs, wfs_iff (ts := ts)]
theorem wf_iff {c : Cfg} {own L : List Str} {t : Tm} : Wf c own L t ↔ okN c own L t ∧ ∀ u ∈ kids t, Wf c own (lab1 t L) u := by
  cases t with
  | act => simp [Wf, kids]
  | nam => simp [Wf, kids]
  | ser => simp [Wf, kids, lab1, wfs_iff]
  | cal => simp [Wf, kids, lab1, wfs_iff]
  | sco => simp [Wf, kids, lab1]
  | ans ss ts t =>
    simp only [Wf, kids, lab1, wfs_iff, List.mem_append, List.mem_singleton]
    constructor
    · rintro ⟨h1, h2, h3⟩
      exact ⟨h1, fun u hu => hu.elim (h2 u) fun e => e ▸ h3⟩
    · rintro ⟨h1, h2⟩
      exact ⟨h1, fun u hu => h2 u (.inl hu), h2 t (.inr rfl)⟩
structure OkBody (c : Cfg) (own : List Str) (t : Tm) : Prop where
  wf : Wf c own [] t
  nd : (labs t).Nodup
  dp : dep t ≤ 6
  sz : size t ≤ 40

/-! ### programs -/
structure Rw where
  name : Str
  own : List Str
  body : Tm
structure Pl where
  modes : Nat
  sigs : List Str
  rows : List Rw
def cfg (p : Pl) : Cfg := ⟨p.modes, p.sigs, p.rows.map fun r => (r.name, r.own.length)⟩
structure OkRw (c : Cfg) (r : Rw) : Prop where
  nm : isNm r.name = true
  own : (∀ x ∈ r.own, isNm x = true) ∧ r.own.Nodup ∧ r.own.length ≤ 3
  bd : OkBody c r.own r.body
structure OkPl (p : Pl) : Prop where
  m1 : 1 ≤ p.modes
  m3 : p.modes ≤ 3
  sg : (∀ x ∈ p.sigs, isNm x = true) ∧ asc p.sigs = true ∧ p.sigs.length ≤ 2
  rw_ : 1 ≤ p.rows.length ∧ p.rows.length ≤ 10
  nd : (p.rows.map (·.name)).Nodup
  main : (p.rows.map fun r => (r.name, r.own)).lookup ("main" : Str) = some []
  ok : ∀ r ∈ p.rows, OkRw (cfg p) r

/-! ### no lists within -/
mutual
theorem noL_toD : ∀ t : Tm, noL (toD t) = true
  | .act w tab => by
    have h : ∀ tab : List (Option Nat), noLs (tab.map entD) = true := fun tab => by
      induction tab with
      | nil => rfl
      | cons e r ih => cases e <;> simp [noLs, noL, entD, ih]
    simp [toD, noL, noLs, h tab]
  | .nam k x => by simp [toD, noL, noLs]
  | .ser k ts => by simp [toD, noL, noLs, noL_toDs ts]
  | .cal x ts => by simp [toD, noL, noLs, noL_toDs ts]
  | .sco x t => by simp [toD, noL, noLs, noL_toD t]
  | .ans ss ts t => by simp [toD, noL, noLs, noL_prs ts ss, noL_toD t]
theorem noL_toDs : ∀ ts : List Tm, noLs (toDs ts) = true
  | [] => by simp [toDs, noLs]
  | t :: ts => by simp [toDs, noLs, noL_toD t, noL_toDs ts]
theorem noL_prs : ∀ (ts : List Tm) (ss : List Str), noLs (prs ts ss) = true
  | [], ss => by cases ss <;> simp [prs, noLs]
  | t :: ts, [] => by simp [prs, noLs]
  | t :: ts, s :: ss => by simp [prs, noLs, noL, noL_toD t, noL_prs ts ss]
end
end K8
/-! free_of: why its loop ends (plain) -/
namespace K8
open PySem PySem.Spec L2
open PyProof.Rows hiding St
def leS (a b : Str) : Prop := a.cps.toList ≤ b.cps.toList
theorem leS_of {a b : Str} (h : ltCps b.cps.toList a.cps.toList = false) : leS a b := by
  rw [ltCps_eq] at h
  unfold leS
  exact List.not_lt.mp (of_decide_eq_false h)
theorem leS_trans {a b c : Str} (h : leS a b) (h2 : leS b c) : leS a c := List.le_trans h h2
theorem leS_anti {a b : Str} (h : leS a b) (h2 : leS b a) : a = b := by
  have e : a.cps.toList = b.cps.toList := List.le_antisymm h h2
  cases a
  cases b
  exact congrArg Str.mk (Array.toList_inj.mp e)
theorem sortedS_pw : ∀ {l : List Str}, sortedS l = true → l.Pairwise leS
  | [], _ => List.Pairwise.nil
  | [x], _ => by simp
  | x :: y :: r, h => by
    have h' : (!ltCps y.cps.toList x.cps.toList && risingS y r) = true := h
    rw [Bool.and_eq_true, Bool.not_eq_true'] at h'
    have ih := sortedS_pw (l := y :: r) h'.2
    have hxy := leS_of h'.1
    refine List.pairwise_cons.mpr ⟨fun z hz => ?_, ih⟩
    rcases List.mem_cons.mp hz with rfl | hz
    · exact hxy
    · exact leS_trans hxy ((List.pairwise_cons.mp ih).1 z hz)
theorem sorted_eq : ∀ {xs ys : List Str}, xs.Pairwise leS → ys.Pairwise leS → xs.Perm ys → xs = ys
  | [], ys, _, _, p => (List.Perm.nil_eq p)
  | x :: xs, [], _, _, p => absurd p.length_eq (by simp)
  | x :: xs, y :: ys, h1, h2, p => by
    obtain ⟨a1, a2⟩ := List.pairwise_cons.mp h1
    obtain ⟨b1, b2⟩ := List.pairwise_cons.mp h2
    have e : x = y := by
      have hx : x ∈ y :: ys := p.mem_iff.mp List.mem_cons_self
      have hy : y ∈ x :: xs := p.mem_iff.mpr List.mem_cons_self
      rcases List.mem_cons.mp hx with e | hx
      · exact e
      · rcases List.mem_cons.mp hy with e | hy
        · exact e.symm
        · exact leS_anti (a1 y hy) (b1 x hx)
    subst e
    rw [sorted_eq a2 b2 ((List.perm_cons x).mp p)]
/-- an item: (is it a raise, its name), the signals answered around -/
abbrev FIt := (Bool × Str) × List Str
def zsOf (fr : Str → List Str) (it : FIt) : List Str := if it.1.1 = true then [it.1.2] else fr it.1.2
def Fm (its : List FIt) (fr : Str → List Str) (s : Str) : Prop := ∃ it ∈ its, s ∈ zsOf fr it ∧ s ∉ it.2
structure FrOk (names sg : List Str) (its : Str → List FIt) (fr : Str → List Str) : Prop where
  so : ∀ n ∈ names, sortedS (fr n) = true
  nd : ∀ n ∈ names, (fr n).Nodup
  sb : ∀ n ∈ names, ∀ s ∈ fr n, s ∈ sg
  gr : ∀ n ∈ names, ∀ s ∈ fr n, Fm (its n) fr s
def setFr (fr : Str → List Str) (n : Str) (zs : List Str) : Str → List Str := fun m => if m = n then zs else fr m
def dfc (names : List Str) (fr : Str → List Str) : Nat := (names.map fun n => 2 - (fr n).length).sum
theorem Fm.mono {its : List FIt} {fr fr' : Str → List Str} {s : Str} (h : ∀ n, ∀ s ∈ fr n, s ∈ fr' n) (f : Fm its fr s) : Fm its fr' s := by
  obtain ⟨it, h1, h2, h3⟩ := f
  refine ⟨it, h1, ?_, h3⟩
  unfold zsOf at h2 ⊢
  split
  · rename_i c; rw [if_pos c] at h2; exact h2
  · rename_i c; rw [if_neg c] at h2; exact h _ s h2
theorem sub_len {xs ys : List Str} (nd : xs.Nodup) (h : ∀ x ∈ xs, x ∈ ys) : xs.length ≤ ys.length := by
  induction xs generalizing ys with
  | nil => exact Nat.zero_le _
  | cons x xs ih =>
    obtain ⟨n1, n2⟩ := List.nodup_cons.mp nd
    have hx := h x List.mem_cons_self
    have := ih n2 (ys := ys.erase x) fun y hy => (List.mem_erase_of_ne (fun e => n1 (by rw [← e]; exact hy))).mpr (h y (List.mem_cons_of_mem _ hy))
    rw [List.length_erase_of_mem hx] at this
    have := List.length_pos_of_mem hx
    rw [List.length_cons]
    omega
theorem sub_perm {xs ys : List Str} (n1 : xs.Nodup) (n2 : ys.Nodup) (h : ∀ x ∈ xs, x ∈ ys) (hl : ys.length ≤ xs.length) : xs.Perm ys := by
  induction xs generalizing ys with
  | nil => rw [List.eq_nil_of_length_eq_zero (Nat.le_zero.mp hl)]
  | cons x xs ih =>
    obtain ⟨a1, a2⟩ := List.nodup_cons.mp n1
    have hx := h x List.mem_cons_self
    have p := ih a2 (ys := ys.erase x) (n2.erase x) (fun y hy => (List.mem_erase_of_ne (fun e => a1 (by rw [← e]; exact hy))).mpr (h y (List.mem_cons_of_mem _ hy))) (by
      rw [List.length_erase_of_mem hx]
      rw [List.length_cons] at hl
      omega)
    exact (p.cons x).trans (List.perm_cons_erase hx).symm
theorem dfc_set : ∀ {names : List Str} {fr : Str → List Str} {n : Str} {zs : List Str}, names.Nodup → n ∈ names → (fr n).length < zs.length → zs.length ≤ 2 → dfc names (setFr fr n zs) < dfc names fr
  | m :: names, fr, n, zs, nd, hn, h1, h2 => by
    obtain ⟨a1, a2⟩ := List.nodup_cons.mp nd
    have e : ∀ (fr : Str → List Str), dfc (m :: names) fr = (2 - (fr m).length) + dfc names fr := fun fr => by simp [dfc]
    rw [e, e]
    rcases List.mem_cons.mp hn with rfl | hn
    · have e2 : dfc names (setFr fr n zs) = dfc names fr := by
        unfold dfc
        congr 1
        refine List.map_congr_left fun x hx => ?_
        have : x ≠ n := fun z => a1 (by rw [← z]; exact hx)
        unfold setFr
        rw [if_neg this]
      rw [e2]
      unfold setFr
      rw [if_pos rfl]
      omega
    · have := dfc_set (fr := fr) a2 hn h1 h2
      have e3 : setFr fr n zs m = fr m := by
        unfold setFr
        rw [if_neg fun z => a1 (by rw [z]; exact hn)]
      rw [e3]
      omega
theorem fr_step {names sg : List Str} {its : Str → List FIt} {fr : Str → List Str} {n : Str} {now : List Str} (nd : names.Nodup) (sn : sg.length ≤ 2) (ok : FrOk names sg its fr) (hn : n ∈ names) (hs : sortedS now = true) (hd : now.Nodup) (hm : ∀ s, s ∈ now ↔ Fm (its n) fr s)
    (hsub : ∀ s ∈ now, s ∈ sg) (hne : now ≠ fr n) : FrOk names sg its (setFr fr n now) ∧ dfc names (setFr fr n now) < dfc names fr := by
  have up : ∀ s ∈ fr n, s ∈ now := fun s hs => (hm s).mpr (ok.gr n hn s hs)
  have hle : ∀ m, ∀ s ∈ fr m, s ∈ setFr fr n now m := fun m s hs => by
    unfold setFr
    split
    · rename_i c; rw [c] at hs; exact up s hs
    · exact hs
  have hlt : (fr n).length < now.length := by
    have h1 := sub_len (ok.nd n hn) up
    rcases Nat.lt_or_eq_of_le h1 with h | h
    · exact h
    · exact absurd (sorted_eq (sortedS_pw hs) (sortedS_pw (ok.so n hn)) (sub_perm (ok.nd n hn) hd up (by omega)).symm) hne
  have h2 : now.length ≤ 2 := Nat.le_trans (sub_len hd hsub) sn
  have c1 : ∀ m, setFr fr n now m = now ∧ m = n ∨ setFr fr n now m = fr m ∧ m ≠ n := fun m => by
    unfold setFr
    split
    · rename_i c; exact .inl ⟨rfl, c⟩
    · rename_i c; exact .inr ⟨rfl, c⟩
  refine ⟨⟨fun m hm' => ?_, fun m hm' => ?_, fun m hm' s hs' => ?_, fun m hm' s hs' => ?_⟩, dfc_set nd hn hlt h2⟩
  · rcases c1 m with ⟨e, _⟩ | ⟨e, _⟩ <;> rw [e]
    · exact hs
    · exact ok.so m hm'
  · rcases c1 m with ⟨e, _⟩ | ⟨e, _⟩ <;> rw [e]
    · exact hd
    · exact ok.nd m hm'
  · rcases c1 m with ⟨e, _⟩ | ⟨e, _⟩ <;> rw [e] at hs'
    · exact hsub s hs'
    · exact ok.sb m hm' s hs'
  · rcases c1 m with ⟨e, e2⟩ | ⟨e, _⟩ <;> rw [e] at hs'
    · rw [e2]
      exact ((hm s).mp hs').mono hle
    · exact (ok.gr m hm' s hs').mono hle
end K8
/-! Short forms of the rules that come over and over. -/
namespace K8
open PySem PySem.Spec L2 Evl
open PyProof.Rows hiding St
section
variable {X : Cx} {K : PySem.W.Frag} {mg : Str → Option Value} {e e2 : Expr} {ta tb : TE} {p p2 pos : Pos}
theorem boot_range : bootBuiltins "range" = some (.type "range") := by decide +kernel
theorem boot_max : bootBuiltins "max" = some (.builtin "max") := by decide +kernel
theorem boot_min : bootBuiltins "min" = some (.builtin "min") := by decide +kernel
theorem boot_abs : bootBuiltins "abs" = some (.builtin "abs") := by decide +kernel
theorem boot_sorted : bootBuiltins "sorted" = some (.builtin "sorted") := by decide +kernel
theorem boot_set : bootBuiltins "set" = some (.type "set") := by decide +kernel
theorem boot_enumerate : bootBuiltins "enumerate" = some (.type "enumerate") := by decide +kernel
/-- len(e) -/
theorem p_len (T : Txt K mg) (ha : PE X e ta) (hm : X.mg = mg := by rfl) (hK : X.K = K := by rfl) (hg : Gl X "len" := by rfl)
    (he : starEach [e] X.env = (false, eval e X.env) :: starEach [] X.env := by rfl) : PE X (.Call (.Name "len" p) [e] [] pos) (tCB (rLenS K) (tCons ta tNil)) := by
  subst hm
  subst hK
  exact pe_callB call_lenS hg T.len PySem.boot_len (pa_cons ha pa_nil he) (by decide) (by decide) he
/-- isinstance(e, T) -/
theorem p_isi {n : String} {x : Str} (T : Txt K mg) (ha : PE X e ta) (hx : mg x = none) (hv : bootBuiltins x = some (.type n)) (hm : X.mg = mg := by rfl) (hK : X.K = K := by rfl) (hg : Gl X "isinstance" := by rfl) (hg2 : Gl X x := by rfl) (hn : x ≠ "__name__" := by decide) (hd : (x == ("__debug__" : Str)) = false := by decide)
    (he : starEach [e, .Name x p2] X.env = (false, eval e X.env) :: starEach [.Name x p2] X.env := by rfl) : PE X (.Call (.Name "isinstance" p) [e, .Name x p2] [] pos) (tCB (rIsi K) (tCons ta (tCons (tC (.ty n)) tNil))) := by
  subst hm
  subst hK
  exact pe_callB call_isi hg T.isinstance boot_isinstance (pa_cons ha (pa_cons (pe_ty hx hv hg2 hn hd) pa_nil) he) (by decide) (by decide) he
/-- all(e) -/
theorem p_all (T : Txt K mg) (ha : PE X e ta) (hm : X.mg = mg := by rfl) (hK : X.K = K := by rfl) (hc : X.calm = true := by rfl) (hg : Gl X "all" := by rfl)
    (he : starEach [e] X.env = (false, eval e X.env) :: starEach [] X.env := by rfl) : PE X (.Call (.Name "all" p) [e] [] pos) (tCB (rAll K) (tCons ta tNil)) := by
  subst hm
  subst hK
  exact pe_callB (cr_all hc) hg T.all boot_all (pa_cons ha pa_nil he) (by decide) (by decide) he
theorem p_ixT (ha : PE X e ta) (hb : PE X e2 tb) (hs : PlainIx e2 := by exact fun _ _ => rfl) (hK : X.K = K := by rfl) : PE X (.Subscript e e2 pos) (tOp (rIxT K) ta tb) := by
  subst hK
  exact pe_ix ix_tup ha hb hs
/-- *e in a display -/
theorem p_star {te : TE} {t : TA} {es : List Expr} (K : PySem.W.Frag) (he : PE X e te) (hr : PA X es t) (hs : starEach (.Starred e p :: es) X.env = (true, eval e X.env) :: starEach es X.env := by rfl) (hK : X.K = K := by rfl) : PA X (.Starred e p :: es) (StX.tStar K te t) := by
  subst hK
  exact StX.pa_star he hr hs
theorem p_ixL (ha : PE X e ta) (hb : PE X e2 tb) (hs : PlainIx e2 := by exact fun _ _ => rfl) (hK : X.K = K := by rfl) : PE X (.Subscript e e2 pos) (tOp (rIxL K) ta tb) := by
  subst hK
  exact pe_ix ix_list ha hb hs
/-- a in b, b a list or tuple of flat values -/
theorem p_in (K : PySem.W.Frag) (ha : PE X e ta) (hb : PE X e2 tb) (hm : behindInMarks .In e2 = false := by rfl) (hK : X.K = K := by rfl) : PE X (.Compare e [.In] [e2] pos) (tOp (rIn K false) ta tb) := by
  subst hK
  exact pe_cmpR op_in_seq ha hb hm
theorem p_notin (K : PySem.W.Frag) (ha : PE X e ta) (hb : PE X e2 tb) (hm : behindInMarks .NotIn e2 = false := by rfl) (hK : X.K = K := by rfl) : PT X (.Compare e [.NotIn] [e2] pos) (tTest (tOp (rIn K true) ta tb)) := by
  subst hK
  exact pt_cmpR op_notIn_seq ha hb hm
theorem p_fld {f : Str} (K : PySem.W.Frag) (ha : PE X e ta) (hb : attributeBase e f X.env (eval e X.env) = eval e X.env := by rfl) (hK : X.K = K := by rfl) : PE X (.Attribute e f pos) (tFld K ta f) := by
  subst hK
  exact pe_fld ha hb
/-- o.append(e) -/
theorem p_app (K : PySem.W.Frag) (ho : PE X e ta) (ha : PE X e2 tb) (hK : X.K = K := by rfl) (hbase : attributeBase e "append" X.env (eval e X.env) = eval e X.env := by rfl)
    (hfew : ((backTo pos (starEach [e2] X.env)).all (fun x => !x.1) && (backToKw pos (keywordEach [] X.env)).all (fun x => x.1.isSome) && decide ([e2].length + ([] : List Keyword).length + (if ([] : List Keyword).isEmpty then 0 else 1) < 30)) = true := by rfl)
    (hline : (p.endLine == pos.line) = true := by rfl) (hs : starEach [e2] X.env = (false, eval e2 X.env) :: starEach [] X.env := by rfl) : PE X (.Call (.Attribute e "append" p) [e2] [] pos) (tBM K "list" rAppend ta (tCons tb tNil)) := by
  subst hK
  exact pe_bm PySem.F.plainAttrs_list PySem.F.slot_list_append PySem.F.type_list_append mt_append ho (pa_cons ha pa_nil hs) hbase hfew hline hs rfl
theorem p_ext (K : PySem.W.Frag) (ho : PE X e ta) (ha : PE X e2 tb) (hK : X.K = K := by rfl) (hbase : attributeBase e "extend" X.env (eval e X.env) = eval e X.env := by rfl)
    (hfew : ((backTo pos (starEach [e2] X.env)).all (fun x => !x.1) && (backToKw pos (keywordEach [] X.env)).all (fun x => x.1.isSome) && decide ([e2].length + ([] : List Keyword).length + (if ([] : List Keyword).isEmpty then 0 else 1) < 30)) = true := by rfl)
    (hline : (p.endLine == pos.line) = true := by rfl) (hs : starEach [e2] X.env = (false, eval e2 X.env) :: starEach [] X.env := by rfl) : PE X (.Call (.Attribute e "extend" p) [e2] [] pos) (tBM K "list" rExtend ta (tCons tb tNil)) := by
  subst hK
  exact pe_bm PySem.F.plainAttrs_list PySem.F.slot_list_extend PySem.F.type_list_extend mt_extend ho (pa_cons ha pa_nil hs) hbase hfew hline hs rfl
theorem p_pop (K : PySem.W.Frag) (ho : PE X e ta) (hK : X.K = K := by rfl) (hbase : attributeBase e "pop" X.env (eval e X.env) = eval e X.env := by rfl) (hline : (p.endLine == pos.line) = true := by rfl) :
    PE X (.Call (.Attribute e "pop" p) [] [] pos) (tBM0 K "list" rPop ta) := by
  subst hK
  exact pe_bm0 PySem.F.plainAttrs_list PySem.F.slot_list_pop PySem.F.type_list_pop mt_pop ho hbase hline
theorem ty_l {H : Hp} {a : Addr} {xs : List V} (h : H a = some (.lst xs)) : tyV K "list" (.ref a) H := .inl ⟨rfl, xs, SqL.of h⟩
theorem p_revL {k : Nat} {p1 p2 p3 : Pos} (K : PySem.W.Frag) (he : PE X e ta) (hK : X.K = K := by rfl) : PE X (.Subscript e (.Slice none none (some (.UnaryOp .USub (.Constant (.int 1) k p1) p2)) p3) pos) (tRevL K ta) := by
  subst hK
  exact pe_revL he
end
section
variable {X : Cx} {cs : List MatchCase} {t : TM} {tb : TS} {body : List Stmt} {p0 : Pattern} {zs : List Str} {caps : List Pattern} {xs : List Str} {x : Str} {js : List Nat} {pos : Pos}
theorem pm_A (K : PySem.W.Frag) (n : Nat) (hN : X.N.Nodup) (hp : StrPat p0 zs) (hcap : Caps caps xs) (hs : SlotsOk X xs js) (hb : PSs X body tb) (hr : PMs X cs t) (hc : X.calm = true := by rfl) (hK : X.K = K := by rfl) (hn : xs.length = n := by rfl) :
    PMs X (⟨.MatchSequence (p0 :: caps) pos, none, body⟩ :: cs) (tMA K zs n js tb t) := by
  subst hK
  subst hn
  exact pms_seq hN hc hp hcap hs hb hr
theorem pm_B (K : PySem.W.Frag) (n : Nat) (hN : X.N.Nodup) (hp : StrPat p0 zs) (hcap : CapsS caps xs x) (hs : SlotsOk X (xs ++ [x]) js) (hb : PSs X body tb) (hr : PMs X cs t) (hc : X.calm = true := by rfl) (hK : X.K = K := by rfl) (hn : xs.length = n := by rfl) :
    PMs X (⟨.MatchSequence (p0 :: caps) pos, none, body⟩ :: cs) (tMB K zs n js tb t) := by
  subst hK
  subst hn
  exact pms_star hN hc hp hcap hs hb hr
end
end K8
/-! len(set(xs)), xs a list or tuple of different texts (printed by gen_set.py). -/
namespace K8
open PySem PySem.Spec L2 Evl
open PyProof.Rows hiding St
section
variable {prog : Program} {w : World} {A : Around} {R : Result → Shared → Prop} {I : Addr} {fp wr : List Addr} {G : Array GenState → Array GenState → Prop} {n : Nat} {P : Nat → Value → Prop} {St : Nat → Shared → Prop}
def memN (xs : List Str) (i : Nat) : Str → Bool := fun k => decide (k ∈ xs.take i)
theorem memN_at {xs : List Str} (nd : xs.Nodup) {i : Nat} (h : i < xs.length) : memN xs i (xs.getD i Str.empty) = false ∧ ∀ k, (memN xs i k || decide (k = xs.getD i Str.empty)) = memN xs (i + 1) k := by
  have e : xs.getD i Str.empty = xs[i] := by simp [h]
  have e2 : xs.take (i + 1) = xs.take i ++ [xs[i]] := by simp
  rw [e]
  constructor
  · refine decide_eq_false fun hm => ?_
    obtain ⟨j, hj, q⟩ := List.getElem_of_mem hm
    rw [List.length_take] at hj
    rw [List.getElem_take] at q
    have := (List.getElem_inj nd).mp q
    omega
  · intro k
    have e3 : k ∈ xs.take (i + 1) ↔ (k ∈ xs.take i ∨ k = xs[i]) := by rw [e2, List.mem_append, List.mem_singleton]
    unfold memN
    by_cases a : k ∈ xs.take i
    · rw [decide_eq_true a, decide_eq_true (e3.mpr (.inl a)), Bool.true_or]
    · rw [decide_eq_false a, Bool.false_or]
      exact decide_eq_decide.mpr (e3.trans (or_iff_right a)).symm
theorem loopN (W : WalksS prog w A.in1 I fp wr G n P St) (S : Addr) (hSf : S ∉ fp) (xs : List Str) (hsz : xs.length = n) (nd : xs.Nodup) (hn : n < 4000) (hval : ∀ i v, P i v → ∃ t, v = .str (xs.getD i Str.empty) t) :
    ∀ (k i : Nat) (s : Shared), n - i = k → i ≤ n → St i s → s.heap.SetOf (PySem.strKind prog w) S (memN xs i) i →
      (∀ s', Moved (S :: wr) G s s' → s'.heap.SetOf (PySem.strKind prog w) S (memN xs n) n → R (.ok (.ret .none)) s') → codeAny (model prog w) A (.builtin "set.update.loop" ⟨[.ref S, .ref I], []⟩) R s := by
  have hSw : S ∉ wr := fun h => hSf (W.sub _ h)
  have hsub : ∀ b ∈ wr, b ∈ S :: wr := fun b hb => List.mem_cons_of_mem _ hb
  intro k
  induction k with
  | zero =>
    intro i s hk hi hst hS hR
    have hin : i = n := by omega
    subst hin
    refine codeAny_builtin PyProof.Rows.F.entry_set_update_loop ?_
    rw [Around.under_plainId PyProof.Rows.F.plain_set_update_loop _]
    show wpAny _ A.in1 (pyNext (.ref I) >>= _) _ _ s
    refine wpAny_bind (W.done s _ _ hst fun s' hm => ?_)
    show wpAny _ A.in1 (ret Value.none) _ _ s'
    refine wpAny_pure (hR s' (hm.mono hsub) ?_)
    obtain ⟨o, es, ep, t, ho, rest⟩ := hS
    exact ⟨o, es, ep, t, hm.heap S _ hSw ho, rest⟩
  | succ k ih =>
    intro i s hk hi hst hS hR
    have hlt : i < n := by omega
    obtain ⟨m1, m2⟩ := memN_at nd (show i < xs.length by omega)
    refine codeAny_builtin PyProof.Rows.F.entry_set_update_loop ?_
    rw [Around.under_plainId PyProof.Rows.F.plain_set_update_loop _]
    show wpAny _ A.in1 (pyNext (.ref I) >>= _) _ _ s
    refine wpAny_bind (W.item i s _ _ hlt hst fun v s' hP hst' hm => ?_)
    obtain ⟨t, rfl⟩ := hval i v hP
    have hS' : s'.heap.SetOf (PySem.strKind prog w) S (memN xs i) i := by
      obtain ⟨o, es, ep, tb, ho, rest⟩ := hS
      exact ⟨o, es, ep, tb, hm.heap S _ hSw ho, rest⟩
    show wpAny _ A.in1 (holding [Value.str (xs.getD i Str.empty) t] (setAdd S (.str (xs.getD i Str.empty) t)) >>= _) _ _ s'
    refine wpAny_bind (wpAny_holding ?_)
    unfold setAdd
    refine wpAny_holding ?_
    refine wpAny_bind ((PySem.strKind prog w).pyHash (k := xs.getD i Str.empty) (strKind_is _ _ _ _) ?_)
    refine wpAny_setAddHashed_of (knd := PySem.strKind prog w) (s := { s' with toks := s'.toks + 1 }) (strKind_is _ _ _ _) rfl hS' (by unfold scanBound; omega) fun h' hsb hS2 => ?_
    have hSi : h'.SetOf (PySem.strKind prog w) S (memN xs (i + 1)) (i + 1) := SetOf_congr hS2 m2 (by rw [m1]; rfl)
    refine wpAny_pure ⟨plainId_quiet PyProof.Rows.F.plain_set_update_loop _, ih (i + 1) _ (by omega) hlt (W.frame _ s' _ _ hst' (Nat.le_succ _) fun b hb o e => ?_) hSi fun s'' hm'' hS'' => ?_⟩
    · rw [hsb.2 b (fun h : b = S => hSf (by rw [← h]; exact hb))]; exact e
    · refine hR s'' (Moved.trans W.gtrans ((hm.mono hsub).then_heap (Nat.le_succ _) fun b o hb e => ?_) hm'') hS''
      rw [hsb.2 b (fun h : b = S => hb (by rw [h]; exact List.mem_cons_self))]; exact e
end
section
variable {prog : Program} {w : World} {A : Around} {E : Value → Shared → Prop} {s : Shared}
theorem set_list {l : Addr} {items : Array Value} {xs : List Str} {Q : Value → Shared → Prop} (hh : A.handled = none) (hl : s.heap.IsList l items) (hi : PyProof.Rows.StrsAre items.toList xs) (nd : xs.Nodup) (hn : xs.length < 4000)
    (h : ∀ (h' : Heap) (tk : Nat), h'.SetOf (PySem.strKind prog w) s.heap.objs.size (memN xs items.size) items.size → (∀ b o, b < s.heap.objs.size → s.heap.get? b = some o → h'.get? b = some o) → Q (.ref s.heap.objs.size) { s with heap := h', toks := tk }) :
    wpAny (model prog w) A (call (.type "set") [.ref l]) Q E s := by
  obtain ⟨c, tl, hmro⟩ := PySem.F.called_set.mro
  have hmade := PySem.F.called_set.made
  have hsub := PySem.F.called_set.sub
  refine wpAny_call (codeAny_of_tree ?_)
  show wpAny _ _ (callAny (.type "set") _) _ _ _
  refine wpAny_pure ⟨Code.quiet_builtin _ (by decide +kernel), codeAny_builtin PySem.F.entry_type_call ?_⟩
  rw [Around.under_plain (weight_type_call_type "set" [.ref l] []) rfl]
  have h1 := PySem.F.called_set.notType
  have h2 := PySem.F.called_set.canCreate
  have hct := PySem.F.typeCall_set_1 (.ref l)
  repeat (any_goals (first | assumption | wp_step))
  refine codeAny_mono (code_set_new_1 (.ref l) (E := E) (Q₁ := fun obj s₁ => ∃ led : Bool, obj = .ref s.heap.objs.size ∧ s₁ = { s with heap := s.heap.push { cls := .type "set", dict := none, data := .set #[] 0 (.fresh 0 0 led) } }) fun led => ⟨led, rfl, rfl⟩) fun r s₁ hr => ?_
  cases r with
  | error e => exact hr
  | ok fl =>
    cases fl with
    | ret obj =>
      obtain ⟨led, rfl, rfl⟩ := hr
      have hS : (s.heap.push { cls := .type "set", dict := none, data := .set #[] 0 (.fresh 0 0 led) }).get? s.heap.objs.size = some { cls := .type "set", dict := none, data := .set #[] 0 (.fresh 0 0 led) } := Heap.get?_push_size _ rfl
      have hT : Shared.TypeIs { s with heap := s.heap.push { cls := .type "set", dict := none, data := .set #[] 0 (.fresh 0 0 led) } } (.ref s.heap.objs.size) "set" := ⟨_, hS, rfl⟩
      have hli := PySem.F.called_set.init.lookup
      have hbi := PySem.F.called_set.init.bind (.ref s.heap.objs.size)
      repeat (any_goals (first | assumption | wp_step))
      refine codeAny_mono (codeAny_call_builtin (R := wants (fun r s₂ => r = .none ∧ ∃ h' tk, s₂ = { s with heap := h', toks := tk } ∧ h'.SetOf (PySem.strKind prog w) s.heap.objs.size (memN xs items.size) items.size ∧
          (∀ b o, b < s.heap.objs.size → s.heap.get? b = some o → h'.get? b = some o)) E) PySem.F.called_set.init.plain PySem.F.entry_set_init (check_set_init_1 hT ?_)) fun r₂ s₂ hr₂ => ?_
      · obtain ⟨ol, hol, hcl, nl, hdl⟩ := hl
        obtain ⟨ocls, odict, odata, oslots⟩ := ol
        simp only at hcl hdl
        subst hcl; subst hdl
        have hol' : (s.heap.push { cls := .type "set", dict := none, data := .set #[] 0 (.fresh 0 0 led) }).get? l = some { cls := .type "list", dict := odict, data := .seq items nl, slots := oslots } := Heap.get?_push_of_some _ hol
        have hsls := PySem.F.sub_list_set
        have hslf := PySem.F.sub_list_frozenset
        have hne : (Value.type "list" == Value.type "dict") = false := by decide
        have hl1 : (s.heap.push { cls := .type "set", dict := none, data := .set #[] 0 (.fresh 0 0 led) }).IsList l items := ⟨_, hol', rfl, nl, rfl⟩
        unfold Builtin.«set.__init__» noKeywords Builtin.Frozenset.updateFrom
        generalize hPI : pyIter = PI
        wp_walk
        subst hPI
        refine wpAny_pyIter_list hl1 ?_
        refine wpAny_bind (wpAny_runValue ?_)
        have hlS : l < s.heap.objs.size := Heap.lt_size hol
        have hh3 : A.in1.in1.in1.handled = none := by simp [hh]
        have hneI : l ≠ (s.heap.push { cls := .type "set", dict := none, data := .set #[] 0 (.fresh 0 0 led) }).objs.size := by
          rw [Heap.size_push]; exact Nat.ne_of_lt (Nat.lt_succ_of_lt hlS)
        have hSf : s.heap.objs.size ∉ [(s.heap.push { cls := .type "set", dict := none, data := .set #[] 0 (.fresh 0 0 led) }).objs.size, l] := by
          rw [Heap.size_push]; simp only [List.mem_cons, List.mem_singleton, List.not_mem_nil, or_false, not_or]
          exact ⟨Nat.ne_of_lt (Nat.lt_succ_self _), Nat.ne_of_gt hlS⟩
        have hsz : xs.length = items.size := by rw [← StrsAre.len_eq hi, Array.length_toList]
        have hval : ∀ (i : Nat) (v : Value), items[i]? = some v → ∃ t, v = .str (xs.getD i Str.empty) t := fun i v hv => SS.strs_at hi i v (by rw [Array.getElem?_toList]; exact hv)
        refine loopN ((Walks.list hh3 _ l hneI items).toS) s.heap.objs.size hSf xs hsz nd (by rw [← hsz]; exact hn) hval (items.size - 0) 0 _ (by omega) (Nat.zero_le _) ⟨⟨_, Heap.get?_push_size _ rfl, rfl, rfl⟩, (hl1.push _)⟩ ?hS0 ?hR
        case hS0 =>
          have hget : ((s.heap.push { cls := .type "set", dict := none, data := .set #[] 0 (.fresh 0 0 led) }).push { cls := .type "list_iterator", data := .fields #[.ref l, .int 0 0] }).get? s.heap.objs.size
              = some { cls := .type "set", dict := none, data := .set #[] 0 (.fresh 0 0 led) } := Heap.get?_push_of_some _ hS
          exact PyProof.Rows.SetOf_congr ((PyProof.Rows.setObjOf_fresh (knd := PySem.strKind prog w) led).setOf hget (by unfold scanBound; omega)) (fun k => (decide_eq_false (by simp)).symm) rfl
        case hR =>
          intro s' hm hS'
          obtain ⟨h', g', d', tk', os'⟩ := s'
          have eg : g' = s.gens := hm.gens
          have ed : d' = s.drawn := hm.drawn
          have eo : os' = s.os := hm.os
          subst eg; subst ed; subst eo
          show wpAny _ _ _ _ _ _
          refine wpAny_pure ?_
          show wpAny _ _ (ret Value.none) _ _ _
          refine wpAny_pure ⟨rfl, h', tk', rfl, hS', fun b o hb e => ?_⟩
          have hb1 : b ≠ s.heap.objs.size := Nat.ne_of_lt hb
          have hb2 : b ≠ (s.heap.push { cls := .type "set", dict := none, data := .set #[] 0 (.fresh 0 0 led) }).objs.size := by
            rw [Heap.size_push]; exact Nat.ne_of_lt (Nat.lt_succ_of_lt hb)
          exact hm.heap b o (by simp only [List.mem_cons, List.mem_singleton, List.not_mem_nil, or_false, not_or]; exact ⟨hb1, hb2⟩) (Heap.get?_push_of_some _ (Heap.get?_push_of_some _ e))
      · cases r₂ with
        | error e => exact hr₂
        | ok fl₂ =>
          cases fl₂ with
          | ret r =>
            obtain ⟨rfl, h', tk, rfl, hS', hk'⟩ := hr₂
            repeat (any_goals (first | assumption | wp_step))
            exact h _ _ hS' hk'
          | _ => exact hr₂.elim
    | _ => exact hr.elim
theorem set_tuple {l : Addr} {items : Array Value} {xs : List Str} {Q : Value → Shared → Prop} (hh : A.handled = none) (hl : s.heap.IsTuple l items) (hi : PyProof.Rows.StrsAre items.toList xs) (nd : xs.Nodup) (hn : xs.length < 4000)
    (h : ∀ (h' : Heap) (tk : Nat), h'.SetOf (PySem.strKind prog w) s.heap.objs.size (memN xs items.size) items.size → (∀ b o, b < s.heap.objs.size → s.heap.get? b = some o → h'.get? b = some o) → Q (.ref s.heap.objs.size) { s with heap := h', toks := tk }) :
    wpAny (model prog w) A (call (.type "set") [.ref l]) Q E s := by
  obtain ⟨c, tl, hmro⟩ := PySem.F.called_set.mro
  have hmade := PySem.F.called_set.made
  have hsub := PySem.F.called_set.sub
  refine wpAny_call (codeAny_of_tree ?_)
  show wpAny _ _ (callAny (.type "set") _) _ _ _
  refine wpAny_pure ⟨Code.quiet_builtin _ (by decide +kernel), codeAny_builtin PySem.F.entry_type_call ?_⟩
  rw [Around.under_plain (weight_type_call_type "set" [.ref l] []) rfl]
  have h1 := PySem.F.called_set.notType
  have h2 := PySem.F.called_set.canCreate
  have hct := PySem.F.typeCall_set_1 (.ref l)
  repeat (any_goals (first | assumption | wp_step))
  refine codeAny_mono (code_set_new_1 (.ref l) (E := E) (Q₁ := fun obj s₁ => ∃ led : Bool, obj = .ref s.heap.objs.size ∧ s₁ = { s with heap := s.heap.push { cls := .type "set", dict := none, data := .set #[] 0 (.fresh 0 0 led) } }) fun led => ⟨led, rfl, rfl⟩) fun r s₁ hr => ?_
  cases r with
  | error e => exact hr
  | ok fl =>
    cases fl with
    | ret obj =>
      obtain ⟨led, rfl, rfl⟩ := hr
      have hS : (s.heap.push { cls := .type "set", dict := none, data := .set #[] 0 (.fresh 0 0 led) }).get? s.heap.objs.size = some { cls := .type "set", dict := none, data := .set #[] 0 (.fresh 0 0 led) } := Heap.get?_push_size _ rfl
      have hT : Shared.TypeIs { s with heap := s.heap.push { cls := .type "set", dict := none, data := .set #[] 0 (.fresh 0 0 led) } } (.ref s.heap.objs.size) "set" := ⟨_, hS, rfl⟩
      have hli := PySem.F.called_set.init.lookup
      have hbi := PySem.F.called_set.init.bind (.ref s.heap.objs.size)
      repeat (any_goals (first | assumption | wp_step))
      refine codeAny_mono (codeAny_call_builtin (R := wants (fun r s₂ => r = .none ∧ ∃ h' tk, s₂ = { s with heap := h', toks := tk } ∧ h'.SetOf (PySem.strKind prog w) s.heap.objs.size (memN xs items.size) items.size ∧
          (∀ b o, b < s.heap.objs.size → s.heap.get? b = some o → h'.get? b = some o)) E) PySem.F.called_set.init.plain PySem.F.entry_set_init (check_set_init_1 hT ?_)) fun r₂ s₂ hr₂ => ?_
      · obtain ⟨ol, hol, hcl, nl, hdl⟩ := hl
        obtain ⟨ocls, odict, odata, oslots⟩ := ol
        simp only at hcl hdl
        subst hcl; subst hdl
        have hol' : (s.heap.push { cls := .type "set", dict := none, data := .set #[] 0 (.fresh 0 0 led) }).get? l = some { cls := .type "tuple", dict := odict, data := .seq items nl, slots := oslots } := Heap.get?_push_of_some _ hol
        have hsls := PySem.F.sub_tuple_set
        have hslf := PySem.F.sub_tuple_frozenset
        have hne : (Value.type "tuple" == Value.type "dict") = false := by decide
        have hl1 : (s.heap.push { cls := .type "set", dict := none, data := .set #[] 0 (.fresh 0 0 led) }).IsTuple l items := ⟨_, hol', rfl, nl, rfl⟩
        unfold Builtin.«set.__init__» noKeywords Builtin.Frozenset.updateFrom
        generalize hPI : pyIter = PI
        wp_walk
        subst hPI
        refine wpAny_pyIter_tuple hl1 ?_
        refine wpAny_bind (wpAny_runValue ?_)
        have hlS : l < s.heap.objs.size := Heap.lt_size hol
        have hh3 : A.in1.in1.in1.handled = none := by simp [hh]
        have hneI : l ≠ (s.heap.push { cls := .type "set", dict := none, data := .set #[] 0 (.fresh 0 0 led) }).objs.size := by
          rw [Heap.size_push]; exact Nat.ne_of_lt (Nat.lt_succ_of_lt hlS)
        have hSf : s.heap.objs.size ∉ [(s.heap.push { cls := .type "set", dict := none, data := .set #[] 0 (.fresh 0 0 led) }).objs.size, l] := by
          rw [Heap.size_push]; simp only [List.mem_cons, List.mem_singleton, List.not_mem_nil, or_false, not_or]
          exact ⟨Nat.ne_of_lt (Nat.lt_succ_self _), Nat.ne_of_gt hlS⟩
        have hsz : xs.length = items.size := by rw [← StrsAre.len_eq hi, Array.length_toList]
        have hval : ∀ (i : Nat) (v : Value), items[i]? = some v → ∃ t, v = .str (xs.getD i Str.empty) t := fun i v hv => SS.strs_at hi i v (by rw [Array.getElem?_toList]; exact hv)
        refine loopN ((Walks.tuple hh3 _ l hneI items).toS) s.heap.objs.size hSf xs hsz nd (by rw [← hsz]; exact hn) hval (items.size - 0) 0 _ (by omega) (Nat.zero_le _) ⟨⟨_, Heap.get?_push_size _ rfl, rfl, rfl⟩, (hl1.push _)⟩ ?hS0 ?hR
        case hS0 =>
          have hget : ((s.heap.push { cls := .type "set", dict := none, data := .set #[] 0 (.fresh 0 0 led) }).push { cls := .type "tuple_iterator", data := .fields #[.ref l, .int 0 0] }).get? s.heap.objs.size
              = some { cls := .type "set", dict := none, data := .set #[] 0 (.fresh 0 0 led) } := Heap.get?_push_of_some _ hS
          exact PyProof.Rows.SetOf_congr ((PyProof.Rows.setObjOf_fresh (knd := PySem.strKind prog w) led).setOf hget (by unfold scanBound; omega)) (fun k => (decide_eq_false (by simp)).symm) rfl
        case hR =>
          intro s' hm hS'
          obtain ⟨h', g', d', tk', os'⟩ := s'
          have eg : g' = s.gens := hm.gens
          have ed : d' = s.drawn := hm.drawn
          have eo : os' = s.os := hm.os
          subst eg; subst ed; subst eo
          show wpAny _ _ _ _ _ _
          refine wpAny_pure ?_
          show wpAny _ _ (ret Value.none) _ _ _
          refine wpAny_pure ⟨rfl, h', tk', rfl, hS', fun b o hb e => ?_⟩
          have hb1 : b ≠ s.heap.objs.size := Nat.ne_of_lt hb
          have hb2 : b ≠ (s.heap.push { cls := .type "set", dict := none, data := .set #[] 0 (.fresh 0 0 led) }).objs.size := by
            rw [Heap.size_push]; exact Nat.ne_of_lt (Nat.lt_succ_of_lt hb)
          exact hm.heap b o (by simp only [List.mem_cons, List.mem_singleton, List.not_mem_nil, or_false, not_or]; exact ⟨hb1, hb2⟩) (Heap.get?_push_of_some _ (Heap.get?_push_of_some _ e))
      · cases r₂ with
        | error e => exact hr₂
        | ok fl₂ =>
          cases fl₂ with
          | ret r =>
            obtain ⟨rfl, h', tk, rfl, hS', hk'⟩ := hr₂
            repeat (any_goals (first | assumption | wp_step))
            exact h _ _ hS' hk'
          | _ => exact hr₂.elim
    | _ => exact hr.elim
end
section
variable {X : Cx}
/-- len(set(xs)), xs a list or tuple of different texts -/
def tLenSetN (K : PySem.W.Frag) (ta : TE) : TE := fun σ H Q => ta σ H fun x H1 => ∃ l, ∃ xs : List Str, x = .ref l ∧ (SqL K H1 l (xs.map V.str) ∨ SqT K H1 l (xs.map V.str)) ∧ xs.Nodup ∧ xs.length < 4000 ∧ Q (.int xs.length) H1
theorem r_lenSetN {K : PySem.W.Frag} {σ : L2.St} {H : Hp} {ta : TE} {Q : VK} (q : ta σ H fun x H1 => ∃ l, ∃ xs : List Str, x = .ref l ∧ (SqL K H1 l (xs.map V.str) ∨ SqT K H1 l (xs.map V.str)) ∧ xs.Nodup ∧ xs.length < 4000 ∧ Q (.int xs.length) H1) : tLenSetN K ta σ H Q := q
theorem pe_lenSetN {K : PySem.W.Frag} {mg : Str → Option Value} {a : Expr} {ta : TE} {p p2 q pos : Pos} (T : Txt K mg) (ha : PE X a ta) (hm : X.mg = mg := by rfl) (hK : X.K = K := by rfl) (hc : X.calm = true := by rfl) (hg : Gl X "len" := by rfl) (hg2 : Gl X "set" := by rfl)
    (na : starEach [a] X.env = (false, eval a X.env) :: starEach [] X.env := by rfl) : PE X (.Call (.Name "len" p) [.Call (.Name "set" p2) [a] [] q] [] pos) (tLenSetN K ta) := by
  subst hm
  subst hK
  refine ⟨fun pins s σ H Q I h => ?_⟩
  refine Call_ (ld_blt I hg T.len PySem.boot_len ?_)
  refine PyProof.Rows.callWith_builtin1 (PyProof.Rows.args_cons ?_ rfl) rfl rfl
  refine Call_ (ld_blt I hg2 T.set boot_set ?_)
  refine PyProof.Rows.callWith_type1 (PyProof.Rows.args_cons (thn (ha.run pins s σ H _ I h) fun v s1 ⟨x, H1, I1, r1, q1⟩ => PyProof.Rows.args_nil ?_) na) na rfl
  obtain ⟨l, xs, rfl, hq, nd, h1, q1⟩ := q1
  cases r1
  have fin : ∀ (its : List Value), Vals (xs.map V.str) its → ∀ (h' : Heap) (tk : Nat), h'.SetOf (PySem.strKind X.prog X.w) s1.heap.objs.size (memN xs its.toArray.size) its.toArray.size →
      (∀ b o, b < s1.heap.objs.size → s1.heap.get? b = some o → h'.get? b = some o) →
      wpAny (model X.prog X.w) X.A (spliced (backTo pos (starEach [] X.env))) (fun vs s₂ => wpAny (model X.prog X.w) X.A (call (.builtin "len") (Value.ref s1.heap.objs.size :: vs)) (EP X pins σ Q) X.xe s₂) X.xe { s1 with heap := h', toks := tk } := fun its r h' tk hS hk => by
    refine PyProof.Rows.args_nil ?_
    have hl : its.toArray.size = xs.length := by rw [List.size_toArray, ← r.length, List.length_map]
    rw [hl] at hS
    obtain ⟨o, es, ep, t, ho, hex, hd, _, _, _, hf, hn⟩ := hS
    have I2 : Inv X pins σ H1 { s1 with heap := h', toks := tk } := I1.kept fun b o e => hk b o (Heap.lt_size e) e
    refine call_len_set ho hex hd hf (by rw [hn] <;> omega) ⟨.int xs.length, H1, I2.tok _, ⟨_, by rw [hn]⟩, q1⟩
  rcases hq with hq | hq
  · obtain ⟨its, r, pl, hz⟩ := I1.list hq
    exact set_list (I1.ok.hd hc) pl.isList (by simpa using strsAre_of r) nd h1 fun h' tk hS hk => fin its r h' tk hS hk
  · obtain ⟨its, r, pl, hz⟩ := I1.tuple hq
    exact set_tuple (I1.ok.hd hc) pl (by simpa using strsAre_of r) nd h1 fun h' tk hS hk => fin its r h' tk hS hk
end
end K8
/-! Sets of texts that can be walked: a new one, add, sorted. (The library has this for ints and for truth values; here its way is gone for texts.) -/
namespace K8
open PySem PySem.Spec PyProof.Rows L2
def keyT (e : Int × Value) : Str := match e.2 with | .str k _ => k | _ => Str.empty
def GoodT (w : World) (e : Int × Value) : Prop := ∃ k tk, e.2 = Value.str k tk ∧ e.1 = hashStr w k
/-- the set of texts at a: S its members, n their number -/
def SetT (w : World) (h : Heap) (a : Addr) (S : Str → Bool) (n : Nat) : Prop :=
  ∃ o es ep t, h.get? a = some o ∧ o.ExactSet ∧ o.data = .set es ep t ∧ (∀ e ∈ es.toList, GoodT w e) ∧ (es.toList.map keyT).Nodup ∧ (∀ k, S k = true ↔ k ∈ es.toList.map keyT) ∧
    es.size < scanBound ∧ t.fits es.size = true ∧ es.size = n ∧ Ris t.place.toList ∧ (w.params.followText "set-order" = true ∨ t.led = true)
section
variable {P : Program} {w : World} {h h' : Heap} {a : Addr} {S : Str → Bool} {n : Nat}
theorem SetT.at (R : SetT w h a S n) (k : ∀ o, h.get? a = some o → h'.get? a = some o) : SetT w h' a S n := by
  obtain ⟨o, es, ep, t, ho, r⟩ := R
  exact ⟨o, es, ep, t, k o ho, r⟩
theorem goodT_elems {l : List (Int × Value)} (g : ∀ e ∈ l, GoodT w e) : ElemsOf (strKind P w) l := fun e he => by
  obtain ⟨k, tk, h1, h2⟩ := g e he
  exact ⟨⟨k, by rw [h1]; exact strKind_is P w k tk, h2⟩, by rw [h1] <;> rfl⟩
theorem goodT_is {e : Int × Value} (g : GoodT w e) (k : Str) : (strKind P w).is k e.2 = true ↔ keyT e = k := by
  obtain ⟨k0, tk, h1, _⟩ := g
  unfold keyT
  rw [h1]
  constructor
  · intro q
    exact (strKind P w).inj (.str k0 tk) k0 k (strKind_is P w k0 tk) q
  · intro q
    have q : k0 = k := q
    rw [← q]
    exact strKind_is P w k0 tk
theorem goodT_mem {l : List (Int × Value)} (g : ∀ e ∈ l, GoodT w e) (k : Str) : k ∈ l.map keyT ↔ ∃ e ∈ l, (strKind P w).is k e.2 = true := by
  rw [List.mem_map]
  constructor
  · rintro ⟨e, he, q⟩
    exact ⟨e, he, (goodT_is (g e he) k).2 q⟩
  · rintro ⟨e, he, q⟩
    exact ⟨e, he, (goodT_is (g e he) k).1 q⟩
theorem SetT.setOf (R : SetT w h a S n) : h.SetOf (strKind P w) a S n := by
  obtain ⟨o, es, ep, t, ho, hx, hd, g, nd, hm, hb, hf, hn, _⟩ := R
  exact ⟨o, es, ep, t, ho, hx, hd, goodT_elems g, fun k => (hm k).trans (goodT_mem g k), hb, hf, hn⟩
end
section
variable {P : Program} {w : World} {A : Around} {E : Value → Shared → Prop} {s : Shared} {a : Addr} {S : Str → Bool} {n : Nat}
theorem setT_tail {g : Bool → Sem Unit} (hg : ∀ (b : Bool) (s₁ : Shared) (Q' : Unit → Shared → Prop), Q' () s₁ → wpAny (model P w) A (g b) Q' E s₁)
    {o : Obj} {es : Array (Int × Value)} {ep : Nat} {t : SetTable} (ho : s.heap.get? a = some o) (hex : o.ExactSet) (hd : o.data = .set es ep t)
    {es1 : Array (Int × Value)} {t2 : SetTable} {S' : Str → Bool} (g1 : ∀ e ∈ es1.toList, GoodT w e) (nd1 : (es1.toList.map keyT).Nodup) (m1 : ∀ k, S' k = true ↔ k ∈ es1.toList.map keyT)
    (hb1 : es1.size < scanBound) (hf2 : t2.fits es1.size = true) (hr : Ris t2.place.toList) (hl : w.params.followText "set-order" = true ∨ t2.led = true) {wasDummy : Bool} {R : Option Bool → Shared → Prop}
    (hR : ∀ h', Heap.SameBut a s.heap h' → SetT w h' a S' es1.size → R (some true) { s with heap := h' }) :
    wpAny (model P w) A (do
        storeSet a es1 t2
        if (!wasDummy && t2.tooFull) = true then do
            g (relayAll t2 es1 (SetTable.grown es1.size)).2.2
            storeSet a (relayAll t2 es1 (SetTable.grown es1.size)).1 (relayAll t2 es1 (SetTable.grown es1.size)).2.1
            pure (some true)
          else pure (some true)) R E s := by
  refine wpAny_bind (wpAny_storeSet_of ho hd ?_ (fits_of_scanBound hb1))
  have ho1 := store_at (es' := es1) (t' := t2) ho hd
  have sb1 := Heap.SameBut.update s.heap a (Obj.putSet es1 t2)
  split
  · have pm := relayAll_perm t2 es1 (SetTable.grown es1.size)
    have hf3 := relayAll_fits t2 es1 (SetTable.grown es1.size)
    have hr3 := relayAll_ris t2 es1 (SetTable.grown es1.size)
    have hl3 := relayAll_led t2 es1 (SetTable.grown es1.size)
    generalize relayAll t2 es1 (SetTable.grown es1.size) = Z at pm hf3 hr3 hl3 ⊢
    obtain ⟨es2, t3, gave⟩ := Z
    dsimp only at pm hf3 hr3 hl3 ⊢
    have hsz : es2.size = es1.size := by rw [← Array.length_toList, pm.length_eq, Array.length_toList]
    have hb2 : es2.size < scanBound := by rw [hsz]; exact hb1
    refine wpAny_bind (hg _ _ _ ?_)
    refine wpAny_bind (wpAny_storeSet_of ho1 rfl ?_ (fits_of_scanBound hb2))
    have ho2 := store_at (es' := es2) (t' := t3) ho1 rfl
    refine wpAny_pure (hR _ (sb1.trans (Heap.SameBut.update _ a _)) ?_)
    exact ⟨_, es2, _, t3, ho2, hex, rfl, fun e he => g1 e (pm.mem_iff.mp he), (pm.map keyT).nodup_iff.mpr nd1, fun k => (m1 k).trans (pm.map keyT).mem_iff.symm, hb2, hf3, hsz, hr3,
      hl.imp id fun z => by rw [hl3]; exact z⟩
  · exact wpAny_pure (hR _ sb1 ⟨_, es1, _, t2, ho1, hex, rfl, g1, nd1, m1, hb1, hf2, rfl, hr, hl⟩)
theorem setT_hashed {k : Str} {tk : Tok} {Q : Bool → Shared → Prop} (R : SetT w s.heap a S n) (room : n + 1 < scanBound)
    (hQ : ∀ h', Heap.SameBut a s.heap h' → SetT w h' a (fun j => S j || decide (j = k)) (if S k = true then n else n + 1) → Q (!S k) { s with heap := h' }) :
    wpAny (model P w) A (setAddHashed a (.str k tk) ((strKind P w).hash k)) Q E s := by
  obtain ⟨o, es, ep, t, ho, hex, hd, g, nd, hm, hb, hf, hn, hr, hl⟩ := R
  have hkey : (strKind P w).is k (.str k tk) = true := strKind_is P w k tk
  have hsc : (Value.str k tk).scannable = true := rfl
  have hel : ElemsOf (strKind P w) es.toList := goodT_elems g
  unfold setAddHashed setAddHashedIn
  refine wpAny_holding (wpAny_bind (wpAny_setState_of ho hd hf ?_))
  dsimp only
  rw [byScan_of hsc hb hel]
  simp only [↓reduceIte]
  unfold setAddByScan
  refine wpAny_bind ?_
  refine wpAny_bind (wpAny_rule ?_)
  refine wpAny_bind (wpAny_setScan_of hkey ho hd hf hel ?_)
  cases hfi : List.findIdx? (fun e => (strKind P w).is k e.2) es.toList with
  | some j =>
    dsimp only
    obtain ⟨hj, pj, _⟩ := List.findIdx?_eq_some_iff_getElem.mp hfi
    have hSk : S k = true := (hm k).2 ((goodT_mem (P := P) (w := w) g k).2 ⟨es.toList[j], List.getElem_mem hj, pj⟩)
    refine wpAny_pure (wpAny_pure ?_)
    have q := hQ s.heap (Heap.SameBut.refl a s.heap) ⟨o, es, ep, t, ho, hex, hd, g, nd, fun i => by
      rw [Bool.or_eq_true, decide_eq_true_eq, ← hm i]
      exact ⟨fun z => z.elim id (fun e => e ▸ hSk), .inl⟩, hb, hf, by rw [if_pos hSk]; exact hn, hr, hl⟩
    rw [hSk] at q
    exact q
  | none =>
    dsimp only
    have hnk : k ∉ es.toList.map keyT := fun z => by
      obtain ⟨e, he, q⟩ := (goodT_mem (P := P) (w := w) g k).1 z
      have c := List.findIdx?_eq_none_iff.mp hfi e he
      rw [q] at c
      cases c
    have hSk : S k = false := by
      cases q : S k with
      | false => rfl
      | true => exact absurd ((hm k).1 q) hnk
    have hgw : ∀ (b : Bool) {s₁ : Shared} {Q' : Unit → Shared → Prop}, Q' () s₁ → wpAny (model P w) A (match b with | true => rule "set.scan.the-table-gave-way" | false => pure ()) Q' E s₁ :=
      fun b s₁ Q' q => by cases b <;> first | exact wpAny_pure q | exact wpAny_rule q
    have pm := layNew_perm t es ((strKind P w).hash k) (.str k tk)
    have hf1 := layNew_fits t es ((strKind P w).hash k) (.str k tk)
    have hr1 := layNew_ris t es ((strKind P w).hash k) (.str k tk) hr
    have hl1 := layNew_led t es ((strKind P w).hash k) (.str k tk)
    generalize layNew t es ((strKind P w).hash k) (.str k tk) = Z at pm hf1 hr1 hl1 ⊢
    obtain ⟨es1, t1, wasDummy, gave⟩ := Z
    dsimp only at pm hf1 hr1 hl1 ⊢
    rw [Array.toList_push] at pm
    have pc : es1.toList.Perm (((strKind P w).hash k, Value.str k tk) :: es.toList) := pm.trans (List.perm_append_singleton _ _)
    have pk : (es1.toList.map keyT).Perm (k :: es.toList.map keyT) := pc.map keyT
    have g1 : ∀ e ∈ es1.toList, GoodT w e := fun e he => by
      rcases List.mem_cons.mp (pc.mem_iff.mp he) with z | z
      · rw [z]; exact ⟨k, tk, rfl, rfl⟩
      · exact g e z
    have nd1 : (es1.toList.map keyT).Nodup := pk.nodup_iff.mpr (List.nodup_cons.mpr ⟨hnk, nd⟩)
    have m1 : ∀ i, (S i || decide (i = k)) = true ↔ i ∈ es1.toList.map keyT := fun i => by
      rw [Bool.or_eq_true, decide_eq_true_eq, hm i, pk.mem_iff, List.mem_cons]
      exact Or.comm
    have hsz : es1.size = n + 1 := by rw [← Array.length_toList, pc.length_eq, List.length_cons, Array.length_toList, hn]
    have hb1 : es1.size < scanBound := by rw [hsz]; exact room
    have hled : w.params.followText "set-order" = true ∨ t1.led = true := hl.imp id fun z => by rw [hl1]; exact z
    have fin : ∀ h', Heap.SameBut a s.heap h' → SetT w h' a (fun j => S j || decide (j = k)) es1.size → Q true { s with heap := h' } := fun h' sb r => by
      have q := hQ h' sb
      rw [hSk] at q
      rw [hsz] at r
      exact q r
    refine wpAny_bind (hgw _ ?_)
    split
    · refine wpAny_bind ?_
      rw [hashByValue_scannable 8 hsc]
      refine wpAny_pure ?_
      refine setT_tail ?_ ho hex hd g1 nd1 m1 hb1 ?_ ?_ ?_ ?_
      · intro b s₁ Q' q; cases b <;> first | exact wpAny_pure q | exact wpAny_rule q
      · first | (split <;> first | exact hf1 | exact SetTable.fits_plain_off hf1) | exact hf1
      · first | (split <;> exact hr1) | exact hr1
      · first | (split <;> exact hled) | exact hled
      · intro h' sb r; dsimp only; exact wpAny_pure (fin h' sb r)
    · refine wpAny_bind (wpAny_pure ?_)
      simp only [↓reduceIte]
      refine setT_tail ?_ ho hex hd g1 nd1 m1 hb1 hf1 hr1 hled ?_
      · intro b s₁ Q' q; cases b <;> first | exact wpAny_pure q | exact wpAny_rule q
      · intro h' sb r; dsimp only; exact wpAny_pure (fin h' sb r)
theorem setT_add {k : Str} {tk : Tok} {Q : Value → Shared → Prop} (R : SetT w s.heap a S n) (room : n + 1 < scanBound)
    (hQ : ∀ h', Heap.SameBut a s.heap h' → SetT w h' a (fun j => S j || decide (j = k)) (if S k = true then n else n + 1) → Q .none { s with heap := h', toks := s.toks + 1 }) :
    wpAny (model P w) A (call (.builtin "set.add") [.ref a, .str k tk]) Q E s := by
  have hS : s.heap.SetOf (strKind P w) a S n := R.setOf
  refine wpAny_call_entry F.slot_set_add hS.typeIs F.entry_set_add ?_ (F.args_set_add_2 _ _)
  unfold Builtin.«set.add» Builtin.Frozenset.oneOther
  simp only [List.isEmpty_nil, bind_assoc]
  unfold Builtin.Frozenset.addrOf setAdd
  refine wpAny_bind (wpAny_pure ?_)
  try dsimp only
  refine wpAny_bind (wpAny_pure ?_)
  try dsimp only
  refine wpAny_bind ?_
  refine wpAny_holding ?_
  refine wpAny_bind ((strKind P w).pyHash (strKind_is P w k tk) ?_)
  refine setT_hashed (s := { s with toks := s.toks + 1 }) R room fun h' sb r => ?_
  show wpAny _ _ (ret Value.none) _ _ _
  exact wpAny_pure ⟨_, rfl, hQ h' sb r⟩
theorem setT_fresh {h : Heap} (w : World) : SetT w (h.push { cls := .type "set", dict := none, data := .set #[] 0 (.fresh 0 0 (!w.params.followText "set-order")) }) h.objs.size (fun _ => false) 0 :=
  ⟨_, #[], 0, _, Heap.get?_push_size _ rfl, ⟨rfl, rfl, rfl⟩, rfl, (fun e he => by simp at he), (by simp), (fun k => by simp), (by decide), (by rfl), rfl, List.Pairwise.nil, by
    show _ ∨ (!w.params.followText "set-order") = true
    cases w.params.followText "set-order" <;> simp⟩
theorem strs_of : ∀ (l : List Value), (∀ v ∈ l, ∃ k tk, v = Value.str k tk) → ∃ zs, StrsAre l zs ∧ l.map (fun v => keyT (0, v)) = zs
  | [], _ => ⟨[], .nil, rfl⟩
  | v :: l, h => by
    obtain ⟨k, tk, rfl⟩ := h v List.mem_cons_self
    obtain ⟨zs, a, b⟩ := strs_of l fun u hu => h u (List.mem_cons_of_mem _ hu)
    exact ⟨k :: zs, .cons k tk a, by rw [List.map_cons, b]; rfl⟩
end
end K8
/-! {elt for .. for .. if ..} of texts; sorted(a set of texts). (Printed by gen_sc2.py; the way of the library's list comprehension with two clauses, gone for sets.) -/
namespace K8
open PySem PySem.Spec PyProof.Rows L2
def SetTO (w : World) (a : Addr) (S : PySem.Str → Bool) (n : Nat) : HO := .ext fun h => SetT w h a S n
theorem setTO_new {w : World} {P : Program} {H : Hp} {h : Heap} {a : Addr} {S : PySem.Str → Bool} {n : Nat} (R : SetT w h a S n) : ObjOk P w H h a (SetTO w a S n) := by
  have ⟨o, _, _, _, ho, _⟩ := R
  exact ⟨R, ⟨o, ho⟩, fun h1 h2 p k => SetT.at p k⟩
section
variable {X : Cx}
theorem setTO_get {pins : List (Addr × Obj)} {σ : L2.St} {H : Hp} {s : Shared} {a : Addr} {S : PySem.Str → Bool} {n : Nat} (I : Inv X pins σ H s) (ha : H a = some (SetTO X.w a S n)) : SetT X.w s.heap a S n := (I.hok a _ ha).1
theorem addT_ok {pins : List (Addr × Obj)} {σ : L2.St} {H : Hp} {s : Shared} {E : Value → Shared → Prop} {D : Addr} {S : PySem.Str → Bool} {n : Nat} {y : PySem.Str} {tk : Tok} {Q : Value → Shared → Prop} (I : Inv X pins σ H s) (hD : H D = some (SetTO X.w D S n)) (room : n + 1 < scanBound)
    (h : ∀ s', Inv X pins σ (upd H D (SetTO X.w D (fun j => S j || decide (j = y)) (if S y = true then n else n + 1))) s' → Q .none s') : wpAny (model X.prog X.w) X.A (call (.builtin "set.add") [.ref D, .str y tk]) Q E s := by
  have R := setTO_get I hD
  refine setT_add R room fun h' sb new => ?_
  have he : ∃ u, h'.get? D = some u := by
    have ⟨o, _, _, _, ho, _⟩ := new
    exact ⟨o, ho⟩
  exact h _ (I.write (e := D) (t' := s.toks + 1) (by rw [hD]; trivial) (.inl rfl) (fun b u hb hu => (sb.2 b hb).trans hu) he (setTO_new new))
/-- sorted(a set of texts): a new list of its members, ascending -/
def rSortT (w : World) : List V → Hp → VK → Prop := fun vs H Q => ∃ a S n, vs = [V.ref a] ∧ H a = some (SetTO w a S n) ∧ n < 64 ∧ ∀ (p : Addr) (zs : List PySem.Str), H p = none → zs.Nodup → (∀ k, k ∈ zs ↔ S k = true) → sortedS zs = true → zs.length = n → Q (.ref p) (upd H p (.lst (zs.map V.str)))
theorem cr_sortT (hc : X.calm = true) : CallR X (.builtin "sorted") (rSortT X.w) := by
  intro pins s σ H vs us Q I r h
  obtain ⟨a, S, n, rfl, ha, h64, q⟩ := h
  rw [Vals.ref1 r]
  obtain ⟨o, es, ep, t, ho, hex, hd, g, nd, hm, hb, hf, hn, hr, hl⟩ := setTO_get I ha
  refine Calls.call_function_entry kind_sorted plain_sorted entry_sorted (args_sorted1 _) ?_
  unfold Builtin.«sorted»
  refine wpAny_bind (m := checkCount "sorted" 1 1 _) (wpAny_pure ?_)
  refine wpAny_bind (collect_set (A := X.A.in1) (I.ok.hd hc) ⟨o, ho, hex.1, hd⟩ hf hb hr hl fun s1 vs k1 hz g1 o1 pm => ?_)
  have hvl : vs.length = n := by rw [pm.length_eq, List.length_map, Array.length_toList]; exact hn
  obtain ⟨zs0, hI, hzs⟩ := strs_of vs fun v hv => by
    obtain ⟨e, he, q⟩ := List.mem_map.mp (pm.mem_iff.mp hv)
    obtain ⟨k, tk, h1, _⟩ := g e he
    exact ⟨k, tk, by rw [← q]; exact h1⟩
  have pk : zs0.Perm (es.toList.map keyT) := by
    have q := pm.map (fun v => keyT (0, v))
    rw [List.map_map, hzs] at q
    exact q
  refine wpAny_bind (wpAny_newList ?_ (by rw [hvl, sizeLine_eq]; omega))
  have hoL : (s1.heap.push (seqObj "list" vs.toArray 0)).get? s1.heap.objs.size = some (seqObj "list" vs.toArray 0) := Heap.get?_push_size _ rfl
  refine wpAny_bind (wpAny_holding (wpAny_call_entry slot_list_sort ⟨_, hoL, rfl⟩ entry_list_sort (list_sort_treeK strKind_oneLt hoL hI.keysOf (fun v₁ v₂ rest e => keyKind_strs (by rw [← e]; exact hI)) (by rw [hvl]; exact h64) fun st' hp hs => ?_) (args_list_sort _)))
  obtain ⟨ss', h1, h2, h3⟩ := sorted_out_str hI hp hs
  refine ⟨_, rfl, ?_⟩
  obtain ⟨c, hc'⟩ := sortedHeap_at (vs := vs) (out := (arrOf st').map (·.2)) hoL
  have pn : ss'.Perm (es.toList.map keyT) := h2.trans pk
  have hlen : ss'.length = n := by rw [pn.length_eq, List.length_map, Array.length_toList]; exact hn
  have keep : ∀ b u, s.heap.get? b = some u → (sortedHeap (s1.heap.push (seqObj "list" vs.toArray 0)) s1.heap.objs.size vs ((arrOf st').map (·.2))).get? b = some u := fun b u e => by
    have q := k1 b u e
    have hlt := Heap.lt_size q
    rw [sortedHeap_old (Nat.ne_of_lt hlt) (by rw [size_push']; exact Nat.lt_succ_of_lt hlt)]
    exact Heap.get?_push_of_some _ q
  have hlen2 : (ss'.map V.str).length ≤ sizeLine := by rw [List.length_map, hlen, sizeLine_eq]; omega
  have hnn : H s1.heap.objs.size = none := I.hok.fresh hz
  obtain ⟨sh, sg, sd, st, so⟩ := s
  obtain ⟨th, tg, td, tt, to⟩ := s1
  have hnd := hp.size_eq
  cases o1
  cases g1
  have J : Inv X pins σ (upd H th.objs.size (.lst (ss'.map V.str))) { heap := sortedHeap (th.push (seqObj "list" vs.toArray 0)) th.objs.size vs ((arrOf st').map (·.2)), gens := sg, drawn := td, toks := tt, os := so } :=
    I.call (ch := []) (Un.laid keep hz hnn) (I.hok.laid keep hz ⟨hlen2, _, c, vals_of_strs h1, hc'⟩) I.bare (fun _ z => nomatch z)
  exact wpAny_pure ⟨_, rfl, .ref th.objs.size, _, J, rfl, q _ ss' hnn (pn.nodup_iff.mpr nd) (fun k => by rw [pn.mem_iff, ← hm k]) h3 hlen⟩
end
theorem scTurn2_out (elt t0 i0 t1 i1 : Expr) (ifs0 ifs1 : List Expr) (scope : Scope) (pos : Pos) (it acc : Value) (env : Env) :
    compTurn (.SetComp elt [⟨t0, i0, ifs0, 0⟩, ⟨t1, i1, ifs1, 0⟩] scope pos) 0 it acc env = (do
      standAt i0.pos
      match ← pyNext it with
      | none => pure (.done .next)
      | some v =>
        letOwnedTupleGo t0 it v
        assign t0 env v
        let mut ok := true
        for c in ifs0 do
          if ok then ok ← isTrue c env (eval c env)
        if ok then
          let x ← eval i1 env
          standAt i1.pos
          let x ← foldedSetIterable i1 env x
          let _ ← runOwn (.compStart (.SetComp elt [⟨t0, i0, ifs0, 0⟩, ⟨t1, i1, ifs1, 0⟩] scope pos) 1 (← holding [x] (pyIter x)) acc env) env
        again (.compLoop (.SetComp elt [⟨t0, i0, ifs0, 0⟩, ⟨t1, i1, ifs1, 0⟩] scope pos) 0 it acc env)) := by rfl
theorem scTurn2_in (elt t0 i0 t1 i1 : Expr) (ifs0 ifs1 : List Expr) (scope : Scope) (pos : Pos) (it acc : Value) (env : Env) :
    compTurn (.SetComp elt [⟨t0, i0, ifs0, 0⟩, ⟨t1, i1, ifs1, 0⟩] scope pos) 1 it acc env = (do
      standAt i1.pos
      match ← pyNext it with
      | none => pure (.done .next)
      | some v =>
        letOwnedTupleGo t1 it v
        assign t1 env v
        let mut ok := true
        for c in ifs1 do
          if ok then ok ← isTrue c env (eval c env)
        if ok then
          (do let v ← eval elt env; standAt elt.pos; let _ ← call (.builtin "set.add") [acc, v])
        again (.compLoop (.SetComp elt [⟨t0, i0, ifs0, 0⟩, ⟨t1, i1, ifs1, 0⟩] scope pos) 1 it acc env)) := by rfl

section
variable {prog : Program} {w : World} {A : Around} {R : Result → Shared → Prop} {s : Shared} {elt t0 i0 t1 i1 : Expr} {ifs0 ifs1 : List Expr} {scope : Scope} {pos : Pos} {it acc : Value} {env : Env}
/-- the loop of the first clause -/
theorem scLoop2_out (hs : ∀ x, foldedSetIterable i1 env x = pure x) (I : Nat → Shared → Prop)
    (turn : ∀ n s, I n s → wpAny (model prog w) A (pyNext it) (fun r s₁ => match r with
      | none => R (.ok .next) s₁
      | some v => wpAny (model prog w) A (letOwnedTupleGo t0 it v) (fun _ s₁' => wpAny (model prog w) A (assign t0 env v) (fun _ s₂ =>
          wpAny (model prog w) A (forIn ifs0 true fun c r => if r = true then do let ok ← isTrue c env (eval c env); pure (ForInStep.yield ok) else pure (ForInStep.yield r)) (fun ok s₃ =>
            if ok = true then wpAny (model prog w) A (eval i1 env) (fun x s₄ => wpAny (model prog w) A (pyIter x) (fun it1 s₅ =>
              codeAny (model prog w) A (.compStart (.SetComp elt [⟨t0, i0, ifs0, 0⟩, ⟨t1, i1, ifs1, 0⟩] scope pos) 1 it1 acc env) (fun r s' => match r with
                | .ok _ => ∃ m, m < n ∧ I m s'
                | .error _ => False) s₅) (notedBy (model prog w) A env fun e s' => R (.error e) s') s₄) (notedBy (model prog w) A env fun e s' => R (.error e) s') s₃
            else ∃ m, m < n ∧ I m s₃) (notedBy (model prog w) A env fun e s' => R (.error e) s') s₂) (notedBy (model prog w) A env fun e s' => R (.error e) s') s₁') (notedBy (model prog w) A env fun e s' => R (.error e) s') s₁) (notedBy (model prog w) A env fun e s' => R (.error e) s') s)
    (n : Nat) (h : I n s) :
    codeAny (model prog w) A (.compLoop (.SetComp elt [⟨t0, i0, ifs0, 0⟩, ⟨t1, i1, ifs1, 0⟩] scope pos) 0 it acc env) R s := by
  refine codeAny_loop rfl I (fun n s hI => ?_) n h
  show wpAny _ A ((compTurn (.SetComp elt [⟨t0, i0, ifs0, 0⟩, ⟨t1, i1, ifs1, 0⟩] scope pos) 0 it acc env).onRaise (fun x => do noteFrame x env; theTreesLotGoes x)) _ _ s
  refine wpAny_noted ?_
  rw [scTurn2_out]
  refine wpAny_bind (wpAny_standAt (wpAny_bind (wpAny_mono (turn n s hI) (fun r s₁ h₁ => ?_) fun _ _ h' => h')))
  cases r with
  | none => exact wpAny_pure h₁
  | some v =>
    refine wpAny_bind (wpAny_mono h₁ (fun _ s₁' h₁' => ?_) fun _ _ h' => h')
    refine wpAny_bind (wpAny_mono h₁' (fun _ s₂ h₂ => wpAny_bind (wpAny_mono h₂ (fun ok s₃ h₃ => ?_) fun _ _ h' => h')) fun _ _ h' => h')
    cases ok with
    | false => exact wpAny_pure ⟨rfl, h₃⟩
    | true =>
      refine wpAny_bind (wpAny_mono h₃ (fun x s₄ h₄ => ?_) fun _ _ h' => h')
      refine wpAny_bind (wpAny_standAt (wpAny_bind (wpAny_of_eq (hs x) (wpAny_bind (wpAny_holding (wpAny_mono h₄ (fun it1 s₅ h₅ => ?_) fun _ _ h' => h'))))))
      refine wpAny_bind (wpAny_runOwn ?_)
      rw [Around.mark_none]
      refine codeAny_mono h₅ fun r s' hr => ?_
      cases r with
      | ok f =>
        first
          | exact wpAny_pure ⟨rfl, hr⟩
          | exact wpAny_bind (wpAny_pure (wpAny_pure ⟨rfl, hr⟩))
      | error e => exact hr.elim
/-- the loop of the second -/
theorem scLoop2_in (I : Nat → Shared → Prop)
    (turn : ∀ n s, I n s → wpAny (model prog w) A (pyNext it) (fun r s₁ => match r with
      | none => R (.ok .next) s₁
      | some v => wpAny (model prog w) A (letOwnedTupleGo t1 it v) (fun _ s₁' => wpAny (model prog w) A (assign t1 env v) (fun _ s₂ =>
          wpAny (model prog w) A (forIn ifs1 true fun c r => if r = true then do let ok ← isTrue c env (eval c env); pure (ForInStep.yield ok) else pure (ForInStep.yield r)) (fun ok s₃ =>
            if ok = true then wpAny (model prog w) A (eval elt env) (fun x s₄ =>
              wpAny (model prog w) A (call (.builtin "set.add") [acc, x]) (fun _ s₅ => ∃ m, m < n ∧ I m s₅) (notedBy (model prog w) A env fun e s' => R (.error e) s') s₄) (notedBy (model prog w) A env fun e s' => R (.error e) s') s₃
            else ∃ m, m < n ∧ I m s₃) (notedBy (model prog w) A env fun e s' => R (.error e) s') s₂) (notedBy (model prog w) A env fun e s' => R (.error e) s') s₁') (notedBy (model prog w) A env fun e s' => R (.error e) s') s₁) (notedBy (model prog w) A env fun e s' => R (.error e) s') s)
    (n : Nat) (h : I n s) :
    codeAny (model prog w) A (.compLoop (.SetComp elt [⟨t0, i0, ifs0, 0⟩, ⟨t1, i1, ifs1, 0⟩] scope pos) 1 it acc env) R s := by
  refine codeAny_loop rfl I (fun n s hI => ?_) n h
  show wpAny _ A ((compTurn (.SetComp elt [⟨t0, i0, ifs0, 0⟩, ⟨t1, i1, ifs1, 0⟩] scope pos) 1 it acc env).onRaise (fun x => do noteFrame x env; theTreesLotGoes x)) _ _ s
  refine wpAny_noted ?_
  rw [scTurn2_in]
  refine wpAny_bind (wpAny_standAt (wpAny_bind (wpAny_mono (turn n s hI) (fun r s₁ h₁ => ?_) fun _ _ h' => h')))
  cases r with
  | none => exact wpAny_pure h₁
  | some v =>
    refine wpAny_bind (wpAny_mono h₁ (fun _ s₁' h₁' => ?_) fun _ _ h' => h')
    refine wpAny_bind (wpAny_mono h₁' (fun _ s₂ h₂ => wpAny_bind (wpAny_mono h₂ (fun ok s₃ h₃ => ?_) fun _ _ h' => h')) fun _ _ h' => h')
    cases ok with
    | false => exact wpAny_pure ⟨rfl, h₃⟩
    | true =>
      exact wpAny_bind (wpAny_bind (wpAny_mono h₃ (fun x s₄ h₄ => wpAny_bind (wpAny_standAt (wpAny_bind (wpAny_mono h₄ (fun _ s₅ h₅ => wpAny_pure (wpAny_pure ⟨rfl, h₅⟩)) fun _ _ h' => h')))) fun _ _ h' => h'))
/-- the second clause's start -/
theorem scStart1_ok (h0 : codeAny (model prog w) A (.compLoop (.SetComp elt [⟨t0, i0, ifs0, 0⟩, ⟨t1, i1, ifs1, 0⟩] scope pos) 1 it acc env) R s)
    (h : wpAny (model prog w) A (pyIter it) (fun it' s' => codeAny (model prog w) A (.compLoop (.SetComp elt [⟨t0, i0, ifs0, 0⟩, ⟨t1, i1, ifs1, 0⟩] scope pos) 1 it' acc env) R s')
      (notedBy (model prog w) A env fun x s' => R (.error x) s') s) :
    codeAny (model prog w) A (.compStart (.SetComp elt [⟨t0, i0, ifs0, 0⟩, ⟨t1, i1, ifs1, 0⟩] scope pos) 1 it acc env) R s := by
  refine codeAny_of_tree ?_
  show wpAny _ _ ((compStart (.SetComp elt [⟨t0, i0, ifs0, 0⟩, ⟨t1, i1, ifs1, 0⟩] scope pos) 1 it acc env).onRaise (fun x => do noteFrame x env; standAt theWindowsPlace)) _ _ s
  refine wpAny_notedAt ?_
  unfold compStart
  show wpAny _ _ (ask >>= _) _ _ s
  refine wpAny_bind (wpAny_askSetting (wpAny_ite ?_))
  split
  · first
      | exact wpAny_bind (wpAny_pure (wpAny_pure (And.intro rfl h0)))
      | exact wpAny_pure (And.intro rfl h0)
  · first
      | exact wpAny_bind (wpAny_rule (wpAny_bind (wpAny_standAt (wpAny_bind (wpAny_mono h (fun it' s' h' => wpAny_pure (And.intro rfl h')) fun _ _ x => x)))))
      | (refine wpAny_bind (wpAny_rule ?_); show wpAny _ _ (standAt i1.pos >>= _) _ _ s; exact wpAny_bind (wpAny_standAt (wpAny_bind (wpAny_mono h (fun it' s' h' => wpAny_pure (And.intro rfl h')) fun _ _ x => x))))
end

section
variable {X : Cx}
/-- [elt for tg in iter if .. for tg1 in iter1 if ..]: behind the first clause's store and tests the second source's own loop, from which Nx is reached. vs: the block's names; vs1: those of the second target -/
def tSc2 (w : World) (wi : TI) (g : TG) (tt : TT) (wi1 : TI) (g1 : TG) (tt1 : TT) (te : TE) (vs vs1 : List Nat) : TE := fun σ H Q => wi σ H fun J H1 => ∀ D, H1 D = none → ∃ W : Nat → Nat → Hp → Prop, (∃ m, W 0 m (upd H1 D (SetTO w D (fun _ => false) 0))) ∧ ∀ i m H, W i m H →
  (J.stop i H ∧ Q (.ref D) H) ∨ (J.go i H ∧ ∃ Nx : Hp → Prop, (∀ H', Nx H' → ∃ m', m' < m ∧ W (i + 1) m' H') ∧ ∀ x H', J.yld i H x H' → g x (wipe σ vs) H' fun σ2 H2 => wipe σ2 vs = wipe σ vs ∧ tt σ2 H2 fun b H3 =>
    if b = true then wi1 σ2 H3 fun J1 H4 => ∃ W1 : Nat → Nat → Hp → Prop, (∃ m, W1 0 m H4) ∧ ∀ j k H, W1 j k H →
      (J1.stop j H ∧ Nx H) ∨ (J1.go j H ∧ ∃ Nx1 : Hp → Prop, (∀ H', Nx1 H' → ∃ k', k' < k ∧ W1 (j + 1) k' H') ∧ ∀ x H', J1.yld j H x H' → g1 x (wipe σ2 vs1) H' fun σ3 H5 => wipe σ3 vs1 = wipe σ2 vs1 ∧ tt1 σ3 H5 fun b H6 =>
        if b = true then te σ3 H6 fun y H7 => ∃ (c : Str) (S : Str → Bool) (n : Nat), y = .str c ∧ H7 D = some (SetTO w D S n) ∧ n + 1 < scanBound ∧ Nx1 (upd H7 D (SetTO w D (fun j => S j || decide (j = c)) (if S c = true then n else n + 1))) else Nx1 H6)
    else Nx H3)
theorem sc2_core {pins : List (Addr × Obj)} {s : Shared} {σ : L2.St} {H : Hp} {Q : VK} {elt tg iter tg1 iter1 : Expr} {ifs ifs1 : List Expr} {scope : Scope} {own : List (PySem.Str × Nat)} {vs1 : List Nat} {pos pos' : Pos} {wi wi1 : TI} {g g1 : TG} {tt tt1 : TT} {te : TE} {use : Option (Value → Sem Unit)} {Qf : Value → Shared → Prop}
    (hc : X.calm = true) (hN : X.N.Nodup) (I : Inv X pins σ H s) (hi : PI X tg iter wi) (ok : BlkOk X.N X.env.scope scope own) (hv : ∀ i ∈ vs1, i ∈ own.map (·.2))
    (hg : ∀ (s : Shared) (H : Hp) (C : Addr) (cl : List (PySem.Str × Addr)) (fp : List Addr), PG (X.blk s H scope (compEnvC scope cl C X.env) fp) tg g) (ht : ∀ (s : Shared) (H : Hp) (C : Addr) (cl : List (PySem.Str × Addr)) (fp : List Addr), PTs (X.blk s H scope (compEnvC scope cl C X.env) fp) ifs tt)
    (he : ∀ (s : Shared) (H : Hp) (C : Addr) (cl : List (PySem.Str × Addr)) (fp : List Addr), PE (X.blk s H scope (compEnvC scope cl C X.env) fp) elt te) (hs : ∀ x, foldedSetIterable iter X.env x = pure x)
    (hi1 : ∀ (s : Shared) (H : Hp) (C : Addr) (cl : List (PySem.Str × Addr)) (fp : List Addr), PI (X.blk s H scope (compEnvC scope cl C X.env) fp) tg1 iter1 wi1)
    (hg1 : ∀ (s : Shared) (H : Hp) (C : Addr) (cl : List (PySem.Str × Addr)) (fp : List Addr), PG (X.blk s H scope (compEnvC scope cl C X.env) fp) tg1 g1)
    (ht1 : ∀ (s : Shared) (H : Hp) (C : Addr) (cl : List (PySem.Str × Addr)) (fp : List Addr), PTs (X.blk s H scope (compEnvC scope cl C X.env) fp) ifs1 tt1)
    (hs1 : ∀ env x, foldedSetIterable iter1 env x = pure x)
    (h : tSc2 X.w wi g tt wi1 g1 tt1 te (own.map (·.2)) vs1 σ H Q)
    (hRR : ∀ D C s' m H', Inv X pins σ H' s' → Q (.ref D) H' → s'.heap.Ns C m → FpOk X pins H' C → compPost (model X.prog X.w) X.A X.xe use Qf (.ref D) C (.ok .next) s') :
    wpAny (model X.prog X.w) X.A (comprehension (.SetComp elt [⟨tg, iter, ifs, 0⟩, ⟨tg1, iter1, ifs1, 0⟩] scope pos) scope X.env pos' (newSet (.type "set")) false (eval iter X.env) use) Qf X.xe s := by
  have hfree : ∀ y ∈ scope.names, y.2 = .free → ∃ c, X.env.cells.lookup y.1 = some c := fun y hy e => by
    rcases ok.free y hy e with k | k
    · exact I.ok.has _ (.inl k)
    · exact I.ok.has _ (.inr k)
  refine wpAny_comprehension_free (use := use) rfl hs (closure_ok hfree) ok.kind (fun y hy e => by rw [ok.uniq y hy, e])
    (thn (hi.run pins s σ H _ I h) fun xv s1 hx => thn hx fun itv s2 h2 => ?_)
  obtain ⟨it, fp, tn, J, H2, e, I2, T, st2, f2, q⟩ := h2
  subst e
  refine PpSet.newSet_ok (newEnv_comp ?_)
  generalize hD : s2.heap.objs.size = D
  have hDn : H2 D = none := I2.hok.fresh (Nat.le_of_eq hD)
  obtain ⟨W, ⟨m0, w0⟩, turn⟩ := q D hDn
  -- the new list
  generalize hs3 : ({ s2 with heap := s2.heap.push { cls := .type "set", dict := none, data := .set #[] 0 (.fresh 0 0 (!X.w.params.followText "set-order")) } } : Shared) = s3
  have I3 : Inv X pins σ (upd H2 D (SetTO X.w D (fun _ => false) 0)) s3 := by
    rw [← hs3]
    refine I2.laid (t' := s2.toks) (fun b o e => Heap.get?_push_of_some _ e) (Nat.le_of_eq hD) ?_
    rw [← hD]
    exact setTO_new (setT_fresh X.w)
  have h3 : s3.heap = s2.heap.push { cls := .type "set", dict := none, data := .set #[] 0 (.fresh 0 0 (!X.w.params.followText "set-order")) } := by rw [← hs3]
  have sz : ∀ b ∈ fp, b < s2.heap.objs.size := fun b hb => by
    obtain ⟨o, e, _⟩ := T.obj _ _ st2 b hb
    exact Heap.lt_size e
  have f3 : ∀ b ∈ fp, FpOk X pins (upd H2 D (SetTO X.w D (fun _ => false) 0)) b ∧ b < s3.heap.objs.size := fun b hb => by
    have hlt := sz b hb
    refine ⟨⟨?_, (f2 b hb).2⟩, by rw [h3, Heap.size_push]; exact Nat.lt_succ_of_lt hlt⟩
    rw [upd_ne (by rw [← hD]; exact Nat.ne_of_lt hlt)]
    exact (f2 b hb).1
  have st3 : tn 0 s3.heap := T.keep _ _ _ st2 fun b _ o e => by rw [h3]; exact Heap.get?_push_of_some _ e
  have I4 := block_start I3 ok hN f3
  have pg := hg s3 (upd H2 D (SetTO X.w D (fun _ => false) 0)) s3.heap.objs.size (cellsFrom (s3.heap.objs.size + 1) scope.names (cloFrom X.env.cells scope.names [])) fp
  have pt := ht s3 (upd H2 D (SetTO X.w D (fun _ => false) 0)) s3.heap.objs.size (cellsFrom (s3.heap.objs.size + 1) scope.names (cloFrom X.env.cells scope.names [])) fp
  have pe := he s3 (upd H2 D (SetTO X.w D (fun _ => false) 0)) s3.heap.objs.size (cellsFrom (s3.heap.objs.size + 1) scope.names (cloFrom X.env.cells scope.names [])) fp
  have pi1 := hi1 s3 (upd H2 D (SetTO X.w D (fun _ => false) 0)) s3.heap.objs.size (cellsFrom (s3.heap.objs.size + 1) scope.names (cloFrom X.env.cells scope.names [])) fp
  have pg1 := hg1 s3 (upd H2 D (SetTO X.w D (fun _ => false) 0)) s3.heap.objs.size (cellsFrom (s3.heap.objs.size + 1) scope.names (cloFrom X.env.cells scope.names [])) fp
  have pt1 := ht1 s3 (upd H2 D (SetTO X.w D (fun _ => false) 0)) s3.heap.objs.size (cellsFrom (s3.heap.objs.size + 1) scope.names (cloFrom X.env.cells scope.names [])) fp
  show codeAny _ _ (.compStart (.SetComp elt [⟨tg, iter, ifs, 0⟩, ⟨tg1, iter1, ifs1, 0⟩] scope pos) 0 (.ref it) (.ref D) (compEnvC scope (cellsFrom (s3.heap.objs.size + 1) scope.names (cloFrom X.env.cells scope.names [])) s3.heap.objs.size X.env)) (compPost (model X.prog X.w) X.A X.xe use Qf (.ref D) s3.heap.objs.size) { s3 with heap := pushCells (s3.heap.push { cls := .type "dict", data := .dict #[] }) scope.names }
  have nfp : ∀ b ∈ fp, (upd H2 D (SetTO X.w D (fun _ => false) 0)) b = none := fun b hb => (f3 b hb).1.1
  generalize hce : compEnvC scope (cellsFrom (s3.heap.objs.size + 1) scope.names (cloFrom X.env.cells scope.names [])) s3.heap.objs.size X.env = ce at I4 pg pt pe pi1 pg1 pt1 ⊢
  have cL : ce.locals = s3.heap.objs.size := by subst hce; rfl
  generalize hH3 : upd H2 D (SetTO X.w D (fun _ => false) 0) = H3 at I3 I4 pg pt pe pi1 pg1 pt1 w0 nfp f3
  generalize hs4 : ({ s3 with heap := pushCells (s3.heap.push { cls := .type "dict", data := .dict #[] }) scope.names } : Shared) = s4 at I4 ⊢
  have st4 : tn 0 s4.heap := T.keep _ _ _ st3 fun b _ o e => by rw [← hs4]; exact pushCells_keeps _ _ _ _ (Heap.get?_push_of_some _ e)
  have stat : ∀ {σ' : L2.St} {H' : Hp} {s' : Shared}, Inv (X.blk s3 H3 scope ce fp) [] σ' H' s' → (∀ b ∈ fp, H' b = none) → ∀ b ∈ fp, FpOk (X.blk s3 H3 scope ce fp) [] H' b := fun {σ' H' s'} I' hn b hb =>
    ⟨hn b hb, (I'.ok.exf b hb).1, I'.ok.exfs b hb, .inl hb, fun x c e => (I'.ok.exf b hb).2 x c e, fun p hp => absurd (show p ∈ ([] : List (Addr × Obj)) ++ [] from hp) (by simp)⟩
  have loop : codeAny (model X.prog X.w) X.A (.compLoop (.SetComp elt [⟨tg, iter, ifs, 0⟩, ⟨tg1, iter1, ifs1, 0⟩] scope pos) 0 (.ref it) (.ref D) ce) (compPost (model X.prog X.w) X.A X.xe use Qf (.ref D) s3.heap.objs.size) s4 := by
    refine scLoop2_out (hs1 ce) (fun n s' => ∃ i H', Inv (X.blk s3 H3 scope ce fp) [] (wipe σ (own.map (·.2))) H' s' ∧ tn i s'.heap ∧ (∀ b ∈ fp, H' b = none) ∧ W i n H') ?_ m0 ⟨0, H3, I4, st4, nfp, w0⟩
    rintro n s5 ⟨i, H5, I5, st5, n5, w5⟩
    rcases turn i n H5 w5 with ⟨stop, qq⟩ | ⟨go, Nx, hNx, step⟩
    · have td := T.done (X.blk s3 H3 scope ce fp) rfl rfl rfl hc i [] s5 _ H5 (fun _ _ => False) I5 (stat I5 n5) st5 stop
      refine thnF td fun r s6 ⟨hr, I6⟩ => ?_
      subst hr
      -- back in the def's context
      have I7 : Inv X pins σ H5 s6 := I3.call' (ch := fp) I6.os I6.base I6.hok I6.bare fun b hb => ⟨(f3 b hb).1.2.2.2.1, (f3 b hb).1.2.1, (f3 b hb).1.2.2.2.2.1, (f3 b hb).1.2.2.2.2.2⟩
      have nC : H5 s3.heap.objs.size = none := by
        have z : H5 ce.locals = none := I6.free
        rw [cL] at z
        exact z
      obtain ⟨m, hn, _⟩ := I6.loc
      have hn : s6.heap.Ns ce.locals m := hn
      rw [cL] at hn
      exact hRR D s3.heap.objs.size s6 m H5 I7 qq hn (I3.fpOk (Nat.le_refl _) nC)
    · have ti := T.item (X.blk s3 H3 scope ce fp) rfl rfl rfl hc i [] s5 _ H5 (fun _ _ => False) I5 (stat I5 n5) st5 go
      refine thnF ti fun r s6 ⟨u, hr, h6⟩ => ?_
      subst hr
      refine thnF h6 fun _ s7 ⟨x, H7, I7, r7, y7, st7, n7⟩ => ?_
      have I7' := I7.pinned (stat I7 n7) (T.obj _ _ st7)
      refine thnF (pg.run _ s7 _ H7 x u _ I7' r7 (step x H7 y7)) fun _ s8 ⟨σ8, H8, I8, hw8, q8⟩ => ?_
      refine thnF (pt.run _ s8 σ8 H8 _ I8 q8) fun b s9 ⟨H9, I9, q9⟩ => ?_
      -- the turn's end, from any slots that know what the block knew at its start
      have fin : ∀ {σ9 : L2.St} {s' : Shared} {H' : Hp}, Inv (X.blk s3 H3 scope ce fp) ([] ++ pinsAt fp s7.heap) σ9 H' s' → (wipe σ (own.map (·.2))).length = σ9.length → (∀ (j : Nat) v, (wipe σ (own.map (·.2)))[j]? = some (some v) → σ9[j]? = some (some v)) → Nx H' →
          ∃ m, m < n ∧ ∃ i H', Inv (X.blk s3 H3 scope ce fp) [] (wipe σ (own.map (·.2))) H' s' ∧ tn i s'.heap ∧ (∀ b ∈ fp, H' b = none) ∧ W i m H' := fun {σ9 s' H'} I' hl hk nx => by
        obtain ⟨m', hm, w'⟩ := hNx H' nx
        have pin' : ∀ b ∈ fp, ∀ o, s7.heap.get? b = some o → s'.heap.get? b = some o ∧ H' b = none := fun b hb o e =>
          let z := I'.pin (b, o) (List.mem_append_right _ (List.mem_append_right _ (mem_pinsAt hb e)))
          ⟨z.1, z.2.1⟩
        refine ⟨m', hm, i + 1, H', (I'.unpinned (pins := [])).weak hl hk, T.keep _ _ _ st7 fun b hb o e => (pin' b hb o e).1, fun b hb => ?_, w'⟩
        obtain ⟨o, e, _⟩ := T.obj _ _ st7 b hb
        exact (pin' b hb o e).2
      have hl8 : (wipe σ (own.map (·.2))).length = σ8.length := by rw [← hw8, wipe_length]
      have hk8 : ∀ (j : Nat) v, (wipe σ (own.map (·.2)))[j]? = some (some v) → σ8[j]? = some (some v) := fun j v e => by
        rw [← hw8] at e
        exact (wipe_some e).1
      have hk9 : ∀ (j : Nat) v, (wipe σ (own.map (·.2)))[j]? = some (some v) → (wipe σ8 vs1)[j]? = some (some v) := fun j v e => by
        rw [← hw8] at e
        obtain ⟨e1, e2⟩ := wipe_some e
        rw [wipe_out fun z => e2 (hv j z)]
        exact e1
      cases b with
      | false =>
        simp only [Bool.false_eq_true, if_false] at q9 ⊢
        exact fin I9 hl8 hk8 q9
      | true =>
        simp only [if_true] at q9 ⊢
        refine thnF (pi1.run _ s9 σ8 H9 _ I9 q9) fun xv s10 hx => thnF hx fun itv s11 h11 => ?_
        obtain ⟨it1, fp1, tn1, J1, H11, e1, I11, T1, st11, f11, W1, ⟨m1, w1⟩, turn1⟩ := h11
        subst e1
        -- the inner loop
        have stat1 : ∀ {H' : Hp}, (∀ b ∈ fp1, H' b = none) → ∀ b ∈ fp1, FpOk (X.blk s3 H3 scope ce fp) ([] ++ pinsAt fp s7.heap) H' b := fun hn b hb => ⟨hn b hb, (f11 b hb).2⟩
        have loop1 : codeAny (model X.prog X.w) X.A (.compLoop (.SetComp elt [⟨tg, iter, ifs, 0⟩, ⟨tg1, iter1, ifs1, 0⟩] scope pos) 1 (.ref it1) (.ref D) ce)
            (fun r s' => match r with
              | .ok _ => ∃ m, m < n ∧ ∃ i H', Inv (X.blk s3 H3 scope ce fp) [] (wipe σ (own.map (·.2))) H' s' ∧ tn i s'.heap ∧ (∀ b ∈ fp, H' b = none) ∧ W i m H'
              | .error _ => False) s11 := by
          refine scLoop2_in (fun k s' => ∃ j H', Inv (X.blk s3 H3 scope ce fp) ([] ++ pinsAt fp s7.heap) (wipe σ8 vs1) H' s' ∧ tn1 j s'.heap ∧ (∀ b ∈ fp1, H' b = none) ∧ W1 j k H') ?_ m1 ⟨0, H11, I11.weak (wipe_length _ _) (fun j v e => (wipe_some e).1), st11, fun b hb => (f11 b hb).1, w1⟩
          rintro k s12 ⟨j, H12, I12, st12, n12, w12⟩
          rcases turn1 j k H12 w12 with ⟨stop1, nx1⟩ | ⟨go1, Nx1, hNx1, step1⟩
          · refine thnF (T1.done (X.blk s3 H3 scope ce fp) rfl rfl rfl hc j _ s12 (wipe σ8 vs1) H12 (fun _ _ => False) I12 (stat1 n12) st12 stop1) fun r s13 ⟨hr, I13⟩ => ?_
            subst hr
            exact fin I13 (hl8.trans (wipe_length σ8 vs1).symm) hk9 nx1
          · refine thnF (T1.item (X.blk s3 H3 scope ce fp) rfl rfl rfl hc j _ s12 (wipe σ8 vs1) H12 (fun _ _ => False) I12 (stat1 n12) st12 go1) fun r s13 ⟨u1, hr, h13⟩ => ?_
            subst hr
            refine thnF h13 fun _ s14 ⟨x1, H14, I14, r14, y14, st14, n14⟩ => ?_
            have I14' := I14.pinned (stat1 n14) (T1.obj _ _ st14)
            refine thnF (pg1.run _ s14 (wipe σ8 vs1) H14 x1 u1 _ I14' r14 (step1 x1 H14 y14)) fun _ s15 ⟨σ15, H15, I15, hw15, q15⟩ => ?_
            refine thnF (pt1.run _ s15 σ15 H15 _ I15 q15) fun b1 s16 ⟨H16, I16, q16⟩ => ?_
            have fin1 : ∀ {s' : Shared} {H' : Hp}, Inv (X.blk s3 H3 scope ce fp) (([] ++ pinsAt fp s7.heap) ++ pinsAt fp1 s14.heap) σ15 H' s' → Nx1 H' → ∃ m, m < k ∧ ∃ j H', Inv (X.blk s3 H3 scope ce fp) ([] ++ pinsAt fp s7.heap) (wipe σ8 vs1) H' s' ∧ tn1 j s'.heap ∧ (∀ b ∈ fp1, H' b = none) ∧ W1 j m H' := fun {s' H'} I' nx => by
              obtain ⟨m', hm, w'⟩ := hNx1 H' nx
              have pin' : ∀ b ∈ fp1, ∀ o, s14.heap.get? b = some o → s'.heap.get? b = some o ∧ H' b = none := fun b hb o e =>
                let z := I'.pin (b, o) (List.mem_append_right _ (List.mem_append_right _ (mem_pinsAt hb e)))
                ⟨z.1, z.2.1⟩
              refine ⟨m', hm, j + 1, H', I'.unpinned.weak (by rw [← hw15, wipe_length]) (fun j v e => by rw [← hw15] at e; exact (wipe_some e).1), T1.keep _ _ _ st14 fun b hb o e => (pin' b hb o e).1, fun b hb => ?_, w'⟩
              obtain ⟨o, e, _⟩ := T1.obj _ _ st14 b hb
              exact (pin' b hb o e).2
            cases b1 with
            | false =>
              simp only [Bool.false_eq_true, if_false] at q16 ⊢
              exact fin1 I16 q16
            | true =>
              simp only [if_true] at q16 ⊢
              refine thnF (pe.run _ s16 σ15 H16 _ I16 q16) fun z s17 ⟨yv, H17, I17, r17, cb, S0, n0, ey, hD17, hz17, nx⟩ => ?_
              subst ey
              obtain ⟨tk17, rfl⟩ := r17
              exact addT_ok (X := X.blk s3 H3 scope ce fp) I17 hD17 hz17 fun s18 I18 => fin1 I18 nx
        exact scStart1_ok loop1 (T1.self X.A 0 _ _ _ st11 loop1)
  exact PpSet.codeAny_compStart_set loop (T.self X.A 0 _ _ _ st4 loop)
/-- as a value -/
theorem pe_sc2 {elt tg iter tg1 iter1 : Expr} {ifs ifs1 : List Expr} {scope : Scope} {own : List (PySem.Str × Nat)} {vs1 : List Nat} {pos : Pos} {wi wi1 : TI} {g g1 : TG} {tt tt1 : TT} {te : TE} (hc : X.calm = true) (hN : X.N.Nodup) (hi : PI X tg iter wi) (ok : BlkOk X.N X.env.scope scope own) (hv : ∀ i ∈ vs1, i ∈ own.map (·.2))
    (hg : ∀ (s : Shared) (H : Hp) (C : Addr) (cl : List (PySem.Str × Addr)) (fp : List Addr), PG (X.blk s H scope (compEnvC scope cl C X.env) fp) tg g) (ht : ∀ (s : Shared) (H : Hp) (C : Addr) (cl : List (PySem.Str × Addr)) (fp : List Addr), PTs (X.blk s H scope (compEnvC scope cl C X.env) fp) ifs tt)
    (hi1 : ∀ (s : Shared) (H : Hp) (C : Addr) (cl : List (PySem.Str × Addr)) (fp : List Addr), PI (X.blk s H scope (compEnvC scope cl C X.env) fp) tg1 iter1 wi1)
    (hg1 : ∀ (s : Shared) (H : Hp) (C : Addr) (cl : List (PySem.Str × Addr)) (fp : List Addr), PG (X.blk s H scope (compEnvC scope cl C X.env) fp) tg1 g1) (ht1 : ∀ (s : Shared) (H : Hp) (C : Addr) (cl : List (PySem.Str × Addr)) (fp : List Addr), PTs (X.blk s H scope (compEnvC scope cl C X.env) fp) ifs1 tt1)
    (he : ∀ (s : Shared) (H : Hp) (C : Addr) (cl : List (PySem.Str × Addr)) (fp : List Addr), PE (X.blk s H scope (compEnvC scope cl C X.env) fp) elt te) (hs : ∀ x, foldedSetIterable iter X.env x = pure x := by intro _; rfl) (hs1 : ∀ env x, foldedSetIterable iter1 env x = pure x := by intro _ _; rfl) :
    PE X (.SetComp elt [⟨tg, iter, ifs, 0⟩, ⟨tg1, iter1, ifs1, 0⟩] scope pos) (tSc2 X.w wi g tt wi1 g1 tt1 te (own.map (·.2)) vs1) := by
  refine ⟨fun pins s σ H Q I h => ?_⟩
  rw [PpSet.eval_SetComp]
  refine sc2_core hc hN I hi ok hv hg ht he hs hi1 hg1 ht1 hs1 h fun D C s' m H' I' q hn f => ⟨m, hn, fun h'' sb => ?_⟩
  obtain ⟨f0, f1, f2, f3, f4, f5⟩ := f
  exact ⟨.ref D, H', I'.turned (t' := s'.toks) (fun b o hb e => (sb.2 b hb).trans e) f0 f1 f3 f4 f5, rfl, q⟩
end
end K8
/-! is_table, are_answers, has_form, inside, signals_in, is_bound, are_parameters -/
namespace K8
open PySem PySem.Spec L2 Evl
open PyProof.Rows hiding St
section
variable {K : PySem.W.Frag} {H : Hp} {v : V}
theorem dp_tup {ds : List PyData} (h : Dp K H v (.tuple ds)) : ∃ a xs, v = .ref a ∧ SqT K H a xs ∧ DpAll K H xs ds := by
  cases h with
  | tup hs ha => exact ⟨_, _, rfl, hs, ha⟩
theorem dp_list {ds : List PyData} (h : Dp K H v (.list ds)) : ∃ a xs, v = .ref a ∧ SqL K H a xs ∧ DpAll K H xs ds := by
  cases h with
  | lst hs ha => exact ⟨_, _, rfl, hs, ha⟩
theorem dpa_cons {xs : List V} {d : PyData} {ds : List PyData} (h : DpAll K H xs (d :: ds)) : ∃ x r, xs = x :: r ∧ Dp K H x d ∧ DpAll K H r ds := by
  cases h with
  | cons h1 h2 => exact ⟨_, _, rfl, h1, h2⟩
theorem dpa_nil {xs : List V} (h : DpAll K H xs []) : xs = [] := by
  cases h
  rfl
theorem dp_str {x : Str} (h : Dp K H v (.str x)) : v = .str x := by
  cases h
  rfl
theorem dp_act {w : Str} {tab : List (Option Nat)} (h : Dp K H v (toD (.act w tab))) : ∃ a t, v = .ref a ∧ SqT K H a [.str "do", .str w, t] ∧ Dp K H t (.tuple (tab.map entD)) := by
  simp only [toD] at h
  obtain ⟨a, xs, rfl, hs, ha⟩ := dp_tup h
  obtain ⟨x, r, rfl, h1, ha⟩ := dpa_cons ha
  obtain ⟨y, r, rfl, h2, ha⟩ := dpa_cons ha
  obtain ⟨z, r, rfl, h3, ha⟩ := dpa_cons ha
  cases dpa_nil ha
  cases dp_str h1
  cases dp_str h2
  exact ⟨a, z, rfl, hs, h3⟩
theorem dp_nam {k x : Str} (h : Dp K H v (toD (.nam k x))) : ∃ a, v = .ref a ∧ SqT K H a [.str k, .str x] := by
  simp only [toD] at h
  obtain ⟨a, xs, rfl, hs, ha⟩ := dp_tup h
  obtain ⟨x, r, rfl, h1, ha⟩ := dpa_cons ha
  obtain ⟨y, r, rfl, h2, ha⟩ := dpa_cons ha
  cases dpa_nil ha
  cases dp_str h1
  cases dp_str h2
  exact ⟨a, rfl, hs⟩
theorem dp_ser {k : Str} {ts : List Tm} (h : Dp K H v (toD (.ser k ts))) : ∃ a xs, v = .ref a ∧ SqT K H a (.str k :: xs) ∧ DpAll K H xs (toDs ts) := by
  simp only [toD] at h
  obtain ⟨a, xs, rfl, hs, ha⟩ := dp_tup h
  obtain ⟨x, r, rfl, h1, hb⟩ := dpa_cons ha
  cases dp_str h1
  exact ⟨a, r, rfl, hs, hb⟩
theorem dp_cal {x : Str} {ts : List Tm} (h : Dp K H v (toD (.cal x ts))) : ∃ a xs, v = .ref a ∧ SqT K H a (.str "call" :: .str x :: xs) ∧ DpAll K H xs (toDs ts) := by
  simp only [toD] at h
  obtain ⟨a, xs, rfl, hs, ha⟩ := dp_tup h
  obtain ⟨x, r, rfl, h1, hb⟩ := dpa_cons ha
  obtain ⟨y, r, rfl, h2, hc⟩ := dpa_cons hb
  cases dp_str h1
  cases dp_str h2
  exact ⟨a, r, rfl, hs, hc⟩
theorem dp_sco {x : Str} {t : Tm} (h : Dp K H v (toD (.sco x t))) : ∃ a u, v = .ref a ∧ SqT K H a [.str "scope", .str x, u] ∧ Dp K H u (toD t) := by
  simp only [toD] at h
  obtain ⟨a, xs, rfl, hs, ha⟩ := dp_tup h
  obtain ⟨x, r, rfl, h1, ha⟩ := dpa_cons ha
  obtain ⟨y, r, rfl, h2, ha⟩ := dpa_cons ha
  obtain ⟨z, r, rfl, h3, ha⟩ := dpa_cons ha
  cases dpa_nil ha
  cases dp_str h1
  cases dp_str h2
  exact ⟨a, z, rfl, hs, h3⟩
theorem dp_ans {ss : List Str} {ts : List Tm} {t : Tm} (h : Dp K H v (toD (.ans ss ts t))) : ∃ a p u, v = .ref a ∧ SqT K H a [.str "answer", p, u] ∧ Dp K H p (.tuple (prs ts ss)) ∧ Dp K H u (toD t) := by
  simp only [toD] at h
  obtain ⟨a, xs, rfl, hs, ha⟩ := dp_tup h
  obtain ⟨x, r, rfl, h1, ha⟩ := dpa_cons ha
  obtain ⟨y, r, rfl, h2, ha⟩ := dpa_cons ha
  obtain ⟨z, r, rfl, h3, ha⟩ := dpa_cons ha
  cases dpa_nil ha
  cases dp_str h1
  exact ⟨a, y, z, rfl, hs, h2, h3⟩
/-- the pairs of an answer -/
def PrAt (K : PySem.W.Frag) (H : Hp) (ss : List Str) (ts : List Tm) (i : Nat) (x : V) : Prop := ∃ c s t u, ss[i]? = some s ∧ ts[i]? = some t ∧ x = .ref c ∧ SqT K H c [.str s, u] ∧ Dp K H u (toD t)
theorem prs_at : ∀ {ts : List Tm} {ss : List Str} {ps : List V}, DpAll K H ps (prs ts ss) → ss.length = ts.length → ps.length = ts.length ∧ ∀ (i : Nat) x, ps[i]? = some x → PrAt K H ss ts i x
  | [], [], ps, h, _ => by
    simp only [prs] at h
    cases dpa_nil h
    exact ⟨rfl, fun i x e => by simp at e⟩
  | t :: ts, s :: ss, ps, h, hl => by
    simp only [prs] at h
    obtain ⟨x, r, rfl, h1, h2⟩ := dpa_cons h
    obtain ⟨hl', hr⟩ := prs_at h2 (by simpa using hl)
    refine ⟨by simp [hl'], fun i y e => ?_⟩
    cases i with
    | zero =>
      cases (show some x = some y from e)
      obtain ⟨c, xs, rfl, hs, ha⟩ := dp_tup h1
      obtain ⟨p, r, rfl, q1, ha⟩ := dpa_cons ha
      obtain ⟨q, r, rfl, q2, ha⟩ := dpa_cons ha
      cases dpa_nil ha
      cases dp_str q1
      exact ⟨c, s, t, q, rfl, rfl, rfl, hs, q2⟩
    | succ i => exact hr i y e
theorem dp_prs {ss : List Str} {ts : List Tm} (h : Dp K H v (.tuple (prs ts ss))) (hl : ss.length = ts.length) : ∃ b ps, v = .ref b ∧ SqT K H b ps ∧ ps.length = ts.length ∧ ∀ (i : Nat) x, ps[i]? = some x → PrAt K H ss ts i x := by
  obtain ⟨a, xs, rfl, hs, ha⟩ := dp_tup h
  obtain ⟨h1, h2⟩ := prs_at ha hl
  exact ⟨a, xs, rfl, hs, h1, h2⟩
theorem PrAt.ex {H' : Hp} {ss : List Str} {ts : List Tm} {i : Nat} {x : V} (e : Ex H H') (h : PrAt K H ss ts i x) : PrAt K H' ss ts i x := by
  obtain ⟨c, s, t, u, h1, h2, h3, h4, h5⟩ := h
  exact ⟨c, s, t, u, h1, h2, h3, ex_t e h4, Dp.ex e _ _ h5⟩
end

/-! ### readings of the cases -/
section
variable {K : PySem.W.Frag} {H : Hp} {σ : L2.St} {D : Ends} {zs : List Str} {k : Nat} {js : List Nat} {tb : TS} {t : TM} {a : Addr} {y : Str} {r : List V}
theorem r_mAm (h : SqT K H a (.str y :: r)) (n : y ∉ zs) (q : t (.ref a) D σ H) : tMA K zs k js tb t (.ref a) D σ H := ⟨a, y, r, rfl, h, .inr ⟨fun z => n z.2, q⟩⟩
theorem r_mAh (h : SqT K H a (.str y :: r)) (hl : r.length = k) (n : y ∈ zs) (q : tb D (setAll σ js r) H) : tMA K zs k js tb t (.ref a) D σ H := ⟨a, y, r, rfl, h, .inl ⟨hl, n, q⟩⟩
theorem r_mBm (h : SqT K H a (.str y :: r)) (n : y ∉ zs) (q : t (.ref a) D σ H) : tMB K zs k js tb t (.ref a) D σ H := ⟨a, y, r, rfl, h, .inr ⟨fun z => n z.2, q⟩⟩
theorem r_mBh (h : SqT K H a (.str y :: r)) (hl : k ≤ r.length) (n : y ∈ zs) (q : ∀ p, H p = none → tb D (setAll σ js (r.take k ++ [.ref p])) (upd H p (.lst (r.drop k)))) : tMB K zs k js tb t (.ref a) D σ H := ⟨a, y, r, rfl, h, .inl ⟨hl, n, q⟩⟩
theorem r_isN {ta : TE} {Q : VK} (q : ta σ H fun x H1 => Q (.bl (decide (x = .non))) H1) : tIsN ta σ H Q := q
end
theorem so {X : Cx} {x : Str} {xs : List Str} {j : Nat} {js : List Nat} (r : SlotsOk X xs js) (hj : X.N[j]? = some x := by rfl) (hx : Loc X.env.scope x := by exact Or.inl rfl) (hf : X.fn x = true ∨ X.env.scope.names.lookup x = some .local := by exact Or.inr rfl) : SlotsOk X (x :: xs) (j :: js) := .cons hj hx hf r
end K8
namespace K8
open PySem PySem.Spec L2 Evl
open PyProof.Rows hiding St
section
variable {P : Program} {w : World} {K : PySem.W.Frag} {mg : Str → Option Value} {base : Heap}
/-- a right table -/
def okTab (tab : List (Option Nat)) : Prop := 1 ≤ tab.length ∧ tab.length ≤ 3 ∧ ∀ e ∈ tab, ∀ n, e = some n → n < 3
def spTable (K : PySem.W.Frag) : Sp := fun vs H Q _ => ∃ v tab, vs = [v] ∧ Dp K H v (.tuple (tab.map entD)) ∧ okTab tab ∧ RetV (.bl true) H Q
theorem ent_at {H : Hp} {tab : List (Option Nat)} {xs : List V} (h : DpAll K H xs (tab.map entD)) {i : Nat} {x : V} (e : xs[i]? = some x) : ∃ o, tab[i]? = some o ∧ x = (match o with | none => V.non | some n => V.int (n : Int)) := by
  obtain ⟨d, e1, h1⟩ := h.at e
  rw [List.getElem?_map] at e1
  cases q : tab[i]? with
  | none => rw [q] at e1; cases e1
  | some o =>
    rw [q] at e1
    cases e1
    refine ⟨o, rfl, ?_⟩
    cases o with
    | none => cases h1; rfl
    | some n => cases h1; rfl
theorem c_is_table (D : Dfn K mg "is_table" (top 20) ["value"]) (T : Txt K mg) (C : Cal P w K mg base 2 "is_from" spFrom) : Cal P w K mg base 3 "is_table" (spTable K) := by
  refine D.cal (N := ["value", "entry"]) (by decide +kernel) (fun vs H Q E h => ?_) fun f cdv A outer s H vs Q E hr nd h => ?_
  · obtain ⟨v, tab, rfl, _⟩ := h
    rfl
  obtain ⟨v, tab, rfl, hd, ok, q⟩ := h
  obtain ⟨a, xs, rfl, hs, ha⟩ := dp_tup hd
  have hl : xs.length = tab.length := by rw [ha.len, List.length_map]
  obtain ⟨o1, o2, o3⟩ := ok
  refine ⟨_, pss_cons (ps_if (PW.pt (pw_or (pt_not (pt_val (p_isi T (pv 0) T.tuple boot_tuple)))
      (pw_or1 (pt_not (pt_chain op_le op_le pe_int (p_len T (pv 0)) (C8.pe_gc rfl T.MAX_MODES))))))
      (pss_one (ps_ret pe_bl)) pss_nil)
    (pss_one (ps_ret (p_all T (pe_lc (own := [("entry", 1)]) (g := gName 1) (tt := tYes) rfl nd (pi_tup (pv 0)) (blkOk_by (N := ["value", "entry"]) (sc := defScope (top 20)) (by decide +kernel))
      (fun _ _ _ _ _ => pg_name (i := 1) nd rfl (Or.inl rfl)) (fun _ _ _ _ _ => pts_nil) (fun _ _ _ _ _ => pe_or (pe_cmp (pc_isN (pv 1))) (pe_one (pe_c C hr (by decide) (pa_cons (pv 1) (pa_cons pe_int (pa_cons (pe_op op_sub (C8.pe_gc rfl T.MAX_MODES) pe_int) pa_nil)))))))))), ?_⟩
  walk_at "rds"
  refine r_isi (ty_sqT hs) kb_tuple_tuple ?_
  walk_at "rds"
  refine r_lenT hs ?_
  walk_at "rds"
  rw [decide_eq_true (show (1 : Int) ≤ (xs.length : Int) by omega)]
  walk_at "rds"
  refine r_nyes (by omega) ?_
  walk_at "rds"
  refine ⟨a, rfl, ⟨_, hs⟩, lc_pure over_tup (fun H2 e2 => ex_t e2 hs) (fun _ y _ => y = .bl true) (fun _ _ _ _ _ h => h) (small (by omega)) (fun i v H1 hi e hy Q q => ?_) fun D H2 ys hD e2 h _ hall => ?_⟩
  · obtain ⟨o, ho, rfl⟩ := ent_at ha hy
    refine r_name ⟨rfl, ?_⟩
    cases o with
    | none =>
      walk_at "rds"
      refine r_isN ?_
      walk_at "rds"
      exact q _ _ (Ex.refl _) rfl
    | some n =>
      have hn := o3 _ (List.mem_of_getElem? ho) n rfl
      walk_at "rds"
      refine r_isN ?_
      walk_at "rds"
      refine r_no (by simp) ?_
      walk_at "rds"
      refine ⟨n, 0, 2, rfl, q _ _ (Ex.refl _) ?_⟩
      rw [decide_eq_true (show (0 : Int) ≤ (n : Int) by omega), decide_eq_true (show (n : Int) ≤ 2 by omega)]
      rfl
  · walk_at "rds"
    exact r_allT h hall (q _ e2)

/-! ### are_answers -/
def spAnswers (K : PySem.W.Frag) : Sp := fun vs H Q _ => ∃ v ss ts, vs = [v] ∧ Dp K H v (.tuple (prs ts ss)) ∧ ss.length = ts.length ∧ ss ≠ [] ∧ ss.length ≤ 1000 ∧ asc ss = true ∧ (∀ s ∈ ss, isNm s = true) ∧ RetV (.bl true) H Q
theorem c_are_answers (D : Dfn K mg "are_answers" (top 21) ["value"]) (T : Txt K mg) (C : Cal P w K mg base 1 "is_name" spName) (C2 : Cal P w K mg base 1 "is_ascending" (spAsc K)) : Cal P w K mg base 2 "are_answers" (spAnswers K) := by
  refine D.cal (N := ["value", "pair"]) (by decide +kernel) (fun vs H Q E h => ?_) fun f cdv A outer s H vs Q E hr nd h => ?_
  · obtain ⟨v, ss, ts, rfl, _⟩ := h
    rfl
  obtain ⟨v, ss, ts, rfl, hd, hl, hne, h1000, ha, hn, q⟩ := h
  obtain ⟨b, ps, rfl, hs, hlp, hp⟩ := dp_prs hd hl
  have hpos : 0 < ss.length := List.length_pos_iff.mpr hne
  refine ⟨_, pss_cons (ps_if (PW.pt (pw_or (pt_not (pt_val (p_isi T (pv 0) T.tuple boot_tuple)))
      (pw_or1 (pt_cmpR op_eq (p_len T (pv 0)) pe_int (nomark _)))))
      (pss_one (ps_ret pe_bl)) pss_nil)
    (pss_cons (ps_if (pt_not (pt_val (p_all T (pe_lc (own := [("pair", 1)]) (g := gName 1) (tt := tYes) rfl nd (pi_tup (pv 0)) (blkOk_by (N := ["value", "pair"]) (sc := defScope (top 21)) (by decide +kernel))
      (fun _ _ _ _ _ => pg_name (i := 1) nd rfl (Or.inl rfl)) (fun _ _ _ _ _ => pts_nil) (fun _ _ _ _ _ => pe_and (p_isi T (pv 1) T.tuple boot_tuple)
        (pe_and (pe_cmpR op_eq (p_len T (pv 1)) pe_int (nomark _)) (pe_one (pe_c C hr (by decide) (pa_cons (p_ixT (K := K) (pv 1) pe_int) pa_nil)))))))))
      (pss_one (ps_ret pe_bl)) pss_nil)
    (pss_one (ps_ret (pe_c C2 hr (by decide) (pa_cons (pe_lc (own := [("pair", 1)]) (g := gName 1) (tt := tYes) rfl nd (pi_tup (pv 0)) (blkOk_by (N := ["value", "pair"]) (sc := defScope (top 21)) (by decide +kernel))
      (fun _ _ _ _ _ => pg_name (i := 1) nd rfl (Or.inl rfl)) (fun _ _ _ _ _ => pts_nil) (fun _ _ _ _ _ => p_ixT (K := K) (pv 1) pe_int)) pa_nil))))), ?_⟩
  walk_at "rds"
  refine r_isi (ty_sqT hs) kb_tuple_tuple ?_
  walk_at "rds"
  refine r_lenT hs ?_
  walk_at "rds"
  refine r_eq rfl (r_bl (r_no (fun z => ?_) ?_))
  · have z' : ((ps.length : Int)) = 0 := by injection z
    omega
  walk_at "rds"
  refine ⟨b, rfl, ⟨_, hs⟩, lc_pure over_tup (fun H2 e2 => ex_t e2 hs) (fun _ y _ => y = .bl true) (fun _ _ _ _ _ h => h) (small (by omega)) (fun i v H1 hi e hy Q q => ?_) fun D H2 ys hD e2 h _ hall => ?_⟩
  · obtain ⟨c, s, t, u, e1, e2, rfl, e4, e5⟩ := (hp i v hy).ex e
    refine r_name ⟨rfl, ?_⟩
    walk_at "rds"
    refine r_isi (ty_sqT e4) kb_tuple_tuple ?_
    walk_at "rds"
    refine r_lenT e4 ?_
    walk_at "rds"
    refine r_eq rfl (r_bl (r_yes rfl ?_))
    walk_at "rds"
    refine r_ixT e4 r_at0 ?_
    walk_at "rds"
    exact ⟨s, rfl, hn s (List.mem_of_getElem? e1), fun H' e' => q _ _ e' rfl⟩
  walk_at "rds"
  refine r_allT h hall ?_
  walk_at "rds"
  refine ⟨b, rfl, ⟨_, ex_t e2 hs⟩, lc_pure over_tup (fun H3 e3 => ex_t (e2.trans e3) hs) (fun i y _ => ∃ s, ss[i]? = some s ∧ y = .str s) (fun _ _ _ _ _ h => h) (small (by omega)) (fun i v H1 hi e hy Q q => ?_) fun D H3 zs hD e3 h3 hlz hall3 => ?_⟩
  · obtain ⟨c, s, t, u, e1, e2, rfl, e4, e5⟩ := (hp i v hy).ex (e2.trans e)
    refine r_name ⟨rfl, ?_⟩
    walk_at "rds"
    refine r_ixT e4 r_at0 ?_
    exact q _ _ (Ex.refl _) ⟨s, e1, rfl⟩
  walk_at "rds"
  have ez : zs = ss.map V.str := by
    apply List.ext_getElem?
    intro i
    rw [List.getElem?_map]
    by_cases hi : i < zs.length
    · obtain ⟨s, es, ey⟩ := hall3 i _ (List.getElem?_eq_getElem hi)
      rw [List.getElem?_eq_getElem hi, es, ey]
      rfl
    · rw [List.getElem?_eq_none (by omega), List.getElem?_eq_none (by omega)]
      rfl
  exact ⟨D, ss, rfl, .inl (SqL.of (by rw [← ez]; exact h3)), ha, h1000, fun H' e' => q H' ((e2.trans e3).trans e')⟩
end
end K8
/-! has_form, inside, signals_in, is_bound, are_parameters -/
local macro_rules | `(tactic| walk_at "mm") => `(tactic| with_reducible first
  | (refine' K8.r_mAm ?hs ?hn ?_; (case hs => assumption); (case hn => decide +kernel))
  | (refine' K8.r_mBm ?hs ?hn ?_; (case hs => assumption); (case hn => decide +kernel)))
local macro_rules | `(tactic| walk_at "mh") => `(tactic| with_reducible first
  | (refine' K8.r_mAh ?hs ?hl ?hn ?_; (case hs => assumption); (case hl => with_unfolding_all rfl); (case hn => decide +kernel))
  | (refine' K8.r_mBh ?hs ?hl ?hn ?_; (case hs => assumption); (case hl => first | exact Nat.zero_le _ | (simp only [List.length_cons]; omega)); (case hn => decide +kernel)))
namespace K8
open PySem PySem.Spec L2 Evl
open PyProof.Rows hiding St
/-- a right form -/
def frm : Tm → Prop
  | .act w tab => isNm w = true ∧ okTab tab
  | .nam k x => isNm x = true ∧ (k = "run" ∨ k = "exit" ∨ k = "raise")
  | .ser k ts => k = "seq" ∨ ((k = "or" ∨ k = "and") ∧ ts ≠ []) ∨ (k = "case" ∧ 1 ≤ ts.length ∧ ts.length ≤ 3)
  | .cal x _ => isNm x = true
  | .sco x _ => isNm x = true
  | .ans ss ts _ => ss.length = ts.length ∧ ss ≠ [] ∧ ss.length ≤ 1000 ∧ asc ss = true ∧ ∀ s ∈ ss, isNm s = true
section
variable {P : Program} {w : World} {K : PySem.W.Frag} {mg : Str → Option Value} {base : Heap}
def spForm (K : PySem.W.Frag) : Sp := fun vs H Q _ => ∃ v t, vs = [v] ∧ Dp K H v (toD t) ∧ frm t ∧ RetV (.bl true) H Q
theorem c_has_form (D : Dfn K mg "has_form" (top 22) ["value"]) (T : Txt K mg) (C1 : Cal P w K mg base 1 "is_name" spName) (C2 : Cal P w K mg base 3 "is_table" (spTable K)) (C3 : Cal P w K mg base 2 "are_answers" (spAnswers K)) : Cal P w K mg base 4 "has_form" (spForm K) := by
  refine D.cal (N := ["value", "word", "table", "terms", "first", "name", "label", "inner", "answers"]) (by decide +kernel) (fun vs H Q E h => ?_) fun f cdv A outer s H vs Q E hr nd h => ?_
  · obtain ⟨v, t, rfl, _⟩ := h
    rfl
  obtain ⟨v, t, rfl, hd, ok, q⟩ := h
  refine ⟨_, pss_cons (ps_if (PW.pt (pw_or (pt_not (pt_val (p_isi T (pv 0) T.tuple boot_tuple)))
      (pw_or (pt_cmpR op_eq (p_len T (pv 0)) pe_int (nomark _)) (pw_or1 (pt_not (pt_val (p_isi T (p_ixT (K := K) (pv 0) pe_int) T.str boot_str)))))))
      (pss_one (ps_ret pe_bl)) pss_nil)
    (pss_cons (ps_match (pv 0)
      (pm_A K 2 nd .one (.cons (.cons .nil)) (so (j := 1) (so (j := 2) .nil)) (pss_one (ps_ret (pe_and (pe_c C1 hr (by decide) (pa_cons (pv 1) pa_nil)) (pe_one (pe_c C2 hr (by decide) (pa_cons (pv 2) pa_nil))))))
      (pm_B K 0 nd .one .nil (so (j := 3) .nil) (pss_one (ps_ret pe_bl))
      (pm_B K 1 nd (.many (.cons (.cons .nil))) (.cons .nil) (so (j := 4) (so (j := 3) .nil)) (pss_one (ps_ret pe_bl))
      (pm_B K 0 nd .one .nil (so (j := 3) .nil) (pss_one (ps_ret (pe_chain op_le op_le pe_int (p_len T (pv 3)) (C8.pe_gc rfl T.MAX_MODES))))
      (pm_A K 1 nd (.many (.cons (.cons (.cons .nil)))) (.cons .nil) (so (j := 5) .nil) (pss_one (ps_ret (pe_c C1 hr (by decide) (pa_cons (pv 5) pa_nil))))
      (pm_B K 1 nd .one (.cons .nil) (so (j := 5) (so (j := 3) .nil)) (pss_one (ps_ret (pe_c C1 hr (by decide) (pa_cons (pv 5) pa_nil))))
      (pm_A K 2 nd .one (.cons (.cons .nil)) (so (j := 6) (so (j := 7) .nil)) (pss_one (ps_ret (pe_c C1 hr (by decide) (pa_cons (pv 6) pa_nil))))
      (pm_A K 2 nd .one (.cons (.cons .nil)) (so (j := 8) (so (j := 7) .nil)) (pss_one (ps_ret (pe_c C3 hr (by decide) (pa_cons (pv 8) pa_nil))))
      pms_nil)))))))))
    (pss_one (ps_ret pe_bl))), ?_⟩
  have hh : ∃ a y r, v = .ref a ∧ SqT K H a (.str y :: r) := by
    cases t with
    | act => obtain ⟨a, t, e, hs, _⟩ := dp_act hd; exact ⟨_, _, _, e, hs⟩
    | nam => obtain ⟨a, e, hs⟩ := dp_nam hd; exact ⟨_, _, _, e, hs⟩
    | ser => obtain ⟨a, _, e, hs, _⟩ := dp_ser hd; exact ⟨_, _, _, e, hs⟩
    | cal => obtain ⟨a, _, e, hs, _⟩ := dp_cal hd; exact ⟨_, _, _, e, hs⟩
    | sco => obtain ⟨a, _, e, hs, _⟩ := dp_sco hd; exact ⟨_, _, _, e, hs⟩
    | ans => obtain ⟨a, _, _, e, hs, _⟩ := dp_ans hd; exact ⟨_, _, _, e, hs⟩
  obtain ⟨a, y, r, rfl, hs⟩ := hh
  walk_at "rds"
  refine r_isi (ty_sqT hs) kb_tuple_tuple ?_
  walk_at "rds"
  refine r_lenT hs ?_
  walk_at "rds"
  refine r_eq rfl (r_bl (r_no (fun z => ?_) ?_))
  · have z' : (((V.str y :: r).length : Int)) = 0 := by injection z
    rw [List.length_cons] at z'
    omega
  walk_at "rds"
  refine r_ixT hs r_at0 ?_
  walk_at "rds"
  refine r_isi (ty_str y) kb_str_str ?_
  walk_at "rds"
  clear hs
  cases t with
  | act w tab =>
    obtain ⟨a', u, e, hs, ht⟩ := dp_act hd
    cases e
    obtain ⟨o1, o2⟩ := ok
    walk_at "mh"
    walk_at "rds"
    refine ⟨w, rfl, o1, fun H' e => ?_⟩
    walk_at "rds"
    exact ⟨u, tab, rfl, Dp.ex e _ _ ht, o2, fun H2 e2 => q _ (e.trans e2)⟩
  | nam k x =>
    obtain ⟨a', e, hs⟩ := dp_nam hd
    cases e
    obtain ⟨o1, o2⟩ := ok
    rcases o2 with rfl | rfl | rfl
    all_goals
      repeat walk_at "mm"
      walk_at "mh"
      walk_at "rds"
      exact ⟨x, rfl, o1, q⟩
  | ser k ts =>
    obtain ⟨a', xs, e, hs, ha⟩ := dp_ser hd
    cases e
    have hl : xs.length = ts.length := by rw [ha.len, toDs_len]
    rcases ok with rfl | ⟨rfl | rfl, hne⟩ | ⟨rfl, h1, h3⟩
    · repeat walk_at "mm"
      refine r_mBh hs (Nat.zero_le _) (by decide +kernel) fun p hp => ?_
      walk_at "rds"
      exact q _ (Ex.new hp)
    · repeat walk_at "mm"
      refine r_mBh hs (by rw [hl]; exact List.length_pos_iff.mpr hne) (by decide +kernel) fun p hp => ?_
      walk_at "rds"
      exact q _ (Ex.new hp)
    · repeat walk_at "mm"
      refine r_mBh hs (by rw [hl]; exact List.length_pos_iff.mpr hne) (by decide +kernel) fun p hp => ?_
      walk_at "rds"
      exact q _ (Ex.new hp)
    · repeat walk_at "mm"
      refine r_mBh hs (Nat.zero_le _) (by decide +kernel) fun p hp => ?_
      walk_at "rds"
      refine r_lenL (SqL.of upd_same) ?_
      walk_at "rds"
      have e2 : decide (((xs.drop 0).length : Int) ≤ 3) = true := decide_eq_true (by rw [List.drop_zero]; omega)
      refine r_yes (by rw [List.drop_zero]; omega) ?_
      walk_at "rds"
      refine (congrArg (fun b => Q (V.bl b) _) e2).mpr ?_
      exact q _ (Ex.new hp)
  | cal x ts =>
    obtain ⟨a', xs, e, hs, ha⟩ := dp_cal hd
    cases e
    repeat walk_at "mm"
    refine r_mBh hs (by rw [List.length_cons]; exact Nat.le_add_left _ _) (by decide +kernel) fun p hp => ?_
    walk_at "rds"
    exact ⟨x, rfl, ok, fun H' e => q H' ((Ex.new hp).trans e)⟩
  | sco x t =>
    obtain ⟨a', u, e, hs, ht⟩ := dp_sco hd
    cases e
    repeat walk_at "mm"
    walk_at "mh"
    walk_at "rds"
    exact ⟨x, rfl, ok, q⟩
  | ans ss ts t =>
    obtain ⟨a', b, u, e, hs, ht, _⟩ := dp_ans hd
    cases e
    obtain ⟨o1, o2, o3, o4, o5⟩ := ok
    repeat walk_at "mm"
    walk_at "mh"
    walk_at "rds"
    exact ⟨b, ss, ts, rfl, ht, o1, o2, o3, o4, o5, q⟩
end
end K8
/-! inside, signals_in, is_bound, are_parameters -/
namespace K8
open PySem PySem.Spec L2 Evl
open PyProof.Rows hiding St
theorem ex_none {H H' : Hp} {p : Addr} (e : Ex H H') (h : H' p = none) : H p = none := by
  cases q : H p with
  | none => rfl
  | some o => rw [e p o q] at h; cases h
theorem dpa_snoc {K : PySem.W.Frag} {H : Hp} {x : V} {d : PyData} : ∀ {xs : List V} {ds : List PyData}, DpAll K H xs ds → Dp K H x d → DpAll K H (xs ++ [x]) (ds ++ [d]) := by
  intro xs ds h h1
  induction ds generalizing xs with
  | nil =>
    cases h
    exact .cons h1 .nil
  | cons e ds ih =>
    cases h with
    | cons h2 h3 => exact .cons h2 (ih h3)
theorem dpa_of {K : PySem.W.Frag} {H : Hp} : ∀ {xs : List V} {ds : List PyData}, xs.length = ds.length → (∀ (i : Nat) x, xs[i]? = some x → ∃ d, ds[i]? = some d ∧ Dp K H x d) → DpAll K H xs ds
  | [], [], _, _ => .nil
  | x :: xs, d :: ds, hl, h => by
    obtain ⟨d', e, hd⟩ := h 0 x rfl
    cases (show some d = some d' from e)
    exact .cons hd (dpa_of (by simpa using hl) fun i x e => h (i + 1) x e)
section
variable {P : Program} {w : World} {K : PySem.W.Frag} {mg : Str → Option Value} {base : Heap}
def spIn (K : PySem.W.Frag) : Sp := fun vs H Q _ => ∃ v t, vs = [v] ∧ Dp K H v (toD t) ∧ frm t ∧ ∀ l H' xs, H l = none → Ex H H' → H' l = some (.lst xs) → DpAll K H' xs (toDs (kids t)) → Q (.ref l) H'
theorem c_inside (D : Dfn K mg "inside" (top 23) ["term"]) : Cal P w K mg base 1 "inside" (spIn K) := by
  refine D.cal (N := ["term", "terms", "name", "label", "inner", "answers", "pair"]) (by decide +kernel) (fun vs H Q E h => ?_) fun f cdv A outer s H vs Q E hr nd h => ?_
  · obtain ⟨v, t, rfl, _⟩ := h
    rfl
  obtain ⟨v, t, rfl, hd, ok, q⟩ := h
  refine ⟨_, pss_cons (ps_match (pv 0)
      (pm_B K 0 nd (.many (.cons (.cons (.cons (.cons .nil))))) .nil (so (j := 1) .nil) (pss_one (ps_ret (pv 1)))
      (pm_B K 1 nd .one (.cons .nil) (so (j := 2) (so (j := 1) .nil)) (pss_one (ps_ret (pv 1)))
      (pm_A K 2 nd .one (.cons (.cons .nil)) (so (j := 3) (so (j := 4) .nil)) (pss_one (ps_ret (pe_lst (pa_cons (pv 4) pa_nil))))
      (pm_A K 2 nd .one (.cons (.cons .nil)) (so (j := 5) (so (j := 4) .nil)) (pss_one (ps_ret (pe_lst (p_star K (pe_lc (own := [("pair", 6)]) (g := gName 6) (tt := tYes) rfl nd (pi_tup (pv 5)) (blkOk_by (N := ["term", "terms", "name", "label", "inner", "answers", "pair"]) (sc := defScope (top 23)) (by decide +kernel))
      (fun _ _ _ _ _ => pg_name (i := 6) nd rfl (Or.inl rfl)) (fun _ _ _ _ _ => pts_nil) (fun _ _ _ _ _ => p_ixT (K := K) (pv 6) pe_int)) (pa_cons (pv 4) pa_nil)))))
      pms_nil)))))
    (pss_one (ps_ret (pe_lst pa_nil))), ?_⟩
  walk_at "rds"
  cases t with
  | act w tab =>
    obtain ⟨a', u, rfl, hs, ht⟩ := dp_act hd
    repeat walk_at "mm"
    walk_at "rds"
    refine ⟨Nat.zero_le _, fun p hp => ?_⟩
    exact q _ _ [] hp (Ex.new hp) upd_same (by simp only [kids, toDs]; exact .nil)
  | nam k x =>
    obtain ⟨a', rfl, hs⟩ := dp_nam hd
    obtain ⟨o1, o2⟩ := ok
    rcases o2 with rfl | rfl | rfl
    all_goals
      repeat walk_at "mm"
      walk_at "rds"
      refine ⟨Nat.zero_le _, fun p hp => ?_⟩
      exact q _ _ [] hp (Ex.new hp) upd_same (by simp only [kids, toDs]; exact .nil)
  | ser k ts =>
    obtain ⟨a', xs, rfl, hs, ha⟩ := dp_ser hd
    have hk : k ∈ (["seq", "or", "and", "case"] : List Str) := by rcases ok with rfl | ⟨rfl | rfl, _⟩ | ⟨rfl, _⟩ <;> decide +kernel
    refine r_mBh hs (Nat.zero_le _) hk fun p hp => ?_
    walk_at "rds"
    exact q _ _ xs hp (Ex.new hp) upd_same (DpAll.ex (Ex.new hp) _ _ ha)
  | cal x ts =>
    obtain ⟨a', xs, rfl, hs, ha⟩ := dp_cal hd
    repeat walk_at "mm"
    refine r_mBh hs (by rw [List.length_cons]; exact Nat.le_add_left _ _) (by decide +kernel) fun p hp => ?_
    walk_at "rds"
    exact q _ _ xs hp (Ex.new hp) upd_same (DpAll.ex (Ex.new hp) _ _ ha)
  | sco x t =>
    obtain ⟨a', u, rfl, hs, ht⟩ := dp_sco hd
    repeat walk_at "mm"
    walk_at "mh"
    walk_at "rds"
    refine ⟨Nat.le_of_lt (small (by simp)), fun p hp => ?_⟩
    exact q _ _ [u] hp (Ex.new hp) upd_same (by simp only [kids, toDs]; exact .cons (Dp.ex (Ex.new hp) _ _ ht) .nil)
  | ans ss ts t =>
    obtain ⟨a', b, u, rfl, hs, hb, hu⟩ := dp_ans hd
    obtain ⟨o1, o2, o3, o4, o5⟩ := ok
    obtain ⟨b', ps, rfl, hps, hpl, hp⟩ := dp_prs hb o1
    repeat walk_at "mm"
    walk_at "mh"
    walk_at "rds"
    refine ⟨b', rfl, ⟨_, hps⟩, lc_pure over_tup (fun H2 e2 => ex_t e2 hps) (fun i y H => ∃ t, ts[i]? = some t ∧ Dp K H y (toD t)) (fun _ _ _ _ kx ⟨t, h1, h2⟩ => ⟨t, h1, Dp.kx kx _ _ h2 (noL_toD t)⟩) (small (by omega)) (fun i v H1 hi e hy Q q => ?_) fun D H2 ys hD e2 h hyl hall => ?_⟩
    · obtain ⟨c, s, t, u, e1, e2, rfl, e4, e5⟩ := (hp i v hy).ex e
      refine r_name ⟨rfl, ?_⟩
      walk_at "rds"
      refine r_ixT e4 r_at1 ?_
      exact q _ _ (Ex.refl _) ⟨t, e2, e5⟩
    · walk_at "rds"
      refine ⟨D, ys, rfl, .inr (SqL.of h), ?_⟩
      walk_at "rds"
      refine ⟨Nat.le_of_lt (small (by simp; omega)), fun p hp => ?_⟩
      have ex := e2.trans (Ex.new (o := HO.lst (ys ++ [u])) hp)
      refine q _ _ (ys ++ [u]) (ex_none e2 hp) ex upd_same ?_
      have e : toDs (kids (.ans ss ts t)) = toDs ts ++ [toD t] := by
        simp [kids, toDs_map]
      rw [e]
      refine dpa_snoc ?_ (Dp.ex ex _ _ hu)
      refine DpAll.ex (Ex.new hp) _ _ (dpa_of (by rw [hyl, toDs_len, hpl]) fun i x hx => ?_)
      obtain ⟨t, h1, h2⟩ := hall i x hx
      exact ⟨toD t, by rw [toDs_map, List.getElem?_map, h1]; rfl, h2⟩

/-! ### signals_in -/
def sgs : Tm → List Str
  | .nam k x => if k = "raise" then [x] else []
  | .ans ss _ _ => ss
  | _ => []
def spSig (K : PySem.W.Frag) : Sp := fun vs H Q _ => ∃ v t, vs = [v] ∧ Dp K H v (toD t) ∧ frm t ∧ ∀ l H', H l = none → Ex H H' → H' l = some (.lst ((sgs t).map V.str)) → Q (.ref l) H'
theorem c_signals_in (D : Dfn K mg "signals_in" (top 25) ["term"]) : Cal P w K mg base 1 "signals_in" (spSig K) := by
  refine D.cal (N := ["term", "signal", "answers", "inner", "pair"]) (by decide +kernel) (fun vs H Q E h => ?_) fun f cdv A outer s H vs Q E hr nd h => ?_
  · obtain ⟨v, t, rfl, _⟩ := h
    rfl
  obtain ⟨v, t, rfl, hd, ok, q⟩ := h
  refine ⟨_, pss_cons (ps_match (pv 0)
      (pm_A K 1 nd .one (.cons .nil) (so (j := 1) .nil) (pss_one (ps_ret (pe_lst (pa_cons (pv 1) pa_nil))))
      (pm_A K 2 nd .one (.cons (.cons .nil)) (so (j := 2) (so (j := 3) .nil)) (pss_one (ps_ret (pe_lc (own := [("pair", 4)]) (g := gName 4) (tt := tYes) rfl nd (pi_tup (pv 2)) (blkOk_by (N := ["term", "signal", "answers", "inner", "pair"]) (sc := defScope (top 25)) (by decide +kernel))
      (fun _ _ _ _ _ => pg_name (i := 4) nd rfl (Or.inl rfl)) (fun _ _ _ _ _ => pts_nil) (fun _ _ _ _ _ => p_ixT (K := K) (pv 4) pe_int))))
      pms_nil)))
    (pss_one (ps_ret (pe_lst pa_nil))), ?_⟩
  walk_at "rds"
  have fin : ∀ p : Addr, H p = none → sgs t = [] → Q (.ref p) (upd H p (.lst [])) := fun p hp e => q p _ hp (Ex.new hp) (by rw [e]; exact upd_same)
  cases t with
  | act w tab =>
    obtain ⟨a', u, rfl, hs, ht⟩ := dp_act hd
    repeat walk_at "mm"
    walk_at "rds"
    exact ⟨Nat.zero_le _, fun p hp => fin p hp rfl⟩
  | nam k x =>
    obtain ⟨a', rfl, hs⟩ := dp_nam hd
    obtain ⟨o1, o2⟩ := ok
    rcases o2 with rfl | rfl | rfl
    · repeat walk_at "mm"
      walk_at "rds"
      exact ⟨Nat.zero_le _, fun p hp => fin p hp rfl⟩
    · repeat walk_at "mm"
      walk_at "rds"
      exact ⟨Nat.zero_le _, fun p hp => fin p hp rfl⟩
    · walk_at "mh"
      walk_at "rds"
      refine ⟨Nat.le_of_lt (small (by simp)), fun p hp => ?_⟩
      exact q _ _ hp (Ex.new hp) upd_same
  | ser k ts =>
    obtain ⟨a', xs, rfl, hs, ha⟩ := dp_ser hd
    rcases ok with rfl | ⟨rfl | rfl, _⟩ | ⟨rfl, _⟩
    all_goals
      repeat walk_at "mm"
      walk_at "rds"
      exact ⟨Nat.zero_le _, fun p hp => fin p hp rfl⟩
  | cal x ts =>
    obtain ⟨a', xs, rfl, hs, ha⟩ := dp_cal hd
    repeat walk_at "mm"
    walk_at "rds"
    exact ⟨Nat.zero_le _, fun p hp => fin p hp rfl⟩
  | sco x t =>
    obtain ⟨a', u, rfl, hs, ht⟩ := dp_sco hd
    repeat walk_at "mm"
    walk_at "rds"
    exact ⟨Nat.zero_le _, fun p hp => fin p hp rfl⟩
  | ans ss ts t =>
    obtain ⟨a', b, u, rfl, hs, hb, hu⟩ := dp_ans hd
    obtain ⟨o1, o2, o3, o4, o5⟩ := ok
    obtain ⟨b', ps, rfl, hps, hpl, hp⟩ := dp_prs hb o1
    repeat walk_at "mm"
    walk_at "mh"
    walk_at "rds"
    refine ⟨b', rfl, ⟨_, hps⟩, lc_pure over_tup (fun H2 e2 => ex_t e2 hps) (fun i y _ => ∃ s, ss[i]? = some s ∧ y = V.str s) (fun _ _ _ _ _ h => h) (small (by omega)) (fun i v H1 hi e hy Q q => ?_) fun D H2 ys hD e2 h hyl hall => ?_⟩
    · obtain ⟨c, s, t, u, e1, e2, rfl, e4, e5⟩ := (hp i v hy).ex e
      refine r_name ⟨rfl, ?_⟩
      walk_at "rds"
      refine r_ixT e4 r_at0 ?_
      exact q _ _ (Ex.refl _) ⟨s, e1, rfl⟩
    · have ez : ys = ss.map V.str := by
        apply List.ext_getElem?
        intro i
        rw [List.getElem?_map]
        by_cases hi : i < ys.length
        · obtain ⟨s, es, ey⟩ := hall i _ (List.getElem?_eq_getElem hi)
          rw [List.getElem?_eq_getElem hi, es, ey]
          rfl
        · rw [List.getElem?_eq_none (by omega), List.getElem?_eq_none (by omega)]
          rfl
      exact q _ _ hD e2 (by rw [ez] at h; exact h)
end
end K8
/-! is_bound, are_parameters, terms_of, is_body -/
namespace K8
open PySem PySem.Spec L2 Evl
open PyProof.Rows hiding St
theorem inV_strs {z : Str} : ∀ {zs : List Str}, inV (.str z) (zs.map V.str) = decide (z ∈ zs) := by
  intro zs
  induction zs with
  | nil => rfl
  | cons y r ih =>
    have e : inV (.str z) ((y :: r).map V.str) = (eqV (.str y) (.str z) || inV (.str z) (r.map V.str)) := rfl
    have e2 : eqV (.str y) (.str z) = decide (z = y) := by
      by_cases h : z = y
      · subst h; simp [eqV]
      · have h' : ¬ y = z := fun q => h q.symm
        simp [eqV, h, h']
    rw [e, ih, e2, ← Bool.decide_or]
    exact decide_eq_decide.mpr List.mem_cons.symm
theorem flat_strs (zs : List Str) : (zs.map V.str).all flatV = true := by
  rw [List.all_eq_true]
  intro x hx
  obtain ⟨z, _, rfl⟩ := List.mem_map.mp hx
  rfl
theorem r_inT {K : PySem.W.Frag} {H : Hp} {z : Str} {a : Addr} {zs : List Str} {Q : VK} (h : SqT K H a (zs.map V.str)) (q : Q (.bl (decide (z ∈ zs))) H) : rIn K false (.str z) (.ref a) H Q :=
  ⟨a, _, rfl, .inr h, rfl, flat_strs zs, by rw [inV_strs]; exact q⟩
section
variable {P : Program} {w : World} {K : PySem.W.Frag} {mg : Str → Option Value} {base : Heap}
def bnd (own L : List Str) : Tm → Prop
  | .nam k x => (k = "run" → x ∈ own) ∧ (k = "exit" → x ∈ L)
  | _ => True
def spBound (K : PySem.W.Frag) : Sp := fun vs H Q _ => ∃ (v : V) (a b : Addr) (t : Tm) (own L : List Str), vs = [v, .ref a, .ref b] ∧ Dp K H v (toD t) ∧ frm t ∧ SqT K H a (own.map V.str) ∧ SqT K H b (L.map V.str) ∧ bnd own L t ∧ Q (.bl true) H
/-- the head of a term -/
def hd1 : Tm → Str
  | .act _ _ => "do" | .nam k _ => k | .ser k _ => k | .cal _ _ => "call" | .sco _ _ => "scope" | .ans _ _ _ => "answer"
theorem dp_hd {H : Hp} {v : V} {t : Tm} (hd : Dp K H v (toD t)) : ∃ a r, v = .ref a ∧ SqT K H a (.str (hd1 t) :: r) ∧ (∀ x, (∃ k, t = .nam k x) ∨ (∃ u, t = .sco x u) → ∃ r', r = .str x :: r') := by
  cases t with
  | act => obtain ⟨a, t, e, hs, _⟩ := dp_act hd; exact ⟨_, _, e, hs, fun x h => by rcases h with ⟨k, h⟩ | ⟨u, h⟩ <;> cases h⟩
  | nam => obtain ⟨a, e, hs⟩ := dp_nam hd; exact ⟨_, _, e, hs, fun x h => by rcases h with ⟨k, h⟩ | ⟨u, h⟩ <;> cases h; exact ⟨_, rfl⟩⟩
  | ser => obtain ⟨a, _, e, hs, _⟩ := dp_ser hd; exact ⟨_, _, e, hs, fun x h => by rcases h with ⟨k, h⟩ | ⟨u, h⟩ <;> cases h⟩
  | cal => obtain ⟨a, _, e, hs, _⟩ := dp_cal hd; exact ⟨_, _, e, hs, fun x h => by rcases h with ⟨k, h⟩ | ⟨u, h⟩ <;> cases h⟩
  | sco => obtain ⟨a, _, e, hs, _⟩ := dp_sco hd; exact ⟨_, _, e, hs, fun x h => by rcases h with ⟨k, h⟩ | ⟨u, h⟩ <;> cases h; exact ⟨_, rfl⟩⟩
  | ans => obtain ⟨a, _, _, e, hs, _⟩ := dp_ans hd; exact ⟨_, _, e, hs, fun x h => by rcases h with ⟨k, h⟩ | ⟨u, h⟩ <;> cases h⟩
theorem hd_run {t : Tm} (ok : frm t) (h : hd1 t = "run" ∨ hd1 t = "exit" ∨ hd1 t = "raise") : ∃ x, t = .nam (hd1 t) x := by
  cases t with
  | nam k x => exact ⟨x, rfl⟩
  | ser k ts =>
    exfalso
    have h : k = "run" ∨ k = "exit" ∨ k = "raise" := h
    rcases ok with rfl | ⟨rfl | rfl, _⟩ | ⟨rfl, _⟩ <;> revert h <;> decide +kernel
  | _ =>
    exfalso
    simp only [hd1] at h
    revert h
    decide +kernel
theorem hd_scope {t : Tm} (ok : frm t) (h : hd1 t = "scope") : ∃ x u, t = .sco x u := by
  cases t with
  | sco x u => exact ⟨x, u, rfl⟩
  | nam k x =>
    exfalso
    have h : k = "scope" := h
    subst h
    obtain ⟨_, h⟩ := ok
    revert h
    decide +kernel
  | ser k ts =>
    exfalso
    have h : k = "scope" := h
    subst h
    rcases ok with h | ⟨h | h, _⟩ | ⟨h, _⟩ <;> revert h <;> decide +kernel
  | _ =>
    exfalso
    simp only [hd1] at h
    revert h
    decide +kernel
theorem c_is_bound (D : Dfn K mg "is_bound" (top 26) ["term", "parameters", "labels"]) : Cal P w K mg base 1 "is_bound" (spBound K) := by
  refine D.cal (N := ["term", "parameters", "labels"]) (by decide +kernel) (fun vs H Q E h => ?_) fun f cdv A outer s H vs Q E hr nd h => ?_
  · obtain ⟨v, a, b, t, own, L, rfl, _⟩ := h
    rfl
  obtain ⟨v, a, b, t, own, L, rfl, hd, ok, h1, h2, hb, q⟩ := h
  obtain ⟨p, r, rfl, hs, hx⟩ := dp_hd hd
  refine ⟨_, pss_cons (ps_if (pt_cmpR op_eq (p_ixT (K := K) (pv 0) pe_int) pe_str (nomark _)) (pss_one (ps_ret (p_in K (p_ixT (K := K) (pv 0) pe_int) (pv 1)))) pss_nil)
    (pss_one (ps_ret (pe_or (pe_cmpR op_ne (p_ixT (K := K) (pv 0) pe_int) pe_str (nomark _)) (pe_one (p_in K (p_ixT (K := K) (pv 0) pe_int) (pv 2)))))), ?_⟩
  walk_at "rds"
  refine r_ixT hs r_at0 ?_
  walk_at "rds"
  by_cases e : hd1 t = "run"
  · obtain ⟨x, ex⟩ := hd_run ok (.inl e)
    obtain ⟨r', rfl⟩ := hx x (.inl ⟨_, ex⟩)
    have hb' : x ∈ own := by rw [ex] at hb; exact hb.1 e
    refine r_eq rfl (r_bl (r_yes (by rw [e]) ?_))
    walk_at "rds"
    refine r_ixT hs r_at1 ?_
    walk_at "rds"
    refine r_inT h1 ?_
    rw [decide_eq_true hb']
    exact q
  · refine r_eq rfl (r_bl (r_no (fun z => e (by injection z)) ?_))
    walk_at "rds"
    refine r_ixT hs r_at0 ?_
    walk_at "rds"
    by_cases e2 : hd1 t = "exit"
    · obtain ⟨x, ex⟩ := hd_run ok (.inr (.inl e2))
      obtain ⟨r', rfl⟩ := hx x (.inl ⟨_, ex⟩)
      have hb' : x ∈ L := by rw [ex] at hb; exact hb.2 e2
      refine r_ne rfl (r_bl (r_nyes (by rw [e2]) ?_))
      walk_at "rds"
      refine r_ixT hs r_at1 ?_
      walk_at "rds"
      refine r_inT h2 ?_
      rw [decide_eq_true hb']
      exact q
    · refine r_ne rfl (r_bl (r_nno (fun z => e2 (by injection z)) ?_))
      exact q

/-! ### are_parameters -/
def spPar (K : PySem.W.Frag) : Sp := fun vs H Q _ => ∃ (a : Addr) (zs : List Str), vs = [.ref a] ∧ SqT K H a (zs.map V.str) ∧ (∀ z ∈ zs, isNm z = true) ∧ zs.Nodup ∧ zs.length ≤ 3 ∧ RetV (.bl true) H Q
theorem c_are_parameters (D : Dfn K mg "are_parameters" (top 28) ["value"]) (T : Txt K mg) (C : Cal P w K mg base 2 "are_names" (spNames K)) : Cal P w K mg base 3 "are_parameters" (spPar K) := by
  refine D.cal (N := ["value"]) (by decide +kernel) (fun vs H Q E h => ?_) fun f cdv A outer s H vs Q E hr nd h => ?_
  · obtain ⟨a, zs, rfl, _⟩ := h
    rfl
  obtain ⟨a, zs, rfl, hs, hn, hd, hl, q⟩ := h
  refine ⟨_, pss_one (ps_ret (pe_and (pe_c C hr (by decide) (pa_cons (pv 0) pa_nil)) (pe_and (pe_cmpR op_le (p_len T (pv 0)) (C8.pe_gc rfl T.MAX_PARAMETERS) (nomark _))
    (pe_one (pe_cmpR op_eq (pe_lenSetN T (pv 0)) (p_len T (pv 0)) (nomark _)))))), ?_⟩
  walk_at "rds"
  refine ⟨a, zs, rfl, hs, hn, by omega, fun H' e => ?_⟩
  walk_at "rds"
  have hs' := ex_t e hs
  refine r_lenT hs' ?_
  walk_at "rds"
  refine r_yes (by rw [List.length_map]; omega) ?_
  walk_at "rds"
  refine r_lenSetN ?_
  walk_at "rds"
  refine ⟨a, zs, rfl, .inr hs', hd, by omega, ?_⟩
  walk_at "rds"
  refine r_lenT hs' ?_
  walk_at "rds"
  refine r_eq rfl ?_
  rw [decide_eq_true (by rw [List.length_map])]
  exact q _ e
end
end K8
/-! terms_of, is_body -/
namespace K8
open PySem PySem.Spec L2 Evl
open PyProof.Rows hiding St
section
variable {K : PySem.W.Frag} {H : Hp}
theorem dpa_drop {xs : List V} {ds : List PyData} (h : DpAll K H xs ds) : DpAll K H xs.dropLast ds.dropLast :=
  dpa_of (by rw [List.length_dropLast, List.length_dropLast, h.len]) fun i x e => by
    rw [List.getElem?_dropLast] at e
    split at e
    · obtain ⟨d, e1, e2⟩ := h.at e
      exact ⟨d, by rw [List.getElem?_dropLast, ← h.len]; rename_i c; rw [if_pos c]; exact e1, e2⟩
    · cases e
theorem dpa_app {xs ys : List V} {ds es : List PyData} (h : DpAll K H xs ds) (h2 : DpAll K H ys es) : DpAll K H (xs ++ ys) (ds ++ es) := by
  induction ds generalizing xs with
  | nil => cases h; exact h2
  | cons d ds ih =>
    cases h with
    | cons a b => exact .cons a (ih b)
theorem dpa_rev {xs : List V} {ds : List PyData} (h : DpAll K H xs ds) : DpAll K H xs.reverse ds.reverse := by
  induction ds generalizing xs with
  | nil => cases h; exact .nil
  | cons d ds ih =>
    cases h with
    | cons a b =>
      rw [List.reverse_cons, List.reverse_cons]
      exact dpa_snoc (ih b) a
theorem dpa_last {xs : List V} {us : List Tm} (h : DpAll K H xs (toDs us)) (hne : xs ≠ []) : ∃ x u, xs[xs.length - 1]? = some x ∧ us = us.dropLast ++ [u] ∧ Dp K H x (toD u) ∧ DpAll K H xs.dropLast (toDs us.dropLast) := by
  have hl := h.len
  rw [toDs_len] at hl
  have hp : 0 < xs.length := List.length_pos_iff.mpr hne
  have hx : xs[xs.length - 1]? = some (xs[xs.length - 1]'(by omega)) := List.getElem?_eq_getElem (by omega)
  obtain ⟨d, e1, e2⟩ := h.at hx
  rw [toDs_map, List.getElem?_map] at e1
  have hu : us ≠ [] := fun z => by subst z; rw [List.length_nil] at hl; omega
  have hu2 : us[xs.length - 1]? = some (us.getLast hu) := by
    rw [hl, ← List.getLast?_eq_getElem?, List.getLast?_eq_some_getLast hu]
  rw [hu2] at e1
  cases e1
  refine ⟨_, us.getLast hu, hx, (List.dropLast_concat_getLast hu).symm, e2, ?_⟩
  have := dpa_drop h
  rw [toDs_map] at this ⊢
  rw [List.map_dropLast]
  exact this
end
theorem r_revL {K : PySem.W.Frag} {H : Hp} {σ : L2.St} {te : TE} {Q : VK} (q : te σ H fun x H1 => ∃ a xs, x = .ref a ∧ SqL K H1 a xs ∧ ∀ p, H1 p = none → Q (.ref p) (upd H1 p (.lst xs.reverse))) : tRevL K te σ H Q := q
section
variable {P : Program} {w : World} {K : PySem.W.Frag} {mg : Str → Option Value} {base : Heap}
def spTerms (K : PySem.W.Frag) : Sp := fun vs H Q _ => ∃ v t, vs = [v] ∧ Dp K H v (toD t) ∧ (∀ u ∈ subs t, frm u) ∧ size t ≤ 1000 ∧
  ∀ l H' xs, H l = none → Ex H H' → H' l = some (.lst xs) → xs.length ≤ size t → (∀ x ∈ xs, ∃ u ∈ subs t, Dp K H' x (toD u)) → Q (.ref l) H'
theorem c_terms_of (D : Dfn K mg "terms_of" (top 24) ["term"]) (C : Cal P w K mg base 1 "inside" (spIn K)) : Cal P w K mg base 2 "terms_of" (spTerms K) := by
  refine D.cal (N := ["term", "found", "rows", "one"]) (by decide +kernel) (fun vs H Q E h => ?_) fun f cdv A outer s H vs Q E hr nd h => ?_
  · obtain ⟨v, t, rfl, _⟩ := h
    rfl
  obtain ⟨v, t, rfl, hd, hf, hsz, q⟩ := h
  refine ⟨_, pss_cons (ps_asg (pe_lst pa_nil) (pg_name (i := 1) nd rfl (Or.inl rfl)))
    (pss_cons (ps_asg (pe_lst (pa_cons (pv 0) pa_nil)) (pg_name (i := 2) nd rfl (Or.inl rfl)))
    (pss_cons (ps_while PassesOwn.never (pt_cmpR (op_ne_nil hr.units0) (pv 2) (pe_lst pa_nil) (nomark _))
      (pss_cons (ps_asg (p_pop K (pv 2)) (pg_name (i := 3) nd rfl (Or.inl rfl)))
      (pss_cons (ps_expr (p_app K (pv 1) (pv 3)))
      (pss_one (ps_expr (p_ext K (pv 2) (p_revL K (pe_c C hr (by decide) (pa_cons (pv 3) pa_nil)))))))))
    (pss_one (ps_ret (pv 1))))), ?_⟩
  walk_at "rds"
  refine ⟨Nat.zero_le _, fun B hB => ?_⟩
  walk_at "rds"
  refine ⟨Nat.le_of_lt (small (by simp)), fun A0 hA => ?_⟩
  walk_at "rds"
  have hA0 : H A0 = none := ex_none (Ex.new hB) hA
  have hAB : A0 ≠ B := fun z => by
    subst z
    rw [upd_same] at hA
    cases hA
  refine ⟨fun m σ H' => ∃ (o : Option V) (xs rs : List V) (us : List Tm), σ = [some v, some (.ref B), some (.ref A0), o] ∧ Ex H H' ∧ H' B = some (.lst xs) ∧ H' A0 = some (.lst rs) ∧ (∀ x ∈ xs, ∃ u ∈ subs t, Dp K H' x (toD u)) ∧
    DpAll K H' rs (toDs us) ∧ (∀ u ∈ us, ∀ z ∈ subs u, z ∈ subs t) ∧ m = (us.map size).sum ∧ xs.length + m = size t, ⟨size t, none, [], [v], [t], rfl, Ex.mut (Ex.new hB) hA0, ?_, upd_same, fun x hx => (by simp at hx), ?_, fun u hu z hz => ?_, by simp, by simp⟩, ?_⟩
  · rw [upd_ne (fun z => hAB z.symm)]
    exact upd_same
  · rw [toDs, toDs]
    exact .cons (Dp.ex (Ex.mut (Ex.new hB) hA0) _ _ hd) .nil
  · rw [List.mem_singleton] at hu
    rw [← hu]
    exact hz
  rintro m σ H1 ⟨o, xs, rs, us, rfl, ex1, hb1, ha1, hxs, hrs, hus, hm, hlen⟩
  walk_at "rds"
  refine ⟨Nat.zero_le _, fun z hz => ?_⟩
  have ha2 : (upd H1 z (.lst [])) A0 = some (.lst rs) := Ex.new hz _ _ ha1
  have hb2 : (upd H1 z (.lst [])) B = some (.lst xs) := Ex.new hz _ _ hb1
  have ex2 : Ex H (upd H1 z (.lst [])) := ex1.trans (Ex.new hz)
  refine r_neNilL (SqL.of ha2) (SqL.of upd_same) (r_bl ?_)
  cases rs with
  | nil =>
    refine r_ntrue ?_
    walk_at "rds"
    refine q B _ xs hB ex2 hb2 (by omega) fun x hx => ?_
    obtain ⟨u, hu, hd⟩ := hxs x hx
    exact ⟨u, hu, Dp.ex (Ex.new hz) _ _ hd⟩
  | cons r0 rs0 =>
    refine r_nfalse ?_
    generalize hrr : r0 :: rs0 = rs at *
    have hne : rs ≠ [] := by rw [← hrr]; simp
    obtain ⟨x, u, hx, hu, hdx, hdr⟩ := dpa_last hrs hne
    have hfu : frm u := hf u (hus u (by rw [hu]; simp) u (by rw [subs_eq]; exact List.mem_cons_self))
    refine ⟨fun σ' H' => ∃ m', m' < m ∧ _, fun _ _ h => h, ?_⟩
    walk_at "rds"
    refine ⟨ty_l ha2, A0, rs, x, rfl, rfl, ha2, hx, ?_⟩
    walk_at "rds"
    generalize hH2 : upd H1 z (.lst []) = H2 at *
    have k3 : Kx H2 (upd H2 A0 (.lst rs.dropLast)) := Kx.upd ha2 rfl
    have ex3 : Ex H (upd H2 A0 (.lst rs.dropLast)) := Ex.mut ex2 hA0
    have ha3 : (upd H2 A0 (.lst rs.dropLast)) A0 = some (.lst rs.dropLast) := upd_same
    have hb3 : (upd H2 A0 (.lst rs.dropLast)) B = some (.lst xs) := by rw [upd_ne (fun z => hAB z.symm)]; exact hb2
    generalize upd H2 A0 (.lst rs.dropLast) = H3 at *
    refine ⟨ty_l hb3, ?_⟩
    walk_at "rds"
    refine ⟨B, xs, x, rfl, rfl, hb3, small (by omega), ?_⟩
    have k4 : Kx H3 (upd H3 B (.lst (xs ++ [x]))) := Kx.upd hb3 rfl
    have ex4 : Ex H (upd H3 B (.lst (xs ++ [x]))) := Ex.mut ex3 hB
    have hb4 : (upd H3 B (.lst (xs ++ [x]))) B = some (.lst (xs ++ [x])) := upd_same
    have ha4 : (upd H3 B (.lst (xs ++ [x]))) A0 = some (.lst rs.dropLast) := by rw [upd_ne hAB]; exact ha3
    generalize upd H3 B (.lst (xs ++ [x])) = H4 at *
    walk_at "rds"
    have k14 : Kx H1 H4 := ((Kx.of (by rw [← hH2]; exact Ex.new hz)).trans k3).trans k4
    have hdx4 : Dp K H4 x (toD u) := Dp.kx k14 _ _ hdx (noL_toD u)
    refine ⟨ty_l ha4, ?_⟩
    walk_at "rds"
    refine r_revL ?_
    walk_at "rds"
    refine ⟨x, u, rfl, hdx4, hfu, fun l H5 ys hl e5 hl5 hys => ?_⟩
    refine ⟨l, ys, rfl, SqL.of hl5, fun p hp => ?_⟩
    walk_at "rds"
    have e6 : Ex H4 (upd H5 p (.lst ys.reverse)) := e5.trans (Ex.new hp)
    have hyl : ys.length = (kids u).length := by rw [hys.len, toDs_len]
    have hrl : rs.length = us.length := by rw [hrs.len, toDs_len]
    have hsum : (us.map size).sum = (us.dropLast.map size).sum + size u := by
      have : us.map size = us.dropLast.map size ++ [size u] := by
        conv => lhs; rw [hu]
        simp
      rw [this, List.sum_append]
      simp
    have hkl : (kids u).length ≤ ((kids u).map size).sum := by
      generalize kids u = ks
      induction ks with
      | nil => simp
      | cons a r ih => simp; have := size_pos a; omega
    have hul : us.dropLast.length ≤ (us.dropLast.map size).sum := by
      generalize us.dropLast = ks
      induction ks with
      | nil => simp
      | cons a r ih => simp; have := size_pos a; omega
    have hsu := size_eq u
    have hul2 : us.dropLast.length = us.length - 1 := List.length_dropLast
    refine ⟨A0, p, rs.dropLast, ys.reverse, rfl, rfl, e6 _ _ ha4, upd_same, ?_, ?_⟩
    · refine Nat.le_of_lt (small ?_)
      rw [List.length_dropLast, List.length_reverse]
      omega
    have k6 : Kx H1 (upd (upd H5 p (.lst ys.reverse)) A0 (.lst (rs.dropLast ++ ys.reverse))) := (k14.trans (Kx.of e6)).trans (Kx.upd (e6 _ _ ha4) rfl)
    refine ⟨((us.dropLast ++ (kids u).reverse).map size).sum, ?_, some x, xs ++ [x], rs.dropLast ++ ys.reverse, us.dropLast ++ (kids u).reverse, rfl, Ex.mut (ex4.trans e6) hA0, ?_, upd_same, ?_, ?_, ?_, rfl, ?_⟩
    · rw [hm, hsum, List.map_append, List.sum_append, List.map_reverse, List.sum_reverse]
      omega
    · rw [upd_ne (fun z => hAB z.symm)]
      exact e6 _ _ hb4
    · intro y hy
      rcases List.mem_append.mp hy with hy | hy
      · obtain ⟨u', h1, h2⟩ := hxs y hy
        exact ⟨u', h1, Dp.kx k6 _ _ h2 (noL_toD u')⟩
      · rw [List.mem_singleton] at hy
        subst hy
        exact ⟨u, hus u (by rw [hu]; simp) u (by rw [subs_eq]; exact List.mem_cons_self), Dp.kx k6 _ _ hdx (noL_toD u)⟩
    · rw [toDs_map, List.map_append, ← toDs_map, ← toDs_map]
      refine dpa_app (DpAll.kx k6 _ _ hdr (noL_toDs _)) ?_
      rw [toDs_map, List.map_reverse, ← toDs_map]
      exact DpAll.kx ((Kx.of (Ex.new hp)).trans (Kx.upd (e6 _ _ ha4) rfl)) _ _ (dpa_rev hys) (by rw [toDs_map, ← List.map_reverse, ← toDs_map]; exact noL_toDs _)
    · intro y hy y2 hy2
      rcases List.mem_append.mp hy with hy | hy
      · exact hus y (by rw [hu]; exact List.mem_append_left _ hy) y2 hy2
      · refine hus u (by rw [hu]; simp) y2 ?_
        rw [subs_eq]
        exact List.mem_cons_of_mem _ (List.mem_flatMap.mpr ⟨y, List.mem_reverse.mp hy, hy2⟩)
    · rw [List.length_append, List.length_singleton, List.map_append, List.sum_append, List.map_reverse, List.sum_reverse]
      omega
end
end K8
/-! is_body -/
namespace K8
open PySem PySem.Spec L2 Evl
open PyProof.Rows hiding St
/-! ### two lists, pointwise -/
def Pw {α : Type} (R : V → α → Prop) (xs : List V) (gs : List α) : Prop := xs.length = gs.length ∧ ∀ (i : Nat) x, xs[i]? = some x → ∃ g, gs[i]? = some g ∧ R x g
section
variable {α : Type} {R R' : V → α → Prop} {xs ys : List V} {gs hs : List α}
theorem Pw.nil : Pw R [] [] := ⟨rfl, fun i x e => by simp at e⟩
theorem Pw.one {x : V} {g : α} (h : R x g) : Pw R [x] [g] := ⟨rfl, fun i y e => by
  cases i with
  | zero => cases (show some x = some y from e); exact ⟨g, rfl, h⟩
  | succ i => simp at e⟩
theorem Pw.imp (p : Pw R xs gs) (h : ∀ x g, R x g → R' x g) : Pw R' xs gs := ⟨p.1, fun i x e => by
  obtain ⟨g, e1, e2⟩ := p.2 i x e
  exact ⟨g, e1, h x g e2⟩⟩
theorem Pw.app (p : Pw R xs gs) (q : Pw R ys hs) : Pw R (xs ++ ys) (gs ++ hs) := ⟨by rw [List.length_append, List.length_append, p.1, q.1], fun i x e => by
  by_cases c : i < xs.length
  · rw [List.getElem?_append_left c] at e
    obtain ⟨g, e1, e2⟩ := p.2 i x e
    exact ⟨g, by rw [List.getElem?_append_left (by rw [← p.1]; exact c)]; exact e1, e2⟩
  · rw [List.getElem?_append_right (by omega)] at e
    obtain ⟨g, e1, e2⟩ := q.2 _ x e
    exact ⟨g, by rw [List.getElem?_append_right (by rw [← p.1]; omega), ← p.1]; exact e1, e2⟩⟩
theorem Pw.drop (p : Pw R xs gs) : Pw R xs.dropLast gs.dropLast := ⟨by rw [List.length_dropLast, List.length_dropLast, p.1], fun i x e => by
  rw [List.getElem?_dropLast] at e
  split at e
  · rename_i c
    obtain ⟨g, e1, e2⟩ := p.2 i x e
    exact ⟨g, by rw [List.getElem?_dropLast, ← p.1, if_pos c]; exact e1, e2⟩
  · cases e⟩
theorem Pw.last (p : Pw R xs gs) (hne : xs ≠ []) : ∃ x g, xs[xs.length - 1]? = some x ∧ gs = gs.dropLast ++ [g] ∧ R x g := by
  have hp : 0 < xs.length := List.length_pos_iff.mpr hne
  have hx : xs[xs.length - 1]? = some (xs[xs.length - 1]'(by omega)) := List.getElem?_eq_getElem (by omega)
  obtain ⟨g, e1, e2⟩ := p.2 _ _ hx
  have hg : gs ≠ [] := fun z => by
    have hl := p.1
    subst z
    rw [List.length_nil] at hl
    omega
  rw [p.1, ← List.getLast?_eq_getElem?, List.getLast?_eq_some_getLast hg] at e1
  cases e1
  exact ⟨_, gs.getLast hg, hx, (List.dropLast_concat_getLast hg).symm, e2⟩
end
theorem r_aug {i : Nat} {te : TE} {ti : TIp} {D : Ends} {σ : L2.St} {H : Hp} {x : V} (h : σ[i]? = some (some x)) (q : te σ H fun y H1 => ti x y H1 fun z H2 => D.nx (σ.set i (some z)) H2) : tAug i te ti D σ H := ⟨x, h, q⟩
theorem labs_le (t : Tm) : (labs t).length ≤ size t := by
  unfold labs size
  generalize subs t = us
  induction us with
  | nil => simp
  | cons a r ih =>
    have h : (lab a).length ≤ 1 := by cases a <;> simp [lab]
    rw [List.flatMap_cons, List.length_append, List.length_cons]
    omega
theorem okN_frm {c : Cfg} {own L : List Str} {t : Tm} (h1 : 1 ≤ c.modes) (h3 : c.modes ≤ 3) (h : okN c own L t) : frm t ∧ bnd own L t := by
  cases t with
  | act w tab =>
    obtain ⟨a, b, d⟩ := h
    exact ⟨⟨a, by omega, by omega, fun e he n hn => Nat.lt_of_lt_of_le (d e he n hn) h3⟩, trivial⟩
  | nam k x =>
    obtain ⟨a, b⟩ := h
    rcases b with ⟨rfl, b⟩ | ⟨rfl, b⟩ | ⟨rfl, b⟩
    · exact ⟨⟨a, .inl rfl⟩, fun _ => b, fun z => absurd z (by decide +kernel)⟩
    · exact ⟨⟨a, .inr (.inl rfl)⟩, fun z => absurd z (by decide +kernel), fun _ => b⟩
    · exact ⟨⟨a, .inr (.inr rfl)⟩, fun z => absurd z (by decide +kernel), fun z => absurd z (by decide +kernel)⟩
  | ser k ts =>
    refine ⟨?_, trivial⟩
    rcases h with h | h | ⟨h, h2⟩
    · exact .inl h
    · exact .inr (.inl h)
    · exact .inr (.inr ⟨h, by omega, by omega⟩)
  | cal x ts => exact ⟨h.1, trivial⟩
  | sco x t => exact ⟨h, trivial⟩
  | ans ss ts t =>
    obtain ⟨a, b, d, e, f⟩ := h
    exact ⟨⟨a, b, by omega, d, fun s hs => (f s hs).1⟩, trivial⟩
section
variable {P : Program} {w : World} {K : PySem.W.Frag} {mg : Str → Option Value} {base : Heap}
def RowAt (K : PySem.W.Frag) (H : Hp) (x : V) (g : Tm × List Str × Nat) : Prop := ∃ c a u, x = .ref c ∧ SqT K H c [u, .ref a, .int (g.2.2 : Nat)] ∧ SqT K H a (g.2.1.map V.str) ∧ Dp K H u (toD g.1)
theorem RowAt.kx {H H' : Hp} {x : V} {g : Tm × List Str × Nat} (e : Kx H H') (h : RowAt K H x g) : RowAt K H' x g := by
  obtain ⟨c, a, u, h1, h2, h3, h4⟩ := h
  exact ⟨c, a, u, h1, kx_t e h2, kx_t e h3, Dp.kx e _ _ h4 (noL_toD _)⟩
def spBody (K : PySem.W.Frag) : Sp := fun vs H Q _ => ∃ (v : V) (p : Addr) (t : Tm) (own : List Str) (c : Cfg), vs = [v, .ref p] ∧ Dp K H v (toD t) ∧ SqT K H p (own.map V.str) ∧ 1 ≤ c.modes ∧ c.modes ≤ 3 ∧ OkBody c own t ∧ RetV (.bl true) H Q
theorem sum_app_kids {f : Tm → Nat} {gs : List (Tm × List Str × Nat)} {L : List Str} {d : Nat} {ks : List Tm} : ((gs ++ ks.map fun k => (k, L, d)).map fun g => f g.1).sum = (gs.map fun g => f g.1).sum + (ks.map f).sum := by
  rw [List.map_append, List.sum_append, List.map_map]
  rfl
theorem c_is_body (D : Dfn K mg "is_body" (top 27) ["value", "parameters"]) (T : Txt K mg) (C1 : Cal P w K mg base 4 "has_form" (spForm K)) (C2 : Cal P w K mg base 1 "is_bound" (spBound K)) (C3 : Cal P w K mg base 1 "inside" (spIn K)) : Cal P w K mg base 5 "is_body" (spBody K) := by
  refine D.cal (N := ["value", "parameters", "rows", "labels", "count", "term", "around", "depth", "one"]) (by decide +kernel) (fun vs H Q E h => ?_) fun f cdv A outer s H vs Q E hr nd h => ?_
  · obtain ⟨v, p, t, own, c, rfl, _⟩ := h
    rfl
  obtain ⟨v, p, t, own, c, rfl, hd, hown, hm1, hm3, ok, q⟩ := h
  refine ⟨_, pss_cons (ps_asg (pe_lst (pa_cons (pe_tup (pa_cons (pv 0) (pa_cons (pe_tup pa_nil) (pa_cons pe_int pa_nil)))) pa_nil)) (pg_name (i := 2) nd rfl (Or.inl rfl)))
    (pss_cons (ps_asg (pe_lst pa_nil) (pg_name (i := 3) nd rfl (Or.inl rfl)))
    (pss_cons (ps_asg pe_int (pg_name (i := 4) nd rfl (Or.inl rfl)))
    (pss_cons (ps_while PassesOwn.never (pt_cmpR (op_ne_nil hr.units0) (pv 2) (pe_lst pa_nil) (nomark _))
      (pss_cons (ps_asg (p_pop K (pv 2)) (pg_tup rfl (pgs_cons (pg_name (i := 5) nd rfl (Or.inl rfl)) (pgs_cons (pg_name (i := 6) nd rfl (Or.inr rfl)) (pgs_cons (pg_name (i := 7) nd rfl (Or.inr rfl)) pgs_nil)))))
      (pss_cons (ps_aug nd (i := 4) rfl (Or.inl rfl) pe_int ip_add)
      (pss_cons (ps_if (PW.pt (pw_or (pt_cmpR op_gt (pv 4) (C8.pe_gc rfl T.MAX_TERMS) (nomark _)) (pw_or (pt_cmpR op_gt (pv 7) (C8.pe_gc rfl T.MAX_DEPTH) (nomark _)) (pw_or (pt_not (pt_val (pe_c C1 hr (by decide) (pa_cons (pv 5) pa_nil))))
        (pw_or1 (pt_not (pt_val (pe_c C2 hr (by decide) (pa_cons (pv 5) (pa_cons (pv 1) (pa_cons (pv 6) pa_nil)))))))))))
        (pss_one (ps_ret pe_bl)) pss_nil)
      (pss_cons (ps_if (pt_cmpR op_eq (p_ixT (K := K) (pv 5) pe_int) pe_str (nomark _))
        (pss_cons (ps_expr (p_app K (pv 3) (p_ixT (K := K) (pv 5) pe_int)))
        (pss_one (ps_asg (pe_tup (p_star K (pv 6) (pa_cons (p_ixT (K := K) (pv 5) pe_int) pa_nil))) (pg_name (i := 6) nd rfl (Or.inr rfl))))) pss_nil)
      (pss_one (ps_expr (p_ext K (pv 2) (pe_lc (own := [("one", 8)]) (g := gName 8) (tt := tYes) rfl nd (pi_list (pe_c C3 hr (by decide) (pa_cons (pv 5) pa_nil))) (blkOk_by (N := ["value", "parameters", "rows", "labels", "count", "term", "around", "depth", "one"]) (sc := defScope (top 27)) (by decide +kernel))
        (fun _ _ _ _ _ => pg_name (i := 8) nd rfl (Or.inl rfl)) (fun _ _ _ _ _ => pts_nil) (fun _ _ _ _ _ => pe_tup (pa_cons (pv 8) (pa_cons (pv 6) (pa_cons (pe_op op_add (pv 7) pe_int) pa_nil)))))))))))))
    (pss_one (ps_ret (pe_cmpR op_eq (pe_lenSetN T (pv 3)) (p_len T (pv 3)) (nomark _))))))), ?_⟩
  walk_at "rds"
  refine ⟨Nat.zero_le _, fun p1 hp1 => ?_⟩
  walk_at "rds"
  refine ⟨Nat.le_of_lt (small (by simp)), fun p2 hp2 => ?_⟩
  walk_at "rds"
  refine ⟨Nat.le_of_lt (small (by simp)), fun A0 hA => ?_⟩
  walk_at "rds"
  refine ⟨Nat.zero_le _, fun B hB => ?_⟩
  walk_at "rds"
  have e1 : Ex H (upd H p1 (.tup [])) := Ex.new hp1
  have hr1 : SqT K (upd H p1 (.tup [])) p1 (([] : List Str).map V.str) := SqT.of upd_same
  generalize upd H p1 (.tup []) = Ha at *
  have e2 : Ex H (upd Ha p2 (.tup [v, .ref p1, .int 1])) := e1.trans (Ex.new hp2)
  have hr2 : RowAt K (upd Ha p2 (.tup [v, .ref p1, .int 1])) (.ref p2) (t, [], 1) := ⟨p2, p1, v, rfl, SqT.of upd_same, ex_t (Ex.new hp2) hr1, Dp.ex e2 _ _ hd⟩
  generalize upd Ha p2 (.tup [v, .ref p1, .int 1]) = Hb at *
  have hA0 : H A0 = none := ex_none e2 hA
  have e3 : Ex H (upd Hb A0 (.lst [.ref p2])) := e2.trans (Ex.new hA)
  have hr3 := RowAt.kx (Kx.of (Ex.new (o := .lst [.ref p2]) hA)) hr2
  have ha3 : (upd Hb A0 (.lst [.ref p2])) A0 = some (.lst [.ref p2]) := upd_same
  generalize upd Hb A0 (.lst [.ref p2]) = Hc at *
  have hB0 : H B = none := ex_none e3 hB
  have hAB : A0 ≠ B := fun z => by
    subst z
    rw [ha3] at hB
    cases hB
  refine ⟨fun m σ H' => ∃ (o5 o6 o7 : Option V) (cnt : Nat) (rs : List V) (gs : List (Tm × List Str × Nat)) (seen : List Str), σ = [some v, some (.ref p), some (.ref A0), some (.ref B), some (.int (cnt : Nat)), o5, o6, o7, none] ∧ Ex H H' ∧ H' A0 = some (.lst rs) ∧ H' B = some (.lst (seen.map V.str)) ∧
    Pw (RowAt K H') rs gs ∧ (∀ g ∈ gs, Wf c own g.2.1 g.1 ∧ dep g.1 + g.2.2 ≤ 7 ∧ g.2.1.length ≤ g.2.2) ∧ m = (gs.map fun g => size g.1).sum ∧ cnt + m = size t ∧ (seen ++ gs.flatMap fun g => labs g.1).Perm (labs t),
    ⟨size t, none, none, none, 0, [.ref p2], [(t, [], 1)], [], rfl, e3.trans (Ex.new hB), Ex.new hB _ _ ha3, upd_same, Pw.one (RowAt.kx (Kx.of (Ex.new hB)) hr3), fun g hg => ?_, by simp, by simp, by simp⟩, ?_⟩
  · rw [List.mem_singleton] at hg
    subst hg
    exact ⟨ok.wf, by have := ok.dp; show dep t + 1 ≤ 7; omega, Nat.zero_le _⟩
  clear hr3 hr2 hr1 ha3 e1 e2 e3 hA hB hp1 hp2
  clear Hc Hb Ha
  rintro m σ H1 ⟨o5, o6, o7, cnt, rs, gs, seen, rfl, ex1, ha1, hb1, hrs, hok, hm, hlen, hperm⟩
  walk_at "rds"
  refine ⟨Nat.zero_le _, fun z hz => ?_⟩
  have ha2 : (upd H1 z (.lst [])) A0 = some (.lst rs) := Ex.new hz _ _ ha1
  have hb2 : (upd H1 z (.lst [])) B = some (.lst (seen.map V.str)) := Ex.new hz _ _ hb1
  have ex2 : Ex H (upd H1 z (.lst [])) := ex1.trans (Ex.new hz)
  have hrs2 := hrs.imp fun x g h => RowAt.kx (Kx.of (Ex.new (o := .lst []) hz)) h
  refine r_neNilL (SqL.of ha2) (SqL.of upd_same) (r_bl ?_)
  generalize upd H1 z (.lst []) = H2 at *
  by_cases hne : rs = []
  · subst hne
    have hg : gs = [] := List.eq_nil_of_length_eq_zero (by rw [← hrs.1]; rfl)
    subst hg
    have hp : seen.Perm (labs t) := by simpa using hperm
    have hnd : seen.Nodup := hp.nodup_iff.mpr ok.nd
    have hll : seen.length ≤ 40 := by
      have h1 := labs_le t
      have := hp.length_eq
      have := ok.sz
      omega
    refine r_ntrue ?_
    walk_at "rds"
    refine r_lenSetN ?_
    walk_at "rds"
    refine ⟨B, seen, rfl, .inl (SqL.of hb2), hnd, by omega, ?_⟩
    walk_at "rds"
    refine r_lenL (SqL.of hb2) ?_
    walk_at "rds"
    refine r_eq rfl ?_
    rw [decide_eq_true (by rw [List.length_map])]
    exact q _ ex2
  have hie : rs.isEmpty = false := by cases rs with
    | nil => exact absurd rfl hne
    | cons => rfl
  rw [hie]
  refine r_nfalse ?_
  obtain ⟨x, g, hx, hg, hrow⟩ := hrs2.last hne
  obtain ⟨t0, L, d⟩ := g
  obtain ⟨hwf, hdep, hLl⟩ := hok (t0, L, d) (by rw [hg]; simp)
  have hLl : L.length ≤ d := hLl
  obtain ⟨hn, hkids⟩ := wf_iff.mp hwf
  obtain ⟨hfrm, hbnd⟩ := okN_frm hm1 hm3 hn
  have hdep : dep t0 + d ≤ 7 := hdep
  have hdp := dep_pos t0
  have hsum : (gs.map fun g => size g.1).sum = (gs.dropLast.map fun g => size g.1).sum + size t0 := by
    conv => lhs; rw [hg]
    rw [List.map_append, List.sum_append]
    simp
  have hsz := size_pos t0
  have hsz2 := size_eq t0
  have hcnt : cnt + 1 ≤ 40 := by have := ok.sz; omega
  refine ⟨fun σ' H' => ∃ m', m' < m ∧ _, fun _ _ h => h, ?_⟩
  walk_at "rds"
  refine ⟨ty_l ha2, A0, rs, x, rfl, rfl, ha2, hx, ?_⟩
  have k3 : Kx H2 (upd H2 A0 (.lst rs.dropLast)) := Kx.upd ha2 rfl
  have ex3 : Ex H (upd H2 A0 (.lst rs.dropLast)) := Ex.mut ex2 hA0
  have ha3 : (upd H2 A0 (.lst rs.dropLast)) A0 = some (.lst rs.dropLast) := upd_same
  have hb3 : (upd H2 A0 (.lst rs.dropLast)) B = some (.lst (seen.map V.str)) := by rw [upd_ne (fun z => hAB z.symm)]; exact hb2
  have hrow3 := RowAt.kx k3 hrow
  have hrs3 := hrs2.drop.imp fun x g h => RowAt.kx k3 h
  generalize upd H2 A0 (.lst rs.dropLast) = H3 at *
  obtain ⟨c0, a, u, rfl, hc0, haL, hdu⟩ := hrow3
  refine r_gTup hc0 rfl (r_gCons (r_name (r_gCons (r_name (r_gCons (r_name (r_gNil ?_)))))))
  refine r_aug (x := .int (cnt : Nat)) rfl ?_
  walk_at "rds"
  refine ⟨cnt, 1, rfl, rfl, ?_⟩
  walk_at "rds"
  refine r_no (show ¬ ((40 : Int) < (cnt : Int) + 1) by omega) ?_
  walk_at "rds"
  refine r_no (show ¬ ((6 : Int) < ((d : Nat) : Int)) by omega) ?_
  walk_at "rds"
  refine ⟨u, t0, rfl, hdu, hfrm, fun H4 e4 => ?_⟩
  walk_at "rds"
  have ex4 : Ex H H4 := ex3.trans e4
  have ha4 := e4 _ _ ha3
  have hb4 := e4 _ _ hb3
  have haL4 := ex_t e4 haL
  have hdu4 := Dp.ex e4 _ _ hdu
  have hrs4 := hrs3.imp fun x g h => RowAt.kx (Kx.of e4) h
  refine ⟨u, p, a, t0, own, L, rfl, hdu4, hfrm, ex_t ex4 hown, haL4, hbnd, ?_⟩
  walk_at "rds"
  obtain ⟨q0, r0, rfl, hs0, hx0⟩ := dp_hd hdu4
  refine r_ixT hs0 r_at0 ?_
  walk_at "rds"
  by_cases hsc : hd1 t0 = "scope"
  · obtain ⟨xl, u0, rfl⟩ := hd_scope hfrm hsc
    obtain ⟨r', rfl⟩ := hx0 xl (.inr ⟨_, rfl⟩)
    refine r_eq rfl (r_bl (r_yes rfl ?_))
    walk_at "rds"
    refine ⟨ty_l hb4, ?_⟩
    walk_at "rds"
    refine r_ixT hs0 r_at1 ?_
    walk_at "rds"
    have hll : seen.length ≤ 100000 := by
      have h1 := hperm.length_eq
      rw [List.length_append] at h1
      have h2 := labs_le t
      have := ok.sz
      omega
    refine ⟨B, seen.map V.str, .str xl, rfl, rfl, hb4, by rw [List.length_map]; exact small hll, ?_⟩
    have k5 : Kx H4 (upd H4 B (.lst (seen.map V.str ++ [.str xl]))) := Kx.upd hb4 rfl
    have ex5 : Ex H (upd H4 B (.lst (seen.map V.str ++ [.str xl]))) := Ex.mut ex4 hB0
    have hb5 : (upd H4 B (.lst (seen.map V.str ++ [.str xl]))) B = some (.lst ((seen ++ [xl]).map V.str)) := by rw [List.map_append]; exact upd_same
    have ha5 : (upd H4 B (.lst (seen.map V.str ++ [.str xl]))) A0 = some (.lst rs.dropLast) := by rw [upd_ne hAB]; exact ha4
    have hs5 := kx_t k5 hs0
    have haL5 := kx_t k5 haL4
    have hdu5 := Dp.kx k5 _ _ hdu4 (noL_toD _)
    have hrs5 := hrs4.imp fun x g h => RowAt.kx k5 h
    generalize upd H4 B (.lst (seen.map V.str ++ [.str xl])) = H5 at *
    walk_at "rds"
    refine ⟨a, _, rfl, .inl haL5, ?_⟩
    walk_at "rds"
    refine r_ixT hs5 r_at1 ?_
    walk_at "rds"
    refine ⟨Nat.le_of_lt (small (by simp; omega)), fun pT hpT => ?_⟩
    walk_at "rds"
    have e6 : Ex H5 (upd H5 pT (.tup (L.map V.str ++ [.str xl]))) := Ex.new hpT
    have ex6 : Ex H (upd H5 pT (.tup (L.map V.str ++ [.str xl]))) := ex5.trans e6
    have haL6 : SqT K (upd H5 pT (.tup (L.map V.str ++ [.str xl]))) pT ((L ++ [xl]).map V.str) := by rw [List.map_append]; exact SqT.of upd_same
    have ha6 := e6 _ _ ha5
    have hb6 := e6 _ _ hb5
    have hdu6 := Dp.ex e6 _ _ hdu5
    have hrs6 := hrs5.imp fun x g h => RowAt.kx (Kx.of e6) h
    have hL6 : L ++ [xl] = lab1 (.sco xl u0) L := rfl
    have hlab : ([xl] : List Str) = lab (.sco xl u0) := rfl
    have hL7 : (lab1 (.sco xl u0) L).length ≤ d + 1 := by rw [← hL6]; simp; omega
    rw [hL6] at haL6
    rw [hlab] at hb6
    clear hL6 hlab hb5 ha5 hdu5 haL5
    generalize upd H5 pT (.tup (L.map V.str ++ [.str xl])) = H6 at *
    generalize Tm.sco xl u0 = t0 at *
    refine ⟨ty_l ha6, ?_⟩
    walk_at "rds"
    refine ⟨_, t0, rfl, hdu6, hfrm, fun l H7 ys hl e7 hl7 hys => ?_⟩
    have hyl : ys.length = (kids t0).length := by rw [hys.len, toDs_len]
    have hkl : (kids t0).length ≤ ((kids t0).map size).sum := by
      generalize kids t0 = ks
      induction ks with
      | nil => simp
      | cons a r ih => simp; have := size_pos a; omega
    refine ⟨l, rfl, ⟨_, SqL.of hl7⟩, lc_pure (over_list (xs := ys)) (fun H2 e2 => SqL.of (e2 _ _ hl7)) (fun i y H => ∃ k, (kids t0)[i]? = some k ∧ RowAt K H y (k, lab1 t0 L, d + 1)) (fun _ _ _ _ kx ⟨k, h1, h2⟩ => ⟨k, h1, RowAt.kx kx h2⟩)
      (small (by have := ok.sz; omega)) (fun i v H1 hi e hy Q q => ?_) fun D H2 zs hD e2 h hzl hall => ?_⟩
    · obtain ⟨dk, h1, h2⟩ := hys.at hy
      rw [toDs_map, List.getElem?_map] at h1
      cases hk : (kids t0)[i]? with
      | none => rw [hk] at h1; cases h1
      | some k =>
        rw [hk] at h1
        cases h1
        refine r_name ⟨rfl, ?_⟩
        walk_at "rds"
        refine ⟨Nat.le_of_lt (small (by simp)), fun pp hpp => ?_⟩
        exact q _ _ (Ex.new hpp) ⟨k, hk, pp, _, v, rfl, SqT.of upd_same, ex_t ((e7.trans e).trans (Ex.new hpp)) haL6, Dp.ex (e.trans (Ex.new hpp)) _ _ h2⟩
    have e8 := e7.trans e2
    walk_at "rds"
    have hrl := hrs6.1
    have hdl : gs.dropLast.length ≤ (gs.dropLast.map fun g => size g.1).sum := by
      generalize gs.dropLast = ks
      induction ks with
      | nil => simp
      | cons a r ih => simp; have := size_pos a.1; omega
    refine ⟨A0, D, rs.dropLast, zs, rfl, rfl, e8 _ _ ha6, h, Nat.le_of_lt (small (by have := ok.sz; omega)), ?_⟩
    have kx9 : Kx H2 (upd H2 A0 (.lst (rs.dropLast ++ zs))) := Kx.upd (e8 _ _ ha6) rfl
    refine ⟨(gs.dropLast.map fun g => size g.1).sum + ((kids t0).map size).sum, by omega, _, _, _, cnt + 1, rs.dropLast ++ zs, gs.dropLast ++ (kids t0).map fun k => (k, lab1 t0 L, d + 1), seen ++ lab t0, rfl, Ex.mut (ex6.trans e8) hA0, upd_same, ?_, ?_, ?_, sum_app_kids.symm, by omega, ?_⟩
    · rw [upd_ne (fun z => hAB z.symm)]
      exact e8 _ _ hb6
    · refine Pw.app (hrs6.imp fun x g h => RowAt.kx ((Kx.of e8).trans kx9) h) ⟨by rw [List.length_map, hzl, hyl], fun i x hx => ?_⟩
      obtain ⟨k, h1, h2⟩ := hall i x hx
      exact ⟨_, by rw [List.getElem?_map, h1]; rfl, RowAt.kx kx9 h2⟩
    · intro g hgm
      rcases List.mem_append.mp hgm with hgm | hgm
      · exact hok g (by rw [hg]; exact List.mem_append_left _ hgm)
      · obtain ⟨k, hk, rfl⟩ := List.mem_map.mp hgm
        have := dep_kids hk
        exact ⟨hkids k hk, by show dep k + (d + 1) ≤ 7; omega, hL7⟩
    · refine List.Perm.trans ?_ hperm
      conv => rhs; rw [hg]
      rw [List.flatMap_append, List.flatMap_append, List.flatMap_singleton, labs_eq, List.flatMap_map, List.append_assoc]
      refine List.Perm.append_left _ ?_
      rw [← List.append_assoc, ← List.append_assoc]
      exact List.Perm.append_right _ List.perm_append_comm
  · refine r_eq rfl (r_bl (r_no (fun z => hsc (by injection z)) ?_))
    walk_at "rds"
    have hL6 : lab1 t0 L = L := by
      cases t0 <;> first | rfl | exact absurd rfl hsc
    have hlab : lab t0 = [] := by
      cases t0 <;> first | rfl | exact absurd rfl hsc
    have ex6 := ex4
    have haL6 : SqT K H4 a ((lab1 t0 L).map V.str) := by rw [hL6]; exact haL4
    have ha6 := ha4
    have hb6 : H4 B = some (.lst ((seen ++ lab t0).map V.str)) := by rw [hlab, List.append_nil]; exact hb4
    have hdu6 := hdu4
    have hrs6 := hrs4
    have hL7 : (lab1 t0 L).length ≤ d + 1 := by rw [hL6]; omega
    refine ⟨ty_l ha6, ?_⟩
    walk_at "rds"
    refine ⟨_, t0, rfl, hdu6, hfrm, fun l H7 ys hl e7 hl7 hys => ?_⟩
    have hyl : ys.length = (kids t0).length := by rw [hys.len, toDs_len]
    have hkl : (kids t0).length ≤ ((kids t0).map size).sum := by
      generalize kids t0 = ks
      induction ks with
      | nil => simp
      | cons a r ih => simp; have := size_pos a; omega
    refine ⟨l, rfl, ⟨_, SqL.of hl7⟩, lc_pure (over_list (xs := ys)) (fun H2 e2 => SqL.of (e2 _ _ hl7)) (fun i y H => ∃ k, (kids t0)[i]? = some k ∧ RowAt K H y (k, lab1 t0 L, d + 1)) (fun _ _ _ _ kx ⟨k, h1, h2⟩ => ⟨k, h1, RowAt.kx kx h2⟩)
      (small (by have := ok.sz; omega)) (fun i v H1 hi e hy Q q => ?_) fun D H2 zs hD e2 h hzl hall => ?_⟩
    · obtain ⟨dk, h1, h2⟩ := hys.at hy
      rw [toDs_map, List.getElem?_map] at h1
      cases hk : (kids t0)[i]? with
      | none => rw [hk] at h1; cases h1
      | some k =>
        rw [hk] at h1
        cases h1
        refine r_name ⟨rfl, ?_⟩
        walk_at "rds"
        refine ⟨Nat.le_of_lt (small (by simp)), fun pp hpp => ?_⟩
        exact q _ _ (Ex.new hpp) ⟨k, hk, pp, _, v, rfl, SqT.of upd_same, ex_t ((e7.trans e).trans (Ex.new hpp)) haL6, Dp.ex (e.trans (Ex.new hpp)) _ _ h2⟩
    have e8 := e7.trans e2
    walk_at "rds"
    have hrl := hrs6.1
    have hdl : gs.dropLast.length ≤ (gs.dropLast.map fun g => size g.1).sum := by
      generalize gs.dropLast = ks
      induction ks with
      | nil => simp
      | cons a r ih => simp; have := size_pos a.1; omega
    refine ⟨A0, D, rs.dropLast, zs, rfl, rfl, e8 _ _ ha6, h, Nat.le_of_lt (small (by have := ok.sz; omega)), ?_⟩
    have kx9 : Kx H2 (upd H2 A0 (.lst (rs.dropLast ++ zs))) := Kx.upd (e8 _ _ ha6) rfl
    refine ⟨(gs.dropLast.map fun g => size g.1).sum + ((kids t0).map size).sum, by omega, _, _, _, cnt + 1, rs.dropLast ++ zs, gs.dropLast ++ (kids t0).map fun k => (k, lab1 t0 L, d + 1), seen ++ lab t0, rfl, Ex.mut (ex6.trans e8) hA0, upd_same, ?_, ?_, ?_, sum_app_kids.symm, by omega, ?_⟩
    · rw [upd_ne (fun z => hAB z.symm)]
      exact e8 _ _ hb6
    · refine Pw.app (hrs6.imp fun x g h => RowAt.kx ((Kx.of e8).trans kx9) h) ⟨by rw [List.length_map, hzl, hyl], fun i x hx => ?_⟩
      obtain ⟨k, h1, h2⟩ := hall i x hx
      exact ⟨_, by rw [List.getElem?_map, h1]; rfl, RowAt.kx kx9 h2⟩
    · intro g hgm
      rcases List.mem_append.mp hgm with hgm | hgm
      · exact hok g (by rw [hg]; exact List.mem_append_left _ hgm)
      · obtain ⟨k, hk, rfl⟩ := List.mem_map.mp hgm
        have := dep_kids hk
        exact ⟨hkids k hk, by show dep k + (d + 1) ≤ 7; omega, hL7⟩
    · refine List.Perm.trans ?_ hperm
      conv => rhs; rw [hg]
      rw [List.flatMap_append, List.flatMap_append, List.flatMap_singleton, labs_eq, List.flatMap_map, List.append_assoc]
      refine List.Perm.append_left _ ?_
      rw [← List.append_assoc, ← List.append_assoc]
      exact List.Perm.append_right _ List.perm_append_comm
end
end K8
/-! class Procedure: __init__, made from three values or from a row, __eq__ -/
namespace K8
open PySem PySem.Spec L2 Evl
open PyProof.Rows hiding St
theorem r_sfld {K : PySem.W.Frag} {ta tv : TE} {f : Str} {D : Ends} {σ : L2.St} {H : Hp} (q : tv σ H fun y H1 => ta σ H1 fun x H2 => ∃ a C dx fs, x = .ref a ∧ H2 a = some (.ins C dx fs) ∧ Cls K C ∧ NoAttr K C f ∧ fs.length < 1000 ∧ D.nx σ (upd H2 a (.ins C dx (putF f y fs)))) : sFld K ta tv f D σ H := q
theorem fs1 {f : Str} {v : V} : (putF f v []).length < 1000 := by
  have := length_putF f v []
  simp only [List.length_nil] at this
  omega
theorem fs2 {f g : Str} {v u : V} : (putF g u (putF f v [])).length < 1000 := by
  have h1 := length_putF f v []
  have h2 := length_putF g u (putF f v [])
  simp only [List.length_nil] at h1
  omega
theorem fs3 {f g h : Str} {v u w : V} : (putF h w (putF g u (putF f v []))).length < 1000 := by
  have h1 := length_putF f v []
  have h2 := length_putF g u (putF f v [])
  have h3 := length_putF h w (putF g u (putF f v []))
  simp only [List.length_nil] at h1
  omega
theorem fs4 {f g h i : Str} {v u w z : V} : (putF i z (putF h w (putF g u (putF f v [])))).length < 1000 := by
  have h1 := length_putF f v []
  have h2 := length_putF g u (putF f v [])
  have h3 := length_putF h w (putF g u (putF f v []))
  have h4 := length_putF i z (putF h w (putF g u (putF f v [])))
  simp only [List.length_nil] at h1
  omega
/-- what is never reached -/
theorem ps_no {X : Cx} {st : Stmt} : PS X st (fun _ _ _ => False) := ⟨fun _ _ _ _ _ _ h => h.elim⟩
theorem pe_no {X : Cx} {e : Expr} : PE X e (fun _ _ _ => False) := ⟨fun _ _ _ _ _ _ h => h.elim⟩
/-! ### the fields -/
def pF (n : Str) (po vb l : V) : List (Str × V) := putF "own_terms" l (putF "own_body" vb (putF "own_parameters" po (putF "own_name" (.str n) [])))
theorem pF_name (n : Str) (po vb l : V) : (pF n po vb l).lookup ("own_name" : Str) = some (.str n) := by
  unfold pF
  rw [lookup_putF, if_neg (by decide +kernel), lookup_putF, if_neg (by decide +kernel), lookup_putF, if_neg (by decide +kernel), lookup_putF, if_pos rfl]
theorem pF_par (n : Str) (po vb l : V) : (pF n po vb l).lookup ("own_parameters" : Str) = some po := by
  unfold pF
  rw [lookup_putF, if_neg (by decide +kernel), lookup_putF, if_neg (by decide +kernel), lookup_putF, if_pos rfl]
theorem pF_body (n : Str) (po vb l : V) : (pF n po vb l).lookup ("own_body" : Str) = some vb := by
  unfold pF
  rw [lookup_putF, if_neg (by decide +kernel), lookup_putF, if_pos rfl]
theorem pF_terms (n : Str) (po vb l : V) : (pF n po vb l).lookup ("own_terms" : Str) = some l := by
  unfold pF
  rw [lookup_putF, if_pos rfl]
/-- the class -/
structure PrC (K : PySem.W.Frag) (mg : Str → Option Value) (C : Addr) : Prop where
  cl : Cls K C
  n1 : NoAttr K C "own_name"
  n2 : NoAttr K C "own_parameters"
  n3 : NoAttr K C "own_body"
  n4 : NoAttr K C "own_terms"
/-- a class that may be called -/
structure MakR (P : Program) (w : World) (K : PySem.W.Frag) (mg : Str → Option Value) (base : Heap) (k : Nat) (x : Str) (C : Addr) (sp : Sp) : Prop where
  ex : ∃ f, Mk K C f ∧ FnR P w K mg base L2.CX0 k f sp ∧ mg x = some (.ref C)
/-- the procedure r at x, its terms in the list l -/
def PrAtL (K : PySem.W.Frag) (C : Addr) (H : Hp) (x : V) (r : Rw) (l : Addr) : Prop := ∃ a dx po vb xs, x = .ref a ∧ H a = some (.ins C dx (pF r.name (.ref po) vb (.ref l))) ∧ SqT K H po (r.own.map V.str) ∧ Dp K H vb (toD r.body) ∧ H l = some (.lst xs) ∧
  xs.length ≤ 1000 ∧ ∀ y ∈ xs, ∃ u ∈ subs r.body, Dp K H y (toD u)
theorem PrAtL.ex {K : PySem.W.Frag} {C l : Addr} {H H' : Hp} {x : V} {r : Rw} (e : Ex H H') (h : PrAtL K C H x r l) : PrAtL K C H' x r l := by
  obtain ⟨a, dx, po, vb, xs, h1, h2, h3, h4, h5, h6, h7⟩ := h
  refine ⟨a, dx, po, vb, xs, h1, e _ _ h2, ex_t e h3, Dp.ex e _ _ h4, e _ _ h5, h6, fun y hy => ?_⟩
  obtain ⟨u, h8, h9⟩ := h7 y hy
  exact ⟨u, h8, Dp.ex e _ _ h9⟩
theorem wf_subs {c : Cfg} {own : List Str} (h1 : 1 ≤ c.modes) (h3 : c.modes ≤ 3) : ∀ (n : Nat) {L : List Str} {t : Tm}, dep t ≤ n → Wf c own L t → ∀ u ∈ subs t, ∃ L', okN c own L' u
  | 0, L, t, hd, _, _, _ => by have := dep_pos t; omega
  | n + 1, L, t, hd, h, u, hu => by
    obtain ⟨a, b⟩ := wf_iff.mp h
    rw [subs_eq] at hu
    rcases List.mem_cons.mp hu with rfl | hu
    · exact ⟨L, a⟩
    · obtain ⟨k, hk, hu⟩ := List.mem_flatMap.mp hu
      have := dep_kids hk
      exact wf_subs h1 h3 n (by omega) (b k hk) u hu
section
variable {P : Program} {w : World} {K : PySem.W.Frag} {mg : Str → Option Value} {base : Heap} {C : Addr}
/-- all but x stays -/
def Exx (x : Addr) (H H' : Hp) : Prop := ∀ a o, a ≠ x → H a = some o → H' a = some o
def spPrI (K : PySem.W.Frag) (C : Addr) : Sp := fun vs H Q _ => ∃ (x dx po : Addr) (vb : V) (r : Rw) (c : Cfg), vs = [.ref x, .str r.name, .ref po, vb] ∧ H x = some (.ins C dx []) ∧ SqT K H po (r.own.map V.str) ∧ Dp K H vb (toD r.body) ∧ 1 ≤ c.modes ∧ c.modes ≤ 3 ∧ OkRw c r ∧
  ∀ H' l, H l = none → Exx x H H' → PrAtL K C H' (.ref x) r l → Q .non H'
theorem c_pr_init {f : Addr} {fd : FuncData} (F : L2.Fun K "__init__" "Procedure.__init__" (inClass (top 29) 0) f fd) (B : Binds K fd ["self", "name", "parameters", "body"] []) (M : Mk K C f) (hm : mg "Procedure" = some (.ref C)) (O : PrC K mg C)
    (C1 : Cal P w K mg base 1 "is_name" spName) (C2 : Cal P w K mg base 3 "are_parameters" (spPar K)) (C3 : Cal P w K mg base 5 "is_body" (spBody K)) (C4 : Cal P w K mg base 2 "terms_of" (spTerms K)) : MakR P w K mg base 6 "Procedure" C (spPrI K C) := by
  have sc := C8.fnScope_by (N := ["self", "name", "parameters", "body"]) (P := ["self", "name", "parameters", "body"]) (sc := defScope (inClass (top 29) 0)) (by decide +kernel)
  have nd := sc.nd
  have G : FnOk P w K mg base L2.CX0 6 f fd ["self", "name", "parameters", "body"] (spPrI K C) := by
    refine F.ok sc (fun vs H Q E h => ?_) fun cdv A outer s H vs Q E hr h => ?_
    · obtain ⟨x, dx, po, vb, r, c, rfl, _⟩ := h
      rfl
    obtain ⟨x, dx, po, vb, r, c, rfl, hx, hpo, hvb, hm1, hm3, ok, q⟩ := h
    refine ⟨_, pss_cons (ps_if (PW.pt (pw_or (pt_not (pt_val (pe_c C1 hr (by decide) (pa_cons (pv 1) pa_nil)))) (pw_or (pt_not (pt_val (pe_c C2 hr (by decide) (pa_cons (pv 2) pa_nil))))
        (pw_or1 (pt_not (pt_val (pe_c C3 hr (by decide) (pa_cons (pv 3) (pa_cons (pv 2) pa_nil)))))))))
        (pss_one ps_no) pss_nil)
      (pss_cons (ps_fld (pv 0) (pv 1) rfl)
      (pss_cons (ps_fld (pv 0) (pv 2) rfl)
      (pss_cons (ps_fld (pv 0) (pv 3) rfl)
      (pss_one (ps_fld (pv 0) (pe_c C4 hr (by decide) (pa_cons (pv 3) pa_nil)) rfl))))), ?_⟩
    walk_at "rds"
    refine ⟨_, rfl, ok.nm, fun H1 e1 => ?_⟩
    walk_at "rds"
    refine ⟨po, r.own, rfl, ex_t e1 hpo, ok.own.1, ok.own.2.1, ok.own.2.2, fun H2 e2 => ?_⟩
    walk_at "rds"
    refine ⟨vb, po, r.body, r.own, c, rfl, Dp.ex (e1.trans e2) _ _ hvb, ex_t (e1.trans e2) hpo, hm1, hm3, ok.bd, fun H3 e3 => ?_⟩
    walk_at "rds"
    have e03 := (e1.trans e2).trans e3
    have hpo3 := ex_t e03 hpo
    have hvb3 := Dp.ex e03 _ _ hvb
    have hx3 := e03 _ _ hx
    refine r_sfld ?_
    walk_at "rds"
    refine ⟨x, C, dx, [], rfl, hx3, O.cl, O.n1, by decide, ?_⟩
    walk_at "rds"
    refine r_sfld ?_
    walk_at "rds"
    refine ⟨x, C, dx, _, rfl, upd_same, O.cl, O.n2, fs1, ?_⟩
    walk_at "rds"
    refine r_sfld ?_
    walk_at "rds"
    refine ⟨x, C, dx, _, rfl, upd_same, O.cl, O.n3, fs2, ?_⟩
    rw [upd_upd, upd_upd]
    generalize hH4 : upd H3 x (.ins C dx (putF "own_body" vb (putF "own_parameters" (.ref po) (putF "own_name" (.str r.name) [])))) = H4
    have k4 : Kx H3 H4 := by
      rw [← hH4]
      exact Kx.upd hx3 rfl
    have x4 : Exx x H H4 := fun a o ne h => by
      rw [← hH4, upd_ne ne]
      exact e03 _ _ h
    have hx4 : H4 x = some (.ins C dx (putF "own_body" vb (putF "own_parameters" (.ref po) (putF "own_name" (.str r.name) [])))) := by
      rw [← hH4]
      exact upd_same
    have hvb4 := Dp.kx k4 _ _ hvb3 (noL_toD _)
    have hpo4 := kx_t k4 hpo3
    clear hH4
    dsimp only
    refine r_sfld ?_
    walk_at "rds"
    refine ⟨vb, r.body, rfl, hvb4, fun u hu => ?_, Nat.le_trans ok.bd.sz (by decide), fun l H5 xs hl e5 hl5 hlen hxs => ?_⟩
    · obtain ⟨L', o⟩ := wf_subs hm1 hm3 _ (Nat.le_refl _) ok.bd.wf u hu
      exact (okN_frm hm1 hm3 o).1
    walk_at "rds"
    refine ⟨x, C, dx, _, rfl, e5 _ _ hx4, O.cl, O.n4, fs3, ?_⟩
    have k5 : Kx H5 (upd H5 x (.ins C dx (pF r.name (.ref po) vb (.ref l)))) := Kx.upd (e5 _ _ hx4) rfl
    have lx : l ≠ x := fun z => by
      subst z
      rw [hx4] at hl
      cases hl
    have hl0 : H l = none := by
      cases q : H l with
      | none => rfl
      | some o => rw [x4 l o lx q] at hl; cases hl
    refine q _ l hl0 (fun a o ne h => ?_) ⟨x, dx, po, vb, xs, rfl, upd_same, kx_t ((Kx.of e5).trans k5) hpo4, Dp.kx ((Kx.of e5).trans k5) _ _ hvb4 (noL_toD _), ?_, Nat.le_trans hlen (Nat.le_trans ok.bd.sz (by decide)), fun y hy => ?_⟩
    · rw [upd_ne ne]
      exact e5 _ _ (x4 a o ne h)
    · rw [upd_ne lx]
      exact hl5
    · obtain ⟨u, h1, h2⟩ := hxs y hy
      exact ⟨u, h1, Dp.kx k5 _ _ h2 (noL_toD u)⟩
  exact ⟨f, M, (G.raw (dvs := []) B .nil).imp fun vs H Q E h => by rw [List.append_nil]; exact h, hm⟩
end
end K8
/-! the data of terms: equality, shape -/
namespace K8
open PySem PySem.Spec L2
mutual
/-- texts, numbers, None and tuples of such -/
def pln : PyData → Bool
  | .none => true
  | .int _ => true
  | .str _ => true
  | .tuple ds => plns ds
  | _ => false
def plns : List PyData → Bool
  | [] => true
  | d :: ds => pln d && plns ds
end
mutual
theorem eqv_iff : ∀ (d e : PyData), pln d = true → pln e = true → (PyData.eqv d e = true ↔ d = e)
  | .none, .none, _, _ => by simp [PyData.eqv]
  | .none, .int _, _, _ => by simp [PyData.eqv]
  | .none, .str _, _, _ => by simp [PyData.eqv]
  | .none, .tuple _, _, _ => by simp [PyData.eqv]
  | .int _, .none, _, _ => by simp [PyData.eqv]
  | .int _, .int _, _, _ => by simp [PyData.eqv]
  | .int _, .str _, _, _ => by simp [PyData.eqv]
  | .int _, .tuple _, _, _ => by simp [PyData.eqv]
  | .str _, .none, _, _ => by simp [PyData.eqv]
  | .str _, .int _, _, _ => by simp [PyData.eqv]
  | .str _, .str _, _, _ => by simp [PyData.eqv]
  | .str _, .tuple _, _, _ => by simp [PyData.eqv]
  | .tuple _, .none, _, _ => by simp [PyData.eqv]
  | .tuple _, .int _, _, _ => by simp [PyData.eqv]
  | .tuple _, .str _, _, _ => by simp [PyData.eqv]
  | .tuple xs, .tuple ys, h1, h2 => by
    rw [PyData.eqv, eqvs_iff xs ys (by rw [pln] at h1; exact h1) (by rw [pln] at h2; exact h2), PyData.tuple.injEq]
  | .bool _, _, h, _ => by simp [pln] at h
  | .list _, _, h, _ => by simp [pln] at h
  | .dict _, _, h, _ => by simp [pln] at h
  | .none, .bool _, _, h => by simp [pln] at h
  | .none, .list _, _, h => by simp [pln] at h
  | .none, .dict _, _, h => by simp [pln] at h
  | .int _, .bool _, _, h => by simp [pln] at h
  | .int _, .list _, _, h => by simp [pln] at h
  | .int _, .dict _, _, h => by simp [pln] at h
  | .str _, .bool _, _, h => by simp [pln] at h
  | .str _, .list _, _, h => by simp [pln] at h
  | .str _, .dict _, _, h => by simp [pln] at h
  | .tuple _, .bool _, _, h => by simp [pln] at h
  | .tuple _, .list _, _, h => by simp [pln] at h
  | .tuple _, .dict _, _, h => by simp [pln] at h
theorem eqvs_iff : ∀ (ds es : List PyData), plns ds = true → plns es = true → (PyData.eqvAll ds es = true ↔ ds = es)
  | [], [], _, _ => by simp [PyData.eqvAll]
  | [], _ :: _, _, _ => by simp [PyData.eqvAll]
  | _ :: _, [], _, _ => by simp [PyData.eqvAll]
  | d :: ds, e :: es, h1, h2 => by
    rw [plns, Bool.and_eq_true] at h1 h2
    rw [PyData.eqvAll, Bool.and_eq_true, eqv_iff d e h1.1 h2.1, eqvs_iff ds es h1.2 h2.2, List.cons.injEq]
end
mutual
theorem pln_toD : ∀ t : Tm, pln (toD t) = true
  | .act w tab => by
    have h : ∀ tab : List (Option Nat), plns (tab.map entD) = true := fun tab => by
      induction tab with
      | nil => rfl
      | cons e r ih => cases e <;> simp [plns, pln, entD, ih]
    simp [toD, pln, plns, h tab]
  | .nam k x => by simp [toD, pln, plns]
  | .ser k ts => by simp [toD, pln, plns, pln_toDs ts]
  | .cal x ts => by simp [toD, pln, plns, pln_toDs ts]
  | .sco x t => by simp [toD, pln, plns, pln_toD t]
  | .ans ss ts t => by simp [toD, pln, plns, pln_prs ts ss, pln_toD t]
theorem pln_toDs : ∀ ts : List Tm, plns (toDs ts) = true
  | [] => by simp [toDs, plns]
  | t :: ts => by simp [toDs, plns, pln_toD t, pln_toDs ts]
theorem pln_prs : ∀ (ts : List Tm) (ss : List Str), plns (prs ts ss) = true
  | [], ss => by cases ss <;> simp [prs, plns]
  | t :: ts, [] => by simp [prs, plns]
  | t :: ts, s :: ss => by simp [prs, plns, pln, pln_toD t, pln_prs ts ss]
end
/-- the texts in a term are names -/
theorem ok_nm {x : Str} (h : isNm x = true) : PyData.strOk x = true := by
  unfold isNm at h
  rw [Bool.and_eq_true, List.all_eq_true] at h
  unfold PyData.strOk
  rw [Array.all_eq_true']
  intro c hc
  have h2 := h.2 c (Array.mem_toList_iff.mpr hc)
  rw [decide_eq_true_eq] at h2 ⊢
  have h3 : ∀ c ∈ letters, c < 0x110000 := by decide +kernel
  exact h3 c h2
theorem ok_kw {x : Str} (h : x ∈ (["do", "run", "exit", "raise", "seq", "or", "and", "case", "call", "scope", "answer"] : List Str)) : PyData.strOk x = true := by
  revert x
  decide +kernel
open PyData in
mutual
theorem lay_toD : ∀ t : Tm, (∀ u ∈ subs t, frm u) → canLay0 (toD t) = true
  | .act w tab, h => by
    obtain ⟨h1, _⟩ := h _ (by rw [subs_eq]; exact List.mem_cons_self)
    have h2 : ∀ tab : List (Option Nat), canLayAll0 (tab.map entD) = true := fun tab => by
      induction tab with
      | nil => rfl
      | cons e r ih => cases e <;> simp [canLay0, canLayAll0, entD, ih]
    simp [toD, canLay0, canLayAll0, h2 tab, ok_nm h1, ok_kw (x := "do") (by decide +kernel)]
  | .nam k x, h => by
    obtain ⟨h1, h2⟩ := h _ (by rw [subs_eq]; exact List.mem_cons_self)
    have h3 : PyData.strOk k = true := ok_kw (by rcases h2 with rfl | rfl | rfl <;> decide +kernel)
    simp [toD, canLay0, canLayAll0, ok_nm h1, h3]
  | .ser k ts, h => by
    have h1 := h _ (by rw [subs_eq]; exact List.mem_cons_self)
    have h3 : PyData.strOk k = true := ok_kw (by rcases h1 with rfl | ⟨rfl | rfl, _⟩ | ⟨rfl, _⟩ <;> decide +kernel)
    simp [toD, canLay0, canLayAll0, h3, lay_toDs ts (fun u hu => h u (by rw [subs]; exact List.mem_cons_of_mem _ hu))]
  | .cal x ts, h => by
    have h1 : isNm x = true := (show frm (.cal x ts) from h _ (by rw [subs_eq]; exact List.mem_cons_self))
    simp [toD, canLay0, canLayAll0, ok_nm h1, ok_kw (x := "call") (by decide +kernel), lay_toDs ts (fun u hu => h u (by rw [subs]; exact List.mem_cons_of_mem _ hu))]
  | .sco x t, h => by
    have h1 : isNm x = true := (show frm (.sco x t) from h _ (by rw [subs_eq]; exact List.mem_cons_self))
    simp [toD, canLay0, canLayAll0, ok_nm h1, ok_kw (x := "scope") (by decide +kernel), lay_toD t (fun u hu => h u (by rw [subs]; exact List.mem_cons_of_mem _ hu))]
  | .ans ss ts t, h => by
    obtain ⟨_, _, _, _, h1⟩ := h _ (by rw [subs_eq]; exact List.mem_cons_self)
    simp [toD, canLay0, canLayAll0, ok_kw (x := "answer") (by decide +kernel), lay_prs ts ss h1 (fun u hu => h u (by rw [subs]; exact List.mem_cons_of_mem _ (List.mem_append_left _ hu))), lay_toD t (fun u hu => h u (by rw [subs]; exact List.mem_cons_of_mem _ (List.mem_append_right _ hu)))]
theorem lay_toDs : ∀ ts : List Tm, (∀ u ∈ subss ts, frm u) → canLayAll0 (toDs ts) = true
  | [], _ => by simp [toDs, canLayAll0]
  | t :: ts, h => by
    simp [toDs, canLayAll0, lay_toD t (fun u hu => h u (by rw [subss]; exact List.mem_append_left _ hu)), lay_toDs ts (fun u hu => h u (by rw [subss]; exact List.mem_append_right _ hu))]
theorem lay_prs : ∀ (ts : List Tm) (ss : List Str), (∀ s ∈ ss, isNm s = true) → (∀ u ∈ subss ts, frm u) → canLayAll0 (prs ts ss) = true
  | [], ss, _, _ => by cases ss <;> simp [prs, canLayAll0]
  | t :: ts, [], _, _ => by simp [prs, canLayAll0]
  | t :: ts, s :: ss, h0, h => by
    simp [prs, canLay0, canLayAll0, ok_nm (h0 s List.mem_cons_self), lay_toD t (fun u hu => h u (by rw [subss]; exact List.mem_append_left _ hu)), lay_prs ts ss (fun s hs => h0 s (List.mem_cons_of_mem _ hs)) (fun u hu => h u (by rw [subss]; exact List.mem_append_right _ hu))]
end
open PyData in
mutual
theorem dep_toD : ∀ t : Tm, depth (toD t) ≤ 3 * dep t + 2
  | .act w tab => by
    have h2 : ∀ tab : List (Option Nat), depthAll (tab.map entD) ≤ 1 := fun tab => by
      induction tab with
      | nil => simp [depthAll]
      | cons e r ih => cases e <;> simp [depth, depthAll, entD] <;> omega
    have := h2 tab
    simp [toD, depth, depthAll, dep]
    omega
  | .nam k x => by simp [toD, depth, depthAll, dep]
  | .ser k ts => by
    have := dep_toDs ts
    simp [toD, depth, depthAll, dep]
    omega
  | .cal x ts => by
    have := dep_toDs ts
    simp [toD, depth, depthAll, dep]
    omega
  | .sco x t => by
    have := dep_toD t
    simp [toD, depth, depthAll, dep]
    omega
  | .ans ss ts t => by
    have := dep_prs ts ss
    have := dep_toD t
    simp [toD, depth, depthAll, dep]
    omega
theorem dep_toDs : ∀ ts : List Tm, depthAll (toDs ts) ≤ 3 * deps ts + 2
  | [] => by simp [toDs, depthAll]
  | t :: ts => by
    have := dep_toD t
    have := dep_toDs ts
    simp [toDs, depthAll, deps]
    omega
theorem dep_prs : ∀ (ts : List Tm) (ss : List Str), depthAll (prs ts ss) ≤ 3 * deps ts + 3
  | [], ss => by cases ss <;> simp [prs, depthAll]
  | t :: ts, [] => by simp [prs, depthAll]
  | t :: ts, s :: ss => by
    have := dep_toD t
    have := dep_prs ts ss
    simp [prs, depth, depthAll, deps]
    omega
end
theorem shaped_toD {t : Tm} (h : ∀ u ∈ subs t, frm u) (hd : dep t ≤ 6) : SeqAt.shaped (toD t) = true := by
  have := dep_toD t
  unfold SeqAt.shaped
  rw [lay_toD t h, Bool.true_and, decide_eq_true_eq]
  omega
end K8
/-! Procedure.__eq__ -/
namespace K8
open PySem PySem.Spec L2 Evl
open PyProof.Rows hiding St
def Gd (r : Rw) : Prop := ∃ c : Cfg, 1 ≤ c.modes ∧ c.modes ≤ 3 ∧ OkRw c r
def ownD (own : List Str) : PyData := .tuple (own.map .str)
def eqRw (r1 r2 : Rw) : Bool := decide (r1.name = r2.name) && (PyData.eqv (ownD r1.own) (ownD r2.own) && PyData.eqv (toD r1.body) (toD r2.body))
theorem pln_own (own : List Str) : pln (ownD own) = true := by
  unfold ownD
  rw [pln]
  induction own with
  | nil => rfl
  | cons x r ih => simp [plns, pln, ih]
theorem lay_own : ∀ {own : List Str}, (∀ x ∈ own, isNm x = true) → PyData.canLayAll0 (own.map .str) = true
  | [], _ => by simp [PyData.canLayAll0]
  | x :: r, h => by
    rw [List.map_cons, PyData.canLayAll0, lay_own fun y hy => h y (List.mem_cons_of_mem _ hy)]
    simp [PyData.canLay0, ok_nm (h x List.mem_cons_self)]
theorem shaped_own {own : List Str} (h : ∀ x ∈ own, isNm x = true) : SeqAt.shaped (ownD own) = true := by
  have h2 : ∀ own : List Str, PyData.depthAll (own.map .str) = 0 := fun own => by
    induction own with
    | nil => simp [PyData.depthAll]
    | cons x r ih => simp [PyData.depthAll, PyData.depth, ih]
  unfold SeqAt.shaped ownD
  rw [PyData.canLay0, lay_own h, Bool.true_and, decide_eq_true_eq, PyData.depth, h2]
  decide
theorem str_inj : ∀ {xs ys : List Str}, xs.map PyData.str = ys.map PyData.str → xs = ys
  | [], [], _ => rfl
  | [], _ :: _, h => by simp at h
  | _ :: _, [], h => by simp at h
  | x :: xs, y :: ys, h => by
    rw [List.map_cons, List.map_cons, List.cons.injEq] at h
    rw [str_inj h.2]
    injection h.1 with e
    rw [e]
theorem eqRw_iff {r1 r2 : Rw} : eqRw r1 r2 = true ↔ r1.name = r2.name ∧ r1.own = r2.own ∧ toD r1.body = toD r2.body := by
  unfold eqRw
  rw [Bool.and_eq_true, Bool.and_eq_true, decide_eq_true_eq, eqv_iff _ _ (pln_own _) (pln_own _), eqv_iff _ _ (pln_toD _) (pln_toD _)]
  unfold ownD
  rw [PyData.tuple.injEq]
  constructor
  · rintro ⟨a, b, c⟩
    refine ⟨a, ?_, c⟩
    exact str_inj b
  · rintro ⟨a, b, c⟩
    exact ⟨a, by rw [b], c⟩
theorem Gd.frm {r : Rw} (g : Gd r) : ∀ u ∈ subs r.body, frm u := fun u hu => by
  obtain ⟨c, h1, h3, ok⟩ := g
  obtain ⟨L', o⟩ := wf_subs h1 h3 _ (Nat.le_refl _) ok.bd.wf u hu
  exact (okN_frm h1 h3 o).1
section
variable {P : Program} {w : World} {K : PySem.W.Frag} {mg : Str → Option Value} {base : Heap} {C : Addr}
def RPr (K : PySem.W.Frag) (C : Addr) (a b : Addr) (r : Bool) (H : Hp) : Prop := ∃ r1 r2 l1 l2, PrAtL K C H (.ref a) r1 l1 ∧ PrAtL K C H (.ref b) r2 l2 ∧ Gd r1 ∧ Gd r2 ∧ r = eqRw r1 r2
theorem dp_own {H : Hp} {a : Addr} {own : List Str} (h : SqT K H a (own.map V.str)) : Dp K H (.ref a) (ownD own) := .tup h (dpa_strs own)
theorem c_pr_eq {f : Addr} {fd : FuncData} (F : L2.Fun K "__eq__" "Procedure.__eq__" (inClass (top 29) 9) f fd) (T : Txt K mg) (hm : mg "Procedure" = some (.ref C)) (O : PrC K mg C) (IC : C8.InsC K C) : FnOk P w K mg base L2.CX0 1 f fd ["self", "other"] (spEqB (RPr K C)) := by
  have sc := C8.fnScope_by (N := ["self", "other"]) (P := ["self", "other"]) (sc := defScope (inClass (top 29) 9)) (by decide +kernel)
  refine F.ok sc (fun vs H Q E h => ?_) fun cdv A outer s H vs Q E hr h => ?_
  · obtain ⟨a, b, r, rfl, _⟩ := h
    rfl
  obtain ⟨a, b, r, rfl, ⟨r1, r2, l1, l2, p1, p2, g1, g2, rfl⟩, q⟩ := h
  obtain ⟨a', dx, po, vb, xs, e, h1, h2, h3, h4, h5, h6⟩ := p1
  cases e
  obtain ⟨b', dx', po', vb', xs', e, k1, k2, k3, k4, k5, k6⟩ := p2
  cases e
  refine ⟨_, pss_one (ps_ret (pe_and (pe_callB (C8.call_isC IC) rfl T.isinstance boot_isinstance (pa_cons (pv 1) (pa_cons (C8.pe_gc (v := .ref C) rfl ⟨_, hm, rfl⟩) pa_nil)))
    (pe_and (pe_cmpR op_eq (pe_fld (pv 0) rfl) (pe_fld (pv 1) rfl) (nomark _)) (pe_and (pe_cmpR (op_eqD hr.units) (pe_fld (pv 0) rfl) (pe_fld (pv 1) rfl) (nomark _)) (pe_one (pe_cmpR (op_eqD hr.units) (pe_fld (pv 0) rfl) (pe_fld (pv 1) rfl) (nomark _))))))), ?_⟩
  walk_at "rds"
  refine ⟨b, dx', _, rfl, k1, ?_⟩
  walk_at "rds"
  refine ⟨a, C, dx, _, _, rfl, h1, O.cl, O.n1, pF_name _ _ _ _, ?_⟩
  walk_at "rds"
  refine ⟨b, C, dx', _, _, rfl, k1, O.cl, O.n1, pF_name _ _ _ _, ?_⟩
  walk_at "rds"
  refine r_eq rfl (r_bl ?_)
  by_cases e : r1.name = r2.name
  · refine r_yes (by rw [e]) ?_
    walk_at "rds"
    refine ⟨a, C, dx, _, _, rfl, h1, O.cl, O.n2, pF_par _ _ _ _, ?_⟩
    walk_at "rds"
    refine ⟨b, C, dx', _, _, rfl, k1, O.cl, O.n2, pF_par _ _ _ _, ?_⟩
    walk_at "rds"
    have s1 : SeqAt.shaped (ownD r1.own) = true := by
      obtain ⟨c, _, _, ok⟩ := g1
      exact shaped_own ok.own.1
    have s2 : SeqAt.shaped (ownD r2.own) = true := by
      obtain ⟨c, _, _, ok⟩ := g2
      exact shaped_own ok.own.1
    have s3 : SeqAt.shaped (toD r1.body) = true := by
      have f := g1.frm
      obtain ⟨c, _, _, ok⟩ := g1
      exact shaped_toD f ok.bd.dp
    have s4 : SeqAt.shaped (toD r2.body) = true := by
      have f := g2.frm
      obtain ⟨c, _, _, ok⟩ := g2
      exact shaped_toD f ok.bd.dp
    refine ⟨_, _, dp_own h2, dp_own k2, s1, s2, r_bl ?_⟩
    cases e2 : PyData.eqv (ownD r1.own) (ownD r2.own) with
    | false =>
      refine iteF ?_
      have q := q H (Ex.refl H)
      rw [show eqRw r1 r2 = false by unfold eqRw; rw [decide_eq_true e, e2]; rfl] at q
      exact q
    | true =>
      refine iteT ?_
      walk_at "rds"
      refine ⟨a, C, dx, _, _, rfl, h1, O.cl, O.n3, pF_body _ _ _ _, ?_⟩
      walk_at "rds"
      refine ⟨b, C, dx', _, _, rfl, k1, O.cl, O.n3, pF_body _ _ _ _, ?_⟩
      walk_at "rds"
      refine ⟨_, _, h3, k3, s3, s4, ?_⟩
      have q := q H (Ex.refl H)
      rw [show eqRw r1 r2 = PyData.eqv (toD r1.body) (toD r2.body) by unfold eqRw; rw [decide_eq_true e, e2]; rfl] at q
      exact q
  · refine r_no (fun z => e (by injection z)) ?_
    have q := q H (Ex.refl H)
    rw [show eqRw r1 r2 = false by unfold eqRw; rw [decide_eq_false e]; rfl] at q
    exact q
end
end K8
/-! are_signals, fits -/
namespace K8
open PySem PySem.Spec L2 Evl
open PyProof.Rows hiding St
section
variable {P : Program} {w : World} {K : PySem.W.Frag} {mg : Str → Option Value} {base : Heap} {C : Addr}
def spSigs (K : PySem.W.Frag) : Sp := fun vs H Q _ => ∃ (a : Addr) (zs : List Str), vs = [.ref a] ∧ SqT K H a (zs.map V.str) ∧ (∀ z ∈ zs, isNm z = true) ∧ asc zs = true ∧ zs.length ≤ 2 ∧ RetV (.bl true) H Q
theorem c_are_signals (D : Dfn K mg "are_signals" (top 34) ["value"]) (T : Txt K mg) (C1 : Cal P w K mg base 2 "are_names" (spNames K)) (C2 : Cal P w K mg base 1 "is_ascending" (spAsc K)) : Cal P w K mg base 3 "are_signals" (spSigs K) := by
  refine D.cal (N := ["value"]) (by decide +kernel) (fun vs H Q E h => ?_) fun f cdv A outer s H vs Q E hr nd h => ?_
  · obtain ⟨a, zs, rfl, _⟩ := h
    rfl
  obtain ⟨a, zs, rfl, hs, hn, ha, hl, q⟩ := h
  refine ⟨_, pss_one (ps_ret (pe_and (pe_c C1 hr (by decide) (pa_cons (pv 0) pa_nil)) (pe_and (pe_cmpR op_le (p_len T (pv 0)) (C8.pe_gc rfl T.MAX_SIGNALS) (nomark _))
    (pe_one (pe_c C2 hr (by decide) (pa_cons (pv 0) pa_nil)))))), ?_⟩
  walk_at "rds"
  refine ⟨a, zs, rfl, hs, hn, by omega, fun H' e => ?_⟩
  walk_at "rds"
  have hs' := ex_t e hs
  refine r_lenT hs' ?_
  walk_at "rds"
  refine r_yes (by rw [List.length_map]; omega) ?_
  walk_at "rds"
  exact ⟨a, zs, rfl, .inr hs', ha, by omega, fun H2 e2 => q _ (e.trans e2)⟩

/-! ### the table of procedures -/
def kvR (rows : List Rw) (xs : List V) : List (Key × V) := (rows.zip xs).map fun p => (Sum.inr p.1.name, p.2)
def TabAt (K : PySem.W.Frag) (C : Addr) (H : Hp) (d : Addr) (rows : List Rw) (xs : List V) : Prop := H d = some (.dK (kvR rows xs)) ∧ Pw (fun x r => ∃ l, PrAtL K C H x r l) xs rows
def headsR (rows : List Rw) : List (Str × Nat) := rows.map fun r => (r.name, r.own.length)
theorem val_rows {R : V → Rw → Prop} {n : Str} {k : Nat} : ∀ {rows : List Rw} {xs : List V}, Pw R xs rows → (headsR rows).lookup n = some k → ∃ x r, valV (kvR rows xs) (Sum.inr n : Key) = some x ∧ R x r ∧ r ∈ rows ∧ r.name = n ∧ r.own.length = k
  | [], xs, _, h => by simp [headsR] at h
  | r :: rows, xs, p, h => by
    cases xs with
    | nil => have := p.1; simp at this
    | cons x xs =>
      obtain ⟨g, e1, hx⟩ := p.2 0 x rfl
      cases (show some r = some g from e1)
      have pw' : Pw R xs rows := ⟨by have := p.1; simpa using this, fun i y e => p.2 (i + 1) y e⟩
      have ek : kvR (r :: rows) (x :: xs) = ((Sum.inr r.name : Key), x) :: kvR rows xs := rfl
      have eh : headsR (r :: rows) = (r.name, r.own.length) :: headsR rows := rfl
      rw [eh, List.lookup_cons] at h
      by_cases e : n = r.name
      · rw [show (n == r.name) = true from beq_iff_eq.mpr e] at h
        refine ⟨x, r, ?_, hx, List.mem_cons_self, e.symm, Option.some.inj h⟩
        rw [ek]
        exact valV_pos (show (Sum.inr r.name : Key) = Sum.inr n by rw [e])
      · rw [show (n == r.name) = false from beq_eq_false_iff_ne.mpr e] at h
        obtain ⟨y, r', h1, h2, h3, h4, h5⟩ := val_rows pw' h
        refine ⟨y, r', ?_, h2, List.mem_cons_of_mem _ h3, h4, h5⟩
        rw [ek, valV_neg (fun z => e (by injection z with z; exact z.symm))]
        exact h1
/-! ### fits -/
def spFits (K : PySem.W.Frag) (C : Addr) : Sp := fun vs H Q _ => ∃ (v : V) (sa d : Addr) (t : Tm) (c : Cfg) (own L : List Str) (rows : List Rw) (xs : List V), vs = [v, .int (c.modes : Nat), .ref sa, .ref d] ∧ Dp K H v (toD t) ∧ 1 ≤ c.modes ∧ c.modes ≤ 3 ∧ okN c own L t ∧ SqT K H sa (c.sigs.map V.str) ∧
  c.heads = headsR rows ∧ TabAt K C H d rows xs ∧ RetV (.bl true) H Q
theorem c_fits (D : Dfn K mg "fits" (top 35) ["term", "modes", "signals", "table"]) (T : Txt K mg) (O : PrC K mg C) : Cal P w K mg base 1 "fits" (spFits K C) := by
  refine D.cal (N := ["term", "modes", "signals", "table", "word", "entries", "terms", "name", "given", "signal", "answers", "inner", "entry", "pair"]) (by decide +kernel) (fun vs H Q E h => ?_) fun f cdv A outer s H vs Q E hr nd h => ?_
  · obtain ⟨v, sa, d, t, c, own, L, rows, xs, rfl, _⟩ := h
    rfl
  obtain ⟨v, sa, d, t, c, own, L, rows, xs, rfl, hd, h1, h3, hn, hsa, hh, ht, q⟩ := h
  refine ⟨_, pss_cons (ps_match (pv 0)
      (pm_A K 2 nd .one (.cons (.cons .nil)) (so (j := 4) (so (j := 5) .nil)) (pss_one (ps_ret (pe_and (pe_cmpR op_eq (p_len T (pv 5)) (pv 1) (nomark _)) (pe_one (p_all T (pe_lc (own := [("entry", 12)]) (g := gName 12) (tt := tYes) rfl nd (pi_tup (pv 5)) (blkOk_by (N := ["term", "modes", "signals", "table", "word", "entries", "terms", "name", "given", "signal", "answers", "inner", "entry", "pair"]) (sc := defScope (top 35)) (by decide +kernel))
        (fun _ _ _ _ _ => pg_name (i := 12) nd rfl (Or.inl rfl)) (fun _ _ _ _ _ => pts_nil) (fun _ _ _ _ _ => pe_or (pe_cmp (pc_isN (pv 12))) (pe_one (pe_cmpR op_lt (pv 12) (pv 1) (nomark _))))))))))
      (pm_B K 0 nd .one .nil (so (j := 6) .nil) (pss_one (ps_ret (pe_cmpR op_eq (p_len T (pv 6)) (pv 1) (nomark _))))
      (pm_B K 1 nd .one (.cons .nil) (so (j := 7) (so (j := 8) .nil)) (pss_one (ps_ret (pe_and (pe_cmp (pc_din (hu_of hr) (pv 7) (pv 3))) (pe_one (pe_cmpR op_eq (p_len T (pe_fld (pe_dget (hu_of hr) (pv 3) (pv 7) (fun _ _ => rfl)) rfl)) (p_len T (pv 8)) (nomark _))))))
      (pm_A K 1 nd .one (.cons .nil) (so (j := 9) .nil) (pss_one (ps_ret (p_in K (pv 9) (pv 2))))
      (pm_A K 2 nd .one (.cons (.cons .nil)) (so (j := 10) (so (j := 11) .nil)) (pss_one (ps_ret (p_all T (pe_lc (own := [("pair", 13)]) (g := gName 13) (tt := tYes) rfl nd (pi_tup (pv 10)) (blkOk_by (N := ["term", "modes", "signals", "table", "word", "entries", "terms", "name", "given", "signal", "answers", "inner", "entry", "pair"]) (sc := defScope (top 35)) (by decide +kernel))
        (fun _ _ _ _ _ => pg_name (i := 13) nd rfl (Or.inl rfl)) (fun _ _ _ _ _ => pts_nil) (fun _ _ _ _ _ => p_in K (p_ixT (K := K) (pv 13) pe_int) (pv 2))))))
      pms_nil))))))
    (pss_one (ps_ret pe_bl)), ?_⟩
  walk_at "rds"
  cases t with
  | act wd tab =>
    obtain ⟨a', u, rfl, hs, ht'⟩ := dp_act hd
    obtain ⟨b, ys, rfl, hb, hys⟩ := dp_tup ht'
    obtain ⟨n1, n2, n3⟩ := hn
    have hl : ys.length = tab.length := by rw [hys.len, List.length_map]
    walk_at "mh"
    walk_at "rds"
    refine r_lenT hb ?_
    walk_at "rds"
    refine r_eq rfl (r_bl (r_yes (by rw [hl, n2]) ?_))
    walk_at "rds"
    refine ⟨b, rfl, ⟨_, hb⟩, lc_pure over_tup (fun H2 e2 => ex_t e2 hb) (fun _ y _ => y = .bl true) (fun _ _ _ _ _ h => h) (small (by omega)) (fun i v H1 hi e hy Q q => ?_) fun D H2 zs hD e2 h _ hall => ?_⟩
    · obtain ⟨o, ho, rfl⟩ := ent_at hys hy
      refine r_name ⟨rfl, ?_⟩
      cases o with
      | none =>
        walk_at "rds"
        refine r_isN ?_
        walk_at "rds"
        exact q _ _ (Ex.refl _) rfl
      | some n =>
        have hn := n3 _ (List.mem_of_getElem? ho) n rfl
        walk_at "rds"
        refine r_isN ?_
        walk_at "rds"
        refine r_no (by simp) ?_
        walk_at "rds"
        refine q _ _ (Ex.refl _) ?_
        rw [decide_eq_true (show ((n : Nat) : Int) < ((c.modes : Nat) : Int) by omega)]
    · walk_at "rds"
      exact r_allT h hall (q _ e2)
  | nam k x =>
    obtain ⟨a', rfl, hs⟩ := dp_nam hd
    obtain ⟨n1, n2⟩ := hn
    rcases n2 with ⟨rfl, n2⟩ | ⟨rfl, n2⟩ | ⟨rfl, n2⟩
    · repeat walk_at "mm"
      walk_at "rds"
      exact q _ (Ex.refl _)
    · repeat walk_at "mm"
      walk_at "rds"
      exact q _ (Ex.refl _)
    · repeat walk_at "mm"
      walk_at "mh"
      walk_at "rds"
      refine r_inT hsa ?_
      rw [decide_eq_true n2]
      exact q _ (Ex.refl _)
  | ser k ts =>
    obtain ⟨a', ys, rfl, hs, hys⟩ := dp_ser hd
    have hl : ys.length = ts.length := by rw [hys.len, toDs_len]
    rcases hn with rfl | ⟨rfl | rfl, _⟩ | ⟨rfl, n2⟩
    · repeat walk_at "mm"
      walk_at "rds"
      exact q _ (Ex.refl _)
    · repeat walk_at "mm"
      walk_at "rds"
      exact q _ (Ex.refl _)
    · repeat walk_at "mm"
      walk_at "rds"
      exact q _ (Ex.refl _)
    · repeat walk_at "mm"
      refine r_mBh hs (Nat.zero_le _) (by decide +kernel) fun p hp => ?_
      walk_at "rds"
      refine r_lenL (SqL.of upd_same) ?_
      walk_at "rds"
      refine r_eq rfl ?_
      rw [decide_eq_true (by rw [List.drop_zero, hl, n2])]
      exact q _ (Ex.new hp)
  | cal x ts =>
    obtain ⟨a', ys, rfl, hs, hys⟩ := dp_cal hd
    have hl : ys.length = ts.length := by rw [hys.len, toDs_len]
    obtain ⟨n1, n2⟩ := hn
    rw [hh] at n2
    obtain ⟨hdd, hpw⟩ := ht
    obtain ⟨y, r, hv, ⟨l, hr'⟩, _, _, hown⟩ := val_rows hpw n2
    repeat walk_at "mm"
    refine r_mBh hs (by rw [List.length_cons]; exact Nat.le_add_left _ _) (by decide +kernel) fun p hp => ?_
    walk_at "rds"
    have hd2 : (upd H p (.lst (List.drop 1 (.str x :: ys)))) d = some (.dK (kvR rows xs)) := Ex.new hp _ _ hdd
    obtain ⟨a2, dx, po, vb, zs, rfl, g1, g2, g3, g4, g5, g6⟩ := hr'.ex (Ex.new (o := .lst (List.drop 1 (.str x :: ys))) hp)
    refine ⟨_, rfl, _, rfl, d, _, rfl, DGet.k (k := Sum.inr x) hd2, true, by rw [hv]; rfl, ?_⟩
    walk_at "rds"
    refine ⟨_, rfl, _, rfl, d, _, rfl, by have := DGet.k (k := Sum.inr x) hd2; rw [hv] at this; exact this, ?_⟩
    refine ⟨a2, C, dx, _, _, rfl, g1, O.cl, O.n2, pF_par _ _ _ _, ?_⟩
    walk_at "rds"
    refine r_lenT g2 ?_
    walk_at "rds"
    refine r_lenL (SqL.of upd_same) ?_
    walk_at "rds"
    refine r_eq rfl ?_
    rw [decide_eq_true (by rw [List.length_map, hown]; show (V.int (ts.length : Nat)) = V.int (ys.length : Nat); rw [hl])]
    exact q _ (Ex.new hp)
  | sco x t =>
    obtain ⟨a', u, rfl, hs, _⟩ := dp_sco hd
    repeat walk_at "mm"
    walk_at "rds"
    exact q _ (Ex.refl _)
  | ans ss ts t =>
    obtain ⟨a', b, u, rfl, hs, hb, hu⟩ := dp_ans hd
    obtain ⟨o1, o2, o3, o4, o5⟩ := hn
    obtain ⟨b', ps, rfl, hps, hpl, hp⟩ := dp_prs hb o1
    repeat walk_at "mm"
    walk_at "mh"
    walk_at "rds"
    refine ⟨b', rfl, ⟨_, hps⟩, lc_pure over_tup (fun H2 e2 => ex_t e2 hps) (fun _ y _ => y = .bl true) (fun _ _ _ _ _ h => h) (small (by omega)) (fun i v H1 hi e hy Q q => ?_) fun D H2 ys hD e2 h hyl hall => ?_⟩
    · obtain ⟨c', s', t', u', e1, e2, rfl, e4, e5⟩ := (hp i v hy).ex e
      refine r_name ⟨rfl, ?_⟩
      walk_at "rds"
      refine r_ixT e4 r_at0 ?_
      walk_at "rds"
      refine r_inT (ex_t e hsa) ?_
      rw [decide_eq_true (o5 s' (List.mem_of_getElem? e1)).2]
      exact q _ _ (Ex.refl _) rfl
    · walk_at "rds"
      exact r_allT h hall (q _ e2)
end
end K8
/-! unanswered -/
namespace K8
open PySem PySem.Spec L2 Evl
open PyProof.Rows hiding St
section
variable {P : Program} {w : World} {K : PySem.W.Frag} {mg : Str → Option Value} {base : Heap} {C : Addr}
theorem r_iEnum {ta : TA} {σ : L2.St} {H : Hp} {R : It → Hp → Prop} (q : ta σ H fun vs H1 => ∃ a xs, vs = [.ref a] ∧ SqL K H1 a xs ∧ R (Ite K a) H1) : iEnum K ta σ H R := q
theorem r_ifExp {t : TT} {ta tb : TE} {σ : L2.St} {H : Hp} {Q : VK} (q : t σ H fun c H1 => if c = true then ta σ H1 Q else tb σ H1 Q) : tIf t ta tb σ H Q := q
/-- a raise or a call with the signals answered around it -/
def UnAt (K : PySem.W.Frag) (H : Hp) (t : Tm) (x : V) : Prop := ∃ (c : Addr) (u : Tm) (b : Addr) (w : V) (A : List Str), x = .ref c ∧ SqT K H c [w, .ref b] ∧ Dp K H w (toD u) ∧ u ∈ subs t ∧ ((∃ n : Str, u = .nam "raise" n) ∨ ∃ (n : Str) (ts : List Tm), u = .cal n ts) ∧ SqT K H b (A.map V.str)
theorem UnAt.kx {H H' : Hp} {t : Tm} {x : V} (e : Kx H H') (h : UnAt K H t x) : UnAt K H' t x := by
  obtain ⟨c, u, b, w, A, h1, h2, h3, h4, h5, h6⟩ := h
  exact ⟨c, u, b, w, A, h1, kx_t e h2, Dp.kx e _ _ h3 (noL_toD _), h4, h5, kx_t e h6⟩
theorem UnAt.up {H : Hp} {t k : Tm} {x : V} (hk : k ∈ kids t) (h : UnAt K H k x) : UnAt K H t x := by
  obtain ⟨c, u, b, w, A, h1, h2, h3, h4, h5⟩ := h
  refine ⟨c, u, b, w, A, h1, h2, h3, ?_, h5⟩
  rw [subs_eq]
  exact List.mem_cons_of_mem _ (List.mem_flatMap.mpr ⟨k, hk, h4⟩)
def spUn (K : PySem.W.Frag) (n : Nat) : Sp := fun vs H Q _ => ∃ (v : V) (a : Addr) (t : Tm) (A : List Str), vs = [v, .ref a] ∧ Dp K H v (toD t) ∧ (∀ u ∈ subs t, frm u) ∧ dep t ≤ n ∧ n ≤ 10 ∧ size t ≤ 1000 ∧ SqT K H a (A.map V.str) ∧ A.length + 1000 * n ≤ 20000 ∧
  ∀ l H' xs, H l = none → Ex H H' → H' l = some (.lst xs) → xs.length ≤ size t → (∀ x ∈ xs, UnAt K H' t x) → Q (.ref l) H'
theorem hd_call {t : Tm} (ok : frm t) (h : hd1 t = "call") : ∃ n ts, t = .cal n ts := by
  cases t with
  | cal n ts => exact ⟨n, ts, rfl⟩
  | nam k x =>
    exfalso
    have h : k = "call" := h
    subst h
    obtain ⟨_, h⟩ := ok
    revert h
    decide +kernel
  | ser k ts =>
    exfalso
    have h : k = "call" := h
    subst h
    rcases ok with h | ⟨h | h, _⟩ | ⟨h, _⟩ <;> revert h <;> decide +kernel
  | _ =>
    exfalso
    simp only [hd1] at h
    revert h
    decide +kernel
theorem sgs_len {t : Tm} (ok : frm t) : (sgs t).length ≤ 1000 := by
  cases t with
  | nam k x => simp only [sgs]; split <;> simp
  | ans ss ts t => exact ok.2.2.1
  | _ => simp [sgs]
def uB (K : PySem.W.Frag) (n : Nat) : TS := tDrop (tBM K "list" rExtend (tVar 2) (tCons (tCall (spUn K n) [] E0 (tCons (tVar 5) (tCons (tTup (StX.tStar K (tVar 1) (StX.tStar K (tVar 7) tNil))) tNil))) tNil))
def uM (K : PySem.W.Frag) (n : Nat) : TS := tSeq (tAsg (tIf (tTest (tVar 6)) (tCall (spSig K) [] E0 (tCons (tVar 0) tNil)) (tLst tNil)) (gName 7)) (uB K n)
def uL (K : PySem.W.Frag) (n : Nat) : TS := tSeq (tAsg (tAndV (tOp rEq (tOp (rIxT K) (tVar 0) (tC (.int 0))) (tC (.str "answer"))) (tOp rEq (tVar 4) (tOp (rI0 fun i j => .int (i - j)) (tCB (rLenS K) (tCons (tVar 3) tNil)) (tC (.int 1))))) (gName 6)) (uM K n)
def UnP (K : PySem.W.Frag) (t : Tm) (H : Hp) (p a F Pt : Addr) (ys : List V) (i : Nat) (σ : L2.St) (H' : Hp) : Prop := ∃ (o4 o5 o6 o7 : Option V) (fs' : List V), σ = [some (.ref p), some (.ref a), some (.ref F), some (.ref Pt), o4, o5, o6, o7] ∧ Ex H H' ∧ H' Pt = some (.lst ys) ∧ DpAll K H' ys (toDs (kids t)) ∧ H' F = some (.lst fs') ∧
  fs'.length ≤ 1 + (((kids t).take i).map size).sum ∧ ∀ x ∈ fs', UnAt K H' t x
theorem c_unanswered (D : Dfn K mg "unanswered" (top 36) ["term", "answered"]) (T : Txt K mg) (C1 : Cal P w K mg base 1 "inside" (spIn K)) (C2 : Cal P w K mg base 1 "signals_in" (spSig K)) : ∀ n, Cal P w K mg base (n + 2) "unanswered" (spUn K n)
  | 0 => by
    refine D.cal (N := ["term", "answered", "found", "parts", "index", "part", "is_last", "more"]) (by decide +kernel) (fun vs H Q E h => ?_) fun f cdv A outer s H vs Q E hr nd h => ?_
    · obtain ⟨v, a, t, A, rfl, _⟩ := h
      rfl
    · obtain ⟨v, a, t, A, rfl, _, _, h, _⟩ := h
      have := dep_pos t
      omega
  | n + 1 => by
    have IH := c_unanswered D T C1 C2 n
    refine D.cal (N := ["term", "answered", "found", "parts", "index", "part", "is_last", "more"]) (by decide +kernel) (fun vs H Q E h => ?_) fun f cdv A0 outer s H vs Q E hr nd h => ?_
    · obtain ⟨v, a, t, A, rfl, _⟩ := h
      rfl
    obtain ⟨v, a, t, A, rfl, hd, hf, hdp, hn10, hsz, hA, hAl, q⟩ := h
    have hft : frm t := hf t (by rw [subs_eq]; exact List.mem_cons_self)
    obtain ⟨p, r, rfl, hs, hx⟩ := dp_hd hd
    refine ⟨_, pss_cons (ps_asg (pe_ifExp (pt_cmpR op_in_seq (p_ixT (K := K) (pv 0) pe_int) (pe_tup (pa_cons pe_str (pa_cons pe_str pa_nil))) rfl) (pe_lst (pa_cons (pe_tup (pa_cons (pv 0) (pa_cons (pv 1) pa_nil))) pa_nil)) (pe_lst pa_nil)) (pg_name (i := 2) nd rfl (Or.inl rfl)))
      (pss_cons (ps_asg (pe_c C1 hr (by omega) (pa_cons (pv 0) pa_nil)) (pg_name (i := 3) nd rfl (Or.inl rfl)))
      (pss_cons (ps_for PassesOwn.never rfl (pi_enum rfl T.enumerate (pa_cons (pv 3) pa_nil)) (pg_tup rfl (pgs_cons (pg_name (i := 4) nd rfl (Or.inl rfl)) (pgs_cons (pg_name (i := 5) nd rfl (Or.inl rfl)) pgs_nil)))
        (pss_cons (ps_asg (pe_and (pe_cmpR op_eq (p_ixT (K := K) (pv 0) pe_int) pe_str (nomark _)) (pe_one (pe_cmpR op_eq (pv 4) (pe_op op_sub (p_len T (pv 3)) pe_int) (nomark _)))) (pg_name (i := 6) nd rfl (Or.inl rfl)))
        (pss_cons (ps_asg (pe_ifExp (pt_val (pv 6)) (pe_c C2 hr (by omega) (pa_cons (pv 0) pa_nil)) (pe_lst pa_nil)) (pg_name (i := 7) nd rfl (Or.inl rfl)))
        (pss_one (ps_expr (p_ext K (pv 2) (pe_c IH hr (by omega) (pa_cons (pv 5) (pa_cons (pe_tup (p_star K (pv 1) (p_star K (pv 7) pa_nil))) pa_nil)))))))))
      (pss_one (ps_ret (pv 2))))), ?_⟩
    have loop : ∀ (F : Addr) (H1 : Hp) (fs : List V), H F = none → Ex H H1 → H1 F = some (.lst fs) → fs.length ≤ 1 → (∀ x ∈ fs, UnAt K H1 t x) →
        tSeq (tAsg (tCall (spIn K) [] E0 (tCons (tVar 0) tNil)) (gName 3)) (tSeq (tFor (iEnum K (tCons (tVar 3) tNil)) (gTup K 2 (gCons (gName 4) (gCons (gName 5) gNil))) (uL K n)) (tRet (tVar 2)))
          { nx := fun _ H' => Q .non H', rt := Q } [some (.ref p), some (.ref a), some (.ref F), none, none, none, none, none] H1 := fun F H1 fs hF ex1 hF1 hfl hfs => by
      walk_at "rds"
      refine ⟨.ref p, t, rfl, Dp.ex ex1 _ _ hd, hft, fun Pt H2 ys hPt e2 hl2 hys => ?_⟩
      have hFP : F ≠ Pt := fun z => by
        subst z
        rw [hF1] at hPt
        cases hPt
      have hyl : ys.length = (kids t).length := by rw [hys.len, toDs_len]
      have hklen : (kids t).length ≤ size t := by
        rw [size_eq]
        generalize kids t = ks
        induction ks with
        | nil => simp
        | cons a r ih => simp; have := size_pos a; omega
      walk_at "rds"
      refine r_iEnum ?_
      walk_at "rds"
      refine ⟨Pt, ys, rfl, SqL.of hl2, ?_⟩
      refine for_over (over_enum (xs := ys)) (UnP K t H p a F Pt ys) ⟨none, none, none, none, fs, rfl, ex1.trans e2, hl2, hys, e2 _ _ hF1, by simpa using hfl, fun x hx => UnAt.kx (Kx.of e2) (hfs x hx)⟩
        (fun i σ H ⟨_, _, _, _, _, _, _, h, _⟩ => SqL.of h) ?_ ?_
      · rintro i x σ H3 H4 hi ⟨o4, o5, o6, o7, fs', rfl, ex3, hp3, hy3, hF3, hl3, hun3⟩ e4 ⟨T, y, rfl, hT, hy⟩
        have ex4 := ex3.trans e4
        have hp4 := e4 _ _ hp3
        have hy4 := DpAll.ex e4 _ _ hy3
        have hF4 := e4 _ _ hF3
        have hun4 : ∀ x ∈ fs', UnAt K H4 t x := fun x hx => UnAt.kx (Kx.of e4) (hun3 x hx)
        obtain ⟨dk, h1, h2⟩ := hy4.at hy
        rw [toDs_map, List.getElem?_map] at h1
        cases hk : (kids t)[i]? with
        | none => rw [hk] at h1; cases h1
        | some k =>
          rw [hk] at h1
          cases h1
          have hkm := List.mem_of_getElem? hk
          have hil : i < (kids t).length := (List.getElem?_eq_some_iff.mp hk).1
          have htake : (kids t).take (i + 1) = (kids t).take i ++ [k] := by rw [List.take_add_one, hk]; rfl
          have hsum : (((kids t).take (i + 1)).map size).sum = (((kids t).take i).map size).sum + size k := by rw [htake, List.map_append, List.sum_append]; simp
          have hsz2 : (((kids t).take (i + 1)).map size).sum ≤ ((kids t).map size).sum := by
            conv => rhs; rw [← List.take_append_drop (i + 1) (kids t)]
            rw [List.map_append, List.sum_append]
            exact Nat.le_add_right _ _
          have hst := size_eq t
          refine r_gTup (SqT.of hT) rfl (r_gCons (r_name (r_gCons (r_name (r_gNil ?_)))))
          have cont2 : ∀ (B : L2.St → Hp → Prop) (Rt : VK) (M : Addr) (zs : List Str) (o6 : Option V) (H5 : Hp), Ex H4 H5 → H5 M = some (.lst (zs.map V.str)) → zs.length ≤ 1000 → uB K n { nx := UnP K t H p a F Pt ys (i + 1), ct := UnP K t H p a F Pt ys (i + 1), bk := B, rt := Rt } [some (.ref p), some (.ref a), some (.ref F), some (.ref Pt), some (.int (i : Nat)), some y, o6, some (.ref M)] H5 := fun B Rt M zs o6 H5 e5 hM hz => by
            show tDrop _ _ _ _
            walk_at "rds"
            refine ⟨ty_l (e5 _ _ hF4), ?_⟩
            walk_at "rds"
            refine ⟨a, _, rfl, .inl (ex_t (ex4.trans e5) hA), ?_⟩
            walk_at "rds"
            refine ⟨M, _, rfl, .inr (SqL.of hM), ?_⟩
            walk_at "rds"
            have hlm : (A.map V.str ++ (zs.map V.str ++ [])).length ≤ 100000 := by simp; omega
            refine ⟨Nat.le_of_lt (small hlm), fun pT hpT => ?_⟩
            walk_at "rds"
            have e6 : Ex H4 (upd H5 pT (.tup (A.map V.str ++ (zs.map V.str ++ [])))) := e5.trans (Ex.new hpT)
            have hdk := dep_kids hkm
            refine ⟨y, pT, k, A ++ zs, rfl, Dp.ex e6 _ _ h2, fun u hu => hf u (by rw [subs_eq]; exact List.mem_cons_of_mem _ (List.mem_flatMap.mpr ⟨k, hkm, hu⟩)), by omega, by omega, by omega, SqT.of (by rw [List.map_append]; have h := @upd_same H5 pT (.tup (A.map V.str ++ (zs.map V.str ++ []))); rw [List.append_nil] at h ⊢; exact h), by rw [List.length_append]; omega, fun l H7 gs hl e7 hl7 hgl hgs => ?_⟩
            walk_at "rds"
            have e8 := e6.trans e7
            refine ⟨F, l, fs', gs, rfl, rfl, e8 _ _ hF4, hl7, Nat.le_of_lt (small (by omega)), ?_⟩
            have kx : Kx H7 (upd H7 F (.lst (fs' ++ gs))) := Kx.upd (e8 _ _ hF4) rfl
            refine ⟨_, _, _, _, fs' ++ gs, rfl, Ex.mut (ex4.trans e8) hF, ?_, ?_, upd_same, by rw [List.length_append]; omega, fun x hx => ?_⟩
            · rw [upd_ne (fun z => hFP z.symm)]
              exact e8 _ _ hp4
            · exact DpAll.kx ((Kx.of e8).trans kx) _ _ hy4 (noL_toDs _)
            · rcases List.mem_append.mp hx with hx | hx
              · exact UnAt.kx ((Kx.of e8).trans kx) (hun4 x hx)
              · exact UnAt.up hkm (UnAt.kx kx (hgs x hx))
          have cont1 : ∀ (B : L2.St → Hp → Prop) (Rt : VK) (b : Bool), uM K n { nx := UnP K t H p a F Pt ys (i + 1), ct := UnP K t H p a F Pt ys (i + 1), bk := B, rt := Rt } [some (.ref p), some (.ref a), some (.ref F), some (.ref Pt), some (.int (i : Nat)), some y, some (.bl b), o7] H4 := fun B Rt b => by
            show tSeq _ _ _ _ _
            walk_at "rds"
            cases b with
            | true =>
              refine iteT ?_
              walk_at "rds"
              exact ⟨.ref p, t, rfl, Dp.ex ex4 _ _ hd, hft, fun M H5 hM e5 h5 => cont2 _ _ M (sgs t) _ H5 e5 h5 (sgs_len hft)⟩
            | false =>
              refine iteF ?_
              walk_at "rds"
              exact ⟨Nat.zero_le _, fun M hM => cont2 _ _ M [] _ _ (Ex.new hM) upd_same (Nat.zero_le _)⟩
          show tSeq _ _ _ _ _
          walk_at "rds"
          refine r_ixT (ex_t ex4 hs) r_at0 ?_
          walk_at "rds"
          by_cases e : hd1 t = "answer"
          · refine r_eq rfl (r_bl (r_yes (by rw [e]) ?_))
            walk_at "rds"
            refine r_lenL (SqL.of hp4) ?_
            walk_at "rds"
            refine r_eq rfl ?_
            exact cont1 _ _ _
          · refine r_eq rfl (r_bl (r_no (fun z => e (by injection z)) ?_))
            exact cont1 _ _ _
      · rintro σ H3 ⟨o4, o5, o6, o7, fs', rfl, ex3, hp3, hy3, hF3, hl3, hun3⟩
        walk_at "rds"
        refine q F H3 fs' hF ex3 hF3 ?_ hun3
        rw [List.take_of_length_le (by omega)] at hl3
        rw [size_eq]
        exact hl3
    walk_at "rds"
    refine r_ixT hs r_at0 ?_
    walk_at "rds"
    refine ⟨Nat.le_of_lt (small (by simp)), fun z hz => ?_⟩
    have hs2 := ex_t (Ex.new (o := .tup [V.str "raise", V.str "call"]) hz) hs
    have e2 : Ex H (upd H z (.tup [V.str "raise", V.str "call"])) := Ex.new hz
    refine r_inT (zs := ["raise", "call"]) (SqT.of upd_same) (r_bl ?_)
    generalize upd H z (.tup [V.str "raise", V.str "call"]) = H2 at *
    by_cases hc : hd1 t ∈ (["raise", "call"] : List Str)
    · refine r_yes hc ?_
      walk_at "rds"
      refine ⟨Nat.le_of_lt (small (by simp)), fun pT hpT => ?_⟩
      walk_at "rds"
      refine ⟨Nat.le_of_lt (small (by simp)), fun F hF => ?_⟩
      have e3 : Ex H2 (upd H2 pT (.tup [.ref p, .ref a])) := Ex.new hpT
      have e4 : Ex H2 (upd (upd H2 pT (.tup [.ref p, .ref a])) F (.lst [.ref pT])) := e3.trans (Ex.new hF)
      refine loop F _ [.ref pT] (ex_none e2 (ex_none e3 hF)) (e2.trans e4) upd_same (by simp) fun x hx => ?_
      rw [List.mem_singleton] at hx
      subst hx
      refine ⟨pT, t, a, .ref p, A, rfl, ex_t (Ex.new hF) (SqT.of upd_same), Dp.ex (e2.trans e4) _ _ hd, by rw [subs_eq]; exact List.mem_cons_self, ?_, ex_t (e2.trans e4) hA⟩
      rcases List.mem_cons.mp hc with h | h
      · obtain ⟨x, e⟩ := hd_run hft (.inr (.inr h))
        rw [h] at e
        exact .inl ⟨x, e⟩
      · exact .inr (hd_call hft (List.mem_singleton.mp h))
    · refine r_no hc ?_
      walk_at "rds"
      refine ⟨Nat.zero_le _, fun F hF => ?_⟩
      exact loop F _ [] (ex_none e2 hF) (e2.trans (Ex.new hF)) upd_same (Nat.zero_le _) fun x hx => by simp at hx
end
end K8
/-! free_of -/
namespace K8
open PySem PySem.Spec L2 Evl
open PyProof.Rows hiding St
/-- a dict comprehension, by an invariant -/
theorem dc_over {J : It} {n : Nat} {G : Hp → Prop} {Y : Nat → V → Hp → Prop} {g : TG} {tt : TT} {tk tv : TE} {vs : List Nat} {σ : L2.St} {H1 : Hp} {D : Addr} {Qd : Hp → Prop} (O : Over J n G Y) (Pv : Nat → Hp → Prop) (h0 : Pv 0 (upd H1 D (.dK []))) (hG : ∀ i H, Pv i H → G H)
    (hs : ∀ i x H H', i < n → Pv i H → Ex H H' → Y i x H' → g x (wipe σ vs) H' fun σ2 H2 => wipe σ2 vs = wipe σ vs ∧ tt σ2 H2 fun b H3 =>
      if b = true then tk σ2 H3 fun y H4 => tv σ2 H4 fun z H5 => ∃ (kvs : List (Key × V)) (k : Key), y = kV k ∧ H5 D = some (.dK kvs) ∧ kvs.length < sizeLine ∧ Pv (i + 1) (upd H5 D (.dK (putK kvs k z))) else Pv (i + 1) H3) (hd : ∀ H, Pv n H → Qd H) :
    ∃ W : Nat → Nat → Hp → Prop, (∃ m, W 0 m (upd H1 D (.dK []))) ∧ ∀ i m H, W i m H →
      (J.stop i H ∧ Qd H) ∨ (J.go i H ∧ ∃ Nx : Hp → Prop, (∀ H', Nx H' → ∃ m', m' < m ∧ W (i + 1) m' H') ∧ ∀ x H', J.yld i H x H' → g x (wipe σ vs) H' fun σ2 H2 => wipe σ2 vs = wipe σ vs ∧ tt σ2 H2 fun b H3 =>
        if b = true then tk σ2 H3 fun y H4 => tv σ2 H4 fun z H5 => ∃ (kvs : List (Key × V)) (k : Key), y = kV k ∧ H5 D = some (.dK kvs) ∧ kvs.length < sizeLine ∧ Nx (upd H5 D (.dK (putK kvs k z))) else Nx H3) := by
  refine ⟨fun i m H => m = n - i ∧ i ≤ n ∧ Pv i H, ⟨n, by simp, Nat.zero_le _, h0⟩, ?_⟩
  rintro i m H ⟨rfl, hi, p⟩
  by_cases hlt : i < n
  · refine .inr ⟨O.go i H (hG i H p) hlt, Pv (i + 1), fun H' p' => ⟨n - (i + 1), by omega, rfl, hlt, p'⟩, fun x H' y => ?_⟩
    obtain ⟨e, y'⟩ := O.yld i H x H' (hG i H p) hlt y
    exact hs i x H H' hlt p e y'
  · have e : i = n := by omega
    subst e
    exact .inl ⟨O.stop i H (hG i H p) (Nat.le_refl _), hd H p⟩
/-- name = {k: v for ..} on one line, the name a local -/
theorem ps_setDc {X : Cx} {i : Nat} {y : Str} {py : Pos} {kx vx tg iter : Expr} {ifs : List Expr} {scope : Scope} {own : List (Str × Nat)} {pos spos : Pos} {wi : TI} {g : TG} {tt : TT} {tk tv : TE} (hc : X.calm = true) (hN : X.N.Nodup) (hy : X.N[i]? = some y) (hyl : X.env.scope.names.lookup y = some .local)
    (hsw : swapsWith (.DictComp kx vx [⟨tg, iter, ifs, 0⟩] scope pos) (some (.Name y py)) spos.line X.env = pure true) (hi : PI X tg iter wi) (ok : BlkOk X.N X.env.scope scope own)
    (hg : ∀ (s : Shared) (H : Hp) (C : Addr) (cl : List (Str × Addr)) (fp : List Addr), PG (X.blk s H scope (compEnvC scope cl C X.env) fp) tg g) (ht : ∀ (s : Shared) (H : Hp) (C : Addr) (cl : List (Str × Addr)) (fp : List Addr), PTs (X.blk s H scope (compEnvC scope cl C X.env) fp) ifs tt)
    (hk : ∀ (s : Shared) (H : Hp) (C : Addr) (cl : List (Str × Addr)) (fp : List Addr), PE (X.blk s H scope (compEnvC scope cl C X.env) fp) kx tk)
    (he : ∀ (s : Shared) (H : Hp) (C : Addr) (cl : List (Str × Addr)) (fp : List Addr), PE (X.blk s H scope (compEnvC scope cl C X.env) fp) vx tv) (hs : ∀ x, foldedSetIterable iter X.env x = pure x := by intro _; rfl) :
    PS X (.Assign [.Name y py] (.DictComp kx vx [⟨tg, iter, ifs, 0⟩] scope pos) spos) (tAsg (tDc wi g tt tk tv (own.map (·.2))) (gName i)) := by
  refine ⟨fun pins s σ H D I h => ?_⟩
  rw [exec_Assign_Name_used _ _ _ _ hsw]
  refine wpAny_bind (wpAny_standAt (wpAny_bind ?_))
  show wpAny _ X.A (do let _ ← comprehension (.DictComp kx vx [⟨tg, iter, ifs, 0⟩] scope pos) scope X.env (firstIterPos [⟨tg, iter, ifs, 0⟩] pos) newDict false (eval iter X.env) (some (assign (.Name y py) X.env))) _ _ s
  have h : tDc wi g tt tk tv (own.map (·.2)) σ H (fun x H1 => gName i x σ H1 D.nx) := h
  refine wpAny_bind (thn (dc_core (Qf := fun _ s' => SP X pins D .next s') hc hN I hi ok hg ht hk he hs h fun L C s' m H' I' q hn f => ?_) fun _ s' hq => wpAny_pure (wpAny_pure hq))
  show wpAny _ _ (assign (.Name y py) X.env (.ref L)) _ _ _
  refine wpAny_assign_Name (store_ok2 (v := V.ref L) I' hN hy (.inl hyl) rfl (fun s2 I2 ⟨a, sb, ha⟩ => ?_) (.inr hyl))
  obtain ⟨f0, f1, f2, f3, f4, f5⟩ := f
  have haC : C ≠ a := by
    rcases ha with z | z
    · rw [z]; exact f1
    · exact fun e => f4 y a z e.symm
  refine ⟨m, hn.sameBut sb haC, fun h3 sb3 => ?_⟩
  exact ⟨_, H', I2.turned (t' := s2.toks) (fun b o hb e => (sb3.2 b hb).trans e) f0 f1 f3 f4 f5, q⟩
theorem p_iT {X : Cx} {tg e : Expr} {te : TE} (K : PySem.W.Frag) (he : PE X e te) (hK : X.K = K := by rfl) : PI X tg e (iTup K te) := by
  subst hK
  exact pi_tup he
theorem p_iL {X : Cx} {tg e : Expr} {te : TE} (K : PySem.W.Frag) (he : PE X e te) (hK : X.K = K := by rfl) : PI X tg e (iList K te) := by
  subst hK
  exact pi_list he
theorem over_keys {d : Addr} {o : Obj} {kvs : List (Key × V)} : Over (Itk d o kvs) kvs.length (fun H => H d = some (.frz o (.dK kvs))) (fun i x _ => ∃ k v, kvs[i]? = some (k, v) ∧ x = kV k) :=
  ⟨fun _ _ h hi => ⟨h, hi⟩, fun _ _ h hi => ⟨h, hi⟩, fun _ _ _ _ _ _ ⟨e, y⟩ => by subst e; exact ⟨Ex.refl _, y⟩⟩
theorem over_items {d : Addr} {o : Obj} {kvs : List (Key × V)} : Over (Iti d o kvs) kvs.length (fun H => H d = some (.frz o (.dK kvs))) (fun i x H' => ∃ T k v, x = .ref T ∧ H' T = some (.tup [kV k, v]) ∧ kvs[i]? = some (k, v)) :=
  ⟨fun _ _ h hi => ⟨h, hi⟩, fun _ _ h hi => ⟨h, hi⟩, fun _ _ _ _ _ _ ⟨T, k, v, e1, e2, e3, e4⟩ => by subst e4; exact ⟨Ex.new e3, T, k, v, e2, upd_same, e1⟩⟩
/-! ### the heap without one object -/
def era (H : Hp) (d : Addr) : Hp := fun a => if a = d then none else H a
theorem era_none {H : Hp} {d : Addr} : era H d d = none := if_pos rfl
theorem era_ne {H : Hp} {a d : Addr} (h : a ≠ d) : era H d a = H a := if_neg h
theorem era_le {H : Hp} {d : Addr} : Ex (era H d) H := fun a o h => by
  by_cases e : a = d
  · subst e; rw [era_none] at h; cases h
  · rw [era_ne e] at h; exact h
theorem era_ex {G H : Hp} {d : Addr} (e : Ex G H) (h : G d = none) : Ex G (era H d) := fun a o ha => by
  have ne : a ≠ d := fun z => by subst z; rw [h] at ha; cases ha
  rw [era_ne ne]
  exact e a o ha
theorem era_kx {H : Hp} {d : Addr} {o : HO} (h : H d = some o) (s : stays o = false) : Kx H (era H d) := fun a u ha hs => by
  have ne : a ≠ d := fun z => by
    subst z
    rw [h] at ha
    cases ha
    rw [s] at hs
    cases hs
  rw [era_ne ne]
  exact ha
section
variable {P : Program} {w : World} {K : PySem.W.Frag} {mg : Str → Option Value} {base : Heap} {C : Addr}
theorem val_nodup {kvs : List (Key × V)} (nd : (kvs.map (·.1)).Nodup) : ∀ {j : Nat} {k : Key} {v : V}, kvs[j]? = some (k, v) → valV kvs k = some v := by
  induction kvs with
  | nil => intro j k v h; simp at h
  | cons p r ih =>
    intro j k v h
    rw [List.map_cons] at nd
    obtain ⟨n1, n2⟩ := List.nodup_cons.mp nd
    cases j with
    | zero =>
      cases (show some p = some (k, v) from h)
      exact valV_pos rfl
    | succ j =>
      have h' : r[j]? = some (k, v) := h
      rw [valV_neg]
      · exact ih n2 h'
      · intro e
        exact n1 (by rw [e]; exact List.mem_map.mpr ⟨(k, v), List.mem_of_getElem? h', rfl⟩)
theorem val_none {kvs : List (Key × V)} {k : Key} (h : k ∉ kvs.map (·.1)) : valV kvs k = none := by
  induction kvs with
  | nil => rfl
  | cons p r ih =>
    rw [List.map_cons, List.mem_cons] at h
    rw [valV_neg (fun e => h (.inl e.symm))]
    exact ih fun z => h (.inr z)
theorem putK_old {kvs : List (Key × V)} {k : Key} {v u : V} (h : valV kvs k = some u) : (putK kvs k v).length = kvs.length := by
  unfold putK
  rw [valV_any, h]
  simp
def keyR (r : Rw) : Key := Sum.inr r.name
def UnI (K : PySem.W.Frag) (G : Hp) (x : V) (it : FIt) : Prop := ∃ (c b pw : Addr) (hd : Str) (r : List V), x = .ref c ∧ SqT K G c [.ref pw, .ref b] ∧ SqT K G pw (.str hd :: .str it.1.2 :: r) ∧ ((hd = "raise" ∧ it.1.1 = true) ∨ (hd ≠ "raise" ∧ it.1.1 = false)) ∧ SqT K G b (it.2.map V.str)
theorem pw_choose {α : Type} {R : V → α → Prop} : ∀ {xs : List V}, (∀ x ∈ xs, ∃ g, R x g) → ∃ gs, Pw R xs gs
  | [], _ => ⟨[], Pw.nil⟩
  | x :: xs, h => by
    obtain ⟨g, hg⟩ := h x List.mem_cons_self
    obtain ⟨gs, hgs⟩ := pw_choose fun y hy => h y (List.mem_cons_of_mem _ hy)
    exact ⟨[g] ++ gs, (Pw.one hg).app hgs⟩
theorem heads_mem {n : Str} {k : Nat} : ∀ {rows : List Rw}, (headsR rows).lookup n = some k → n ∈ rows.map (·.name)
  | [], h => by simp [headsR] at h
  | r :: rows, h => by
    have eh : headsR (r :: rows) = (r.name, r.own.length) :: headsR rows := rfl
    rw [eh, List.lookup_cons] at h
    by_cases e : n = r.name
    · rw [e]; exact List.mem_cons_self
    · rw [show (n == r.name) = false from beq_eq_false_iff_ne.mpr e] at h
      exact List.mem_cons_of_mem _ (heads_mem h)
theorem unI_of {G : Hp} {x : V} {c : Cfg} {rows : List Rw} {r : Rw} (hm1 : 1 ≤ c.modes) (hm3 : c.modes ≤ 3) (hh : c.heads = headsR rows) (ok : OkRw c r) (h : UnAt K G r.body x) :
    ∃ it : FIt, UnI K G x it ∧ (it.1.1 = true → it.1.2 ∈ c.sigs) ∧ (it.1.1 = false → it.1.2 ∈ rows.map (·.name)) := by
  obtain ⟨cc, u, b, w, A, rfl, h2, h3, h4, h5, h6⟩ := h
  obtain ⟨L', o⟩ := wf_subs hm1 hm3 _ (Nat.le_refl _) ok.bd.wf u h4
  rcases h5 with ⟨n, rfl⟩ | ⟨n, ts, rfl⟩
  · obtain ⟨a, rfl, hs⟩ := dp_nam h3
    refine ⟨((true, n), A), ⟨cc, b, a, "raise", [], rfl, h2, hs, .inl ⟨rfl, rfl⟩, h6⟩, fun _ => ?_, fun z => by cases z⟩
    rcases o.2 with ⟨e, _⟩ | ⟨e, _⟩ | ⟨_, e⟩
    · exact absurd e (by decide +kernel)
    · exact absurd e (by decide +kernel)
    · exact e
  · obtain ⟨a, zs, rfl, hs, _⟩ := dp_cal h3
    refine ⟨((false, n), A), ⟨cc, b, a, "call", zs, rfl, h2, hs, .inr ⟨by decide +kernel, rfl⟩, h6⟩, fun z => (by cases z), fun _ => ?_⟩
    have o2 := o.2
    rw [hh] at o2
    exact heads_mem o2
theorem UnI.kx {H H' : Hp} {x : V} {it : FIt} (e : Kx H H') (h : UnI K H x it) : UnI K H' x it := by
  obtain ⟨c, b, pw, hd, r, h1, h2, h3, h4, h5⟩ := h
  exact ⟨c, b, pw, hd, r, h1, kx_t e h2, kx_t e h3, h4, kx_t e h5⟩
/-- the free signals by name -/
def FreeD (K : PySem.W.Frag) (H : Hp) (d2 : Addr) (names : List Str) (fr : Str → List Str) : Prop := ∃ kvs : List (Key × V), H d2 = some (.dK kvs) ∧ kvs.length ≤ 10 ∧ ∀ n ∈ names, ∃ p, valV kvs (Sum.inr n : Key) = some (.ref p) ∧ SqT K H p ((fr n).map V.str)
theorem FreeD.kx {H H' : Hp} {d2 : Addr} {names : List Str} {fr : Str → List Str} (e : Kx H H') (e2 : ∀ o, H d2 = some o → H' d2 = some o) (h : FreeD K H d2 names fr) : FreeD K H' d2 names fr := by
  obtain ⟨kvs, h1, h2, h3⟩ := h
  refine ⟨kvs, e2 _ h1, h2, fun n hn => ?_⟩
  obtain ⟨p, h4, h5⟩ := h3 n hn
  exact ⟨p, h4, kx_t e h5⟩
/-- an asked pair: signals, those answered -/
def AskAt (K : PySem.W.Frag) (H : Hp) (y : V) (p : List Str × List Str) : Prop := ∃ c b1 b2, y = .ref c ∧ SqT K H c [.ref b1, .ref b2] ∧ SqT K H b1 (p.1.map V.str) ∧ SqT K H b2 (p.2.map V.str)
theorem AskAt.kx {H H' : Hp} {y : V} {p : List Str × List Str} (e : Kx H H') (h : AskAt K H y p) : AskAt K H' y p := by
  obtain ⟨c, b1, b2, h1, h2, h3, h4⟩ := h
  exact ⟨c, b1, b2, h1, kx_t e h2, kx_t e h3, kx_t e h4⟩
def AskM (asks : List (List Str × List Str)) (k : Str) : Prop := ∃ p ∈ asks, k ∈ p.1 ∧ k ∉ p.2
theorem r_sc2 {w : World} {wi : TI} {g : TG} {tt : TT} {wi1 : TI} {g1 : TG} {tt1 : TT} {te : TE} {vs vs1 : List Nat} {σ : L2.St} {H : Hp} {Q : VK} (q : wi σ H fun J H1 => ∀ D, H1 D = none → ∃ W : Nat → Nat → Hp → Prop, (∃ m, W 0 m (upd H1 D (SetTO w D (fun _ => false) 0))) ∧ ∀ i m H, W i m H →
  (J.stop i H ∧ Q (.ref D) H) ∨ (J.go i H ∧ ∃ Nx : Hp → Prop, (∀ H', Nx H' → ∃ m', m' < m ∧ W (i + 1) m' H') ∧ ∀ x H', J.yld i H x H' → g x (wipe σ vs) H' fun σ2 H2 => wipe σ2 vs = wipe σ vs ∧ tt σ2 H2 fun b H3 =>
    if b = true then wi1 σ2 H3 fun J1 H4 => ∃ W1 : Nat → Nat → Hp → Prop, (∃ m, W1 0 m H4) ∧ ∀ j k H, W1 j k H →
      (J1.stop j H ∧ Nx H) ∨ (J1.go j H ∧ ∃ Nx1 : Hp → Prop, (∀ H', Nx1 H' → ∃ k', k' < k ∧ W1 (j + 1) k' H') ∧ ∀ x H', J1.yld j H x H' → g1 x (wipe σ2 vs1) H' fun σ3 H5 => wipe σ3 vs1 = wipe σ2 vs1 ∧ tt1 σ3 H5 fun b H6 =>
        if b = true then te σ3 H6 fun y H7 => ∃ (c : Str) (S : Str → Bool) (n : Nat), y = .str c ∧ H7 D = some (SetTO w D S n) ∧ n + 1 < scanBound ∧ Nx1 (upd H7 D (SetTO w D (fun j => S j || decide (j = c)) (if S c = true then n else n + 1))) else Nx1 H6)
    else Nx H3)) : tSc2 w wi g tt wi1 g1 tt1 te vs vs1 σ H Q := q
theorem r_notinT {H : Hp} {z : Str} {a : Addr} {zs : List Str} {Q : VK} (h : SqT K H a (zs.map V.str)) (q : Q (.bl (!decide (z ∈ zs))) H) : rIn K true (.str z) (.ref a) H Q :=
  ⟨a, _, rfl, .inr h, rfl, flat_strs zs, by rw [inV_strs]; exact q⟩
theorem r_tyes {σ : L2.St} {H : Hp} {Q : Bool → Hp → Prop} (q : Q true H) : tYes σ H Q := q
theorem r_dc {wi : TI} {g : TG} {tt : TT} {tk tv : TE} {vs : List Nat} {σ : L2.St} {H : Hp} {Q : VK} (q : wi σ H fun J H1 => ∀ D, H1 D = none → ∃ W : Nat → Nat → Hp → Prop, (∃ m, W 0 m (upd H1 D (.dK []))) ∧ ∀ i m H, W i m H →
  (J.stop i H ∧ Q (.ref D) H) ∨ (J.go i H ∧ ∃ Nx : Hp → Prop, (∀ H', Nx H' → ∃ m', m' < m ∧ W (i + 1) m' H') ∧ ∀ x H', J.yld i H x H' → g x (wipe σ vs) H' fun σ2 H2 => wipe σ2 vs = wipe σ vs ∧ tt σ2 H2 fun b H3 =>
    if b = true then tk σ2 H3 fun y H4 => tv σ2 H4 fun z H5 => ∃ kvs k, y = kV k ∧ H5 D = some (.dK kvs) ∧ kvs.length < sizeLine ∧ Nx (upd H5 D (.dK (putK kvs k z))) else Nx H3)) : tDc wi g tt tk tv vs σ H Q := q
theorem r_lockE {t : TE} {σ : L2.St} {H : Hp} {Q : VK} (q : ∃ d u, H d = some u ∧ Mut (some u) ∧ ∀ od, t σ (upd H d (.frz od u)) fun v H' => H' d = some (.frz od u) ∧ Q v (upd H' d u)) : tLockE t σ H Q := q
theorem r_lock {t : TS} {D : Ends} {σ : L2.St} {H : Hp} (q : ∃ d u, H d = some u ∧ Mut (some u) ∧ ∀ od, t ⟨fun σ' H' => H' d = some (.frz od u) ∧ D.nx σ' (upd H' d u), fun v H' => H' d = some (.frz od u) ∧ D.rt v (upd H' d u), fun σ' H' => H' d = some (.frz od u) ∧ D.bk σ' (upd H' d u), fun σ' H' => H' d = some (.frz od u) ∧ D.ct σ' (upd H' d u)⟩ σ (upd H d (.frz od u))) : tLock t D σ H := q
theorem r_keys {td : TE} {σ : L2.St} {H : Hp} {R : It → Hp → Prop} (q : td σ H fun x H1 => ∃ d o, x = .ref d ∧ ((∃ kvs, H1 d = some (.frz o (.dK kvs)) ∧ R (Itk d o kvs) H1) ∨ ∃ kvs, H1 d = some (.frz o (.dT kvs)) ∧ R (Itkt d o kvs) H1)) : iKeys td σ H R := q
theorem r_items {td : TE} {σ : L2.St} {H : Hp} {R : It → Hp → Prop} (q : td σ H fun x H1 => ∃ d o kvs, x = .ref d ∧ H1 d = some (.frz o (.dK kvs)) ∧ R (Iti d o kvs) H1) : iItems td σ H R := q
theorem r_dget {td ty : TE} {σ : L2.St} {H : Hp} {Q : VK} (q : td σ H fun x H1 => ty σ H1 fun y H2 => ∃ a v, x = .ref a ∧ DGet H2 a y (some v) ∧ Q v H2) : tDGet td ty σ H Q := q
theorem r_dput {td ty tv : TE} {D : Ends} {σ : L2.St} {H : Hp} (q : tv σ H fun v H1 => td σ H1 fun x H2 => ty σ H2 fun y H3 => ∃ a H4, x = .ref a ∧ DPut H3 a y v H4 ∧ D.nx σ H4) : sDPut td ty tv D σ H := q
theorem AskM.take {asks : List (List Str × List Str)} {i : Nat} {zs A : List Str} (h : asks[i]? = some (zs, A)) (k : Str) : AskM (asks.take (i + 1)) k ↔ (AskM (asks.take i) k ∨ (k ∈ zs ∧ k ∉ A)) := by
  have e : asks.take (i + 1) = asks.take i ++ [(zs, A)] := by rw [List.take_add_one, h]; rfl
  unfold AskM
  rw [e]
  constructor
  · rintro ⟨p, hp, h1⟩
    rcases List.mem_append.mp hp with hp | hp
    · exact .inl ⟨p, hp, h1⟩
    · rw [List.mem_singleton] at hp
      subst hp
      exact .inr h1
  · rintro (⟨p, hp, h1⟩ | h1)
    · exact ⟨p, List.mem_append_left _ hp, h1⟩
    · exact ⟨_, List.mem_append_right _ (List.mem_singleton.mpr rfl), h1⟩
theorem askM_sub {asks : List (List Str × List Str)} {i : Nat} {k : Str} (h : AskM (asks.take i) k) : AskM asks k := by
  obtain ⟨p, hp, h1⟩ := h
  exact ⟨p, List.mem_of_mem_take hp, h1⟩
theorem sc2_ask {a0 a1 a2 a3 a4 a5 a7 : Option V} {sg : List Str} {asks : List (List Str × List Str)} {ys : List V} {L : Addr} {H1 : Hp} {Q : VK} (hL : H1 L = some (.lst ys)) (hp : Pw (AskAt K H1) ys asks) (hsg : ∀ k, AskM asks k → k ∈ sg) (hl : sg.length ≤ 2)
    (q : ∀ (D : Addr) (H' : Hp) (seen : List Str), H1 D = none → Ex H1 H' → H' D = some (SetTO w D (fun k => decide (k ∈ seen)) seen.length) → seen.Nodup → (∀ k, k ∈ seen ↔ AskM asks k) → Q (.ref D) H') :
    tSc2 w (iList K (tVar 6)) (gTup K 2 (gCons (gName 11) (gCons (gName 10) gNil))) tYes (iTup K (tVar 11)) (gName 8) (tTest (tOp (rIn K true) (tVar 8) (tVar 10))) (tVar 8) [11, 10, 8] [8] [a0, a1, a2, a3, a4, a5, some (.ref L), a7, none, none, none, none] H1 Q := by
  refine r_sc2 ?_
  walk_at "rds"
  refine ⟨L, rfl, ⟨_, SqL.of hL⟩, fun D hD => ?_⟩
  have O := over_list (K := K) (a := L) (xs := ys)
  have small2 : ∀ {seen : List Str}, seen.Nodup → (∀ k ∈ seen, AskM asks k) → seen.length ≤ 2 := fun nd h => Nat.le_trans (sub_len nd fun k hk => hsg k (h k hk)) hl
  refine ⟨fun i m H => m = ys.length - i ∧ i ≤ ys.length ∧ ∃ seen : List Str, Ex H1 H ∧ H D = some (SetTO w D (fun k => decide (k ∈ seen)) seen.length) ∧ seen.Nodup ∧ ∀ k, k ∈ seen ↔ AskM (asks.take i) k, ⟨_, rfl, Nat.zero_le _, [], Ex.new hD, upd_same, List.nodup_nil, fun k => ⟨fun h => by simp at h, fun ⟨p, hp, _⟩ => by simp at hp⟩⟩, ?_⟩
  rintro i m H ⟨rfl, hi, seen, ex, hs, nd, hm⟩
  by_cases hlt : i < ys.length
  · refine .inr ⟨O.go i H (SqL.of (ex _ _ hL)) hlt, fun H' => ∃ seen : List Str, Ex H1 H' ∧ H' D = some (SetTO w D (fun k => decide (k ∈ seen)) seen.length) ∧ seen.Nodup ∧ ∀ k, k ∈ seen ↔ AskM (asks.take (i + 1)) k, fun H' p' => ⟨ys.length - (i + 1), by omega, rfl, hlt, p'⟩, fun x H' y => ?_⟩
    obtain ⟨e, y'⟩ := O.yld i H x H' (SqL.of (ex _ _ hL)) hlt y
    obtain ⟨⟨zs, A⟩, hg, c, b1, b2, rfl, hc, hb1, hb2⟩ := hp.2 i x y'
    have ex' := ex.trans e
    refine r_gTup (ex_t ex' hc) rfl (r_gCons (r_name (r_gCons (r_name (r_gNil ⟨rfl, ?_⟩)))))
    refine r_tyes (iteT ?_)
    walk_at "rds"
    refine ⟨b1, rfl, ⟨_, ex_t ex' hb1⟩, ?_⟩
    have O2 := over_tup (K := K) (a := b1) (xs := zs.map V.str)
    refine ⟨fun j m H => m = (zs.map V.str).length - j ∧ j ≤ (zs.map V.str).length ∧ ∃ seen : List Str, Ex H1 H ∧ H D = some (SetTO w D (fun k => decide (k ∈ seen)) seen.length) ∧ seen.Nodup ∧ ∀ k, k ∈ seen ↔ (AskM (asks.take i) k ∨ (k ∈ zs.take j ∧ k ∉ A)), ⟨_, rfl, Nat.zero_le _, seen, ex', e _ _ hs, nd, fun k => by rw [hm k]; simp⟩, ?_⟩
    rintro j m H2 ⟨rfl, hj, seen2, ex2, hs2, nd2, hm2⟩
    by_cases hjl : j < (zs.map V.str).length
    · refine .inr ⟨O2.go j H2 (ex_t ex2 hb1) hjl, fun H' => ∃ seen : List Str, Ex H1 H' ∧ H' D = some (SetTO w D (fun k => decide (k ∈ seen)) seen.length) ∧ seen.Nodup ∧ ∀ k, k ∈ seen ↔ (AskM (asks.take i) k ∨ (k ∈ zs.take (j + 1) ∧ k ∉ A)), fun H' p' => ⟨(zs.map V.str).length - (j + 1), by omega, rfl, hjl, p'⟩, fun x H3 y => ?_⟩
      obtain ⟨e3, y3⟩ := O2.yld j H2 x H3 (ex_t ex2 hb1) hjl y
      obtain ⟨z, hz, rfl⟩ := str_at y3
      have ex3 := ex2.trans e3
      have hs3 := e3 _ _ hs2
      have htk : ∀ k, k ∈ zs.take (j + 1) ↔ (k ∈ zs.take j ∨ k = z) := fun k => by rw [List.take_add_one, hz]; simp
      refine r_name ⟨rfl, ?_⟩
      walk_at "rds"
      refine r_notinT (ex_t ex3 hb2) (r_bl ?_)
      by_cases hza : z ∈ A
      · refine r_nyes hza ?_
        refine ⟨seen2, ex3, hs3, nd2, fun k => ?_⟩
        rw [hm2 k, htk k]
        constructor
        · rintro (h | ⟨h, h'⟩)
          · exact .inl h
          · exact .inr ⟨.inl h, h'⟩
        · rintro (h | ⟨h | h, h'⟩)
          · exact .inl h
          · exact .inr ⟨h, h'⟩
          · exact absurd (by rw [h]; exact hza) h'
      · refine r_nno hza ?_
        walk_at "rds"
        have hall : ∀ k ∈ seen2, AskM asks k := fun k hk => by
          rcases (hm2 k).mp hk with h | ⟨h, h'⟩
          · exact askM_sub h
          · exact ⟨_, List.mem_of_getElem? hg, List.mem_of_mem_take h, h'⟩
        refine ⟨z, _, _, rfl, hs3, ?_, ?_⟩
        · have := small2 nd2 hall
          exact Nat.lt_of_le_of_lt (show seen2.length + 1 ≤ 3 by omega) (by decide)
        by_cases hzs : z ∈ seen2
        · refine ⟨seen2, Ex.mut ex3 hD, ?_, nd2, fun k => ?_⟩
          · rw [upd_same, decide_eq_true hzs]
            have : (fun j => decide (j ∈ seen2) || decide (j = z)) = fun j => decide (j ∈ seen2) := funext fun j => by
              by_cases e : j = z
              · subst e; simp [hzs]
              · simp [e]
            rw [this]
            rfl
          · rw [hm2 k, htk k]
            constructor
            · rintro (h | ⟨h, h'⟩)
              · exact .inl h
              · exact .inr ⟨.inl h, h'⟩
            · rintro (h | ⟨h | h, h'⟩)
              · exact .inl h
              · exact .inr ⟨h, h'⟩
              · rw [h]
                exact (hm2 z).mp hzs
        · refine ⟨z :: seen2, Ex.mut ex3 hD, ?_, List.nodup_cons.mpr ⟨hzs, nd2⟩, fun k => ?_⟩
          · rw [upd_same, decide_eq_false hzs]
            have : (fun j => decide (j ∈ seen2) || decide (j = z)) = fun j => decide (j ∈ z :: seen2) := funext fun j => by
              rw [← Bool.decide_or]
              exact decide_eq_decide.mpr (by rw [List.mem_cons]; exact Or.comm)
            rw [this]
            rfl
          · rw [List.mem_cons, hm2 k, htk k]
            constructor
            · rintro (h | h | ⟨h, h'⟩)
              · exact .inr ⟨.inr h, by rw [h]; exact hza⟩
              · exact .inl h
              · exact .inr ⟨.inl h, h'⟩
            · rintro (h | ⟨h | h, h'⟩)
              · exact .inr (.inl h)
              · exact .inr (.inr ⟨h, h'⟩)
              · exact .inl h
    · have ej : j = (zs.map V.str).length := by omega
      subst ej
      refine .inl ⟨O2.stop _ H2 (ex_t ex2 hb1) (Nat.le_refl _), seen2, ex2, hs2, nd2, fun k => ?_⟩
      rw [hm2 k, AskM.take hg k, List.length_map, List.take_length]
  · have e : i = ys.length := by omega
    subst e
    refine .inl ⟨O.stop _ H (SqL.of (ex _ _ hL)) (Nat.le_refl _), q D H seen hD ex hs nd fun k => ?_⟩
    rw [hm k, List.take_of_length_le (by rw [hp.1]; exact Nat.le_refl _)]
def spFree (K : PySem.W.Frag) (C : Addr) : Sp := fun vs H Q _ => ∃ (pr : Addr) (xs : List V) (rows : List Rw) (c : Cfg), vs = [.ref pr] ∧ SqT K H pr xs ∧ Pw (fun x r => ∃ l, PrAtL K C H x r l) xs rows ∧ (∀ r ∈ rows, OkRw c r) ∧ 1 ≤ c.modes ∧ c.modes ≤ 3 ∧ c.heads = headsR rows ∧
  (rows.map (·.name)).Nodup ∧ c.sigs.Nodup ∧ c.sigs.length ≤ 2 ∧ (∀ s ∈ c.sigs, isNm s = true) ∧ rows.length ≤ 10 ∧ ∀ d H', Ex H H' → Q (.ref d) H'
theorem c_free_of (D : Dfn K mg "free_of" (top 37) ["procedures"]) (T : Txt K mg) (O : PrC K mg C) (C1 : Cal P w K mg base 8 "unanswered" (spUn K 6)) : Cal P w K mg base 9 "free_of" (spFree K C) := by
  refine D.cal (N := ["procedures", "places", "name", "free", "is_growing", "rows", "asked", "now", "one", "term", "answered", "signals"]) (by decide +kernel) (fun vs H Q E h => ?_) fun f cdv A outer s H vs Q E hr nd h => ?_
  · obtain ⟨pr, xs, rows, c, rfl, _⟩ := h
    rfl
  obtain ⟨pr, xs, rows, c, rfl, hpr, hpw, hok, hm1, hm3, hh, hnd, hsn, hsl, hsm, hrl, q⟩ := h
  refine ⟨_, pss_cons (ps_setDc (i := 1) (own := [("one", 8)]) (g := gName 8) (tt := tYes) rfl nd rfl rfl rfl (pi_tup (pv 0)) (blkOk_by (N := ["procedures", "places", "name", "free", "is_growing", "rows", "asked", "now", "one", "term", "answered", "signals"]) (sc := defScope (top 37)) (by decide +kernel)) (fun _ _ _ _ _ => pg_name (i := 8) nd rfl (Or.inl rfl)) (fun _ _ _ _ _ => pts_nil)
      (fun _ _ _ _ _ => p_fld K (pv 8)) (fun _ _ _ _ _ => pe_c C1 hr (by decide) (pa_cons (p_fld K (pv 8)) (pa_cons (pe_tup pa_nil) pa_nil))))
    (pss_cons (ps_asg (pe_lock (pe_dc (own := [("name", 2)]) (g := gName 2) (tt := tYes) rfl nd (pi_keys (pv 1)) (blkOk_by (N := ["procedures", "places", "name", "free", "is_growing", "rows", "asked", "now", "one", "term", "answered", "signals"]) (sc := defScope (top 37)) (by decide +kernel)) (fun _ _ _ _ _ => pg_name (i := 2) nd rfl (Or.inl rfl)) (fun _ _ _ _ _ => pts_nil)
      (fun _ _ _ _ _ => pv 2) (fun _ _ _ _ _ => pe_tup pa_nil))) (pg_name (i := 3) nd rfl (Or.inr rfl)))
    (pss_cons (ps_asg pe_bl (pg_name (i := 4) nd rfl (Or.inl rfl)))
    (pss_cons (ps_while PassesOwn.never (pt_val (pv 4))
      (pss_cons (ps_asg pe_bl (pg_name (i := 4) nd rfl (Or.inl rfl)))
      (pss_one (ps_lock (ps_for PassesOwn.never rfl (pi_items (pv 1)) (pg_tup rfl (pgs_cons (pg_name (i := 2) nd rfl (Or.inl rfl)) (pgs_cons (pg_name (i := 5) nd rfl (Or.inl rfl)) pgs_nil)))
        (pss_cons (ps_setLc (i := 6) (own := [("term", 9), ("answered", 10)]) (g := gTup K 2 (gCons (gName 9) (gCons (gName 10) gNil))) (tt := tYes) rfl nd rfl rfl rfl (pi_list (pv 5)) (blkOk_by (N := ["procedures", "places", "name", "free", "is_growing", "rows", "asked", "now", "one", "term", "answered", "signals"]) (sc := defScope (top 37)) (by decide +kernel))
            (fun _ _ _ _ _ => pg_tup rfl (pgs_cons (pg_name (i := 9) nd rfl (Or.inl rfl)) (pgs_cons (pg_name (i := 10) nd rfl (Or.inl rfl)) pgs_nil))) (fun _ _ _ _ _ => pts_nil)
            (fun _ _ _ _ _ => pe_tup (pa_cons (pe_ifExp (pt_cmpR op_eq (p_ixT (K := K) (pv 9) pe_int) pe_str (nomark _)) (pe_tup (pa_cons (p_ixT (K := K) (pv 9) pe_int) pa_nil)) (pe_dget (hu_of hr) (pv 3) (p_ixT (K := K) (pv 9) pe_int) (fun _ _ => rfl))) (pa_cons (pv 10) pa_nil))))
        (pss_cons (ps_asg (pe_callTy call_tuple_of rfl T.tuple boot_tuple (pa_cons (pe_callB (cr_sortT rfl) rfl T.sorted boot_sorted (pa_cons
            (pe_sc2 (own := [("signals", 11), ("answered", 10), ("one", 8)]) (vs1 := [8]) (g := gTup K 2 (gCons (gName 11) (gCons (gName 10) gNil))) (tt := tYes) (g1 := gName 8) rfl nd (pi_list (pv 6)) (blkOk_by (N := ["procedures", "places", "name", "free", "is_growing", "rows", "asked", "now", "one", "term", "answered", "signals"]) (sc := defScope (top 37)) (by decide +kernel)) (by decide)
              (fun _ _ _ _ _ => pg_tup rfl (pgs_cons (pg_name (i := 11) nd rfl (Or.inl rfl)) (pgs_cons (pg_name (i := 10) nd rfl (Or.inl rfl)) pgs_nil))) (fun _ _ _ _ _ => pts_nil)
              (fun _ _ _ _ _ => p_iT K (pv 11)) (fun _ _ _ _ _ => pg_name (i := 8) nd rfl (Or.inl rfl)) (fun _ _ _ _ _ => pts_one (p_notin K (pv 8) (pv 10))) (fun _ _ _ _ _ => pv 8)) pa_nil)) pa_nil)) (pg_name (i := 7) nd rfl (Or.inl rfl)))
        (pss_one (ps_if (pt_cmpR (op_neD hr.units) (pv 7) (pe_dget (hu_of hr) (pv 3) (pv 2) (fun _ _ => rfl)) (nomark _))
          (pss_cons (ps_dput (hu_of hr) (pv 3) (pv 2) (pv 7) rfl) (pss_one (ps_asg pe_bl (pg_name (i := 4) nd rfl (Or.inl rfl))))) pss_nil)))))))))
    (pss_one (ps_ret (pv 3)))))), ?_⟩
  have hxl : xs.length = rows.length := hpw.1
  walk_at "rds"
  refine r_dc ?_
  walk_at "rds"
  refine ⟨pr, rfl, ⟨_, hpr⟩, fun d1 hd1 => ?_⟩
  refine dc_over over_tup (fun i H' => ∃ (G : Hp) (kvs : List (Key × V)), Ex H G ∧ G d1 = none ∧ Ex G H' ∧ H' d1 = some (.dK kvs) ∧ kvs.map (·.1) = (rows.take i).map keyR ∧
      ∀ (j : Nat) (k : Key) (v : V), kvs[j]? = some (k, v) → ∃ r l zs, rows[j]? = some r ∧ v = .ref l ∧ G l = some (.lst zs) ∧ zs.length ≤ 1000 ∧ ∀ x ∈ zs, UnAt K G r.body x)
    ⟨H, [], Ex.refl H, hd1, Ex.new hd1, upd_same, by simp, fun j k v h => by simp at h⟩ (fun i H' ⟨G, kvs, h1, h2, h3, _⟩ => ex_t (h1.trans h3) hpr) (fun i x H1 H2 hi p e y => ?_) fun H1 p => ?_
  · obtain ⟨G, kvs, g1, g2, g3, g4, g5, g6⟩ := p
    obtain ⟨r, hrr, l, hl⟩ := hpw.2 i x y
    have hrm := List.mem_of_getElem? hrr
    have ok := hok r hrm
    have e2 : Ex H H2 := (g1.trans g3).trans e
    obtain ⟨a, dx, po, vb, us, rfl, p1, p2, p3, p4, p5, p6⟩ := hl.ex e2
    have hd2 := e _ _ g4
    have hkl : kvs.length = i := by
      have h := congrArg List.length g5
      rw [List.length_map, List.length_map, List.length_take] at h
      have := (List.getElem?_eq_some_iff.mp hrr).1
      omega
    refine r_name ⟨rfl, r_tyes (iteT ?_)⟩
    walk_at "rds"
    refine ⟨a, C, dx, _, _, rfl, p1, O.cl, O.n1, pF_name _ _ _ _, ?_⟩
    walk_at "rds"
    refine ⟨a, C, dx, _, _, rfl, p1, O.cl, O.n3, pF_body _ _ _ _, ?_⟩
    walk_at "rds"
    refine ⟨Nat.zero_le _, fun pT hpT => ?_⟩
    walk_at "rds"
    have e3 : Ex H2 (upd H2 pT (.tup [])) := Ex.new hpT
    refine ⟨vb, pT, r.body, [], rfl, Dp.ex e3 _ _ p3, fun u hu => ?_, ok.bd.dp, by decide, Nat.le_trans ok.bd.sz (by decide), SqT.of upd_same, by simp, fun l2 H5 zs hl2 e5 hl5 hzl hun => ?_⟩
    · obtain ⟨L', o⟩ := wf_subs hm1 hm3 _ (Nat.le_refl _) ok.bd.wf u hu
      exact (okN_frm hm1 hm3 o).1
    have e6 := e3.trans e5
    have hd5 := e6 _ _ hd2
    have nl : l2 ≠ d1 := fun z => by
      subst z
      rw [e3 _ _ hd2] at hl2
      cases hl2
    refine ⟨kvs, keyR r, rfl, hd5, small (by omega), era H5 d1, kvs ++ [(keyR r, .ref l2)], era_ex (e2.trans e6) hd1, era_none, Ex.mut era_le era_none, ?_, ?_, fun j k v hj => ?_⟩
    · rw [upd_same, putK_new]
      refine val_none fun hm => ?_
      rw [g5] at hm
      obtain ⟨r', hr', er⟩ := List.mem_map.mp hm
      obtain ⟨j, hj, ej⟩ := List.getElem_of_mem hr'
      rw [List.length_take] at hj
      rw [List.getElem_take] at ej
      have hi' := (List.getElem?_eq_some_iff.mp hrr)
      have en : r'.name = r.name := by
        unfold keyR at er
        injection er
      have h1 : (rows.map (·.name))[j]'(by rw [List.length_map]; omega) = (rows.map (·.name))[i]'(by rw [List.length_map]; omega) := by
        rw [List.getElem_map, List.getElem_map, ej, en, hi'.2]
      have := (List.getElem_inj hnd).mp h1
      omega
    · rw [List.map_append, g5, List.take_add_one, hrr, List.map_append]
      rfl
    · have gg : Ex G (era H5 d1) := era_ex (g3.trans (e.trans e6)) g2
      by_cases hjl : j < kvs.length
      · rw [List.getElem?_append_left hjl] at hj
        obtain ⟨r', l', zs', q1, q2, q3, q4, q5⟩ := g6 j k v hj
        exact ⟨r', l', zs', q1, q2, gg _ _ q3, q4, fun x hx => UnAt.kx (Kx.of gg) (q5 x hx)⟩
      · have hjj : j = kvs.length := by
          have := (List.getElem?_eq_some_iff.mp hj).1
          rw [List.length_append, List.length_singleton] at this
          omega
        rw [List.getElem?_append_right (by omega), hjj, Nat.sub_self] at hj
        cases (show some (keyR r, V.ref l2) = some (k, v) from hj)
        refine ⟨r, l2, zs, by rw [hjj, hkl]; exact hrr, rfl, by rw [era_ne nl]; exact hl5, Nat.le_trans hzl (Nat.le_trans ok.bd.sz (by decide)), fun x hx => UnAt.kx (era_kx hd5 rfl) (hun x hx)⟩
  obtain ⟨G, kvs1, g1, g2, g3, g4, g5, g6⟩ := p
  rw [List.take_of_length_le (by rw [hpw.1]; exact Nat.le_refl _)] at g5
  have hk1l : kvs1.length = rows.length := by
    have h := congrArg List.length g5
    rw [List.length_map, List.length_map] at h
    exact h
  have hk1n : (kvs1.map (·.1)).Nodup := by
    rw [g5]
    have : rows.map keyR = (rows.map (·.name)).map (fun x => (Sum.inr x : Key)) := by rw [List.map_map]; rfl
    rw [this]
    exact List.Pairwise.map _ (fun a b h e => h (by injection e)) hnd
  have hk1 : ∀ (j : Nat) (k : Key) (v : V), kvs1[j]? = some (k, v) → ∃ r, rows[j]? = some r ∧ k = Sum.inr r.name := fun j k v h => by
    have h2 : (kvs1.map (·.1))[j]? = some k := by rw [List.getElem?_map, h]; rfl
    rw [g5, List.getElem?_map] at h2
    cases e : rows[j]? with
    | none => rw [e] at h2; cases h2
    | some r => rw [e] at h2; cases h2; exact ⟨r, rfl, rfl⟩
  -- the items of every name
  have hits : ∀ n : Str, ∃ its : List FIt, n ∈ rows.map (·.name) → ∃ l zs, valV kvs1 (Sum.inr n : Key) = some (.ref l) ∧ G l = some (.lst zs) ∧ zs.length ≤ 1000 ∧ Pw (UnI K G) zs its ∧ ∀ it ∈ its, (it.1.1 = true → it.1.2 ∈ c.sigs) ∧ (it.1.1 = false → it.1.2 ∈ rows.map (·.name)) := fun n => by
    by_cases hn : n ∈ rows.map (·.name)
    · obtain ⟨r, hrm, rfl⟩ := List.mem_map.mp hn
      obtain ⟨j, hj, ej⟩ := List.getElem_of_mem hrm
      have hjk : j < kvs1.length := by omega
      obtain ⟨r', hr', ek⟩ := hk1 j kvs1[j].1 kvs1[j].2 (List.getElem?_eq_getElem hjk)
      obtain ⟨r2, l, zs, q1, q2, q3, q4, q5⟩ := g6 j kvs1[j].1 kvs1[j].2 (List.getElem?_eq_getElem hjk)
      rw [List.getElem?_eq_getElem hj, ej] at hr' q1
      cases hr'
      cases q1
      obtain ⟨its, hpi⟩ := pw_choose (R := fun x it => UnI K G x it ∧ (it.1.1 = true → it.1.2 ∈ c.sigs) ∧ (it.1.1 = false → it.1.2 ∈ rows.map (·.name))) fun x hx => unI_of hm1 hm3 hh (hok r hrm) (q5 x hx)
      refine ⟨its, fun _ => ⟨l, zs, ?_, q3, q4, hpi.imp fun _ _ h => h.1, fun it hit => ?_⟩⟩
      · rw [← ek, ← q2]
        exact val_nodup hk1n (List.getElem?_eq_getElem hjk)
      · obtain ⟨i, hi, ei⟩ := List.getElem_of_mem hit
        have hiz : i < zs.length := by rw [hpi.1]; exact hi
        obtain ⟨g, e1, e2⟩ := hpi.2 i zs[i] (List.getElem?_eq_getElem hiz)
        rw [List.getElem?_eq_getElem hi, ei] at e1
        cases e1
        exact e2.2
    · exact ⟨[], fun z => absurd z hn⟩
  obtain ⟨its, hits⟩ := Classical.axiomOfChoice hits
  have hnk : ∀ n ∈ rows.map (·.name), (Sum.inr n : Key) ∈ kvs1.map (·.1) := fun n hn => by
    obtain ⟨r, hrm, rfl⟩ := List.mem_map.mp hn
    rw [g5]
    exact List.mem_map.mpr ⟨r, hrm, rfl⟩
  have hkn : ∀ (j : Nat) (k : Key) (v : V), kvs1[j]? = some (k, v) → ∃ n ∈ rows.map (·.name), k = Sum.inr n := fun j k v h => by
    obtain ⟨r, hr', ek⟩ := hk1 j k v h
    exact ⟨r.name, List.mem_map.mpr ⟨r, List.mem_of_getElem? hr', rfl⟩, ek⟩
  generalize hnames : rows.map (·.name) = names at *
  have hGH : Ex H H1 := g1.trans g3
  walk_at "rds"
  refine r_lockE ⟨d1, .dK kvs1, g4, trivial, fun od => ?_⟩
  refine r_dc ?_
  refine r_keys ?_
  walk_at "rds"
  have gB : Ex G (upd H1 d1 (.frz od (.dK kvs1))) := Ex.mut g3 g2
  have hB1 : (upd H1 d1 (.frz od (.dK kvs1))) d1 = some (.frz od (.dK kvs1)) := upd_same
  generalize upd H1 d1 (.frz od (.dK kvs1)) = HB at *
  refine ⟨d1, od, rfl, .inl ⟨kvs1, hB1, fun d2 hd2 => ?_⟩⟩
  have hGd2 : G d2 = none := ex_none gB hd2
  have h21 : d2 ≠ d1 := fun z => by
    subst z
    rw [hB1] at hd2
    cases hd2
  refine dc_over over_keys (fun i H' => ∃ kvs2 : List (Key × V), Ex G H' ∧ H' d1 = some (.frz od (.dK kvs1)) ∧ H' d2 = some (.dK kvs2) ∧ kvs2.map (·.1) = (kvs1.take i).map (·.1) ∧ ∀ kv ∈ kvs2, ∃ p, kv.2 = .ref p ∧ SqT K H' p [])
    ⟨[], Ex.mut gB hGd2, by rw [upd_ne (fun z => h21 z.symm)]; exact hB1, upd_same, by simp, fun kv h => by simp at h⟩ (fun i H' ⟨_, _, h, _⟩ => h) (fun i x H2 H3 hi p e y => ?_) fun H2 p => ?_
  · obtain ⟨kvs2, b1, b2, b3, b4, b5⟩ := p
    obtain ⟨k, v, hk, rfl⟩ := y
    have hkl : kvs2.length = i := by
      have h := congrArg List.length b4
      rw [List.length_map, List.length_map, List.length_take] at h
      omega
    refine r_name ⟨rfl, r_tyes (iteT ?_)⟩
    walk_at "rds"
    refine ⟨Nat.zero_le _, fun pT hpT => ?_⟩
    have e3 : Ex H2 (upd H3 pT (.tup [])) := e.trans (Ex.new hpT)
    have hpt : SqT K (upd H3 pT (.tup [])) pT [] := SqT.of upd_same
    have hfr : k ∉ kvs2.map (·.1) := fun hm => by
      rw [b4] at hm
      obtain ⟨kv, hkv, ek⟩ := List.mem_map.mp hm
      obtain ⟨j, hj, ej⟩ := List.getElem_of_mem hkv
      rw [List.length_take] at hj
      rw [List.getElem_take] at ej
      have hi' := List.getElem?_eq_some_iff.mp hk
      have h1 : (kvs1.map (·.1))[j]'(by rw [List.length_map]; omega) = (kvs1.map (·.1))[i]'(by rw [List.length_map]; omega) := by
        rw [List.getElem_map, List.getElem_map, ej, ek, hi'.2]
      have := (List.getElem_inj hk1n).mp h1
      omega
    have kx : Kx (upd H3 pT (.tup [])) (upd (upd H3 pT (.tup [])) d2 (.dK (putK kvs2 k (.ref pT)))) := Kx.upd (e3 _ _ b3) rfl
    refine ⟨kvs2, k, rfl, e3 _ _ b3, small (by omega), kvs2 ++ [(k, .ref pT)], Ex.mut (b1.trans e3) hGd2, ?_, ?_, ?_, fun kv hkv => ?_⟩
    · rw [upd_ne (fun z => h21 z.symm)]
      exact e3 _ _ b2
    · rw [upd_same, putK_new _ (val_none hfr)]
    · rw [List.map_append, b4, List.take_add_one, hk, List.map_append]
      rfl
    · rcases List.mem_append.mp hkv with h | h
      · obtain ⟨p, q1, q2⟩ := b5 kv h
        exact ⟨p, q1, kx_t ((Kx.of e3).trans kx) q2⟩
      · rw [List.mem_singleton] at h
        subst h
        exact ⟨pT, rfl, kx_t kx hpt⟩
  obtain ⟨kvs2, b1, b2, b3, b4, b5⟩ := p
  rw [List.take_length] at b4
  refine ⟨b2, ?_⟩
  have kx : Kx H2 (upd H2 d1 (.dK kvs1)) := Kx.upd b2 rfl
  have hF0 : FreeD K (upd H2 d1 (.dK kvs1)) d2 names (fun _ => []) := by
    refine ⟨kvs2, by rw [upd_ne h21]; exact b3, ?_, fun n hn => ?_⟩
    · have h := congrArg List.length b4
      rw [List.length_map, List.length_map] at h
      omega
    · have hm := hnk n hn
      rw [← b4] at hm
      obtain ⟨kv, hkv, ek⟩ := List.mem_map.mp hm
      obtain ⟨j, hj, ej⟩ := List.getElem_of_mem hkv
      obtain ⟨p, q1, q2⟩ := b5 kv hkv
      refine ⟨p, ?_, kx_t kx q2⟩
      rw [← ek, ← q1]
      exact val_nodup (by rw [b4]; exact hk1n) (j := j) (by rw [List.getElem?_eq_getElem hj, ej])
  have hD1 : (upd H2 d1 (.dK kvs1)) d1 = some (.dK kvs1) := upd_same
  have hGC : Ex G (upd H2 d1 (.dK kvs1)) := Ex.mut b1 g2
  generalize upd H2 d1 (.dK kvs1) = HC at *
  have hOk0 : FrOk names c.sigs its (fun _ => []) := ⟨fun n hn => rfl, fun n hn => List.nodup_nil, fun n hn s hs => by simp at hs, fun n hn s hs => by simp at hs⟩
  walk_at "rds"
  refine ⟨fun m σ H' => ∃ (b : Bool) (o2 o5 o6 o7 : Option V) (fr : Str → List Str), σ = [some (.ref pr), some (.ref d1), o2, some (.ref d2), some (.bl b), o5, o6, o7, none, none, none, none] ∧ Ex G H' ∧ H' d1 = some (.dK kvs1) ∧ FreeD K H' d2 names fr ∧ FrOk names c.sigs its fr ∧ m = 2 * dfc names fr + (if b = true then 1 else 0),
    ⟨_, true, none, none, none, none, fun _ => [], rfl, hGC, hD1, hF0, hOk0, rfl⟩, ?_⟩
  rintro m σ HW ⟨b, o2, o5, o6, o7, fr, rfl, w1, w2, w3, w4, w5⟩
  walk_at "rds"
  cases b with
  | false =>
    refine iteF ?_
    walk_at "rds"
    exact q d2 HW (g1.trans w1)
  | true =>
    refine iteT ?_
    refine ⟨fun σ' H' => ∃ m', m' < m ∧ _, fun _ _ h => h, ?_⟩
    walk_at "rds"
    refine r_lock ⟨d1, .dK kvs1, w2, trivial, fun od2 => ?_⟩
    walk_at "rds"
    refine r_items ?_
    walk_at "rds"
    have l1 : (upd HW d1 (.frz od2 (.dK kvs1))) d1 = some (.frz od2 (.dK kvs1)) := upd_same
    have l2 : Ex G (upd HW d1 (.frz od2 (.dK kvs1))) := Ex.mut w1 g2
    have l3 : FreeD K (upd HW d1 (.frz od2 (.dK kvs1))) d2 names fr := FreeD.kx (Kx.upd w2 rfl) (fun o h => by rw [upd_ne h21]; exact h) w3
    generalize upd HW d1 (.frz od2 (.dK kvs1)) = HL at *
    refine ⟨d1, od2, kvs1, rfl, l1, ?_⟩
    refine for_over over_items (fun i σ H' => ∃ (b : Bool) (o2 o5 o6 o7 : Option V) (fr' : Str → List Str), σ = [some (.ref pr), some (.ref d1), o2, some (.ref d2), some (.bl b), o5, o6, o7, none, none, none, none] ∧ Ex G H' ∧ H' d1 = some (.frz od2 (.dK kvs1)) ∧ FreeD K H' d2 names fr' ∧ FrOk names c.sigs its fr' ∧
      ((b = true ∧ dfc names fr' < dfc names fr) ∨ (b = false ∧ fr' = fr))) ⟨false, o2, o5, o6, o7, fr, rfl, l2, l1, l3, w4, .inr ⟨rfl, rfl⟩⟩ (fun i σ H ⟨_, _, _, _, _, _, _, _, h, _⟩ => h) ?_ ?_
    · rintro i x σ H3 H4 hi ⟨b, p2, p5, p6, p7, fr', rfl, i1, i2, i3, i4, i5⟩ e ⟨T0, k, v, rfl, hT, hkv⟩
      obtain ⟨n, hn, rfl⟩ := hkn i k v hkv
      obtain ⟨l, zs, hl1, hl2, hl3, hl4, hl5⟩ := hits n hn
      have ev : v = .ref l := by
        have := val_nodup hk1n hkv
        rw [hl1] at this
        injection this with this
        exact this.symm
      subst ev
      have ex4 := i1.trans e
      have f4 : H4 d1 = some (.frz od2 (.dK kvs1)) := e _ _ i2
      have free4 := FreeD.kx (Kx.of e) (fun o h => e _ _ h) i3
      refine r_gTup (SqT.of hT) rfl (r_gCons (r_name (r_gCons (r_name (r_gNil ?_)))))
      walk_at "rds"
      refine ⟨l, rfl, ⟨_, SqL.of (ex4 _ _ hl2)⟩, lc_pure (over_list (xs := zs)) (fun H5 e5 => SqL.of (e5 _ _ (ex4 _ _ hl2))) (fun j y H => ∃ it, (its n)[j]? = some it ∧ AskAt K H y (zsOf fr' it, it.2)) (fun _ _ _ _ kx ⟨it, h1, h2⟩ => ⟨it, h1, AskAt.kx kx h2⟩) (small (by omega))
        (fun j x H5 hj e5 hy Q q => ?_) fun LA H5 ys hLA e5 hL5 hyl hall => ?_⟩
      · obtain ⟨it, hit, c', b', pw, hd, r, rfl, u1, u2, u3, u4⟩ := hl4.2 j x hy
        have eG5 := ex4.trans e5
        have free5 := FreeD.kx (Kx.of e5) (fun o h => e5 _ _ h) free4
        refine r_gTup (ex_t eG5 u1) rfl (r_gCons (r_name (r_gCons (r_name (r_gNil ⟨rfl, ?_⟩)))))
        walk_at "rds"
        refine r_ixT (ex_t eG5 u2) r_at0 ?_
        walk_at "rds"
        rcases u3 with ⟨hr', ht⟩ | ⟨hr', ht⟩
        · refine r_eq rfl (r_bl (r_yes (by rw [hr']) ?_))
          walk_at "rds"
          refine r_ixT (ex_t eG5 u2) r_at1 ?_
          walk_at "rds"
          refine ⟨Nat.le_of_lt (small (by simp)), fun pz hpz => ?_⟩
          walk_at "rds"
          refine ⟨Nat.le_of_lt (small (by simp)), fun pc hpc => ?_⟩
          have ez : zsOf fr' it = [it.1.2] := by unfold zsOf; rw [if_pos ht]
          exact q _ _ ((Ex.new hpz).trans (Ex.new hpc)) ⟨it, hit, pc, pz, b', rfl, SqT.of upd_same, by rw [ez]; exact ex_t (Ex.new hpc) (SqT.of upd_same), ex_t (eG5.trans ((Ex.new hpz).trans (Ex.new hpc))) u4⟩
        · refine r_eq rfl (r_bl (r_no (fun z => hr' (by injection z)) ?_))
          walk_at "rds"
          refine r_dget ?_
          walk_at "rds"
          refine r_ixT (ex_t eG5 u2) r_at1 ?_
          obtain ⟨kvs3, k1, k2, k3⟩ := free5
          obtain ⟨p3, k4, k5⟩ := k3 it.1.2 ((hl5 it (List.mem_of_getElem? hit)).2 ht)
          refine ⟨d2, .ref p3, rfl, by have := DGet.k (k := Sum.inr it.1.2) k1; rw [k4] at this; exact this, ?_⟩
          walk_at "rds"
          refine ⟨Nat.le_of_lt (small (by simp)), fun pc hpc => ?_⟩
          have ez : zsOf fr' it = fr' it.1.2 := by unfold zsOf; rw [if_neg (by rw [ht]; decide)]
          exact q _ _ (Ex.new hpc) ⟨it, hit, pc, p3, b', rfl, SqT.of upd_same, by rw [ez]; exact ex_t (Ex.new hpc) k5, ex_t (eG5.trans (Ex.new hpc)) u4⟩
      have hask : Pw (AskAt K H5) ys ((its n).map fun it => (zsOf fr' it, it.2)) := ⟨by rw [List.length_map, hyl, hl4.1], fun j y hy => by
        obtain ⟨it, h1, h2⟩ := hall j y hy
        exact ⟨_, by rw [List.getElem?_map, h1]; rfl, h2⟩⟩
      have hfm : ∀ k, AskM ((its n).map fun it => (zsOf fr' it, it.2)) k ↔ Fm (its n) fr' k := fun k => by
        constructor
        · rintro ⟨p, hp, h1, h2⟩
          obtain ⟨it, hit, rfl⟩ := List.mem_map.mp hp
          exact ⟨it, hit, h1, h2⟩
        · rintro ⟨it, hit, h1, h2⟩
          exact ⟨_, List.mem_map.mpr ⟨it, hit, rfl⟩, h1, h2⟩
      have hsg : ∀ k, Fm (its n) fr' k → k ∈ c.sigs := fun k ⟨it, hit, h1, _⟩ => by
        unfold zsOf at h1
        by_cases ht : it.1.1 = true
        · rw [if_pos ht, List.mem_singleton] at h1
          rw [h1]
          exact (hl5 it hit).1 ht
        · rw [if_neg ht] at h1
          exact i4.sb _ ((hl5 it hit).2 (by simpa using ht)) k h1
      have hLG : H4 LA = none := hLA
      have free5 := FreeD.kx (Kx.of e5) (fun o h => e5 _ _ h) free4
      walk_at "rds"
      refine sc2_ask (sg := c.sigs) hL5 hask (fun k hk => hsg k ((hfm k).mp hk)) hsl fun D2 H6 seen hD2 e6 hs6 nd6 hm6 => ?_
      have hl6 : seen.length ≤ 2 := Nat.le_trans (sub_len nd6 fun k hk => hsg k ((hfm k).mp ((hm6 k).mp hk))) hsl
      walk_at "rds"
      refine ⟨D2, _, _, rfl, hs6, by omega, fun p6' zs6 hp6 hzn hzm hzs hzl => ?_⟩
      have e7 : Ex H6 (upd H6 p6' (.lst (zs6.map V.str))) := Ex.new hp6
      have h7 : (upd H6 p6' (.lst (zs6.map V.str))) p6' = some (.lst (zs6.map V.str)) := upd_same
      generalize upd H6 p6' (.lst (zs6.map V.str)) = H7 at *
      walk_at "rds"
      refine ⟨p6', _, rfl, .inl ⟨SqL.of h7, fun lt hlt => ?_⟩⟩
      have e8 : Ex H7 (upd H7 lt (.tup (zs6.map V.str))) := Ex.new hlt
      have h8 : SqT K (upd H7 lt (.tup (zs6.map V.str))) lt (zs6.map V.str) := SqT.of upd_same
      have e58 : Ex H5 (upd H7 lt (.tup (zs6.map V.str))) := (e6.trans e7).trans e8
      generalize upd H7 lt (.tup (zs6.map V.str)) = H8 at *
      have e48 := e5.trans e58
      have free8 := FreeD.kx (Kx.of e48) (fun o h => e48 _ _ h) free4
      walk_at "rds"
      refine r_dget ?_
      walk_at "rds"
      obtain ⟨kvs3, k1, k2, k3⟩ := id free8
      obtain ⟨p3, k4, k5⟩ := k3 n hn
      refine ⟨d2, .ref p3, rfl, by have := DGet.k (k := Sum.inr n) k1; rw [k4] at this; exact this, ?_⟩
      have hmem : ∀ s, s ∈ zs6 ↔ Fm (its n) fr' s := fun s => by
        rw [hzm s, decide_eq_true_eq, hm6 s, hfm s]
      have hzsg : ∀ s ∈ zs6, s ∈ c.sigs := fun s hs => hsg s ((hmem s).mp hs)
      refine ⟨_, _, dp_own h8, dp_own k5, shaped_own fun s hs => hsm s (hzsg s hs), shaped_own fun s hs => hsm s (i4.sb n hn s hs), r_bl ?_⟩
      have hown : ∀ {xs ys : List Str}, ownD xs = ownD ys → xs = ys := fun {xs ys} h => by
        unfold ownD at h
        injection h with h
        exact str_inj h
      by_cases hq : zs6 = fr' n
      · have : PyData.eqv (ownD zs6) (ownD (fr' n)) = true := (eqv_iff _ _ (pln_own _) (pln_own _)).mpr (by rw [hq])
        rw [this]
        refine r_ntrue ?_
        walk_at "rds"
        exact ⟨b, _, _, _, _, fr', rfl, ex4.trans e48, e48 _ _ f4, free8, i4, i5⟩
      · have : PyData.eqv (ownD zs6) (ownD (fr' n)) = false := by
          cases he : PyData.eqv (ownD zs6) (ownD (fr' n)) with
          | false => rfl
          | true => exact absurd (hown ((eqv_iff _ _ (pln_own _) (pln_own _)).mp he)) hq
        rw [this]
        refine r_nfalse ?_
        walk_at "rds"
        refine r_dput ?_
        walk_at "rds"
        obtain ⟨ok', hlt'⟩ := fr_step (now := zs6) hnd hsl i4 hn hzs hzn hmem hzsg hq
        have kx9 : Kx H8 (upd H8 d2 (.dK (putK kvs3 (Sum.inr n) (.ref lt)))) := Kx.upd k1 rfl
        refine ⟨d2, _, rfl, DPut.k (k := Sum.inr n) k1 (small (by omega)), ?_⟩
        walk_at "rds"
        refine ⟨true, _, _, _, _, setFr fr' n zs6, rfl, Ex.mut (ex4.trans e48) hGd2, ?_, ⟨putK kvs3 (Sum.inr n) (.ref lt), upd_same, ?_, fun m hm => ?_⟩, ok', .inl ⟨rfl, ?_⟩⟩
        · rw [upd_ne (fun z => h21 z.symm)]
          exact e48 _ _ f4
        · rw [putK_old k4]
          exact k2
        · rw [valV_put]
          by_cases hmn : m = n
          · subst hmn
            refine ⟨lt, if_pos rfl, ?_⟩
            rw [show setFr fr' m zs6 m = zs6 from if_pos rfl]
            exact kx_t kx9 h8
          · obtain ⟨p9, k8, k9⟩ := k3 m hm
            refine ⟨p9, by rw [if_neg (fun z => hmn (by injection z))]; exact k8, ?_⟩
            rw [show setFr fr' n zs6 m = fr' m from if_neg hmn]
            exact kx_t kx9 k9
        · rcases i5 with ⟨_, h⟩ | ⟨_, h⟩
          · omega
          · rw [h] at hlt'
            rw [h]
            exact hlt'
    · rintro σ H3 ⟨b, p2, p5, p6, p7, fr', rfl, i1, i2, i3, i4, i5⟩
      refine ⟨i2, _, ?_, b, p2, p5, p6, p7, fr', rfl, Ex.mut i1 g2, upd_same, FreeD.kx (Kx.upd i2 rfl) (fun o h => by rw [upd_ne h21]; exact h) i3, i4, rfl⟩
      rw [w5]
      rcases i5 with ⟨rfl, h⟩ | ⟨rfl, rfl⟩
      · simp
        omega
      · simp
end
end K8
/-! class Program: __init__ -/
namespace K8
open PySem PySem.Spec L2 Evl
open PyProof.Rows hiding St
theorem bind_star3 {B : List Value → Sem (List (Str × Value))} {p1 p2 p3 pv : Str} (h0 : ∀ a b c, B [a, b, c] = (newTuple [] >>= fun t => pure [(p1, a), (p2, b), (p3, c), (pv, t)])) (h1 : ∀ a b c r rs, B (a :: b :: c :: r :: rs) = (newTuple (r :: rs) >>= fun t => pure [(p1, a), (p2, b), (p3, c), (pv, t)])) :
    ∀ us rest : List Value, us.length = [p1, p2, p3].length → B (us ++ rest) = (newTuple rest >>= fun t => pure ([p1, p2, p3].zip us ++ [(pv, t)]))
  | [a, b, c], [], _ => h0 a b c
  | [a, b, c], r :: rs, _ => h1 a b c r rs
/-! ### the fields -/
def gF (m s p t f : V) : List (Str × V) := putF "own_free" f (putF "own_table" t (putF "own_procedures" p (putF "own_signals" s (putF "own_modes" m []))))
theorem gF_modes (m s p t f : V) : (gF m s p t f).lookup ("own_modes" : Str) = some m := by
  unfold gF
  rw [lookup_putF, if_neg (by decide +kernel), lookup_putF, if_neg (by decide +kernel), lookup_putF, if_neg (by decide +kernel), lookup_putF, if_neg (by decide +kernel), lookup_putF, if_pos rfl]
theorem gF_sigs (m s p t f : V) : (gF m s p t f).lookup ("own_signals" : Str) = some s := by
  unfold gF
  rw [lookup_putF, if_neg (by decide +kernel), lookup_putF, if_neg (by decide +kernel), lookup_putF, if_neg (by decide +kernel), lookup_putF, if_pos rfl]
theorem gF_procs (m s p t f : V) : (gF m s p t f).lookup ("own_procedures" : Str) = some p := by
  unfold gF
  rw [lookup_putF, if_neg (by decide +kernel), lookup_putF, if_neg (by decide +kernel), lookup_putF, if_pos rfl]
theorem gF_no (m s p t f : V) {x : Str} (h : x ∉ (["own_free", "own_table", "own_procedures", "own_signals", "own_modes"] : List Str)) : (gF m s p t f).lookup x = none := by
  unfold gF
  simp only [List.mem_cons, List.not_mem_nil, or_false, not_or] at h
  obtain ⟨h1, h2, h3, h4, h5⟩ := h
  rw [lookup_putF, if_neg h1, lookup_putF, if_neg h2, lookup_putF, if_neg h3, lookup_putF, if_neg h4, lookup_putF, if_neg h5]
  rfl
structure PgC (K : PySem.W.Frag) (C : Addr) : Prop where
  cl : Cls K C
  n1 : NoAttr K C "own_modes"
  n2 : NoAttr K C "own_signals"
  n3 : NoAttr K C "own_procedures"
  n4 : NoAttr K C "own_table"
  n5 : NoAttr K C "own_free"
def PgAt (K : PySem.W.Frag) (C C2 : Addr) (H : Hp) (x : V) (p : Pl) : Prop := ∃ (a dx sa pr : Addr) (tb fr : V) (xs : List V), x = .ref a ∧ H a = some (.ins C2 dx (gF (.int (p.modes : Nat)) (.ref sa) (.ref pr) tb fr)) ∧ SqT K H sa (p.sigs.map V.str) ∧ SqT K H pr xs ∧ Pw (fun x r => ∃ l, PrAtL K C H x r l) xs p.rows
theorem PgAt.ex {K : PySem.W.Frag} {C C2 : Addr} {H H' : Hp} {x : V} {p : Pl} (e : Ex H H') (h : PgAt K C C2 H x p) : PgAt K C C2 H' x p := by
  obtain ⟨a, dx, sa, pr, tb, fr, xs, h1, h2, h3, h4, h5⟩ := h
  exact ⟨a, dx, sa, pr, tb, fr, xs, h1, e _ _ h2, ex_t e h3, ex_t e h4, h5.imp fun x r ⟨l, h⟩ => ⟨l, h.ex e⟩⟩
theorem r_lc2 {wi : TI} {g : TG} {tt : TT} {wi1 : TI} {g1 : TG} {tt1 : TT} {te : TE} {vs vs1 : List Nat} {σ : L2.St} {H : Hp} {Q : VK} (q : wi σ H fun J H1 => ∀ D, H1 D = none → ∃ W : Nat → Nat → Hp → Prop, (∃ m, W 0 m (upd H1 D (.lst []))) ∧ ∀ i m H, W i m H →
  (J.stop i H ∧ Q (.ref D) H) ∨ (J.go i H ∧ ∃ Nx : Hp → Prop, (∀ H', Nx H' → ∃ m', m' < m ∧ W (i + 1) m' H') ∧ ∀ x H', J.yld i H x H' → g x (wipe σ vs) H' fun σ2 H2 => wipe σ2 vs = wipe σ vs ∧ tt σ2 H2 fun b H3 =>
    if b = true then wi1 σ2 H3 fun J1 H4 => ∃ W1 : Nat → Nat → Hp → Prop, (∃ m, W1 0 m H4) ∧ ∀ j k H, W1 j k H →
      (J1.stop j H ∧ Nx H) ∨ (J1.go j H ∧ ∃ Nx1 : Hp → Prop, (∀ H', Nx1 H' → ∃ k', k' < k ∧ W1 (j + 1) k' H') ∧ ∀ x H', J1.yld j H x H' → g1 x (wipe σ2 vs1) H' fun σ3 H5 => wipe σ3 vs1 = wipe σ2 vs1 ∧ tt1 σ3 H5 fun b H6 =>
        if b = true then te σ3 H6 fun y H7 => ∃ acc, H7 D = some (.lst acc) ∧ acc.length < sizeLine ∧ Nx1 (upd H7 D (.lst (acc ++ [y]))) else Nx1 H6)
    else Nx H3)) : tLc2 wi g tt wi1 g1 tt1 te vs vs1 σ H Q := q
theorem r_din {ty td : TE} {σ : L2.St} {H : Hp} {Q : VK} (q : ty σ H fun y H1 => td σ H1 fun x H2 => ∃ a o, x = .ref a ∧ DGet H2 a y o ∧ Q (.bl o.isSome) H2) : tDIn ty td σ H Q := q
theorem r_dnin {ty td : TE} {σ : L2.St} {H : Hp} {Q : VK} (q : ty σ H fun y H1 => td σ H1 fun x H2 => ∃ a o, x = .ref a ∧ DGet H2 a y o ∧ Q (.bl (!o.isSome)) H2) : tDNotIn ty td σ H Q := q
theorem asc_nd {zs : List Str} (h : asc zs = true) (hl : zs.length ≤ 2) : zs.Nodup := by
  match zs, h, hl with
  | [], _, _ => exact List.nodup_nil
  | [x], _, _ => simp
  | [x, y], h, _ =>
    have h' : (ltS x y && asc [y]) = true := h
    rw [Bool.and_eq_true] at h'
    have : x ≠ y := fun e => by
      subst e
      have := of_decide_eq_true h'.1
      exact List.lt_irrefl _ this
    simp [this]
theorem main_row {p : Pl} : ∀ {rows : List Rw}, (rows.map fun r => (r.name, r.own)).lookup ("main" : Str) = some [] → (headsR rows).lookup ("main" : Str) = some 0
  | [], h => by simp at h
  | r :: rows, h => by
    have eh : headsR (r :: rows) = (r.name, r.own.length) :: headsR rows := rfl
    rw [eh, List.lookup_cons]
    rw [List.map_cons, List.lookup_cons] at h
    by_cases e : ("main" : Str) = r.name
    · rw [show (("main" : Str) == r.name) = true from beq_iff_eq.mpr e] at h ⊢
      have h := Option.some.inj h
      simp only [h, List.length_nil]
    · rw [show (("main" : Str) == r.name) = false from beq_eq_false_iff_ne.mpr e] at h ⊢
      exact main_row (p := p) h
section
variable {P : Program} {w : World} {K : PySem.W.Frag} {mg : Str → Option Value} {base : Heap} {C C2 : Addr}
theorem take_fresh {κ : Type} {l : List (κ × V)} {i : Nat} {k : κ} {v : V} (nd : (l.map (·.1)).Nodup) (h : l[i]? = some (k, v)) : k ∉ (l.take i).map (·.1) := fun hm => by
  obtain ⟨kv, hkv, ek⟩ := List.mem_map.mp hm
  obtain ⟨j, hj, ej⟩ := List.getElem_of_mem hkv
  rw [List.length_take] at hj
  rw [List.getElem_take] at ej
  obtain ⟨hi1, hi2⟩ := List.getElem?_eq_some_iff.mp h
  have h1 : (l.map (·.1))[j]'(by rw [List.length_map]; omega) = (l.map (·.1))[i]'(by rw [List.length_map]; omega) := by
    rw [List.getElem_map, List.getElem_map, ej, ek, hi2]
  have := (List.getElem_inj nd).mp h1
  omega
theorem kvR_at {rows : List Rw} {xs : List V} {i : Nat} {r : Rw} {x : V} (h1 : rows[i]? = some r) (h2 : xs[i]? = some x) : (kvR rows xs)[i]? = some (Sum.inr r.name, x) := by
  unfold kvR
  rw [List.getElem?_map, List.getElem?_zip_eq_some (z := (r, x)) |>.mpr ⟨h1, h2⟩]
  rfl
theorem kvR_fst {rows : List Rw} {xs : List V} (h : xs.length = rows.length) : (kvR rows xs).map (·.1) = rows.map keyR := by
  unfold kvR
  rw [List.map_map]
  apply List.ext_getElem?
  intro i
  rw [List.getElem?_map, List.getElem?_map]
  by_cases hi : i < rows.length
  · rw [(List.getElem?_zip_eq_some (z := (rows[i], xs[i]'(by omega)))).mpr ⟨List.getElem?_eq_getElem hi, List.getElem?_eq_getElem (show i < xs.length by omega)⟩, List.getElem?_eq_getElem hi]
    rfl
  · rw [List.getElem?_eq_none (by rw [List.length_zip]; omega), List.getElem?_eq_none (by omega)]
    rfl
theorem keyR_nd {rows : List Rw} (h : (rows.map (·.name)).Nodup) : (rows.map keyR).Nodup := by
  have : rows.map keyR = (rows.map (·.name)).map (fun x => (Sum.inr x : Key)) := by rw [List.map_map]; rfl
  rw [this]
  exact List.Pairwise.map _ (fun a b h e => h (by injection e)) h
theorem pF_ne (n : Str) (po vb l : V) : pF n po vb l ≠ [] := fun h => by
  have := pF_terms n po vb l
  rw [h] at this
  cases this
theorem PrAtL.exx {H H' : Hp} {y : V} {a0 l dx : Addr} {r : Rw} (e : Exx a0 H H') (k : Kx H H') (hx : H a0 = some (.ins C2 dx [])) (h : PrAtL K C H y r l) : PrAtL K C H' y r l := by
  obtain ⟨a, dx', po, vb, xs, h1, h2, h3, h4, h5, h6, h7⟩ := h
  refine ⟨a, dx', po, vb, xs, h1, e _ _ (fun z => ?_) h2, kx_t k h3, Dp.kx k _ _ h4 (noL_toD _), e _ _ (fun z => ?_) h5, h6, fun y hy => ?_⟩
  · subst z
    rw [hx] at h2
    injection h2 with h2
    injection h2 with _ _ h2
    exact pF_ne _ _ _ _ h2.symm
  · subst z
    rw [hx] at h5
    cases h5
  · obtain ⟨u, h8, h9⟩ := h7 y hy
    exact ⟨u, h8, Dp.kx k _ _ h9 (noL_toD _)⟩
def spPgI (K : PySem.W.Frag) (C C2 : Addr) : Sp := fun vs H Q _ => ∃ (x dx sa pr : Addr) (xs : List V) (p : Pl), vs = [.ref x, .int (p.modes : Nat), .ref sa, .ref pr] ∧ H x = some (.ins C2 dx []) ∧ SqT K H sa (p.sigs.map V.str) ∧ SqT K H pr xs ∧ Pw (fun x r => ∃ l, PrAtL K C H x r l) xs p.rows ∧ OkPl p ∧
  ∀ H', Exx x H H' → PgAt K C C2 H' (.ref x) p → Q .non H'
theorem c_pg_init {f : Addr} {fd : FuncData} (F : L2.Fun K "__init__" "Program.__init__" (inClass (top 38) 0) f fd) (M : Mk K C2 f) (T : Txt K mg) (hm : mg "Program" = some (.ref C2)) (hmP : mg "Procedure" = some (.ref C)) (O : PrC K mg C) (O2 : PgC K C2) (IC : C8.InsC K C)
    (C1 : Cal P w K mg base 2 "is_from" spFrom) (C3 : Cal P w K mg base 3 "are_signals" (spSigs K)) (C4 : Cal P w K mg base 1 "fits" (spFits K C)) (C5 : Cal P w K mg base 9 "free_of" (spFree K C)) :
    FnR P w K mg base L2.CX0 10 f (fun vs H Q E => ∃ ws rest, vs = ws ++ rest ∧ ws.length = 3 ∧ rest.length ≤ sizeLine ∧ ∀ p, H p = none → spPgI K C C2 (ws ++ [V.ref p]) (upd H p (.tup rest)) Q E) := by
  obtain ⟨oc, od, kV, doc, pm, an, cdv, ct, osl, rfl, lk, hcd⟩ := F.ex
  have sc := C8.fnScope_by (N := ["self", "modes", "signals", "procedures", "table", "one", "term"]) (P := (["self", "modes", "signals"] : List Str) ++ (["procedures"] : List Str)) (sc := defScope (inClass (top 38) 0)) (by decide +kernel)
  have nd := sc.nd
  refine StX.fn_star (N := ["self", "modes", "signals", "procedures", "table", "one", "term"]) (ps := ["self", "modes", "signals"]) (pv := "procedures") lk hcd sc (fun _ _ _ _ _ _ _ _ _ _ _ z => z) (bind_star3 (B := fun vs => bindArgs (PySem.W.fnOf "__init__" "Program.__init__" (defArgs (inClass (top 38) 0)) (defBody (inClass (top 38) 0)) (defScope (inClass (top 38) 0)) .none kV doc pm an cdv ct) ⟨vs, []⟩) (p1 := "self") (p2 := "modes") (p3 := "signals") (pv := "procedures") (fun a b c => rfl) (fun a b c r rs => rfl)) fun A outer s H vs Q E hr h => ?_
  obtain ⟨x, dx, sa, pr, xs, p, rfl, hx, hsa, hpr, hpw, ok, q⟩ := h
  refine ⟨_, pss_cons (ps_if (PW.pt (pw_or (pt_not (pt_val (pe_c C1 hr (by decide) (pa_cons (pv 1) (pa_cons pe_int (pa_cons (C8.pe_gc rfl T.MAX_MODES) pa_nil)))))) (pw_or (pt_not (pt_val (pe_c C3 hr (by decide) (pa_cons (pv 2) pa_nil))))
        (pw_or1 (pt_not (pt_chain op_le op_le pe_int (p_len T (pv 3)) (C8.pe_gc rfl T.MAX_PROCEDURES)))))))
      (pss_one ps_no) pss_nil)
    (pss_cons (ps_if (pt_not (pt_val (p_all T (pe_lc (own := [("one", 5)]) (g := gName 5) (tt := tYes) rfl nd (pi_tup (pv 3)) (blkOk_by (N := ["self", "modes", "signals", "procedures", "table", "one", "term"]) (sc := defScope (inClass (top 38) 0)) (by decide +kernel))
      (fun _ _ _ _ _ => pg_name (i := 5) nd rfl (Or.inl rfl)) (fun _ _ _ _ _ => pts_nil) (fun _ _ _ _ _ => pe_callB (C8.call_isC IC) rfl T.isinstance boot_isinstance (pa_cons (pv 5) (pa_cons (C8.pe_gc (v := .ref C) rfl ⟨_, hmP, rfl⟩) pa_nil)))))))
      (pss_one ps_no) pss_nil)
    (pss_cons (ps_asg (pe_dc (own := [("one", 5)]) (g := gName 5) (tt := tYes) rfl nd (pi_tup (pv 3)) (blkOk_by (N := ["self", "modes", "signals", "procedures", "table", "one", "term"]) (sc := defScope (inClass (top 38) 0)) (by decide +kernel))
      (fun _ _ _ _ _ => pg_name (i := 5) nd rfl (Or.inl rfl)) (fun _ _ _ _ _ => pts_nil) (fun _ _ _ _ _ => p_fld K (pv 5)) (fun _ _ _ _ _ => pv 5)) (pg_name (i := 4) nd rfl (Or.inr rfl)))
    (pss_cons (ps_if (PW.pt (pw_or (pt_cmpR op_ne (pe_callB call_lenD rfl T.len PySem.boot_len (pa_cons (pv 4) pa_nil)) (p_len T (pv 3)) (nomark _)) (pw_or (pt_cmp (pc_dnotin (hu_of hr) (C8.pe_gc rfl T.MAIN) (pv 4)))
        (pw_or1 (pt_cmpR (op_ne_nil hr.units0) (pe_fld (pe_dget (hu_of hr) (pv 4) (C8.pe_gc rfl T.MAIN) (fun _ _ => rfl)) rfl) (pe_tup pa_nil) rfl)))))
      (pss_one ps_no) pss_nil)
    (pss_cons (ps_if (pt_not (pt_val (p_all T (pe_lc2 (own := [("one", 5), ("term", 6)]) (vs1 := [6]) (g := gName 5) (tt := tYes) (g1 := gName 6) (tt1 := tYes) rfl nd (pi_tup (pv 3)) (blkOk_by (N := ["self", "modes", "signals", "procedures", "table", "one", "term"]) (sc := defScope (inClass (top 38) 0)) (by decide +kernel)) (by decide)
      (fun _ _ _ _ _ => pg_name (i := 5) nd rfl (Or.inl rfl)) (fun _ _ _ _ _ => pts_nil) (fun _ _ _ _ _ => p_iL K (p_fld K (pv 5))) (fun _ _ _ _ _ => pg_name (i := 6) nd rfl (Or.inl rfl)) (fun _ _ _ _ _ => pts_nil)
      (fun _ _ _ _ _ => pe_c C4 hr (by decide) (pa_cons (pv 6) (pa_cons (pv 1) (pa_cons (pv 2) (pa_cons (pv 4) pa_nil)))))))))
      (pss_one ps_no) pss_nil)
    (pss_cons (ps_fld (pv 0) (pv 1) rfl)
    (pss_cons (ps_fld (pv 0) (pv 2) rfl)
    (pss_cons (ps_fld (pv 0) (pv 3) rfl)
    (pss_cons (ps_fld (pv 0) (pv 4) rfl)
    (pss_one (ps_fld (pv 0) (pe_c C5 hr (by decide) (pa_cons (pv 3) pa_nil)) rfl)))))))))), ?_⟩
  have hxl : xs.length = p.rows.length := hpw.1
  have hr10 := ok.rw_.2
  have hr1 := ok.rw_.1
  walk_at "rds"
  refine ⟨_, _, _, rfl, ?_⟩
  rw [decide_eq_true (show (1 : Int) ≤ ((p.modes : Nat) : Int) by have := ok.m1; omega), decide_eq_true (show ((p.modes : Nat) : Int) ≤ 3 by have := ok.m3; omega)]
  refine r_bl ?_
  walk_at "rds"
  refine r_ntrue ?_
  walk_at "rds"
  refine ⟨sa, p.sigs, rfl, hsa, ok.sg.1, ok.sg.2.1, ok.sg.2.2, fun H1 e1 => ?_⟩
  walk_at "rds"
  refine r_lenT (ex_t e1 hpr) ?_
  walk_at "rds"
  rw [decide_eq_true (show (1 : Int) ≤ (xs.length : Int) by omega)]
  walk_at "rds"
  refine r_nyes (by omega) ?_
  walk_at "rds"
  refine ⟨pr, rfl, ⟨_, ex_t e1 hpr⟩, lc_pure over_tup (fun H2 e2 => ex_t (e1.trans e2) hpr) (fun _ y _ => y = .bl true) (fun _ _ _ _ _ h => h) (small (by omega)) (fun i x H2 hi e hy Q q => ?_) fun D1 H2 ys hD1 e2 h2 _ hall => ?_⟩
  · obtain ⟨r, _, l, hl⟩ := hpw.2 i x hy
    obtain ⟨a, dx', po, vb, us, rfl, p1, _⟩ := hl.ex (e1.trans e)
    refine r_name ⟨rfl, ?_⟩
    walk_at "rds"
    exact ⟨a, dx', _, rfl, p1, q _ _ (Ex.refl _) rfl⟩
  walk_at "rds"
  refine r_allT h2 hall ?_
  walk_at "rds"
  have e02 := e1.trans e2
  refine r_dc ?_
  walk_at "rds"
  refine ⟨pr, rfl, ⟨_, ex_t e02 hpr⟩, fun d1 hd1 => ?_⟩
  have hkl : (kvR p.rows xs).length = p.rows.length := by
    have := congrArg List.length (kvR_fst hxl)
    rw [List.length_map, List.length_map] at this
    exact this
  refine dc_over over_tup (fun i H' => Ex H2 H' ∧ H' d1 = some (.dK ((kvR p.rows xs).take i))) ⟨Ex.new hd1, upd_same⟩ (fun i H' h => ex_t (e02.trans h.1) hpr) (fun i x H3 H4 hi pv e y => ?_) fun H3 pv => ?_
  · obtain ⟨b1, b2⟩ := pv
    obtain ⟨r, hrr, l, hl⟩ := hpw.2 i x y
    obtain ⟨a, dx', po, vb, us, rfl, p1, _⟩ := hl.ex ((e02.trans b1).trans e)
    have hat := kvR_at hrr y
    refine r_name ⟨rfl, r_tyes (iteT ?_)⟩
    walk_at "rds"
    refine ⟨a, C, dx', _, _, rfl, p1, O.cl, O.n1, pF_name _ _ _ _, ?_⟩
    walk_at "rds"
    refine ⟨_, (Sum.inr r.name : Key), rfl, e _ _ b2, small (by rw [List.length_take]; omega), Ex.mut (b1.trans e) hd1, ?_⟩
    rw [upd_same, putK_new _ (val_none (take_fresh (by rw [kvR_fst hxl]; exact keyR_nd ok.nd) hat)), List.take_add_one, hat]
    rfl
  obtain ⟨b1, b2⟩ := pv
  rw [List.take_of_length_le (by omega)] at b2
  have e03 := e02.trans b1
  have hpr3 := ex_t e03 hpr
  have hpw3 : Pw (fun x r => ∃ l, PrAtL K C H3 x r l) xs p.rows := hpw.imp fun x r ⟨l, h⟩ => ⟨l, h.ex e03⟩
  have htab : TabAt K C H3 d1 p.rows xs := ⟨b2, hpw3⟩
  walk_at "rds"
  refine ⟨d1, _, rfl, b2, ?_⟩
  walk_at "rds"
  refine r_lenT hpr3 ?_
  walk_at "rds"
  refine r_ne rfl (r_bl (r_nyes (by rw [hkl, hxl]) ?_))
  walk_at "rds"
  refine r_dnin ?_
  walk_at "rds"
  obtain ⟨xm, rm, hv, ⟨lm, hlm⟩, _, _, hown⟩ := val_rows hpw3 (main_row (p := p) ok.main)
  refine ⟨d1, some xm, rfl, by have := DGet.k (k := Sum.inr "main") b2; rw [hv] at this; exact this, ?_⟩
  walk_at "rds"
  refine r_ntrue ?_
  walk_at "rds"
  refine r_dget ?_
  walk_at "rds"
  refine ⟨d1, xm, rfl, by have := DGet.k (k := Sum.inr "main") b2; rw [hv] at this; exact this, ?_⟩
  obtain ⟨am, dm, pm', vm, um, rfl, m1, m2, _⟩ := hlm
  refine ⟨am, C, dm, _, _, rfl, m1, O.cl, O.n2, pF_par _ _ _ _, ?_⟩
  walk_at "rds"
  refine ⟨Nat.zero_le _, fun pz hpz => ?_⟩
  have e34 : Ex H3 (upd H3 pz (.tup [])) := Ex.new hpz
  have hown' : rm.own = [] := List.eq_nil_of_length_eq_zero hown
  rw [hown'] at m2
  refine r_neNilT (ex_t e34 m2) (SqT.of upd_same) (r_bl ?_)
  refine r_ntrue ?_
  have e04 := e03.trans e34
  have htab4 : TabAt K C (upd H3 pz (.tup [])) d1 p.rows xs := ⟨e34 _ _ b2, hpw3.imp fun x r ⟨l, h⟩ => ⟨l, h.ex e34⟩⟩
  generalize upd H3 pz (.tup []) = H4 at *
  walk_at "rds"
  refine r_lc2 ?_
  walk_at "rds"
  refine ⟨pr, rfl, ⟨_, ex_t e04 hpr⟩, fun D5 hD5 => ?_⟩
  have O1 := over_tup (K := K) (a := pr) (xs := xs)
  refine ⟨fun i m H => m = xs.length - i ∧ i ≤ xs.length ∧ Ex H4 H ∧ ∃ ys : List V, H D5 = some (.lst ys) ∧ ys.length ≤ 1000 * i ∧ ∀ (j : Nat) y, ys[j]? = some y → y = .bl true, ⟨_, rfl, Nat.zero_le _, Ex.new hD5, [], upd_same, Nat.zero_le _, fun j y h => by simp at h⟩, ?_⟩
  rintro i m H5 ⟨rfl, hi, e5, ys, y1, y2, y3⟩
  by_cases hlt : i < xs.length
  · refine .inr ⟨O1.go i H5 (ex_t (e04.trans e5) hpr) hlt, fun H' => Ex H4 H' ∧ ∃ ys : List V, H' D5 = some (.lst ys) ∧ ys.length ≤ 1000 * (i + 1) ∧ ∀ (j : Nat) y, ys[j]? = some y → y = .bl true, fun H' p' => ⟨xs.length - (i + 1), by omega, rfl, hlt, p'⟩, fun x H6 y => ?_⟩
    obtain ⟨e6, y'⟩ := O1.yld i H5 x H6 (ex_t (e04.trans e5) hpr) hlt y
    obtain ⟨r, hrr, l, hl⟩ := hpw.2 i x y'
    have hrm := List.mem_of_getElem? hrr
    have okr := ok.ok r hrm
    have e46 := e5.trans e6
    obtain ⟨a, dx', po, vb, us, rfl, p1, p2, p3, p4, p5, p6⟩ := hl.ex e04
    refine r_name ⟨rfl, r_tyes (iteT ?_)⟩
    walk_at "rds"
    refine ⟨a, C, dx', _, _, rfl, e46 _ _ p1, O.cl, O.n4, pF_terms _ _ _ _, ?_⟩
    refine ⟨l, rfl, ⟨_, SqL.of (e46 _ _ p4)⟩, ?_⟩
    have O6 := over_list (K := K) (a := l) (xs := us)
    refine ⟨fun j m H => m = us.length - j ∧ j ≤ us.length ∧ Ex H4 H ∧ ∃ ys : List V, H D5 = some (.lst ys) ∧ ys.length ≤ 1000 * i + j ∧ ∀ (j : Nat) y, ys[j]? = some y → y = .bl true, ⟨_, rfl, Nat.zero_le _, e46, ys, e6 _ _ y1, by omega, y3⟩, ?_⟩
    rintro j m H7 ⟨rfl, hj, e7, zs, z1, z2, z3⟩
    by_cases hjl : j < us.length
    · refine .inr ⟨O6.go j H7 (SqL.of (e7 _ _ p4)) hjl, fun H' => Ex H4 H' ∧ ∃ ys : List V, H' D5 = some (.lst ys) ∧ ys.length ≤ 1000 * i + (j + 1) ∧ ∀ (j : Nat) y, ys[j]? = some y → y = .bl true, fun H' p' => ⟨us.length - (j + 1), by omega, rfl, hjl, p'⟩, fun x H8 y => ?_⟩
      obtain ⟨e8, y8⟩ := O6.yld j H7 x H8 (SqL.of (e7 _ _ p4)) hjl y
      obtain ⟨u, hu, hd⟩ := p6 x (List.mem_of_getElem? y8)
      obtain ⟨L', o⟩ := wf_subs ok.m1 ok.m3 _ (Nat.le_refl _) okr.bd.wf u hu
      have e48 := e7.trans e8
      refine r_name ⟨rfl, r_tyes (iteT ?_)⟩
      walk_at "rds"
      refine ⟨x, sa, d1, u, cfg p, r.own, L', p.rows, xs, rfl, Dp.ex e48 _ _ hd, ok.m1, ok.m3, o, ex_t (e04.trans e48) hsa, rfl, ⟨e48 _ _ htab4.1, htab4.2.imp fun x r ⟨l, h⟩ => ⟨l, h.ex e48⟩⟩, fun H9 e9 => ?_⟩
      have hz9 := e9 _ _ (e8 _ _ z1)
      refine ⟨zs, hz9, small (by omega), Ex.mut (e48.trans e9) hD5, zs ++ [.bl true], upd_same, by rw [List.length_append, List.length_singleton]; omega, fun j' y hy => ?_⟩
      by_cases hj' : j' < zs.length
      · rw [List.getElem?_append_left hj'] at hy
        exact z3 j' y hy
      · have := (List.getElem?_eq_some_iff.mp hy).1
        rw [List.length_append, List.length_singleton] at this
        rw [List.getElem?_append_right (by omega), show j' - zs.length = 0 by omega] at hy
        cases hy
        rfl
    · have ej : j = us.length := by omega
      subst ej
      exact .inl ⟨O6.stop _ H7 (SqL.of (e7 _ _ p4)) (Nat.le_refl _), e7, zs, z1, by omega, z3⟩
  have ei : i = xs.length := by omega
  subst ei
  refine .inl ⟨O1.stop _ H5 (ex_t (e04.trans e5) hpr) (Nat.le_refl _), ?_⟩
  walk_at "rds"
  refine r_allT y1 y3 ?_
  walk_at "rds"
  have e05 := e04.trans e5
  have hx5 := e05 _ _ hx
  refine r_sfld ?_
  walk_at "rds"
  refine ⟨x, C2, dx, [], rfl, hx5, O2.cl, O2.n1, by decide, ?_⟩
  walk_at "rds"
  refine r_sfld ?_
  walk_at "rds"
  refine ⟨x, C2, dx, _, rfl, upd_same, O2.cl, O2.n2, fs1, ?_⟩
  walk_at "rds"
  refine r_sfld ?_
  walk_at "rds"
  refine ⟨x, C2, dx, _, rfl, upd_same, O2.cl, O2.n3, fs2, ?_⟩
  walk_at "rds"
  refine r_sfld ?_
  walk_at "rds"
  refine ⟨x, C2, dx, _, rfl, upd_same, O2.cl, O2.n4, fs3, ?_⟩
  rw [upd_upd, upd_upd, upd_upd]
  generalize hH6 : upd H5 x (.ins C2 dx (putF "own_table" (.ref d1) (putF "own_procedures" (.ref pr) (putF "own_signals" (.ref sa) (putF "own_modes" (.int (p.modes : Nat)) []))))) = H6
  have k6 : Kx H H6 := (Kx.of e05).trans (by rw [← hH6]; exact Kx.upd hx5 rfl)
  have x6 : Exx x H H6 := fun a o ne h => by
    rw [← hH6, upd_ne ne]
    exact e05 _ _ h
  have hx6 : H6 x = some (.ins C2 dx (putF "own_table" (.ref d1) (putF "own_procedures" (.ref pr) (putF "own_signals" (.ref sa) (putF "own_modes" (.int (p.modes : Nat)) []))))) := by
    rw [← hH6]
    exact upd_same
  clear hH6
  dsimp only
  refine r_sfld ?_
  walk_at "rds"
  refine ⟨pr, xs, p.rows, cfg p, rfl, kx_t k6 hpr, hpw.imp fun y r ⟨l, h⟩ => ⟨l, PrAtL.exx x6 k6 hx h⟩, ok.ok, ok.m1, ok.m3, rfl, ok.nd, asc_nd ok.sg.2.1 ok.sg.2.2, ok.sg.2.2, ok.sg.1, hr10, fun d7 H7 e7 => ?_⟩
  walk_at "rds"
  refine ⟨x, C2, dx, _, rfl, e7 _ _ hx6, O2.cl, O2.n5, fs4, ?_⟩
  have k8 : Kx H (upd H7 x (.ins C2 dx (gF (.int (p.modes : Nat)) (.ref sa) (.ref pr) (.ref d1) (.ref d7)))) := (k6.trans (Kx.of e7)).trans (Kx.upd (e7 _ _ hx6) rfl)
  have x8 : Exx x H (upd H7 x (.ins C2 dx (gF (.int (p.modes : Nat)) (.ref sa) (.ref pr) (.ref d1) (.ref d7)))) := fun a o ne h => by
    rw [upd_ne ne]
    exact e7 _ _ (x6 a o ne h)
  exact q _ x8 ⟨x, dx, sa, pr, .ref d1, .ref d7, xs, rfl, upd_same, kx_t k8 hsa, kx_t k8 hpr, hpw.imp fun y r ⟨l, h⟩ => ⟨l, PrAtL.exx x8 k8 hx h⟩⟩
end
end K8
/-! a != b of two instances whose class has its own ==, != left to object -/
namespace K8
open PySem PySem.Spec L2 Evl
open PyProof.Rows hiding St
theorem on_slot : PySem.Slot "object" "__ne__" "object.__ne__" := Slot.of (T := "object") (name := "__ne__") (owner := "object") (n := "__ne__") (by rw [typeLookup_type, builtinLookup_eq_fast]; kernel_rfl) (by decide +kernel) (by decide +kernel) (by decide +kernel)
    (.inl (by decide +kernel)) (by rw [isSubtype_type]; kernel_rfl)
section
variable {prog : Program} {w : World} {A : Around} {E : Value → Shared → Prop} {s : Shared} {K : PySem.W.Frag} {x y C f : Addr} {ox : Obj} {od : Option Obj}
theorem ne_body {Q : PySem.Fin → Shared → Prop} (X : K.In s.heap) (I : PySem.W.InstAt s.heap x ox C od) (hs : PySem.W.findIn K (.ref C) "__eq__" = some (some (.ref f))) (hf : PySem.W.isFn K (.ref f) = true) (hu : A.units < cLine)
    (hcall : wpAny (model prog w) A (call (.ref f) [.ref x, .ref y]) (fun v s' => ∃ b, v = .bool b ∧ Q (.done (.ret (.bool (!b)))) s') E s) :
    wpAny (model prog w) A (Builtin.«object.__ne__» ⟨[.ref x, .ref y], []⟩) Q E s := by
  unfold Builtin.«object.__ne__»
  repeat (first
    | with_reducible refine wpAny_cRoomFor hu ?_
    | (refine wpAny_bind (m := callSpecialIfBound? (.ref x) (Str.ofString "__eq__") [.ref y])
        (PySem.W.ifBound_K X I hs hf (wpAny_mono hcall (fun r s' hr => by
          obtain ⟨b, rfl, hq⟩ := hr
          repeat (first | exact hq | exact wpAny_pure hq | exact wpAny_truthy_bool hq | (refine wpAny_bind (m := truthy (.bool _)) (wpAny_truthy_bool ?_)) | wp_step)) fun _ _ e => e)))
    | wp_step)
theorem try_ne {Q : Option Value → Shared → Prop} (X : K.In s.heap) (I : PySem.W.InstAt s.heap x ox C od) (hne : PySem.W.findIn K (.ref C) "__ne__" = some (some (.builtin "object.__ne__"))) (hm : PySem.W.mroIn K C (.type "object") = some true)
    (hs : PySem.W.findIn K (.ref C) "__eq__" = some (some (.ref f))) (hf : PySem.W.isFn K (.ref f) = true) (hu : A.units + 1 < cLine)
    (hcall : wpAny (model prog w) A.in1 (call (.ref f) [.ref x, .ref y]) (fun v s' => ∃ b, v = .bool b ∧ Q (some (.bool (!b))) s') E s) :
    wpAny (model prog w) A (tryCompare (.ref x) "__ne__" (.ref y)) Q E s := by
  have t2 : PySem.W.Looks (model prog w) s.heap (isInstance (.ref x) (.type "object")) true := I.type.andThen (PySem.W.looks_mroIn X hm)
  have run : wpAny (model prog w) A (call (.builtin "object.__ne__") [.ref x, .ref y]) (fun v s' => ∃ b, v = .bool b ∧ Q (some (.bool b)) s') E s := by
    refine wpAny_call (codeAny_call_builtin on_slot.plain PySem.F.cmpEntry_ne ?_)
    exact PySem.W.check_slot (i := "object.__ne__") (owner := "object") (n := "__ne__") (rest := [.ref y]) (kw := []) PySem.F.cmpKind_ne PySem.F.cmpSplit_ne t2 (PySem.F.cmpArgs_ne _ _) (ne_body (A := A.in1) X I hs hf hu (wpAny_mono hcall (fun v s' hv => by
      obtain ⟨b, rfl, hq⟩ := hv
      exact ⟨b, rfl, !b, rfl, hq⟩) fun _ _ e => e))
  simp only [tryCompare]
  have bnd : wpAny (model prog w) A (callSpecialIfBound? (.ref x) (Str.ofString "__ne__") [.ref y]) (fun r s' => ∃ b, r = some (.bool b) ∧ Q (some (.bool b)) s') E s := by
    simp only [callSpecialIfBound?, bindSpecialIfBound?]
    refine wpAny_holding (wpAny_bind (wpAny_bind (wpAny_bind (I.type.here ((PySem.W.looks_findIn X hne).here ?_)))))
    refine wpAny_bind (wpAny_askSetting (wpAny_ite ?_))
    have fin : wpAny (model prog w) A (call (.builtin "object.__ne__") ([.ref x] ++ [.ref y]) >>= fun v => pure (some v)) (fun r s' => ∃ b, r = some (.bool b) ∧ Q (some (.bool b)) s') E s :=
      wpAny_bind (wpAny_mono run (fun v s' hv => by
        obtain ⟨b, rfl, hq⟩ := hv
        exact wpAny_pure ⟨b, rfl, hq⟩) fun _ _ e => e)
    split
    · refine wpAny_bind (wpAny_of_eq (on_slot.bind _) (wpAny_pure (by exact fin)))
    · exact wpAny_tryCatch (wpAny_bind (wpAny_of_eq (on_slot.bind _) (wpAny_pure (by exact fin))))
  refine wpAny_bind (wpAny_mono bnd (fun r s' hr => ?_) fun _ _ e => e)
  obtain ⟨b, rfl, hq⟩ := hr
  exact wpAny_pure hq
theorem rich_ne {Q : Value → Shared → Prop} {oy : Obj} {odY : Option Obj} (X : K.In s.heap) (I : PySem.W.InstAt s.heap x ox C od) (J : PySem.W.InstAt s.heap y oy C odY) (hne : PySem.W.findIn K (.ref C) "__ne__" = some (some (.builtin "object.__ne__"))) (hm : PySem.W.mroIn K C (.type "object") = some true)
    (hs : PySem.W.findIn K (.ref C) "__eq__" = some (some (.ref f))) (hf : PySem.W.isFn K (.ref f) = true) (hu : A.units + 1 < cLine)
    (hcall : wpAny (model prog w) A.in1 (call (.ref f) [.ref x, .ref y]) (fun v s' => ∃ b, v = .bool b ∧ Q (.bool (!b)) s') E s) :
    wpAny (model prog w) A (richCompare .NotEq (.ref x) (.ref y)) Q E s := by
  unfold richCompare
  simp only [oneThing_ref]
  refine wpAny_holding (wpAny_bind (wpAny_cRoomFor (Nat.lt_of_succ_lt hu) ?_))
  rw [cmpInfo_NotEq]
  dsimp only
  refine wpAny_bind (I.type.here (wpAny_bind (J.type.here ?_)))
  rw [show (Value.ref C != Value.ref C) = false from by simp]
  simp only [Bool.false_eq_true, if_false]
  refine wpAny_bind (wpAny_pure ?_)
  simp only [Bool.false_eq_true, if_false]
  refine wpAny_bind (try_ne X I hne hm hs hf hu (wpAny_mono hcall (fun v s' hv => ?_) fun _ _ e => e))
  obtain ⟨b, rfl, hq⟩ := hv
  exact ⟨b, rfl, wpAny_pure hq⟩
end
section
variable {X : Cx} {n : Nat}
def rNeB (D : V → V → Bool → Hp → Prop) : R2 := fun x y H Q => ∃ r, D x y r H ∧ ∀ H', Ex H H' → Q (.bl (!r)) H'
theorem op_neB {CX : CXT} {C f : Addr} {fd : FuncData} {ps : List Str} {R : Addr → Addr → Bool → Hp → Prop} {E : XK} (F : FnOk X.prog X.w X.K X.mg X.base CX n f fd ps (spEqB R))
    (hs : PySem.W.findIn X.K (.ref C) "__eq__" = some (some (.ref f))) (hf : PySem.W.isFn X.K (.ref f) = true) (hb : Binds X.K fd ps []) (hx : Passes CX X E)
    (hne : PySem.W.findIn X.K (.ref C) "__ne__" = some (some (.builtin "object.__ne__"))) (hm : PySem.W.mroIn X.K C (.type "object") = some true) (hr : Room (n + 1) X.A) : OpR X (compareOp .NotEq) (rNeB (DInsB C R)) := by
  intro pins s σ H x y v u Q I rx ry hq
  obtain ⟨r, d, q⟩ := hq
  obtain ⟨a, b, dx, dy, fs, gs, rfl, rfl, ha, hb', hR⟩ := d
  cases rx
  cases ry
  obtain ⟨mA, J, _⟩ := ins_get I.hok ha
  obtain ⟨mB, J', _⟩ := ins_get I.hok hb'
  obtain ⟨od, J, _⟩ := J.look
  obtain ⟨od', J', _⟩ := J'.look
  obtain ⟨m, hF⟩ := I.fr
  have hk : X.K.In s.heap := I.kIn
  have sb : Sub X n X.A.in1 := Sub.in1 ⟨hr, rfl⟩
  have hsp : spEqB R [.ref a, .ref b] H (fun v H' => v = .bl r ∧ Ex H H') E := ⟨a, b, r, rfl, hR, fun H' e => ⟨rfl, e⟩⟩
  have e0 : Env0 X.prog X.w X.K X.mg X.base X.A.in1 X.stack s H := by
    have e := I.env0
    exact ⟨by rw [sb.fr]; exact e.frames, e.mod, e.bs, e.bsz, e.funs, e.frf, e.hok, e.bare⟩
  have hl := F.len _ _ _ _ hsp
  have r2 : Vals [V.ref a, V.ref b] [Value.ref a, Value.ref b] := .cons rfl (.cons rfl .nil)
  show wpAny (model X.prog X.w) X.A (richCompare .NotEq (.ref a) (.ref b)) (EP X pins σ Q) X.xe s
  refine rich_ne hk J J' hne hm hs hf (by have := hr.un; omega) ?_
  refine wpAny_call (codeAny_mono (F.run X.A.in1 X.stack s H ⟨[.ref a, .ref b], []⟩ [.ref a, .ref b] [.ref a, .ref b] _ E sb.room e0 (by
    have := hb s [.ref a, .ref b] I.kIn (by simpa using hl)
    simpa using this) r2 hsp) fun r' s' hq => ?_)
  cases r' with
  | error e => exact hx pins σ H s e s' I hq
  | ok fl =>
    cases fl with
    | ret w =>
      obtain ⟨z, H', I', rz, ez, ex⟩ := I.after hq
      subst ez
      cases rz
      exact ⟨r, rfl, .bl (!r), H', I', rfl, q H' ex⟩
    | next => exact False.elim hq
    | brk => exact False.elim hq
    | cont => exact False.elim hq
end
end K8
/-! making procedures and programs; Program.of, .signals, ==; require_program -/
namespace K8
open PySem PySem.Spec L2 Evl
open PyProof.Rows hiding St
section
variable {X : Cx} {k j i : Nat} {x : Str} {C : Addr} {sp : Sp} {e : Expr} {es : List Expr} {te : TE} {t : TA} {p pos sp_ : Pos}
/-- C(e, ..), C a class of the module -/
theorem pe_mkR (c : MakR X.prog X.w X.K X.mg X.base k x C sp) (hr : Room j X.A) (hk : k + 1 ≤ j) (ha : PA X (e :: es) t) (hg : Gl X x := by rfl) (hdb : (x == ("__debug__" : Str)) = false := by decide)
    (he : starEach (e :: es) X.env = (false, eval e X.env) :: starEach es X.env := by rfl) (hpl : (backTo pos (starEach es X.env)).any (·.1) = false := by rfl) : PE X (.Call (.Name x p) (e :: es) [] pos) (StX.tMakeR C sp E0 t) := by
  obtain ⟨f, M, F, hm⟩ := c.ex
  exact StX.pe_makeR M F (hr.mono hk) hg hm pass0 ha hdb he hpl
/-- C(*e) -/
def tMakeS (K : PySem.W.Frag) (C : Addr) (sp : Sp) (te : TE) : TE := fun σ H Q => te σ H fun y H1 => ∃ a xs, y = V.ref a ∧ (SqT K H1 a xs ∨ SqL K H1 a xs) ∧ ∀ x dx, H1 x = none → H1 dx = none → dx ≠ x →
  sp (V.ref x :: xs) (upd (upd H1 dx (.own x)) x (.ins C dx [])) (fun v H2 => v = .non ∧ Q (.ref x) H2) E0
theorem pe_mkS {K : PySem.W.Frag} {mg : Str → Option Value} (c : MakR X.prog X.w K mg X.base k x C sp) (hr : Room j X.A) (hk : k + 1 ≤ j) (he : PE X e te) (hK : X.K = K := by rfl) (hm' : X.mg = mg := by rfl) (hg : Gl X x := by rfl) (hdb : (x == ("__debug__" : Str)) = false := by decide)
    (hst : starEach [.Starred e sp_] X.env = [(true, eval e X.env)] := by rfl) : PE X (.Call (.Name x p) [.Starred e sp_] [] pos) (tMakeS K C sp te) := by
  subst hK
  subst hm'
  obtain ⟨f, M, F, hm⟩ := c.ex
  refine ⟨fun pins s σ H Q I h => ?_⟩
  refine wpAny_Call_Name_kw (ld_glob I hg hm ?_ hdb)
  refine PySem.W.callWith_S (h₀ := X.base) I.ok.mod.kin M.kp (thn (he.run pins s σ H _ I h) fun v s1 ⟨y, H1, I1, ry, a, xs, ey, hxs, q⟩ => ?_) hst
  subst ey
  obtain rfl : v = Value.ref a := ry
  exact StX.star_any I1 hxs fun us s2 I2 rv => ⟨I2.kIn, StX.run_makeR M F (hr.mono hk) pass0 I2 rv q⟩
/-- c(e, .., *y), c a local name that holds the class -/
def tMakeV (i : Nat) (C : Addr) (sp : Sp) (t : TA) : TE := fun σ H Q => σ[i]? = some (some (.ref C)) ∧ StX.tMakeR C sp E0 t σ H Q
theorem pe_mkV {f : Addr} (M : Mk X.K C f) (F : FnR X.prog X.w X.K X.mg X.base L2.CX0 k f sp) (hr : Room j X.A) (hk : k + 1 ≤ j) (hN : X.N[i]? = some x) (hv : Vis X.env.scope x) (ha : PA X (e :: es) t)
    (hd : (x == ("__debug__" : Str)) = false := by decide) (hcd : (x == ("__classdict__" : Str)) = false := by decide)
    (he : starEach (e :: es) X.env = (false, eval e X.env) :: starEach es X.env := by rfl) (hst : (backTo pos (starEach es X.env)).any (·.1) = true := by rfl) : PE X (.Call (.Name x p) (e :: es) [] pos) (tMakeV i C sp t) := by
  refine ⟨fun pins s σ H Q I h => ?_⟩
  obtain ⟨hs, h⟩ := h
  refine wpAny_Call_Name_kw (thn ((pe_var (pos := p) (i := i) hN hv hd hcd).run pins s σ H (fun v H1 => v = .ref C ∧ H1 = H) I ⟨.ref C, hs, rfl, rfl⟩) fun u s1 ⟨v, H1, I1, r1, ev, eH⟩ => ?_)
  subst ev
  rw [eH] at I1
  cases r1
  refine PySem.W.callWith_S2 (h₀ := X.base) I.ok.mod.kin M.kp (thn (ha.run pos pins s1 σ H _ I1 h) fun us s2 ⟨vs, H2, I2, r, q⟩ => ⟨I2.kIn, ?_⟩) he hst
  exact StX.run_makeR M F (hr.mono hk) pass0 I2 r q
end
theorem exx_new {H H' : Hp} {x dx C : Addr} (hx : H x = none) (hdx : H dx = none) (ne : dx ≠ x) (e : Exx x (upd (upd H dx (.own x)) x (.ins C dx [])) H') : Ex H H' := fun a o h => by
  have n1 : a ≠ x := fun z => by subst z; rw [hx] at h; cases h
  have n2 : a ≠ dx := fun z => by subst z; rw [hdx] at h; cases h
  exact e a o n1 (by rw [upd_ne n1, upd_ne n2]; exact h)
section
variable {P : Program} {w : World} {K : PySem.W.Frag} {mg : Str → Option Value} {base : Heap} {C C2 : Addr}
/-- a procedure is made -/
theorem pr_made {H : Hp} {po : Addr} {vb : V} {r : Rw} {c : Cfg} {Q : VK} (hpo : SqT K H po (r.own.map V.str)) (hvb : Dp K H vb (toD r.body)) (h1 : 1 ≤ c.modes) (h3 : c.modes ≤ 3) (ok : OkRw c r) (q : ∀ x H' l, H l = none → Ex H H' → PrAtL K C H' x r l → Q x H') :
    ∀ x dx, H x = none → H dx = none → dx ≠ x → spPrI K C (V.ref x :: [.str r.name, .ref po, vb]) (upd (upd H dx (.own x)) x (.ins C dx [])) (fun v H2 => v = .non ∧ Q (.ref x) H2) E0 := fun x dx hx hdx ne => by
  have e : Ex H (upd (upd H dx (.own x)) x (.ins C dx [])) := Ex.mut (Ex.new hdx) hx
  refine ⟨x, dx, po, vb, r, c, rfl, upd_same, ex_t e hpo, Dp.ex e _ _ hvb, h1, h3, ok, fun H' l hl ex pr => ⟨rfl, q _ _ l (ex_none e hl) (exx_new hx hdx ne ex) pr⟩⟩
def spPgR (K : PySem.W.Frag) (C C2 : Addr) : Sp := fun vs H Q E => ∃ ws rest, vs = ws ++ rest ∧ ws.length = 3 ∧ rest.length ≤ sizeLine ∧ ∀ p, H p = none → spPgI K C C2 (ws ++ [V.ref p]) (upd H p (.tup rest)) Q E
/-- a program is made -/
theorem pg_made {H : Hp} {sa : Addr} {xs : List V} {p : Pl} {Q : VK} (hsa : SqT K H sa (p.sigs.map V.str)) (hpw : Pw (fun x r => ∃ l, PrAtL K C H x r l) xs p.rows) (ok : OkPl p) (q : ∀ x H', Ex H H' → PgAt K C C2 H' x p → Q x H') :
    ∀ x dx, H x = none → H dx = none → dx ≠ x → spPgR K C C2 (V.ref x :: ([.int (p.modes : Nat), .ref sa] ++ xs)) (upd (upd H dx (.own x)) x (.ins C2 dx [])) (fun v H2 => v = .non ∧ Q (.ref x) H2) E0 := fun x dx hx hdx ne => by
  have e : Ex H (upd (upd H dx (.own x)) x (.ins C2 dx [])) := Ex.mut (Ex.new hdx) hx
  have hxx : (upd (upd H dx (.own x)) x (.ins C2 dx [])) x = some (.ins C2 dx []) := upd_same
  refine ⟨[.ref x, .int (p.modes : Nat), .ref sa], xs, rfl, rfl, Nat.le_of_lt (small (by have := hpw.1; have := ok.rw_.2; omega)), fun pp hpp => ?_⟩
  have e2 : Ex (upd (upd H dx (.own x)) x (.ins C2 dx [])) (upd (upd (upd H dx (.own x)) x (.ins C2 dx [])) pp (.tup xs)) := Ex.new hpp
  refine ⟨x, dx, sa, pp, xs, p, rfl, e2 _ _ hxx, ex_t (e.trans e2) hsa, SqT.of upd_same, hpw.imp fun y r ⟨l, h⟩ => ⟨l, h.ex (e.trans e2)⟩, ok, fun H' ex pg => ⟨rfl, q _ _ (exx_new hx hdx ne fun a o n h => ex a o n (e2 _ _ h)) pg⟩⟩

/-! ### Program.of -/
def spOf (K : PySem.W.Frag) (C C2 : Addr) : Sp := fun vs H Q _ => ∃ (sa pr : Addr) (xs : List V) (p : Pl), vs = [.ref C2, .int (p.modes : Nat), .ref sa, .ref pr] ∧ SqT K H sa (p.sigs.map V.str) ∧ SqT K H pr xs ∧ Pw (fun x r => ∃ l, PrAtL K C H x r l) xs p.rows ∧ OkPl p ∧
  ∀ x H', Ex H H' → PgAt K C C2 H' x p → Q x H'
theorem c_of {f g : Addr} {fd : FuncData} (F : L2.Fun K "of" "Program.of" (inClass (top 38) 1) g fd) (T : Txt K mg) (M : Mk K C2 f) (FI : FnR P w K mg base L2.CX0 10 f (spPgR K C C2)) : FnOk P w K mg base L2.CX0 12 g fd ["cls", "modes", "signals", "procedures"] (spOf K C C2) := by
  have sc := C8.fnScope_by (N := ["cls", "modes", "signals", "procedures"]) (P := ["cls", "modes", "signals", "procedures"]) (sc := defScope (inClass (top 38) 1)) (by decide +kernel)
  refine F.ok sc (fun vs H Q E h => ?_) fun cdv A outer s H vs Q E hr h => ?_
  · obtain ⟨sa, pr, xs, p, rfl, _⟩ := h
    rfl
  obtain ⟨sa, pr, xs, p, rfl, hsa, hpr, hpw, ok, q⟩ := h
  refine ⟨_, pss_cons (ps_if (pt_not (pt_val (p_isi T (pv 3) T.tuple boot_tuple))) (pss_one ps_no) pss_nil)
    (pss_one (ps_ret (pe_mkV (i := 0) M FI hr (by decide) rfl (Or.inl rfl) (pa_cons (pv 1) (pa_cons (pv 2) (p_star K (pv 3) pa_nil)))))), ?_⟩
  walk_at "rds"
  refine r_isi (ty_sqT hpr) kb_tuple_tuple ?_
  walk_at "rds"
  refine ⟨rfl, ?_⟩
  refine ⟨_, rfl, _, rfl, _, rfl, pr, xs, rfl, .inl hpr, ?_⟩
  have := pg_made (Q := Q) hsa hpw ok q
  rw [← List.append_nil xs] at this
  exact this
end
end K8
/-! Program.signals, Program.__eq__, require_program -/
namespace K8
open PySem PySem.Spec L2 Evl
open PyProof.Rows hiding St
theorem tl_no {X : Cx} {pins : List (Addr × Obj)} {σ : L2.St} {H : Hp} {s : Shared} {a : Addr} {xs ys : List V} (I : Inv X pins σ H s) (h : SqT X.K H a xs) (h' : SqL X.K H a ys) : False := by
  obtain ⟨its, r, ⟨o, e, c, n, d⟩, _⟩ := I.tuple h
  obtain ⟨its', r', ⟨o', n', e', c', _, d'⟩, _⟩ := I.list h'
  rw [e] at e'
  cases e'
  rw [c] at c'
  exact absurd c' (by decide)
mutual
theorem dp_inj {X : Cx} {pins : List (Addr × Obj)} {σ : L2.St} {H : Hp} {s : Shared} (I : Inv X pins σ H s) : ∀ (d e : PyData) (v : V), Dp X.K H v d → Dp X.K H v e → d = e
  | .none, _, _, h, h' => by cases h; cases h'; rfl
  | .bool b, _, _, h, h' => by cases h; cases h'; rfl
  | .int i, _, _, h, h' => by cases h; cases h'; rfl
  | .str x, _, _, h, h' => by cases h; cases h'; rfl
  | .tuple ds, e, _, h, h' => by
    cases h with
    | tup hs ha =>
      cases h' with
      | tup hs' ha' =>
        have := I.tuple_inj hs hs'
        subst this
        rw [dpa_inj I ds _ _ ha ha']
      | lst hs' ha' => exact (tl_no I hs hs').elim
  | .list ds, e, _, h, h' => by
    cases h with
    | lst hs ha =>
      cases h' with
      | lst hs' ha' =>
        have := I.list_inj hs hs'
        subst this
        rw [dpa_inj I ds _ _ ha ha']
      | tup hs' ha' => exact (tl_no I hs' hs).elim
theorem dpa_inj {X : Cx} {pins : List (Addr × Obj)} {σ : L2.St} {H : Hp} {s : Shared} (I : Inv X pins σ H s) : ∀ (ds es : List PyData) (vs : List V), DpAll X.K H vs ds → DpAll X.K H vs es → ds = es
  | [], _, _, h, h' => by cases h; cases h'; rfl
  | d :: ds, _, _, h, h' => by
    cases h with
    | cons h1 h2 =>
      cases h' with
      | cons h3 h4 => rw [dp_inj I d _ _ h1 h3, dpa_inj I ds _ _ h2 h4]
end
theorem eqRw_refl (r : Rw) : eqRw r r = true := eqRw_iff.mpr ⟨rfl, rfl, rfl⟩
theorem rpr_same {X : Cx} {C : Addr} {pins : List (Addr × Obj)} {σ : L2.St} {H : Hp} {s : Shared} {a : Addr} {r : Bool} (I : Inv X pins σ H s) (h : RPr X.K C a a r H) : r = true := by
  obtain ⟨r1, r2, l1, l2, p1, p2, g1, g2, rfl⟩ := h
  obtain ⟨a', dx, po, vb, xs, e, h1, h2, h3, h4, h5, h6⟩ := p1
  cases e
  obtain ⟨b', dx', po', vb', xs', e, k1, k2, k3, k4, k5, k6⟩ := p2
  cases e
  rw [h1] at k1
  injection k1 with k1
  injection k1 with _ _ k1
  have e1 : r1.name = r2.name := by
    have := pF_name r1.name (.ref po) vb (.ref l1)
    rw [k1, pF_name] at this
    injection this with this
    injection this with this
    exact this.symm
  have e2 : (V.ref po') = V.ref po := by
    have := pF_par r1.name (.ref po) vb (.ref l1)
    rw [k1, pF_par] at this
    injection this
  have e3 : vb' = vb := by
    have := pF_body r1.name (.ref po) vb (.ref l1)
    rw [k1, pF_body] at this
    injection this
  cases e2
  cases e3
  refine eqRw_iff.mpr ⟨e1, ?_, dp_inj I _ _ _ h3 k3⟩
  have := I.tuple_inj h2 k2
  have inj : ∀ {xs ys : List Str}, xs.map V.str = ys.map V.str → xs = ys := fun {xs} => by
    induction xs with
    | nil => intro ys h; cases ys with
      | nil => rfl
      | cons => simp at h
    | cons x xs ih => intro ys h; cases ys with
      | nil => simp at h
      | cons y ys =>
        rw [List.map_cons, List.map_cons, List.cons.injEq] at h
        rw [ih h.2]
        injection h.1 with e
        rw [e]
  exact inj this
def eRow (p1 p2 : Pl) (i : Nat) : Bool := match p1.rows[i]?, p2.rows[i]? with
  | some a, some b => eqRw a b
  | _, _ => true
def eqPl (p1 p2 : Pl) : Bool := decide (p1.modes = p2.modes) && (PyData.eqv (ownD p1.sigs) (ownD p2.sigs) && ((List.range (min p1.rows.length p2.rows.length)).all (eRow p1 p2) && p1.rows.length == p2.rows.length))
section
variable {P : Program} {w : World} {K : PySem.W.Frag} {mg : Str → Option Value} {base : Heap} {C C2 : Addr}
def spSigP (K : PySem.W.Frag) (C C2 : Addr) : Sp := fun vs H Q _ => ∃ (a : Addr) (p : Pl), vs = [.ref a] ∧ PgAt K C C2 H (.ref a) p ∧ ∀ sa, SqT K H sa (p.sigs.map V.str) → Q (.ref sa) H
theorem c_pg_sigs {f : Addr} {fd : FuncData} (F : L2.Fun K "signals" "Program.signals" (inClass (top 38) 3) f fd) (O2 : PgC K C2) : FnOk P w K mg base L2.CX0 1 f fd ["self"] (spSigP K C C2) := by
  have sc := C8.fnScope_by (N := ["self"]) (P := ["self"]) (sc := defScope (inClass (top 38) 3)) (by decide +kernel)
  refine F.ok sc (fun vs H Q E h => ?_) fun cdv A outer s H vs Q E hr h => ?_
  · obtain ⟨a, p, rfl, _⟩ := h
    rfl
  obtain ⟨a, p, rfl, hp, q⟩ := h
  obtain ⟨a', dx, sa, pr, tb, fr, xs, e, h1, h2, h3, h4⟩ := hp
  cases e
  refine ⟨_, pss_one (ps_ret (pe_fld (pv 0) rfl)), ?_⟩
  walk_at "rds"
  exact ⟨a, C2, dx, _, _, rfl, h1, O2.cl, O2.n2, gF_sigs _ _ _ _ _, q sa h2⟩
def RPg (K : PySem.W.Frag) (C C2 : Addr) (a b : Addr) (r : Bool) (H : Hp) : Prop := ∃ p1 p2, PgAt K C C2 H (.ref a) p1 ∧ PgAt K C C2 H (.ref b) p2 ∧ OkPl p1 ∧ OkPl p2 ∧ r = eqPl p1 p2
theorem OkPl.gd {p : Pl} (ok : OkPl p) {r : Rw} (h : r ∈ p.rows) : Gd r := ⟨cfg p, ok.m1, ok.m3, ok.ok r h⟩
theorem c_pg_eq {f g : Addr} {fd fdp : FuncData} (F : L2.Fun K "__eq__" "Program.__eq__" (inClass (top 38) 16) f fd) (T : Txt K mg) (hm : mg "Program" = some (.ref C2)) (O2 : PgC K C2) (IC : C8.InsC K C2)
    (FP : FnOk P w K mg base L2.CX0 1 g fdp ["self", "other"] (spEqB (RPr K C))) (hs : PySem.W.findIn K (.ref C) "__eq__" = some (some (.ref g))) (hf : PySem.W.isFn K (.ref g) = true) (hb : Binds K fdp ["self", "other"] []) :
    FnOk P w K mg base L2.CX0 3 f fd ["self", "other"] (spEqB (RPg K C C2)) := by
  have sc := C8.fnScope_by (N := ["self", "other"]) (P := ["self", "other"]) (sc := defScope (inClass (top 38) 16)) (by decide +kernel)
  refine F.ok sc (fun vs H Q E h => ?_) fun cdv A outer s H vs Q E hr h => ?_
  · obtain ⟨a, b, r, rfl, _⟩ := h
    rfl
  obtain ⟨a, b, r, rfl, ⟨p1, p2, pg1, pg2, ok1, ok2, rfl⟩, q⟩ := h
  obtain ⟨a', dx, sa, pr, tb, fr, xs, e, h1, h2, h3, h4⟩ := pg1
  cases e
  obtain ⟨b', dx', sa', pr', tb', fr', xs', e, k1, k2, k3, k4⟩ := pg2
  cases e
  refine ⟨_, pss_one (ps_ret (pe_and (pe_callB (C8.call_isC IC) rfl T.isinstance boot_isinstance (pa_cons (pv 1) (pa_cons (C8.pe_gc (v := .ref C2) rfl ⟨_, hm, rfl⟩) pa_nil)))
    (pe_and (pe_cmpR op_eq (pe_fld (pv 0) rfl) (pe_fld (pv 1) rfl) (nomark _)) (pe_and (pe_cmpR (op_eqD hr.units) (pe_fld (pv 0) rfl) (pe_fld (pv 1) rfl) (nomark _))
      (pe_one (pe_cmpR (op_eqB (rcB_tup (D := DInsB C (RPr K C)) ?_ (RcB.eqB (rcB_ins FP hs hf hb pass0) fun pins σ H s a r I h => rpr_same I h)) hr) (pe_fld (pv 0) rfl) (pe_fld (pv 1) rfl) (nomark _))))))), ?_⟩
  · rintro x y r H1 H2 e ⟨a, b, dx, dy, fs, gs, rfl, rfl, h1, h2, r1, r2, l1, l2, q1, q2, q3⟩
    exact ⟨a, b, dx, dy, fs, gs, rfl, rfl, e _ _ h1, e _ _ h2, r1, r2, l1, l2, q1.ex e, q2.ex e, q3⟩
  walk_at "rds"
  refine ⟨b, dx', _, rfl, k1, ?_⟩
  walk_at "rds"
  refine ⟨a, C2, dx, _, _, rfl, h1, O2.cl, O2.n1, gF_modes _ _ _ _ _, ?_⟩
  walk_at "rds"
  refine ⟨b, C2, dx', _, _, rfl, k1, O2.cl, O2.n1, gF_modes _ _ _ _ _, ?_⟩
  walk_at "rds"
  refine r_eq rfl (r_bl ?_)
  by_cases e : p1.modes = p2.modes
  · refine r_yes (by rw [e]) ?_
    walk_at "rds"
    refine ⟨a, C2, dx, _, _, rfl, h1, O2.cl, O2.n2, gF_sigs _ _ _ _ _, ?_⟩
    walk_at "rds"
    refine ⟨b, C2, dx', _, _, rfl, k1, O2.cl, O2.n2, gF_sigs _ _ _ _ _, ?_⟩
    walk_at "rds"
    refine ⟨_, _, dp_own h2, dp_own k2, shaped_own ok1.sg.1, shaped_own ok2.sg.1, r_bl ?_⟩
    cases e2 : PyData.eqv (ownD p1.sigs) (ownD p2.sigs) with
    | false =>
      refine iteF ?_
      have q := q H (Ex.refl H)
      rw [show eqPl p1 p2 = false by unfold eqPl; rw [decide_eq_true e, e2]; rfl] at q
      exact q
    | true =>
      refine iteT ?_
      walk_at "rds"
      refine ⟨a, C2, dx, _, _, rfl, h1, O2.cl, O2.n3, gF_procs _ _ _ _ _, ?_⟩
      walk_at "rds"
      refine ⟨b, C2, dx', _, _, rfl, k1, O2.cl, O2.n3, gF_procs _ _ _ _ _, ?_⟩
      walk_at "rds"
      refine ⟨eqPl p1 p2, ⟨pr, pr', xs, xs', eRow p1 p2, rfl, rfl, h3, k3, fun i x y hx hy => ?_, ?_⟩, q⟩
      · obtain ⟨r1, hr1, l1, hl1⟩ := h4.2 i x hx
        obtain ⟨r2, hr2, l2, hl2⟩ := k4.2 i y hy
        obtain ⟨a1, dx1, po1, vb1, us1, rfl, m1, _⟩ := id hl1
        obtain ⟨a2, dx2, po2, vb2, us2, rfl, m2, _⟩ := id hl2
        refine ⟨a1, a2, dx1, dx2, _, _, rfl, rfl, m1, m2, r1, r2, l1, l2, hl1, hl2, ok1.gd (List.mem_of_getElem? hr1), ok2.gd (List.mem_of_getElem? hr2), ?_⟩
        unfold eRow
        rw [hr1, hr2]
      · unfold eqPl
        rw [decide_eq_true e, e2, h4.1, k4.1]
        rfl
  · refine r_no (fun z => e (by injection z with z; omega)) ?_
    have q := q H (Ex.refl H)
    rw [show eqPl p1 p2 = false by unfold eqPl; rw [decide_eq_false e]; rfl] at q
    exact q

/-! ### require_program, of a program -/
def spReq (K : PySem.W.Frag) (C C2 : Addr) : Sp := fun vs H Q _ => ∃ (v : V) (p : Pl), vs = [v] ∧ PgAt K C C2 H v p ∧ Q .non H
theorem c_require (D : Dfn K mg "require_program" (top 40) ["value"]) (T : Txt K mg) (hm : mg "Program" = some (.ref C2)) (IC : C8.InsC K C2) : Cal P w K mg base 1 "require_program" (spReq K C C2) := by
  refine D.cal (N := ["value"]) (by decide +kernel) (fun vs H Q E h => ?_) fun f cdv A outer s H vs Q E hr nd h => ?_
  · obtain ⟨v, p, rfl, _⟩ := h
    rfl
  obtain ⟨v, p, rfl, hp, q⟩ := h
  obtain ⟨a, dx, sa, pr, tb, fr, xs, rfl, h1, h2, h3, h4⟩ := hp
  refine ⟨_, pss_one (ps_if (pt_not (pt_val (pe_callB (C8.call_isC IC) rfl T.isinstance boot_isinstance (pa_cons (pv 0) (pa_cons (C8.pe_gc (v := .ref C2) rfl ⟨_, hm, rfl⟩) pa_nil))))) (pss_one ps_no) pss_nil), ?_⟩
  walk_at "rds"
  refine ⟨a, dx, _, rfl, h1, ?_⟩
  walk_at "rds"
  exact q
end
end K8
/-! the texts of terms, as lists of code points -/
namespace K8
open PySem PySem.Spec L2
open PyProof.Rows hiding St
abbrev cl (x : Str) : List Nat := x.cps.toList
def ent : Option Nat → List Nat
  | none => [45]
  | some n => TL.numL n
def jn (ws : List (List Nat)) : List Nat := TL.joinL [32] ws
def prn (ws : List (List Nat)) : List Nat := 40 :: (jn ws ++ [41])
mutual
def wsT : Tm → List (List Nat)
  | .act w tab => cl "do" :: cl w :: tab.map ent
  | .nam k x => [cl k, cl x]
  | .ser k ts => cl k :: cls ts
  | .cal x ts => cl "call" :: cl x :: cls ts
  | .sco x t => [cl "scope", cl x, prn (wsT t)]
  | .ans ss ts t => cl "answer" :: (alt ts ss ++ [prn (wsT t)])
def cls : List Tm → List (List Nat)
  | [] => []
  | t :: ts => prn (wsT t) :: cls ts
def alt : List Tm → List Str → List (List Nat)
  | t :: ts, s :: ss => cl s :: prn (wsT t) :: alt ts ss
  | _, _ => []
end
theorem cls_map : ∀ ts : List Tm, cls ts = ts.map fun t => prn (wsT t)
  | [] => by simp [cls]
  | t :: ts => by simp [cls, cls_map ts]
/-- the open text, the closed one -/
def opS (t : Tm) : Str := SX.S (jn (wsT t))
def clS (t : Tm) : Str := SX.S (prn (wsT t))
/-- length of the words and a blank each -/
def lw (ws : List (List Nat)) : Nat := (ws.map fun w => w.length + 1).sum
theorem lw_app (a b : List (List Nat)) : lw (a ++ b) = lw a + lw b := by simp [lw]
theorem lw_cons (a : List Nat) (b : List (List Nat)) : lw (a :: b) = a.length + 1 + lw b := by simp [lw]
theorem jn_len : ∀ ws : List (List Nat), (jn ws).length ≤ lw ws
  | [] => by simp [jn, TL.joinL]
  | [w] => by simp [jn, TL.joinL, lw]
  | w :: v :: r => by
    have ih := jn_len (v :: r)
    have e : jn (w :: v :: r) = w ++ ([32] ++ jn (v :: r)) := by simp [jn, TL.joinL]
    rw [e, lw_cons, List.length_append, List.length_append]
    simp only [List.length_cons, List.length_nil]
    omega
theorem prn_len (ws : List (List Nat)) : (prn ws).length ≤ lw ws + 2 := by
  have := jn_len ws
  simp [prn]
  omega
theorem nm_len {x : Str} (h : isNm x = true) : (cl x).length ≤ 8 := by
  unfold isNm at h
  rw [Bool.and_eq_true, Bool.and_eq_true, decide_eq_true_eq, decide_eq_true_eq] at h
  have : (cl x).length = x.length := by simp [Str.length]
  omega
theorem ent_len {e : Option Nat} (h : ∀ n, e = some n → n < 3) : (ent e).length ≤ 1 := by
  cases e with
  | none => simp [ent]
  | some n =>
    have := h n rfl
    rw [ent, TL.numL_lt (by omega)]
    simp
mutual
theorem lw_T : ∀ t : Tm, (∀ u ∈ subs t, frm u) → lw (wsT t) + 22 ≤ 60 * size t
  | .act w tab, h => by
    obtain ⟨h1, h2, h3, h4⟩ : frm (.act w tab) := h _ (by rw [subs_eq]; exact List.mem_cons_self)
    have := nm_len h1
    have e : ∀ tab : List (Option Nat), (∀ e ∈ tab, ∀ n, e = some n → n < 3) → lw (tab.map ent) ≤ 2 * tab.length := fun tab => by
      induction tab with
      | nil => intro _; simp [lw]
      | cons a r ih =>
        intro h
        have h1 := ent_len (h a List.mem_cons_self)
        have h2 := ih fun e he => h e (List.mem_cons_of_mem _ he)
        rw [List.map_cons, lw_cons, List.length_cons]
        omega
    have h5 := e tab h4
    have h6 := size_pos (.act w tab)
    rw [wsT, lw_cons, lw_cons]
    have : (cl "do").length = 2 := by decide +kernel
    omega
  | .nam k x, h => by
    obtain ⟨h1, h2⟩ : frm (.nam k x) := h _ (by rw [subs_eq]; exact List.mem_cons_self)
    have := nm_len h1
    have h6 := size_pos (.nam k x)
    have h7 : (cl k).length ≤ 5 := by rcases h2 with rfl | rfl | rfl <;> decide +kernel
    have h0 : lw [] = 0 := rfl
    rw [wsT, lw_cons, lw_cons]
    omega
  | .ser k ts, h => by
    have h1 : frm (.ser k ts) := h _ (by rw [subs_eq]; exact List.mem_cons_self)
    have h7 : (cl k).length ≤ 5 := by rcases h1 with rfl | ⟨rfl | rfl, _⟩ | ⟨rfl, _⟩ <;> decide +kernel
    have h8 := lw_Ts ts (fun u hu => h u (by rw [subs]; exact List.mem_cons_of_mem _ hu))
    have h9 : size (.ser k ts) = 1 + (ts.map size).sum := size_eq _
    rw [wsT, lw_cons]
    omega
  | .cal x ts, h => by
    have h1 : isNm x = true := (show frm (.cal x ts) from h _ (by rw [subs_eq]; exact List.mem_cons_self))
    have := nm_len h1
    have h8 := lw_Ts ts (fun u hu => h u (by rw [subs]; exact List.mem_cons_of_mem _ hu))
    have h9 : size (.cal x ts) = 1 + (ts.map size).sum := size_eq _
    have : (cl "call").length = 4 := by decide +kernel
    rw [wsT, lw_cons, lw_cons]
    omega
  | .sco x t, h => by
    have h1 : isNm x = true := (show frm (.sco x t) from h _ (by rw [subs_eq]; exact List.mem_cons_self))
    have := nm_len h1
    have h8 := lw_T t (fun u hu => h u (by rw [subs]; exact List.mem_cons_of_mem _ hu))
    have h9 : size (.sco x t) = 1 + size t := by rw [size_eq]; simp [kids]
    have h0 : lw [] = 0 := rfl
    have : (cl "scope").length = 5 := by decide +kernel
    have hp := prn_len (wsT t)
    rw [wsT, lw_cons, lw_cons, lw_cons]
    omega
  | .ans ss ts t, h => by
    obtain ⟨_, _, _, _, h1⟩ : frm (.ans ss ts t) := h _ (by rw [subs_eq]; exact List.mem_cons_self)
    have h7 := lw_alt ts ss h1 (fun u hu => h u (by rw [subs]; exact List.mem_cons_of_mem _ (List.mem_append_left _ hu)))
    have h8 := lw_T t (fun u hu => h u (by rw [subs]; exact List.mem_cons_of_mem _ (List.mem_append_right _ hu)))
    have h9 : size (.ans ss ts t) = 1 + ((ts.map size).sum + size t) := by rw [size_eq]; simp [kids]
    have h0 : lw [] = 0 := rfl
    have : (cl "answer").length = 6 := by decide +kernel
    have hp := prn_len (wsT t)
    rw [wsT, lw_cons, lw_app, lw_cons]
    omega
theorem lw_Ts : ∀ ts : List Tm, (∀ u ∈ subss ts, frm u) → lw (cls ts) ≤ 60 * (ts.map size).sum
  | [], _ => by simp [cls, lw]
  | t :: ts, h => by
    have h1 := lw_T t (fun u hu => h u (by rw [subss]; exact List.mem_append_left _ hu))
    have h2 := lw_Ts ts (fun u hu => h u (by rw [subss]; exact List.mem_append_right _ hu))
    have hp := prn_len (wsT t)
    rw [cls, lw_cons, List.map_cons, List.sum_cons]
    omega
theorem lw_alt : ∀ (ts : List Tm) (ss : List Str), (∀ s ∈ ss, isNm s = true) → (∀ u ∈ subss ts, frm u) → lw (alt ts ss) ≤ 60 * (ts.map size).sum
  | [], ss, _, _ => by cases ss <;> simp [alt, lw]
  | t :: ts, [], _, _ => by simp [alt, lw]
  | t :: ts, s :: ss, h0, h => by
    have h1 := lw_T t (fun u hu => h u (by rw [subss]; exact List.mem_append_left _ hu))
    have h2 := lw_alt ts ss (fun s hs => h0 s (List.mem_cons_of_mem _ hs)) (fun u hu => h u (by rw [subss]; exact List.mem_append_right _ hu))
    have hp := prn_len (wsT t)
    have hn := nm_len (h0 s List.mem_cons_self)
    rw [alt, lw_cons, lw_cons, List.map_cons, List.sum_cons]
    omega
end
end K8
/-! open_text, closed_text, body_text -/
namespace K8
open PySem PySem.Spec L2 Evl
open PyProof.Rows hiding St
theorem ext_map {α β : Type} {f : α → β} {ys : List β} {as : List α} (hl : ys.length = as.length) (h : ∀ (i : Nat) y, ys[i]? = some y → ∃ a, as[i]? = some a ∧ y = f a) : ys = as.map f := by
  apply List.ext_getElem?
  intro i
  rw [List.getElem?_map]
  by_cases hi : i < ys.length
  · obtain ⟨a, e1, e2⟩ := h i _ (List.getElem?_eq_getElem hi)
    rw [List.getElem?_eq_getElem hi, e1, e2]
    rfl
  · rw [List.getElem?_eq_none (by omega), List.getElem?_eq_none (by omega)]
    rfl
/-- a word as a value -/
def wv (w : List Nat) : V := .str (SX.S w)
theorem wv_cl (x : Str) : wv (cl x) = .str x := congrArg V.str (SX.S_tl x)
def rJoin (K : PySem.W.Frag) : V → List V → Hp → VK → Prop := fun x xs H Q => ∃ a p, ∃ ys : List Str, x = .str a ∧ xs = [.ref p] ∧ (SqL K H p (ys.map V.str) ∨ SqT K H p (ys.map V.str)) ∧ (ys.map (·.length)).sum + ys.length * a.length ≤ 16777216 ∧ Q (.str (Txt.join a ys)) H
section
variable {X : Cx} {o e : Expr} {to te : TE} {apos pos : Pos}
theorem p_join (K : PySem.W.Frag) (ho : PE X o to) (he : PE X e te) (hK : X.K = K := by rfl) (hs : starEach [e] X.env = [(false, eval e X.env)] := by rfl) (hbase : attributeBase o "join" X.env (eval o X.env) = eval o X.env := by rfl) (hline : (apos.endLine == pos.line) = true := by rfl) :
    PE X (.Call (.Attribute o "join" apos) [e] [] pos) (tM1 (rJoin K) to te) := by
  subst hK
  exact pe_join ho he hs hbase hline
end
theorem r_joinW {K : PySem.W.Frag} {H : Hp} {p : Addr} {ws : List (List Nat)} {Q : VK} (h : SqL K H p (ws.map wv)) (hl : lw ws ≤ 100000) (q : Q (.str (SX.S (jn ws))) H) : rJoin K (.str " ") [.ref p] H Q := by
  refine ⟨" ", p, ws.map SX.S, rfl, rfl, .inl (by rw [List.map_map]; exact h), ?_, ?_⟩
  · have e : ((ws.map SX.S).map (·.length)).sum + (ws.map SX.S).length * (" " : Str).length = lw ws := by
      rw [show (" " : Str).length = 1 by decide +kernel]
      clear h hl q
      induction ws with
      | nil => rfl
      | cons w r ih =>
        rw [lw_cons, List.map_cons, List.map_cons, List.sum_cons, List.length_cons, SX.S_len]
        omega
    omega
  · have e : Txt.join (" " : Str) (ws.map SX.S) = SX.S (jn ws) := SX.join_S [32] ws
    rw [e]
    exact q
theorem kids_frm {t : Tm} (h : ∀ u ∈ subs t, frm u) {k : Tm} (hk : k ∈ kids t) : ∀ u ∈ subs k, frm u := fun u hu => h u (by rw [subs_eq]; exact List.mem_cons_of_mem _ (List.mem_flatMap.mpr ⟨k, hk, hu⟩))
theorem kids_size {t k : Tm} (hk : k ∈ kids t) : size k ≤ size t := by
  rw [size_eq t]
  generalize kids t = ks at hk
  induction ks with
  | nil => cases hk
  | cons a r ih =>
    rw [List.map_cons, List.sum_cons]
    rcases List.mem_cons.mp hk with e | hk
    · subst e; omega
    · have := ih hk; omega
section
variable {P : Program} {w : World} {K : PySem.W.Frag} {mg : Str → Option Value} {base : Heap}
def spOpen (K : PySem.W.Frag) (n : Nat) : Sp := fun vs H Q _ => ∃ (v : V) (t : Tm), vs = [v] ∧ Dp K H v (toD t) ∧ (∀ u ∈ subs t, frm u) ∧ dep t ≤ n ∧ size t ≤ 1000 ∧ ∀ H', Ex H H' → Q (.str (opS t)) H'
def spClo (K : PySem.W.Frag) (n : Nat) : Sp := fun vs H Q _ => ∃ (v : V) (t : Tm), vs = [v] ∧ Dp K H v (toD t) ∧ (∀ u ∈ subs t, frm u) ∧ dep t ≤ n ∧ size t ≤ 1000 ∧ ∀ H', Ex H H' → Q (.str (clS t)) H'
theorem c_closed {n k : Nat} (D : Dfn K mg "closed_text" (top 49) ["term"]) (C : Cal P w K mg base k "open_text" (spOpen K n)) : Cal P w K mg base (k + 1) "closed_text" (spClo K n) := by
  refine D.cal (N := ["term"]) (by decide +kernel) (fun vs H Q E h => ?_) fun f cdv A outer s H vs Q E hr nd h => ?_
  · obtain ⟨v, t, rfl, _⟩ := h
    rfl
  obtain ⟨v, t, rfl, hd, hf, hdp, hsz, q⟩ := h
  refine ⟨_, pss_one (ps_ret (pe_joined (.cons pe_str (.cons (pe_fmt (pe_c C hr (Nat.le_refl _) (pa_cons (pv 0) pa_nil))) (.cons pe_str .nil))))), ?_⟩
  have hl := lw_T t hf
  have hj := jn_len (wsT t)
  walk_at "rds"
  refine ⟨"(", rfl, Nat.le_of_lt (small (by decide +kernel)), v, rfl, v, t, rfl, hd, hf, hdp, hsz, fun H1 e1 => .inl ⟨opS t, rfl, Nat.le_of_lt (small (by unfold opS; rw [SX.S_len]; omega)), opS t, rfl, Nat.le_of_lt (small ?_), ")", rfl, Nat.le_of_lt (small ?_), ?_⟩⟩
  · show ((SX.S [] ++ SX.S [40]) ++ SX.S (jn (wsT t))).length ≤ 100000
    rw [SX.S_cat, SX.S_cat, SX.S_len]
    simp only [List.nil_append, List.length_append, List.length_cons, List.length_nil]
    omega
  · show (((SX.S [] ++ SX.S [40]) ++ SX.S (jn (wsT t))) ++ SX.S [41]).length ≤ 100000
    rw [SX.S_cat, SX.S_cat, SX.S_cat, SX.S_len]
    simp only [List.nil_append, List.length_append, List.length_cons, List.length_nil]
    omega
  · show Q (.str (((SX.S [] ++ SX.S [40]) ++ SX.S (jn (wsT t))) ++ SX.S [41])) H1
    rw [SX.S_cat, SX.S_cat, SX.S_cat]
    exact q H1 e1
theorem r_fmt {te : TE} {σ : L2.St} {H : Hp} {Q : VK} (q : te σ H fun x H1 => (∃ y : Str, x = .str y ∧ y.length ≤ sizeLine ∧ Q (.str y) H1) ∨ ∃ i : Int, x = .int i ∧ i.natAbs.log2 < 1920 ∧ Q (.str (toString i)) H1) : tFmt te σ H Q := q
theorem alt_snoc : ∀ {ts : List Tm} {ss : List Str} {i : Nat} {t : Tm} {s : Str}, ts[i]? = some t → ss[i]? = some s → alt (ts.take (i + 1)) (ss.take (i + 1)) = alt (ts.take i) (ss.take i) ++ [cl s, prn (wsT t)]
  | [], _, _, _, _, h, _ => by simp at h
  | _ :: _, [], _, _, _, _, h => by simp at h
  | a :: ts, b :: ss, 0, t, s, h1, h2 => by
    cases (show some a = some t from h1)
    cases (show some b = some s from h2)
    simp [alt]
  | a :: ts, b :: ss, i + 1, t, s, h1, h2 => by
    have ih := alt_snoc (ts := ts) (ss := ss) (i := i) h1 h2
    rw [List.take_succ_cons, List.take_succ_cons, List.take_succ_cons, List.take_succ_cons, alt, alt, ih]
    rfl
theorem alt_len : ∀ (ts : List Tm) (ss : List Str), (alt ts ss).length ≤ 2 * ts.length
  | [], ss => by cases ss <;> simp [alt]
  | t :: ts, [] => by simp [alt]
  | t :: ts, s :: ss => by
    have := alt_len ts ss
    simp [alt]
    omega
theorem r_jsC {t : TE} {ts : List TE} {acc : Str} {σ : L2.St} {H : Hp} {Q : Str → Hp → Prop} (q : t σ H fun x H1 => ∃ y : Str, x = .str y ∧ (acc ++ y).length ≤ sizeLine ∧ tJs ts (acc ++ y) σ H1 Q) : tJs (t :: ts) acc σ H Q := q
theorem str_app_len (x y : Str) : (x ++ y).length = x.length + y.length := by rw [TL.len_tl, TL.tl_append, List.length_append, ← TL.len_tl, ← TL.len_tl]
theorem kw_cl {k : Str} {w : List Nat} (h : cl k = w) : V.str k = wv w := by rw [← h, wv_cl]
theorem c_open {n k : Nat} (D : Dfn K mg "open_text" (top 48) ["term"]) (T : Txt K mg) (C : Cal P w K mg base k "closed_text" (spClo K n)) : Cal P w K mg base (k + 1) "open_text" (spOpen K (n + 1)) := by
  refine D.cal (N := ["term", "word", "table", "name", "terms", "answers", "inner", "parts", "mode", "one", "signal", "part"]) (by decide +kernel) (fun vs H Q E h => ?_) fun f cdv A outer s H vs Q E hr nd h => ?_
  · obtain ⟨v, t, rfl, _⟩ := h
    rfl
  obtain ⟨v, t, rfl, hd, hf, hdp, hsz, q⟩ := h
  have hft : frm t := hf t (by rw [subs_eq]; exact List.mem_cons_self)
  have hlw := lw_T t hf
  refine ⟨_, pss_cons (ps_match (pv 0)
      (pm_A K 2 nd .one (.cons (.cons .nil)) (so (j := 1) (so (j := 2) .nil)) (pss_one (ps_ret (p_join K pe_str (pe_lst (pa_cons pe_str (pa_cons (pv 1) (p_star K (pe_lc (own := [("mode", 8)]) (g := gName 8) (tt := tYes) rfl nd (pi_tup (pv 2)) (blkOk_by (N := ["term", "word", "table", "name", "terms", "answers", "inner", "parts", "mode", "one", "signal", "part"]) (sc := defScope (top 48)) (by decide +kernel))
        (fun _ _ _ _ _ => pg_name (i := 8) nd rfl (Or.inl rfl)) (fun _ _ _ _ _ => pts_nil) (fun _ _ _ _ _ => pe_ifExp (pt_cmp (pc_isN (pv 8))) pe_str (pe_callTy call_str_int rfl T.str boot_str (pa_cons (pv 8) pa_nil)))) pa_nil)))))))
      (pm_A K 1 nd (.many (.cons (.cons (.cons .nil)))) (.cons .nil) (so (j := 3) .nil) (pss_one (ps_ret (pe_joined (.cons (pe_fmt (p_ixT (K := K) (pv 0) pe_int)) (.cons pe_str (.cons (pe_fmt (pv 3)) .nil))))))
      (pm_B K 1 nd (.many (.cons (.cons .nil))) (.cons .nil) (so (j := 3) (so (j := 4) .nil)) (pss_one (ps_ret (p_join K pe_str (pe_lst (pa_cons (p_ixT (K := K) (pv 0) pe_int) (pa_cons (pv 3) (p_star K (pe_lc (own := [("one", 9)]) (g := gName 9) (tt := tYes) rfl nd (pi_list (pv 4)) (blkOk_by (N := ["term", "word", "table", "name", "terms", "answers", "inner", "parts", "mode", "one", "signal", "part"]) (sc := defScope (top 48)) (by decide +kernel))
        (fun _ _ _ _ _ => pg_name (i := 9) nd rfl (Or.inl rfl)) (fun _ _ _ _ _ => pts_nil) (fun _ _ _ _ _ => pe_c C hr (Nat.le_refl _) (pa_cons (pv 9) pa_nil))) pa_nil)))))))
      (pm_A K 2 nd .one (.cons (.cons .nil)) (so (j := 5) (so (j := 6) .nil)) (pss_cons (ps_setLc2 (i := 7) (own := [("signal", 10), ("one", 9), ("part", 11)]) (vs1 := [11]) (g := gTup K 2 (gCons (gName 10) (gCons (gName 9) gNil))) (tt := tYes) (g1 := gName 11) (tt1 := tYes) rfl nd rfl rfl rfl (pi_tup (pv 5)) (blkOk_by (N := ["term", "word", "table", "name", "terms", "answers", "inner", "parts", "mode", "one", "signal", "part"]) (sc := defScope (top 48)) (by decide +kernel)) (by decide)
        (fun _ _ _ _ _ => pg_tup rfl (pgs_cons (pg_name (i := 10) nd rfl (Or.inl rfl)) (pgs_cons (pg_name (i := 9) nd rfl (Or.inl rfl)) pgs_nil))) (fun _ _ _ _ _ => pts_nil) (fun _ _ _ _ _ => p_iT K (pe_tup (pa_cons (pv 10) (pa_cons (pe_c C hr (Nat.le_refl _) (pa_cons (pv 9) pa_nil)) pa_nil)))) (fun _ _ _ _ _ => pg_name (i := 11) nd rfl (Or.inl rfl)) (fun _ _ _ _ _ => pts_nil) (fun _ _ _ _ _ => pv 11))
        (pss_one (ps_ret (p_join K pe_str (pe_lst (pa_cons pe_str (p_star K (pv 7) (pa_cons (pe_c C hr (Nat.le_refl _) (pa_cons (pv 6) pa_nil)) pa_nil))))))))
      pms_nil)))))
    (pss_one (ps_ret (p_join K pe_str (pe_lst (pa_cons (p_ixT (K := K) (pv 0) pe_int) (p_star K (pe_lc (own := [("one", 9)]) (g := gName 9) (tt := tYes) rfl nd (pi_tup (pe_slice sl_anyT (pv 0) (po_some pe_int) po_none)) (blkOk_by (N := ["term", "word", "table", "name", "terms", "answers", "inner", "parts", "mode", "one", "signal", "part"]) (sc := defScope (top 48)) (by decide +kernel))
        (fun _ _ _ _ _ => pg_name (i := 9) nd rfl (Or.inl rfl)) (fun _ _ _ _ _ => pts_nil) (fun _ _ _ _ _ => pe_c C hr (Nat.le_refl _) (pa_cons (pv 9) pa_nil))) pa_nil)))))), ?_⟩
  have hwl : (wsT t).length ≤ lw (wsT t) := by
    generalize wsT t = ws
    induction ws with
    | nil => exact Nat.zero_le _
    | cons a r ih => rw [lw_cons, List.length_cons]; omega
  have fin : ∀ (xs : List V) (H1 : Hp), Ex H H1 → xs = (wsT t).map wv → xs.length ≤ sizeLine ∧ ∀ p, H1 p = none → rJoin K (.str " ") [.ref p] (upd H1 p (.lst xs)) Q := fun xs H1 e1 ex => by
    subst ex
    refine ⟨Nat.le_of_lt (small (by rw [List.length_map]; omega)), fun p hp => r_joinW (SqL.of upd_same) (by omega) (q _ (e1.trans (Ex.new hp)))⟩
  -- the closed texts of some kids
  have kid : ∀ {ts : List Tm} {i : Nat} {x : V} {xs : List V} {H1 : Hp} {Q : VK}, (∀ k ∈ ts, k ∈ kids t) → DpAll K H1 xs (toDs ts) → xs[i]? = some x → (∀ k H', ts[i]? = some k → Ex H1 H' → Q (wv (prn (wsT k))) H') → spClo K n [x] H1 Q E0 := fun {ts i x xs H1 Q} hk hx hi q => by
    obtain ⟨d, e1, e2⟩ := hx.at hi
    rw [toDs_map, List.getElem?_map] at e1
    cases hts : ts[i]? with
    | none => rw [hts] at e1; cases e1
    | some k =>
      rw [hts] at e1
      cases e1
      have hkm := hk k (List.mem_of_getElem? hts)
      have := dep_kids hkm
      have := kids_size hkm
      exact ⟨x, k, rfl, e2, kids_frm hf hkm, by omega, by omega, fun H' e => q k H' hts e⟩
  have klen : ∀ {ts : List Tm}, ts.length ≤ (kids t).length → ts.length ≤ 1000 := fun {ts} h => by
    have h2 : (kids t).length ≤ ((kids t).map size).sum := by
      generalize kids t = ks
      induction ks with
      | nil => simp
      | cons a r ih => simp; have := size_pos a; omega
    have := size_eq t
    omega
  walk_at "rds"
  cases t with
  | act wd tab =>
    obtain ⟨a', u, rfl, hs, ht⟩ := dp_act hd
    obtain ⟨b, es, rfl, hb, hes⟩ := dp_tup ht
    obtain ⟨n1, n2, n3, n4⟩ := hft
    have hl : es.length = tab.length := by rw [hes.len, List.length_map]
    walk_at "mh"
    walk_at "rds"
    refine ⟨⟨_, rfl⟩, ?_⟩
    walk_at "rds"
    refine ⟨b, rfl, ⟨_, hb⟩, lc_pure over_tup (fun H2 e2 => ex_t e2 hb) (fun i y _ => ∃ o, tab[i]? = some o ∧ y = wv (ent o)) (fun _ _ _ _ _ h => h) (small (by omega)) (fun i x H1 hi e hx Q q => ?_) fun D H2 ys hD e2 h hyl hall => ?_⟩
    · obtain ⟨o, ho, rfl⟩ := ent_at hes hx
      refine r_name ⟨rfl, ?_⟩
      walk_at "rds"
      cases o with
      | none =>
        refine r_isN ?_
        walk_at "rds"
        exact q _ _ (Ex.refl _) ⟨none, ho, rfl⟩
      | some m =>
        have hm := n4 _ (List.mem_of_getElem? ho) m rfl
        refine r_isN ?_
        walk_at "rds"
        refine r_no (by simp) ?_
        walk_at "rds"
        refine ⟨m, rfl, Nat.lt_of_le_of_lt (Nat.log2_le_self _) (by show (Int.natAbs ((m : Nat) : Int)) < 1920; omega), ?_⟩
        exact q _ _ (Ex.refl _) ⟨some m, ho, congrArg V.str (SX.num_S m)⟩
    · walk_at "rds"
      refine ⟨D, ys, rfl, .inr (SqL.of h), ?_⟩
      walk_at "rds"
      have hys := ext_map (f := fun o => wv (ent o)) (as := tab) (by rw [hyl, hl]) hall
      refine fin _ _ e2 ?_
      rw [hys, wsT, List.map_cons, List.map_cons, wv_cl, wv_cl, List.append_nil, List.map_map]
      rfl
  | nam k x =>
    obtain ⟨a', rfl, hs⟩ := dp_nam hd
    obtain ⟨n1, n2⟩ := hft
    have hk5 : (cl k).length ≤ 5 := by rcases n2 with rfl | rfl | rfl <;> decide +kernel
    have hx8 := nm_len n1
    have go : tJs [tFmt (tOp (rIxT K) (tVar 0) (tC (.int 0))), tC (.str " "), tFmt (tVar 3)] Str.empty [some (.ref a'), none, none, some (.str x), none, none, none, none, none, none, none, none] H fun out H1 => Q (.str out) H1 := by
      have lk : k.length ≤ 5 := by rw [TL.len_tl]; exact hk5
      have lx : x.length ≤ 8 := by rw [TL.len_tl]; exact hx8
      refine r_jsC (r_fmt ?_)
      walk_at "rds"
      refine r_ixT hs r_at0 ?_
      refine .inl ⟨k, rfl, Nat.le_of_lt (small (by omega)), k, rfl, Nat.le_of_lt (small (by rw [str_app_len]; show 0 + _ ≤ _; omega)), r_jsC ?_⟩
      refine ⟨" ", rfl, Nat.le_of_lt (small (by rw [str_app_len, str_app_len, show (" " : Str).length = 1 by decide +kernel]; show 0 + _ + _ ≤ _; omega)), r_jsC (r_fmt ?_)⟩
      walk_at "rds"
      refine .inl ⟨x, rfl, Nat.le_of_lt (small (by omega)), x, rfl, Nat.le_of_lt (small (by rw [str_app_len, str_app_len, str_app_len, show (" " : Str).length = 1 by decide +kernel]; show 0 + _ + _ + _ ≤ _; omega)), ?_⟩
      have e : ∀ a b : List Nat, (((SX.S [] ++ SX.S a) ++ SX.S [32]) ++ SX.S b) = SX.S (jn [a, b]) := fun a b => by
        rw [SX.S_cat, SX.S_cat, SX.S_cat]
        simp [jn, TL.joinL]
      have e2 := e (cl k) (cl x)
      rw [SX.S_tl, SX.S_tl] at e2
      have q2 := q H (Ex.refl H)
      unfold opS at q2
      rw [wsT, ← e2] at q2
      exact q2
    rcases n2 with rfl | rfl | rfl
    all_goals
      repeat walk_at "mm"
      walk_at "mh"
      walk_at "rds"
      exact go
  | ser k ts =>
    obtain ⟨a', xs, rfl, hs, ha⟩ := dp_ser hd
    have hxl : xs.length = ts.length := by rw [ha.len, toDs_len]
    have htl : ts.length ≤ 1000 := klen (Nat.le_refl _)
    have go : (∃ a, V.str " " = V.str a) ∧ tLst (tCons (tOp (rIxT K) (tVar 0) (tC (.int 0))) (StX.tStar K (tLc (iTup K (tSl (fun x lo hi H Q => rSlT K x lo hi H Q ∨ rSlTW K x lo hi H Q) (tVar 0) (tPart (tC (.int 1))) tNoPart)) (gName 9) tYes (tCall (spClo K n) [] E0 (tCons (tVar 9) tNil)) [9]) tNil))
        [some (.ref a'), none, none, none, none, none, none, none, none, none, none, none] H fun y H2 => rJoin K (.str " ") [y] H2 Q := by
      refine ⟨⟨_, rfl⟩, ?_⟩
      walk_at "rds"
      refine r_ixT hs r_at0 ?_
      walk_at "rds"
      refine r_slT (k := 1) hs fun p H1 e h1 => ?_
      have h1' : SqT K H1 p xs := h1
      refine ⟨p, rfl, ⟨_, h1'⟩, lc_pure over_tup (fun H2 e2 => ex_t e2 h1') (fun i y _ => ∃ k, ts[i]? = some k ∧ y = wv (prn (wsT k))) (fun _ _ _ _ _ h => h) (small (by omega)) (fun i x H2 hi e2 hx Q q => ?_) fun D H2 ys hD e2 h hyl hall => ?_⟩
      · refine r_name ⟨rfl, ?_⟩
        walk_at "rds"
        exact kid (ts := ts) (fun k hk => hk) (DpAll.ex (e.trans e2) _ _ ha) hx fun k H' hk e' => q _ _ e' ⟨k, hk, rfl⟩
      · walk_at "rds"
        refine ⟨D, ys, rfl, .inr (SqL.of h), ?_⟩
        walk_at "rds"
        have hys := ext_map (f := fun k => wv (prn (wsT k))) (as := ts) (by rw [hyl, hxl]) hall
        refine fin _ _ (e.trans e2) ?_
        rw [hys, wsT, List.map_cons, wv_cl, cls_map, List.append_nil, List.map_map]
        rfl
    rcases hft with rfl | ⟨rfl | rfl, _⟩ | ⟨rfl, _⟩
    all_goals
      repeat walk_at "mm"
      walk_at "rds"
      exact go
  | cal x ts =>
    obtain ⟨a', xs, rfl, hs, ha⟩ := dp_cal hd
    have hxl : xs.length = ts.length := by rw [ha.len, toDs_len]
    have htl : ts.length ≤ 1000 := klen (Nat.le_refl _)
    repeat walk_at "mm"
    refine r_mBh hs (by rw [List.length_cons]; exact Nat.le_add_left _ _) (by decide +kernel) fun p hp => ?_
    walk_at "rds"
    refine ⟨⟨_, rfl⟩, ?_⟩
    walk_at "rds"
    have e1 : Ex H (upd H p (.lst (List.drop 1 (.str x :: xs)))) := Ex.new hp
    have h1 : (upd H p (.lst (List.drop 1 (.str x :: xs)))) p = some (.lst xs) := upd_same
    refine r_ixT (ex_t e1 hs) r_at0 ?_
    walk_at "rds"
    refine ⟨p, rfl, ⟨_, SqL.of h1⟩, lc_pure (over_list (xs := xs)) (fun H2 e2 => SqL.of (e2 _ _ h1)) (fun i y _ => ∃ k, ts[i]? = some k ∧ y = wv (prn (wsT k))) (fun _ _ _ _ _ h => h) (small (by omega)) (fun i x H2 hi e2 hx Q q => ?_) fun D H2 ys hD e2 h hyl hall => ?_⟩
    · refine r_name ⟨rfl, ?_⟩
      walk_at "rds"
      exact kid (ts := ts) (fun k hk => hk) (DpAll.ex (e1.trans e2) _ _ ha) hx fun k H' hk e' => q _ _ e' ⟨k, hk, rfl⟩
    · walk_at "rds"
      refine ⟨D, ys, rfl, .inr (SqL.of h), ?_⟩
      walk_at "rds"
      have hys := ext_map (f := fun k => wv (prn (wsT k))) (as := ts) (by rw [hyl, hxl]) hall
      refine fin _ _ (e1.trans e2) ?_
      rw [hys, wsT, List.map_cons, List.map_cons, wv_cl, wv_cl, cls_map, List.append_nil, List.map_map]
      rfl
  | sco x t =>
    obtain ⟨a', u, rfl, hs, hu⟩ := dp_sco hd
    repeat walk_at "mm"
    refine r_mBh hs (by rw [List.length_cons]; exact Nat.le_add_left _ _) (by decide +kernel) fun p hp => ?_
    walk_at "rds"
    refine ⟨⟨_, rfl⟩, ?_⟩
    walk_at "rds"
    have e1 : Ex H (upd H p (.lst (List.drop 1 [.str x, u]))) := Ex.new hp
    have h1 : (upd H p (.lst (List.drop 1 [.str x, u]))) p = some (.lst [u]) := upd_same
    refine r_ixT (ex_t e1 hs) r_at0 ?_
    walk_at "rds"
    have ha : DpAll K H [u] (toDs [t]) := by rw [toDs, toDs]; exact .cons hu .nil
    refine ⟨p, rfl, ⟨_, SqL.of h1⟩, lc_pure (over_list (xs := [u])) (fun H2 e2 => SqL.of (e2 _ _ h1)) (fun i y _ => ∃ k, [t][i]? = some k ∧ y = wv (prn (wsT k))) (fun _ _ _ _ _ h => h) (small (by simp)) (fun i x H2 hi e2 hx Q q => ?_) fun D H2 ys hD e2 h hyl hall => ?_⟩
    · refine r_name ⟨rfl, ?_⟩
      walk_at "rds"
      exact kid (ts := [t]) (fun k hk => hk) (DpAll.ex (e1.trans e2) _ _ ha) hx fun k H' hk e' => q _ _ e' ⟨k, hk, rfl⟩
    · walk_at "rds"
      refine ⟨D, ys, rfl, .inr (SqL.of h), ?_⟩
      walk_at "rds"
      have hys := ext_map (f := fun k => wv (prn (wsT k))) (as := [t]) (by rw [hyl]; rfl) hall
      refine fin _ _ (e1.trans e2) ?_
      rw [hys, wsT]
      show [V.str "scope", V.str x, wv (prn (wsT t))] = [wv (cl "scope"), wv (cl x), wv (prn (wsT t))]
      rw [wv_cl, wv_cl]
  | ans ss ts t =>
    obtain ⟨a', b, u, rfl, hs, hb, hu⟩ := dp_ans hd
    obtain ⟨o1, o2, o3, o4, o5⟩ := hft
    obtain ⟨b', ps, rfl, hps, hpl, hp⟩ := dp_prs hb o1
    have htl : (ts ++ [t]).length ≤ 1000 := klen (Nat.le_refl _)
    rw [List.length_append, List.length_singleton] at htl
    repeat walk_at "mm"
    walk_at "mh"
    walk_at "rds"
    refine r_lc2 ?_
    walk_at "rds"
    refine ⟨b', rfl, ⟨_, hps⟩, fun D hD => ?_⟩
    have O1 := over_tup (K := K) (a := b') (xs := ps)
    refine ⟨fun i m H' => m = ps.length - i ∧ i ≤ ps.length ∧ Ex H H' ∧ H' D = some (.lst ((alt (ts.take i) (ss.take i)).map wv)), ⟨_, rfl, Nat.zero_le _, Ex.new hD, by simp [alt, upd_same]⟩, ?_⟩
    rintro i m H5 ⟨rfl, hi, e5, hd5⟩
    by_cases hlt : i < ps.length
    · refine .inr ⟨O1.go i H5 (ex_t e5 hps) hlt, fun H' => Ex H H' ∧ H' D = some (.lst ((alt (ts.take (i + 1)) (ss.take (i + 1))).map wv)), fun H' p' => ⟨ps.length - (i + 1), by omega, rfl, hlt, p'⟩, fun x H6 y => ?_⟩
      obtain ⟨e6, y'⟩ := O1.yld i H5 x H6 (ex_t e5 hps) hlt y
      have e56 := e5.trans e6
      obtain ⟨c, sg, tk, uk, g1, g2, rfl, g3, g4⟩ := (hp i x y').ex e56
      have hkm : tk ∈ kids (.ans ss ts t) := List.mem_append_left _ (List.mem_of_getElem? g2)
      have hd6 := e6 _ _ hd5
      refine r_gTup g3 rfl (r_gCons (r_name (r_gCons (r_name (r_gNil ⟨rfl, r_tyes (iteT ?_)⟩)))))
      walk_at "rds"
      have d1 := dep_kids hkm
      have d2 := kids_size hkm
      refine ⟨uk, tk, rfl, g4, kids_frm hf hkm, by omega, by omega, fun H7 e7 => ?_⟩
      walk_at "rds"
      refine ⟨Nat.le_of_lt (small (by simp)), fun pT hpT => ?_⟩
      have e78 : Ex H7 (upd H7 pT (.tup [.str sg, .str (clS tk)])) := Ex.new hpT
      have hT : SqT K (upd H7 pT (.tup [.str sg, .str (clS tk)])) pT [.str sg, .str (clS tk)] := SqT.of upd_same
      generalize upd H7 pT (.tup [.str sg, .str (clS tk)]) = H8 at *
      have hd8 := e78 _ _ (e7 _ _ hd6)
      have e08 := e56.trans (e7.trans e78)
      have hfresh : ∀ H', Ex H H' → True := fun _ _ => trivial
      refine ⟨pT, rfl, ⟨_, hT⟩, ?_⟩
      have O2 := over_tup (K := K) (a := pT) (xs := [V.str sg, .str (clS tk)])
      have hal := alt_len (ts.take i) (ss.take i)
      have htk : (ts.take i).length ≤ ts.length := by rw [List.length_take]; omega
      refine ⟨fun j m H' => m = 2 - j ∧ j ≤ 2 ∧ Ex H H' ∧ SqT K H' pT [V.str sg, .str (clS tk)] ∧ H' D = some (.lst ((alt (ts.take i) (ss.take i)).map wv ++ [V.str sg, .str (clS tk)].take j)), ⟨_, rfl, Nat.zero_le _, e08, hT, by rw [List.take_zero, List.append_nil]; exact hd8⟩, ?_⟩
      rintro j m H9 ⟨rfl, hj, e9, hT9, hd9⟩
      by_cases hjl : j < 2
      · refine .inr ⟨O2.go j H9 hT9 hjl, fun H' => Ex H H' ∧ SqT K H' pT [V.str sg, .str (clS tk)] ∧ H' D = some (.lst ((alt (ts.take i) (ss.take i)).map wv ++ [V.str sg, .str (clS tk)].take (j + 1))), fun H' p' => ⟨2 - (j + 1), by omega, rfl, hjl, p'⟩, fun x Ha y => ?_⟩
        obtain ⟨ea, ya⟩ := O2.yld j H9 x Ha hT9 hjl y
        refine r_name ⟨rfl, r_tyes (iteT ?_)⟩
        walk_at "rds"
        have hda := ea _ _ hd9
        refine ⟨_, hda, small (by simp; omega), Ex.mut (e9.trans ea) hD, kx_t ((Kx.of ea).trans (Kx.upd hda rfl)) hT9, ?_⟩
        rw [upd_same, List.append_assoc, List.take_add_one, ya]
        rfl
      · have ej : j = 2 := by omega
        subst ej
        refine .inl ⟨O2.stop _ H9 hT9 (Nat.le_refl _), e9, ?_⟩
        rw [hd9, alt_snoc g2 g1, List.map_append, List.map_cons, List.map_cons, wv_cl]
        rfl
    have ei : i = ps.length := by omega
    subst ei
    refine .inl ⟨O1.stop _ H5 (ex_t e5 hps) (Nat.le_refl _), ?_⟩
    rw [List.take_of_length_le (by omega), List.take_of_length_le (by omega)] at hd5
    walk_at "rds"
    refine ⟨⟨_, rfl⟩, ?_⟩
    walk_at "rds"
    refine ⟨D, _, rfl, .inr (SqL.of hd5), ?_⟩
    walk_at "rds"
    have hkm : t ∈ kids (.ans ss ts t) := List.mem_append_right _ (List.mem_singleton.mpr rfl)
    have d1 := dep_kids hkm
    have d2 := kids_size hkm
    refine ⟨u, t, rfl, Dp.ex e5 _ _ hu, kids_frm hf hkm, by omega, by omega, fun H7 e7 => ?_⟩
    walk_at "rds"
    refine fin _ _ (e5.trans e7) ?_
    rw [wsT, List.map_cons, wv_cl, List.map_append]
    rfl
end
end K8
/-! body_text, write_program -/
namespace K8
open PySem PySem.Spec L2 Evl
open PyProof.Rows hiding St
def bare : List Str := ["do", "run", "exit", "raise"]
def bdL (t : Tm) : List Nat := if hd1 t ∈ bare then jn (wsT t) else prn (wsT t)
def bdS (t : Tm) : Str := SX.S (bdL t)
def headW (p : Pl) : List (List Nat) := cl "program" :: TL.numL p.modes :: p.sigs.map cl
def lineW (r : Rw) : List (List Nat) := cl "proc" :: cl r.name :: (r.own.map cl ++ [cl ":", bdL r.body])
def linesL (p : Pl) : List (List Nat) := jn (headW p) :: p.rows.map fun r => jn (lineW r)
def textL (p : Pl) : List Nat := TL.joinL [10] (linesL p)
def txP (p : Pl) : Str := SX.S (textL p)
theorem bdL_len (t : Tm) : (bdL t).length ≤ lw (wsT t) + 2 := by
  unfold bdL
  split
  · have := jn_len (wsT t); omega
  · exact prn_len _
theorem lw_nms : ∀ {xs : List Str}, (∀ x ∈ xs, isNm x = true) → lw (xs.map cl) ≤ 9 * xs.length
  | [], _ => by simp [lw]
  | x :: r, h => by
    have h1 := nm_len (h x List.mem_cons_self)
    have h2 := lw_nms fun y hy => h y (List.mem_cons_of_mem _ hy)
    rw [List.map_cons, lw_cons, List.length_cons]
    omega
theorem line_len {r : Rw} (g : Gd r) : lw (lineW r) ≤ 2500 := by
  have hf := g.frm
  obtain ⟨c, _, _, ok⟩ := g
  have h1 := nm_len ok.nm
  have h2 := lw_nms ok.own.1
  have h3 := ok.own.2.2
  have h4 := bdL_len r.body
  have h5 := lw_T r.body hf
  have h6 := ok.bd.sz
  have h7 : (cl "proc").length = 4 := by decide +kernel
  have h8 : (cl ":").length = 1 := by decide +kernel
  have h0 : lw [] = 0 := rfl
  unfold lineW
  rw [lw_cons, lw_cons, lw_app, lw_cons, lw_cons]
  omega
theorem head_len {p : Pl} (ok : OkPl p) : lw (headW p) ≤ 40 := by
  have h1 := ok.m3
  have h2 := lw_nms ok.sg.1
  have h3 := ok.sg.2.2
  have h4 : (cl "program").length = 7 := by decide +kernel
  have h5 : (TL.numL p.modes).length = 1 := by rw [TL.numL_lt (by omega)]; rfl
  unfold headW
  rw [lw_cons, lw_cons]
  omega
theorem r_joinC {K : PySem.W.Frag} {H : Hp} {p : Addr} {ws : List (List Nat)} {Q : VK} {sep : Str} {c : Nat} (hs : sep = SX.S [c]) (h : SqL K H p (ws.map wv)) (hl : lw ws ≤ 100000) (q : Q (.str (SX.S (TL.joinL [c] ws))) H) : rJoin K (.str sep) [.ref p] H Q := by
  refine ⟨sep, p, ws.map SX.S, rfl, rfl, .inl (by rw [List.map_map]; exact h), ?_, ?_⟩
  · have e : ((ws.map SX.S).map (·.length)).sum + (ws.map SX.S).length * sep.length = lw ws := by
      rw [hs, SX.S_len]
      clear h hl q
      induction ws with
      | nil => rfl
      | cons w r ih =>
        rw [lw_cons, List.map_cons, List.map_cons, List.sum_cons, List.length_cons, SX.S_len]
        simp only [List.length_cons, List.length_nil] at ih ⊢
        omega
    omega
  · have e : Txt.join sep (ws.map SX.S) = SX.S (TL.joinL [c] ws) := by rw [hs]; exact SX.join_S [c] ws
    rw [e]
    exact q
section
variable {P : Program} {w : World} {K : PySem.W.Frag} {mg : Str → Option Value} {base : Heap} {C C2 : Addr}
theorem c_oc (Do : Dfn K mg "open_text" (top 48) ["term"]) (Dc : Dfn K mg "closed_text" (top 49) ["term"]) (T : Txt K mg) : ∀ n, Cal P w K mg base (2 * n + 1) "open_text" (spOpen K n) ∧ Cal P w K mg base (2 * n + 2) "closed_text" (spClo K n)
  | 0 => by
    have h : Cal P w K mg base 1 "open_text" (spOpen K 0) := by
      refine Do.cal (N := ["term", "word", "table", "name", "terms", "answers", "inner", "parts", "mode", "one", "signal", "part"]) (by decide +kernel) (fun vs H Q E h => ?_) fun f cdv A outer s H vs Q E hr nd h => ?_
      · obtain ⟨v, t, rfl, _⟩ := h
        rfl
      · obtain ⟨v, t, rfl, _, _, h, _⟩ := h
        have := dep_pos t
        omega
    exact ⟨h, c_closed Dc h⟩
  | n + 1 => by
    have h := c_open (n := n) Do T (c_oc Do Dc T n).2
    exact ⟨h, c_closed Dc h⟩
def spBdT (K : PySem.W.Frag) : Sp := fun vs H Q _ => ∃ (v : V) (t : Tm), vs = [v] ∧ Dp K H v (toD t) ∧ (∀ u ∈ subs t, frm u) ∧ dep t ≤ 6 ∧ size t ≤ 1000 ∧ ∀ H', Ex H H' → Q (.str (bdS t)) H'
theorem c_body_text (D : Dfn K mg "body_text" (top 50) ["term"]) (T : Txt K mg) (C1 : Cal P w K mg base 13 "open_text" (spOpen K 6)) (C2 : Cal P w K mg base 14 "closed_text" (spClo K 6)) : Cal P w K mg base 15 "body_text" (spBdT K) := by
  refine D.cal (N := ["term"]) (by decide +kernel) (fun vs H Q E h => ?_) fun f cdv A outer s H vs Q E hr nd h => ?_
  · obtain ⟨v, t, rfl, _⟩ := h
    rfl
  obtain ⟨v, t, rfl, hd, hf, hdp, hsz, q⟩ := h
  obtain ⟨ba, hba, hbare⟩ := T.BARE
  obtain ⟨p, r, rfl, hs, hx⟩ := dp_hd hd
  refine ⟨_, pss_one (ps_ret (pe_ifExp (pt_cmpR op_in_seq (p_ixT (K := K) (pv 0) pe_int) (C8.pe_gc (v := .ref ba) rfl ⟨_, hba, rfl⟩) rfl) (pe_c C1 hr (by decide) (pa_cons (pv 0) pa_nil)) (pe_c C2 hr (by decide) (pa_cons (pv 0) pa_nil)))), ?_⟩
  walk_at "rds"
  refine r_ixT hs r_at0 ?_
  walk_at "rds"
  refine r_inT (zs := bare) (hbare _) (r_bl ?_)
  by_cases e : hd1 t ∈ bare
  · refine r_yes e ?_
    walk_at "rds"
    refine ⟨_, t, rfl, hd, hf, hdp, hsz, fun H' e' => ?_⟩
    have := q H' e'
    unfold bdS bdL at this
    rw [if_pos e] at this
    exact this
  · refine r_no e ?_
    walk_at "rds"
    refine ⟨_, t, rfl, hd, hf, hdp, hsz, fun H' e' => ?_⟩
    have := q H' e'
    unfold bdS bdL at this
    rw [if_neg e] at this
    exact this

/-! ### write_program -/
def spWrite (K : PySem.W.Frag) (C C2 : Addr) : Sp := fun vs H Q _ => ∃ (v : V) (p : Pl), vs = [v] ∧ PgAt K C C2 H v p ∧ OkPl p ∧ ∀ H', Ex H H' → Q (.str (txP p)) H'
theorem c_write (D : Dfn K mg "write_program" (top 51) ["program"]) (T : Txt K mg) (O : PrC K mg C) (O2 : PgC K C2) (C1 : Cal P w K mg base 1 "require_program" (spReq K C C2)) (C3 : Cal P w K mg base 15 "body_text" (spBdT K)) : Cal P w K mg base 16 "write_program" (spWrite K C C2) := by
  refine D.cal (N := ["program", "lines", "procedure", "words"]) (by decide +kernel) (fun vs H Q E h => ?_) fun f cdv A outer s H vs Q E hr nd h => ?_
  · obtain ⟨v, p, rfl, _⟩ := h
    rfl
  obtain ⟨v, p, rfl, hp, ok, q⟩ := h
  obtain ⟨a, dx, sa, pr, tb, fr, xs, rfl, h1, h2, h3, h4⟩ := id hp
  refine ⟨_, pss_cons (ps_expr (pe_c C1 hr (by decide) (pa_cons (pv 0) pa_nil)))
    (pss_cons (ps_asg (pe_lst (pa_cons (p_join K pe_str (pe_lst (pa_cons pe_str (pa_cons (pe_callTy call_str_int rfl T.str boot_str (pa_cons (pe_fld (pv 0) rfl) pa_nil)) (p_star K (pe_fld (pv 0) rfl) pa_nil))))) pa_nil)) (pg_name (i := 1) nd rfl (Or.inl rfl)))
    (pss_cons (ps_for PassesOwn.never rfl (pi_tup (pe_fld (pv 0) rfl)) (pg_name (i := 2) nd rfl (Or.inl rfl))
      (pss_cons (ps_asg (pe_lst (pa_cons pe_str (pa_cons (pe_fld (pv 2) rfl) (p_star K (pe_fld (pv 2) rfl) (pa_cons pe_str (pa_cons (pe_c C3 hr (by decide) (pa_cons (pe_fld (pv 2) rfl) pa_nil)) pa_nil)))))) (pg_name (i := 3) nd rfl (Or.inl rfl)))
      (pss_one (ps_expr (p_app K (pv 1) (p_join K pe_str (pv 3)))))))
    (pss_one (ps_ret (p_join K pe_str (pv 1)))))), ?_⟩
  walk_at "rds"
  refine ⟨_, p, rfl, hp, ?_⟩
  walk_at "rds"
  refine ⟨⟨_, rfl⟩, ?_⟩
  walk_at "rds"
  refine ⟨a, C2, dx, _, _, rfl, h1, O2.cl, O2.n1, gF_modes _ _ _ _ _, ?_⟩
  walk_at "rds"
  refine ⟨(p.modes : Nat), rfl, Nat.lt_of_le_of_lt (Nat.log2_le_self _) (by have := ok.m3; show (Int.natAbs ((p.modes : Nat) : Int)) < 1920; omega), ?_⟩
  walk_at "rds"
  refine ⟨a, C2, dx, _, _, rfl, h1, O2.cl, O2.n2, gF_sigs _ _ _ _ _, ?_⟩
  refine ⟨sa, _, rfl, .inl h2, ?_⟩
  walk_at "rds"
  have hs2 := ok.sg.2.2
  refine ⟨Nat.le_of_lt (small (by simp; omega)), fun p1 hp1 => ?_⟩
  have e1 : Ex H (upd H p1 (.lst ((headW p).map wv))) := Ex.new hp1
  have ew : (V.str "program" :: V.str (Str.ofString (toString ((p.modes : Nat) : Int))) :: (p.sigs.map V.str ++ [])) = (headW p).map wv := by
    unfold headW
    rw [List.map_cons, List.map_cons, List.map_map, wv_cl, SX.num_S, List.append_nil]
    have : p.sigs.map V.str = p.sigs.map (wv ∘ cl) := List.map_congr_left fun x _ => (wv_cl x).symm
    rw [this]
    rfl
  rw [ew]
  have hl := head_len ok
  refine r_joinW (SqL.of upd_same) (by omega) ?_
  generalize upd H p1 (.lst ((headW p).map wv)) = H1 at *
  walk_at "rds"
  refine ⟨Nat.le_of_lt (small (by simp)), fun L hL => ?_⟩
  have e2 : Ex H (upd H1 L (.lst [wv (jn (headW p))])) := e1.trans (Ex.new hL)
  have hL0 : H L = none := ex_none e1 hL
  have hl2 : (upd H1 L (.lst [wv (jn (headW p))])) L = some (.lst [wv (jn (headW p))]) := upd_same
  walk_at "rds"
  refine ⟨a, C2, dx, _, _, rfl, e2 _ _ h1, O2.cl, O2.n3, gF_procs _ _ _ _ _, ?_⟩
  have hxl : xs.length = p.rows.length := h4.1
  have hr10 := ok.rw_.2
  refine ⟨pr, rfl, ⟨_, ex_t e2 h3⟩, for_over over_tup (fun i σ H' => ∃ o2 o3, σ = [some (.ref a), some (.ref L), o2, o3] ∧ Ex H H' ∧ H' L = some (.lst ((jn (headW p) :: (p.rows.take i).map fun r => jn (lineW r)).map wv))) ⟨none, none, rfl, e2, hl2⟩ (fun i σ H' ⟨_, _, _, h, _⟩ => ex_t h h3) ?_ ?_⟩
  · rintro i x σ H3 H4 hi ⟨o2, o3, rfl, e3, hL3⟩ e y
    obtain ⟨r, hrr, l, hl'⟩ := h4.2 i x y
    have g : Gd r := ok.gd (List.mem_of_getElem? hrr)
    have e4 := e3.trans e
    obtain ⟨c, dc, po, vb, us, rfl, p1, p2, p3, _⟩ := hl'.ex e4
    refine r_name ?_
    walk_at "rds"
    refine ⟨c, C, dc, _, _, rfl, p1, O.cl, O.n1, pF_name _ _ _ _, ?_⟩
    walk_at "rds"
    refine ⟨c, C, dc, _, _, rfl, p1, O.cl, O.n2, pF_par _ _ _ _, ?_⟩
    refine ⟨po, _, rfl, .inl p2, ?_⟩
    walk_at "rds"
    refine ⟨c, C, dc, _, _, rfl, p1, O.cl, O.n3, pF_body _ _ _ _, ?_⟩
    walk_at "rds"
    have hdp : dep r.body ≤ 6 ∧ size r.body ≤ 40 ∧ r.own.length ≤ 3 := by
      obtain ⟨c, _, _, ok⟩ := g
      exact ⟨ok.bd.dp, ok.bd.sz, ok.own.2.2⟩
    refine ⟨vb, r.body, rfl, p3, g.frm, hdp.1, by omega, fun H5 e5 => ?_⟩
    walk_at "rds"
    have ew : (V.str "proc" :: V.str r.name :: (r.own.map V.str ++ [V.str ":", V.str (bdS r.body)])) = (lineW r).map wv := by
      unfold lineW
      rw [List.map_cons, List.map_cons, List.map_append, List.map_map, wv_cl, wv_cl, List.map_cons, wv_cl]
      have : r.own.map V.str = r.own.map (wv ∘ cl) := List.map_congr_left fun x _ => (wv_cl x).symm
      rw [this]
      rfl
    rw [ew]
    have hll : (lineW r).length ≤ 10 := by
      unfold lineW
      simp
      omega
    refine ⟨Nat.le_of_lt (small (by rw [List.length_map]; omega)), fun p5 hp5 => ?_⟩
    walk_at "rds"
    have e6 : Ex H5 (upd H5 p5 (.lst ((lineW r).map wv))) := Ex.new hp5
    have hL6 := e6 _ _ (e5 _ _ (e _ _ hL3))
    refine ⟨ty_l hL6, ?_⟩
    walk_at "rds"
    refine ⟨⟨_, rfl⟩, ?_⟩
    walk_at "rds"
    refine r_joinW (ws := lineW r) (SqL.of upd_same) (by have := line_len g; omega) ?_
    generalize upd H5 p5 (.lst ((lineW r).map wv)) = H6 at *
    walk_at "rds"
    have htk : (p.rows.take i).length ≤ 10 := by rw [List.length_take]; omega
    refine ⟨L, _, _, rfl, rfl, hL6, small (by simp; omega), ?_⟩
    refine ⟨_, _, rfl, Ex.mut (e4.trans (e5.trans e6)) hL0, ?_⟩
    rw [upd_same, List.take_add_one, hrr]
    simp [wv]
  · rintro σ H3 ⟨o2, o3, rfl, e3, hL3⟩
    rw [List.take_of_length_le (by omega)] at hL3
    walk_at "rds"
    refine ⟨⟨_, rfl⟩, ?_⟩
    walk_at "rds"
    refine r_joinC (c := 10) rfl (SqL.of hL3) ?_ (q H3 e3)
    have h5 : ∀ rows : List Rw, (∀ r ∈ rows, Gd r) → lw (rows.map fun r => jn (lineW r)) ≤ 2501 * rows.length := fun rows => by
      induction rows with
      | nil => intro _; simp [lw]
      | cons r rs ih =>
        intro h
        have h1 := ih fun r hr => h r (List.mem_cons_of_mem _ hr)
        have h2 := line_len (h r List.mem_cons_self)
        have h3 := jn_len (lineW r)
        rw [List.map_cons, lw_cons, List.length_cons]
        omega
    have h6 := h5 p.rows fun r hr => ok.gd hr
    have h7 := jn_len (headW p)
    rw [lw_cons]
    omega
end
end K8
/-! tokens and items of a text (plain) -/
namespace K8
open PySem PySem.Spec L2
open PyProof.Rows hiding St
inductive Itm where
  | atm (w : List Nat)
  | lst (its : List Itm)
/-! ### the replaced text -/
def rp1 (c : Nat) : List Nat := if c = 40 then [40, 32] else if c = 41 then [32, 41] else [c]
def rp (l : List Nat) : List Nat := l.flatMap rp1
theorem rp_app (a b : List Nat) : rp (a ++ b) = rp a ++ rp b := List.flatMap_append
/-- a plain word -/
def plw (w : List Nat) : Prop := w ≠ [] ∧ 40 ∉ w ∧ 41 ∉ w ∧ 32 ∉ w
theorem rp_plain : ∀ {w : List Nat}, 40 ∉ w → 41 ∉ w → rp w = w
  | [], _, _ => rfl
  | c :: r, h1, h2 => by
    have ih := rp_plain (w := r) (fun h => h1 (List.mem_cons_of_mem _ h)) (fun h => h2 (List.mem_cons_of_mem _ h))
    have c1 : ¬ c = 40 := fun e => h1 (by rw [e]; exact List.mem_cons_self)
    have c2 : ¬ c = 41 := fun e => h2 (by rw [e]; exact List.mem_cons_self)
    show rp1 c ++ rp r = c :: r
    rw [ih, rp1, if_neg c1, if_neg c2]
    rfl
theorem jn_cons {w : List Nat} {r : List (List Nat)} (h : r ≠ []) : jn (w :: r) = w ++ (32 :: jn r) := by
  cases r with
  | nil => exact absurd rfl h
  | cons v r => rfl
theorem jn_app {a b : List (List Nat)} (ha : a ≠ []) (hb : b ≠ []) : jn (a ++ b) = jn a ++ (32 :: jn b) := by
  induction a with
  | nil => exact absurd rfl ha
  | cons w r ih =>
    cases r with
    | nil => exact jn_cons hb
    | cons v r =>
      rw [List.cons_append, jn_cons (by simp), ih (by simp), jn_cons (w := w) (by simp)]
      simp
theorem rp_jn : ∀ ws : List (List Nat), rp (jn ws) = jn (ws.map rp)
  | [] => rfl
  | [w] => rfl
  | w :: v :: r => by
    have ih := rp_jn (v :: r)
    have e1 : rp (jn (w :: v :: r)) = rp w ++ ([32] ++ rp (jn (v :: r))) := by
      rw [jn_cons (w := w) (r := v :: r) (by simp), rp_app]
      rfl
    have e2 : jn ((w :: v :: r).map rp) = rp w ++ (32 :: jn ((v :: r).map rp)) := jn_cons (by simp)
    rw [e1, e2, ih]
    rfl
theorem jn_flat {ws : List (List Nat)} {tk : List Nat → List (List Nat)} (h : ∀ w ∈ ws, tk w ≠ [] ∧ rp w = jn (tk w)) : jn (ws.map rp) = jn (ws.flatMap tk) := by
  induction ws with
  | nil => rfl
  | cons w r ih =>
    have h1 := h w List.mem_cons_self
    have ih := ih fun v hv => h v (List.mem_cons_of_mem _ hv)
    cases r with
    | nil =>
      rw [List.map_cons, List.map_nil, List.flatMap_cons, List.flatMap_nil, List.append_nil]
      exact h1.2
    | cons v r =>
      have h2 := h v (List.mem_cons_of_mem _ List.mem_cons_self)
      have e : List.flatMap tk (w :: v :: r) = tk w ++ List.flatMap tk (v :: r) := rfl
      have hne : List.flatMap tk (v :: r) ≠ [] := fun e => by
        rw [List.flatMap_cons] at e
        exact h2.1 (List.append_eq_nil_iff.mp e).1
      have e2 : jn ((w :: v :: r).map rp) = rp w ++ (32 :: jn ((v :: r).map rp)) := jn_cons (by simp)
      rw [e2, ih, h1.2, e, jn_app h1.1 hne]
/-! ### tokens and items of a term -/
mutual
def tkT : Tm → List (List Nat)
  | .act w tab => cl "do" :: cl w :: tab.map ent
  | .nam k x => [cl k, cl x]
  | .ser k ts => cl k :: tks ts
  | .cal x ts => cl "call" :: cl x :: tks ts
  | .sco x t => cl "scope" :: cl x :: ([40] :: (tkT t ++ [[41]]))
  | .ans ss ts t => cl "answer" :: (tka ts ss ++ ([40] :: (tkT t ++ [[41]])))
def tks : List Tm → List (List Nat)
  | [] => []
  | t :: ts => ([40] :: (tkT t ++ [[41]])) ++ tks ts
def tka : List Tm → List Str → List (List Nat)
  | t :: ts, s :: ss => (cl s :: ([40] :: (tkT t ++ [[41]]))) ++ tka ts ss
  | _, _ => []
end
def tkc (t : Tm) : List (List Nat) := [40] :: (tkT t ++ [[41]])
mutual
def itT : Tm → List Itm
  | .act w tab => .atm (cl "do") :: .atm (cl w) :: tab.map fun e => .atm (ent e)
  | .nam k x => [.atm (cl k), .atm (cl x)]
  | .ser k ts => .atm (cl k) :: its ts
  | .cal x ts => .atm (cl "call") :: .atm (cl x) :: its ts
  | .sco x t => [.atm (cl "scope"), .atm (cl x), .lst (itT t)]
  | .ans ss ts t => .atm (cl "answer") :: (ita ts ss ++ [.lst (itT t)])
def its : List Tm → List Itm
  | [] => []
  | t :: ts => .lst (itT t) :: its ts
def ita : List Tm → List Str → List Itm
  | t :: ts, s :: ss => .atm (cl s) :: .lst (itT t) :: ita ts ss
  | _, _ => []
end
theorem prn_rp {ws tk : List (List Nat)} (h : tk ≠ []) (e : rp (jn ws) = jn tk) : rp (prn ws) = jn ([40] :: (tk ++ [[41]])) := by
  have e1 : rp (prn ws) = [40, 32] ++ (rp (jn ws) ++ [32, 41]) := by
    unfold prn
    rw [show (40 :: (jn ws ++ [41])) = [40] ++ (jn ws ++ [41]) from rfl, rp_app, rp_app]
    rfl
  rw [e1, e, jn_cons (by simp), jn_app h (by simp)]
  rfl
theorem lett_plw {x : Str} (h : isNm x = true) : plw (cl x) := by
  unfold isNm at h
  rw [Bool.and_eq_true, Bool.and_eq_true, decide_eq_true_eq, List.all_eq_true] at h
  obtain ⟨⟨h1, _⟩, h3⟩ := h
  have h4 : ∀ c ∈ letters, c ≠ 40 ∧ c ≠ 41 ∧ c ≠ 32 := by decide +kernel
  have h5 : ∀ c ∈ cl x, c ≠ 40 ∧ c ≠ 41 ∧ c ≠ 32 := fun c hc => h4 c (of_decide_eq_true (h3 c hc))
  refine ⟨fun e => ?_, fun h => (h5 40 h).1 rfl, fun h => (h5 41 h).2.1 rfl, fun h => (h5 32 h).2.2 rfl⟩
  have : x.length = (cl x).length := TL.len_tl x
  rw [e] at this
  rw [this] at h1
  exact absurd h1 (by decide)
theorem kw_plw {x : Str} (h : x ∈ (["do", "run", "exit", "raise", "seq", "or", "and", "case", "call", "scope", "answer"] : List Str)) : plw (cl x) := by
  have : ∀ x ∈ (["do", "run", "exit", "raise", "seq", "or", "and", "case", "call", "scope", "answer"] : List Str), cl x ≠ [] ∧ 40 ∉ cl x ∧ 41 ∉ cl x ∧ 32 ∉ cl x := by decide +kernel
  exact this x h
theorem ent_plw {e : Option Nat} (h : ∀ n, e = some n → n < 3) : plw (ent e) := by
  cases e with
  | none => exact ⟨by decide, by decide, by decide, by decide⟩
  | some n =>
    have := h n rfl
    rw [ent, TL.numL_lt (by omega)]
    refine ⟨by simp, ?_, ?_, ?_⟩ <;> simp <;> omega
mutual
theorem rp_T : ∀ t : Tm, (∀ u ∈ subs t, frm u) → tkT t ≠ [] ∧ rp (jn (wsT t)) = jn (tkT t)
  | .act w tab, h => by
    obtain ⟨h1, h2, h3, h4⟩ : frm (.act w tab) := h _ (by rw [subs_eq]; exact List.mem_cons_self)
    refine ⟨by simp [tkT], ?_⟩
    have e : ∀ ws : List (List Nat), (∀ w ∈ ws, plw w) → ws.map rp = ws := fun ws => by
      induction ws with
      | nil => intro _; rfl
      | cons a r ih =>
        intro h
        rw [List.map_cons, ih fun w hw => h w (List.mem_cons_of_mem _ hw), rp_plain (h a List.mem_cons_self).2.1 (h a List.mem_cons_self).2.2.1]
    rw [rp_jn, tkT, wsT, e]
    intro x hx
    rcases List.mem_cons.mp hx with rfl | hx
    · exact kw_plw (by decide +kernel)
    · rcases List.mem_cons.mp hx with rfl | hx
      · exact lett_plw h1
      · obtain ⟨en, he, rfl⟩ := List.mem_map.mp hx
        exact ent_plw (h4 en he)
  | .nam k x, h => by
    obtain ⟨h1, h2⟩ : frm (.nam k x) := h _ (by rw [subs_eq]; exact List.mem_cons_self)
    have k1 : plw (cl k) := kw_plw (by rcases h2 with rfl | rfl | rfl <;> decide +kernel)
    have k2 := lett_plw h1
    refine ⟨by simp [tkT], ?_⟩
    rw [rp_jn, tkT, wsT]
    simp only [List.map_cons, List.map_nil, rp_plain k1.2.1 k1.2.2.1, rp_plain k2.2.1 k2.2.2.1]
  | .ser k ts, h => by
    have h1 : frm (.ser k ts) := h _ (by rw [subs_eq]; exact List.mem_cons_self)
    have k1 : plw (cl k) := kw_plw (by rcases h1 with rfl | ⟨rfl | rfl, _⟩ | ⟨rfl, _⟩ <;> decide +kernel)
    refine ⟨by simp [tkT], ?_⟩
    have h2 := rp_Ts ts (fun u hu => h u (by rw [subs]; exact List.mem_cons_of_mem _ hu)) [cl k] [cl k] (by simp) (by simp) (by simp [jn, TL.joinL, rp_plain k1.2.1 k1.2.2.1])
    rw [rp_jn]
    exact h2
  | .cal x ts, h => by
    have h1 : isNm x = true := (show frm (.cal x ts) from h _ (by rw [subs_eq]; exact List.mem_cons_self))
    have k1 : plw (cl "call") := kw_plw (by decide +kernel)
    have k2 := lett_plw h1
    refine ⟨by simp [tkT], ?_⟩
    have h2 := rp_Ts ts (fun u hu => h u (by rw [subs]; exact List.mem_cons_of_mem _ hu)) [cl "call", cl x] [cl "call", cl x] (by simp) (by simp) (by simp only [List.map_cons, List.map_nil, rp_plain k1.2.1 k1.2.2.1, rp_plain k2.2.1 k2.2.2.1])
    rw [rp_jn]
    exact h2
  | .sco x t, h => by
    have h1 : isNm x = true := (show frm (.sco x t) from h _ (by rw [subs_eq]; exact List.mem_cons_self))
    have k1 : plw (cl "scope") := kw_plw (by decide +kernel)
    have k2 := lett_plw h1
    have h3 := rp_T t (fun u hu => h u (by rw [subs]; exact List.mem_cons_of_mem _ hu))
    refine ⟨by simp [tkT], ?_⟩
    have e1 := prn_rp h3.1 h3.2
    rw [rp_jn, wsT, tkT]
    simp only [List.map_cons, List.map_nil, rp_plain k1.2.1 k1.2.2.1, rp_plain k2.2.1 k2.2.2.1, e1]
    have e2 := jn_app (a := [cl "scope", cl x]) (b := [40] :: (tkT t ++ [[41]])) (by simp) (by simp)
    have e3 := jn_app (a := [cl "scope", cl x]) (b := [jn ([40] :: (tkT t ++ [[41]]))]) (by simp) (by simp)
    rw [show (cl "scope" :: cl x :: ([40] :: (tkT t ++ [[41]]))) = [cl "scope", cl x] ++ ([40] :: (tkT t ++ [[41]])) from rfl, e2]
    rw [show [cl "scope", cl x, jn ([40] :: (tkT t ++ [[41]]))] = [cl "scope", cl x] ++ [jn ([40] :: (tkT t ++ [[41]]))] from rfl, e3]
    rfl
  | .ans ss ts t, h => by
    obtain ⟨_, _, _, _, h1⟩ : frm (.ans ss ts t) := h _ (by rw [subs_eq]; exact List.mem_cons_self)
    have k1 : plw (cl "answer") := kw_plw (by decide +kernel)
    have h3 := rp_T t (fun u hu => h u (by rw [subs]; exact List.mem_cons_of_mem _ (List.mem_append_right _ hu)))
    refine ⟨by simp [tkT], ?_⟩
    have e1 := prn_rp h3.1 h3.2
    have h2 := rp_alt ts ss h1 (fun u hu => h u (by rw [subs]; exact List.mem_cons_of_mem _ (List.mem_append_left _ hu))) [cl "answer"] [cl "answer"] (by simp) (by simp) (by simp [jn, TL.joinL, rp_plain k1.2.1 k1.2.2.1])
    rw [rp_jn, wsT, tkT]
    rw [show (cl "answer" :: (alt ts ss ++ [prn (wsT t)])).map rp = ([cl "answer"] ++ alt ts ss).map rp ++ [rp (prn (wsT t))] by simp]
    have e5 := jn_app (a := ([cl "answer"] ++ alt ts ss).map rp) (b := [rp (prn (wsT t))]) (by simp) (by simp)
    have e4 := jn_app (a := [cl "answer"] ++ tka ts ss) (b := [40] :: (tkT t ++ [[41]])) (by simp) (by simp)
    rw [e5, h2, e1, show (cl "answer" :: (tka ts ss ++ ([40] :: (tkT t ++ [[41]])))) = ([cl "answer"] ++ tka ts ss) ++ ([40] :: (tkT t ++ [[41]])) by simp, e4]
    rfl
theorem rp_Ts : ∀ (ts : List Tm), (∀ u ∈ subss ts, frm u) → ∀ (a b : List (List Nat)), a ≠ [] → b ≠ [] → jn (a.map rp) = jn b → jn ((a ++ cls ts).map rp) = jn (b ++ tks ts)
  | [], _, a, b, _, _, e => by simpa [cls, tks] using e
  | t :: ts, h, a, b, ha, hb, e => by
    have h1 := rp_T t (fun u hu => h u (by rw [subss]; exact List.mem_append_left _ hu))
    have e1 := prn_rp h1.1 h1.2
    have h2 := rp_Ts ts (fun u hu => h u (by rw [subss]; exact List.mem_append_right _ hu)) (a ++ [prn (wsT t)]) (b ++ ([40] :: (tkT t ++ [[41]]))) (by simp) (by simp) (by
      rw [List.map_append, jn_app (by simpa using ha) (by simp), jn_app hb (by simp), e]
      show jn b ++ 32 :: jn [rp (prn (wsT t))] = _
      rw [e1]
      rfl)
    rw [cls, tks]
    simpa using h2
theorem rp_alt : ∀ (ts : List Tm) (ss : List Str), (∀ s ∈ ss, isNm s = true) → (∀ u ∈ subss ts, frm u) → ∀ (a b : List (List Nat)), a ≠ [] → b ≠ [] → jn (a.map rp) = jn b → jn ((a ++ alt ts ss).map rp) = jn (b ++ tka ts ss)
  | [], ss, _, _, a, b, _, _, e => by cases ss <;> simpa [alt, tka] using e
  | t :: ts, [], _, _, a, b, _, _, e => by simpa [alt, tka] using e
  | t :: ts, s :: ss, h0, h, a, b, ha, hb, e => by
    have h1 := rp_T t (fun u hu => h u (by rw [subss]; exact List.mem_append_left _ hu))
    have k2 := lett_plw (h0 s List.mem_cons_self)
    have e1 := prn_rp h1.1 h1.2
    have h2 := rp_alt ts ss (fun s hs => h0 s (List.mem_cons_of_mem _ hs)) (fun u hu => h u (by rw [subss]; exact List.mem_append_right _ hu)) (a ++ [cl s, prn (wsT t)]) (b ++ (cl s :: ([40] :: (tkT t ++ [[41]])))) (by simp) (by simp) (by
      rw [List.map_append, jn_app (by simpa using ha) (by simp), jn_app hb (by simp), e]
      show jn b ++ 32 :: jn [rp (cl s), rp (prn (wsT t))] = _
      rw [e1, rp_plain k2.2.1 k2.2.2.1, jn_cons (w := cl s) (by simp), jn_cons (w := cl s) (by simp)]
      rfl)
    rw [alt, tka]
    simpa using h2
end
theorem hd_kw {t : Tm} (h : frm t) : hd1 t ∈ (["do", "run", "exit", "raise", "seq", "or", "and", "case", "call", "scope", "answer"] : List Str) := by
  cases t with
  | act => show ("do" : Str) ∈ _; decide +kernel
  | nam k x => rcases h.2 with e | e | e <;> (show k ∈ _; rw [e]; decide +kernel)
  | ser k ts => rcases h with e | ⟨e | e, _⟩ | ⟨e, _⟩ <;> (show k ∈ _; rw [e]; decide +kernel)
  | cal => show ("call" : Str) ∈ _; decide +kernel
  | sco => show ("scope" : Str) ∈ _; decide +kernel
  | ans => show ("answer" : Str) ∈ _; decide +kernel
end K8
/-! the run over the tokens (plain) -/
namespace K8
open PySem PySem.Spec L2
open PyProof.Rows hiding St
abbrev MS := List Itm × List (List Itm)
def stI (m : MS) (w : List Nat) : MS := if w = [40] then ([], m.1 :: m.2) else if w = [41] then (match m.2 with | p :: r => (p ++ [.lst m.1], r) | [] => m) else (m.1 ++ [.atm w], m.2)
def runI (m : MS) (ws : List (List Nat)) : MS := ws.foldl stI m
def okW (m : MS) (w : List Nat) : Prop := w ≠ [] ∧ 32 ∉ w ∧ (w = [40] ∨ (w = [41] ∧ m.2 ≠ []) ∨ (40 ∉ w ∧ 41 ∉ w))
def GoodR : MS → List (List Nat) → Prop
  | _, [] => True
  | m, w :: ws => okW m w ∧ (stI m w).2.length ≤ 12 ∧ GoodR (stI m w) ws
theorem run_app (m : MS) (a b : List (List Nat)) : runI m (a ++ b) = runI (runI m a) b := List.foldl_append
theorem good_app : ∀ {m : MS} {a b : List (List Nat)}, GoodR m a → GoodR (runI m a) b → GoodR m (a ++ b)
  | _, [], _, _, h => h
  | _, _ :: _, _, ⟨h1, h2, h3⟩, h => ⟨h1, h2, good_app h3 h⟩
theorem atm_step {m : MS} {w : List Nat} (h : plw w) (hl : m.2.length ≤ 12) : GoodR m [w] ∧ runI m [w] = (m.1 ++ [.atm w], m.2) := by
  have n1 : ¬ w = [40] := fun e => h.2.1 (by rw [e]; exact List.mem_singleton.mpr rfl)
  have n2 : ¬ w = [41] := fun e => h.2.2.1 (by rw [e]; exact List.mem_singleton.mpr rfl)
  have e : stI m w = (m.1 ++ [.atm w], m.2) := by unfold stI; rw [if_neg n1, if_neg n2]
  refine ⟨⟨⟨h.1, h.2.2.2, .inr (.inr ⟨h.2.1, h.2.2.1⟩)⟩, by rw [e]; exact hl, trivial⟩, ?_⟩
  show stI m w = _
  exact e
theorem atms_run : ∀ {ws : List (List Nat)} {m : MS}, (∀ w ∈ ws, plw w) → m.2.length ≤ 12 → GoodR m ws ∧ runI m ws = (m.1 ++ ws.map .atm, m.2)
  | [], m, _, _ => ⟨trivial, by simp [runI]⟩
  | w :: ws, m, h, hl => by
    obtain ⟨g1, r1⟩ := atm_step (m := m) (h w List.mem_cons_self) hl
    obtain ⟨g2, r2⟩ := atms_run (ws := ws) (m := runI m [w]) (fun v hv => h v (List.mem_cons_of_mem _ hv)) (by rw [r1]; exact hl)
    refine ⟨good_app (a := [w]) g1 g2, ?_⟩
    rw [show w :: ws = [w] ++ ws from rfl, run_app, r2, r1]
    simp
theorem par_run {m : MS} {tk : List (List Nat)} {it : List Itm} (hl : m.2.length + 1 ≤ 12) (h : GoodR ([], m.1 :: m.2) tk ∧ runI ([], m.1 :: m.2) tk = ([] ++ it, m.1 :: m.2)) : GoodR m ([40] :: (tk ++ [[41]])) ∧ runI m ([40] :: (tk ++ [[41]])) = (m.1 ++ [.lst it], m.2) := by
  have e1 : stI m [40] = ([], m.1 :: m.2) := by unfold stI; rw [if_pos rfl]
  have e2 : stI (it, m.1 :: m.2) [41] = (m.1 ++ [.lst it], m.2) := by unfold stI; rw [if_neg (by decide), if_pos rfl]
  rw [List.nil_append] at h
  have g2 : GoodR (it, m.1 :: m.2) [[41]] := ⟨⟨by decide, by decide, .inr (.inl ⟨rfl, by simp⟩)⟩, by rw [e2]; show m.2.length ≤ 12; omega, trivial⟩
  refine ⟨⟨⟨by decide, by decide, .inl rfl⟩, by rw [e1]; simpa using hl, ?_⟩, ?_⟩
  · rw [e1]
    exact good_app h.1 (by rw [h.2]; exact g2)
  · show runI (stI m [40]) (tk ++ [[41]]) = _
    rw [e1, run_app, h.2]
    exact e2
mutual
theorem run_T : ∀ (t : Tm) (m : MS), (∀ u ∈ subs t, frm u) → m.2.length + dep t ≤ 12 → GoodR m (tkT t) ∧ runI m (tkT t) = (m.1 ++ itT t, m.2)
  | .act w tab, m, h, hl => by
    obtain ⟨h1, h2, h3, h4⟩ : frm (.act w tab) := h _ (by rw [subs_eq]; exact List.mem_cons_self)
    have hp : ∀ x ∈ cl "do" :: cl w :: tab.map ent, plw x := by
      intro x hx
      rcases List.mem_cons.mp hx with rfl | hx
      · exact kw_plw (by decide +kernel)
      · rcases List.mem_cons.mp hx with rfl | hx
        · exact lett_plw h1
        · obtain ⟨en, he, rfl⟩ := List.mem_map.mp hx
          exact ent_plw (h4 en he)
    have := atms_run (m := m) hp (by omega)
    rw [tkT, itT]
    refine ⟨this.1, ?_⟩
    rw [this.2]
    simp
  | .nam k x, m, h, hl => by
    obtain ⟨h1, h2⟩ : frm (.nam k x) := h _ (by rw [subs_eq]; exact List.mem_cons_self)
    have k1 : plw (cl k) := kw_plw (by rcases h2 with rfl | rfl | rfl <;> decide +kernel)
    have k2 := lett_plw h1
    have := atms_run (ws := [cl k, cl x]) (m := m) (fun w hw => by
      rcases List.mem_cons.mp hw with rfl | hw
      · exact k1
      · rw [List.mem_singleton] at hw; rw [hw]; exact k2) (by omega)
    rw [tkT, itT]
    exact this
  | .ser k ts, m, h, hl => by
    have h1 : frm (.ser k ts) := h _ (by rw [subs_eq]; exact List.mem_cons_self)
    have k1 : plw (cl k) := kw_plw (by rcases h1 with rfl | ⟨rfl | rfl, _⟩ | ⟨rfl, _⟩ <;> decide +kernel)
    have hdp : dep (.ser k ts) = deps ts + 1 := by simp only [dep]
    obtain ⟨g1, r1⟩ := atm_step (m := m) k1 (by omega)
    obtain ⟨g2, r2⟩ := run_Ts ts (runI m [cl k]) (fun u hu => h u (by rw [subs]; exact List.mem_cons_of_mem _ hu)) (by rw [r1]; show m.2.length + deps ts + 1 ≤ 12; omega)
    rw [tkT, itT]
    refine ⟨good_app (a := [cl k]) g1 g2, ?_⟩
    rw [show cl k :: tks ts = [cl k] ++ tks ts from rfl, run_app, r2, r1]
    simp
  | .cal x ts, m, h, hl => by
    have h1 : isNm x = true := (show frm (.cal x ts) from h _ (by rw [subs_eq]; exact List.mem_cons_self))
    have k1 : plw (cl "call") := kw_plw (by decide +kernel)
    have k2 := lett_plw h1
    have hdp : dep (.cal x ts) = deps ts + 1 := by simp only [dep]
    obtain ⟨g1, r1⟩ := atms_run (ws := [cl "call", cl x]) (m := m) (fun w hw => by
      rcases List.mem_cons.mp hw with rfl | hw
      · exact k1
      · rw [List.mem_singleton] at hw; rw [hw]; exact k2) (by omega)
    obtain ⟨g2, r2⟩ := run_Ts ts (runI m [cl "call", cl x]) (fun u hu => h u (by rw [subs]; exact List.mem_cons_of_mem _ hu)) (by rw [r1]; show m.2.length + deps ts + 1 ≤ 12; omega)
    rw [tkT, itT]
    refine ⟨good_app (a := [cl "call", cl x]) g1 g2, ?_⟩
    rw [show cl "call" :: cl x :: tks ts = [cl "call", cl x] ++ tks ts from rfl, run_app, r2, r1]
    simp
  | .sco x t, m, h, hl => by
    have h1 : isNm x = true := (show frm (.sco x t) from h _ (by rw [subs_eq]; exact List.mem_cons_self))
    have k1 : plw (cl "scope") := kw_plw (by decide +kernel)
    have k2 := lett_plw h1
    have hdp : dep (.sco x t) = dep t + 1 := by simp only [dep]
    obtain ⟨g1, r1⟩ := atms_run (ws := [cl "scope", cl x]) (m := m) (fun w hw => by
      rcases List.mem_cons.mp hw with rfl | hw
      · exact k1
      · rw [List.mem_singleton] at hw; rw [hw]; exact k2) (by omega)
    have hp := dep_pos t
    obtain ⟨g2, r2⟩ := par_run (m := runI m [cl "scope", cl x]) (tk := tkT t) (it := itT t) (by rw [r1]; show m.2.length + 1 ≤ 12; omega)
      (run_T t ([], (runI m [cl "scope", cl x]).1 :: (runI m [cl "scope", cl x]).2) (fun u hu => h u (by rw [subs]; exact List.mem_cons_of_mem _ hu)) (by rw [r1]; show m.2.length + 1 + dep t ≤ 12; omega))
    rw [tkT, itT]
    refine ⟨good_app (a := [cl "scope", cl x]) g1 g2, ?_⟩
    rw [show (cl "scope" :: cl x :: ([40] :: (tkT t ++ [[41]]))) = [cl "scope", cl x] ++ ([40] :: (tkT t ++ [[41]])) from rfl, run_app, r2, r1]
    simp
  | .ans ss ts t, m, h, hl => by
    obtain ⟨_, _, _, _, h1⟩ : frm (.ans ss ts t) := h _ (by rw [subs_eq]; exact List.mem_cons_self)
    have k1 : plw (cl "answer") := kw_plw (by decide +kernel)
    have hdp : dep (.ans ss ts t) = max (deps ts) (dep t) + 1 := by simp only [dep]
    have hp := dep_pos t
    obtain ⟨g1, r1⟩ := atm_step (m := m) k1 (by omega)
    obtain ⟨g2, r2⟩ := run_alt ts ss (runI m [cl "answer"]) h1 (fun u hu => h u (by rw [subs]; exact List.mem_cons_of_mem _ (List.mem_append_left _ hu))) (by rw [r1]; show m.2.length + deps ts + 1 ≤ 12; omega)
    have e2 : runI (runI m [cl "answer"]) (tka ts ss) = (m.1 ++ (.atm (cl "answer") :: ita ts ss), m.2) := by rw [r2, r1]; simp
    obtain ⟨g3, r3⟩ := par_run (m := runI (runI m [cl "answer"]) (tka ts ss)) (tk := tkT t) (it := itT t) (by rw [e2]; show m.2.length + 1 ≤ 12; omega)
      (run_T t ([], (runI (runI m [cl "answer"]) (tka ts ss)).1 :: (runI (runI m [cl "answer"]) (tka ts ss)).2) (fun u hu => h u (by rw [subs]; exact List.mem_cons_of_mem _ (List.mem_append_right _ hu))) (by rw [e2]; show m.2.length + 1 + dep t ≤ 12; omega))
    rw [tkT, itT]
    refine ⟨good_app (a := [cl "answer"]) g1 (good_app g2 g3), ?_⟩
    rw [show (cl "answer" :: (tka ts ss ++ ([40] :: (tkT t ++ [[41]])))) = [cl "answer"] ++ (tka ts ss ++ ([40] :: (tkT t ++ [[41]]))) from rfl, run_app, run_app, r3, e2]
    simp
theorem run_Ts : ∀ (ts : List Tm) (m : MS), (∀ u ∈ subss ts, frm u) → m.2.length + deps ts + 1 ≤ 12 → GoodR m (tks ts) ∧ runI m (tks ts) = (m.1 ++ its ts, m.2)
  | [], m, _, _ => by simp [tks, its, runI, GoodR]
  | t :: ts, m, h, hl => by
    have hd : deps (t :: ts) = max (dep t) (deps ts) := by simp only [deps]
    obtain ⟨g1, r1⟩ := par_run (m := m) (tk := tkT t) (it := itT t) (by omega) (run_T t ([], m.1 :: m.2) (fun u hu => h u (by rw [subss]; exact List.mem_append_left _ hu)) (by show m.2.length + 1 + dep t ≤ 12; omega))
    obtain ⟨g2, r2⟩ := run_Ts ts (runI m ([40] :: (tkT t ++ [[41]]))) (fun u hu => h u (by rw [subss]; exact List.mem_append_right _ hu)) (by rw [r1]; show m.2.length + deps ts + 1 ≤ 12; omega)
    rw [tks, its]
    refine ⟨good_app g1 g2, ?_⟩
    rw [run_app, r2, r1]
    simp
theorem run_alt : ∀ (ts : List Tm) (ss : List Str) (m : MS), (∀ s ∈ ss, isNm s = true) → (∀ u ∈ subss ts, frm u) → m.2.length + deps ts + 1 ≤ 12 → GoodR m (tka ts ss) ∧ runI m (tka ts ss) = (m.1 ++ ita ts ss, m.2)
  | [], ss, m, _, _, _ => by cases ss <;> simp [tka, ita, runI, GoodR]
  | t :: ts, [], m, _, _, _ => by simp [tka, ita, runI, GoodR]
  | t :: ts, s :: ss, m, h0, h, hl => by
    have hd : deps (t :: ts) = max (dep t) (deps ts) := by simp only [deps]
    obtain ⟨g0, r0⟩ := atm_step (m := m) (lett_plw (h0 s List.mem_cons_self)) (by omega)
    obtain ⟨g1, r1⟩ := par_run (m := runI m [cl s]) (tk := tkT t) (it := itT t) (by rw [r0]; show m.2.length + 1 ≤ 12; have := dep_pos t; omega) (run_T t ([], (runI m [cl s]).1 :: (runI m [cl s]).2) (fun u hu => h u (by rw [subss]; exact List.mem_append_left _ hu)) (by rw [r0]; show m.2.length + 1 + dep t ≤ 12; omega))
    have e1 : runI (runI m [cl s]) ([40] :: (tkT t ++ [[41]])) = (m.1 ++ [.atm (cl s), .lst (itT t)], m.2) := by rw [r1, r0]; simp
    obtain ⟨g2, r2⟩ := run_alt ts ss (runI (runI m [cl s]) ([40] :: (tkT t ++ [[41]]))) (fun s hs => h0 s (List.mem_cons_of_mem _ hs)) (fun u hu => h u (by rw [subss]; exact List.mem_append_right _ hu)) (by rw [e1]; show m.2.length + deps ts + 1 ≤ 12; omega)
    rw [tka, ita]
    refine ⟨good_app (a := cl s :: ([40] :: (tkT t ++ [[41]]))) (good_app (a := [cl s]) g0 g1) (by rw [show (cl s :: ([40] :: (tkT t ++ [[41]]))) = [cl s] ++ ([40] :: (tkT t ++ [[41]])) from rfl, run_app]; exact g2), ?_⟩
    rw [run_app, show (cl s :: ([40] :: (tkT t ++ [[41]]))) = [cl s] ++ ([40] :: (tkT t ++ [[41]])) from rfl, run_app, r2, e1]
    simp
end
/-! ### the tokens of a body's text -/
def bdT (t : Tm) : List (List Nat) := if hd1 t ∈ bare then tkT t else [40] :: (tkT t ++ [[41]])
def bdI (t : Tm) : List Itm := if hd1 t ∈ bare then itT t else [.lst (itT t)]
theorem body_run {t : Tm} (h : ∀ u ∈ subs t, frm u) (hd : dep t ≤ 6) : rp (bdL t) = jn (bdT t) ∧ bdT t ≠ [] ∧ GoodR ([], []) (bdT t) ∧ runI ([], []) (bdT t) = (bdI t, []) := by
  have h1 := rp_T t h
  unfold bdL bdT bdI
  by_cases e : hd1 t ∈ bare
  · rw [if_pos e, if_pos e, if_pos e]
    have := run_T t ([], []) h (by show 0 + dep t ≤ 12; omega)
    exact ⟨h1.2, h1.1, this.1, by rw [this.2]; rfl⟩
  · rw [if_neg e, if_neg e, if_neg e]
    have := par_run (m := ([], [])) (by decide) (run_T t ([], [[]]) h (by show 1 + dep t ≤ 12; omega))
    exact ⟨prn_rp h1.1 h1.2, by simp, this.1, by rw [this.2]; rfl⟩
end K8
/-! items_of -/
namespace K8
open PySem PySem.Spec L2 Evl
open PyProof.Rows hiding St
section
variable {P : Program} {w : World} {K : PySem.W.Frag} {mg : Str → Option Value} {base : Heap}
theorem psT_nox {X : Cx} {st : List Stmt} {t : TS} (h : PSsT X.nox st t) : PSsT X st t := fun pins s σ H D h0 I hw =>
  wpAny_mono (h pins s σ H D h0 (I.wish _) hw) (fun fl s' q => by
    cases fl with
    | next => obtain ⟨σ', H', I', q⟩ := q; exact ⟨σ', H', I'.wish _, q⟩
    | brk => obtain ⟨σ', H', I', q⟩ := q; exact ⟨σ', H', I'.wish _, q⟩
    | cont => obtain ⟨σ', H', I', q⟩ := q; exact ⟨σ', H', I'.wish _, q⟩
    | ret v => obtain ⟨x, σ', H', I', r, q⟩ := q; exact ⟨x, σ', H', I'.wish _, r, q⟩) fun _ _ x => x.elim
theorem Dfn.calT {x : Str} {st : Stmt} {N ps : List Str} {k : Nat} {sp : Sp} (D : Dfn K mg x st ps) (S : C8.scC N ps (defScope st) = true) (hnc : ∀ y ∈ (defScope st).names, y.2 ≠ .cell) (hps : 1 ≤ ps.length) (len : ∀ vs H Q E, sp vs H Q E → vs.length = ps.length)
    (hbody : ∀ (f : Addr) (cdv : Value) (A : Around) (outer : List Env) (s : Shared) (H : Hp) (vs : List V) (Q : VK) (E : XK), Room k (A.deeper (envOfC x (defScope st) s.heap.objs.size f cdv)) → N.Nodup → sp vs H Q E →
      ∃ t, PSsT (cxOf L2.CX0 P w K mg base N x (defScope st) f cdv A outer s H E).nox (defBody st) t ∧ t { nx := fun _ H' => Q .non H', rt := Q } (start N vs) H) : Cal P w K mg base (k + 1) x sp := by
  obtain ⟨f, fd, F, m, b⟩ := D.ex
  have sc := C8.fnScope_by S
  have kp := F.kp
  obtain ⟨oc, od, kV, doc, pm, an, cdv, ct, osl, rfl, lk, hcd⟩ := F.ex
  refine ⟨f, _, ps, fn_ofT lk hcd sc hnc hps len fun A outer s H vs Q E hr h => ?_, m, kp, b⟩
  obtain ⟨t, h1, h2⟩ := hbody f cdv A outer s H vs Q E hr sc.nd h
  exact ⟨t, psT_nox h1, h2⟩
end
/-- e.split(e2), the receiver wanting a token -/
theorem pet_split {X : Cx} {o e : Expr} {to te : TE} {apos pos : Pos} (ho : PET X o to) (he : PE X e te) (hs : starEach [e] X.env = [(false, eval e X.env)] := by rfl) (hbase : attributeBase o "split" X.env (eval o X.env) = eval o X.env := by rfl) (hline : (apos.endLine == pos.line) = true := by rfl) :
    PET X (.Call (.Attribute o "split" apos) [e] [] pos) (tM1 (fun x xs H Q => ∃ a b, x = .str a ∧ xs = [.str b] ∧ (b.length == 0) = false ∧ a.length + 2 ≤ sizeLine ∧ rNewStrs (Txt.split a b) H Q) to te) := by
  intro pins s σ H Q h0 I h
  refine PySem.Call_method1 hbase hs hline (thn (ho pins s σ H _ h0 I h) fun v s1 ⟨x, H1, I1, r1, q1⟩ => ?_)
  obtain ⟨⟨a, rfl⟩, q1⟩ := q1
  obtain ⟨t, rfl⟩ := _root_.id r1
  refine ⟨"str", _, PySem.F.plainAttrs_str, PySem.F.slot_str_split, PySem.F.type_str_split, typeIs_str _ _ _, (fun _ e => nomatch e), Calls.callWith_builtin rfl (Calls.evalArgs_plain (Calls.spliced_cons ?_))⟩
  exact thn (he.run pins s1 σ H1 _ I1 q1) fun u s2 ⟨y, H2, I2, r2, q2⟩ => Calls.spliced_nil (mt_split pins s2 σ H2 _ [y] _ [u] Q I2 r1 (.cons r2 .nil) q2)
/-! ### items in the heap -/
mutual
def ItAt (G : Hp) : Itm → V → Prop
  | .atm w, v => v = wv w
  | .lst is, v => ∃ l xs, v = .ref l ∧ G l = some (.lst xs) ∧ ItAll G is xs
def ItAll (G : Hp) : List Itm → List V → Prop
  | [], xs => xs = []
  | i :: is, xs => ∃ x r, xs = x :: r ∧ ItAt G i x ∧ ItAll G is r
end
mutual
theorem ItAt.ex {G G' : Hp} (e : Ex G G') : ∀ (i : Itm) (v : V), ItAt G i v → ItAt G' i v
  | .atm w, v, h => h
  | .lst is, v, h => by
    obtain ⟨l, xs, h1, h2, h3⟩ := h
    exact ⟨l, xs, h1, e _ _ h2, ItAll.ex e is xs h3⟩
theorem ItAll.ex {G G' : Hp} (e : Ex G G') : ∀ (is : List Itm) (xs : List V), ItAll G is xs → ItAll G' is xs
  | [], xs, h => h
  | i :: is, xs, h => by
    obtain ⟨x, r, h1, h2, h3⟩ := h
    exact ⟨x, r, h1, ItAt.ex e i x h2, ItAll.ex e is r h3⟩
end
theorem ItAll.snoc {G : Hp} {i : Itm} {x : V} (h : ItAt G i x) : ∀ {is : List Itm} {xs : List V}, ItAll G is xs → ItAll G (is ++ [i]) (xs ++ [x])
  | [], xs, h1 => by
    have h1 : xs = [] := h1
    subst h1
    exact ⟨x, [], rfl, h, rfl⟩
  | j :: is, xs, h1 => by
    obtain ⟨y, r, rfl, h2, h3⟩ := h1
    exact ⟨y, r ++ [x], rfl, h2, ItAll.snoc h h3⟩
theorem ItAll.len {G : Hp} : ∀ {is : List Itm} {xs : List V}, ItAll G is xs → xs.length = is.length
  | [], xs, h => by
    have h : xs = [] := h
    rw [h]
    rfl
  | i :: is, xs, h => by
    obtain ⟨x, r, rfl, h2, h3⟩ := h
    rw [List.length_cons, List.length_cons, ItAll.len h3]
/-! ### replace -/
theorem repl1 {c : Nat} {z : List Nat} : ∀ l : List Nat, PySem.StrLaws.replL [c] z l = l.flatMap fun d => if d = c then z else [d]
  | [] => PySem.StrLaws.replL_nil
  | d :: r => by
    rw [List.flatMap_cons]
    by_cases e : d = c
    · subst e
      rw [PySem.StrLaws.replL_hit (by simp) rfl, if_pos rfl]
      show z ++ PySem.StrLaws.replL [d] z r = _
      rw [repl1 r]
    · rw [PySem.StrLaws.replL_miss (by simpa using e), if_neg e, repl1 r]
      rfl
theorem repl_S (c : Nat) (z l : List Nat) : Txt.replace (SX.S l) (SX.S [c]) (SX.S z) = SX.S (l.flatMap fun d => if d = c then z else [d]) := by
  refine TL.ext_tl ?_
  have h := PySem.StrLaws.replace_list (x := SX.S l) (y := SX.S [c]) (z := SX.S z) (by rw [SX.S_len]; exact Nat.le_refl 1)
  exact h.trans (repl1 l)
theorem rp_two (l : List Nat) : (l.flatMap fun d => if d = 40 then [40, 32] else [d]).flatMap (fun d => if d = 41 then [32, 41] else [d]) = rp l := by
  induction l with
  | nil => rfl
  | cons c r ih =>
    rw [List.flatMap_cons, List.flatMap_append, ih]
    show _ = rp1 c ++ rp r
    congr 1
    unfold rp1
    by_cases h1 : c = 40
    · subst h1; rfl
    · rw [if_neg h1, if_neg h1]
      simp
theorem good_32 : ∀ {ws : List (List Nat)} {m : MS}, GoodR m ws → ∀ w ∈ ws, 32 ∉ w
  | w :: ws, m, ⟨h1, _, h3⟩, v, hv => by
    rcases List.mem_cons.mp hv with rfl | hv
    · exact h1.2.1
    · exact good_32 h3 v hv
/-- the open lists around, inmost first -/
def StkAt (G H : Hp) (n : Nat) (fs : List Addr) (m : List (List Itm)) : Prop := Pw (fun v is => ∃ f xs, v = .ref f ∧ H f = some (.lst xs) ∧ G f = none ∧ ItAll G is xs ∧ xs.length ≤ n) (fs.map V.ref) m
theorem pw_cons {α : Type} {R : V → α → Prop} {x : V} {g : α} {xs : List V} {gs : List α} (h : R x g) (p : Pw R xs gs) : Pw R (x :: xs) (g :: gs) := ⟨by rw [List.length_cons, List.length_cons, p.1], fun i y e => by
  cases i with
  | zero => cases e; exact ⟨g, rfl, h⟩
  | succ i => exact p.2 i y e⟩
theorem pw_tl {α : Type} {R : V → α → Prop} {x : V} {g : α} {xs : List V} {gs : List α} (p : Pw R (x :: xs) (g :: gs)) : R x g ∧ Pw R xs gs := by
  refine ⟨?_, ?_, fun i y e => p.2 (i + 1) y e⟩
  · obtain ⟨g', e, h⟩ := p.2 0 x rfl
    cases e
    exact h
  · have := p.1
    simpa using this
theorem StkAt.ex {G H H' : Hp} {n n' : Nat} {fs : List Addr} {m : List (List Itm)} (h : StkAt G H n fs m) (e : Ex H H') (hn : n ≤ n') : StkAt G H' n' fs m :=
  Pw.imp h fun _ _ ⟨f, xs, h1, h2, h3, h4, h5⟩ => ⟨f, xs, h1, e _ _ h2, h3, h4, Nat.le_trans h5 hn⟩
theorem StkAt.mem {G H : Hp} {n : Nat} {fs : List Addr} {m : List (List Itm)} (h : StkAt G H n fs m) {a : Addr} (ha : a ∈ fs) : ∃ (is : List Itm) (f : Addr) (xs : List V), V.ref a = .ref f ∧ H f = some (.lst xs) ∧ G f = none ∧ ItAll G is xs ∧ xs.length ≤ n := by
  obtain ⟨i, hi, e⟩ := List.getElem_of_mem ha
  obtain ⟨g, _, h2⟩ := h.2 i (.ref a) (by rw [List.getElem?_map, List.getElem?_eq_getElem hi, e]; rfl)
  exact ⟨g, h2⟩
theorem StkAt.upds {G G' H H' : Hp} {n : Nat} {fs : List Addr} {m : List (List Itm)} (h : StkAt G H n fs m) (e : ∀ f ∈ fs, H' f = H f) (g : Ex G G') (g' : ∀ f ∈ fs, G f = none → G' f = none) : StkAt G' H' n fs m :=
  ⟨h.1, fun i x ex => by
    obtain ⟨is, h1, f, xs, h2, h3, h4, h5, h6⟩ := h.2 i x ex
    have hx := List.mem_of_getElem? ex
    subst h2
    obtain ⟨f', hf, e'⟩ := List.mem_map.mp hx
    cases e'
    exact ⟨is, h1, f, xs, rfl, by rw [e _ hf]; exact h3, g' _ hf h4, ItAll.ex g _ _ h5, h6⟩⟩
theorem ne_snoc {A B : Prop} {l : List V} {x : V} (h : A) : if (!(l ++ [x]).isEmpty) = true then A else B := by
  rw [show (l ++ [x]).isEmpty = false by cases l <;> rfl]
  exact iteT h
theorem ex_upd {G H : Hp} {F : Addr} {o : HO} (e : Ex G H) (h : H F = some o) : Ex (upd G F o) H := fun a u ha => by
  by_cases z : a = F
  · subst z; rw [upd_same] at ha; cases ha; exact h
  · rw [upd_ne z] at ha; exact e a u ha
theorem r_repl {to : TE} {y z : Str} {σ : L2.St} {H : Hp} {Q : VK} (q : to σ H fun v H1 => ∃ x, v = .str x ∧ x.length + (x.length + 1) * z.length ≤ 16777216 ∧ Q (.str (Txt.replace x y z)) H1) : CwR.tReplC to y z σ H Q := q
section
variable {P : Program} {w : World} {K : PySem.W.Frag} {mg : Str → Option Value} {base : Heap}
def spItems : Sp := fun vs H Q _ => ∃ (l : List Nat) (ws : List (List Nat)) (is : List Itm), vs = [.str (SX.S l)] ∧ l.length ≤ 100000 ∧ rp l = jn ws ∧ ws ≠ [] ∧ ws.length ≤ 100000 ∧ GoodR ([], []) ws ∧ runI ([], []) ws = (is, []) ∧
  ∀ p H' xs, Ex H H' → H' p = some (.lst xs) → ItAll H' is xs → Q (.ref p) H'
theorem c_items_of (D : Dfn K mg "items_of" (top 52) ["text"]) (T : Txt K mg) : Cal P w K mg base 1 "items_of" spItems := by
  refine D.calT (N := ["text", "found", "around", "word", "inner"]) (by decide +kernel) (by decide +kernel) (by decide) (fun vs H Q E h => ?_) fun f cdv A outer s H vs Q E hr nd h => ?_
  · obtain ⟨l, ws, is, rfl, _⟩ := h
    rfl
  obtain ⟨l, ws, is, rfl, hl, hrp, hne, hwl, hgood, hrun, q⟩ := h
  refine ⟨_, psst_cons (PST.of (ps_asg (pe_lst pa_nil) (pg_name (i := 1) nd rfl (Or.inl rfl))))
    (psst_cons (PST.of (ps_asg (pe_lst pa_nil) (pg_name (i := 2) nd rfl (Or.inl rfl))))
    (psst_cons (pst_for PassesOwn.never rfl (pit_list (pet_split (CwR.pet_replT (CwR.pet_replC (pv 0))) pe_str)) (pg_name (i := 3) nd rfl (Or.inl rfl))
      (pss_cons (ps_if (pt_cmpR op_eq (pv 3) pe_str (nomark _))
        (pss_cons (ps_expr (p_app K (pv 2) (pv 1))) (pss_one (ps_asg (pe_lst pa_nil) (pg_name (i := 1) nd rfl (Or.inl rfl)))))
        (pss_one (ps_if (PW.pt (pw_and (pt_cmpR op_eq (pv 3) pe_str (nomark _)) (pw_and1 (pt_cmpR (op_ne_nil hr.units0) (pv 2) (pe_lst pa_nil) rfl))))
          (pss_cons (ps_asg (pv 1) (pg_name (i := 4) nd rfl (Or.inl rfl))) (pss_cons (ps_asg (p_pop K (pv 2)) (pg_name (i := 1) nd rfl (Or.inl rfl))) (pss_one (ps_expr (p_app K (pv 1) (pv 4))))))
          (pss_one (ps_if (PW.pt (pw_or (pt_cmpR op_eq (pv 3) pe_str (nomark _)) (pw_or (pt_cmpR op_in_str pe_str (pv 3) rfl) (pw_or1 (pt_cmpR op_in_str pe_str (pv 3) rfl)))))
            (pss_one ps_no)
            (pss_one (ps_expr (p_app K (pv 1) (pv 3)))))))))
      (pss_one (ps_if (pt_cmpR op_gt (p_len T (pv 2)) (C8.pe_gc rfl T.MAX_BRACKETS) (nomark _)) (pss_one ps_no) pss_nil))))
    (PSsT.of (pss_one (ps_ret (pe_ifExp (pt_cmpR (op_eq_nil hr.units0) (pv 2) (pe_lst pa_nil) rfl) (pv 1) pe_non)))))), ?_⟩
  walk_at "rds"
  refine ⟨Nat.zero_le _, fun F0 hF0 => ?_⟩
  walk_at "rds"
  refine ⟨Nat.zero_le _, fun B hB => ?_⟩
  walk_at "rds"
  have fm1 : ∀ l : List Nat, (l.flatMap fun d => if d = 40 then [40, 32] else [d]).length ≤ 2 * l.length := fun l => by
    induction l with
    | nil => simp
    | cons c r ih =>
      rw [List.flatMap_cons, List.length_append, List.length_cons]
      have : (if c = 40 then [40, 32] else [c]).length ≤ 2 := by split <;> simp
      omega
  have fm2 : ∀ l : List Nat, (rp l).length ≤ 2 * l.length := fun l => by
    induction l with
    | nil => simp [rp]
    | cons c r ih =>
      show (rp1 c ++ rp r).length ≤ _
      rw [List.length_append, List.length_cons]
      have : (rp1 c).length ≤ 2 := by unfold rp1; split <;> (try split) <;> simp
      omega
  have hjl : (jn ws).length ≤ 200000 := by have := fm2 l; rw [hrp] at this; omega
  refine r_repl ?_
  refine r_repl ?_
  walk_at "rds"
  refine ⟨_, rfl, by rw [SX.S_len, show ("( " : Str).length = 2 by decide +kernel]; omega, ?_⟩
  have e1 : Txt.replace (SX.S l) "(" "( " = SX.S (l.flatMap fun d => if d = 40 then [40, 32] else [d]) := repl_S 40 [40, 32] l
  rw [e1]
  refine ⟨_, rfl, by rw [SX.S_len, show (" )" : Str).length = 2 by decide +kernel]; have := fm1 l; omega, ?_⟩
  have e2 : Txt.replace (SX.S (l.flatMap fun d => if d = 40 then [40, 32] else [d])) ")" " )" = SX.S (jn ws) := by
    have := repl_S 41 [32, 41] (l.flatMap fun d => if d = 40 then [40, 32] else [d])
    rw [rp_two, hrp] at this
    exact this
  rw [e2]
  refine ⟨⟨_, rfl⟩, ?_⟩
  walk_at "rds"
  refine ⟨_, " ", rfl, rfl, by decide +kernel, by rw [SX.S_len, sizeLine_eq]; omega, fun p hp => ?_⟩
  have e3 : Txt.split (SX.S (jn ws)) " " = ws.map SX.S := by
    have h1 : Txt.split (SX.S (jn ws)) (SX.S [32]) = (TL.spl [32] 0 [] (jn ws)).map SX.S := SX.split_S (by decide) (by decide)
    rw [show TL.spl [32] 0 [] (jn ws) = ws from TL.spl_join hne (good_32 hgood)] at h1
    exact h1
  rw [e3]
  have hF0' : H F0 = none := hF0
  have hBF : B ≠ F0 := fun z => by subst z; rw [upd_same] at hB; cases hB
  have hpF : p ≠ F0 := fun z => by subst z; rw [upd_ne (fun z => hBF z.symm), upd_same] at hp; cases hp
  have hpB : p ≠ B := fun z => by subst z; rw [upd_same] at hp; cases hp
  have hB0 : H B = none := ex_none (Ex.new hF0) hB
  have hH : Ex H (upd (upd (upd H F0 (.lst [])) B (.lst [])) p (.lst ((ws.map SX.S).map V.str))) := ((Ex.new hF0).trans (Ex.new hB)).trans (Ex.new hp)
  have hf3 : (upd (upd (upd H F0 (.lst [])) B (.lst [])) p (.lst ((ws.map SX.S).map V.str))) F0 = some (.lst []) := by
    rw [upd_ne (fun z => hpF z.symm), upd_ne (fun z => hBF z.symm), upd_same]
  have hb3 : (upd (upd (upd H F0 (.lst [])) B (.lst [])) p (.lst ((ws.map SX.S).map V.str))) B = some (.lst []) := by
    rw [upd_ne (fun z => hpB z.symm), upd_same]
  have hp3 : (upd (upd (upd H F0 (.lst [])) B (.lst [])) p (.lst ((ws.map SX.S).map V.str))) p = some (.lst (ws.map wv)) := by
    rw [upd_same, List.map_map]
    rfl
  generalize upd (upd (upd H F0 (.lst [])) B (.lst [])) p (.lst ((ws.map SX.S).map V.str)) = H3 at *
  refine ⟨p, rfl, ⟨_, SqL.of hp3⟩, for_over (over_list (xs := ws.map wv)) (fun i σ H' => ∃ (o3 o4 : Option V) (G : Hp) (F : Addr) (fs : List Addr) (m : MS) (xs : List V), σ = [some (.str (SX.S l)), some (.ref F), some (.ref B), o3, o4] ∧ m = runI ([], []) (ws.take i) ∧ GoodR m (ws.drop i) ∧ Ex H G ∧ Ex G H' ∧ G p = some (.lst (ws.map wv)) ∧
      G B = none ∧ G F = none ∧ H' B = some (.lst (fs.reverse.map V.ref)) ∧ H' F = some (.lst xs) ∧ ItAll G m.1 xs ∧ xs.length ≤ i ∧ StkAt G H' i fs m.2 ∧ (F :: B :: fs).Nodup ∧ m.2.length ≤ 12)
    ⟨none, none, era (era H3 F0) B, F0, [], ([], []), [], rfl, rfl, hgood, era_ex (era_ex hH hF0) hB0, era_le.trans era_le, by rw [era_ne hpB, era_ne hpF]; exact hp3, era_none, by rw [era_ne (fun z => hBF z.symm)]; exact era_none, hb3, hf3, rfl, Nat.le_refl _, Pw.nil, by simp; exact fun z => hBF z.symm, Nat.zero_le _⟩
    (fun i σ H' ⟨_, _, G, _, _, _, _, _, _, _, _, h, hp, _⟩ => SqL.of (h _ _ hp)) ?_ ?_⟩
  · rintro i x σ H4 H5 hi ⟨o3, o4, G, F, fs, m, xs, rfl, hm, hg, g1, g2, g3, g5, g7n, g6, g7, g8, g9, g10, g11, g12⟩ e5 y
    have hil : i < ws.length := by
      have := (List.getElem?_eq_some_iff.mp y).1
      rwa [List.length_map] at this
    have hd : ws.drop i = ws[i] :: ws.drop (i + 1) := List.drop_eq_getElem_cons hil
    have ht : ws.take (i + 1) = ws.take i ++ [ws[i]] := List.take_succ_eq_append_getElem hil
    have hx : x = wv ws[i] := by
      rw [List.getElem?_map, List.getElem?_eq_getElem hil] at y
      exact (Option.some.inj y).symm
    subst hx
    rw [hd] at hg
    obtain ⟨hok, hst12, hg'⟩ := hg
    have hm' : stI m ws[i] = runI ([], []) (ws.take (i + 1)) := by rw [ht, run_app, ← hm]; rfl
    generalize ws[i] = wd at *
    dsimp only
    have g2 := g2.trans e5
    have g6 := e5 _ _ g6
    have g7 := e5 _ _ g7
    have g10 := g10.ex e5 (Nat.le_refl i)
    have hfl : fs.length = m.2.length := by have := g10.1; rwa [List.length_map] at this
    obtain ⟨hFB, hFf, hBf, hff⟩ : F ≠ B ∧ F ∉ fs ∧ B ∉ fs ∧ fs.Nodup := by
      simp only [List.nodup_cons, List.mem_cons, not_or] at g11
      exact ⟨g11.1.1, g11.1.2, g11.2.1, g11.2.2⟩
    have hpB5 : p ≠ B := fun z => by rw [z, g5] at g3; cases g3
    by_cases c1 : wd = [40]
    · subst c1
      have hs : stI m [40] = ([], m.1 :: m.2) := by unfold stI; rw [if_pos rfl]
      rw [hs] at hst12 hg' hm'
      walk_at "rds"
      refine r_eq rfl (r_bl (r_yes rfl ?_))
      walk_at "rds"
      refine ⟨ty_l g6, ?_⟩
      walk_at "rds"
      refine ⟨B, _, .ref F, rfl, rfl, g6, small (by rw [List.length_map, List.length_reverse]; omega), ?_⟩
      walk_at "rds"
      refine ⟨Nat.zero_le _, fun F1 hF1 => ?_⟩
      have n1 : F1 ≠ B := fun z => by rw [z, upd_same] at hF1; cases hF1
      have hF1' : H5 F1 = none := by rw [upd_ne n1] at hF1; exact hF1
      have n2 : F1 ≠ F := fun z => by rw [z, g7] at hF1'; cases hF1'
      have n3 : F1 ∉ fs := fun z => by
        obtain ⟨is, f, ys, ef, hf, _⟩ := g10.mem z
        cases ef
        rw [hF1'] at hf; cases hf
      walk_at "rds"
      have b6 : (upd (upd H5 B (.lst (fs.reverse.map V.ref ++ [V.ref F]))) F1 (.lst [])) B = some (.lst (((F :: fs).reverse).map V.ref)) := by
        rw [upd_ne (fun z => n1 z.symm), upd_same, List.reverse_cons, List.map_append]
        rfl
      refine ⟨B, _, rfl, .inl (SqL.of b6), ?_⟩
      walk_at "rds"
      refine r_no (by rw [List.length_map, List.length_reverse]; simp only [List.length_cons] at hst12 ⊢; omega) ?_
      refine ⟨_, _, G, F1, F :: fs, _, [], rfl, hm', hg', g1, Ex.trans (Ex.mut g2 g5) (Ex.new hF1), g3, g5, ex_none g2 hF1', b6, upd_same, rfl, Nat.zero_le _, ?_, ?_, hst12⟩
      · refine pw_cons ⟨F, xs, rfl, by rw [upd_ne (fun z => n2 z.symm), upd_ne hFB]; exact g7, g7n, g8, Nat.le_succ_of_le g9⟩ ((g10.ex (fun _ _ h => h) (Nat.le_succ i)).upds (fun f hf => ?_) (fun _ _ h => h) fun _ _ h => h)
        rw [upd_ne (show f ≠ F1 from fun z => n3 (z ▸ hf)), upd_ne (show f ≠ B from fun z => hBf (z ▸ hf))]
      · simp only [List.nodup_cons, List.mem_cons, not_or]
        exact ⟨⟨n1, n2, n3⟩, ⟨fun z => hFB z.symm, hBf⟩, hFf, hff⟩
    by_cases c2 : wd = [41]
    · subst c2
      have hne : m.2 ≠ [] := by
        rcases hok.2.2 with h | ⟨_, h⟩ | ⟨_, h⟩
        · cases h
        · exact h
        · exact absurd (List.mem_cons_self ..) h
      obtain ⟨m1, m2⟩ := m
      cases m2 with
      | nil => exact absurd rfl hne
      | cons pI rI =>
      cases fs with
      | nil => cases hfl
      | cons f0 fs' =>
      have hs : stI (m1, pI :: rI) [41] = (pI ++ [.lst m1], rI) := by unfold stI; rw [if_neg (by decide), if_pos rfl]
      rw [hs] at hst12 hg' hm'
      obtain ⟨⟨f0', ys0, ef0, hf0, hgf0, hit0, hl0⟩, gt⟩ := pw_tl g10
      cases ef0
      simp only [List.mem_cons, not_or, List.nodup_cons] at hFf hBf hff
      have hBys : (((f0 :: fs').reverse).map V.ref) = (fs'.reverse.map V.ref) ++ [.ref f0] := by rw [List.reverse_cons, List.map_append]; rfl
      walk_at "rds"
      refine r_eq rfl (r_bl (r_no (by decide +kernel) ?_))
      walk_at "rds"
      refine r_eq rfl (r_bl (r_yes rfl ?_))
      walk_at "rds"
      refine ⟨Nat.zero_le _, fun z hz => ?_⟩
      have e6 : Ex H5 (upd H5 z (.lst [])) := Ex.new hz
      refine r_neNilL (SqL.of (e6 _ _ g6)) (SqL.of upd_same) (r_bl ?_)
      rw [hBys] at g6 ⊢
      refine ne_snoc ?_
      have g2 := g2.trans e6
      have g6 := e6 _ _ g6
      have g7 := e6 _ _ g7
      have hf0 := e6 _ _ hf0
      have gt : StkAt G _ (i + 1) fs' rI := StkAt.ex gt e6 (Nat.le_succ i)
      clear e6
      generalize upd H5 z (.lst []) = H6 at *
      walk_at "rds"
      refine ⟨ty_l g6, B, _, .ref f0, rfl, rfl, g6, by rw [List.length_append]; simp, ?_⟩
      rw [List.dropLast_concat]
      have q2 : Ex G (upd H6 B (.lst (fs'.reverse.map V.ref))) := Ex.mut g2 g5
      have qB : (upd H6 B (.lst (fs'.reverse.map V.ref))) B = some (.lst (fs'.reverse.map V.ref)) := upd_same
      have q0 : (upd H6 B (.lst (fs'.reverse.map V.ref))) f0 = some (.lst ys0) := by rw [upd_ne (fun z => hBf.1 z.symm)]; exact hf0
      have qF : (upd H6 B (.lst (fs'.reverse.map V.ref))) F = some (.lst xs) := by rw [upd_ne hFB]; exact g7
      have qt : StkAt G (upd H6 B (.lst (fs'.reverse.map V.ref))) (i + 1) fs' rI := gt.upds (fun f hf => upd_ne (show f ≠ B from fun z => hBf.2 (z ▸ hf))) (fun _ _ h => h) fun _ _ h => h
      generalize upd H6 B (.lst (fs'.reverse.map V.ref)) = H7 at *
      walk_at "rds"
      refine ⟨ty_l q0, ?_⟩
      walk_at "rds"
      refine ⟨f0, _, .ref F, rfl, rfl, q0, small (by omega), ?_⟩
      walk_at "rds"
      have b8 : (upd H7 f0 (.lst (ys0 ++ [.ref F]))) B = some (.lst (fs'.reverse.map V.ref)) := by rw [upd_ne hBf.1]; exact qB
      refine ⟨B, _, rfl, .inl (SqL.of b8), ?_⟩
      walk_at "rds"
      have hfl' : fs'.length = rI.length := by simpa using hfl
      refine r_no (by rw [List.length_map, List.length_reverse]; simp only at hst12 ⊢; omega) ?_
      have x1 : Ex G (upd G F (.lst xs)) := Ex.new g7n
      refine ⟨_, _, upd G F (.lst xs), f0, fs', _, ys0 ++ [.ref F], rfl, hm', hg', g1.trans x1, ex_upd (Ex.mut q2 hgf0) (by rw [upd_ne hFf.1]; exact qF), x1 _ _ g3, by rw [upd_ne (fun z => hFB z.symm)]; exact g5, by rw [upd_ne (fun z => hFf.1 z.symm)]; exact hgf0, b8, upd_same, ItAll.snoc (i := .lst m1) (show ItAt (upd G F (.lst xs)) (.lst m1) (.ref F) from ⟨F, xs, rfl, upd_same, ItAll.ex x1 _ _ g8⟩) (ItAll.ex x1 _ _ hit0), by rw [List.length_append, List.length_singleton]; omega, ?_, ?_, hst12⟩
      · exact qt.upds (fun f hf => upd_ne (show f ≠ f0 from fun z => hff.1 (z ▸ hf))) x1 fun f hf h => by rw [upd_ne (show f ≠ F from fun z => hFf.2 (z ▸ hf))]; exact h
      · simp only [List.nodup_cons, List.mem_cons, not_or]
        exact ⟨⟨fun z => hBf.1 z.symm, hff.1⟩, hBf.2, hff.2⟩
    have c3 : 40 ∉ wd ∧ 41 ∉ wd := by
      rcases hok.2.2 with h | ⟨h, _⟩ | h
      · exact absurd h c1
      · exact absurd h c2
      · exact h
    have hs : stI m wd = (m.1 ++ [.atm wd], m.2) := by unfold stI; rw [if_neg c1, if_neg c2]
    rw [hs] at hst12 hg' hm'
    have ne : ∀ {z : List Nat}, wd ≠ z → wv wd ≠ V.str (SX.S z) := fun h e => h (SX.S_inj (V.str.inj e))
    walk_at "rds"
    refine r_eq rfl (r_bl (r_no (ne (z := [40]) c1) ?_))
    walk_at "rds"
    refine r_eq rfl (r_bl (r_no (ne (z := [41]) c2) ?_))
    walk_at "rds"
    refine r_eq rfl (r_bl (r_no (ne (z := []) hok.1) ?_))
    walk_at "rds"
    refine ⟨"(", _, rfl, rfl, r_bl ?_⟩
    rw [show (!(Builtin.Str.occurrences (SX.S wd) "(" 0 (SX.S wd).length 1).isEmpty) = decide (40 ∈ wd) from SX.in_one wd 40]
    refine r_no c3.1 ?_
    walk_at "rds"
    refine ⟨")", _, rfl, rfl, r_bl ?_⟩
    rw [show (!(Builtin.Str.occurrences (SX.S wd) ")" 0 (SX.S wd).length 1).isEmpty) = decide (41 ∈ wd) from SX.in_one wd 41]
    refine r_no c3.2 ?_
    walk_at "rds"
    refine ⟨ty_l g7, ?_⟩
    walk_at "rds"
    refine ⟨F, _, wv wd, rfl, rfl, g7, small (by omega), ?_⟩
    walk_at "rds"
    have b8 : (upd H5 F (.lst (xs ++ [wv wd]))) B = some (.lst (fs.reverse.map V.ref)) := by rw [upd_ne (fun z => hFB z.symm)]; exact g6
    refine ⟨B, _, rfl, .inl (SqL.of b8), ?_⟩
    walk_at "rds"
    refine r_no (by rw [List.length_map, List.length_reverse]; simp only at hst12 ⊢; omega) ?_
    refine ⟨_, _, G, F, fs, _, xs ++ [wv wd], rfl, hm', hg', g1, Ex.mut g2 g7n, g3, g5, g7n, b8, upd_same, ItAll.snoc (i := .atm wd) (show ItAt G (.atm wd) (wv wd) from rfl) g8, by rw [List.length_append, List.length_singleton]; omega, (g10.ex (fun _ _ h => h) (Nat.le_succ i)).upds (fun f hf => upd_ne (show f ≠ F from fun z => hFf (z ▸ hf))) (fun _ _ h => h) fun _ _ h => h, g11, hst12⟩
  · rintro σ H4 ⟨o3, o4, G, F, fs, m, xs, rfl, hm, hg, g1, g2, g3, g4, g5, g6, g7, g8, g9, g10, g11, g12⟩
    rw [List.length_map, List.take_length, hrun] at hm
    subst hm
    have hfs : fs = [] := by
      have := g10.1
      rw [List.length_map] at this
      exact List.eq_nil_of_length_eq_zero this
    subst hfs
    walk_at "rds"
    refine ⟨Nat.zero_le _, fun z hz => ?_⟩
    refine r_eqNilL (SqL.of (Ex.new hz _ _ g6)) (SqL.of upd_same) (r_bl ?_)
    refine iteT ?_
    walk_at "rds"
    exact q F _ xs ((g1.trans g2).trans (Ex.new hz)) (Ex.new hz _ _ g7) (ItAll.ex (g2.trans (Ex.new hz)) _ _ g8)
end
end K8
/-! reading words: are_letters, is_number_text -/
namespace K8
open PySem PySem.Spec L2 Evl
open PyProof.Rows hiding St
section
variable {P : Program} {w : World} {K : PySem.W.Frag} {mg : Str → Option Value} {base : Heap}
theorem c_are_letters (D : Dfn K mg "are_letters" (top 47) ["item"]) (T : Txt K mg) : Cal P w K mg base 1 "are_letters" spName := by
  refine D.cal (N := ["item", "letter"]) (by decide +kernel) (fun vs H Q E h => ?_) fun f cdv A outer s H vs Q E hr nd h => ?_
  · obtain ⟨x, rfl, _⟩ := h
    rfl
  obtain ⟨x, rfl, hx, q⟩ := h
  unfold isNm at hx
  rw [Bool.and_eq_true, Bool.and_eq_true, decide_eq_true_eq, decide_eq_true_eq, List.all_eq_true] at hx
  obtain ⟨⟨h1, h2⟩, h3⟩ := hx
  have hz : x.length ≤ sizeLine := Nat.le_trans h2 (by decide)
  refine ⟨_, pss_one (ps_ret (pe_and (pe_callB call_isi rfl T.isinstance boot_isinstance (pa_cons (pv 0) (pa_cons (pe_ty T.str boot_str) pa_nil)))
      (pe_and (pe_cmpR op_ne (pv 0) pe_str (nomark _)) (pe_one (pe_callB (cr_all rfl) rfl T.all boot_all (pa_cons (pe_lc (own := [("letter", 1)]) (g := gName 1) (tt := tYes) rfl nd (pi_str (pv 0)) (blkOk_by (N := ["item", "letter"]) (sc := defScope (top 47)) (by decide +kernel))
      (fun _ _ _ _ _ => pg_name (i := 1) nd rfl (Or.inl rfl)) (fun _ _ _ _ _ => pts_nil) (fun _ _ _ _ _ => pe_cmpR op_in_sign (pv 1) (C8.pe_gc rfl T.LETTERS) rfl)) pa_nil)))))), ?_⟩
  walk_at "rds"
  refine r_isi (ty_str x) kb_str_str ?_
  walk_at "rds"
  refine r_ne rfl (r_bl (r_nno (fun e => ?_) ?_))
  · rw [V.str.inj e] at h1
    exact absurd h1 (by decide +kernel)
  walk_at "rds"
  refine ⟨x, rfl, lc_pure over_str (fun _ _ => trivial) (fun _ y _ => y = .bl true) (fun _ _ _ _ _ h => h) (Nat.lt_of_le_of_lt h2 (by decide)) (fun i y H1 hi e hy Q q => ?_) fun D H1 ys hD e h ht hall => ?_⟩
  · obtain ⟨c, hc, rfl⟩ := hy
    refine r_name ⟨rfl, ?_⟩
    walk_at "rds"
    refine ⟨c, _, rfl, rfl, q _ _ (Ex.refl _) ?_⟩
    exact congrArg V.bl (h3 c (Array.mem_toList_iff.mpr (Array.mem_of_getElem? hc)))
  · walk_at "rds"
    exact r_allT h hall (q _ e)
/-- a number's text: one digit is enough for the law (no program has more than 3 modes) -/
def spNum : Sp := fun vs H Q _ => ∃ c : Nat, vs = [.str (SX.S [c])] ∧ 48 ≤ c ∧ c ≤ 57 ∧ RetV (.bl true) H Q
theorem c_is_number (D : Dfn K mg "is_number_text" (top 46) ["word"]) (T : Txt K mg) : Cal P w K mg base 1 "is_number_text" spNum := by
  refine D.cal (N := ["word", "letter"]) (by decide +kernel) (fun vs H Q E h => ?_) fun f cdv A outer s H vs Q E hr nd h => ?_
  · obtain ⟨x, rfl, _⟩ := h
    rfl
  obtain ⟨c, rfl, hc1, hc2, q⟩ := h
  refine ⟨_, pss_cons (ps_if (PW.pt (pw_or (pt_not (pt_chain op_le op_le pe_int (pe_callB call_len_str rfl T.len PySem.boot_len (pa_cons (pv 0) pa_nil)) (C8.pe_gc rfl T.MAX_DIGITS)))
      (pw_or1 (pt_not (pt_val (pe_callB (cr_all rfl) rfl T.all boot_all (pa_cons (pe_lc (own := [("letter", 1)]) (g := gName 1) (tt := tYes) rfl nd (pi_str (pv 0)) (blkOk_by (N := ["word", "letter"]) (sc := defScope (top 46)) (by decide +kernel))
      (fun _ _ _ _ _ => pg_name (i := 1) nd rfl (Or.inl rfl)) (fun _ _ _ _ _ => pts_nil) (fun _ _ _ _ _ => pe_cmpR op_in_sign (pv 1) (C8.pe_gc rfl T.DIGITS) rfl)) pa_nil)))))))
      (pss_one (ps_ret pe_bl)) pss_nil)
    (pss_one (ps_ret (pe_or (pe_cmpR op_eq (pv 0) pe_str (nomark _)) (pe_one (pe_cmpR op_ne (pe_ix ix_str (pv 0) pe_int (fun _ _ => rfl)) pe_str (nomark _)))))), ?_⟩
  walk_at "rds"
  refine ⟨_, rfl, (by decide : (1 : Nat) ≤ sizeLine), ?_⟩
  walk_at "rds"
  rw [decide_eq_true (show (1 : Int) ≤ (((SX.S [c]).length : Nat) : Int) by rw [SX.S_len, List.length_singleton]; decide)]
  walk_at "rds"
  refine r_nyes (by rw [SX.S_len, List.length_singleton]; decide) ?_
  walk_at "rds"
  refine ⟨_, rfl, lc_pure over_str (fun _ _ => trivial) (fun _ y _ => y = .bl true) (fun _ _ _ _ _ h => h) (by decide : (1 : Nat) < sizeLine) (fun i y H1 hi e hy Q q => ?_) fun D H1 ys hD e h ht hall => ?_⟩
  · obtain ⟨d, hd, rfl⟩ := hy
    refine r_name ⟨rfl, ?_⟩
    walk_at "rds"
    refine ⟨d, _, rfl, rfl, q _ _ (Ex.refl _) ?_⟩
    have hdc : d = c := by
      have := Array.mem_toList_iff.mpr (Array.mem_of_getElem? hd)
      exact List.mem_singleton.mp this
    subst hdc
    exact congrArg V.bl (decide_eq_true (by
      rw [show (Str.ofString "0123456789").cps.toList = [48, 49, 50, 51, 52, 53, 54, 55, 56, 57] by decide +kernel]
      simp only [List.mem_cons, List.not_mem_nil, or_false]
      omega))
  · walk_at "rds"
    refine r_allT h hall ?_
    walk_at "rds"
    by_cases c0 : c = 48
    · subst c0
      refine r_eq rfl (r_bl (r_yes rfl ?_))
      walk_at "rds"
      exact q _ e
    · refine r_eq rfl (r_bl (r_no (fun z => c0 (List.cons.inj (SX.S_inj (a := [c]) (b := [48]) (V.str.inj z))).1) ?_))
      walk_at "rds"
      refine ⟨_, 0, c, rfl, rfl, (by decide : (1 : Nat) ≤ sizeLine), rfl, ?_⟩
      walk_at "rds"
      refine r_ne rfl ?_
      rw [show decide (V.str ⟨#[c]⟩ = V.str (Str.ofString "0")) = false from decide_eq_false (fun z => c0 (List.cons.inj (SX.S_inj (a := [c]) (b := [48]) (V.str.inj z))).1)]
      exact q _ e
end
end K8
/-! all_or_none -/
namespace K8
open PySem PySem.Spec L2 Evl
open PyProof.Rows hiding St
section
variable {P : Program} {w : World} {K : PySem.W.Frag} {mg : Str → Option Value} {base : Heap}
def spAon (K : PySem.W.Frag) : Sp := fun vs H Q _ => ∃ (a b : Addr) (hs xs : List V), vs = [.ref a, .ref b] ∧ SqL K H a hs ∧ SqL K H b xs ∧ (∀ x ∈ xs, ∃ (c : Addr) (ys : List V), x = V.ref c ∧ SqT K H c ys) ∧ hs.length ≤ 100 ∧ xs.length ≤ 100000 ∧
  ∀ p H', Ex H H' → SqT K H' p (hs ++ xs) → Q (.ref p) H'
theorem c_all_or_none (D : Dfn K mg "all_or_none" (top 53) ["head", "found"]) : Cal P w K mg base 1 "all_or_none" (spAon K) := by
  refine D.cal (N := ["head", "found"]) (by decide +kernel) (fun vs H Q E h => ?_) fun f cdv A outer s H vs Q E hr nd h => ?_
  · obtain ⟨a, b, hs, xs, rfl, _⟩ := h
    rfl
  obtain ⟨a, b, hs, xs, rfl, ha, hb, hx, hl, hl2, q⟩ := h
  refine ⟨_, pss_one (ps_ret (pe_ifExp (pt_cmpR (op_in_no (hu_of hr)) pe_non (pv 1) rfl) pe_non (pe_tup (p_star K (pv 0) (p_star K (pv 1) pa_nil))))), ?_⟩
  walk_at "rds"
  refine ⟨b, xs, rfl, rfl, hb, hx, r_bl ?_⟩
  refine iteF ?_
  walk_at "rds"
  refine ⟨a, hs, rfl, .inr ha, ?_⟩
  walk_at "rds"
  refine ⟨b, xs, rfl, .inr hb, ?_⟩
  walk_at "rds"
  refine ⟨by rw [List.append_nil, List.length_append]; exact Nat.le_of_lt (Nat.lt_of_le_of_lt (show _ ≤ 100100 by omega) (by decide)), fun p hp => ?_⟩
  rw [List.append_nil]
  exact q p _ (Ex.new hp) (SqT.of upd_same)
end
end K8
/-! deed_of -/
namespace K8
open PySem PySem.Spec L2 Evl
open PyProof.Rows hiding St
section
variable {P : Program} {w : World} {K : PySem.W.Frag} {mg : Str → Option Value} {base : Heap}
theorem dpa_mk {H : Hp} : ∀ {xs : List V} {ds : List PyData}, xs.length = ds.length → (∀ (i : Nat) (x : V), xs[i]? = some x → ∃ d, ds[i]? = some d ∧ Dp K H x d) → DpAll K H xs ds
  | [], [], _, _ => .nil
  | [], _ :: _, h, _ => by cases h
  | _ :: _, [], h, _ => by cases h
  | x :: xs, d :: ds, h, f => by
    obtain ⟨d', e, h1⟩ := f 0 x rfl
    cases e
    exact .cons h1 (dpa_mk (by simpa using h) fun i y hy => f (i + 1) y hy)
def spDeed (K : PySem.W.Frag) : Sp := fun vs H Q _ => ∃ (a : Addr) (x : Str) (tab : List (Option Nat)), vs = [.ref a] ∧ SqL K H a (.str "do" :: .str x :: tab.map fun e => wv (ent e)) ∧ isNm x = true ∧ tab ≠ [] ∧ tab.length ≤ 100000 ∧ (∀ e ∈ tab, ∀ n, e = some n → n < 3) ∧
  ∀ v H', Ex H H' → Dp K H' v (toD (.act x tab)) → Q v H'
theorem c_deed_of (D : Dfn K mg "deed_of" (top 54) ["items"]) (T : Txt K mg) (CL : Cal P w K mg base 1 "are_letters" spName) (CN : Cal P w K mg base 1 "is_number_text" spNum) : Cal P w K mg base 2 "deed_of" (spDeed K) := by
  refine D.cal (N := ["items", "item"]) (by decide +kernel) (fun vs H Q E h => ?_) fun f cdv A outer s H vs Q E hr nd h => ?_
  · obtain ⟨a, x, tab, rfl, _⟩ := h
    rfl
  obtain ⟨a, x, tab, rfl, ha, hx, hne, hl, h3, q⟩ := h
  refine ⟨_, pss_cons (ps_if (PW.pt (pw_or (pt_cmpR op_lt (p_len T (pv 0)) pe_int (nomark _)) (pw_or1 (pt_not (pt_val (pe_c CL hr (by decide) (pa_cons (p_ixL (K := K) (pv 0) pe_int) pa_nil)))))))
      (pss_one ps_no) pss_nil)
    (pss_cons (ps_if (pt_not (pt_val (p_all T (pe_lc (own := [("item", 1)]) (g := gName 1) (tt := tYes) rfl nd (pi_list (pe_slice (sl_list.or sl_anyT) (pv 0) (po_some pe_int) po_none)) (blkOk_by (N := ["items", "item"]) (sc := defScope (top 54)) (by decide +kernel))
        (fun _ _ _ _ _ => pg_name (i := 1) nd rfl (Or.inl rfl)) (fun _ _ _ _ _ => pts_nil) (fun _ _ _ _ _ => pe_and (p_isi T (pv 1) T.str boot_str) (pe_one (pe_or (pe_cmpR op_eq (pv 1) pe_str (nomark _)) (pe_one (pe_c CN hr (by decide) (pa_cons (pv 1) pa_nil))))))))))
      (pss_one ps_no) pss_nil)
    (pss_one (ps_ret (pe_tup (pa_cons pe_str (pa_cons (p_ixL (K := K) (pv 0) pe_int) (pa_cons (pe_callTy call_tuple_of rfl T.tuple boot_tuple (pa_cons (pe_lc (own := [("item", 1)]) (g := gName 1) (tt := tYes) rfl nd (pi_list (pe_slice (sl_list.or sl_anyT) (pv 0) (po_some pe_int) po_none)) (blkOk_by (N := ["items", "item"]) (sc := defScope (top 54)) (by decide +kernel))
        (fun _ _ _ _ _ => pg_name (i := 1) nd rfl (Or.inl rfl)) (fun _ _ _ _ _ => pts_nil) (fun _ _ _ _ _ => pe_ifExp (pt_cmpR op_eq (pv 1) pe_str (nomark _)) pe_non (pe_callTy call_int_str rfl T.int boot_int (pa_cons (pv 1) pa_nil)))) pa_nil)) pa_nil))))))), ?_⟩
  walk_at "rds"
  refine r_lenL ha ?_
  have htl : 1 ≤ tab.length := List.length_pos_iff.mpr hne
  walk_at "rds"
  refine r_no (by rw [List.length_cons, List.length_cons, List.length_map]; omega) ?_
  walk_at "rds"
  refine r_ixL ha r_at1 ?_
  walk_at "rds"
  refine ⟨x, rfl, hx, fun H1 e1 => ?_⟩
  walk_at "rds"
  have ha1 := ex_l e1 ha
  have num : ∀ n, n < 3 → ent (some n) = [48 + n] := fun n hn => TL.numL_lt (by omega)
  have get : ∀ {i : Nat} {y : V}, (tab.map fun e => wv (ent e))[i]? = some y → ∃ e, tab[i]? = some e ∧ y = wv (ent e) := fun {i y} h => by
    rw [List.getElem?_map] at h
    cases z : tab[i]? with
    | none => rw [z] at h; cases h
    | some e => rw [z] at h; cases h; exact ⟨e, rfl, rfl⟩
  refine .inl (r_slL (k := 2) ha1 fun p H2 hp e2 h2 => ?_)
  replace h2 : H2 p = some (.lst (tab.map fun e => wv (ent e))) := h2
  walk_at "rds"
  refine ⟨p, rfl, ⟨_, SqL.of h2⟩, lc_pure (over_list (xs := tab.map fun e => wv (ent e))) (fun H5 e5 => SqL.of (e5 _ _ h2)) (fun i y _ => y = .bl true) (fun _ _ _ _ _ h => h) (small (by rw [List.length_map]; exact hl)) (fun i y H3 hi e3 hy Q q => ?_) fun D H3 ys hD e3 h4 ht hall => ?_⟩
  · obtain ⟨e, he, rfl⟩ := get hy
    have hm := List.mem_of_getElem? he
    refine r_name ⟨rfl, ?_⟩
    walk_at "rds"
    refine r_isi (ty_str _) kb_str_str ?_
    walk_at "rds"
    cases e with
    | none =>
      refine r_eq rfl (r_bl (r_yes rfl ?_))
      walk_at "rds"
      exact q _ _ (Ex.refl _) rfl
    | some n =>
      have hn := h3 _ hm n rfl
      rw [num n hn]
      refine r_eq rfl (r_bl (r_no (fun z => by
        have := (List.cons.inj (SX.S_inj (a := [48 + n]) (b := [45]) (V.str.inj z))).1
        omega) ?_))
      walk_at "rds"
      exact ⟨48 + n, rfl, by omega, by omega, fun H' e => q _ _ e rfl⟩
  walk_at "rds"
  refine r_allT h4 hall ?_
  walk_at "rds"
  have ha3 := ex_l (e2.trans e3) ha1
  refine r_ixL ha3 r_at1 ?_
  walk_at "rds"
  refine .inl (r_slL (k := 2) ha3 fun p2 H4 hp2 e4 h5 => ?_)
  replace h5 : H4 p2 = some (.lst (tab.map fun e => wv (ent e))) := h5
  walk_at "rds"
  refine ⟨p2, rfl, ⟨_, SqL.of h5⟩, lc_pure (over_list (xs := tab.map fun e => wv (ent e))) (fun H5 e5 => SqL.of (e5 _ _ h5)) (fun i y H => ∃ e, tab[i]? = some e ∧ Dp K H y (entD e)) (fun _ _ _ _ kx ⟨e, h1, h2⟩ => ⟨e, h1, Dp.kx kx _ _ h2 (by cases e <;> rfl)⟩) (small (by rw [List.length_map]; exact hl)) (fun i y H3 hi e3 hy Q q => ?_) fun D H5 ys hD e5 h6 ht hall => ?_⟩
  · obtain ⟨e, he, rfl⟩ := get hy
    have hm := List.mem_of_getElem? he
    refine r_name ⟨rfl, ?_⟩
    walk_at "rds"
    cases e with
    | none =>
      refine r_eq rfl (r_bl (r_yes rfl ?_))
      walk_at "rds"
      exact q _ _ (Ex.refl _) ⟨_, he, .non⟩
    | some n =>
      have hn := h3 _ hm n rfl
      rw [num n hn]
      refine r_eq rfl (r_bl (r_no (fun z => by
        have := (List.cons.inj (SX.S_inj (a := [48 + n]) (b := [45]) (V.str.inj z))).1
        omega) ?_))
      walk_at "rds"
      refine ⟨_, (n : Int), rfl, ?_, by rw [SX.S_len, List.length_singleton]; decide, q _ _ (Ex.refl _) ⟨_, he, .int _⟩⟩
      have h := SX.int_S (a := [48 + n]) (by simp; omega) (by simp) (by simp)
      rw [h]
      simp [NumText.digitsVal]
  walk_at "rds"
  refine ⟨D, ys, rfl, .inl ⟨SqL.of h6, fun l hl5 => ?_⟩⟩
  walk_at "rds"
  refine ⟨(by decide : (3 : Nat) ≤ sizeLine), fun z hz => ?_⟩
  have x6 : Ex H5 (upd H5 l (.tup ys)) := Ex.new hl5
  have x7 := Ex.new (o := HO.tup [.str "do", .str x, .ref l]) hz
  refine q _ _ (((((e1.trans e2).trans e3).trans e4).trans e5).trans (x6.trans x7)) ?_
  simp only [toD]
  refine .tup (SqT.of upd_same) (.cons (.str _) (.cons (.str _) (.cons (.tup (ex_t x7 (SqT.of upd_same)) ?_) .nil)))
  refine dpa_mk (by rw [ht, List.length_map, List.length_map]) fun i y hy => ?_
  obtain ⟨e, he, hd⟩ := hall i y hy
  exact ⟨entD e, by rw [List.getElem?_map, he]; rfl, Dp.kx (Kx.of (x6.trans x7)) _ _ hd (by cases e <;> rfl)⟩
end
end K8
/-! named_of -/
namespace K8
open PySem PySem.Spec L2 Evl
open PyProof.Rows hiding St
theorem its_get {G : Hp} : ∀ {ts : List Tm} {ys : List V}, ItAll G (its ts) ys → ∀ {i : Nat} {y : V}, ys[i]? = some y → ∃ t, ts[i]? = some t ∧ ∃ l xs, y = .ref l ∧ G l = some (.lst xs) ∧ ItAll G (itT t) xs
  | [], ys, h, i, y, e => by
    rw [its] at h
    have h : ys = [] := h
    subst h
    simp at e
  | t :: ts, ys, h, i, y, e => by
    rw [its] at h
    obtain ⟨y0, r, rfl, h1, h2⟩ := h
    cases i with
    | zero => cases e; exact ⟨t, rfl, h1⟩
    | succ i => exact its_get h2 (i := i) e
theorem its_len : ∀ ts : List Tm, (its ts).length = ts.length
  | [] => by simp [its]
  | t :: ts => by rw [its, List.length_cons, List.length_cons, its_len ts]
theorem cutV_to (xs : List V) (k : Nat) : cutV xs none (some (k : Int)) = xs.take k := by
  unfold cutV
  rw [show HT.sIx xs.length 0 none = 0 from rfl, HT.sIx_nat, List.drop_zero, Nat.sub_zero]
  by_cases h : k ≤ xs.length
  · rw [Nat.min_eq_left h]
  · rw [Nat.min_eq_right (by omega), List.take_of_length_le (Nat.le_refl _), List.take_of_length_le (by omega)]
section
variable {P : Program} {w : World} {K : PySem.W.Frag} {mg : Str → Option Value} {base : Heap}
theorem r_slLt {H : Hp} {a : Addr} {xs : List V} {k : Nat} {Q : VK} (h : SqL K H a xs) (q : ∀ p H', H p = none → Ex H H' → H' p = some (.lst (xs.take k)) → Q (.ref p) H') : rSlL K (.ref a) none (some (k : Int)) H Q := by
  refine ⟨a, xs, rfl, h, fun p hp => ?_⟩
  rw [cutV_to]
  exact q p _ hp (Ex.new hp) upd_same
/-- the term that items tell -/
def spTerm (K : PySem.W.Frag) (n : Nat) : Sp := fun vs H Q _ => ∃ (a : Addr) (xs : List V) (t : Tm), vs = [.ref a] ∧ H a = some (.lst xs) ∧ ItAll H (itT t) xs ∧ dep t ≤ n ∧ size t ≤ 1000 ∧ (∀ u ∈ subs t, frm u) ∧
  ∀ v H', Ex H H' → Dp K H' v (toD t) → Q v H'
def spNamed (K : PySem.W.Frag) (n : Nat) : Sp := fun vs H Q _ => ∃ (a : Addr) (k x : Str) (ys : List V) (ts : List Tm), vs = [.ref a] ∧ SqL K H a (.str k :: .str x :: ys) ∧ ItAll H (its ts) ys ∧ isNm x = true ∧ ts.length ≤ 100000 ∧ (∀ t ∈ ts, dep t ≤ n ∧ size t ≤ 1000 ∧ ∀ u ∈ subs t, frm u) ∧
  ∀ v H', Ex H H' → Dp K H' v (.tuple (.str k :: .str x :: toDs ts)) → Q v H'
theorem c_named_of {L n : Nat} (D : Dfn K mg "named_of" (top 57) ["items"]) (T : Txt K mg) (hL : 1 ≤ L) (CL : Cal P w K mg base 1 "are_letters" spName) (CA : Cal P w K mg base 1 "all_or_none" (spAon K)) (CT : Cal P w K mg base L "term_of" (spTerm K n)) :
    Cal P w K mg base (L + 1) "named_of" (spNamed K n) := by
  refine D.cal (N := ["items", "item"]) (by decide +kernel) (fun vs H Q E h => ?_) fun f cdv A outer s H vs Q E hr nd h => ?_
  · obtain ⟨a, k, x, ys, ts, rfl, _⟩ := h
    rfl
  obtain ⟨a, k, x, ys, ts, rfl, ha, hit, hx, hl, hts, q⟩ := h
  refine ⟨_, pss_cons (ps_if (PW.pt (pw_or (pt_cmpR op_lt (p_len T (pv 0)) pe_int (nomark _)) (pw_or1 (pt_not (pt_val (pe_c CL hr hL (pa_cons (p_ixL (K := K) (pv 0) pe_int) pa_nil)))))))
      (pss_one ps_no) pss_nil)
    (pss_one (ps_ret (pe_c CA hr hL (pa_cons (pe_slice (sl_list.or sl_anyT) (pv 0) po_none (po_some pe_int)) (pa_cons (pe_lc (own := [("item", 1)]) (g := gName 1) (tt := tYes) rfl nd (pi_list (pe_slice (sl_list.or sl_anyT) (pv 0) (po_some pe_int) po_none)) (blkOk_by (N := ["items", "item"]) (sc := defScope (top 57)) (by decide +kernel))
        (fun _ _ _ _ _ => pg_name (i := 1) nd rfl (Or.inl rfl)) (fun _ _ _ _ _ => pts_nil) (fun _ _ _ _ _ => pe_c CT hr (Nat.le_refl _) (pa_cons (pv 1) pa_nil))) pa_nil))))), ?_⟩
  have hyl : ys.length = ts.length := by rw [hit.len, its_len]
  walk_at "rds"
  refine r_lenL ha ?_
  walk_at "rds"
  refine r_no (by rw [List.length_cons, List.length_cons]; omega) ?_
  walk_at "rds"
  refine r_ixL ha r_at1 ?_
  walk_at "rds"
  refine ⟨x, rfl, hx, fun H1 e1 => ?_⟩
  walk_at "rds"
  have ha1 := ex_l e1 ha
  refine .inl (r_slLt (k := 2) ha1 fun p H2 hp e2 h2 => ?_)
  replace h2 : H2 p = some (.lst [.str k, .str x]) := h2
  walk_at "rds"
  have ha2 := ex_l e2 ha1
  refine .inl (r_slL (k := 2) ha2 fun p3 H3 hp3 e3 h3 => ?_)
  replace h3 : H3 p3 = some (.lst ys) := h3
  walk_at "rds"
  have hit3 := hit.ex ((e1.trans e2).trans e3)
  refine ⟨p3, rfl, ⟨_, SqL.of h3⟩, lc_pure (over_list (xs := ys)) (fun H5 e5 => SqL.of (e5 _ _ h3)) (fun i y H => ∃ t, ts[i]? = some t ∧ Dp K H y (toD t)) (fun _ _ _ _ kx ⟨e, h1, h2⟩ => ⟨e, h1, Dp.kx kx _ _ h2 (noL_toD _)⟩) (small (by omega)) (fun i y H4 hi e4 hy Q q => ?_) fun D H4 zs hD e4 h4 ht hall => ?_⟩
  · obtain ⟨t, het, l, xs, rfl, hl4, hi4⟩ := its_get hit3 hy
    have hm := hts t (List.mem_of_getElem? het)
    refine r_name ⟨rfl, ?_⟩
    walk_at "rds"
    exact ⟨l, xs, t, rfl, e4 _ _ hl4, ItAll.ex e4 _ _ hi4, hm.1, hm.2.1, hm.2.2, fun v H' e hd => q _ _ e ⟨t, het, hd⟩⟩
  walk_at "rds"
  refine ⟨p, D, _, zs, rfl, ex_l (e3.trans e4) (SqL.of h2), SqL.of h4, fun z hz => ?_, by simp, by omega, fun r H5 e5 h5 => ?_⟩
  · obtain ⟨i, hi, e⟩ := List.getElem_of_mem hz
    obtain ⟨t, _, hd⟩ := hall i z (by rw [List.getElem?_eq_getElem hi, e])
    cases t <;> simp only [toD] at hd <;> obtain ⟨c, ws, rfl, hs, _⟩ := dp_tup hd <;> exact ⟨c, ws, rfl, hs⟩
  · refine q _ _ ((((e1.trans e2).trans e3).trans e4).trans e5) (.tup h5 (.cons (.str _) (.cons (.str _) (dpa_mk (by show zs.length = _; rw [ht, toDs_len, hyl]) fun i z hz => ?_))))
    obtain ⟨t, het, hd⟩ := hall i z hz
    exact ⟨toD t, by rw [toDs_map, List.getElem?_map, het]; rfl, Dp.kx (Kx.of e5) _ _ hd (noL_toD _)⟩
end
end K8
/-! read_body -/
namespace K8
open PySem PySem.Spec L2 Evl
open PyProof.Rows hiding St
theorem it_bare {t : Tm} (h : hd1 t ∈ bare) (hf : frm t) : ∃ w r, itT t = .atm (cl (hd1 t)) :: .atm w :: r := by
  cases t with
  | act w tab => exact ⟨_, _, by rw [itT]; rfl⟩
  | nam k x => exact ⟨_, _, by rw [itT]; rfl⟩
  | ser k ts =>
    exfalso
    have h : k ∈ bare := h
    rcases hf with rfl | ⟨rfl | rfl, _⟩ | ⟨rfl, _⟩ <;> revert h <;> decide +kernel
  | cal => exact absurd (show ("call" : Str) ∈ bare from h) (by decide +kernel)
  | sco => exact absurd (show ("scope" : Str) ∈ bare from h) (by decide +kernel)
  | ans => exact absurd (show ("answer" : Str) ∈ bare from h) (by decide +kernel)
theorem self_subs (t : Tm) : t ∈ subs t := by
  rw [subs_eq]; exact List.mem_cons_self
section
variable {P : Program} {w : World} {K : PySem.W.Frag} {mg : Str → Option Value} {base : Heap}
def spRdB (K : PySem.W.Frag) : Sp := fun vs H Q _ => ∃ t : Tm, vs = [.str (SX.S (bdL t))] ∧ (bdL t).length ≤ 100000 ∧ (bdT t).length ≤ 100000 ∧ dep t ≤ 6 ∧ size t ≤ 1000 ∧ (∀ u ∈ subs t, frm u) ∧
  ∀ v H', Ex H H' → Dp K H' v (toD t) → Q v H'
theorem c_read_body {L : Nat} (D : Dfn K mg "read_body" (top 58) ["text"]) (T : Txt K mg) (hL : 1 ≤ L) (CI : Cal P w K mg base 1 "items_of" spItems) (CT : Cal P w K mg base L "term_of" (spTerm K 6)) :
    Cal P w K mg base (L + 1) "read_body" (spRdB K) := by
  refine D.cal (N := ["text", "items"]) (by decide +kernel) (fun vs H Q E h => ?_) fun f cdv A outer s H vs Q E hr nd h => ?_
  · obtain ⟨t, rfl, _⟩ := h
    rfl
  obtain ⟨t, rfl, hl, hl2, hd, hsz, hf, q⟩ := h
  obtain ⟨ba, hba, hbare⟩ := T.BARE
  refine ⟨_, pss_cons (ps_asg (pe_c CI hr hL (pa_cons (pv 0) pa_nil)) (pg_name (i := 1) nd rfl (Or.inl rfl)))
    (pss_cons (ps_if (PW.pt (pw_or (pt_cmp (pc_isN (pv 1))) (pw_or1 (pt_cmpR (op_eq_nil hr.units0) (pv 1) (pe_lst pa_nil) rfl)))) (pss_one ps_no) pss_nil)
    (pss_cons (ps_if (pt_cmpR op_eq (p_len T (pv 1)) pe_int (nomark _)) (pss_one (ps_ret (pe_c CT hr (Nat.le_refl _) (pa_cons (p_ixL (K := K) (pv 1) pe_int) pa_nil)))) pss_nil)
    (pss_one (ps_ret (pe_ifExp (pt_cmpR op_in_seq (p_ixL (K := K) (pv 1) pe_int) (C8.pe_gc (v := .ref ba) rfl ⟨_, hba, rfl⟩) rfl) (pe_c CT hr (Nat.le_refl _) (pa_cons (pv 1) pa_nil)) pe_non))))), ?_⟩
  obtain ⟨b1, b2, b3, b4⟩ := body_run hf hd
  walk_at "rds"
  refine ⟨bdL t, bdT t, bdI t, rfl, hl, b1, b2, hl2, b3, b4, fun p H1 xs e1 h1 hit => ?_⟩
  walk_at "rds"
  refine r_isN ?_
  walk_at "rds"
  refine r_no (fun z => by cases z) ?_
  walk_at "rds"
  refine ⟨Nat.zero_le _, fun z hz => ?_⟩
  have x1 : Ex H1 (upd H1 z (.lst [])) := Ex.new hz
  have h2 := x1 _ _ h1
  have hit2 := ItAll.ex x1 _ _ hit
  refine r_eqNilL (SqL.of h2) (SqL.of upd_same) (r_bl ?_)
  have e2 := e1.trans x1
  clear x1 h1 hit
  generalize upd H1 z (.lst []) = H2 at *
  unfold bdI at hit2
  by_cases hb : hd1 t ∈ bare
  · rw [if_pos hb] at hit2
    have hit3 := hit2
    obtain ⟨w2, r, e⟩ := it_bare hb (hf t (self_subs t))
    rw [e] at hit2
    obtain ⟨y1, r1, rfl, g1, y2, r2, rfl, g2, g3⟩ := hit2
    have g1 : y1 = wv (cl (hd1 t)) := g1
    rw [wv_cl] at g1
    subst g1
    refine iteF ?_
    walk_at "rds"
    refine r_lenL (SqL.of h2) ?_
    walk_at "rds"
    refine r_eq rfl (r_bl (r_no (fun z => by
      have := V.int.inj z
      simp only [List.length_cons] at this
      omega) ?_))
    walk_at "rds"
    refine r_ixL (SqL.of h2) r_at0 ?_
    walk_at "rds"
    refine r_inT (zs := bare) (hbare _) (r_bl (r_yes hb ?_))
    walk_at "rds"
    exact ⟨p, _, t, rfl, h2, hit3, hd, hsz, hf, fun v H' e hd => q v H' (e2.trans e) hd⟩
  · rw [if_neg hb] at hit2
    obtain ⟨y1, r1, rfl, ⟨l, xs, rfl, hl3, g1⟩, g3⟩ := hit2
    have g3 : r1 = [] := g3
    subst g3
    refine iteF ?_
    walk_at "rds"
    refine r_lenL (SqL.of h2) ?_
    walk_at "rds"
    refine r_eq rfl (r_bl (r_yes rfl ?_))
    walk_at "rds"
    refine r_ixL (SqL.of h2) r_at0 ?_
    walk_at "rds"
    exact ⟨l, _, t, rfl, hl3, g1, hd, hsz, hf, fun v H' e hd => q v H' (e2.trans e) hd⟩
end
end K8
/-! read_procedure -/
namespace K8
open PySem PySem.Spec L2 Evl
open PyProof.Rows hiding St
theorem nm_no {x : Str} (h : isNm x = true) {c : Nat} (hc : c ∉ ("abcdefghijklmnopqrstuvwxyz" : Str).cps.toList) : c ∉ cl x := fun hm => by
  unfold isNm at h
  rw [Bool.and_eq_true, List.all_eq_true] at h
  exact hc (of_decide_eq_true (h.2 c hm))
theorem free_colon : ∀ {p : List Nat}, 58 ∉ p → SX.free [32, 58, 32] p = true
  | [], _ => rfl
  | d :: r, h => by
    show (!(TL.pre [32, 58, 32] (d :: (r ++ [32, 58, 32]))) && SX.free [32, 58, 32] r) = true
    rw [Bool.and_eq_true, Bool.not_eq_true']
    refine ⟨?_, free_colon fun z => h (List.mem_cons_of_mem _ z)⟩
    cases r with
    | nil => simp [TL.pre]
    | cons e r =>
      have : e ≠ 58 := fun z => h (by rw [z]; simp)
      simp [TL.pre, this]
theorem jn_no {c : Nat} (hc : c ≠ 32) : ∀ {ws : List (List Nat)}, (∀ w ∈ ws, c ∉ w) → c ∉ jn ws
  | [], _ => by simp [jn, TL.joinL]
  | [w], h => by
    have := h w List.mem_cons_self
    simpa [jn, TL.joinL] using this
  | w :: v :: r, h => by
    rw [jn_cons (by simp)]
    simp only [List.mem_append, List.mem_cons, not_or]
    have := jn_no hc (ws := v :: r) fun w' hw => h w' (List.mem_cons_of_mem _ hw)
    exact ⟨h w List.mem_cons_self, hc, this⟩
/-- the words ahead of the colon -/
def preW (r : Rw) : List Str := "proc" :: r.name :: r.own
theorem pre_nm {r : Rw} (h1 : isNm r.name = true) (h2 : ∀ s ∈ r.own, isNm s = true) : ∀ s ∈ preW r, isNm s = true := fun s hs => by
  rcases List.mem_cons.mp hs with rfl | hs
  · decide +kernel
  rcases List.mem_cons.mp hs with rfl | hs
  · exact h1
  · exact h2 s hs
theorem line_eq (r : Rw) : jn (lineW r) = jn ((preW r).map cl) ++ ([32, 58, 32] ++ bdL r.body) := by
  have e : lineW r = (preW r).map cl ++ [cl ":", bdL r.body] := by simp [lineW, preW]
  rw [e, jn_app (by simp [preW]) (by simp), jn_cons (by simp)]
  have : cl ":" = [58] := by decide +kernel
  rw [this]
  simp [jn, TL.joinL]
theorem line_part {r : Rw} (h1 : isNm r.name = true) (h2 : ∀ s ∈ r.own, isNm s = true) : Txt.partition (SX.S (jn (lineW r))) " : " = (SX.S (jn ((preW r).map cl)), (" : " : Str), SX.S (bdL r.body)) := by
  rw [line_eq]
  have h := SX.par_free (sep := [32, 58, 32]) (bdL r.body) (by simp) (free_colon (p := jn ((preW r).map cl)) (jn_no (by decide) fun w hw => by
    obtain ⟨s, hs, rfl⟩ := List.mem_map.mp hw
    exact nm_no (pre_nm h1 h2 s hs) (by decide +kernel)))
  exact SX.partition_some (b := [32, 58, 32]) (by simp) h
theorem head_split {r : Rw} (h1 : isNm r.name = true) (h2 : ∀ s ∈ r.own, isNm s = true) : Txt.split (SX.S (jn ((preW r).map cl))) " " = preW r := by
  have e1 : Txt.split (SX.S (jn ((preW r).map cl))) (SX.S [32]) = (TL.spl [32] 0 [] (jn ((preW r).map cl))).map SX.S := SX.split_S (by decide) (by decide)
  rw [show TL.spl [32] 0 [] (jn ((preW r).map cl)) = (preW r).map cl from TL.spl_join (by simp [preW]) fun w hw => by
    obtain ⟨s, hs, rfl⟩ := List.mem_map.mp hw
    exact nm_no (pre_nm h1 h2 s hs) (by decide +kernel)] at e1
  rw [List.map_map] at e1
  have e2 : (SX.S ∘ cl) = id := funext fun x => SX.S_tl x
  rw [e2, List.map_id] at e1
  exact e1
section
variable {P : Program} {w : World} {K : PySem.W.Frag} {mg : Str → Option Value} {base : Heap}
def spRdP (K : PySem.W.Frag) : Sp := fun vs H Q _ => ∃ r : Rw, vs = [.str (SX.S (jn (lineW r)))] ∧ isNm r.name = true ∧ (∀ s ∈ r.own, isNm s = true) ∧ r.own.length ≤ 1000 ∧ (jn (lineW r)).length ≤ 1000000 ∧ (bdL r.body).length ≤ 100000 ∧ (bdT r.body).length ≤ 100000 ∧ dep r.body ≤ 6 ∧ size r.body ≤ 1000 ∧ (∀ u ∈ subs r.body, frm u) ∧
  ∀ p o v H', Ex H H' → H' p = some (.tup [.str r.name, .ref o, v]) → SqT K H' o (r.own.map V.str) → Dp K H' v (toD r.body) → Q (.ref p) H'
theorem c_read_procedure {L : Nat} (D : Dfn K mg "read_procedure" (top 59) ["line"]) (T : Txt K mg) (hL : 1 ≤ L) (CL : Cal P w K mg base 1 "are_letters" spName) (CB : Cal P w K mg base L "read_body" (spRdB K)) :
    Cal P w K mg base (L + 1) "read_procedure" (spRdP K) := by
  refine D.cal (N := ["line", "head", "colon", "text", "words", "body", "word"]) (by decide +kernel) (fun vs H Q E h => ?_) fun f cdv A outer s H vs Q E hr nd h => ?_
  · obtain ⟨r, rfl, _⟩ := h
    rfl
  obtain ⟨r, rfl, h1, h2, hol, hll, hl, hl2, hd, hsz, hf, q⟩ := h
  refine ⟨_, pss_cons (ps_asg (pe_partition (pv 0) pe_str) (pg_tup rfl (pgs_cons (pg_name (i := 1) nd rfl (Or.inl rfl)) (pgs_cons (pg_name (i := 2) nd rfl (Or.inl rfl)) (pgs_cons (pg_name (i := 3) nd rfl (Or.inl rfl)) pgs_nil)))))
    (pss_cons (ps_asg (pe_split (pv 1) pe_str) (pg_name (i := 4) nd rfl (Or.inl rfl)))
    (pss_cons (ps_if (PW.pt (pw_or (pt_cmpR op_eq (pv 2) pe_str (nomark _)) (pw_or (pt_cmpR op_lt (p_len T (pv 4)) pe_int (nomark _)) (pw_or (pt_cmpR op_ne (p_ixL (K := K) (pv 4) pe_int) pe_str (nomark _)) (pw_or1 (pt_not (pt_val (p_all T (pe_lc (own := [("word", 6)]) (g := gName 6) (tt := tYes) rfl nd (pi_list (pv 4)) (blkOk_by (N := ["line", "head", "colon", "text", "words", "body", "word"]) (sc := defScope (top 59)) (by decide +kernel))
        (fun _ _ _ _ _ => pg_name (i := 6) nd rfl (Or.inl rfl)) (fun _ _ _ _ _ => pts_nil) (fun _ _ _ _ _ => pe_c CL hr hL (pa_cons (pv 6) pa_nil))))))))))) (pss_one ps_no) pss_nil)
    (pss_cons (ps_asg (pe_c CB hr (Nat.le_refl _) (pa_cons (pv 3) pa_nil)) (pg_name (i := 5) nd rfl (Or.inl rfl)))
    (pss_one (ps_ret (pe_ifExp (pt_cmp (pc_isN (pv 5))) pe_non (pe_tup (pa_cons (p_ixL (K := K) (pv 4) pe_int) (pa_cons (pe_callTy call_tuple_of rfl T.tuple boot_tuple (pa_cons (pe_slice (sl_list.or sl_anyT) (pv 4) (po_some pe_int) po_none) pa_nil)) (pa_cons (pv 5) pa_nil)))))))))), ?_⟩
  walk_at "rds"
  refine ⟨⟨_, rfl⟩, ?_⟩
  walk_at "rds"
  refine ⟨_, _, rfl, rfl, by decide +kernel, by rw [SX.S_len, sizeLine_eq]; omega, fun p1 hp1 => ?_⟩
  rw [line_part h1 h2]
  have e1 : Ex H (upd H p1 (.tup [.str (SX.S (jn ((preW r).map cl))), .str (" : " : Str), .str (SX.S (bdL r.body))])) := Ex.new hp1
  refine r_gTup (SqT.of upd_same) rfl (r_gCons (r_name (r_gCons (r_name (r_gCons (r_name (r_gNil ?_)))))))
  generalize upd H p1 (.tup [.str (SX.S (jn ((preW r).map cl))), .str (" : " : Str), .str (SX.S (bdL r.body))]) = H1 at *
  walk_at "rds"
  refine ⟨⟨_, rfl⟩, ?_⟩
  walk_at "rds"
  refine ⟨_, _, rfl, rfl, by decide +kernel, ?_, fun p2 hp2 => ?_⟩
  · have := congrArg List.length (line_eq r)
    rw [List.length_append] at this
    rw [SX.S_len, sizeLine_eq]; omega
  rw [head_split h1 h2]
  have e2 : Ex H1 (upd H1 p2 (.lst ((preW r).map V.str))) := Ex.new hp2
  have w2 : (upd H1 p2 (.lst ((preW r).map V.str))) p2 = some (.lst (.str "proc" :: .str r.name :: r.own.map V.str)) := upd_same
  generalize upd H1 p2 (.lst ((preW r).map V.str)) = H2 at *
  walk_at "rds"
  refine r_eq rfl (r_bl (r_no (fun z => absurd (show (" : " : Str) = "" from V.str.inj z) (by decide +kernel)) ?_))
  walk_at "rds"
  refine r_lenL (SqL.of w2) ?_
  walk_at "rds"
  refine r_no (by rw [List.length_cons, List.length_cons]; omega) ?_
  walk_at "rds"
  refine r_ixL (SqL.of w2) r_at0 ?_
  walk_at "rds"
  refine r_ne rfl (r_bl (r_nyes rfl ?_))
  walk_at "rds"
  refine ⟨p2, rfl, ⟨_, SqL.of w2⟩, lc_pure (over_list (xs := (preW r).map V.str)) (fun H5 e5 => SqL.of (e5 _ _ w2)) (fun i y _ => y = .bl true) (fun _ _ _ _ _ h => h) (small (by rw [List.length_map]; simp only [preW, List.length_cons]; omega)) (fun i y H3 hi e3 hy Q q => ?_) fun D H3 ys hD e3 h4 ht hall => ?_⟩
  · obtain ⟨z, hz, rfl⟩ := str_at hy
    refine r_name ⟨rfl, ?_⟩
    walk_at "rds"
    exact ⟨z, rfl, pre_nm h1 h2 z (List.mem_of_getElem? hz), fun H' e => q _ _ e rfl⟩
  walk_at "rds"
  refine r_allT h4 hall ?_
  walk_at "rds"
  refine ⟨r.body, rfl, hl, hl2, hd, hsz, hf, fun v H4 e4 hv => ?_⟩
  have w4 := e4 _ _ (e3 _ _ w2)
  walk_at "rds"
  refine r_isN ?_
  obtain ⟨vb, _, rfl, _⟩ := dp_hd hv
  walk_at "rds"
  refine r_no (fun z => by cases z) ?_
  walk_at "rds"
  refine r_ixL (SqL.of w4) r_at1 ?_
  walk_at "rds"
  refine .inl (r_slL (k := 2) (SqL.of w4) fun p5 H5 hp5 e5 h5 => ?_)
  replace h5 : H5 p5 = some (.lst (r.own.map V.str)) := h5
  walk_at "rds"
  refine ⟨p5, _, rfl, .inl ⟨SqL.of h5, fun o ho => ?_⟩⟩
  walk_at "rds"
  refine ⟨(by decide : (3 : Nat) ≤ sizeLine), fun z hz => ?_⟩
  have x6 : Ex H5 (upd H5 o (.tup (r.own.map V.str))) := Ex.new ho
  have x7 := Ex.new (o := HO.tup [.str r.name, .ref o, .ref vb]) hz
  exact q z o _ _ ((((e1.trans e2).trans e3).trans e4).trans (e5.trans (x6.trans x7))) upd_same (ex_t x7 (SqT.of upd_same)) (Dp.kx (Kx.of (e5.trans (x6.trans x7))) _ _ hv (noL_toD _))
end
end K8
/-! reading a program: the head line -/
namespace K8
open PySem PySem.Spec L2 Evl
open PyProof.Rows hiding St
/-- the words of the head line -/
def hdW (p : Pl) : List Str := "program" :: SX.S [48 + p.modes] :: p.sigs
theorem hdW_eq {p : Pl} (h : p.modes < 10) : headW p = (hdW p).map cl := by
  unfold headW hdW
  rw [TL.numL_lt h, List.map_cons, List.map_cons]
theorem hd_split {p : Pl} (h : p.modes < 10) (h2 : ∀ s ∈ p.sigs, isNm s = true) : Txt.split (SX.S (jn (headW p))) " " = hdW p := by
  have hw : ∀ w ∈ headW p, 32 ∉ w := fun w hw => by
    rw [hdW_eq h] at hw
    obtain ⟨s, hs, rfl⟩ := List.mem_map.mp hw
    rcases List.mem_cons.mp hs with rfl | hs
    · decide +kernel
    rcases List.mem_cons.mp hs with rfl | hs
    · intro z
      have := List.mem_singleton.mp (show 32 ∈ [48 + p.modes] from z)
      omega
    · exact nm_no (h2 s hs) (by decide +kernel)
  have e1 : Txt.split (SX.S (jn (headW p))) (SX.S [32]) = (TL.spl [32] 0 [] (jn (headW p))).map SX.S := SX.split_S (by decide) (by decide)
  rw [show TL.spl [32] 0 [] (jn (headW p)) = headW p from TL.spl_join (by simp [headW]) hw] at e1
  rw [hdW_eq h, List.map_map] at e1
  have e2 : (SX.S ∘ cl) = id := funext fun x => SX.S_tl x
  rw [e2, List.map_id] at e1
  rw [hdW_eq h]
  exact e1
end K8
/-! slices with step two -/
namespace K8
open PySem PySem.Spec L2 Evl PySem.Calls
open PyProof.Rows hiding St
theorem range2 (n k : Nat) (hk : k = 1 ∨ k = 2) : sliceRange (k : Int) ((2 * n + 1 : Nat) : Int) 2 = (List.range n).map fun j => k + 2 * j := by
  unfold sliceRange
  have h1 : ((2 : Int) > 0) := by decide
  have e : (if (k : Int) < ((2 * n + 1 : Nat) : Int) then (((2 * n + 1 : Nat) : Int) - k + 2 - 1) / 2 else 0) = (n : Int) := by
    rcases hk with rfl | rfl <;> split <;> omega
  simp only [h1, if_true, e, Int.toNat_natCast]
  apply List.map_congr_left
  intro j _
  omega
theorem bounds2 (n k : Nat) (hk : k = 1 ∨ k = 2) : sliceBounds (some (k : Int)) (some (-1)) (some 2) (2 * n + 2) = ((k : Int), ((2 * n + 1 : Nat) : Int), 2) := by
  rcases hk with rfl | rfl <;> simp [sliceBounds] <;> omega
theorem pick2 (items : Array Value) (n k : Nat) (hn : items.size = 2 * n + 2) (hk : k = 1 ∨ k = 2) : slicePick items (some (k : Int)) (some (-1)) (some 2) = (((List.range n).map fun j => k + 2 * j).filterMap (items[·]?)).toArray := by
  unfold slicePick
  rw [hn, bounds2 n k hk]
  show ((sliceRange (k : Int) ((2 * n + 1 : Nat) : Int) 2).filterMap (items[·]?)).toArray = _
  rw [range2 n k hk]
/-- every second one of n from k on -/
def ev2 {α : Type} (k n : Nat) (xs : List α) : List α := ((List.range n).map fun j => k + 2 * j).filterMap (xs[·]?)
theorem pick2L (its : List Value) (n k : Nat) (hn : its.length = 2 * n + 2) (hk : k = 1 ∨ k = 2) : slicePick its.toArray (some (k : Int)) (some (-1)) (some 2) = (ev2 k n its).toArray := by
  rw [pick2 its.toArray n k (by rw [List.size_toArray]; exact hn) hk]
  unfold ev2
  congr 1
  congr 1
  funext i
  exact List.getElem?_toArray
theorem vals_pick {xs : List V} {us : List Value} (r : Vals xs us) : ∀ l : List Nat, Vals (l.filterMap (xs[·]?)) (l.filterMap (us[·]?))
  | [] => .nil
  | i :: l => by
    rw [List.filterMap_cons, List.filterMap_cons]
    cases h : xs[i]? with
    | none =>
      have : us[i]? = none := by rw [List.getElem?_eq_none_iff] at h ⊢; rw [← r.length]; exact h
      rw [this]
      exact vals_pick r l
    | some x =>
      obtain ⟨u, h1, h2⟩ := r.get h
      rw [h1]
      exact .cons h2 (vals_pick r l)
def tStp (K : PySem.W.Frag) (k : Nat) (te : TE) : TE := fun σ H Q => te σ H fun x H1 => ∃ a xs n, x = .ref a ∧ SqL K H1 a xs ∧ xs.length = 2 * n + 2 ∧ ∀ p, H1 p = none → Q (.ref p) (upd H1 p (.lst (ev2 k n xs)))
theorem pe_stp {X : Cx} {e lo : Expr} {te : TE} {k : Nat} {p1 p2 p3 p4 pos : Pos} {c1 c2} (hk : k = 1 ∨ k = 2) (he : PE X e te) (hlo : PE X lo (tC (.int (k : Int)))) : PE X (.Subscript e (.Slice (some lo) (some (.UnaryOp .USub (.Constant (.int 1) c1 p1) p2)) (some (.Constant (.int 2) c2 p4)) p3) pos) (tStp X.K k te) := by
  refine ⟨fun pins s σ H Q I h => ?_⟩
  refine Subscript_ (thn (he.run pins s σ H _ I h) fun v s1 ⟨x, H1, I1, r1, q1⟩ => ?_)
  obtain ⟨a, xs, n, ex, hx, hn, q⟩ := q1
  subst ex
  cases r1
  have hhi : PO X (some (.UnaryOp .USub (.Constant (.int 1) c1 p1) p2)) (tPart (tUn (rU fun i => .int (-i)) (tC (.int 1)))) := po_some (pe_un un_neg pe_int)
  have hst : PO X (some (.Constant (.int 2) c2 p4)) (tPart (tC (.int 2))) := po_some pe_int
  refine wpAny_Slice (thn ((po_some hlo).run pins s1 σ H1 (fun o H2 => o = some (k : Int) ∧ H2 = H1) I1 ⟨_, rfl, rfl, rfl⟩) fun vl s2 ⟨l, H2, I2, pl, el, e2⟩ => ?_)
  subst el e2
  refine thn (hhi.run pins s2 σ H2 (fun o H3 => o = some (-1) ∧ H3 = H2) I2 ⟨1, rfl, -1, rfl, rfl, rfl⟩) fun vu s3 ⟨u, H3, I3, pu, eu, e3⟩ => ?_
  subst eu e3
  refine thn (hst.run pins s3 σ H3 (fun o H4 => o = some 2 ∧ H4 = H3) I3 ⟨2, rfl, rfl, rfl⟩) fun vs s4 ⟨o, H4, I4, ps, eo, e4⟩ => ?_
  subst eo e4
  have I5 : Inv X pins σ H4 { s4 with heap := s4.heap.push { cls := .type "slice", data := .fields #[vl, vu, vs] } } := I4.kept (t' := s4.toks) fun b ob q => Heap.get?_push_of_some _ q
  obtain ⟨its, r, ht, hz⟩ := I5.list hx
  have hlen := r.length
  show wpAny (model X.prog X.w) X.A (subscriptTail e (.Slice (some lo) (some (.UnaryOp .USub (.Constant (.int 1) c1 p1) p2)) (some (.Constant (.int 2) c2 p4)) p3) (.ref a) (.ref s4.heap.objs.size)) (EP X pins σ Q) X.xe { s4 with heap := s4.heap.push { cls := .type "slice", data := .fields #[vl, vu, vs] } }
  refine tail_any (ops := [.ref a, .ref s4.heap.objs.size]) ht.isList.typeIs (PySem.slot_list_getitem.lookup) ?_ (by with_unfolding_all rfl)
  refine wpAny_getItem_list_slice ht.isList (Heap.IsSliceOf.new _ vl vu vs) pl pu ps (by decide) ?_ (by rw [List.size_toArray]; omega)
  rw [pick2L its n k (by omega) hk]
  refine ⟨.ref _, _, I5.laid (t' := s4.toks) (o := .lst (ev2 k n xs)) (fun b ob q => Heap.get?_push_of_some _ q) (Nat.le_refl _) ?_, rfl, q _ (I5.hok.fresh (Nat.le_refl _))⟩
  refine ⟨?_, _, 0, vals_pick r _, Heap.get?_push_size _ rfl⟩
  have h1 : (ev2 k n xs).length ≤ n := by
    unfold ev2
    refine Nat.le_trans (List.length_filterMap_le _ _) ?_
    rw [List.length_map, List.length_range]
    exact Nat.le_refl _
  show (ev2 k n xs).length ≤ _
  omega
end K8
/-! lists that go by turns -/
namespace K8
def alt2 {α : Type} : List α → List α → List α
  | a :: as, b :: bs => a :: b :: alt2 as bs
  | _, _ => []
theorem alt2_get {α : Type} : ∀ {as bs t : List α} {j : Nat}, as.length = bs.length → j < as.length → (alt2 as bs ++ t)[2 * j]? = as[j]? ∧ (alt2 as bs ++ t)[2 * j + 1]? = bs[j]?
  | [], _, _, _, _, h => absurd h (Nat.not_lt_zero _)
  | _ :: _, [], _, _, h, _ => by cases h
  | a :: as, b :: bs, t, 0, _, _ => ⟨rfl, rfl⟩
  | a :: as, b :: bs, t, j + 1, h, hj => by
    have := alt2_get (as := as) (bs := bs) (t := t) (j := j) (by simpa using h) (by simpa using hj)
    rw [show 2 * (j + 1) = 2 * j + 1 + 1 by omega]
    exact this
theorem fm_congr {α β : Type} {f g : α → Option β} : ∀ {l : List α}, (∀ x ∈ l, f x = g x) → l.filterMap f = l.filterMap g
  | [], _ => rfl
  | a :: l, h => by
    rw [List.filterMap_cons, List.filterMap_cons, h a List.mem_cons_self, fm_congr fun x hx => h x (List.mem_cons_of_mem _ hx)]
theorem fm_range {α : Type} (f : Nat → Nat) (xs as : List α) (h : ∀ j, j < as.length → xs[f j]? = as[j]?) : ((List.range as.length).map f).filterMap (xs[·]?) = as := by
  rw [List.filterMap_map]
  have e : ∀ j ∈ List.range as.length, ((fun x => xs[x]?) ∘ f) j = as[j]? := fun j hj => h j (List.mem_range.mp hj)
  rw [fm_congr e]
  have := PySem.W.krv_all as.toArray
  simpa using this
theorem ev2_odd {α : Type} (x z : α) {as bs : List α} (h : as.length = bs.length) : ev2 1 as.length (x :: (alt2 as bs ++ [z])) = as := by
  refine fm_range _ _ _ fun j hj => ?_
  rw [show 1 + 2 * j = 2 * j + 1 by omega]
  exact (alt2_get h hj).1
theorem ev2_even {α : Type} (x z : α) {as bs : List α} (h : as.length = bs.length) : ev2 2 bs.length (x :: (alt2 as bs ++ [z])) = bs := by
  refine fm_range _ _ _ fun j hj => ?_
  rw [show 2 + 2 * j = 2 * j + 1 + 1 by omega]
  exact (alt2_get h (by omega)).2
end K8
/-! the terms in a term: sizes (plain) -/
namespace K8
open PySem PySem.Spec L2
theorem size_kid {t u : Tm} (h : u ∈ kids t) : size u + 1 ≤ size t := by
  have key : ∀ l : List Tm, u ∈ l → size u ≤ (l.map size).sum := fun l => by
    induction l with
    | nil => intro h; cases h
    | cons a r ih =>
      intro h
      rw [List.map_cons, List.sum_cons]
      rcases List.mem_cons.mp h with rfl | h
      · omega
      · have := ih h; omega
  have := key _ h
  rw [size_eq t]
  omega
theorem kids_len (t : Tm) : (kids t).length + 1 ≤ size t := by
  rw [size_eq t]
  have h : ∀ l : List Tm, l.length ≤ (l.map size).sum := fun l => by
    induction l with
    | nil => exact Nat.le_refl _
    | cons a r ih =>
      have := size_pos a
      simp only [List.length_cons, List.map_cons, List.sum_cons]
      omega
  have := h (kids t)
  omega
theorem subs_kid {t u v : Tm} (h : u ∈ kids t) (hv : v ∈ subs u) : v ∈ subs t := by
  rw [subs_eq t]
  exact List.mem_cons_of_mem _ (List.mem_flatMap.mpr ⟨u, h, hv⟩)
end K8
/-! list(zip(a, b)) of two lists: a new list of new pairs -/
namespace K8
open PySem PySem.Spec L2 Evl
open PyProof.Rows hiding St
theorem ne_lo {a b lo : Addr} (h : a < lo) (h2 : lo ≤ b) : b ≠ a := Nat.ne_of_gt (Nat.lt_of_lt_of_le h h2)
theorem zip_nolen : typeLookup (.type "zip") "__len__" = pure none := am_miss_of_fast (by decide +kernel)
theorem zip_nohint : typeLookup (.type "zip") "__length_hint__" = pure none := am_miss_of_fast (by decide +kernel)
section
variable {prog : Program} {w : World} {A : Around} {E : Value → Shared → Prop} {s : Shared} {S z TI TO i1 i2 l1 l2 : Addr} {xs ys : Array Value} {i n : Nat}
/-- a zip of two lists that has given i pairs -/
structure ZDr (S z TI TO i1 i2 l1 l2 : Addr) (xs ys : Array Value) (i : Nat) (h : Heap) : Prop where
  ti : IsPair h TI (.ref i1) (.ref i2)
  a1 : h.IsListIter i1 l1 i
  a2 : h.IsListIter i2 l2 i
  b1 : h.IsList l1 xs
  b2 : h.IsList l2 ys
  zz : (IsZip h z TI TO .none ∧ ∃ a b, IsPair h TO a b) ∨ ∃ T f oT, IsZipHeld h z TI TO T f ∧ h.get? T = some oT ∧ T ≠ z ∧ T ≠ i1 ∧ T ≠ i2 ∧ T ≠ S
/-- S is none of the zip's own -/
structure ZOff (S z TI TO i1 i2 l1 l2 : Addr) : Prop where
  z : z ≠ S
  TI : TI ≠ S
  TO : TO ≠ S
  i1 : i1 ≠ S
  i2 : i2 ≠ S
  l1 : l1 ≠ S
  l2 : l2 ≠ S
theorem ZDr.stay {h h' : Heap} (f : ZOff S z TI TO i1 i2 l1 l2) (d : ZDr S z TI TO i1 i2 l1 l2 xs ys i h) (k : ∀ b o, b ≠ S → h.get? b = some o → h'.get? b = some o) : ZDr S z TI TO i1 i2 l1 l2 xs ys i h' := by
  refine ⟨k _ _ f.TI d.ti, d.a1.at fun o e => k _ o f.i1 e, d.a2.at fun o e => k _ o f.i2 e, d.b1.at fun o e => k _ o f.l1 e, d.b2.at fun o e => k _ o f.l2 e, ?_⟩
  rcases d.zz with ⟨h1, a, b, h2⟩ | ⟨T, g, oT, h1, h2, h3, h4, h5, h6⟩
  · exact .inl ⟨k _ _ f.z h1, a, b, k _ _ f.TO h2⟩
  · exact .inr ⟨T, g, oT, k _ _ f.z h1, k _ _ h6 h2, h3, h4, h5, h6⟩
theorem zdr_item {x y : Value} {Q : Option Value → Shared → Prop} (D : ZipApart z TI TO i1 i2 l1 l2) (d : ZDr S z TI TO i1 i2 l1 l2 xs ys i s.heap) (hS : S < s.heap.objs.size) (hx : xs[i]? = some x) (hy : ys[i]? = some y)
    (q : ∀ h', ZDr S z TI TO i1 i2 l1 l2 xs ys (i + 1) h' → IsPair h' s.heap.objs.size x y → h'.objs.size = s.heap.objs.size + 1 → (∀ c o, c ≠ z → c ≠ TO → c ≠ i1 → c ≠ i2 → s.heap.get? c = some o → h'.get? c = some o) →
      Q (some (.ref s.heap.objs.size)) { s with heap := h' }) : wpAny (model prog w) A (pyNext (.ref z)) Q E s := by
  have gt : ∀ {c o}, s.heap.get? c = some o → s.heap.objs.size ≠ c := fun e => Nat.ne_of_gt (Heap.lt_size e)
  have n1 : s.heap.objs.size ≠ i1 := by obtain ⟨_, e, _⟩ := d.a1; exact gt e
  have n2 : s.heap.objs.size ≠ i2 := by obtain ⟨_, e, _⟩ := d.a2; exact gt e
  rcases d.zz with ⟨hz, a, b, hTO⟩ | ⟨T, f, oT, hz, hT, r1, r2, r3, r4⟩
  · refine wpAny_pyNext_zip_item D hz d.ti hTO d.a1 d.a2 d.b1 d.b2 hx hy fun h' a1 a2 a3 a4 a5 a6 k => ?_
    refine q h' ⟨k _ _ D.TIz D.TITO D.TIi1 D.TIi2 d.ti, a3, a4, d.b1.at fun o e => k _ o D.l1z D.l1TO D.l1i1 D.l1i2 e, d.b2.at fun o e => k _ o D.l2z D.l2TO D.l2i1 D.l2i2 e, .inr ⟨_, false, _, a1, a5, gt hz, n1, n2, Nat.ne_of_gt hS⟩⟩ a5 a6 k
  · refine wpAny_pyNext_zip_item_held D hz hT d.ti d.a1 d.a2 d.b1 d.b2 hx hy fun h' a1 a3 a4 a5 a6 k => ?_
    refine q h' ⟨k _ _ D.TIz D.TIi1 D.TIi2 d.ti, a3, a4, d.b1.at fun o e => k _ o D.l1z D.l1i1 D.l1i2 e, d.b2.at fun o e => k _ o D.l2z D.l2i1 D.l2i2 e, .inr ⟨T, true, oT, a1, k _ _ r1 r2 r3 hT, r1, r2, r3, r4⟩⟩ a5 a6 fun c o c1 _ c3 c4 e => k c o c1 c3 c4 e
theorem zdr_end {Q : Option Value → Shared → Prop} (hh : A.handled = none) (D : ZipApart z TI TO i1 i2 l1 l2) (d : ZDr S z TI TO i1 i2 l1 l2 xs ys i s.heap) (hx : xs[i]? = none)
    (q : ∀ h', (∀ c o, c ≠ z → c ≠ TO → c ≠ i1 → c ≠ i2 → s.heap.get? c = some o → h'.get? c = some o) → Q none { s with heap := h' }) : wpAny (model prog w) A (pyNext (.ref z)) Q E s := by
  rcases d.zz with ⟨hz, a, b, hTO⟩ | ⟨T, f, oT, hz, hT, r1, r2, r3, r4⟩
  · exact wpAny_pyNext_zip_end hh D hz d.ti hTO d.a1 d.a2 d.b1 d.b2 (.inl hx) q
  · exact wpAny_pyNext_zip_end_held hh D hz hT d.ti d.a1 d.a2 d.b1 d.b2 (.inl hx) fun h' k => q h' fun c o c1 _ c3 c4 e => k c o c1 c3 c4 e
/-- the pairs that were given -/
structure ZGv (xs ys : Array Value) (lo : Addr) (h : Heap) (as : List Addr) : Prop where
  rise : as.Pairwise (· < ·)
  low : ∀ a ∈ as, lo ≤ a
  prs : ∀ (j : Nat) (a : Addr), as[j]? = some a → ∃ x y, xs[j]? = some x ∧ ys[j]? = some y ∧ IsPair h a x y
theorem ZGv.lt {lo : Addr} {h : Heap} {as : List Addr} (g : ZGv xs ys lo h as) {a : Addr} (ha : a ∈ as) : a < h.objs.size := by
  obtain ⟨j, hj⟩ := List.mem_iff_getElem?.mp ha
  obtain ⟨_, _, _, _, e⟩ := g.prs j a hj
  exact Heap.lt_size e
theorem ZGv.stay {lo : Addr} {h h' : Heap} {as : List Addr} (g : ZGv xs ys lo h as) (k : ∀ b o, lo ≤ b → h.get? b = some o → h'.get? b = some o) : ZGv xs ys lo h' as :=
  ⟨g.rise, g.low, fun j a hj => by
    obtain ⟨x, y, e1, e2, e3⟩ := g.prs j a hj
    exact ⟨x, y, e1, e2, k _ _ (g.low a (List.mem_of_getElem? hj)) e3⟩⟩
theorem lz_loop {R : Result → Shared → Prop} {lo : Addr} {h₁ : Heap} (hh : A.handled = none) (D : ZipApart z TI TO i1 i2 l1 l2) (F : ZOff S z TI TO i1 i2 l1 l2) (hx : xs.size = n) (hy : n ≤ ys.size) (hn : n ≤ sizeLine) (res : Value) (lS : S < lo) (lz : z < lo) (lTO : TO < lo) (li1 : i1 < lo) (li2 : i2 < lo)
    (hR : ∀ h' tk acc c as, (∀ b o, b ≠ S → b ≠ z → b ≠ TO → b ≠ i1 → b ≠ i2 → h₁.get? b = some o → h'.get? b = some o) → h'.get? S = some { cls := .type "list", dict := none, data := .seq acc c, slots := #[] } → as.length = n → ZGv xs ys lo h' as → acc.toList = as.map Value.ref → R (.ok (.ret res)) { s with heap := h', toks := tk }) :
    ∀ (k i : Nat) (h : Heap) (tk c : Nat) (acc : Array Value) (as : List Addr), n - i = k → i ≤ n → ZDr S z TI TO i1 i2 l1 l2 xs ys i h → (∀ b o, b ≠ S → b ≠ z → b ≠ TO → b ≠ i1 → b ≠ i2 → h₁.get? b = some o → h.get? b = some o) →
      h.get? S = some { cls := .type "list", dict := none, data := .seq acc c, slots := #[] } → acc.toList = as.map Value.ref → as.length = i → ZGv xs ys lo h as → lo ≤ h.objs.size →
      codeAny (model prog w) A (.builtin "list.extend.loop" ⟨[.ref S, .ref z, res], []⟩) R { s with heap := h, toks := tk } := by
  intro k
  induction k with
  | zero =>
    intro i h tk c acc as hk hi d kp hS hacc hal G hs
    refine codeAny_builtin PySem.F.entry_extend_loop ?_
    rw [Around.under_plainId PySem.F.plain_extend_loop _]
    show wpAny _ A.in1 (pyNext (.ref z) >>= _) _ _ _
    refine wpAny_bind (zdr_end (s := { s with heap := h, toks := tk }) (A := A.in1) hh D d (Array.getElem?_eq_none (by omega)) fun h' e => ?_)
    refine wpAny_pure (hR h' tk acc c as (fun b o b1 b2 b3 b4 b5 q => e b o b2 b3 b4 b5 (kp b o b1 b2 b3 b4 b5 q)) (e S _ F.z.symm F.TO.symm F.i1.symm F.i2.symm hS) (by omega) (G.stay fun b o hb q => ?_) hacc)
    exact e b o (ne_lo lz hb) (ne_lo lTO hb) (ne_lo li1 hb) (ne_lo li2 hb) q
  | succ k ih =>
    intro i h tk c acc as hk hi d kp hS hacc hal G hs
    have hlt : i < n := by omega
    have hx1 : xs[i]? = some (xs[i]'(by omega)) := Array.getElem?_eq_getElem (by omega)
    have hy1 : ys[i]? = some (ys[i]'(by omega)) := Array.getElem?_eq_getElem (by omega)
    have hsz : acc.size = i := by rw [← Array.length_toList, hacc, List.length_map, hal]
    have hSl : S < h.objs.size := Heap.lt_size hS
    refine codeAny_builtin PySem.F.entry_extend_loop ?_
    rw [Around.under_plainId PySem.F.plain_extend_loop _]
    show wpAny _ A.in1 (pyNext (.ref z) >>= _) _ _ _
    refine wpAny_bind (zdr_item (s := { s with heap := h, toks := tk }) D d hSl hx1 hy1 fun h' d' hp hz e => ?_)
    dsimp only at hp hz e ⊢
    have hS' := e S _ F.z.symm F.TO.symm F.i1.symm F.i2.symm hS
    have up : ∀ b o, b ≠ S → h'.get? b = some o → (h'.update S (Obj.mapSeq (·.push (Value.ref h.objs.size)))).get? b = some o := fun b o hb q => (Heap.get?_update_other _ _ (Ne.symm hb)).trans q
    show wpAny _ A.in1 (updateSeq S (·.push (Value.ref h.objs.size)) >>= _) _ _ _
    refine wpAny_bind ?_
    refine wpAny_updateSeq hS' rfl (wpAny_pure ⟨plainId_quiet PySem.F.plain_extend_loop _, ih (i + 1) _ tk _ (acc.push (Value.ref h.objs.size)) (as ++ [h.objs.size]) (by omega) hlt (d'.stay F up)
      (fun b o b1 b2 b3 b4 b5 q => up b o b1 (e b o b2 b3 b4 b5 (kp b o b1 b2 b3 b4 b5 q))) (Heap.get?_update_self _ hS' rfl) (by rw [Array.toList_push, hacc, List.map_append]; rfl) (by rw [List.length_append, hal]; rfl) ⟨?_, ?_, ?_⟩ ?_⟩) (by rw [hsz]; omega) (by show (acc.push (Value.ref h.objs.size)).size ≤ sizeLine + 1; rw [Array.size_push, hsz]; omega)
    · refine List.pairwise_append.mpr ⟨G.rise, List.pairwise_singleton _ _, fun a ha b hb => ?_⟩
      rw [List.mem_singleton.mp hb]
      exact G.lt ha
    · intro a ha
      rcases List.mem_append.mp ha with ha | ha
      · exact G.low a ha
      · rw [List.mem_singleton.mp ha]; exact hs
    · intro j b hj
      by_cases h1 : j < as.length
      · rw [List.getElem?_append_left h1] at hj
        obtain ⟨x, y, e1, e2, e3⟩ := G.prs j b hj
        have hb := G.low b (List.mem_of_getElem? hj)
        exact ⟨x, y, e1, e2, up b _ (ne_lo lS hb) (e b _ (ne_lo lz hb) (ne_lo lTO hb) (ne_lo li1 hb) (ne_lo li2 hb) e3)⟩
      · have hl := (List.getElem?_eq_some_iff.mp hj).1
        rw [List.length_append, List.length_singleton] at hl
        have ej : j = as.length := by omega
        subst ej
        rw [List.getElem?_append_right (Nat.le_refl _), Nat.sub_self] at hj
        cases (show some h.objs.size = some b from hj)
        exact ⟨_, _, by rw [hal]; exact hx1, by rw [hal]; exact hy1, up _ _ (Nat.ne_of_gt hSl) hp⟩
    · have q := up _ _ (Nat.ne_of_gt hSl) hp
      exact Nat.le_trans hs (Nat.le_of_lt (Heap.lt_size q))
/-- list(z) of a new zip -/
theorem lz_call {Q : Value → Shared → Prop} (hh : A.handled = none) (D : ZipApart z TI TO i1 i2 l1 l2) (ti : IsPair s.heap TI (.ref i1) (.ref i2)) (a1 : s.heap.IsListIter i1 l1 0) (a2 : s.heap.IsListIter i2 l2 0) (b1 : s.heap.IsList l1 xs) (b2 : s.heap.IsList l2 ys) (hz : IsZip s.heap z TI TO .none) (hx : xs.size = n) (hy : n ≤ ys.size) (hn : n ≤ sizeLine)
    (hQ : ∀ h' tk acc c as, (∀ b o, b ≠ z → b ≠ TO → b ≠ i1 → b ≠ i2 → s.heap.get? b = some o → h'.get? b = some o) → h'.get? s.heap.objs.size = some { cls := .type "list", dict := none, data := .seq acc c, slots := #[] } → as.length = n → ZGv xs ys (s.heap.objs.size + 1) h' as → acc.toList = as.map Value.ref →
      Q (.ref s.heap.objs.size) { s with heap := h', toks := tk }) (hTO : ∃ a b, IsPair s.heap TO a b) : wpAny (model prog w) A (call (.type "list") [.ref z]) Q E s := by
  have lt : ∀ {c o}, s.heap.get? c = some o → c < s.heap.objs.size := fun e => Heap.lt_size e
  have kz := lt hz
  have kTO : TO < s.heap.objs.size := by obtain ⟨a, b, e⟩ := hTO; exact lt e
  have kTI := lt ti
  have k1 : i1 < s.heap.objs.size := by obtain ⟨_, e, _⟩ := a1; exact lt e
  have k2 : i2 < s.heap.objs.size := by obtain ⟨_, e, _⟩ := a2; exact lt e
  have k3 : l1 < s.heap.objs.size := by obtain ⟨_, e, _⟩ := b1; exact lt e
  have k4 : l2 < s.heap.objs.size := by obtain ⟨_, e, _⟩ := b2; exact lt e
  have F : ZOff s.heap.objs.size z TI TO i1 i2 l1 l2 := ⟨Nat.ne_of_lt kz, Nat.ne_of_lt kTI, Nat.ne_of_lt kTO, Nat.ne_of_lt k1, Nat.ne_of_lt k2, Nat.ne_of_lt k3, Nat.ne_of_lt k4⟩
  refine callType_codes (Q₁ := fun obj s₁ => obj = .ref s.heap.objs.size ∧ s₁ = { s with heap := s.heap.push { cls := .type "list", data := .seq #[] } }) PySem.F.called_list (PySem.F.typeCall_list_1 _) PySem.F.entry_list_init
    (code_list_new _ ⟨rfl, rfl⟩) fun obj s₁ q1 => ?_
  obtain ⟨rfl, rfl⟩ := q1
  have hS : (s.heap.push { cls := .type "list", data := .seq #[] }).get? s.heap.objs.size = some { cls := .type "list", data := .seq #[] } := Heap.get?_push_size _ rfl
  refine ⟨⟨_, hS, rfl⟩, PySem.F.args_list_init_2 _ _, ?_⟩
  show wpAny _ A.in1.in1 (do let old ← Builtin.List.listItems (.ref s.heap.objs.size); Builtin.List.listUpdate (.ref s.heap.objs.size) (fun _ => #[]); letGo old.toList.reverse; Builtin.List.listExtendWith (.ref s.heap.objs.size) (.ref z) .none) _ _ _
  refine wpAny_bind ?_
  unfold Builtin.List.listItems
  refine wpAny_bind (wpAny_seqItems hS rfl (wpAny_pure ?_))
  show wpAny _ A.in1.in1 (updateSeq s.heap.objs.size (fun _ => #[]) >>= fun _ => letGo (#[] : Array Value).toList.reverse >>= fun _ => Builtin.List.listExtendWith (.ref s.heap.objs.size) (.ref z) .none) _ _ _
  refine wpAny_bind (wpAny_updateSeq hS rfl ?_)
  have hS2 := Heap.get?_update_self (Obj.mapSeq (fun _ => (#[] : Array Value))) hS rfl
  refine wpAny_bind (wpAny_letGo ?_)
  unfold Builtin.List.listExtendWith
  have up : ∀ (h : Heap) (f : Obj → Obj), (∀ b o, s.heap.get? b = some o → h.get? b = some o) → ∀ b o, s.heap.get? b = some o → (h.update s.heap.objs.size f).get? b = some o := fun h f q b o e =>
    (Heap.get?_update_other _ _ (Ne.symm (Nat.ne_of_lt (Heap.lt_size e)))).trans (q b o e)
  have u1 : ∀ b o, s.heap.get? b = some o → (s.heap.push { cls := .type "list", data := .seq #[] }).get? b = some o := fun b o e => Heap.get?_push_of_some _ e
  have u2 := up _ (Obj.mapSeq (fun _ => (#[] : Array Value))) u1
  refine wpAny_bind (wpAny_typeOf (T := "zip") ⟨_, u2 _ _ hz, rfl⟩ ?_)
  have t1 : Builtin.List.listSameRef (.ref s.heap.objs.size) (.ref z) = false := by simp [Builtin.List.listSameRef, F.z.symm]
  have t2 : (Value.type "zip" == Value.type "list") = false := by decide
  have t3 : (Value.type "zip" == Value.type "tuple") = false := by decide
  simp only [t1, t2, t3, Bool.or_false, Bool.false_eq_true, if_false]
  refine wpAny_bind (wpAny_pyIter_zip (u2 _ _ hz) ?_)
  refine wpAny_bind (wpAny_holding ?_)
  unfold Builtin.List.listLengthHint
  refine wpAny_bind (wpAny_specialOf (T := "zip") ⟨_, u2 _ _ hz, rfl⟩ zip_nolen ?_)
  show wpAny _ A.in1.in1 (specialOf (Value.ref z) (Str.ofString "__length_hint__") >>= _) _ _ _
  refine wpAny_bind (wpAny_specialOf (T := "zip") ⟨_, u2 _ _ hz, rfl⟩ zip_nohint ?_)
  refine wpAny_pure ?_
  show wpAny _ A.in1.in1 (rule "list.extend.makes-room" >>= fun _ => Builtin.List.listTouch (.ref s.heap.objs.size) >>= fun _ =>
    again (.builtin "list.extend.loop" ⟨[.ref s.heap.objs.size, .ref z, .none], []⟩)) _ _ _
  refine wpAny_bind (wpAny_rule ?_)
  refine wpAny_bind ?_
  show wpAny _ A.in1.in1 (updateSeq s.heap.objs.size (·.push .none) >>= fun _ => updateSeq s.heap.objs.size (·.pop)) _ _ _
  refine wpAny_bind (wpAny_updateSeq hS2 rfl ?_)
  have hS3 := Heap.get?_update_self (Obj.mapSeq (·.push Value.none)) hS2 rfl
  refine wpAny_updateSeq (hz := by seq_fits) hS3 rfl ?_
  have hS4 := Heap.get?_update_self (Obj.mapSeq (·.pop)) hS3 rfl
  have u4 := up _ (Obj.mapSeq (·.pop)) (up _ (Obj.mapSeq (·.push Value.none)) u2)
  refine wpAny_pure ⟨plainId_quiet PySem.F.plain_extend_loop _, ?_⟩
  refine lz_loop (s := s) (h₁ := s.heap) (n := n) (lo := s.heap.objs.size + 1) (A := A.in1) hh D F hx hy hn .none (Nat.lt_succ_self _) (Nat.lt_succ_of_lt kz) (Nat.lt_succ_of_lt kTO) (Nat.lt_succ_of_lt k1) (Nat.lt_succ_of_lt k2) (fun h' tk acc c as e hS' hl G hacc => ⟨rfl, hQ h' tk acc c as (fun b o b2 b3 b4 b5 q => e b o (Nat.ne_of_lt (Heap.lt_size q)) b2 b3 b4 b5 q) hS' hl G hacc⟩)
    n 0 _ s.toks _ _ [] (Nat.sub_zero _) (Nat.zero_le _) ⟨u4 _ _ ti, a1.at fun o e => u4 _ o e, a2.at fun o e => u4 _ o e, b1.at fun o e => u4 _ o e, b2.at fun o e => u4 _ o e, ?_⟩ (fun b o _ _ _ _ _ e => u4 b o e) hS4 rfl rfl ⟨.nil, fun a h => (nomatch h), fun j a h => (nomatch h)⟩ (Heap.lt_size hS4)
  obtain ⟨a, b, e⟩ := hTO
  exact .inl ⟨u4 _ _ hz, a, b, u4 _ _ e⟩
end
end K8
/-! list(zip(a, b)): the rule -/
namespace K8
open PySem PySem.Spec L2 Evl
open PyProof.Rows hiding St
def putP : Hp → List Addr → List (V × V) → Hp
  | H, a :: as, p :: ps => putP (upd H a (.tup [p.1, p.2])) as ps
  | H, _, _ => H
theorem putP_off {b : Addr} : ∀ {as : List Addr} {ps : List (V × V)} {H : Hp}, b ∉ as → putP H as ps b = H b
  | [], _, _, _ => rfl
  | _ :: _, [], _, _ => rfl
  | a :: as, p :: ps, H, h => by
    have h1 := putP_off (as := as) (ps := ps) (H := upd H a (.tup [p.1, p.2])) fun z => h (List.mem_cons_of_mem _ z)
    exact h1.trans (upd_ne fun z => h (by rw [z]; exact List.mem_cons_self))
theorem putP_at {b : Addr} {p : V × V} : ∀ {as : List Addr} {ps : List (V × V)} {H : Hp} {j : Nat}, as.Nodup → as[j]? = some b → ps[j]? = some p → putP H as ps b = some (.tup [p.1, p.2])
  | [], _, _, j, _, h, _ => by simp at h
  | _ :: _, [], _, j, _, _, h => by simp at h
  | a :: as, q :: ps, H, 0, nd, h1, h2 => by
    cases h1
    cases h2
    exact (putP_off (List.nodup_cons.mp nd).1).trans upd_same
  | a :: as, q :: ps, H, j + 1, nd, h1, h2 => putP_at (as := as) (ps := ps) (List.nodup_cons.mp nd).2 h1 h2
theorem rel_get {xs : List V} {us : List Value} (r : Vals xs us) {j : Nat} {u : Value} (h : us[j]? = some u) : ∃ x, xs[j]? = some x ∧ RelV x u := by
  have hl := (List.getElem?_eq_some_iff.mp h).1
  have hj : j < xs.length := by rw [r.length]; exact hl
  obtain ⟨u', e1, e2⟩ := r.get (List.getElem?_eq_getElem hj)
  rw [h] at e1
  cases e1
  exact ⟨_, List.getElem?_eq_getElem hj, e2⟩
theorem vals_rf : ∀ as : List Addr, Vals (as.map V.ref) (as.map Value.ref)
  | [] => .nil
  | _ :: as => .cons rfl (vals_rf as)
section
variable {X : Cx} {e e2 : Expr} {ta : TA} {p p2 pos pos2 : Pos}
theorem pairs_laid {pins : List (Addr × Obj)} {σ : L2.St} {H : Hp} {s : Shared} {h' : Heap} {tk : Nat} {xs ys : List V} {ux uy : List Value} {acc : Array Value} {c : Nat} {as : List Addr} {S : Addr} (I : Inv X pins σ H s) (rx : Vals xs ux) (ry : Vals ys uy) (hz : xs.length ≤ sizeLine)
    (k : ∀ b o, s.heap.get? b = some o → h'.get? b = some o) (hSs : s.heap.objs.size ≤ S) (hS : h'.get? S = some { cls := .type "list", dict := none, data := .seq acc c, slots := #[] }) (hal : as.length = xs.length) (G : ZGv ux.toArray uy.toArray (S + 1) h' as) (hacc : acc.toList = as.map Value.ref) :
    ∃ H' : Hp, Ex H H' ∧ H S = none ∧ H' S = some (.lst (as.map V.ref)) ∧ (∀ (j : Nat) (a : Addr), as[j]? = some a → ∃ x y, xs[j]? = some x ∧ ys[j]? = some y ∧ H' a = some (.tup [x, y])) ∧ Inv X pins σ H' { s with heap := h', toks := tk } := by
  have nd : as.Nodup := List.Pairwise.imp (fun {a b} (h : a < b) => Nat.ne_of_lt h) G.rise
  have nS : S ∉ as := fun z => absurd (G.low _ z) (Nat.not_succ_le_self S)
  have nw : ∀ t ∈ as, H t = none := fun t ht => I.hok.fresh (Nat.le_trans hSs (Nat.le_of_succ_le (G.low t ht)))
  have nwS : H S = none := I.hok.fresh hSs
  have off : ∀ b, b ∉ as → b ≠ S → putP (upd H S (.lst (as.map V.ref))) as (xs.zip ys) b = H b := fun b h1 h2 => (putP_off h1).trans (upd_ne h2)
  have ol : ∀ b o, s.heap.get? b = some o → b ∉ as ∧ b ≠ S := fun b o q => by
    have := Heap.lt_size q
    exact ⟨fun z => absurd this (Nat.not_lt.mpr (Nat.le_trans hSs (Nat.le_of_succ_le (G.low b z)))), fun z => absurd this (Nat.not_lt.mpr (by rw [z]; exact hSs))⟩
  have kp : ∀ b u, H b = some u → putP (upd H S (.lst (as.map V.ref))) as (xs.zip ys) b = some u := fun b u q => by
    rw [off b (fun z => by rw [nw b z] at q; cases q) (fun z => by rw [z, nwS] at q; cases q)]
    exact q
  have eS : putP (upd H S (.lst (as.map V.ref))) as (xs.zip ys) S = some (.lst (as.map V.ref)) := (putP_off nS).trans upd_same
  have tell : ∀ (j : Nat) (a : Addr), as[j]? = some a → ∃ x y ux0 uy0, xs[j]? = some x ∧ ys[j]? = some y ∧ putP (upd H S (.lst (as.map V.ref))) as (xs.zip ys) a = some (.tup [x, y]) ∧ RelV x ux0 ∧ RelV y uy0 ∧ IsPair h' a ux0 uy0 := fun j a hj => by
    obtain ⟨x0, y0, e1, e2, e3⟩ := G.prs j a hj
    rw [List.getElem?_toArray] at e1 e2
    obtain ⟨x, f1, g1⟩ := rel_get rx e1
    obtain ⟨y, f2, g2⟩ := rel_get ry e2
    refine ⟨x, y, x0, y0, f1, f2, ?_, g1, g2, e3⟩
    exact putP_at (p := (x, y)) nd hj (by rw [List.getElem?_zip_eq_some]; exact ⟨f1, f2⟩)
  refine ⟨_, kp, nwS, eS, fun j a hj => ?_, ?_⟩
  · obtain ⟨x, y, _, _, f1, f2, f3, _⟩ := tell j a hj
    exact ⟨x, y, f1, f2, f3⟩
  refine I.call' (ch := []) rfl ⟨fun b o q _ _ _ => k b o q, fun b o q _ _ _ => ⟨o.slots, k b o q⟩, fun b o q n _ => ?_, fun b o q _ => ⟨o, k b o q⟩, fun b xs q => kp b _ q, fun b o u q => kp b _ q, fun b ps q => ⟨#[], by rw [kp b _ q]; simp⟩⟩ (fun b u q => ?_) I.bare fun b z => by simp at z
  · obtain ⟨z1, z2⟩ := ol b o q
    rw [off b z1 z2]
    exact n
  · by_cases hb : b ∈ as
    · obtain ⟨j, hj⟩ := List.mem_iff_getElem?.mp hb
      obtain ⟨x, y, x0, y0, _, _, f3, g1, g2, g3⟩ := tell j b hj
      rw [f3] at q
      cases q
      exact ⟨by show 2 ≤ sizeLine; decide, [x0, y0], .cons g1 (.cons g2 .nil), ⟨_, g3, rfl, _, rfl⟩⟩
    · by_cases hb2 : b = S
      · rw [hb2] at q ⊢
        rw [eS] at q
        cases q
        refine ⟨by rw [List.length_map]; omega, acc.toList, c, by rw [hacc]; exact vals_rf as, ?_⟩
        rw [Array.toArray_toList]
        exact hS
      · rw [off b hb hb2] at q
        exact (I.hok b u q).stay (fun d v _ y => k d v y) (fun d y => kp d _ y) fun d xs y => kp d _ y
def rLZip (K : PySem.W.Frag) : List V → Hp → VK → Prop := fun vs H Q => ∃ a b xs ys, vs = [V.ref a, .ref b] ∧ SqL K H a xs ∧ SqL K H b ys ∧ xs.length ≤ ys.length ∧
  ∀ H' q (ts : List Addr), Ex H H' → H q = none → ts.length = xs.length → H' q = some (.lst (ts.map V.ref)) → (∀ (j : Nat) (t : Addr), ts[j]? = some t → ∃ x y, xs[j]? = some x ∧ ys[j]? = some y ∧ H' t = some (.tup [x, y])) → Q (.ref q) H'
/-- list(zip(e, e2)) -/
theorem pe_listZip (hc : X.calm = true) (ha : PA X [e, e2] ta) (hg : Gl X "list") (hm : X.mg "list" = none) (hg2 : Gl X "zip") (hm2 : X.mg "zip" = none)
    (hs : starEach [.Call (.Name "zip" p2) [e, e2] [] pos2] X.env = (false, eval (.Call (.Name "zip" p2) [e, e2] [] pos2) X.env) :: starEach [] X.env := by rfl)
    (hs2 : starEach [e, e2] X.env = (false, eval e X.env) :: starEach [e2] X.env := by rfl) (hpl : (backTo pos2 (starEach [e2] X.env)).any (·.1) = false := by rfl) :
    PE X (.Call (.Name "list" p) [.Call (.Name "zip" p2) [e, e2] [] pos2] [] pos) (tCB (rLZip X.K) ta) := by
  refine ⟨fun pins s σ H Q I h => ?_⟩
  refine wpAny_Call_Name_kw (ld_blt I hg hm boot_list ?_)
  refine PyProof.Rows.callWith_type1 ?_ hs rfl
  rw [hs]
  refine Calls.spliced_cons ?_
  refine Call_ (ld_blt I hg2 hm2 PyProof.Rows.boot_zip (PyProof.Rows.callWith_type1 (thn (ha.run pos2 pins s σ H _ I h) fun us s1 ⟨vs, H1, I1, r1, q1⟩ => ?_) hs2 hpl))
  obtain ⟨a, b, xs, ys, rfl, hqx, hqy, hl, q⟩ := q1
  cases r1 with
  | cons r rr =>
    cases rr with
    | cons r' rr =>
      cases rr
      cases r
      cases r'
      obtain ⟨ux, rx, p1, hz1⟩ := I1.list hqx
      obtain ⟨uy, ry, p2, _⟩ := I1.list hqy
      have la : a < s1.heap.objs.size := p1.lt
      have lb : b < s1.heap.objs.size := p2.lt
      refine call_zip_2 p1.isList p2.isList fun h' hz hTI hTO h1 h2 hsz hk => ?_
      refine Calls.spliced_nil ?_
      have D := PySem.W.ktu_apart s1.heap.objs.size a b la lb
      refine lz_call (s := { s1 with heap := h' }) (n := ux.length) (I1.ok.hd hc) D hTI h1 h2 (p1.isList.at fun o e => hk _ o e) (p2.isList.at fun o e => hk _ o e) hz (by simp) (by rw [List.size_toArray, ← ry.length, ← rx.length]; exact hl) (by rw [← rx.length]; exact hz1) (fun h2 tk acc c as kp hS hal G hacc => ?_) ⟨_, _, hTO⟩
      dsimp only at kp hS G ⊢
      have kpp : ∀ c o, s1.heap.get? c = some o → h2.get? c = some o := fun c o e => by
        have := Heap.lt_size e
        exact kp c o (Nat.ne_of_lt (Nat.lt_of_lt_of_le this (Nat.le_add_right _ _))) (Nat.ne_of_lt (Nat.lt_of_lt_of_le this (Nat.le_add_right _ _))) (Nat.ne_of_lt this) (Nat.ne_of_lt (Nat.lt_of_lt_of_le this (Nat.le_add_right _ _))) (hk c o e)
      obtain ⟨H', e1, e2, e3, e4, J⟩ := pairs_laid (tk := tk) I1 rx ry hz1 kpp (by rw [hsz]; omega) hS (by rw [hal, rx.length]) G hacc
      exact ⟨.ref _, H', J, rfl, q H' _ as e1 e2 (by rw [hal, rx.length]) e3 e4⟩
end
end K8
/-! answer_of -/
namespace K8
open PySem PySem.Spec L2 Evl
open PyProof.Rows hiding St
theorem ItAll.app {G : Hp} {b : List Itm} : ∀ {a : List Itm} {xs : List V}, ItAll G (a ++ b) xs → ∃ ys zs, xs = ys ++ zs ∧ ItAll G a ys ∧ ItAll G b zs
  | [], xs, h => ⟨[], xs, rfl, rfl, h⟩
  | i :: a, xs, h => by
    obtain ⟨x, r, rfl, h1, h2⟩ := h
    obtain ⟨ys, zs, rfl, h3, h4⟩ := ItAll.app h2
    exact ⟨x :: ys, zs, rfl, ⟨x, ys, rfl, h1, h3⟩, h4⟩
theorem ita_vals {G : Hp} : ∀ {ts : List Tm} {ss : List Str} {ys : List V}, ss.length = ts.length → ItAll G (ita ts ss) ys → ∃ vt, ys = alt2 (ss.map V.str) vt ∧ vt.length = ts.length ∧ ItAll G (its ts) vt
  | [], [], ys, _, h => by
    have h : ys = [] := by simpa [ita, ItAll] using h
    exact ⟨[], by rw [h]; rfl, rfl, by rw [its]; rfl⟩
  | [], _ :: _, _, h, _ => by cases h
  | _ :: _, [], _, h, _ => by cases h
  | t :: ts, s :: ss, ys, hl, h => by
    rw [ita] at h
    obtain ⟨x, r, rfl, h1, y, r2, rfl, h2, h3⟩ := h
    obtain ⟨vt, rfl, h4, h5⟩ := ita_vals (ts := ts) (ss := ss) (by simpa using hl) h3
    have h1 : x = wv (cl s) := h1
    rw [wv_cl] at h1
    subst h1
    exact ⟨y :: vt, rfl, by simp [h4], by rw [its]; exact ⟨y, vt, rfl, h2, h5⟩⟩
theorem alt2_len {α : Type} : ∀ {as bs : List α}, as.length = bs.length → (alt2 as bs).length = 2 * as.length
  | [], _, _ => rfl
  | _ :: _, [], h => by cases h
  | a :: as, b :: bs, h => by
    have := alt2_len (as := as) (bs := bs) (by simpa using h)
    simp only [alt2, List.length_cons, this]
    omega
theorem prs_len : ∀ {ts : List Tm} {ss : List Str}, ss.length = ts.length → (prs ts ss).length = ss.length
  | [], [], _ => by simp [prs]
  | [], _ :: _, h => by cases h
  | _ :: _, [], h => by cases h
  | t :: ts, s :: ss, h => by simp [prs, prs_len (ts := ts) (ss := ss) (by simpa using h)]
theorem its_app : ∀ (ts : List Tm) (t : Tm), its (ts ++ [t]) = its ts ++ [.lst (itT t)]
  | [], t => by simp [its]
  | a :: ts, t => by simp [its, its_app ts t]
theorem prs_at2 : ∀ {ts : List Tm} {ss : List Str} {i : Nat} {s : Str} {t : Tm}, ss[i]? = some s → ts[i]? = some t → (prs ts ss)[i]? = some (.tuple [.str s, toD t])
  | [], _, i, _, _, _, h => by simp at h
  | _ :: _, [], i, _, _, h, _ => by simp at h
  | t :: ts, s :: ss, 0, _, _, h1, h2 => by cases h1; cases h2; simp [prs]
  | t :: ts, s :: ss, i + 1, _, _, h1, h2 => by
    rw [prs]
    exact prs_at2 (ts := ts) (ss := ss) (i := i) h1 h2
section
variable {P : Program} {w : World} {K : PySem.W.Frag} {mg : Str → Option Value} {base : Heap}
theorem r_stp {k : Nat} {te : TE} {σ : L2.St} {H : Hp} {Q : VK} (q : te σ H fun x H1 => ∃ a xs n, x = .ref a ∧ SqL K H1 a xs ∧ xs.length = 2 * n + 2 ∧ ∀ p, H1 p = none → Q (.ref p) (upd H1 p (.lst (ev2 k n xs)))) : tStp K k te σ H Q := q
theorem atI_end {xs : List V} {x : V} : atI (xs ++ [x]) (-1) = some x := atI_last _ _
def spAns (K : PySem.W.Frag) (n : Nat) : Sp := fun vs H Q _ => ∃ (a : Addr) (xs : List V) (ss : List Str) (ts : List Tm) (t : Tm), vs = [.ref a] ∧ H a = some (.lst xs) ∧ ItAll H (itT (.ans ss ts t)) xs ∧ ss.length = ts.length ∧ ss ≠ [] ∧ ss.length ≤ 1000 ∧ (∀ s ∈ ss, isNm s = true) ∧ (∀ u ∈ ts ++ [t], dep u ≤ n ∧ size u ≤ 1000 ∧ ∀ v ∈ subs u, frm v) ∧
  ∀ v H', Ex H H' → Dp K H' v (toD (.ans ss ts t)) → Q v H'
theorem c_answer_of {L n : Nat} (D : Dfn K mg "answer_of" (top 55) ["items"]) (T : Txt K mg) (hL : 1 ≤ L) (CL : Cal P w K mg base 1 "are_letters" spName) (CT : Cal P w K mg base L "term_of" (spTerm K n)) :
    Cal P w K mg base (L + 1) "answer_of" (spAns K n) := by
  refine D.cal (N := ["items", "signals", "terms", "signal", "item"]) (by decide +kernel) (fun vs H Q E h => ?_) fun f cdv A outer s H vs Q E hr nd h => ?_
  · obtain ⟨a, xs, ss, ts, t, rfl, _⟩ := h
    rfl
  obtain ⟨a, xs, ss, ts, t, rfl, ha, hit, hl, hne, hsl, hss, hts, q⟩ := h
  refine ⟨_, pss_cons (ps_asg (pe_stp (k := 1) (.inl rfl) (pv 0) pe_int) (pg_name (i := 1) nd rfl (Or.inl rfl)))
    (pss_cons (ps_if (PW.pt (pw_or (pt_cmpR op_eq (pe_op op_mod (p_len T (pv 0)) pe_int) pe_int (nomark _)) (pw_or1 (pt_not (pt_val (p_all T (pe_lc (own := [("signal", 3)]) (g := gName 3) (tt := tYes) rfl nd (pi_list (pv 1)) (blkOk_by (N := ["items", "signals", "terms", "signal", "item"]) (sc := defScope (top 55)) (by decide +kernel))
        (fun _ _ _ _ _ => pg_name (i := 3) nd rfl (Or.inl rfl)) (fun _ _ _ _ _ => pts_nil) (fun _ _ _ _ _ => pe_c CL hr hL (pa_cons (pv 3) pa_nil)))))))))
      (pss_one ps_no) pss_nil)
    (pss_cons (ps_setLc (i := 2) (own := [("item", 4)]) (g := gName 4) (tt := tYes) rfl nd rfl rfl rfl (pi_list (pe_lst (p_star K (pe_stp (k := 2) (.inr rfl) (pv 0) pe_int) (pa_cons (p_ixL (K := K) (pv 0) (pe_un un_neg pe_int)) pa_nil)))) (blkOk_by (N := ["items", "signals", "terms", "signal", "item"]) (sc := defScope (top 55)) (by decide +kernel))
        (fun _ _ _ _ _ => pg_name (i := 4) nd rfl (Or.inl rfl)) (fun _ _ _ _ _ => pts_nil) (fun _ _ _ _ _ => pe_c CT hr (Nat.le_refl _) (pa_cons (pv 4) pa_nil)))
    (pss_one (ps_ret (pe_ifExp (pt_cmpR (op_in_no (hu_of hr)) pe_non (pv 2) rfl) pe_non (pe_tup (pa_cons pe_str (pa_cons (pe_callTy call_tuple_of rfl T.tuple boot_tuple (pa_cons (pe_listZip rfl (pa_cons (pv 1) (pa_cons (pv 2) pa_nil)) rfl T.list rfl T.zip) pa_nil)) (pa_cons (p_ixL (K := K) (pv 2) (pe_un un_neg pe_int)) pa_nil))))))))), ?_⟩
  obtain ⟨vt, l, lx, rfl, hvl, hvt, hl2, hlx⟩ : ∃ vt l lx, xs = .str "answer" :: (alt2 (ss.map V.str) vt ++ [.ref l]) ∧ vt.length = ts.length ∧ ItAll H (its ts) vt ∧ H l = some (.lst lx) ∧ ItAll H (itT t) lx := by
    rw [itT] at hit
    obtain ⟨x, r, rfl, h1, h2⟩ := hit
    obtain ⟨ys, zs, rfl, h3, y, r2, rfl, ⟨l, lx, rfl, h4, h5⟩, h6⟩ := ItAll.app h2
    obtain ⟨vt, rfl, h7, h8⟩ := ita_vals hl h3
    have h6 : r2 = [] := h6
    subst h6
    have h1 : x = wv (cl "answer") := h1
    rw [wv_cl] at h1
    subst h1
    exact ⟨vt, l, lx, rfl, h7, h8, h4, h5⟩
  have hal : (ss.map V.str).length = vt.length := by rw [List.length_map, hvl, hl]
  have hxl : (V.str "answer" :: (alt2 (ss.map V.str) vt ++ [.ref l])).length = 2 * ss.length + 2 := by
    rw [List.length_cons, List.length_append, alt2_len hal, List.length_map]
    rfl
  walk_at "rds"
  refine r_stp ?_
  walk_at "rds"
  refine ⟨a, _, ss.length, rfl, SqL.of ha, hxl, fun p1 hp1 => ?_⟩
  have ev1 : ev2 1 ss.length (V.str "answer" :: (alt2 (ss.map V.str) vt ++ [.ref l])) = ss.map V.str := by
    have := ev2_odd (V.str "answer") (V.ref l) hal
    rwa [List.length_map] at this
  have ev3 : ev2 2 ss.length (V.str "answer" :: (alt2 (ss.map V.str) vt ++ [.ref l])) = vt := by
    have := ev2_even (V.str "answer") (V.ref l) hal
    rwa [hvl, ← hl] at this
  rw [ev1]
  have e1 : Ex H (upd H p1 (.lst (ss.map V.str))) := Ex.new hp1
  have w1 : (upd H p1 (.lst (ss.map V.str))) p1 = some (.lst (ss.map V.str)) := upd_same
  generalize upd H p1 (.lst (ss.map V.str)) = H1 at *
  walk_at "rds"
  refine r_lenL (SqL.of (e1 _ _ ha)) ?_
  walk_at "rds"
  refine r_I (by decide) ?_
  rw [hxl]
  walk_at "rds"
  refine r_eq rfl (r_bl (r_no (fun z => by
    have := V.int.inj z
    omega) ?_))
  walk_at "rds"
  refine ⟨p1, rfl, ⟨_, SqL.of w1⟩, lc_pure (over_list (xs := ss.map V.str)) (fun H5 e5 => SqL.of (e5 _ _ w1)) (fun i y _ => y = .bl true) (fun _ _ _ _ _ h => h) (small (by rw [List.length_map]; omega)) (fun i y H3 hi e3 hy Q q => ?_) fun D H2 ys hD e2 h2 ht hall => ?_⟩
  · obtain ⟨z, hz, rfl⟩ := str_at hy
    refine r_name ⟨rfl, ?_⟩
    walk_at "rds"
    exact ⟨z, rfl, hss z (List.mem_of_getElem? hz), fun H' e => q _ _ e rfl⟩
  walk_at "rds"
  refine r_allT h2 hall ?_
  walk_at "rds"
  have ha2 := e2 _ _ (e1 _ _ ha)
  refine r_stp ?_
  walk_at "rds"
  refine ⟨a, _, ss.length, rfl, SqL.of ha2, hxl, fun p2 hp2 => ?_⟩
  rw [ev3]
  have e3 : Ex H2 (upd H2 p2 (.lst vt)) := Ex.new hp2
  have w3 : (upd H2 p2 (.lst vt)) p2 = some (.lst vt) := upd_same
  generalize upd H2 p2 (.lst vt) = H3 at *
  refine ⟨p2, vt, rfl, .inr (SqL.of w3), ?_⟩
  walk_at "rds"
  have hlast : atI (V.str "answer" :: (alt2 (ss.map V.str) vt ++ [.ref l])) (-1) = some (.ref l) := atI_end (xs := V.str "answer" :: alt2 (ss.map V.str) vt)
  refine ⟨1, rfl, ?_⟩
  refine r_ixL (SqL.of (e3 _ _ ha2)) hlast ?_
  walk_at "rds"
  refine ⟨Nat.le_of_lt (small (by simp; omega)), fun p4 hp4 => ?_⟩
  have e4 : Ex H3 (upd H3 p4 (.lst (vt ++ [.ref l]))) := Ex.new hp4
  have w4 : (upd H3 p4 (.lst (vt ++ [.ref l]))) p4 = some (.lst (vt ++ [.ref l])) := upd_same
  have hit4 : ItAll (upd H3 p4 (.lst (vt ++ [.ref l]))) (its (ts ++ [t])) (vt ++ [.ref l]) := by
    have x := ((e1.trans e2).trans e3).trans e4
    rw [its_app]
    refine ItAll.snoc ?_ (ItAll.ex x _ _ hvt)
    exact ⟨l, lx, rfl, x _ _ hl2, ItAll.ex x _ _ hlx⟩
  generalize upd H3 p4 (.lst (vt ++ [.ref l])) = H4 at *
  refine ⟨p4, rfl, ⟨_, SqL.of w4⟩, lc_pure (over_list (xs := vt ++ [.ref l])) (fun H5 e5 => SqL.of (e5 _ _ w4)) (fun i y H => ∃ u, (ts ++ [t])[i]? = some u ∧ Dp K H y (toD u)) (fun _ _ _ _ kx ⟨u, h1, h2⟩ => ⟨u, h1, Dp.kx kx _ _ h2 (noL_toD _)⟩) (small (by simp; omega)) (fun i y H5 hi e5 hy Q q => ?_) fun D2 H5 zs hD2 e5 h5 ht2 hall2 => ?_⟩
  · obtain ⟨u, heu, l2, xs2, rfl, hl4, hi4⟩ := its_get hit4 hy
    have hm := hts u (List.mem_of_getElem? heu)
    refine r_name ⟨rfl, ?_⟩
    walk_at "rds"
    exact ⟨l2, xs2, u, rfl, e5 _ _ hl4, ItAll.ex e5 _ _ hi4, hm.1, hm.2.1, hm.2.2, fun v H' e hd => q _ _ e ⟨u, heu, hd⟩⟩
  walk_at "rds"
  have hzl : zs.length = ts.length + 1 := by rw [ht2]; simp [hvl]
  have w15 := e5 _ _ (e4 _ _ (e3 _ _ (e2 _ _ w1)))
  refine ⟨D2, zs, rfl, rfl, SqL.of h5, fun z hz => ?_, r_bl (iteF ?_)⟩
  · obtain ⟨i, hi, e⟩ := List.getElem_of_mem hz
    obtain ⟨u, _, hd⟩ := hall2 i z (by rw [List.getElem?_eq_getElem hi, e])
    cases u <;> simp only [toD] at hd <;> obtain ⟨c, ws, rfl, hs, _⟩ := dp_tup hd <;> exact ⟨c, ws, rfl, hs⟩
  walk_at "rds"
  refine ⟨p1, D2, _, zs, rfl, SqL.of w15, SqL.of h5, by rw [List.length_map]; omega, fun H6 q6 as e6 hq6 hal6 h6 hpr => ?_⟩
  walk_at "rds"
  refine ⟨q6, _, rfl, .inl ⟨SqL.of h6, fun o ho => ?_⟩⟩
  walk_at "rds"
  obtain ⟨z0, zl, rfl⟩ : ∃ z0 zl, zs = z0 ++ [zl] := by
    have hne : zs ≠ [] := fun z => by rw [z] at hzl; simp at hzl
    exact ⟨zs.dropLast, zs.getLast hne, (List.dropLast_concat_getLast hne).symm⟩
  have x7 : Ex H6 (upd H6 o (.tup (as.map V.ref))) := Ex.new ho
  refine ⟨1, rfl, ?_⟩
  refine r_ixL (SqL.of (x7 _ _ (e6 _ _ h5))) atI_end ?_
  walk_at "rds"
  refine ⟨(by decide : (3 : Nat) ≤ sizeLine), fun z hz => ?_⟩
  have x8 := Ex.new (o := HO.tup [.str "answer", .ref o, zl]) hz
  refine q _ _ ((((((e1.trans e2).trans e3).trans e4).trans e5).trans e6).trans (x7.trans x8)) ?_
  have hz0 : z0.length = ts.length := by rw [List.length_append] at hzl; simpa using hzl
  have kx := Kx.of (e6.trans (x7.trans x8))
  simp only [toD]
  refine .tup (SqT.of upd_same) (.cons (.str _) (.cons (.tup (ex_t x8 (SqT.of upd_same)) ?_) (.cons ?_ .nil)))
  · refine dpa_mk (by rw [List.length_map, hal6, List.length_map, prs_len hl]) fun i y hy => ?_
    rw [List.getElem?_map] at hy
    cases ea : as[i]? with
    | none => rw [ea] at hy; cases hy
    | some b =>
      rw [ea] at hy
      cases hy
      obtain ⟨x, y, f1, f2, f3⟩ := hpr i b ea
      obtain ⟨s', f4, rfl⟩ := str_at f1
      have hi : i < ts.length := by have := (List.getElem?_eq_some_iff.mp f4).1; omega
      obtain ⟨u, g1, g2⟩ := hall2 i y f2
      rw [List.getElem?_append_left hi] at g1
      refine ⟨_, prs_at2 f4 g1, ?_⟩
      exact .tup (SqT.of (x8 _ _ (x7 _ _ f3))) (.cons (.str _) (.cons (Dp.kx kx _ _ g2 (noL_toD _)) .nil))
  · obtain ⟨u, g1, g2⟩ := hall2 z0.length zl (by simp)
    rw [hz0, List.getElem?_append_right (Nat.le_refl _), Nat.sub_self] at g1
    cases (show some t = some u from g1)
    exact Dp.kx kx _ _ g2 (noL_toD _)
end
end K8
/-! term_of: by recursion on the depth -/
namespace K8
open PySem PySem.Spec L2 Evl
open PyProof.Rows hiding St
theorem it_tab {G : Hp} : ∀ {tab : List (Option Nat)} {ys : List V}, ItAll G (tab.map fun e => .atm (ent e)) ys → ys = tab.map fun e => wv (ent e)
  | [], ys, h => h
  | e :: tab, ys, h => by
    obtain ⟨y, r, rfl, h1, h2⟩ := h
    have h1 : y = wv (ent e) := h1
    rw [it_tab h2, h1]
    rfl
section
variable {P : Program} {w : World} {K : PySem.W.Frag} {mg : Str → Option Value} {base : Heap}
theorem r_mCh {zs : List Str} {tb : TS} {t : TM} {y : Str} {D : Ends} {σ : L2.St} {H : Hp} (h : y ∈ zs) (q : tb D σ H) : tMC zs tb t (.str y) D σ H := ⟨y, rfl, .inl ⟨h, q⟩⟩
theorem r_mCm {zs : List Str} {tb : TS} {t : TM} {y : Str} {D : Ends} {σ : L2.St} {H : Hp} (h : y ∉ zs) (q : t (.str y) D σ H) : tMC zs tb t (.str y) D σ H := ⟨y, rfl, .inr ⟨h, q⟩⟩
theorem c_term_of (D53 : Dfn K mg "all_or_none" (top 53) ["head", "found"]) (D55 : Dfn K mg "answer_of" (top 55) ["items"]) (D : Dfn K mg "term_of" (top 56) ["items"]) (D57 : Dfn K mg "named_of" (top 57) ["items"]) (T : Txt K mg)
    (CL : Cal P w K mg base 1 "are_letters" spName) (CA : Cal P w K mg base 1 "all_or_none" (spAon K)) (CD : Cal P w K mg base 2 "deed_of" (spDeed K)) : ∀ n, Cal P w K mg base (2 * n + 2) "term_of" (spTerm K n)
  | 0 => D.cal (k := 1) (N := ["items", "item"]) (by decide +kernel) (fun vs H Q E h => by obtain ⟨a, xs, t, rfl, _⟩ := h; rfl) fun f cdv A outer s H vs Q E hr nd h => by
      obtain ⟨a, xs, t, rfl, _, _, hd, _⟩ := h
      have := dep_pos t
      omega
  | n + 1 => by
    have CT := c_term_of D53 D55 D D57 T CL CA CD n
    have CN := c_named_of D57 T (by omega) CL CA CT
    have CS := c_answer_of D55 T (by omega) CL CT
    refine D.cal (k := 2 * n + 3) (N := ["items", "item"]) (by decide +kernel) (fun vs H Q E h => by obtain ⟨a, xs, t, rfl, _⟩ := h; rfl) fun f cdv A outer s H vs Q E hr nd h => ?_
    obtain ⟨a, xs, t, rfl, ha, hit, hd, hsz, hf, q⟩ := h
    refine ⟨_, pss_cons (ps_if (PW.pt (pw_or (pt_not (pt_val (p_isi T (pv 0) T.list boot_list))) (pw_or1 (pt_cmpR (op_eq_nil hr.units0) (pv 0) (pe_lst pa_nil) rfl)))) (pss_one ps_no) pss_nil)
      (pss_cons (ps_match (p_ixL (K := K) (pv 0) pe_int)
        (pms_str .one (pss_one (ps_ret (pe_c CD hr (by omega) (pa_cons (pv 0) pa_nil))))
        (pms_str (.many (.cons (.cons (.cons .nil)))) (pss_one (ps_ret (pe_ifExp (PW.pt (pw_and (pt_cmpR op_eq (p_len T (pv 0)) pe_int (nomark _)) (pw_and1 (pt_val (pe_c CL hr (by omega) (pa_cons (p_ixL (K := K) (pv 0) pe_int) pa_nil)))))) (pe_callTy call_tuple_of rfl T.tuple boot_tuple (pa_cons (pv 0) pa_nil)) pe_non)))
        (pms_str (.many (.cons (.cons (.cons (.cons .nil))))) (pss_one (ps_ret (pe_c CA hr (by omega) (pa_cons (pe_slice (sl_list.or sl_anyT) (pv 0) po_none (po_some pe_int)) (pa_cons (pe_lc (own := [("item", 1)]) (g := gName 1) (tt := tYes) rfl nd (pi_list (pe_slice (sl_list.or sl_anyT) (pv 0) (po_some pe_int) po_none)) (blkOk_by (N := ["items", "item"]) (sc := defScope (top 56)) (by decide +kernel))
            (fun _ _ _ _ _ => pg_name (i := 1) nd rfl (Or.inl rfl)) (fun _ _ _ _ _ => pts_nil) (fun _ _ _ _ _ => pe_c CT hr (by omega) (pa_cons (pv 1) pa_nil))) pa_nil)))))
        (pms_str .one (pss_one (ps_ret (pe_c CN hr (by omega) (pa_cons (pv 0) pa_nil))))
        (pms_str .one (pss_one (ps_ret (pe_ifExp (pt_cmpR op_eq (p_len T (pv 0)) pe_int (nomark _)) (pe_c CN hr (by omega) (pa_cons (pv 0) pa_nil)) pe_non)))
        (pms_str .one (pss_one (ps_ret (pe_c CS hr (by omega) (pa_cons (pv 0) pa_nil))))
        pms_nil)))))))
      (pss_one (ps_ret pe_non))), ?_⟩
    walk_at "rds"
    refine r_isi (ty_sqL (SqL.of ha)) kb_list_list ?_
    walk_at "rds"
    refine ⟨Nat.zero_le _, fun z hz => ?_⟩
    have x1 : Ex H (upd H z (.lst [])) := Ex.new hz
    have ha1 := x1 _ _ ha
    have hit1 := ItAll.ex x1 _ _ hit
    refine r_eqNilL (SqL.of ha1) (SqL.of upd_same) (r_bl ?_)
    generalize upd H z (.lst []) = H1 at *
    have done : ∀ v H', Ex H1 H' → Dp K H' v (toD t) → Q v H' := fun v H' e h => q v H' (x1.trans e) h
    have hft := hf t (self_subs t)
    have kd' : ∀ u ∈ kids t, dep u ≤ n ∧ size u ≤ 1000 ∧ ∀ v ∈ subs u, frm v := fun u hu => by
      have h1 := dep_kids hu
      have h2 := size_kid hu
      exact ⟨by omega, by omega, fun v hv => hf v (subs_kid hu hv)⟩
    have hkl := kids_len t
    cases t with
    | act w tab =>
      rw [itT] at hit1
      obtain ⟨y1, r1, rfl, g1, y2, r2, rfl, g2, g3⟩ := hit1
      have g1 : y1 = wv (cl "do") := g1
      have g2 : y2 = wv (cl w) := g2
      rw [wv_cl] at g1 g2
      subst g1 g2
      have g3 := it_tab g3
      subst g3
      obtain ⟨f1, f2, f3, f4⟩ := hft
      refine iteF ?_
      walk_at "rds"
      refine r_ixL (SqL.of ha1) r_at0 ?_
      refine r_mCh (by decide +kernel) ?_
      walk_at "rds"
      exact ⟨a, w, tab, rfl, SqL.of ha1, f1, fun e => by rw [e] at f2; exact absurd f2 (by decide), by omega, f4, done⟩
    | nam k x =>
      rw [itT] at hit1
      obtain ⟨y1, r1, rfl, g1, y2, r2, rfl, g2, g3⟩ := hit1
      have g1 : y1 = wv (cl k) := g1
      have g2 : y2 = wv (cl x) := g2
      have g3 : r2 = [] := g3
      rw [wv_cl] at g1 g2
      subst g1 g2 g3
      obtain ⟨f1, f2⟩ := hft
      refine iteF ?_
      walk_at "rds"
      refine r_ixL (SqL.of ha1) r_at0 ?_
      refine r_mCm (by rcases f2 with rfl | rfl | rfl <;> decide +kernel) ?_
      refine r_mCh (by rcases f2 with rfl | rfl | rfl <;> decide +kernel) ?_
      walk_at "rds"
      refine r_lenL (SqL.of ha1) ?_
      walk_at "rds"
      refine r_eq rfl (r_bl (r_yes rfl ?_))
      walk_at "rds"
      refine r_ixL (SqL.of ha1) r_at1 ?_
      walk_at "rds"
      refine ⟨x, rfl, f1, fun H2 e2 => ?_⟩
      walk_at "rds"
      refine ⟨a, _, rfl, .inl ⟨SqL.of (e2 _ _ ha1), fun o ho => ?_⟩⟩
      exact done _ _ (e2.trans (Ex.new ho)) (by simp only [toD]; exact .tup (SqT.of upd_same) (.cons (.str _) (.cons (.str _) .nil)))
    | ser k ts =>
      rw [itT] at hit1
      obtain ⟨y1, ys, rfl, g1, g2⟩ := hit1
      have g1 : y1 = wv (cl k) := g1
      rw [wv_cl] at g1
      subst g1
      have hyl : ys.length = ts.length := by rw [g2.len, its_len]
      have hkl : ts.length + 1 ≤ size (.ser k ts) := hkl
      refine iteF ?_
      walk_at "rds"
      refine r_ixL (SqL.of ha1) r_at0 ?_
      refine r_mCm (by rcases hft with rfl | ⟨rfl | rfl, _⟩ | ⟨rfl, _⟩ <;> decide +kernel) ?_
      refine r_mCm (by rcases hft with rfl | ⟨rfl | rfl, _⟩ | ⟨rfl, _⟩ <;> decide +kernel) ?_
      refine r_mCh (by rcases hft with rfl | ⟨rfl | rfl, _⟩ | ⟨rfl, _⟩ <;> decide +kernel) ?_
      walk_at "rds"
      refine .inl (r_slLt (k := 1) (SqL.of ha1) fun p H2 hp e2 h2 => ?_)
      replace h2 : H2 p = some (.lst [.str k]) := h2
      walk_at "rds"
      refine .inl (r_slL (k := 1) (SqL.of (e2 _ _ ha1)) fun p3 H3 hp3 e3 h3 => ?_)
      replace h3 : H3 p3 = some (.lst ys) := h3
      walk_at "rds"
      have hit3 := ItAll.ex (e2.trans e3) _ _ g2
      refine ⟨p3, rfl, ⟨_, SqL.of h3⟩, lc_pure (over_list (xs := ys)) (fun H5 e5 => SqL.of (e5 _ _ h3)) (fun i y H => ∃ u, ts[i]? = some u ∧ Dp K H y (toD u)) (fun _ _ _ _ kx ⟨u, h1, h2⟩ => ⟨u, h1, Dp.kx kx _ _ h2 (noL_toD _)⟩) (small (by omega)) (fun i y H4 hi e4 hy Q q => ?_) fun D H4 zs hD e4 h4 ht hall => ?_⟩
      · obtain ⟨u, heu, l, lx, rfl, hl4, hi4⟩ := its_get hit3 hy
        have hm := kd' u (List.mem_of_getElem? heu)
        refine r_name ⟨rfl, ?_⟩
        walk_at "rds"
        exact ⟨l, lx, u, rfl, e4 _ _ hl4, ItAll.ex e4 _ _ hi4, hm.1, hm.2.1, hm.2.2, fun v H' e hd => q _ _ e ⟨u, heu, hd⟩⟩
      walk_at "rds"
      refine ⟨p, D, _, zs, rfl, ex_l (e3.trans e4) (SqL.of h2), SqL.of h4, fun z hz => ?_, by simp, by omega, fun r H5 e5 h5 => ?_⟩
      · obtain ⟨i, hi, e⟩ := List.getElem_of_mem hz
        obtain ⟨u, _, hd⟩ := hall i z (by rw [List.getElem?_eq_getElem hi, e])
        cases u <;> simp only [toD] at hd <;> obtain ⟨c, ws, rfl, hs, _⟩ := dp_tup hd <;> exact ⟨c, ws, rfl, hs⟩
      · refine done _ _ (((e2.trans e3).trans e4).trans e5) ?_
        simp only [toD]
        refine .tup h5 (.cons (.str _) (dpa_mk (by show zs.length = _; rw [ht, toDs_len, hyl]) fun i z hz => ?_))
        obtain ⟨u, heu, hd⟩ := hall i z hz
        exact ⟨toD u, by rw [toDs_map, List.getElem?_map, heu]; rfl, Dp.kx (Kx.of e5) _ _ hd (noL_toD _)⟩
    | cal x ts =>
      rw [itT] at hit1
      obtain ⟨y1, r1, rfl, g1, y2, ys, rfl, g2, g3⟩ := hit1
      have g1 : y1 = wv (cl "call") := g1
      have g2 : y2 = wv (cl x) := g2
      rw [wv_cl] at g1 g2
      subst g1 g2
      have hkl : ts.length + 1 ≤ size (.cal x ts) := hkl
      refine iteF ?_
      walk_at "rds"
      refine r_ixL (SqL.of ha1) r_at0 ?_
      refine r_mCm (by decide +kernel) ?_
      refine r_mCm (by decide +kernel) ?_
      refine r_mCm (by decide +kernel) ?_
      refine r_mCh (by decide +kernel) ?_
      walk_at "rds"
      exact ⟨a, "call", x, ys, ts, rfl, SqL.of ha1, g3, hft, by omega, kd', fun v H' e h => done v H' e (by simp only [toD]; exact h)⟩
    | sco x t =>
      rw [itT] at hit1
      obtain ⟨y1, r1, rfl, g1, y2, r2, rfl, g2, y3, r3, rfl, g3, g4⟩ := hit1
      have g1 : y1 = wv (cl "scope") := g1
      have g2 : y2 = wv (cl x) := g2
      have g4 : r3 = [] := g4
      rw [wv_cl] at g1 g2
      subst g1 g2 g4
      refine iteF ?_
      walk_at "rds"
      refine r_ixL (SqL.of ha1) r_at0 ?_
      refine r_mCm (by decide +kernel) ?_
      refine r_mCm (by decide +kernel) ?_
      refine r_mCm (by decide +kernel) ?_
      refine r_mCm (by decide +kernel) ?_
      refine r_mCh (by decide +kernel) ?_
      walk_at "rds"
      refine r_lenL (SqL.of ha1) ?_
      walk_at "rds"
      refine r_eq rfl (r_bl (r_yes rfl ?_))
      walk_at "rds"
      refine ⟨a, "scope", x, [y3], [t], rfl, SqL.of ha1, ?_, hft, by simp, kd', fun v H' e h => done v H' e ?_⟩
      · rw [its, its]
        exact ⟨y3, [], rfl, g3, rfl⟩
      · simp only [toD]
        simp only [toDs] at h
        exact h
    | ans ss ts t =>
      have hs : V.str "answer" = V.str "answer" := rfl
      have hit2 := hit1
      rw [itT] at hit2
      obtain ⟨y1, r1, rfl, g1, g2⟩ := hit2
      have g1 : y1 = wv (cl "answer") := g1
      rw [wv_cl] at g1
      subst g1
      obtain ⟨f1, f2, f3, f4, f5⟩ := hft
      refine iteF ?_
      walk_at "rds"
      refine r_ixL (SqL.of ha1) r_at0 ?_
      refine r_mCm (by decide +kernel) ?_
      refine r_mCm (by decide +kernel) ?_
      refine r_mCm (by decide +kernel) ?_
      refine r_mCm (by decide +kernel) ?_
      refine r_mCm (by decide +kernel) ?_
      refine r_mCh (by decide +kernel) ?_
      walk_at "rds"
      exact ⟨a, _, ss, ts, t, rfl, ha1, hit1, f1, f2, f3, f5, kd', done⟩
end
end K8
/-! first, *rest = a list -/
namespace K8
open PySem PySem.Spec L2 Evl
open PyProof.Rows hiding St
/-- a star unpack of a list, told by the heap -/
theorem star_lst {prog : Program} {w : World} {A : Around} {E : Value → Shared → Prop} {s : Shared} {l : Addr} {items : Array Value} {Q : List Value → Shared → Prop} (hl : s.heap.IsList l items) (hh : A.handled = none) (h1 : 1 ≤ items.size) (hz : items.size ≤ sizeLine)
    (h : ∀ (h' : Heap) (tk : Nat), (∀ b o, s.heap.get? b = some o → h'.get? b = some o) →
      Q (items.toList.take 1 ++ [.ref h'.objs.size]) { s with heap := h'.push { cls := .type "list", data := .seq (items.toList.drop 1).toArray }, toks := tk }) : wpAny (model prog w) A (unpackItems (.ref l) 2 (some 1)) Q E s := by
  have hlt : l ≠ s.heap.objs.size := by obtain ⟨o, ho, _⟩ := hl; exact Nat.ne_of_lt (Heap.lt_size ho)
  unfold unpackItems
  refine wpAny_bind ?_
  unfold notIterableAtAll
  refine wpAny_bind (wpAny_specialOf hl.typeIs slot_list_iter.lookup ?_)
  refine wpAny_pure ?_
  simp only [Bool.false_eq_true, if_false]
  refine wpAny_bind (wpAny_holding (wpAny_pyIter_list hl ?_))
  refine wpAny_bind (wpAny_holding (PySem.W.kun_draw hlt 1 0 _ _ ⟨_, Heap.get?_push_size _ rfl, rfl, rfl⟩ (hl.push _) (by omega) fun g1 it1 sb => ?_))
  have l1 : g1.IsList l items := (hl.push _).extBut sb.extBut hlt
  rw [Nat.zero_add] at it1
  obtain ⟨oi, hoi, r1⟩ := id it1
  obtain ⟨ol, hol, r2⟩ := id l1
  rw [List.drop_zero]
  have hfl : (items.toList.take 1).length = 1 := by rw [List.length_take, Array.length_toList]; omega
  rw [if_neg (show ¬ ((items.toList.take 1).length < 1) by rw [hfl]; omega)]
  refine wpAny_bind (wpAny_holding (PySem.W.kun_collect (s := { s with heap := g1 }) (T := "list_iterator") (.inr (.inr (.inl rfl))) (Walks.list (A := A.in1) hh s.heap.objs.size l hlt items) (fun j u st => st.1.typeIs) (k := 1) (by omega) ⟨it1, l1⟩ (Heap.lt_size hoi) (Heap.lt_size hol) (fun g2 tk hk => ?_) hz))
  show wpAny _ _ (if (items.toList.drop 1).length < 0 then _ else _) _ _ _
  rw [if_neg (Nat.not_lt_zero _)]
  show wpAny _ _ (newList ((items.toList.drop 1).take ((items.toList.drop 1).length - 0)) >>= fun d => pure (items.toList.take 1 ++ [d] ++ (items.toList.drop 1).drop ((items.toList.drop 1).length - 0))) _ _ _
  rw [Nat.sub_zero, List.take_length, List.drop_length]
  have ke : ∀ b o, s.heap.get? b = some o → g2.get? b = some o := fun b o e => hk b o (Nat.ne_of_lt (Heap.lt_size e)) (sb.extBut b o (Nat.ne_of_lt (Heap.lt_size e)) (Heap.get?_push_of_some _ e))
  refine wpAny_bind ?_
  unfold newList
  refine wpAny_newObj_type ?_ (by show _ ≤ sizeLine; simp only [List.size_toArray, List.length_drop, Array.length_toList]; omega)
  refine wpAny_pure ?_
  rw [List.append_nil]
  exact h g2 tk ke
def gStL (K : PySem.W.Frag) (t : TGs) : TG := fun v σ H Q => ∃ a x0 xs, v = V.ref a ∧ SqL K H a (x0 :: xs) ∧ ∀ p, H p = none → t [x0, .ref p] σ (upd H p (.lst xs)) Q
theorem pg_starL {X : Cx} {e1 e2 : Expr} {t : TGs} {k : Nat} {p3 pos : Pos} (hc : X.calm = true) (h : PGs X [e1, e2] t) (he : (assignEach [e1, .Starred e2 p3] X.env).map (·.2) = (assignEach [e1, e2] X.env).map (·.2) := by rfl)
    (hn : (assignEach [e1, .Starred e2 p3] X.env).length = 2 := by rfl) (hst : (assignEach [e1, .Starred e2 p3] X.env).findIdx? (·.1) = some 1 := by rfl) : PG X (.Tuple [e1, .Starred e2 p3] k pos) (gStL X.K t) := by
  refine ⟨fun pins s σ H v u Q I r hw => ?_⟩
  obtain ⟨a, x0, xs, e, hq, hw⟩ := hw
  subst e
  cases r
  obtain ⟨its, rv, ht, hz⟩ := I.list hq
  rw [assign_Tuple]
  refine wpAny_bind (wpAny_standAt ?_)
  unfold unpack
  rw [hn, hst]
  cases rv with
  | @cons _ u0 _ us r1 r2 =>
    refine wpAny_bind (wpAny_holding (star_lst ht.isList (I.ok.hd hc) (by simp) (by rw [List.size_toArray, List.length_cons, ← r2.length]; exact hz) fun h' tk hk => ?_))
    have hzd : xs.length ≤ sizeLine := by rw [List.length_cons] at hz; omega
    have hf : H h'.objs.size = none := by
      have I1 : Inv X pins σ H { s with heap := h', toks := tk } := I.kept hk
      exact I1.hok.fresh (Nat.le_refl _)
    have I2 : Inv X pins σ (upd H h'.objs.size (.lst xs)) { s with heap := h'.push { cls := .type "list", data := .seq us.toArray }, toks := tk } :=
      Inv.laid (s := { s with heap := h', toks := tk }) (I.kept hk) (fun b o e => Heap.get?_push_of_some _ e) (Nat.le_refl _) ⟨hzd, _, _, r2, Heap.get?_push_size _ rfl⟩
    rw [he]
    exact h.run pins _ σ _ [x0, .ref h'.objs.size] _ Q I2 (.cons r1 (.cons rfl .nil)) (hw _ hf)
end K8
/-! unlike programs have unlike texts (plain) -/
namespace K8
open PySem PySem.Spec L2
open PyProof.Rows hiding St
theorem cl_inj {x y : Str} (h : cl x = cl y) : x = y := by
  have := congrArg SX.S h
  rwa [SX.S_tl, SX.S_tl] at this
/-- which of the six -/
def kd : Tm → Nat
  | .act _ _ => 0 | .nam _ _ => 1 | .ser _ _ => 2 | .cal _ _ => 3 | .sco _ _ => 4 | .ans _ _ _ => 5
def kdS (x : Str) : Nat := if x = "do" then 0 else if x ∈ (["run", "exit", "raise"] : List Str) then 1 else if x ∈ (["seq", "or", "and", "case"] : List Str) then 2 else if x = "call" then 3 else if x = "scope" then 4 else 5
theorem kd_hd {t : Tm} (h : frm t) : kd t = kdS (hd1 t) := by
  cases t with
  | act w tab => show 0 = kdS "do"; decide +kernel
  | nam k x => show 1 = kdS k; rcases h.2 with rfl | rfl | rfl <;> decide +kernel
  | ser k ts => show 2 = kdS k; rcases h with rfl | ⟨rfl | rfl, _⟩ | ⟨rfl, _⟩ <;> decide +kernel
  | cal x ts => show 3 = kdS "call"; decide +kernel
  | sco x t => show 4 = kdS "scope"; decide +kernel
  | ans ss ts t => show 5 = kdS "answer"; decide +kernel
theorem it_hd (t : Tm) : ∃ r, itT t = .atm (cl (hd1 t)) :: r := by
  cases t <;> exact ⟨_, by rw [itT]; rfl⟩
theorem kd_eq {t u : Tm} (ht : frm t) (hu : frm u) (h : itT t = itT u) : kd t = kd u := by
  obtain ⟨r, e1⟩ := it_hd t
  obtain ⟨r', e2⟩ := it_hd u
  rw [e1, e2] at h
  have h3 := cl_inj (Itm.atm.inj (List.cons.inj h).1)
  rw [kd_hd ht, kd_hd hu, h3]
theorem ent_inj {a b : Option Nat} (ha : ∀ n, a = some n → n < 3) (hb : ∀ n, b = some n → n < 3) (h : ent a = ent b) : a = b := by
  cases a with
  | none =>
    cases b with
    | none => rfl
    | some m =>
      have := hb m rfl
      rw [ent, ent, TL.numL_lt (by omega)] at h
      have := (List.cons.inj h).1
      omega
  | some n =>
    have := ha n rfl
    cases b with
    | none =>
      rw [ent, ent, TL.numL_lt (by omega)] at h
      have := (List.cons.inj h).1
      omega
    | some m =>
      have := hb m rfl
      rw [ent, ent, TL.numL_lt (by omega), TL.numL_lt (by omega)] at h
      have := (List.cons.inj h).1
      rw [show n = m by omega]
theorem tab_inj : ∀ {xs ys : List (Option Nat)}, (∀ e ∈ xs, ∀ n, e = some n → n < 3) → (∀ e ∈ ys, ∀ n, e = some n → n < 3) → (xs.map fun e => Itm.atm (ent e)) = (ys.map fun e => Itm.atm (ent e)) → xs = ys
  | [], [], _, _, _ => rfl
  | [], _ :: _, _, _, h => by cases h
  | _ :: _, [], _, _, h => by cases h
  | x :: xs, y :: ys, hx, hy, h => by
    rw [List.map_cons, List.map_cons, List.cons.injEq] at h
    rw [ent_inj (hx x List.mem_cons_self) (hy y List.mem_cons_self) (Itm.atm.inj h.1), tab_inj (fun e he => hx e (List.mem_cons_of_mem _ he)) (fun e he => hy e (List.mem_cons_of_mem _ he)) h.2]
theorem frs_self {t : Tm} (h : ∀ v ∈ subs t, frm v) : frm t := h t (self_subs t)
mutual
theorem itT_inj : ∀ (t u : Tm), (∀ v ∈ subs t, frm v) → (∀ v ∈ subs u, frm v) → itT t = itT u → t = u
  | .act w tab, u, ht, hu, e => by
    have hk := kd_eq (frs_self ht) (frs_self hu) e
    cases u with
    | act w' tab' =>
      obtain ⟨_, _, _, h4⟩ : frm (.act w tab) := frs_self ht
      obtain ⟨_, _, _, k4⟩ : frm (.act w' tab') := frs_self hu
      rw [itT, itT] at e
      injection e with _ e
      injection e with e1 e2
      rw [cl_inj (Itm.atm.inj e1), tab_inj h4 k4 e2]
    | _ => exact absurd hk (by simp [kd])
  | .nam k x, u, ht, hu, e => by
    have hk := kd_eq (frs_self ht) (frs_self hu) e
    cases u with
    | nam k' x' =>
      rw [itT, itT] at e
      injection e with e1 e
      injection e with e2 _
      rw [cl_inj (Itm.atm.inj e1), cl_inj (Itm.atm.inj e2)]
    | _ => exact absurd hk (by simp [kd])
  | .ser k ts, u, ht, hu, e => by
    have hk := kd_eq (frs_self ht) (frs_self hu) e
    cases u with
    | ser k' us =>
      rw [itT, itT] at e
      injection e with e1 e2
      rw [cl_inj (Itm.atm.inj e1), its_inj ts us (fun v hv => ht v (by rw [subs]; exact List.mem_cons_of_mem _ hv)) (fun v hv => hu v (by rw [subs]; exact List.mem_cons_of_mem _ hv)) e2]
    | _ => exact absurd hk (by simp [kd])
  | .cal x ts, u, ht, hu, e => by
    have hk := kd_eq (frs_self ht) (frs_self hu) e
    cases u with
    | cal x' us =>
      rw [itT, itT] at e
      injection e with _ e
      injection e with e1 e2
      rw [cl_inj (Itm.atm.inj e1), its_inj ts us (fun v hv => ht v (by rw [subs]; exact List.mem_cons_of_mem _ hv)) (fun v hv => hu v (by rw [subs]; exact List.mem_cons_of_mem _ hv)) e2]
    | _ => exact absurd hk (by simp [kd])
  | .sco x t, u, ht, hu, e => by
    have hk := kd_eq (frs_self ht) (frs_self hu) e
    cases u with
    | sco x' u =>
      rw [itT, itT] at e
      injection e with _ e
      injection e with e1 e
      injection e with e2 _
      rw [cl_inj (Itm.atm.inj e1), itT_inj t u (fun v hv => ht v (by rw [subs]; exact List.mem_cons_of_mem _ hv)) (fun v hv => hu v (by rw [subs]; exact List.mem_cons_of_mem _ hv)) (Itm.lst.inj e2)]
    | _ => exact absurd hk (by simp [kd])
  | .ans ss ts t, u, ht, hu, e => by
    have hk := kd_eq (frs_self ht) (frs_self hu) e
    cases u with
    | ans rs us u =>
      obtain ⟨l1, _⟩ : frm (.ans ss ts t) := frs_self ht
      obtain ⟨l2, _⟩ : frm (.ans rs us u) := frs_self hu
      rw [itT, itT] at e
      injection e with _ e
      obtain ⟨e1, e2⟩ := List.append_inj' e rfl
      injection e2 with e2 _
      obtain ⟨e3, e4⟩ := ita_inj ts us ss rs l1 l2 (fun v hv => ht v (by rw [subs]; exact List.mem_cons_of_mem _ (List.mem_append_left _ hv))) (fun v hv => hu v (by rw [subs]; exact List.mem_cons_of_mem _ (List.mem_append_left _ hv))) e1
      rw [e3, e4, itT_inj t u (fun v hv => ht v (by rw [subs]; exact List.mem_cons_of_mem _ (List.mem_append_right _ hv))) (fun v hv => hu v (by rw [subs]; exact List.mem_cons_of_mem _ (List.mem_append_right _ hv))) (Itm.lst.inj e2)]
    | _ => exact absurd hk (by simp [kd])
theorem its_inj : ∀ (ts us : List Tm), (∀ v ∈ subss ts, frm v) → (∀ v ∈ subss us, frm v) → its ts = its us → ts = us
  | [], us, _, _, e => by
    cases us with
    | nil => rfl
    | cons u us => simp [its] at e
  | t :: ts, us, ht, hu, e => by
    cases us with
    | nil => simp [its] at e
    | cons u us =>
      rw [its, its] at e
      injection e with e1 e2
      rw [itT_inj t u (fun v hv => ht v (by rw [subss]; exact List.mem_append_left _ hv)) (fun v hv => hu v (by rw [subss]; exact List.mem_append_left _ hv)) (Itm.lst.inj e1), its_inj ts us (fun v hv => ht v (by rw [subss]; exact List.mem_append_right _ hv)) (fun v hv => hu v (by rw [subss]; exact List.mem_append_right _ hv)) e2]
theorem ita_inj : ∀ (ts us : List Tm) (ss rs : List Str), ss.length = ts.length → rs.length = us.length → (∀ v ∈ subss ts, frm v) → (∀ v ∈ subss us, frm v) → ita ts ss = ita us rs → ts = us ∧ ss = rs
  | [], us, ss, rs, l1, l2, _, _, e => by
    have : ss = [] := List.eq_nil_of_length_eq_zero l1
    subst this
    cases us with
    | nil => exact ⟨rfl, (List.eq_nil_of_length_eq_zero l2).symm⟩
    | cons u us =>
      cases rs with
      | nil => cases l2
      | cons r rs => simp [ita] at e
  | t :: ts, us, ss, rs, l1, l2, ht, hu, e => by
    cases ss with
    | nil => cases l1
    | cons s ss =>
      cases us with
      | nil =>
        have : rs = [] := List.eq_nil_of_length_eq_zero l2
        subst this
        simp [ita] at e
      | cons u us =>
        cases rs with
        | nil => cases l2
        | cons r rs =>
          rw [ita, ita] at e
          injection e with e1 e
          injection e with e2 e3
          obtain ⟨e4, e5⟩ := ita_inj ts us ss rs (by simpa using l1) (by simpa using l2) (fun v hv => ht v (by rw [subss]; exact List.mem_append_right _ hv)) (fun v hv => hu v (by rw [subss]; exact List.mem_append_right _ hv)) e3
          rw [cl_inj (Itm.atm.inj e1), itT_inj t u (fun v hv => ht v (by rw [subss]; exact List.mem_append_left _ hv)) (fun v hv => hu v (by rw [subss]; exact List.mem_append_left _ hv)) (Itm.lst.inj e2), e4, e5]
          exact ⟨rfl, rfl⟩
end
/-! ### the same of the tuples -/
theorem toD_hd (t : Tm) : ∃ r, toD t = .tuple (.str (hd1 t) :: r) := by
  cases t <;> exact ⟨_, by rw [toD]; rfl⟩
theorem kd_eqD {t u : Tm} (ht : frm t) (hu : frm u) (h : toD t = toD u) : kd t = kd u := by
  obtain ⟨r, e1⟩ := toD_hd t
  obtain ⟨r', e2⟩ := toD_hd u
  rw [e1, e2] at h
  have h3 := PyData.str.inj (List.cons.inj (PyData.tuple.inj h)).1
  rw [kd_hd ht, kd_hd hu, h3]
theorem entD_inj : ∀ {xs ys : List (Option Nat)}, xs.map entD = ys.map entD → xs = ys
  | [], [], _ => rfl
  | [], _ :: _, h => by cases h
  | _ :: _, [], h => by cases h
  | x :: xs, y :: ys, h => by
    rw [List.map_cons, List.map_cons, List.cons.injEq] at h
    have e : x = y := by
      cases x <;> cases y <;> simp [entD] at h ⊢
      have := h.1
      omega
    rw [e, entD_inj h.2]
mutual
theorem toD_inj : ∀ (t u : Tm), (∀ v ∈ subs t, frm v) → (∀ v ∈ subs u, frm v) → toD t = toD u → t = u
  | .act w tab, u, ht, hu, e => by
    have hk := kd_eqD (frs_self ht) (frs_self hu) e
    cases u with
    | act w' tab' =>
      rw [toD, toD] at e
      have e := PyData.tuple.inj e
      injection e with _ e
      injection e with e1 e
      injection e with e2 _
      rw [PyData.str.inj e1, entD_inj (PyData.tuple.inj e2)]
    | _ => exact absurd hk (by simp [kd])
  | .nam k x, u, ht, hu, e => by
    have hk := kd_eqD (frs_self ht) (frs_self hu) e
    cases u with
    | nam k' x' =>
      rw [toD, toD] at e
      have e := PyData.tuple.inj e
      injection e with e1 e
      injection e with e2 _
      rw [PyData.str.inj e1, PyData.str.inj e2]
    | _ => exact absurd hk (by simp [kd])
  | .ser k ts, u, ht, hu, e => by
    have hk := kd_eqD (frs_self ht) (frs_self hu) e
    cases u with
    | ser k' us =>
      rw [toD, toD] at e
      have e := PyData.tuple.inj e
      injection e with e1 e2
      rw [PyData.str.inj e1, toDs_inj ts us (fun v hv => ht v (by rw [subs]; exact List.mem_cons_of_mem _ hv)) (fun v hv => hu v (by rw [subs]; exact List.mem_cons_of_mem _ hv)) e2]
    | _ => exact absurd hk (by simp [kd])
  | .cal x ts, u, ht, hu, e => by
    have hk := kd_eqD (frs_self ht) (frs_self hu) e
    cases u with
    | cal x' us =>
      rw [toD, toD] at e
      have e := PyData.tuple.inj e
      injection e with _ e
      injection e with e1 e2
      rw [PyData.str.inj e1, toDs_inj ts us (fun v hv => ht v (by rw [subs]; exact List.mem_cons_of_mem _ hv)) (fun v hv => hu v (by rw [subs]; exact List.mem_cons_of_mem _ hv)) e2]
    | _ => exact absurd hk (by simp [kd])
  | .sco x t, u, ht, hu, e => by
    have hk := kd_eqD (frs_self ht) (frs_self hu) e
    cases u with
    | sco x' u =>
      rw [toD, toD] at e
      have e := PyData.tuple.inj e
      injection e with _ e
      injection e with e1 e
      injection e with e2 _
      rw [PyData.str.inj e1, toD_inj t u (fun v hv => ht v (by rw [subs]; exact List.mem_cons_of_mem _ hv)) (fun v hv => hu v (by rw [subs]; exact List.mem_cons_of_mem _ hv)) e2]
    | _ => exact absurd hk (by simp [kd])
  | .ans ss ts t, u, ht, hu, e => by
    have hk := kd_eqD (frs_self ht) (frs_self hu) e
    cases u with
    | ans rs us u =>
      obtain ⟨l1, _⟩ : frm (.ans ss ts t) := frs_self ht
      obtain ⟨l2, _⟩ : frm (.ans rs us u) := frs_self hu
      rw [toD, toD] at e
      have e := PyData.tuple.inj e
      injection e with _ e
      injection e with e1 e
      injection e with e2 _
      obtain ⟨e3, e4⟩ := prs_inj ts us ss rs l1 l2 (fun v hv => ht v (by rw [subs]; exact List.mem_cons_of_mem _ (List.mem_append_left _ hv))) (fun v hv => hu v (by rw [subs]; exact List.mem_cons_of_mem _ (List.mem_append_left _ hv))) (PyData.tuple.inj e1)
      rw [e3, e4, toD_inj t u (fun v hv => ht v (by rw [subs]; exact List.mem_cons_of_mem _ (List.mem_append_right _ hv))) (fun v hv => hu v (by rw [subs]; exact List.mem_cons_of_mem _ (List.mem_append_right _ hv))) e2]
    | _ => exact absurd hk (by simp [kd])
theorem toDs_inj : ∀ (ts us : List Tm), (∀ v ∈ subss ts, frm v) → (∀ v ∈ subss us, frm v) → toDs ts = toDs us → ts = us
  | [], us, _, _, e => by
    cases us with
    | nil => rfl
    | cons u us => simp [toDs] at e
  | t :: ts, us, ht, hu, e => by
    cases us with
    | nil => simp [toDs] at e
    | cons u us =>
      rw [toDs, toDs] at e
      injection e with e1 e2
      rw [toD_inj t u (fun v hv => ht v (by rw [subss]; exact List.mem_append_left _ hv)) (fun v hv => hu v (by rw [subss]; exact List.mem_append_left _ hv)) e1, toDs_inj ts us (fun v hv => ht v (by rw [subss]; exact List.mem_append_right _ hv)) (fun v hv => hu v (by rw [subss]; exact List.mem_append_right _ hv)) e2]
theorem prs_inj : ∀ (ts us : List Tm) (ss rs : List Str), ss.length = ts.length → rs.length = us.length → (∀ v ∈ subss ts, frm v) → (∀ v ∈ subss us, frm v) → prs ts ss = prs us rs → ts = us ∧ ss = rs
  | [], us, ss, rs, l1, l2, _, _, e => by
    have : ss = [] := List.eq_nil_of_length_eq_zero l1
    subst this
    cases us with
    | nil => exact ⟨rfl, (List.eq_nil_of_length_eq_zero l2).symm⟩
    | cons u us =>
      cases rs with
      | nil => cases l2
      | cons r rs => simp [prs] at e
  | t :: ts, us, ss, rs, l1, l2, ht, hu, e => by
    cases ss with
    | nil => cases l1
    | cons s ss =>
      cases us with
      | nil =>
        have : rs = [] := List.eq_nil_of_length_eq_zero l2
        subst this
        simp [prs] at e
      | cons u us =>
        cases rs with
        | nil => cases l2
        | cons r rs =>
          rw [prs, prs] at e
          injection e with e1 e3
          have e1 := PyData.tuple.inj e1
          injection e1 with e1 e2
          injection e2 with e2 _
          obtain ⟨e4, e5⟩ := prs_inj ts us ss rs (by simpa using l1) (by simpa using l2) (fun v hv => ht v (by rw [subss]; exact List.mem_append_right _ hv)) (fun v hv => hu v (by rw [subss]; exact List.mem_append_right _ hv)) e3
          rw [PyData.str.inj e1, toD_inj t u (fun v hv => ht v (by rw [subss]; exact List.mem_append_left _ hv)) (fun v hv => hu v (by rw [subss]; exact List.mem_append_left _ hv)) e2, e4, e5]
          exact ⟨rfl, rfl⟩
end
/-! ### bodies, lines, texts -/
theorem good_no32 : ∀ {m : MS} {ws : List (List Nat)}, GoodR m ws → ∀ w ∈ ws, 32 ∉ w
  | _, [], _, w, h => absurd h List.not_mem_nil
  | m, v :: ws, ⟨h1, _, h3⟩, w, h => by
    rcases List.mem_cons.mp h with rfl | h
    · exact h1.2.1
    · exact good_no32 h3 w h
theorem bd_inj {t u : Tm} (ht : ∀ v ∈ subs t, frm v) (hu : ∀ v ∈ subs u, frm v) (dt : dep t ≤ 6) (du : dep u ≤ 6) (e : bdL t = bdL u) : t = u := by
  obtain ⟨a1, a2, a3, a4⟩ := body_run ht dt
  obtain ⟨b1, b2, b3, b4⟩ := body_run hu du
  rw [e, b1] at a1
  have e2 : bdT u = bdT t := by
    have x := TL.spl_join (S := []) b2 (good_no32 b3)
    have y := TL.spl_join (S := []) a2 (good_no32 a3)
    have z : TL.joinL [32] (bdT u) = TL.joinL [32] (bdT t) := a1
    rw [z, y] at x
    exact x.symm
  rw [e2, a4] at b4
  have e3 : bdI t = bdI u := (Prod.mk.inj b4).1
  unfold bdI at e3
  obtain ⟨r, i1⟩ := it_hd t
  obtain ⟨r', i2⟩ := it_hd u
  by_cases h1 : hd1 t ∈ bare
  · rw [if_pos h1] at e3
    by_cases h2 : hd1 u ∈ bare
    · rw [if_pos h2] at e3
      exact itT_inj t u ht hu e3
    · rw [if_neg h2, i1] at e3
      injection e3 with e3 _
      cases e3
  · rw [if_neg h1] at e3
    by_cases h2 : hd1 u ∈ bare
    · rw [if_pos h2, i2] at e3
      injection e3 with e3 _
      cases e3
    · rw [if_neg h2] at e3
      injection e3 with e3 _
      exact itT_inj t u ht hu (Itm.lst.inj e3)
structure GdR (r : Rw) : Prop where
  nm : isNm r.name = true
  own : ∀ s ∈ r.own, isNm s = true
  fr : ∀ v ∈ subs r.body, frm v
  dp : dep r.body ≤ 6
theorem line_inj {r s : Rw} (hr : GdR r) (hs : GdR s) (e : jn (lineW r) = jn (lineW s)) : r = s := by
  have p1 := line_part hr.nm hr.own
  have p2 := line_part hs.nm hs.own
  rw [e, p2] at p1
  have q1 := (Prod.mk.inj p1).1
  have q2 := SX.S_inj (Prod.mk.inj (Prod.mk.inj p1).2).2
  have h1 := head_split hr.nm hr.own
  rw [← q1, head_split hs.nm hs.own] at h1
  unfold preW at h1
  injection h1 with _ h1
  injection h1 with h1 h2
  have h3 := bd_inj hs.fr hr.fr hs.dp hr.dp q2
  cases r
  cases s
  simp only at h1 h2 h3
  rw [h1, h2, h3]
theorem OkPl.gdR {p : Pl} (ok : OkPl p) {r : Rw} (h : r ∈ p.rows) : GdR r := by
  have g := ok.gd h
  have hf := g.frm
  obtain ⟨c, _, _, o⟩ := g
  exact ⟨o.nm, o.own.1, hf, o.bd.dp⟩
theorem alpha10 : (10 : Nat) ∉ ("abcdefghijklmnopqrstuvwxyz" : Str).cps.toList := by decide +kernel
theorem nm10 {x : Str} (h : isNm x = true) : 10 ∉ cl x := nm_no h alpha10
theorem prn10 {ws : List (List Nat)} (h : ∀ w ∈ ws, 10 ∉ w) : 10 ∉ prn ws := by
  have := jn_no (c := 10) (by decide) h
  simp [prn, this]
mutual
theorem no10_T : ∀ t : Tm, (∀ v ∈ subs t, frm v) → ∀ w ∈ wsT t, 10 ∉ w
  | .act x tab, h, w, hw => by
    obtain ⟨h1, _, _, h4⟩ : frm (.act x tab) := frs_self h
    rw [wsT] at hw
    rcases List.mem_cons.mp hw with rfl | hw
    · exact nm10 (by decide +kernel)
    rcases List.mem_cons.mp hw with rfl | hw
    · exact nm10 h1
    obtain ⟨e, he, rfl⟩ := List.mem_map.mp hw
    cases e with
    | none => decide
    | some n =>
      have := h4 _ he n rfl
      rw [ent, TL.numL_lt (by omega)]
      intro z
      have := List.mem_singleton.mp z
      omega
  | .nam k x, h, w, hw => by
    obtain ⟨h1, h2⟩ : frm (.nam k x) := frs_self h
    rw [wsT] at hw
    rcases List.mem_cons.mp hw with rfl | hw
    · rcases h2 with rfl | rfl | rfl <;> exact nm10 (by decide +kernel)
    · rw [List.mem_singleton.mp hw]
      exact nm10 h1
  | .ser k ts, h, w, hw => by
    have h1 : frm (.ser k ts) := frs_self h
    rw [wsT] at hw
    rcases List.mem_cons.mp hw with rfl | hw
    · rcases h1 with rfl | ⟨rfl | rfl, _⟩ | ⟨rfl, _⟩ <;> exact nm10 (by decide +kernel)
    · exact no10_Ts ts (fun v hv => h v (by rw [subs]; exact List.mem_cons_of_mem _ hv)) w hw
  | .cal x ts, h, w, hw => by
    have h1 : isNm x = true := (show frm (.cal x ts) from frs_self h)
    rw [wsT] at hw
    rcases List.mem_cons.mp hw with rfl | hw
    · exact nm10 (by decide +kernel)
    rcases List.mem_cons.mp hw with rfl | hw
    · exact nm10 h1
    · exact no10_Ts ts (fun v hv => h v (by rw [subs]; exact List.mem_cons_of_mem _ hv)) w hw
  | .sco x t, h, w, hw => by
    have h1 : isNm x = true := (show frm (.sco x t) from frs_self h)
    rw [wsT] at hw
    rcases List.mem_cons.mp hw with rfl | hw
    · exact nm10 (by decide +kernel)
    rcases List.mem_cons.mp hw with rfl | hw
    · exact nm10 h1
    · rw [List.mem_singleton.mp hw]
      exact prn10 (no10_T t fun v hv => h v (by rw [subs]; exact List.mem_cons_of_mem _ hv))
  | .ans ss ts t, h, w, hw => by
    obtain ⟨_, _, _, _, h1⟩ : frm (.ans ss ts t) := frs_self h
    rw [wsT] at hw
    rcases List.mem_cons.mp hw with rfl | hw
    · exact nm10 (by decide +kernel)
    rcases List.mem_append.mp hw with hw | hw
    · exact no10_alt ts ss h1 (fun v hv => h v (by rw [subs]; exact List.mem_cons_of_mem _ (List.mem_append_left _ hv))) w hw
    · rw [List.mem_singleton.mp hw]
      exact prn10 (no10_T t fun v hv => h v (by rw [subs]; exact List.mem_cons_of_mem _ (List.mem_append_right _ hv)))
theorem no10_Ts : ∀ ts : List Tm, (∀ v ∈ subss ts, frm v) → ∀ w ∈ cls ts, 10 ∉ w
  | [], _, w, hw => by simp [cls] at hw
  | t :: ts, h, w, hw => by
    rw [cls] at hw
    rcases List.mem_cons.mp hw with rfl | hw
    · exact prn10 (no10_T t fun v hv => h v (by rw [subss]; exact List.mem_append_left _ hv))
    · exact no10_Ts ts (fun v hv => h v (by rw [subss]; exact List.mem_append_right _ hv)) w hw
theorem no10_alt : ∀ (ts : List Tm) (ss : List Str), (∀ s ∈ ss, isNm s = true) → (∀ v ∈ subss ts, frm v) → ∀ w ∈ alt ts ss, 10 ∉ w
  | [], ss, _, _, w, hw => by cases ss <;> simp [alt] at hw
  | t :: ts, [], _, _, w, hw => by simp [alt] at hw
  | t :: ts, s :: ss, h0, h, w, hw => by
    rw [alt] at hw
    rcases List.mem_cons.mp hw with rfl | hw
    · exact nm10 (h0 s List.mem_cons_self)
    rcases List.mem_cons.mp hw with rfl | hw
    · exact prn10 (no10_T t fun v hv => h v (by rw [subss]; exact List.mem_append_left _ hv))
    · exact no10_alt ts ss (fun s hs => h0 s (List.mem_cons_of_mem _ hs)) (fun v hv => h v (by rw [subss]; exact List.mem_append_right _ hv)) w hw
end
theorem bdL_no10 {t : Tm} (h : ∀ v ∈ subs t, frm v) : 10 ∉ bdL t := by
  unfold bdL
  split
  · exact jn_no (by decide) (no10_T t h)
  · exact prn10 (no10_T t h)
theorem line_no10 {r : Rw} (g : GdR r) : 10 ∉ jn (lineW r) := by
  refine jn_no (by decide) fun w hw => ?_
  unfold lineW at hw
  rcases List.mem_cons.mp hw with rfl | hw
  · exact nm10 (by decide +kernel)
  rcases List.mem_cons.mp hw with rfl | hw
  · exact nm10 g.nm
  rcases List.mem_append.mp hw with hw | hw
  · obtain ⟨s, hs, rfl⟩ := List.mem_map.mp hw
    exact nm10 (g.own s hs)
  rcases List.mem_cons.mp hw with rfl | hw
  · decide +kernel
  · rw [List.mem_singleton.mp hw]
    exact bdL_no10 g.fr
theorem head_no10 {p : Pl} (h : p.modes < 10) (h2 : ∀ s ∈ p.sigs, isNm s = true) : 10 ∉ jn (headW p) := by
  refine jn_no (by decide) fun w hw => ?_
  rw [hdW_eq h] at hw
  obtain ⟨s, hs, rfl⟩ := List.mem_map.mp hw
  rcases List.mem_cons.mp hs with rfl | hs
  · decide +kernel
  rcases List.mem_cons.mp hs with rfl | hs
  · intro z
    have := List.mem_singleton.mp (show 10 ∈ [48 + p.modes] from z)
    omega
  · exact nm10 (h2 s hs)
/-- the text, line by line -/
theorem text_split {p : Pl} (ok : OkPl p) : Txt.split (txP p) "\n" = (linesL p).map SX.S := by
  have hw : ∀ w ∈ linesL p, 10 ∉ w := fun w hw => by
    unfold linesL at hw
    rcases List.mem_cons.mp hw with rfl | hw
    · exact head_no10 (by have := ok.m3; omega) ok.sg.1
    · obtain ⟨r, hr, rfl⟩ := List.mem_map.mp hw
      exact line_no10 (ok.gdR hr)
  have e1 : Txt.split (SX.S (textL p)) (SX.S [10]) = (TL.spl [10] 0 [] (textL p)).map SX.S := SX.split_S (by decide) (by decide)
  rw [show TL.spl [10] 0 [] (textL p) = linesL p from TL.spl_join (by simp [linesL]) hw] at e1
  exact e1
theorem map_inj {α β : Type} {f : α → β} {P : α → Prop} (h : ∀ a b, P a → P b → f a = f b → a = b) : ∀ {xs ys : List α}, (∀ a ∈ xs, P a) → (∀ a ∈ ys, P a) → xs.map f = ys.map f → xs = ys
  | [], [], _, _, _ => rfl
  | [], _ :: _, _, _, e => by cases e
  | _ :: _, [], _, _, e => by cases e
  | x :: xs, y :: ys, hx, hy, e => by
    rw [List.map_cons, List.map_cons, List.cons.injEq] at e
    rw [h x y (hx x List.mem_cons_self) (hy y List.mem_cons_self) e.1, map_inj h (fun a ha => hx a (List.mem_cons_of_mem _ ha)) (fun a ha => hy a (List.mem_cons_of_mem _ ha)) e.2]
theorem text_inj {p q : Pl} (hp : OkPl p) (hq : OkPl q) (e : txP p = txP q) : p = q := by
  have e1 := text_split hp
  rw [e, text_split hq] at e1
  have e2 : linesL q = linesL p := map_inj (P := fun _ => True) (fun a b _ _ h => SX.S_inj h) (fun _ _ => trivial) (fun _ _ => trivial) e1
  unfold linesL at e2
  injection e2 with e3 e4
  have m1 : p.modes < 10 := by have := hp.m3; omega
  have m2 : q.modes < 10 := by have := hq.m3; omega
  have s1 := hd_split m1 hp.sg.1
  rw [← e3, hd_split m2 hq.sg.1] at s1
  unfold hdW at s1
  injection s1 with _ s1
  injection s1 with s1 s2
  have s3 := (List.cons.inj (SX.S_inj s1)).1
  have e5 : q.rows = p.rows := map_inj (P := GdR) (f := fun r => jn (lineW r)) (fun a b ha hb h => line_inj ha hb h) (fun r hr => hq.gdR hr) (fun r hr => hp.gdR hr) e4
  cases p
  cases q
  simp only at s2 s3 e5
  rw [s2, e5, show _ = _ from Nat.add_left_cancel s3]
theorem own_inj {xs ys : List Str} (h : ownD xs = ownD ys) : xs = ys := str_inj (PyData.tuple.inj h)
theorem eqPl_iff {p q : Pl} (hp : OkPl p) (hq : OkPl q) : eqPl p q = decide (txP p = txP q) := by
  by_cases e : txP p = txP q
  · rw [decide_eq_true e]
    have := text_inj hp hq e
    subst this
    unfold eqPl
    rw [decide_eq_true rfl, (eqv_iff _ _ (pln_own _) (pln_own _)).mpr rfl]
    simp only [Bool.true_and, BEq.rfl, Bool.and_true]
    rw [List.all_eq_true]
    intro i _
    unfold eRow
    cases p.rows[i]? with
    | none => rfl
    | some r => exact eqRw_refl r
  · rw [decide_eq_false e]
    cases h : eqPl p q with
    | false => rfl
    | true =>
      exfalso
      apply e
      unfold eqPl at h
      rw [Bool.and_eq_true, Bool.and_eq_true, Bool.and_eq_true, decide_eq_true_eq, eqv_iff _ _ (pln_own _) (pln_own _), List.all_eq_true, beq_iff_eq] at h
      obtain ⟨h1, h2, h3, h4⟩ := h
      have h5 : p.rows = q.rows := by
        apply List.ext_getElem h4
        intro i hi hj
        have := h3 i (List.mem_range.mpr (by omega))
        unfold eRow at this
        rw [List.getElem?_eq_getElem hi, List.getElem?_eq_getElem hj] at this
        obtain ⟨r1, r2, r3⟩ := eqRw_iff.mp this
        have g1 := hp.gdR (List.getElem_mem hi)
        have g2 := hq.gdR (List.getElem_mem hj)
        have r4 := toD_inj _ _ g1.fr g2.fr r3
        generalize p.rows[i] = a at *
        generalize q.rows[i] = b at *
        cases a
        cases b
        simp only at r1 r2 r4
        rw [r1, r2, r4]
      have h6 := own_inj h2
      cases p
      cases q
      simp only at h1 h5 h6
      rw [h1, h5, h6]
end K8
/-! read_program -/
namespace K8
open PySem PySem.Spec L2 Evl
open PyProof.Rows hiding St
/-- a classmethod of the class Program -/
structure OfM (P : Program) (w : World) (K : PySem.W.Frag) (mg : Str → Option Value) (base : Heap) (k : Nat) (C2 : Addr) (sp : Sp) : Prop where
  ex : ∃ mc p g, ClX.CRead K C2 mc ∧ ClX.CMet K C2 mc "of" p g ∧ FnR P w K mg base L2.CX0 k g sp ∧ mg "Program" = some (.ref C2)
theorem p_of {X : Cx} {K : PySem.W.Frag} {mg : Str → Option Value} {k j : Nat} {C2 : Addr} {sp : Sp} {e : Expr} {es : List Expr} {t : TA} {p ap pos : Pos} (c : OfM X.prog X.w K mg X.base k C2 sp) (hr : Room j X.A) (hk : k ≤ j) (ha : PA X (e :: es) t) (hK : X.K = K := by rfl) (hm : X.mg = mg := by rfl)
    (hg : Gl X "Program" := by rfl) (hst : starEach (e :: es) X.env = (false, eval e X.env) :: starEach es X.env := by rfl) (hpl : (backTo pos (starEach es X.env)).any (·.1) = false := by rfl) {pl : Sem Bool}
    (ht : eval (.Call (.Attribute (.Name "Program" p) "of" ap) (e :: es) [] pos) X.env = (do
      let ov ← eval (.Name "Program" p) X.env
      standAt ap.atName
      let (f, first) ← holding [ov] (getMethod ov "of" pl)
      callWith pos f first (backTo pos (starEach (e :: es) X.env)) (backToKw pos (keywordEach [] X.env))) := by rfl) :
    PE X (.Call (.Attribute (.Name "Program" p) "of" ap) (e :: es) [] pos) (ClX.tCMeth C2 sp E0 (tC (.ref C2)) t) := by
  subst hK
  subst hm
  obtain ⟨mc, p1, g, h1, h2, h3, h4⟩ := c.ex
  exact ClX.pe_cmeth (C8.pe_gc (v := .ref C2) hg ⟨_, h4, rfl⟩) h1 h2 h3 (hr.mono hk) pass0 ha hst hpl ht
theorem p_int1s {X : Cx} {K : PySem.W.Frag} {mg : Str → Option Value} {e : Expr} {ta : TE} {p pos : Pos} (T : Txt K mg) (ha : PE X e ta) (hm : X.mg = mg := by rfl) (hg : Gl X "int" := by rfl)
    (he : starEach [e] X.env = (false, eval e X.env) :: starEach [] X.env := by rfl) : PE X (.Call (.Name "int" p) [e] [] pos) (tCB (fun xs H Q => ∃ x n, xs = [.str x] ∧ PySem.intText? x = some n ∧ x.length ≤ 640 ∧ Q (.int n) H) (tCons ta tNil)) := by
  subst hm
  exact pe_callTy call_int_str hg T.int boot_int (pa_cons ha pa_nil he) (by decide) (by decide) he
theorem rp_len : ∀ l : List Nat, (rp l).length ≤ 2 * l.length
  | [] => Nat.le_refl _
  | c :: r => by
    have ih := rp_len r
    show (rp1 c ++ rp r).length ≤ _
    rw [List.length_append, List.length_cons]
    have : (rp1 c).length ≤ 2 := by
      unfold rp1
      split
      · exact Nat.le_refl _
      · split
        · exact Nat.le_refl _
        · exact Nat.le_succ _
    omega
theorem jn_ge : ∀ ws : List (List Nat), ws.length ≤ (jn ws).length + 1
  | [] => Nat.zero_le _
  | [w] => by simp
  | w :: v :: r => by
    have ih := jn_ge (v :: r)
    rw [jn_cons (by simp), List.length_append, List.length_cons]
    simp only [List.length_cons] at ih ⊢
    omega
theorem joinL_len : ∀ ws : List (List Nat), (TL.joinL [10] ws).length ≤ lw ws
  | [] => by simp [TL.joinL, lw]
  | [w] => by simp [TL.joinL, lw]
  | w :: v :: r => by
    have ih := joinL_len (v :: r)
    have e : TL.joinL [10] (w :: v :: r) = w ++ ([10] ++ TL.joinL [10] (v :: r)) := by simp [TL.joinL]
    rw [e, lw_cons, List.length_append, List.length_append]
    simp only [List.length_cons, List.length_nil]
    omega
theorem text_len {p : Pl} (ok : OkPl p) : (txP p).length ≤ 30000 := by
  have h5 : ∀ rows : List Rw, (∀ r ∈ rows, Gd r) → lw (rows.map fun r => jn (lineW r)) ≤ 2501 * rows.length := fun rows => by
    induction rows with
    | nil => intro _; simp [lw]
    | cons r rs ih =>
      intro h
      have h1 := ih fun r hr => h r (List.mem_cons_of_mem _ hr)
      have h2 := line_len (h r List.mem_cons_self)
      have h3 := jn_len (lineW r)
      rw [List.map_cons, lw_cons, List.length_cons]
      omega
  have h6 := h5 p.rows fun r hr => ok.gd hr
  have h7 := jn_len (headW p)
  have h8 := head_len ok
  have h9 := joinL_len (linesL p)
  have h10 : lw (linesL p) = (jn (headW p)).length + 1 + lw (p.rows.map fun r => jn (lineW r)) := lw_cons _ _
  have h11 := ok.rw_.2
  unfold txP textL
  rw [SX.S_len]
  omega
theorem bdT_len {r : Rw} (g : Gd r) : (bdL r.body).length ≤ 2500 ∧ (bdT r.body).length ≤ 10000 ∧ dep r.body ≤ 6 ∧ size r.body ≤ 40 ∧ (∀ s ∈ r.own, isNm s = true) ∧ isNm r.name = true ∧ r.own.length ≤ 3 ∧ (jn (lineW r)).length ≤ 2500 := by
  have hf := g.frm
  have hl := line_len g
  obtain ⟨c, _, _, ok⟩ := g
  have h1 := bdL_len r.body
  have h2 := lw_T r.body hf
  have h3 := ok.bd.sz
  have h4 := ok.bd.dp
  have h5 := (body_run hf h4).1
  have h6 := rp_len (bdL r.body)
  have h7 := jn_ge (bdT r.body)
  have h8 := jn_len (lineW r)
  rw [h5] at h6
  exact ⟨by omega, by omega, h4, h3, ok.own.1, ok.nm, ok.own.2.2, by omega⟩
section
variable {J : It} {n : Nat} {G : Hp → Prop} {Y : Nat → V → Hp → Prop} {g : TG} {te : TE} {vs : List Nat} {σ : L2.St} {H1 : Hp}
/-- a comprehension whose elements are objects: they are told in a heap without the list -/
theorem lc_own {Qd : Addr → Hp → Prop} (O : Over J n G Y) (hG : ∀ H, Ex H1 H → G H) (R : Nat → V → Hp → Prop) (hR : ∀ i y H H', Ex H H' → R i y H → R i y H') (hn : n < sizeLine)
    (he : ∀ i x H D ys, i < n → Ex H1 H → H1 D = none → H D = some (.lst ys) → Y i x H → ∀ Q : VK, (∀ y H', Ex H H' → R i y (era H' D) → Q y H') → g x (wipe σ vs) H fun σ2 H2 => wipe σ2 vs = wipe σ vs ∧ te σ2 H2 Q)
    (hd : ∀ D H' ys G', H1 D = none → Ex H1 G' → Ex G' H' → H' D = some (.lst ys) → ys.length = n → (∀ i y, ys[i]? = some y → R i y G') → Qd D H') : LcB J g tYes te vs σ Qd H1 := fun D hD => by
  refine lc_over O (fun i H => ∃ G' ys, Ex H1 G' ∧ G' D = none ∧ Ex G' H ∧ H D = some (.lst ys) ∧ ys.length = i ∧ ∀ j y, ys[j]? = some y → R j y G') ⟨H1, [], Ex.refl _, hD, Ex.new hD, upd_same, rfl, fun j y h => by simp at h⟩ (fun i H ⟨G', ys, p1, p2, p3, _⟩ => hG H (p1.trans p3)) (fun i x H H' hi p e y => ?_) fun H p => ?_
  · obtain ⟨G', ys, p1, p2, p3, p4, p5, p6⟩ := p
    refine he i x H' D ys hi ((p1.trans p3).trans e) hD (e _ _ p4) y (fun y H4 => ∃ acc, H4 D = some (.lst acc) ∧ acc.length < sizeLine ∧ ∃ G' ys, Ex H1 G' ∧ G' D = none ∧ Ex G' (upd H4 D (.lst (acc ++ [y]))) ∧ (upd H4 D (.lst (acc ++ [y]))) D = some (.lst ys) ∧ ys.length = i + 1 ∧ ∀ j y', ys[j]? = some y' → R j y' G') fun z H4 e4 r => ?_
    have h4 : H4 D = some (.lst ys) := e4 _ _ (e _ _ p4)
    have x1 : Ex G' (era H4 D) := era_ex ((p3.trans e).trans e4) p2
    refine ⟨ys, h4, by omega, era H4 D, ys ++ [z], p1.trans x1, era_none, Ex.mut era_le era_none, upd_same, by simp [p5], fun j y' hj => ?_⟩
    by_cases hlt : j < ys.length
    · rw [List.getElem?_append_left hlt] at hj
      exact hR j y' _ _ x1 (p6 j y' hj)
    · have hl := (List.getElem?_eq_some_iff.mp hj).1
      rw [List.length_append, List.length_singleton] at hl
      have ej : j = ys.length := by omega
      rw [List.getElem?_append_right (by omega), ej, Nat.sub_self] at hj
      cases (show some z = some y' from hj)
      rw [ej, p5]
      exact r
  · obtain ⟨G', ys, p1, p2, p3, p4, p5, p6⟩ := p
    exact hd D H ys G' hD p1 p3 p4 p5 p6
end
theorem PrAtL.era {K : PySem.W.Frag} {C l D : Addr} {H : Hp} {x : V} {r : Rw} {ys : List V} (h : PrAtL K C H x r l) (hD : H D = some (.lst ys)) (n : l ≠ D) : PrAtL K C (era H D) x r l := by
  obtain ⟨a, dx, po, vb, xs, h1, h2, h3, h4, h5, h6, h7⟩ := h
  have k := era_kx hD rfl
  have na : a ≠ D := fun z => by rw [z, hD] at h2; cases h2
  refine ⟨a, dx, po, vb, xs, h1, by rw [era_ne na]; exact h2, kx_t k h3, Dp.kx k _ _ h4 (noL_toD _), by rw [era_ne n]; exact h5, h6, fun y hy => ?_⟩
  obtain ⟨u, h8, h9⟩ := h7 y hy
  exact ⟨u, h8, Dp.kx k _ _ h9 (noL_toD _)⟩
theorem r_par {i j : Nat} {ta : TA} {D : Ends} {σ : L2.St} {H : Hp} (q : ta σ H fun vs H1 => ∃ v w, vs = [v, w] ∧ D.nx ((σ.set i (some v)).set j (some w)) H1) : tPar i j ta D σ H := q
theorem r_enum {ta : TA} {K : PySem.W.Frag} {σ : L2.St} {H : Hp} {R : It → Hp → Prop} (q : ta σ H fun vs H1 => ∃ a xs, vs = [.ref a] ∧ SqL K H1 a xs ∧ R (Ite K a) H1) : iEnum K ta σ H R := q
section
variable {P : Program} {w : World} {K : PySem.W.Frag} {mg : Str → Option Value} {base : Heap} {C C2 : Addr}
/-- what read_procedure gives -/
def RwAt (K : PySem.W.Frag) (x : V) (r : Rw) (H : Hp) : Prop := ∃ q o v, x = .ref q ∧ SqT K H q [.str r.name, .ref o, v] ∧ SqT K H o (r.own.map V.str) ∧ Dp K H v (toD r.body)
theorem RwAt.kx {x : V} {r : Rw} {H H' : Hp} (k : Kx H H') (h : RwAt K x r H) : RwAt K x r H' := by
  obtain ⟨q, o, v, h1, h2, h3, h4⟩ := h
  exact ⟨q, o, v, h1, kx_t k h2, kx_t k h3, Dp.kx k _ _ h4 (noL_toD _)⟩
def spRdG (K : PySem.W.Frag) (C C2 : Addr) : Sp := fun vs H Q _ => ∃ p : Pl, vs = [.str (txP p)] ∧ OkPl p ∧ ∀ x H', Ex H H' → PgAt K C C2 H' x p → Q x H'
theorem c_read_program {L : Nat} (D : Dfn K mg "read_program" (top 60) ["text"]) (T : Txt K mg) (hL : 16 ≤ L) (CL : Cal P w K mg base 1 "are_letters" spName) (CN : Cal P w K mg base 1 "is_number_text" spNum) (CR : Cal P w K mg base L "read_procedure" (spRdP K))
    (CO : OfM P w K mg base 12 C2 (spOf K C C2)) (CP : MakR P w K mg base 6 "Procedure" C (spPrI K C)) (CW : Cal P w K mg base 16 "write_program" (spWrite K C C2)) : Cal P w K mg base (L + 1) "read_program" (spRdG K C C2) := by
  refine D.cal (N := ["text", "first", "lines", "head", "rows", "index", "line", "row", "program", "word"]) (by decide +kernel) (fun vs H Q E h => ?_) fun f cdv A outer s H vs Q E hr nd h => ?_
  · obtain ⟨p, rfl, _⟩ := h
    rfl
  obtain ⟨p, rfl, ok, q⟩ := h
  refine ⟨_, pss_cons (ps_if (pt_not (pt_val (p_isi T (pv 0) T.str boot_str))) (pss_one ps_no) pss_nil)
    (pss_cons (ps_asg (pe_split (pv 0) pe_str) (pg_starL rfl (pgs_cons (pg_name (i := 1) nd rfl (Or.inl rfl)) (pgs_cons (pg_name (i := 2) nd rfl (Or.inl rfl)) pgs_nil))))
    (pss_cons (ps_par (i := 3) (j := 4) (by rfl) nd rfl rfl (by decide) rfl rfl (pa_cons (pe_split (pv 1) pe_str) (pa_cons (pe_lst pa_nil) pa_nil)) (by rfl))
    (pss_cons (ps_if (PW.pt (pw_or (pt_cmpR op_lt (p_len T (pv 3)) pe_int (nomark _)) (pw_or (pt_cmpR op_ne (p_ixL (K := K) (pv 3) pe_int) pe_str (nomark _)) (pw_or1 (pt_not (pt_val (pe_c CN hr (by omega) (pa_cons (p_ixL (K := K) (pv 3) pe_int) pa_nil)))))))) (pss_one ps_no) pss_nil)
    (pss_cons (ps_if (pt_not (pt_val (p_all T (pe_lc (own := [("word", 9)]) (g := gName 9) (tt := tYes) rfl nd (pi_list (pe_slice (sl_list.or sl_anyT) (pv 3) (po_some pe_int) po_none)) (blkOk_by (N := ["text", "first", "lines", "head", "rows", "index", "line", "row", "program", "word"]) (sc := defScope (top 60)) (by decide +kernel))
        (fun _ _ _ _ _ => pg_name (i := 9) nd rfl (Or.inl rfl)) (fun _ _ _ _ _ => pts_nil) (fun _ _ _ _ _ => pe_c CL hr (by omega) (pa_cons (pv 9) pa_nil)))))) (pss_one ps_no) pss_nil)
    (pss_cons (ps_for PassesOwn.never rfl (pi_enum rfl T.enumerate (pa_cons (pv 2) pa_nil)) (pg_tup rfl (pgs_cons (pg_name (i := 5) nd rfl (Or.inl rfl)) (pgs_cons (pg_name (i := 6) nd rfl (Or.inl rfl)) pgs_nil)))
      (pss_cons (ps_asg (pe_c CR hr (Nat.le_refl _) (pa_cons (pv 6) pa_nil)) (pg_name (i := 7) nd rfl (Or.inl rfl)))
      (pss_cons (ps_if (pt_cmp (pc_isN (pv 7))) (pss_one ps_no) pss_nil)
      (pss_one (ps_expr (p_app K (pv 4) (pv 7)))))))
    (pss_cons (ps_asg (p_of CO hr (by omega) (pa_cons (p_int1s T (p_ixL (K := K) (pv 3) pe_int)) (pa_cons (pe_callTy call_tuple_of rfl T.tuple boot_tuple (pa_cons (pe_slice (sl_list.or sl_anyT) (pv 3) (po_some pe_int) po_none) pa_nil))
        (pa_cons (pe_callTy call_tuple_of rfl T.tuple boot_tuple (pa_cons (pe_lc (own := [("row", 7)]) (g := gName 7) (tt := tYes) rfl nd (pi_list (pv 4)) (blkOk_by (N := ["text", "first", "lines", "head", "rows", "index", "line", "row", "program", "word"]) (sc := defScope (top 60)) (by decide +kernel))
          (fun _ _ _ _ _ => pg_name (i := 7) nd rfl (Or.inl rfl)) (fun _ _ _ _ _ => pts_nil) (fun _ _ _ _ _ => pe_mkS CP hr (by omega) (pv 7))) pa_nil)) pa_nil)))) (pg_name (i := 8) nd rfl (Or.inl rfl)))
    (pss_cons (ps_if (pt_cmpR op_ne (pe_c CW hr hL (pa_cons (pv 8) pa_nil)) (pv 0) (nomark _)) (pss_one ps_no) pss_nil)
    (pss_one (ps_ret (pv 8)))))))))), ?_⟩
  have tl := text_len ok
  have hm3 := ok.m3
  walk_at "rds"
  refine r_isi (ty_str _) kb_str_str ?_
  walk_at "rds"
  refine ⟨⟨_, rfl⟩, ?_⟩
  walk_at "rds"
  refine ⟨_, _, rfl, rfl, by decide +kernel, by rw [sizeLine_eq]; omega, fun p1 hp1 => ?_⟩
  rw [text_split ok]
  have e1 : Ex H (upd H p1 (.lst (((linesL p).map SX.S).map V.str))) := Ex.new hp1
  have w1 : (upd H p1 (.lst (((linesL p).map SX.S).map V.str))) p1 = some (.lst (.str (SX.S (jn (headW p))) :: p.rows.map fun r => wv (jn (lineW r)))) := by
    rw [upd_same]
    unfold linesL
    rw [List.map_cons, List.map_cons, List.map_map, List.map_map]
    rfl
  generalize upd H p1 (.lst (((linesL p).map SX.S).map V.str)) = H1 at *
  refine ⟨p1, _, _, rfl, SqL.of w1, fun p2 hp2 => r_gCons (r_name (r_gCons (r_name (r_gNil ?_))))⟩
  have e2 : Ex H1 (upd H1 p2 (.lst (p.rows.map fun r => wv (jn (lineW r))))) := Ex.new hp2
  have w2 : (upd H1 p2 (.lst (p.rows.map fun r => wv (jn (lineW r))))) p2 = some (.lst (p.rows.map fun r => wv (jn (lineW r)))) := upd_same
  generalize upd H1 p2 (.lst (p.rows.map fun r => wv (jn (lineW r)))) = H2 at *
  dsimp only
  refine r_seq (r_par ?_)
  walk_at "rds"
  refine ⟨⟨_, rfl⟩, ?_⟩
  walk_at "rds"
  have hhl := head_len ok
  have hhl2 := jn_len (headW p)
  refine ⟨_, _, rfl, rfl, by decide +kernel, by rw [SX.S_len, sizeLine_eq]; omega, fun p3 hp3 => ?_⟩
  rw [hd_split (by omega) ok.sg.1]
  have e3 : Ex H2 (upd H2 p3 (.lst ((hdW p).map V.str))) := Ex.new hp3
  have w3 : (upd H2 p3 (.lst ((hdW p).map V.str))) p3 = some (.lst (.str "program" :: .str (SX.S [48 + p.modes]) :: p.sigs.map V.str)) := upd_same
  generalize upd H2 p3 (.lst ((hdW p).map V.str)) = H3 at *
  walk_at "rds"
  refine ⟨Nat.zero_le _, fun p4 hp4 => ⟨_, _, rfl, ?_⟩⟩
  have e4 : Ex H3 (upd H3 p4 (.lst [])) := Ex.new hp4
  have w4 : (upd H3 p4 (.lst [])) p4 = some (.lst []) := upd_same
  generalize upd H3 p4 (.lst []) = H4 at *
  dsimp only
  walk_at "rds"
  refine r_lenL (SqL.of (e4 _ _ w3)) ?_
  walk_at "rds"
  refine r_no (by rw [List.length_cons, List.length_cons]; omega) ?_
  walk_at "rds"
  refine r_ixL (SqL.of (e4 _ _ w3)) r_at0 ?_
  walk_at "rds"
  refine r_ne rfl (r_bl (r_nyes rfl ?_))
  walk_at "rds"
  refine r_ixL (SqL.of (e4 _ _ w3)) r_at1 ?_
  walk_at "rds"
  refine ⟨48 + p.modes, rfl, by omega, by omega, fun H5 e5 => ?_⟩
  walk_at "rds"
  refine .inl (r_slL (k := 2) (SqL.of (e5 _ _ (e4 _ _ w3))) fun p6 H6 hp6 e6 h6 => ?_)
  replace h6 : H6 p6 = some (.lst (p.sigs.map V.str)) := h6
  walk_at "rds"
  refine ⟨p6, rfl, ⟨_, SqL.of h6⟩, lc_pure (over_list (xs := p.sigs.map V.str)) (fun H5 e5 => SqL.of (e5 _ _ h6)) (fun i y _ => y = .bl true) (fun _ _ _ _ _ h => h) (small (by rw [List.length_map]; have := ok.sg.2.2; omega)) (fun i y H7 hi e7 hy Q q => ?_) fun D7 H7 ys hD7 e7 h7 ht hall => ?_⟩
  · obtain ⟨z, hz, rfl⟩ := str_at hy
    refine r_name ⟨rfl, ?_⟩
    walk_at "rds"
    exact ⟨z, rfl, ok.sg.1 z (List.mem_of_getElem? hz), fun H' e => q _ _ e rfl⟩
  walk_at "rds"
  refine r_allT h7 hall ?_
  walk_at "rds"
  refine r_enum ?_
  walk_at "rds"
  have e47 : Ex H3 H7 := ((e4.trans e5).trans e6).trans e7
  have w47 : H7 p4 = some (.lst []) := e7 _ _ (e6 _ _ (e5 _ _ w4))
  refine ⟨p2, _, rfl, SqL.of (e47 _ _ (e3 _ _ w2)), for_over over_enum (fun i σ H' => ∃ o5 o6 o7 o8 o9, σ = [some (.str (txP p)), some (.str (SX.S (jn (headW p)))), some (.ref p2), some (.ref p3), some (.ref p4), o5, o6, o7, o8, o9] ∧ Ex H3 H' ∧ ∃ xs, H' p4 = some (.lst xs) ∧ Pw (fun x r => RwAt K x r H') xs (p.rows.take i)) ⟨none, none, none, none, none, rfl, e47, [], w47, by simpa using Pw.nil⟩ (fun i σ H' ⟨_, _, _, _, _, _, h, _⟩ => SqL.of (h _ _ (e3 _ _ w2))) ?_ ?_⟩
  · rintro i x σ H8 H9 hi ⟨o5, o6, o7, o8, o9, rfl, e8, xs, w8, pw⟩ e9 ⟨T, y, rfl, hT, hy⟩
    rw [List.getElem?_map] at hy
    cases hrr : p.rows[i]? with
    | none => rw [hrr] at hy; cases hy
    | some r =>
      rw [hrr] at hy
      cases (show some (wv (jn (lineW r))) = some y from hy)
      have g : Gd r := ok.gd (List.mem_of_getElem? hrr)
      obtain ⟨b1, b2, b3, b4, b5, b6, b7, b8⟩ := bdT_len g
      refine r_gTup (SqT.of hT) rfl (r_gCons (r_name (r_gCons (r_name (r_gNil ?_)))))
      walk_at "rds"
      refine ⟨r, rfl, b6, b5, by omega, by omega, by omega, by omega, b3, by omega, g.frm, fun q o v H10 e10 f1 f2 f3 => ?_⟩
      walk_at "rds"
      refine r_isN ?_
      walk_at "rds"
      refine r_no (fun z => by cases z) ?_
      walk_at "rds"
      have w10 := e10 _ _ (e9 _ _ w8)
      refine ⟨ty_l w10, ?_⟩
      walk_at "rds"
      have hi2 : i < p.rows.length := (List.getElem?_eq_some_iff.mp hrr).1
      have hxl : xs.length = i := by rw [pw.1, List.length_take]; omega
      have hr10 := ok.rw_.2
      refine ⟨p4, _, _, rfl, rfl, w10, small (by omega), ?_⟩
      have kx : Kx H10 (upd H10 p4 (.lst (xs ++ [.ref q]))) := Kx.upd w10 rfl
      refine ⟨_, _, _, _, _, rfl, Ex.mut ((e8.trans e9).trans e10) hp4, xs ++ [.ref q], upd_same, ?_⟩
      rw [List.take_add_one, hrr]
      exact Pw.app (pw.imp fun x r h => h.kx ((Kx.of (e9.trans e10)).trans kx)) (.one (RwAt.kx kx ⟨q, o, v, rfl, SqT.of f1, f2, f3⟩))
  · rintro σ H8 ⟨o5, o6, o7, o8, o9, rfl, e8, xs, w8, pw⟩
    rw [List.length_map, List.take_length] at pw
    walk_at "rds"
    refine ⟨rfl, ?_⟩
    walk_at "rds"
    refine r_ixL (SqL.of (e8 _ _ w3)) r_at1 ?_
    walk_at "rds"
    refine ⟨_, (p.modes : Nat), rfl, ?_, by rw [SX.S_len, List.length_singleton]; decide, ?_⟩
    · rw [SX.int_S (a := [48 + p.modes]) (by simp; omega) (by simp) (by simp)]
      simp [NumText.digitsVal]
    walk_at "rds"
    refine .inl (r_slL (k := 2) (SqL.of (e8 _ _ w3)) fun p9 H9 hp9 e9 h9 => ?_)
    replace h9 : H9 p9 = some (.lst (p.sigs.map V.str)) := h9
    walk_at "rds"
    refine ⟨p9, _, rfl, .inl ⟨SqL.of h9, fun sa hsa => ?_⟩⟩
    have e10 : Ex H9 (upd H9 sa (.tup (p.sigs.map V.str))) := Ex.new hsa
    have w10 : SqT K (upd H9 sa (.tup (p.sigs.map V.str))) sa (p.sigs.map V.str) := SqT.of upd_same
    generalize upd H9 sa (.tup (p.sigs.map V.str)) = H10 at *
    walk_at "rds"
    have w810 := e10 _ _ (e9 _ _ w8)
    have pw10 := pw.imp fun x r h => RwAt.kx (Kx.of (e9.trans e10)) h
    have hr10 := ok.rw_.2
    refine ⟨p4, rfl, ⟨_, SqL.of w810⟩, lc_own (over_list (xs := xs)) (fun H' e' => SqL.of (e' _ _ w810)) (fun i y G => ∃ r l, p.rows[i]? = some r ∧ PrAtL K C G y r l) (fun i y H H' e ⟨r, l, h1, h2⟩ => ⟨r, l, h1, h2.ex e⟩) (small (by have := pw.1; omega)) (fun i x H11 D11 ys hi e11 hD hDl hx Q q => ?_) fun D11 H11 ys G hD eG eG2 hDl hyl hall => ?_⟩
    · obtain ⟨r, hrr, qa, o, v, rfl, f1, f2, f3⟩ := pw10.2 i x hx
      refine r_name ⟨rfl, ?_⟩
      have okr := ok.ok r (List.mem_of_getElem? hrr)
      refine ⟨_, rfl, qa, _, rfl, .inl (ex_t e11 f1), ?_⟩
      exact pr_made (ex_t e11 f2) (Dp.ex e11 _ _ f3) ok.m1 ok.m3 okr fun x H' l hl e' hpr => q _ _ e' ⟨r, l, hrr, hpr.era (e' _ _ hDl) (ne_of_none hDl hl).symm⟩
    walk_at "rds"
    refine ⟨D11, ys, rfl, .inl ⟨SqL.of hDl, fun pr hpr => ?_⟩⟩
    have e12 : Ex H11 (upd H11 pr (.tup ys)) := Ex.new hpr
    have w12 : SqT K (upd H11 pr (.tup ys)) pr ys := SqT.of upd_same
    generalize upd H11 pr (.tup ys) = H12 at *
    walk_at "rds"
    have x12 : Ex H10 H12 := (eG.trans eG2).trans e12
    refine ⟨sa, pr, ys, p, rfl, ex_t x12 w10, w12, ⟨by rw [hyl, pw.1], fun i y hy => ?_⟩, ok, fun x H13 e13 hpg => ?_⟩
    · obtain ⟨r, l, h1, h2⟩ := hall i y hy
      exact ⟨r, h1, l, h2.ex (eG2.trans e12)⟩
    walk_at "rds"
    refine ⟨x, p, rfl, hpg, ok, fun H14 e14 => ?_⟩
    walk_at "rds"
    refine r_ne rfl (r_bl (r_nyes rfl ?_))
    walk_at "rds"
    exact q x H14 ((((e1.trans e2).trans e3).trans e8).trans ((e9.trans e10).trans (x12.trans (e13.trans e14)))) (hpg.ex e14)
end
end K8
/-! heaps in which some objects (those of M) change; the law's die -/
namespace K8
open PySem PySem.Spec L2 Evl
open PyProof.Rows hiding St
/-- all but the objects of M stay -/
def Exm (M : List Addr) (H H' : Hp) : Prop := ∀ a o, a ∉ M → H a = some o → H' a = some o
theorem Exm.refl (M : List Addr) (H : Hp) : Exm M H H := fun _ _ _ h => h
theorem Exm.trans {M : List Addr} {H H1 H2 : Hp} (a : Exm M H H1) (b : Exm M H1 H2) : Exm M H H2 := fun x o n h => b x o n (a x o n h)
theorem Exm.of {M : List Addr} {H H' : Hp} (e : Ex H H') : Exm M H H' := fun a o _ h => e a o h
theorem Exm.sub {M N : List Addr} {H H' : Hp} (e : Exm M H H') (s : ∀ a ∈ M, a ∈ N) : Exm N H H' := fun a o n h => e a o (fun z => n (s a z)) h
theorem Exm.mut {M : List Addr} {H H' : Hp} {p : Addr} {o : HO} (e : Exm M H H') (h : H p = none) : Exm M H (upd H' p o) := fun a u n ha => by
  rw [upd_ne (ne_of_none ha h)]
  exact e a u n ha
theorem Exm.set {M : List Addr} {H H' : Hp} {p : Addr} {o : HO} (e : Exm M H H') (h : p ∈ M) : Exm M H (upd H' p o) := fun a u n ha => by
  rw [upd_ne fun z => n (by rw [z]; exact h)]
  exact e a u n ha
/-- an object that is no tuple -/
def Mob (H : Hp) (a : Addr) : Prop := ∃ o, H a = some o ∧ stays o = false
theorem Mob.lst {H : Hp} {a : Addr} {xs : List V} (h : H a = some (.lst xs)) : Mob H a := ⟨_, h, rfl⟩
theorem Mob.dK {H : Hp} {a : Addr} {xs : List (Key × V)} (h : H a = some (.dK xs)) : Mob H a := ⟨_, h, rfl⟩
theorem Exm.kx {M : List Addr} {H H' : Hp} (e : Exm M H H') (m : ∀ a ∈ M, Mob H a) : Kx H H' := fun a u h s => by
  refine e a u (fun z => ?_) h
  obtain ⟨o, h1, h2⟩ := m a z
  rw [h] at h1
  cases h1
  rw [h2] at s
  cases s
theorem Mob.ne {H : Hp} {a p : Addr} (m : Mob H a) (h : H p = none) : a ≠ p := by
  obtain ⟨o, h1, _⟩ := m
  exact ne_of_none h1 h
theorem Pw.kx {α : Type} {R : V → α → Hp → Prop} {xs : List V} {gs : List α} {H H' : Hp} (p : Pw (fun y g => R y g H) xs gs) (k : Kx H H') (hR : ∀ y g H H', Kx H H' → R y g H → R y g H') : Pw (fun y g => R y g H') xs gs := p.imp fun y g h => hR y g H H' k h
/-- a comprehension whose elements change the objects of M; S tells how these stand -/
theorem lc_mu {α : Type} {J : It} {n : Nat} {G : Hp → Prop} {Y : Nat → V → Hp → Prop} {g : TG} {te : TE} {vs : List Nat} {σ : L2.St} {H1 : Hp} {Qd : Addr → Hp → Prop} (O : Over J n G Y) (M : List Addr) (hG : ∀ H, Exm M H1 H → G H) (S : List α → Hp → Prop) (R : V → α → Hp → Prop)
    (hS : ∀ gs H H', S gs H → (∀ a ∈ M, H' a = H a) → S gs H') (hM : ∀ gs H, S gs H → ∀ a ∈ M, Mob H a) (hR : ∀ y g H H', Kx H H' → R y g H → R y g H') (h0 : S [] H1) (hn : n < sizeLine)
    (he : ∀ i x H gs, i < n → gs.length = i → Exm M H1 H → S gs H → Y i x H → ∀ Q : VK, (∀ y g' H', Exm M H H' → S (gs ++ [g']) H' → R y g' H' → Q y H') → g x (wipe σ vs) H fun σ2 H2 => wipe σ2 vs = wipe σ vs ∧ te σ2 H2 Q)
    (hd : ∀ D H' ys gs, H1 D = none → Exm M H1 H' → H' D = some (.lst ys) → gs.length = n → S gs H' → Pw (fun y g' => R y g' H') ys gs → Qd D H') : LcB J g tYes te vs σ Qd H1 := fun D hD => by
  have same : ∀ H ys, (∀ a ∈ M, a ≠ D) → ∀ a ∈ M, (upd H D (.lst ys)) a = H a := fun H ys h a ha => upd_ne (h a ha)
  have nM : ∀ a ∈ M, a ≠ D := fun a ha => (hM [] H1 h0 a ha).ne hD
  have nD : D ∉ M := fun z => nM D z rfl
  refine lc_over O (fun i H => Exm M H1 H ∧ ∃ ys gs, H D = some (.lst ys) ∧ gs.length = i ∧ S gs H ∧ Pw (fun y g' => R y g' H) ys gs) ⟨(Exm.refl _ _).mut hD, [], [], upd_same, rfl, hS [] _ _ h0 (same _ _ nM), .nil⟩ (fun i H p => hG H p.1) (fun i x H H' hi p e y => ?_) fun H p => ?_
  · obtain ⟨p1, ys, gs, p2, p3, p4, p5⟩ := p
    have m4 := hM _ _ p4
    have s4 : S gs H' := hS _ _ _ p4 fun a ha => by
      obtain ⟨o, h1, _⟩ := m4 a ha
      rw [h1, e _ _ h1]
    refine he i x H' gs hi p3 (p1.trans (.of e)) s4 y (fun y H4 => ∃ acc, H4 D = some (.lst acc) ∧ acc.length < sizeLine ∧ Exm M H1 (upd H4 D (.lst (acc ++ [y]))) ∧ ∃ ys gs, (upd H4 D (.lst (acc ++ [y]))) D = some (.lst ys) ∧ gs.length = i + 1 ∧ S gs (upd H4 D (.lst (acc ++ [y]))) ∧ Pw (fun y' g' => R y' g' (upd H4 D (.lst (acc ++ [y])))) ys gs) fun z g' H4 e4 s5 r => ?_
    have h4 : H4 D = some (.lst ys) := e4 _ _ nD (e _ _ p2)
    have kx : Kx H4 (upd H4 D (.lst (ys ++ [z]))) := Kx.upd h4 rfl
    have k4 : Kx H' H4 := e4.kx (hM _ _ s4)
    have hl : ys.length = i := by rw [p5.1, p3]
    refine ⟨ys, h4, by omega, ((p1.trans (.of e)).trans e4).mut hD, ys ++ [z], gs ++ [g'], upd_same, by rw [List.length_append, p3]; rfl, hS _ _ _ s5 (same _ _ nM), Pw.app (p5.kx (((Kx.of e).trans k4).trans kx) hR) (.one (hR _ _ _ _ kx r))⟩
  · obtain ⟨p1, ys, gs, p2, p3, p4, p5⟩ := p
    exact hd D H ys gs hD p1 p2 p3 p4 p5
/-! ### the die -/
def DieAt (H : Hp) (d : Addr) : Prop := ∃ a b c : Int, H d = some (.lst [.int a, .int b, .int c])
theorem DieAt.mob {H : Hp} {d : Addr} (h : DieAt H d) : Mob H d := by
  obtain ⟨a, b, c, e⟩ := h
  exact .lst e
theorem DieAt.eq {H H' : Hp} {d : Addr} (h : DieAt H d) (e : H' d = H d) : DieAt H' d := by
  unfold DieAt
  rw [e]
  exact h
theorem DieAt.ex {H H' : Hp} {d : Addr} (h : DieAt H d) (e : Ex H H') : DieAt H' d := by
  obtain ⟨a, b, c, q⟩ := h
  exact ⟨a, b, c, e _ _ q⟩
end K8
/-! the law's numbers, casts, picks, shuffles -/
namespace K8
open PySem PySem.Spec L2 Evl
open PyProof.Rows hiding St
section
variable {X : Cx} {K : PySem.W.Frag} {mg : Str → Option Value} {e e2 : Expr} {ta tb : TE} {p pos : Pos}
theorem op_powW : OpR X (binaryOp .Pow) (rI (fun i j => 0 ≤ j ∧ (Builtin.Int.intBits i : Int) * j ≤ 2 ^ 27) fun i j => .int (i ^ j.toNat)) := opI fun _ _ _ _ _ _ _ hc q => pow_int hc.1 hc.2 q
theorem exm_l {M : List Addr} {H H' : Hp} {a : Addr} {xs : List V} (e : Exm M H H') (n : a ∉ M) (h : SqL K H a xs) : SqL K H' a xs := by
  rcases h with (h | ⟨o, h⟩) | h
  · exact .inl (.inl (e _ _ n h))
  · exact .inl (.inr ⟨o, e _ _ n h⟩)
  · exact .inr h
theorem ei_perm {α : Type} : ∀ {xs : List α} {j : Nat} (h : j < xs.length), (xs[j] :: xs.eraseIdx j).Perm xs
  | [], _, h => absurd h (Nat.not_lt_zero _)
  | a :: r, 0, _ => .refl _
  | a :: r, j + 1, h => (List.Perm.swap a (r[j]'(by simpa using h)) (r.eraseIdx j)).trans ((ei_perm (xs := r) (j := j) (by simpa using h)).cons a)
theorem r_sub {to ti : TE} {t : TSet} {v : V} {σ : L2.St} {H : Hp} {QS : L2.St → Hp → Prop} (q : to σ H fun o H1 => ti σ H1 fun i H2 => t o i v H2 fun H3 => QS σ H3) : gSub to ti t v σ H QS := q
theorem r_setL {p : Addr} {xs : List V} {k : Int} {j : Nat} {v : V} {H : Hp} {R : Hp → Prop} (h : H p = some (.lst xs)) (hj : ixN xs.length k = some j) (q : R (upd H p (.lst (xs.set j v)))) : rSetL (.ref p) (.int k) v H R := ⟨p, xs, k, j, rfl, rfl, h, hj, q⟩
theorem r_rng1 {n : Nat} {H : Hp} {R : It → Hp → Prop} (hn : n ≤ 1000000) (q : R (Itr 0 n) H) : ∃ j : Int, [V.int (n : Int)] = [.int j] ∧ -(2 ^ 62) ≤ j ∧ j < 2 ^ 62 ∧ R (Itr 0 j.toNat) H := ⟨(n : Int), rfl, by omega, by omega, q⟩
theorem r_iR1 {ta : TA} {σ : L2.St} {H : Hp} {R : It → Hp → Prop} (q : ta σ H fun vs H1 => ∃ j : Int, vs = [.int j] ∧ -(2 ^ 62) ≤ j ∧ j < 2 ^ 62 ∧ R (Itr 0 j.toNat) H1) : iRng1 ta σ H R := q
theorem r_cut {te : TE} {σ : L2.St} {H : Hp} {Q : VK} (R : V → Prop) (h : ∀ Q' : VK, (∀ x, R x → Q' x H) → te σ H Q') (k : ∀ x, R x → Q x H) : te σ H Q := h Q k
def rInt1 : List V → Hp → VK → Prop := fun xs H Q => (∃ i, xs = [.int i] ∧ Q (.int i) H) ∨ ∃ k, xs = [.bl k] ∧ Q (.int (if k then 1 else 0)) H
theorem r_int1 {i : Int} {H : Hp} {Q : VK} (q : Q (.int i) H) : rInt1 [V.int i] H Q := .inl ⟨i, rfl, q⟩
theorem r_int1b {k : Bool} {H : Hp} {Q : VK} (q : Q (.int (if k then 1 else 0)) H) : rInt1 [V.bl k] H Q := .inr ⟨k, rfl, q⟩
/-- int(e) -/
theorem p_int1 (T : Txt K mg) (ha : PE X e ta) (hm : X.mg = mg := by rfl) (hg : Gl X "int" := by rfl)
    (he : starEach [e] X.env = (false, eval e X.env) :: starEach [] X.env := by rfl) : PE X (.Call (.Name "int" p) [e] [] pos) (tCB rInt1 (tCons ta tNil)) := by
  subst hm
  exact pe_callTy call_int1 hg T.int boot_int (pa_cons ha pa_nil he) (by decide) (by decide) he
/-- o.pop(i) -/
theorem p_popAt (K : PySem.W.Frag) (ho : PE X e ta) (ha : PE X e2 tb) (hK : X.K = K := by rfl) (hbase : attributeBase e "pop" X.env (eval e X.env) = eval e X.env := by rfl)
    (hfew : ((backTo pos (starEach [e2] X.env)).all (fun x => !x.1) && (backToKw pos (keywordEach [] X.env)).all (fun x => x.1.isSome) && decide ([e2].length + ([] : List Keyword).length + (if ([] : List Keyword).isEmpty then 0 else 1) < 30)) = true := by rfl)
    (hline : (p.endLine == pos.line) = true := by rfl) (hs : starEach [e2] X.env = (false, eval e2 X.env) :: starEach [] X.env := by rfl) : PE X (.Call (.Attribute e "pop" p) [e2] [] pos) (tBM K "list" rPopAt ta (tCons tb tNil)) := by
  subst hK
  exact pe_bm PySem.F.plainAttrs_list PySem.F.slot_list_pop PySem.F.type_list_pop mt_popAt ho (pa_cons ha pa_nil hs) hbase hfew hline hs rfl
/-- e[i] of a list or tuple -/
theorem p_ixS (K : PySem.W.Frag) (ha : PE X e ta) (hb : PE X e2 tb) (hs : PlainIx e2 := by exact fun _ _ => rfl) (hK : X.K = K := by rfl) : PE X (.Subscript e e2 pos) (tOp (fun x y H Q => rIxL K x y H Q ∨ rIxT K x y H Q) ta tb) := by
  subst hK
  exact pe_ix (ix_list.or ix_tup) ha hb hs
end
section
variable {P : Program} {w : World} {K : PySem.W.Frag} {mg : Str → Option Value} {base : Heap}
def spNums (K : PySem.W.Frag) : Sp := fun vs H Q _ => ∃ (a : Addr) (ns : List Int) (i : Nat), vs = [.ref a, .int (i : Nat)] ∧ SqL K H a (ns.map V.int) ∧ ∀ p H', H p = none → Ex H H' → DieAt H' p → Q (.ref p) H'
theorem c_numbers (D : Dfn K mg "_law_numbers" (top 62) ["_law_script", "_law_at"]) (T : Txt K mg) : Cal P w K mg base 1 "_law_numbers" (spNums K) := by
  refine D.cal (N := ["_law_script", "_law_at", "_law_cell", "_law_whole", "_law_mixed"]) (by decide +kernel) (fun vs H Q E h => ?_) fun f cdv A outer s H vs Q E hr nd h => ?_
  · obtain ⟨a, ns, i, rfl, _⟩ := h
    rfl
  obtain ⟨a, ns, i, rfl, ha, q⟩ := h
  refine ⟨_, pss_cons (ps_asg (pe_ifExp (pt_cmpR op_lt (pv 1) (p_len T (pv 0)) (nomark _)) (p_ixL (K := K) (pv 0) (pv 1)) (pe_op op_add (pe_op op_mul pe_int (pv 1)) pe_int)) (pg_name (i := 2) nd rfl (Or.inl rfl)))
    (pss_cons (ps_asg (pe_op op_mod (p_int1 T (pe_callB call_abs rfl T.abs boot_abs (pa_cons (pv 2) pa_nil))) (pe_op op_powW (pe_op op_pow pe_int pe_int) pe_int)) (pg_name (i := 3) nd rfl (Or.inl rfl)))
    (pss_cons (ps_asg (pe_op op_add (pe_op op_add (pe_op op_add (pe_op op_mul (pv 3) pe_int) (pe_op op_mul pe_int (pv 1))) (pe_op op_mul pe_int (p_int1 T (pe_cmpR op_lt (pv 2) pe_int (nomark _))))) pe_int) (pg_name (i := 4) nd rfl (Or.inl rfl)))
    (pss_one (ps_ret (pe_lst (pa_cons (pe_callB (call_max2 rfl) rfl T.max boot_max (pa_cons pe_int (pa_cons (pe_op op_sub (pv 3) (pe_op op_pow pe_int pe_int)) pa_nil))) (pa_cons (pe_op op_mod (p_int1 T (pv 4)) pe_int) (pa_cons pe_int pa_nil)))))))), ?_⟩
  refine r_seq (r_asg (r_cut (fun x => ∃ c : Int, x = .int c) (fun Q' k => ?_) ?_))
  · walk_at "rds"
    refine r_lenL ha ?_
    walk_at "rds"
    by_cases hi : i < ns.length
    · refine r_yes (by rw [List.length_map]; omega) ?_
      walk_at "rds"
      exact r_ixL ha (atI_nat (j := i) (by rw [List.getElem?_map, List.getElem?_eq_getElem hi]; rfl)) (k _ ⟨_, rfl⟩)
    · refine r_no (by rw [List.length_map]; omega) ?_
      walk_at "rds"
      refine r_I (.inl ⟨by decide, by decide⟩) ?_
      walk_at "rds"
      exact k _ ⟨_, rfl⟩
  rintro _ ⟨c, rfl⟩
  refine r_name ?_
  dsimp only
  refine r_seq (r_asg (r_cut (fun x => ∃ c : Int, x = .int c) (fun Q' k => ?_) ?_))
  · walk_at "rds"
    refine ⟨c, rfl, ?_⟩
    walk_at "rds"
    refine r_int1 ?_
    walk_at "rds"
    refine r_I ⟨by decide, by decide, by decide⟩ ?_
    walk_at "rds"
    refine r_I ⟨by decide, by decide +kernel⟩ ?_
    walk_at "rds"
    refine r_I (by decide +kernel) ?_
    exact k _ ⟨_, rfl⟩
  rintro _ ⟨m, rfl⟩
  refine r_name ?_
  dsimp only
  refine r_seq (r_asg (r_cut (fun x => ∃ c : Int, x = .int c) (fun Q' k => ?_) ?_))
  · walk_at "rds"
    refine r_I (.inr ⟨by decide, by decide⟩) ?_
    walk_at "rds"
    refine r_I (.inl ⟨by decide, by decide⟩) ?_
    walk_at "rds"
    refine r_int1b ?_
    walk_at "rds"
    refine r_I (.inl ⟨by decide, by decide⟩) ?_
    walk_at "rds"
    exact k _ ⟨_, rfl⟩
  rintro _ ⟨z, rfl⟩
  walk_at "rds"
  refine r_I ⟨by decide, by decide, by decide⟩ ?_
  walk_at "rds"
  refine ⟨_, _, rfl, ?_⟩
  walk_at "rds"
  refine r_int1 ?_
  walk_at "rds"
  refine r_I (by decide) ?_
  walk_at "rds"
  refine ⟨(by decide : (3 : Nat) ≤ sizeLine), fun p hp => ?_⟩
  exact q p _ hp (Ex.new hp) ⟨_, _, _, upd_same⟩
/-- a number below n -/
def spCast : Sp := fun vs H Q _ => ∃ (d : Addr) (n : Nat), vs = [.ref d, .int (n : Nat)] ∧ DieAt H d ∧ 1 ≤ n ∧ n ≤ 1000000 ∧ ∀ (j : Nat) H', j < n → Exm [d] H H' → DieAt H' d → Q (.int (j : Nat)) H'
theorem c_cast (D : Dfn K mg "_law_cast" (top 63) ["_law_die", "_law_total"]) (T : Txt K mg) : Cal P w K mg base 1 "_law_cast" spCast := by
  refine D.cal (N := ["_law_die", "_law_total", "_law_found", "_law_one", "_law_two"]) (by decide +kernel) (fun vs H Q E h => ?_) fun f cdv A outer s H vs Q E hr nd h => ?_
  · obtain ⟨d, n, rfl, _⟩ := h
    rfl
  obtain ⟨d, n, rfl, ⟨a, b, c, hd⟩, h1, h2, q⟩ := h
  refine ⟨_, pss_cons (ps_if (pt_cmpR op_gt (p_ixL (K := K) (pv 0) pe_int) pe_int (nomark _))
      (pss_cons (ps_asg (pe_op op_mod (p_int1 T (p_ixL (K := K) (pv 0) pe_int)) (pv 1)) (pg_name (i := 2) nd rfl (Or.inl rfl)))
      (pss_cons (ps_asg (pe_op op_fdivN (p_ixL (K := K) (pv 0) pe_int) (pv 1)) (pg_sub (pv 0) pe_int L2.set_list))
      (pss_one (ps_ret (pv 2))))) pss_nil)
    (pss_cons (ps_asg (pe_op op_add (p_ixL (K := K) (pv 0) pe_int) pe_int) (pg_sub (pv 0) pe_int L2.set_list))
    (pss_cons (ps_asg (pe_op op_mod (p_int1 T (pe_op op_add (p_ixL (K := K) (pv 0) pe_int) (pe_op op_mul pe_int (p_ixL (K := K) (pv 0) pe_int)))) pe_int) (pg_name (i := 3) nd rfl (Or.inl rfl)))
    (pss_cons (ps_asg (pe_op op_add (pe_op op_mul (pe_op op_mod (p_int1 T (pe_op op_mul (pv 3) (pv 3))) pe_int) (pv 3)) (pe_op op_mul pe_int (p_ixL (K := K) (pv 0) pe_int))) (pg_name (i := 4) nd rfl (Or.inl rfl)))
    (pss_one (ps_ret (pe_op op_mod (p_int1 T (pe_op op_fdiv (pe_op op_mod (p_int1 T (pe_op op_add (pv 4) (p_ixL (K := K) (pv 0) pe_int))) pe_int) pe_int)) (pv 1))))))), ?_⟩
  have md : ∀ x : Int, ∃ j : Nat, j < n ∧ x % (n : Int) = (j : Nat) := fun x => by
    have h3 := Int.emod_nonneg x (show (n : Int) ≠ 0 by omega)
    have h4 := Int.emod_lt_of_pos x (show (0 : Int) < n by omega)
    exact ⟨(x % (n : Int)).toNat, by omega, by omega⟩
  walk_at "rds"
  refine r_ixL (SqL.of hd) r_at0 ?_
  walk_at "rds"
  by_cases h0 : a > 0
  · refine r_yes h0 ?_
    walk_at "rds"
    refine r_ixL (SqL.of hd) r_at0 ?_
    walk_at "rds"
    refine r_int1 ?_
    walk_at "rds"
    refine r_I (by omega) ?_
    walk_at "rds"
    refine r_ixL (SqL.of hd) r_at0 ?_
    walk_at "rds"
    refine r_I ⟨by omega, by omega⟩ ?_
    refine r_sub ?_
    walk_at "rds"
    refine r_setL hd rfl ?_
    dsimp only
    walk_at "rds"
    obtain ⟨j, hj, e⟩ := md a
    rw [e]
    exact q j _ hj ((Exm.refl _ _).set (List.mem_singleton.mpr rfl)) ⟨_, _, _, upd_same⟩
  · refine r_no h0 ?_
    walk_at "rds"
    dsimp only
    walk_at "rds"
    refine r_ixL (SqL.of hd) r_at2 ?_
    walk_at "rds"
    refine r_sub ?_
    walk_at "rds"
    refine r_setL (j := 2) hd rfl ?_
    have hd2 : (upd H d (.lst ([V.int a, V.int b, V.int c].set 2 (.int (c + 1))))) d = some (.lst [.int a, .int b, .int (c + 1)]) := upd_same
    have e2 : Exm [d] H (upd H d (.lst ([V.int a, V.int b, V.int c].set 2 (.int (c + 1))))) := (Exm.refl _ _).set (List.mem_singleton.mpr rfl)
    generalize upd H d (.lst ([V.int a, V.int b, V.int c].set 2 (.int (c + 1)))) = H1 at *
    refine r_seq (r_asg (r_cut (fun x => ∃ y : Int, x = .int y ∧ 0 ≤ y ∧ y < 2305843009213693879) (fun Q' k => ?_) ?_))
    · walk_at "rds"
      refine r_ixL (SqL.of hd2) r_at1 ?_
      walk_at "rds"
      refine r_ixL (SqL.of hd2) r_at2 ?_
      walk_at "rds"
      refine r_I (.inl ⟨by decide, by decide⟩) ?_
      walk_at "rds"
      refine r_int1 ?_
      walk_at "rds"
      refine r_I (by decide) (k _ ⟨_, rfl, Int.emod_nonneg _ (by decide), Int.emod_lt_of_pos _ (by decide)⟩)
    rintro _ ⟨y, rfl, y0, y1⟩
    refine r_name ?_
    dsimp only
    refine r_seq (r_asg (r_cut (fun x => ∃ y : Int, x = .int y) (fun Q' k => ?_) ?_))
    · walk_at "rds"
      refine r_I (.inl ⟨by omega, by omega⟩) ?_
      walk_at "rds"
      refine r_int1 ?_
      walk_at "rds"
      refine r_I (by decide) ?_
      walk_at "rds"
      refine r_I (.inr ⟨by omega, by omega⟩) ?_
      walk_at "rds"
      refine r_ixL (SqL.of hd2) r_at2 ?_
      walk_at "rds"
      refine r_I (.inl ⟨by decide, by decide⟩) ?_
      walk_at "rds"
      exact k _ ⟨_, rfl⟩
    rintro _ ⟨z, rfl⟩
    walk_at "rds"
    refine r_ixL (SqL.of hd2) r_at1 ?_
    walk_at "rds"
    refine r_int1 ?_
    walk_at "rds"
    refine r_I (by decide) ?_
    walk_at "rds"
    refine r_I ⟨by decide, by decide⟩ ?_
    walk_at "rds"
    refine r_int1 ?_
    walk_at "rds"
    refine r_I (by omega) ?_
    obtain ⟨j, hj, e⟩ := md ((z + b) % 8796093022141 / 64)
    rw [e]
    exact q j _ hj e2 ⟨_, _, _, hd2⟩
/-- one of the items -/
def spPick (K : PySem.W.Frag) : Sp := fun vs H Q _ => ∃ (d p : Addr) (xs : List V), vs = [.ref d, .ref p] ∧ DieAt H d ∧ ((SqL K H p xs ∧ p ≠ d) ∨ SqT K H p xs) ∧ xs ≠ [] ∧ xs.length ≤ 1000 ∧ ∀ x H', x ∈ xs → Exm [d] H H' → DieAt H' d → Q x H'
theorem c_pick (D : Dfn K mg "_law_pick" (top 64) ["_law_die", "_law_items"]) (T : Txt K mg) (C : Cal P w K mg base 1 "_law_cast" spCast) : Cal P w K mg base 2 "_law_pick" (spPick K) := by
  refine D.cal (N := ["_law_die", "_law_items"]) (by decide +kernel) (fun vs H Q E h => ?_) fun f cdv A outer s H vs Q E hr nd h => ?_
  · obtain ⟨d, p, xs, rfl, _⟩ := h
    rfl
  obtain ⟨d, p, xs, rfl, hd, hp, hne, hl, q⟩ := h
  refine ⟨_, pss_one (ps_ret (p_ixS K (pv 1) (pe_c C hr (by decide) (pa_cons (pv 0) (pa_cons (p_len T (pv 1)) pa_nil))))), ?_⟩
  have hpos : 1 ≤ xs.length := List.length_pos_iff.mpr hne
  walk_at "rds"
  have go : spCast [.ref d, .int (xs.length : Nat)] H (fun y H2 => rIxL K (.ref p) y H2 Q ∨ rIxT K (.ref p) y H2 Q) E0 := by
    refine ⟨d, xs.length, rfl, hd, hpos, by omega, fun j H' hj e hd' => ?_⟩
    have hx : xs[j]? = some xs[j] := List.getElem?_eq_getElem hj
    rcases hp with ⟨hp, n⟩ | hp
    · exact .inl (r_ixL (exm_l e (fun z => n (List.mem_singleton.mp z)) hp) (atI_nat hx) (q _ _ (List.getElem_mem hj) e hd'))
    · exact .inr (r_ixT (kx_t (e.kx fun a ha => by rw [List.mem_singleton.mp ha]; exact hd.mob) hp) (atI_nat hx) (q _ _ (List.getElem_mem hj) e hd'))
  rcases hp with ⟨hp, n⟩ | hp
  · refine r_lenL hp ?_
    walk_at "rds"
    exact go
  · refine r_lenT hp ?_
    walk_at "rds"
    exact go
/-- the items in some order -/
def spShuf (K : PySem.W.Frag) : Sp := fun vs H Q _ => ∃ (d p : Addr) (xs : List V), vs = [.ref d, .ref p] ∧ DieAt H d ∧ SqL K H p xs ∧ p ≠ d ∧ xs.length ≤ 1000 ∧ ∀ l ys H', ys.Perm xs → H l = none → Exm [d] H H' → DieAt H' d → H' l = some (.lst ys) → Q (.ref l) H'
theorem c_shuffle (D : Dfn K mg "_law_shuffle" (top 65) ["_law_die", "_law_items"]) (T : Txt K mg) (C : Cal P w K mg base 1 "_law_cast" spCast) : Cal P w K mg base 2 "_law_shuffle" (spShuf K) := by
  refine D.cal (N := ["_law_die", "_law_items", "_law_pool", "_law_turn"]) (by decide +kernel) (fun vs H Q E h => ?_) fun f cdv A outer s H vs Q E hr nd h => ?_
  · obtain ⟨d, p, xs, rfl, _⟩ := h
    rfl
  obtain ⟨d, p, xs, rfl, hd, hp, hpd, hl, q⟩ := h
  refine ⟨_, pss_cons (ps_asg (pe_callTy call_list_of rfl T.list boot_list (pa_cons (pv 1) pa_nil)) (pg_name (i := 2) nd rfl (Or.inr rfl)))
    (pss_one (ps_ret (pe_lc (own := [("_law_turn", 3)]) (g := gName 3) (tt := tYes) rfl nd (pi_range1 rfl T.range (pa_cons (p_len T (pv 1)) pa_nil)) (blkOk_by (N := ["_law_die", "_law_items", "_law_pool", "_law_turn"]) (sc := defScope (top 65)) (by decide +kernel))
      (fun _ _ _ _ _ => pg_name (i := 3) nd rfl (Or.inl rfl)) (fun _ _ _ _ _ => pts_nil) (fun _ _ _ _ _ => p_popAt K (pv 2) (pe_c C hr (by decide) (pa_cons (pv 0) (pa_cons (p_len T (pv 2)) pa_nil))))))), ?_⟩
  walk_at "rds"
  refine ⟨p, xs, rfl, .inl hp, fun l hl0 => ?_⟩
  have hld := hd.ex (Ex.new (o := .lst xs) hl0)
  have hp2 := ex_l (Ex.new (o := .lst xs) hl0) hp
  have npl : d ≠ l := hd.mob.ne hl0
  have e1 : Exm [d, l] H (upd H l (.lst xs)) := (Exm.of (Ex.new hl0))
  have hl2 : (upd H l (.lst xs)) l = some (.lst xs) := upd_same
  have e1' : Ex H (upd H l (.lst xs)) := Ex.new hl0
  generalize upd H l (.lst xs) = H1 at *
  walk_at "rds"
  refine r_iR1 ?_
  walk_at "rds"
  refine r_lenL hp2 ?_
  walk_at "rds"
  refine ⟨(xs.length : Nat), rfl, by omega, by omega, ?_⟩
  refine lc_mu (n := xs.length) over_range [d, l] (fun _ _ => trivial) (fun gs H => DieAt H d ∧ ∃ rest, H l = some (.lst rest) ∧ (gs ++ rest).Perm xs) (fun y g _ => y = g) (fun gs H H' ⟨h1, r, h2, h3⟩ e => ⟨h1.eq (e d (by simp)), r, by rw [e l (by simp)]; exact h2, h3⟩) (fun gs H ⟨h1, r, h2, h3⟩ a ha => ?_) (fun _ _ _ _ _ h => h) ⟨hld, xs, hl2, .refl _⟩ (small (by omega)) (fun i x H2 gs hi hg e2 ⟨h1, r, h2, h3⟩ hx Q q => ?_) fun D H2 ys gs hD e2 h2 hg ⟨h3, r, h4, h5⟩ hp => ?_
  · rcases List.mem_cons.mp ha with rfl | ha
    · exact h1.mob
    · rw [List.mem_singleton.mp ha]; exact .lst h2
  · refine r_name ⟨rfl, ?_⟩
    have hrl : i + r.length = xs.length := by rw [← hg, ← List.length_append, h3.length_eq]
    walk_at "rds"
    refine ⟨ty_l h2, ?_⟩
    walk_at "rds"
    refine r_lenL (SqL.of h2) ?_
    walk_at "rds"
    refine ⟨d, r.length, rfl, h1, by omega, by omega, fun j H3 hj e3 h3' => ?_⟩
    walk_at "rds"
    have nl : l ∉ [d] := fun z => npl (List.mem_singleton.mp z).symm
    have h2' := e3 _ _ nl h2
    refine ⟨l, r, j, j, r[j], rfl, rfl, h2', by omega, by omega, ?_, List.getElem?_eq_getElem hj, ?_⟩
    · unfold seqIndex?
      simp
      omega
    · refine q _ _ _ ((e3.sub (by simp)).set (by simp)) ⟨h3'.eq (upd_ne npl), _, upd_same, ?_⟩ rfl
      refine List.Perm.trans ?_ h3
      rw [List.append_assoc]
      refine List.Perm.append_left _ ?_
      exact ei_perm hj
  · have hrl : r = [] := List.eq_nil_of_length_eq_zero (by have := h5.length_eq; rw [List.length_append, hg] at this; omega)
    subst hrl
    have hys : ys = gs := List.ext_getElem? fun i => by
      cases e : ys[i]? with
      | none => rw [List.getElem?_eq_none_iff] at e; rw [eq_comm, List.getElem?_eq_none_iff, ← hp.1]; exact e
      | some y => obtain ⟨g, e1, rfl⟩ := hp.2 i y e; exact e1.symm
    rw [hys] at h2
    rw [List.append_nil] at h5
    refine q D gs H2 h5 (ex_none e1' hD) (fun a o n h => ?_) h3 h2
    exact e2 a o (fun z => by
      rcases List.mem_cons.mp z with rfl | z
      · exact n (by simp)
      · rw [List.mem_singleton.mp z, hl0] at h; cases h) (e1' _ _ h)
end
end K8
/-! the law's own list of the terms in a term -/
namespace K8
open PySem PySem.Spec L2 Evl
open PyProof.Rows hiding St
theorem dpa_inv {K : PySem.W.Frag} {H : Hp} {vs : List V} {d : PyData} {ds : List PyData} (h : DpAll K H vs (d :: ds)) : ∃ v r, vs = v :: r ∧ Dp K H v d ∧ DpAll K H r ds := by
  cases h with
  | cons a b => exact ⟨_, _, rfl, a, b⟩
theorem dpa_inv0 {K : PySem.W.Frag} {H : Hp} {vs : List V} (h : DpAll K H vs []) : vs = [] := by
  cases h
  rfl
def tlD : Tm → List PyData
  | .act w tab => [.str w, .tuple (tab.map entD)]
  | .nam _ x => [.str x]
  | .ser _ ts => toDs ts
  | .cal x ts => .str x :: toDs ts
  | .sco x t => [.str x, toD t]
  | .ans ss ts t => [.tuple (prs ts ss), toD t]
theorem dp_tl {K : PySem.W.Frag} {H : Hp} {v : V} {t : Tm} (hd : Dp K H v (toD t)) : ∃ a r, v = .ref a ∧ SqT K H a (.str (hd1 t) :: r) ∧ DpAll K H r (tlD t) := by
  have h : toD t = .tuple (.str (hd1 t) :: tlD t) := by cases t <;> simp [toD, tlD, hd1]
  rw [h] at hd
  obtain ⟨a, xs, rfl, hs, ha⟩ := dp_tup hd
  cases ha with
  | cons h1 h2 =>
    cases h1
    exact ⟨a, _, rfl, hs, h2⟩
theorem prs_len2 : ∀ {ts : List Tm} {ss : List Str}, ss.length = ts.length → (prs ts ss).length = ss.length
  | [], [], _ => by simp [prs]
  | [], _ :: _, h => by cases h
  | _ :: _, [], h => by cases h
  | t :: ts, s :: ss, h => by simp [prs, prs_len2 (ts := ts) (ss := ss) (by simpa using h)]
theorem prs_at3 : ∀ {ts : List Tm} {ss : List Str} {i : Nat} {s : Str} {t : Tm}, ss[i]? = some s → ts[i]? = some t → (prs ts ss)[i]? = some (.tuple [.str s, toD t])
  | [], _, i, _, _, _, h => by simp at h
  | _ :: _, [], i, _, _, h, _ => by simp at h
  | t :: ts, s :: ss, 0, _, _, h1, h2 => by cases h1; cases h2; simp [prs]
  | t :: ts, s :: ss, i + 1, _, _, h1, h2 => by
    rw [prs]
    exact prs_at3 (ts := ts) (ss := ss) (i := i) h1 h2
/-- in (a, b, ..), texts -/
theorem r_inD {K : PySem.W.Frag} {H : Hp} {z : Str} {zs : List Str} {Q : VK} (hl : zs.length ≤ 100000) (q : ∀ H', Ex H H' → Q (.bl (decide (z ∈ zs))) H') : (zs.map V.str).length ≤ sizeLine ∧ ∀ p, H p = none → rIn K false (.str z) (.ref p) (upd H p (.tup (zs.map V.str))) Q :=
  ⟨Nat.le_of_lt (small (by rw [List.length_map]; exact hl)), fun p hp => r_inT (SqT.of upd_same) (q _ (Ex.new hp))⟩
section
variable {P : Program} {w : World} {K : PySem.W.Frag} {mg : Str → Option Value} {base : Heap}
theorem c_law_inside (D : Dfn K mg "_law_inside" (top 66) ["_law_term"]) (T : Txt K mg) : Cal P w K mg base 1 "_law_inside" (spIn K) := by
  refine D.cal (N := ["_law_term", "_law_pair"]) (by decide +kernel) (fun vs H Q E h => ?_) fun f cdv A outer s H vs Q E hr nd h => ?_
  · obtain ⟨v, t, rfl, _⟩ := h
    rfl
  obtain ⟨v, t, rfl, hd, hf, q⟩ := h
  refine ⟨_, pss_cons (ps_if (pt_cmpR op_in_seq (p_ixT (K := K) (pv 0) pe_int) (pe_tup (pa_cons pe_str (pa_cons pe_str (pa_cons pe_str (pa_cons pe_str pa_nil))))) rfl)
        (pss_one (ps_ret (pe_callTy call_list_of rfl T.list boot_list (pa_cons (pe_slice sl_anyT (pv 0) (po_some pe_int) po_none) pa_nil)))) pss_nil)
    (pss_cons (ps_if (PW.pt (pw_or (pt_cmpR op_eq (p_ixT (K := K) (pv 0) pe_int) pe_str (nomark _)) (pw_or1 (pt_cmpR op_eq (p_ixT (K := K) (pv 0) pe_int) pe_str (nomark _)))))
        (pss_one (ps_ret (pe_callTy call_list_of rfl T.list boot_list (pa_cons (pe_slice sl_anyT (pv 0) (po_some pe_int) po_none) pa_nil)))) pss_nil)
    (pss_one (ps_ret (pe_ifExp (pt_cmpR op_eq (p_ixT (K := K) (pv 0) pe_int) pe_str (nomark _))
        (pe_op op_cat (pe_lc (own := [("_law_pair", 1)]) (g := gName 1) (tt := tYes) rfl nd (pi_tup (p_ixT (K := K) (pv 0) pe_int)) (blkOk_by (N := ["_law_term", "_law_pair"]) (sc := defScope (top 66)) (by decide +kernel))
          (fun _ _ _ _ _ => pg_name (i := 1) nd rfl (Or.inl rfl)) (fun _ _ _ _ _ => pts_nil) (fun _ _ _ _ _ => p_ixT (K := K) (pv 1) pe_int)) (pe_lst (pa_cons (p_ixT (K := K) (pv 0) pe_int) pa_nil))) (pe_lst pa_nil))))), ?_⟩
  obtain ⟨a, r, rfl, hs, hr'⟩ := dp_tl hd
  walk_at "rds"
  refine r_ixT hs r_at0 ?_
  walk_at "rds"
  refine r_inD (zs := ["seq", "or", "and", "case"]) (by decide) fun H1 e1 => ?_
  replace hs := ex_t e1 hs
  replace hr' := DpAll.ex e1 _ _ hr'
  replace q := fun l H' xs hl e => q l H' xs (ex_none e1 hl) (e1.trans e)
  clear e1
  refine r_bl ?_
  have two : ∀ (n1 : hd1 t ∉ (["seq", "or", "and", "case"] : List Str)), hd1 t = hd1 t := fun _ => rfl
  cases t with
  | ser k ts =>
    refine r_yes (by show k ∈ _; rcases hf with rfl | ⟨rfl | rfl, _⟩ | ⟨rfl, _⟩ <;> decide +kernel) ?_
    walk_at "rds"
    refine r_slT (k := 1) hs fun p H2 e2 h2 => ?_
    walk_at "rds"
    refine ⟨p, r, rfl, .inr h2, fun l hl => ?_⟩
    exact q l _ r (ex_none e2 hl) (e2.trans (Ex.new hl)) upd_same (DpAll.ex (e2.trans (Ex.new hl)) _ _ hr')
  | cal x ts =>
    refine r_no (by show ("call" : Str) ∉ _; decide +kernel) ?_
    walk_at "rds"
    refine r_ixT hs r_at0 ?_
    walk_at "rds"
    refine r_eq rfl (r_bl (r_yes rfl ?_))
    walk_at "rds"
    refine r_slT (k := 2) hs fun p H2 e2 h2 => ?_
    walk_at "rds"
    cases hr' with
    | cons g1 g2 =>
      refine ⟨p, _, rfl, .inr h2, fun l hl => ?_⟩
      exact q l _ _ (ex_none e2 hl) (e2.trans (Ex.new hl)) upd_same (DpAll.ex (e2.trans (Ex.new hl)) _ _ g2)
  | sco x u =>
    refine r_no (by show ("scope" : Str) ∉ _; decide +kernel) ?_
    walk_at "rds"
    refine r_ixT hs r_at0 ?_
    walk_at "rds"
    refine r_eq rfl (r_bl (r_no (fun z => absurd (show ("scope" : Str) = "call" from V.str.inj z) (by decide +kernel)) ?_))
    walk_at "rds"
    refine r_ixT hs r_at0 ?_
    walk_at "rds"
    refine r_eq rfl (r_bl (r_yes rfl ?_))
    walk_at "rds"
    refine r_slT (k := 2) hs fun p H2 e2 h2 => ?_
    walk_at "rds"
    cases hr' with
    | cons g1 g2 =>
      refine ⟨p, _, rfl, .inr h2, fun l hl => ?_⟩
      exact q l _ _ (ex_none e2 hl) (e2.trans (Ex.new hl)) upd_same (by simp only [kids, toDs]; exact DpAll.ex (e2.trans (Ex.new hl)) _ _ g2)
  | act w tab =>
    refine r_no (by show ("do" : Str) ∉ _; decide +kernel) ?_
    walk_at "rds"
    refine r_ixT hs r_at0 ?_
    walk_at "rds"
    refine r_eq rfl (r_bl (r_no (fun z => absurd (show ("do" : Str) = "call" from V.str.inj z) (by decide +kernel)) ?_))
    walk_at "rds"
    refine r_ixT hs r_at0 ?_
    walk_at "rds"
    refine r_eq rfl (r_bl (r_no (fun z => absurd (show ("do" : Str) = "scope" from V.str.inj z) (by decide +kernel)) ?_))
    walk_at "rds"
    refine r_ixT hs r_at0 ?_
    walk_at "rds"
    refine r_eq rfl (r_bl (r_no (fun z => absurd (show ("do" : Str) = "answer" from V.str.inj z) (by decide +kernel)) ?_))
    walk_at "rds"
    refine ⟨Nat.zero_le _, fun l hl => ?_⟩
    exact q l _ [] hl (Ex.new hl) upd_same (by simp only [kids, toDs]; exact .nil)
  | nam k x =>
    have hk : k ∉ (["seq", "or", "and", "case", "call", "scope", "answer"] : List Str) := by rcases hf.2 with rfl | rfl | rfl <;> decide +kernel
    simp only [List.mem_cons, List.not_mem_nil, or_false, not_or] at hk
    obtain ⟨n1, n2, n3, n4, n5, n6, n7⟩ := hk
    refine r_no (by show k ∉ _; simp only [List.mem_cons, List.not_mem_nil, or_false, not_or]; exact ⟨n1, n2, n3, n4⟩) ?_
    walk_at "rds"
    refine r_ixT hs r_at0 ?_
    walk_at "rds"
    refine r_eq rfl (r_bl (r_no (fun z => n5 (V.str.inj z)) ?_))
    walk_at "rds"
    refine r_ixT hs r_at0 ?_
    walk_at "rds"
    refine r_eq rfl (r_bl (r_no (fun z => n6 (V.str.inj z)) ?_))
    walk_at "rds"
    refine r_ixT hs r_at0 ?_
    walk_at "rds"
    refine r_eq rfl (r_bl (r_no (fun z => n7 (V.str.inj z)) ?_))
    walk_at "rds"
    refine ⟨Nat.zero_le _, fun l hl => ?_⟩
    exact q l _ [] hl (Ex.new hl) upd_same (by simp only [kids, toDs]; exact .nil)
  | ans ss ts u =>
    refine r_no (by show ("answer" : Str) ∉ _; decide +kernel) ?_
    walk_at "rds"
    refine r_ixT hs r_at0 ?_
    walk_at "rds"
    refine r_eq rfl (r_bl (r_no (fun z => absurd (show ("answer" : Str) = "call" from V.str.inj z) (by decide +kernel)) ?_))
    walk_at "rds"
    refine r_ixT hs r_at0 ?_
    walk_at "rds"
    refine r_eq rfl (r_bl (r_no (fun z => absurd (show ("answer" : Str) = "scope" from V.str.inj z) (by decide +kernel)) ?_))
    walk_at "rds"
    refine r_ixT hs r_at0 ?_
    walk_at "rds"
    refine r_eq rfl (r_bl (r_yes rfl ?_))
    obtain ⟨v1, r1, rfl, g1, g2⟩ := dpa_inv hr'
    obtain ⟨vu, r2, rfl, g4, g3⟩ := dpa_inv g2
    obtain rfl := dpa_inv0 g3
    obtain ⟨pa, ps, rfl, hps, hpd⟩ := dp_tup g1
    walk_at "rds"
    refine r_ixT hs r_at1 ?_
    obtain ⟨l1, l2, l3, _⟩ := hf
    have hpl : ps.length = ts.length := by rw [hpd.len, prs_len2 l1, l1]
    refine ⟨pa, rfl, ⟨_, hps⟩, lc_pure (over_tup (xs := ps)) (fun H2 e2 => ex_t e2 hps) (fun i y H => ∃ u, ts[i]? = some u ∧ Dp K H y (toD u)) (fun _ _ _ _ kx ⟨u, h1, h2⟩ => ⟨u, h1, Dp.kx kx _ _ h2 (noL_toD _)⟩) (small (by omega)) (fun i y H2 hi e2 hy Q q => ?_) fun D H2 ys hD e2 h2 ht hall => ?_⟩
    · obtain ⟨d, hd1, hd2⟩ := hpd.at hy
      have hti : i < ts.length := by omega
      have hsi : i < ss.length := by omega
      rw [prs_at3 (List.getElem?_eq_getElem hsi) (List.getElem?_eq_getElem hti)] at hd1
      cases hd1
      obtain ⟨b, ws, rfl, hb, hbd⟩ := dp_tup hd2
      cases hbd with
      | cons k1 k2 =>
        cases k2 with
        | cons k2 k3 =>
          cases k3
          refine r_name ⟨rfl, ?_⟩
          walk_at "rds"
          exact r_ixT (ex_t e2 hb) r_at1 (q _ _ (Ex.refl _) ⟨_, List.getElem?_eq_getElem hti, Dp.ex e2 _ _ k2⟩)
    walk_at "rds"
    refine r_ixT (ex_t e2 hs) r_at2 ?_
    walk_at "rds"
    refine ⟨(by decide : (1 : Nat) ≤ sizeLine), fun p3 hp3 => ?_⟩
    have e3 := Ex.new (o := .lst [vu]) hp3
    refine ⟨D, p3, ys, _, rfl, rfl, e3 _ _ h2, upd_same, Nat.le_of_lt (small (by show ys.length + 1 ≤ _; omega)), fun l hl => ?_⟩
    · refine q l _ _ (ex_none (e2.trans e3) hl) ((e2.trans e3).trans (Ex.new hl)) upd_same ?_
      have x := e3.trans (Ex.new (o := .lst (ys ++ [vu])) hl)
      simp only [kids]
      rw [toDs_map, List.map_append, ← toDs_map]
      refine dpa_app (dpa_of (by rw [ht, toDs_len, hpl]) fun i y hy => ?_) (.cons (Dp.ex (e2.trans x) _ _ g4) .nil)
      obtain ⟨u, h3, h4⟩ := hall i y hy
      exact ⟨toD u, by rw [toDs_map, List.getElem?_map, h3]; rfl, Dp.ex x _ _ h4⟩
theorem Exm.ex {M : List Addr} {H H' : Hp} (e : Exm M H H') (h : ∀ a ∈ M, H a = none) : Ex H H' := fun a o ha => e a o (fun z => by rw [h a z] at ha; cases ha) ha
def spAllIn (K : PySem.W.Frag) (n : Nat) : Sp := fun vs H Q _ => ∃ v t, vs = [v] ∧ Dp K H v (toD t) ∧ dep t ≤ n ∧ size t ≤ 1000 ∧ (∀ u ∈ subs t, frm u) ∧
  ∀ l H' xs, H l = none → Ex H H' → H' l = some (.lst xs) → xs.length = size t → Q (.ref l) H'
theorem c_all_in (D : Dfn K mg "_law_all_in" (top 67) ["_law_term"]) (CI : Cal P w K mg base 1 "_law_inside" (spIn K)) : ∀ n, Cal P w K mg base (n + 1) "_law_all_in" (spAllIn K n)
  | 0 => D.cal (k := 0) (N := ["_law_term", "_law_found", "_law_one"]) (by decide +kernel) (fun vs H Q E h => by obtain ⟨v, t, rfl, _⟩ := h; rfl) fun f cdv A outer s H vs Q E hr nd h => by
      obtain ⟨v, t, rfl, _, hd, _⟩ := h
      have := dep_pos t
      omega
  | n + 1 => by
    have CS := c_all_in D CI n
    refine D.cal (k := n + 1) (N := ["_law_term", "_law_found", "_law_one"]) (by decide +kernel) (fun vs H Q E h => by obtain ⟨v, t, rfl, _⟩ := h; rfl) fun f cdv A outer s H vs Q E hr nd h => ?_
    obtain ⟨v, t, rfl, hd, hdp, hsz, hf, q⟩ := h
    refine ⟨_, pss_cons (ps_asg (pe_lst (pa_cons (pv 0) pa_nil)) (pg_name (i := 1) nd rfl (Or.inl rfl)))
      (pss_cons (ps_for PassesOwn.never rfl (p_iL K (pe_c CI hr (by omega) (pa_cons (pv 0) pa_nil))) (pg_name (i := 2) nd rfl (Or.inl rfl))
        (pss_one (ps_expr (p_ext K (pv 1) (pe_c CS hr (Nat.le_refl _) (pa_cons (pv 2) pa_nil))))))
      (pss_one (ps_ret (pv 1)))), ?_⟩
    walk_at "rds"
    refine ⟨(by decide : (1 : Nat) ≤ sizeLine), fun F hF => ?_⟩
    have e1 : Ex H (upd H F (.lst [v])) := Ex.new hF
    have w1 : (upd H F (.lst [v])) F = some (.lst [v]) := upd_same
    generalize upd H F (.lst [v]) = H1 at *
    walk_at "rds"
    refine ⟨v, t, rfl, Dp.ex e1 _ _ hd, hf t (by rw [subs_eq]; exact List.mem_cons_self), fun l1 H2 ks hl1 e2 h2 hks => ?_⟩
    have hkl : ks.length = (kids t).length := by rw [hks.len, toDs_len]
    have hk2 := kids_len t
    have nlF : l1 ∉ [F] := fun z => by rw [List.mem_singleton.mp z, w1] at hl1; cases hl1
    have w2 := e2 _ _ w1
    have mF : ∀ {H' : Hp} {xs}, H' F = some (.lst xs) → ∀ a ∈ [F], Mob H' a := fun h a ha => by rw [List.mem_singleton.mp ha]; exact .lst h
    refine ⟨l1, rfl, ⟨_, SqL.of h2⟩, for_over (over_list (xs := ks)) (fun i σ H' => ∃ o, σ = [some v, some (.ref F), o] ∧ Exm [F] H2 H' ∧ ∃ xs, H' F = some (.lst xs) ∧ xs.length = 1 + (((kids t).take i).map size).sum) ⟨none, rfl, Exm.refl _ _, _, w2, rfl⟩ (fun i σ H' ⟨_, _, h, _⟩ => SqL.of (h _ _ nlF h2)) ?_ ?_⟩
    · rintro i x σ H3 H4 hi ⟨o, rfl, e3, xs, w3, hxl⟩ e4 hx
      obtain ⟨d, f1, f2⟩ := hks.at hx
      rw [toDs_map, List.getElem?_map] at f1
      cases hu : (kids t)[i]? with
      | none => rw [hu] at f1; cases f1
      | some u =>
        rw [hu] at f1
        cases f1
        have hum := List.mem_of_getElem? hu
        have hsu := size_kid hum
        have hdu := dep_kids hum
        have kx : Kx H2 H4 := ((e3.trans (.of e4)).kx (mF w2))
        refine r_name ?_
        walk_at "rds"
        have w4 := e4 _ _ w3
        refine ⟨ty_l w4, ?_⟩
        walk_at "rds"
        have hsum : (((kids t).take (i + 1)).map size).sum = (((kids t).take i).map size).sum + size u := by
          rw [List.take_add_one, hu]
          simp
        have hle : (((kids t).take (i + 1)).map size).sum ≤ ((kids t).map size).sum := by
          conv => rhs; rw [← List.take_append_drop (i + 1) (kids t)]
          rw [List.map_append, List.sum_append]
          omega
        have hst := size_eq t
        refine ⟨x, u, rfl, Dp.kx kx _ _ f2 (noL_toD _), by omega, by omega, fun y hy => hf y (subs_kid hum hy), fun l5 H5 zs hl5 e5 h5 hzl => ?_⟩
        walk_at "rds"
        have w5 := e5 _ _ w4
        refine ⟨F, l5, xs, zs, rfl, rfl, w5, h5, Nat.le_of_lt (small (by omega)), ?_⟩
        exact ⟨_, rfl, (e3.trans ((Exm.of e4).trans (.of e5))).set (List.mem_singleton.mpr rfl), _, upd_same, by rw [List.length_append, hxl, hzl, hsum]; omega⟩
    · rintro σ H3 ⟨o, rfl, e3, xs, w3, hxl⟩
      rw [hkl, List.take_length] at hxl
      walk_at "rds"
      have hst := size_eq t
      exact q F H3 xs hF (((Exm.of (M := [F]) (e1.trans e2)).trans e3).ex fun a ha => by rw [List.mem_singleton.mp ha]; exact hF) w3 (by omega)
end
end K8
/-! the law's plan, its deeds -/
namespace K8
open PySem PySem.Spec L2 Evl
open PyProof.Rows hiding St
structure PlC where
  modes : Nat
  sigs : List Str
  heads : List (Str × List Str)
def keyS (x : Str) : Key := Sum.inr x
/-- the plan's heads -/
def HeadsAt (K : PySem.W.Frag) (H : Hp) (D : Addr) (hs : List (Str × List Str)) : Prop := ∃ kvs : List (Key × V), H D = some (.dK kvs) ∧ kvs.map (·.1) = hs.map (fun h => keyS h.1) ∧ ∀ (i : Nat) h, hs[i]? = some h → ∃ a, kvs[i]? = some (keyS h.1, .ref a) ∧ SqT K H a (h.2.map V.str)
/-- the plan -/
def PlanAt (K : PySem.W.Frag) (H : Hp) (P D F : Addr) (c : PlC) : Prop := ∃ (kvs : List (Key × V)) (sa : Addr), H P = some (.dK kvs) ∧ valV kvs (keyS "modes") = some (.int (c.modes : Nat)) ∧ valV kvs (keyS "signals") = some (.ref sa) ∧ SqT K H sa (c.sigs.map V.str) ∧
  valV kvs (keyS "heads") = some (.ref D) ∧ valV kvs (keyS "fresh") = some (.ref F) ∧ HeadsAt K H D c.heads
/-- what a plan is right for -/
structure PlOk (c : PlC) : Prop where
  m1 : 1 ≤ c.modes
  m3 : c.modes ≤ 3
  sg : (∀ x ∈ c.sigs, isNm x = true) ∧ asc c.sigs = true ∧ c.sigs.length ≤ 2
  hd : (∀ h ∈ c.heads, isNm h.1 = true ∧ h.2.length ≤ 2) ∧ (c.heads.map (·.1)).Nodup ∧ c.heads ≠ [] ∧ c.heads.length ≤ 10
def pcfg (c : PlC) : Cfg := ⟨c.modes, c.sigs, c.heads.map fun h => (h.1, h.2.length)⟩
section
variable {K : PySem.W.Frag} {H H' : Hp} {P D F : Addr} {c : PlC} {M : List Addr}
theorem HeadsAt.mob {hs : List (Str × List Str)} (h : HeadsAt K H D hs) : Mob H D := by
  obtain ⟨kvs, h1, _⟩ := h
  exact .dK h1
theorem HeadsAt.stay {hs : List (Str × List Str)} (h : HeadsAt K H D hs) (e : Exm M H H') (nD : D ∉ M) (m : ∀ a ∈ M, Mob H a) : HeadsAt K H' D hs := by
  obtain ⟨kvs, h1, h2, h3⟩ := h
  refine ⟨kvs, e _ _ nD h1, h2, fun i x hx => ?_⟩
  obtain ⟨a, h4, h5⟩ := h3 i x hx
  exact ⟨a, h4, kx_t (e.kx m) h5⟩
theorem PlanAt.stay (h : PlanAt K H P D F c) (e : Exm M H H') (nP : P ∉ M) (nD : D ∉ M) (m : ∀ a ∈ M, Mob H a) : PlanAt K H' P D F c := by
  obtain ⟨kvs, sa, h1, h2, h3, h4, h5, h6, h7⟩ := h
  exact ⟨kvs, sa, e _ _ nP h1, h2, h3, kx_t (e.kx m) h4, h5, h6, h7.stay e nD m⟩
theorem PlanAt.ex (h : PlanAt K H P D F c) (e : Ex H H') : PlanAt K H' P D F c := h.stay (M := []) (.of e) (by simp) (by simp) (by simp)
theorem PlanAt.mobP (h : PlanAt K H P D F c) : Mob H P := by
  obtain ⟨kvs, sa, h1, _⟩ := h
  exact .dK h1
theorem PlanAt.mobD (h : PlanAt K H P D F c) : Mob H D := by
  obtain ⟨kvs, sa, _, _, _, _, _, _, h7⟩ := h
  exact h7.mob
theorem r_key {kvs : List (Key × V)} {x : Str} {v : V} {R : V → Prop} (h : H P = some (.dK kvs)) (hv : valV kvs (keyS x) = some v) (q : R v) : ∃ a u, V.ref P = .ref a ∧ DGet H a (.str x) (some u) ∧ R u :=
  ⟨P, v, rfl, by have := DGet.k (k := keyS x) h; rw [hv] at this; exact this, q⟩
theorem DieAt.neP {d : Addr} (h : DieAt H d) (hp : PlanAt K H P D F c) : P ≠ d ∧ D ≠ d := by
  obtain ⟨a, b, z, e⟩ := h
  obtain ⟨kvs, sa, h1, _, _, _, _, _, ⟨kv2, h2, _⟩⟩ := hp
  exact ⟨fun y => by (rw [y, e] at h1; cases h1), fun y => by (rw [y, e] at h2; cases h2)⟩
theorem DieAt.m {d : Addr} (h : DieAt H d) : ∀ a ∈ [d], Mob H a := fun a ha => by rw [List.mem_singleton.mp ha]; exact h.mob
end
theorem r_lstRg {te : TE} {σ : L2.St} {H : Hp} {Q : VK} (q : te σ H fun x H1 => ∃ n, x = .int n ∧ RgOk 0 n ∧ ∀ q, H1 q = none → Q (.ref q) (upd H1 q (.lst (rgV 0 n)))) : tLstRg (tRg1 te) σ H Q := q
def mdV (m : Nat) : List V := (List.range m).map fun i : Nat => V.int (i : Int)
def entV : Option Nat → V
  | none => .non
  | some n => .int (n : Int)
theorem dp_ent {K : PySem.W.Frag} {H : Hp} (e : Option Nat) : Dp K H (entV e) (entD e) := by
  cases e
  · exact .non
  · exact .int _
section
variable {P : Program} {w : World} {K : PySem.W.Frag} {mg : Str → Option Value} {base : Heap}
def spDeedL (K : PySem.W.Frag) : Sp := fun vs H Q _ => ∃ (d p D F : Addr) (c : PlC), vs = [.ref d, .ref p] ∧ DieAt H d ∧ PlanAt K H p D F c ∧ PlOk c ∧
  ∀ v H' x tab, Exm [d] H H' → DieAt H' d → isNm x = true → tab.length = c.modes → (∀ e ∈ tab, ∀ n, e = some n → n < c.modes) → Dp K H' v (toD (.act x tab)) → Q v H'
theorem c_any_deed (D : Dfn K mg "_law_any_deed" (top 68) ["_law_die", "_law_plan"]) (T : Txt K mg) (C : Cal P w K mg base 2 "_law_pick" (spPick K)) : Cal P w K mg base 3 "_law_any_deed" (spDeedL K) := by
  refine D.cal (N := ["_law_die", "_law_plan", "_law_modes", "_law_table", "_law_mode"]) (by decide +kernel) (fun vs H Q E h => ?_) fun f cdv A outer s H vs Q E hr nd h => ?_
  · obtain ⟨d, p, D, F, c, rfl, _⟩ := h
    rfl
  obtain ⟨d, p, D, F, c, rfl, hd, hp, okc, q⟩ := h
  refine ⟨_, pss_cons (ps_asg (pe_listRg rfl rfl T.list (prg_1 rfl T.range (pe_dget (hu_of hr) (pv 1) pe_str (fun _ _ => rfl)))) (pg_name (i := 2) nd rfl (Or.inr rfl)))
    (pss_cons (ps_setLc (i := 3) (own := [("_law_mode", 4)]) (g := gName 4) (tt := tYes) rfl nd rfl rfl rfl (pi_list (pv 2)) (blkOk_by (N := ["_law_die", "_law_plan", "_law_modes", "_law_table", "_law_mode"]) (sc := defScope (top 68)) (by decide +kernel))
        (fun _ _ _ _ _ => pg_name (i := 4) nd rfl (Or.inl rfl)) (fun _ _ _ _ _ => pts_nil) (fun _ _ _ _ _ => pe_c C hr (by decide) (pa_cons (pv 0) (pa_cons (pe_op op_cat (pe_lst (pa_cons pe_non pa_nil)) (pe_op op_rep (pv 2) pe_int)) pa_nil))))
    (pss_one (ps_ret (pe_tup (pa_cons pe_str (pa_cons (pe_c C hr (by decide) (pa_cons (pv 0) (pa_cons (pe_lst (pa_cons pe_str (pa_cons pe_str (pa_cons pe_str (pa_cons pe_str pa_nil))))) pa_nil))) (pa_cons (pe_callTy call_tuple_of rfl T.tuple boot_tuple (pa_cons (pv 3) pa_nil)) pa_nil))))))), ?_⟩
  obtain ⟨kvs, sa, h1, h2, h3, h4, h5, h6, h7⟩ := id hp
  have m1 := okc.m1
  have m3 := okc.m3
  refine r_seq (r_asg ?_)
  refine r_lstRg ?_
  refine r_dget ?_
  walk_at "rds"
  refine r_key h1 h2 ?_
  refine ⟨_, rfl, RgOk.of_le (by omega) (by omega) (by omega) (by omega), fun l hl => ?_⟩
  have ndl : d ≠ l := hd.mob.ne hl
  have e1 : Ex H (upd H l (.lst (rgV 0 c.modes))) := Ex.new hl
  have w1 : (upd H l (.lst (rgV 0 c.modes))) l = some (.lst (mdV c.modes)) := by
    rw [upd_same]
    unfold rgV mdV
    simp
  generalize upd H l (.lst (rgV 0 c.modes)) = H1 at *
  have hd1 := hd.ex e1
  refine r_name ?_
  dsimp only
  walk_at "rds"
  have hlen : (mdV c.modes).length = c.modes := by simp [mdV]
  have nl : l ∉ [d] := fun z => ndl (List.mem_singleton.mp z).symm
  refine ⟨l, rfl, ⟨_, SqL.of w1⟩, lc_mu (α := Option Nat) (over_list (xs := mdV c.modes)) [d] (fun H2 e2 => SqL.of (e2 _ _ nl w1)) (fun gs H2 => DieAt H2 d) (fun y g _ => y = entV g ∧ ∀ n, g = some n → n < c.modes) (fun gs H H' h e => h.eq (e d (by simp))) (fun gs H h => h.m) (fun _ _ _ _ _ h => h) hd1 (small (by omega)) (fun i x H2 gs hi hg e2 h2' hx Q q => ?_) fun D2 H2 ys gs hD2 e2 w2 hg h2' hpw => ?_⟩
  · refine r_name ⟨rfl, ?_⟩
    walk_at "rds"
    refine ⟨(by decide : (1 : Nat) ≤ sizeLine), fun p1 hp1 => ?_⟩
    have x1 : Ex H2 (upd H2 p1 (.lst [.non])) := Ex.new hp1
    have y1 : (upd H2 p1 (.lst [.non])) p1 = some (.lst [.non]) := upd_same
    generalize upd H2 p1 (.lst [.non]) = H3 at *
    walk_at "rds"
    have w3 := x1 _ _ (e2 _ _ nl w1)
    refine ⟨l, 2, _, rfl, rfl, w3, by decide, by decide, Nat.le_of_lt (small (by rw [hlen]; show c.modes * 2 ≤ _; omega)), fun p2 hp2 => ?_⟩
    have x2 : Ex H3 (upd H3 p2 (.lst (List.replicate 2 (mdV c.modes)).flatten)) := Ex.new hp2
    have y2 : (upd H3 p2 (.lst (List.replicate 2 (mdV c.modes)).flatten)) p2 = some (.lst ((mdV c.modes) ++ (mdV c.modes))) := by
      rw [upd_same]
      simp [List.replicate]
    replace x2 : Ex H3 (upd H3 p2 (.lst (List.replicate (Int.toNat 2) (mdV c.modes)).flatten)) := x2
    replace y2 : (upd H3 p2 (.lst (List.replicate (Int.toNat 2) (mdV c.modes)).flatten)) p2 = some (.lst ((mdV c.modes) ++ (mdV c.modes))) := y2
    generalize upd H3 p2 (.lst (List.replicate (Int.toNat 2) (mdV c.modes)).flatten) = H4 at *
    refine ⟨p1, p2, _, _, rfl, rfl, x2 _ _ y1, y2, Nat.le_of_lt (small (by simp only [List.length_append, List.length_cons, List.length_nil, hlen]; omega)), fun p3 hp3 => ?_⟩
    have x3 : Ex H4 (upd H4 p3 (.lst ([V.non] ++ ((mdV c.modes) ++ (mdV c.modes))))) := Ex.new hp3
    have y3 : (upd H4 p3 (.lst ([V.non] ++ ((mdV c.modes) ++ (mdV c.modes))))) p3 = _ := upd_same
    generalize upd H4 p3 (.lst ([V.non] ++ ((mdV c.modes) ++ (mdV c.modes)))) = H5 at *
    walk_at "rds"
    have x25 := x1.trans (x2.trans x3)
    have d4 : DieAt H4 d := h2'.ex (x1.trans x2)
    refine ⟨d, p3, _, rfl, h2'.ex x25, .inl ⟨SqL.of y3, (d4.mob.ne hp3).symm⟩, by simp, by simp only [List.length_append, List.length_cons, List.length_nil, hlen]; omega, fun x H6 hx6 e6 d6 => ?_⟩
    have ex6 : Exm [d] H2 H6 := (Exm.of x25).trans e6
    rcases List.mem_append.mp hx6 with hx6 | hx6
    · rw [List.mem_singleton.mp hx6]
      exact q _ none _ ex6 d6 ⟨rfl, fun n h => by cases h⟩
    · have hx7 : x ∈ mdV c.modes := (List.mem_append.mp hx6).elim id id
      obtain ⟨n, hn, rfl⟩ := List.mem_map.mp hx7
      exact q _ (some n) _ ex6 d6 ⟨rfl, fun m h => by cases h; exact List.mem_range.mp hn⟩
  walk_at "rds"
  refine ⟨(by decide : (4 : Nat) ≤ sizeLine), fun p4 hp4 => ?_⟩
  have x3 : Ex H2 (upd H2 p4 (.lst [.str "go", .str "work", .str "flip", .str "go"])) := Ex.new hp4
  have y3 : (upd H2 p4 (.lst [.str "go", .str "work", .str "flip", .str "go"])) p4 = some (.lst ((["go", "work", "flip", "go"] : List Str).map V.str)) := upd_same
  generalize upd H2 p4 (.lst [.str "go", .str "work", .str "flip", .str "go"]) = H3 at *
  walk_at "rds"
  refine ⟨d, p4, _, rfl, h2'.ex x3, .inl ⟨SqL.of y3, (h2'.mob.ne hp4).symm⟩, by decide, by decide, fun x H4 hx e4 d4 => ?_⟩
  obtain ⟨z, hz, rfl⟩ := List.mem_map.mp hx
  have hznm : isNm z = true := by
    have : ∀ z ∈ (["go", "work", "flip", "go"] : List Str), isNm z = true := by decide +kernel
    exact this z hz
  walk_at "rds"
  have nD2 : D2 ∉ [d] := fun z => (hd1.mob.ne hD2) (List.mem_singleton.mp z).symm
  have w4 := e4 _ _ nD2 (x3 _ _ w2)
  refine ⟨D2, ys, rfl, .inl ⟨SqL.of w4, fun o ho => ?_⟩⟩
  walk_at "rds"
  refine ⟨(by decide : (3 : Nat) ≤ sizeLine), fun r hr' => ?_⟩
  have x5 : Ex H4 (upd H4 o (.tup ys)) := Ex.new ho
  have x6 := Ex.new (o := HO.tup [.str "do", .str z, .ref o]) hr'
  have hgl : gs.length = c.modes := by rw [hg, hlen]
  refine q _ _ z gs ((Exm.of e1).trans (e2.trans ((Exm.of x3).trans (e4.trans (.of (x5.trans x6)))))) (d4.ex (x5.trans x6)) hznm hgl (fun e he n hn => ?_) ?_
  · obtain ⟨i, hi, ei⟩ := List.getElem_of_mem he
    have hiy : i < ys.length := by rw [hpw.1]; exact hi
    obtain ⟨g, f1, f2, f3⟩ := hpw.2 i ys[i] (List.getElem?_eq_getElem hiy)
    rw [List.getElem?_eq_getElem hi, ei] at f1
    cases f1
    exact f3 n hn
  · simp only [toD]
    refine .tup (SqT.of upd_same) (.cons (.str _) (.cons (.str _) (.cons (.tup (ex_t x6 (SqT.of upd_same)) ?_) .nil)))
    refine dpa_of (by rw [List.length_map, hpw.1]) fun i y hy => ?_
    obtain ⟨g, f1, rfl, f3⟩ := hpw.2 i y hy
    exact ⟨entD g, by rw [List.getElem?_map, f1]; rfl, dp_ent g⟩
end
end K8
/-! the law's drawn terms: what is promised; answers -/
namespace K8
open PySem PySem.Spec L2 Evl
open PyProof.Rows hiding St
theorem r_cutH {te : TE} {σ : L2.St} {H : Hp} {Q : VK} (R : V → Hp → Prop) (h : ∀ Q' : VK, (∀ x H', R x H' → Q' x H') → te σ H Q') (k : ∀ x H', R x H' → Q x H') : te σ H Q := h Q k
def szb : Nat → Nat
  | 0 => 0
  | n + 1 => 1 + 3 * szb n
theorem szb_mono : ∀ {m n : Nat}, m ≤ n → szb m ≤ szb n
  | 0, n, _ => by show 0 ≤ _; exact Nat.zero_le _
  | m + 1, 0, h => absurd h (Nat.not_succ_le_zero m)
  | m + 1, n + 1, h => by
    have := szb_mono (Nat.le_of_succ_le_succ h)
    show 1 + 3 * szb m ≤ 1 + 3 * szb n
    omega
theorem szb_pos {m : Nat} (h : 1 ≤ m) : 1 ≤ szb m := by
  cases m with
  | zero => exact absurd h (by decide)
  | succ m => show 1 ≤ 1 + 3 * szb m; omega
/-- what stands around a drawn term -/
structure AEnv (K : PySem.W.Frag) (H : Hp) (p D F o l : Addr) (c : PlC) (own ls : List Str) : Prop where
  pl : PlanAt K H p D F c
  so : SqT K H o (own.map V.str)
  sl : SqT K H l (ls.map V.str)
  ok : PlOk c
  ow : ∀ x ∈ own, isNm x = true
  ol : own.length ≤ 10
  lb : ∀ x ∈ ls, isNm x = true
  ll : ls.length ≤ 100
/-- the die and the fresh labels behind some terms -/
structure GenSt (d F : Addr) (L : List Str) (gs : List Tm) (H : Hp) : Prop where
  die : DieAt H d
  fr : ∃ L' used, H F = some (.lst (L'.map V.str)) ∧ L = L' ++ used ∧ (gs.flatMap labs).Perm used
/-- a drawn term -/
structure GenR (K : PySem.W.Frag) (c : PlC) (own ls : List Str) (m : Nat) (y : V) (g : Tm) (H : Hp) : Prop where
  dp : Dp K H y (toD g)
  wf : Wf (pcfg c) own ls g
  de : dep g ≤ m
  sz : size g ≤ szb m
section
variable {K : PySem.W.Frag} {H H' : Hp} {d p D F o l : Addr} {c : PlC} {own ls L : List Str} {m : Nat} {gs : List Tm} {y : V} {g : Tm}
theorem GenSt.mo (h : GenSt d F L gs H) : ∀ a ∈ [d, F], Mob H a := fun a ha => by
  rcases List.mem_cons.mp ha with rfl | ha
  · exact h.die.mob
  · rw [List.mem_singleton.mp ha]
    obtain ⟨L', used, h1, _⟩ := h.fr
    exact .lst h1
theorem GenSt.eq (h : GenSt d F L gs H) (e : ∀ a ∈ [d, F], H' a = H a) : GenSt d F L gs H' := by
  refine ⟨h.die.eq (e d (by simp)), ?_⟩
  rw [e F (by simp)]
  exact h.fr
theorem GenSt.ex (h : GenSt d F L gs H) (e : Ex H H') : GenSt d F L gs H' := by
  refine h.eq fun a ha => ?_
  obtain ⟨q, h1, _⟩ := h.mo a ha
  rw [h1, e _ _ h1]
theorem GenSt.die' (h : GenSt d F L gs H) (n : d ≠ F) (e : Exm [d] H H') (dd : DieAt H' d) : GenSt d F L gs H' := by
  obtain ⟨L', used, h1, h2⟩ := h.fr
  exact ⟨dd, L', used, e _ _ (fun z => n (List.mem_singleton.mp z).symm) h1, h2⟩
theorem GenR.kx (h : GenR K c own ls m y g H) (k : Kx H H') : GenR K c own ls m y g H' := ⟨Dp.kx k _ _ h.dp (noL_toD _), h.wf, h.de, h.sz⟩
theorem AEnv.nF (h : AEnv K H p D F o l c own ls) (st : GenSt d F L gs H) : p ∉ [d, F] ∧ D ∉ [d, F] := by
  obtain ⟨n1, n2⟩ := st.die.neP h.pl
  obtain ⟨L', used, h1, _⟩ := st.fr
  obtain ⟨kvs, sa, g1, _, _, _, _, _, ⟨kv2, g2, _⟩⟩ := h.pl
  refine ⟨fun z => ?_, fun z => ?_⟩
  · rcases List.mem_cons.mp z with z | z
    · exact n1 z
    · rw [List.mem_singleton.mp z, h1] at g1; cases g1
  · rcases List.mem_cons.mp z with z | z
    · exact n2 z
    · rw [List.mem_singleton.mp z, h1] at g2; cases g2
theorem AEnv.stay (h : AEnv K H p D F o l c own ls) (st : GenSt d F L gs H) (e : Exm [d, F] H H') : AEnv K H' p D F o l c own ls := by
  obtain ⟨n1, n2⟩ := h.nF st
  have k := e.kx st.mo
  exact ⟨h.pl.stay e n1 n2 st.mo, kx_t k h.so, kx_t k h.sl, h.ok, h.ow, h.ol, h.lb, h.ll⟩
theorem AEnv.ex (h : AEnv K H p D F o l c own ls) (e : Ex H H') : AEnv K H' p D F o l c own ls := ⟨h.pl.ex e, ex_t e h.so, ex_t e h.sl, h.ok, h.ow, h.ol, h.lb, h.ll⟩
def spAnyT (K : PySem.W.Frag) (n : Nat) : Sp := fun vs H Q _ => ∃ (d p D F o l : Addr) (c : PlC) (own ls L : List Str) (m : Nat), vs = [.ref d, .ref p, .ref o, .ref l, .int (m : Nat)] ∧ AEnv K H p D F o l c own ls ∧ DieAt H d ∧ d ≠ F ∧ H F = some (.lst (L.map V.str)) ∧ L.length ≤ 100 ∧ (∀ x ∈ L, isNm x = true) ∧ 1 ≤ m ∧ m ≤ n ∧ m ≤ 5 ∧ ls.length + m ≤ 50 ∧
  ∀ v t H', Exm [d, F] H H' → GenSt d F L [t] H' → GenR K c own ls m v t H' → Q v H'
/-- one term more -/
theorem any_step {n : Nat} {H1 : Hp} {Q : VK} {E : XK} (A : AEnv K H1 p D F o l c own ls) (st1 : GenSt d F L [] H1) (nd : d ≠ F) (e : Exm [d, F] H1 H) (st : GenSt d F L gs H) (hl : L.length ≤ 100) (hL : ∀ x ∈ L, isNm x = true) (h1 : 1 ≤ m) (hn : m ≤ n) (h5 : m ≤ 5) (h50 : ls.length + m ≤ 50)
    (q : ∀ y g H', Exm [d, F] H H' → GenSt d F L (gs ++ [g]) H' → GenR K c own ls m y g H' → Q y H') : spAnyT K n [.ref d, .ref p, .ref o, .ref l, .int (m : Nat)] H Q E := by
  obtain ⟨L', used, f1, f2, f3⟩ := st.fr
  refine ⟨d, p, D, F, o, l, c, own, ls, L', m, rfl, A.stay st1 e, st.die, nd, f1, by rw [f2, List.length_append] at hl; omega, fun x hx => hL x (by rw [f2]; exact List.mem_append_left _ hx), h1, hn, h5, h50, fun v t H' e' st' r => ?_⟩
  refine q v t H' e' ⟨st'.die, ?_⟩ r
  obtain ⟨L2, us2, g1, g2, g3⟩ := st'.fr
  refine ⟨L2, us2 ++ used, g1, by rw [f2, g2, List.append_assoc], ?_⟩
  rw [List.flatMap_append]
  refine List.Perm.trans List.perm_append_comm ?_
  exact g3.append f3
end
theorem sum_le_mul {l : List Nat} {b : Nat} (h : ∀ x ∈ l, x ≤ b) : l.sum ≤ l.length * b := by
  induction l with
  | nil => simp
  | cons a r ih =>
    have h1 := h a List.mem_cons_self
    have h2 := ih fun x hx => h x (List.mem_cons_of_mem _ hx)
    rw [List.sum_cons, List.length_cons, Nat.succ_mul]
    omega
theorem deps_le {ts : List Tm} {m : Nat} (h : ∀ t ∈ ts, dep t ≤ m) : deps ts ≤ m := by
  induction ts with
  | nil => simp [deps]
  | cons a r ih =>
    have h1 := h a List.mem_cons_self
    have h2 := ih fun x hx => h x (List.mem_cons_of_mem _ hx)
    simp only [deps]
    omega
/-- a term of at most three drawn ones -/
theorem gen_sz {t : Tm} {m : Nat} (hk : (kids t).length ≤ 3) (h : ∀ u ∈ kids t, size u ≤ szb m) : size t ≤ szb (m + 1) := by
  have h1 : ((kids t).map size).sum ≤ ((kids t).map size).length * szb m := sum_le_mul fun x hx => by
    obtain ⟨u, hu, rfl⟩ := List.mem_map.mp hx
    exact h u hu
  rw [List.length_map] at h1
  have h2 : (kids t).length * szb m ≤ 3 * szb m := Nat.mul_le_mul_right _ hk
  rw [size_eq]
  show _ ≤ 1 + 3 * szb m
  omega
section
variable {P : Program} {w : World} {K : PySem.W.Frag} {mg : Str → Option Value} {base : Heap}
theorem okc_nm {c : PlC} (ok : PlOk c) : ∀ x ∈ c.sigs, isNm x = true := ok.sg.1
def spAnsL (K : PySem.W.Frag) (n : Nat) : Sp := fun vs H Q _ => ∃ (d p D F o l : Addr) (c : PlC) (own ls L : List Str) (m : Nat), vs = [.ref d, .ref p, .ref o, .ref l, .int ((m + 1 : Nat))] ∧ AEnv K H p D F o l c own ls ∧ DieAt H d ∧ d ≠ F ∧ H F = some (.lst (L.map V.str)) ∧ L.length ≤ 100 ∧ (∀ x ∈ L, isNm x = true) ∧ 1 ≤ m ∧ m ≤ n ∧ m ≤ 4 ∧ ls.length + (m + 1) ≤ 50 ∧ c.sigs ≠ [] ∧
  ∀ v t H', Exm [d, F] H H' → GenSt d F L [t] H' → GenR K c own ls (m + 1) v t H' → Q v H'
theorem c_any_answer {lv n : Nat} (hL : 2 ≤ lv) (D : Dfn K mg "_law_any_answer" (top 69) ["_law_die", "_law_plan", "_law_own", "_law_labels", "_law_deep"]) (T : Txt K mg) (CC : Cal P w K mg base 1 "_law_cast" spCast) (CP : Cal P w K mg base 2 "_law_pick" (spPick K)) (CT : Cal P w K mg base lv "_law_any_term" (spAnyT K n)) :
    Cal P w K mg base (lv + 1) "_law_any_answer" (spAnsL K n) := by
  refine D.cal (N := ["_law_die", "_law_plan", "_law_own", "_law_labels", "_law_deep", "_law_signals", "_law_answers", "_law_one"]) (by decide +kernel) (fun vs H Q E h => ?_) fun f cdv A outer s H vs Q E hr nd h => ?_
  · obtain ⟨d, p, D, F, o, l, c, own, ls, L, m, rfl, _⟩ := h
    rfl
  obtain ⟨d, p, D, F, o, l, c, own, ls, L, m, rfl, AE, hd, ndF, hF, hLl, hLn, h1, hn, h5, h50, hsg, q⟩ := h
  refine ⟨_, pss_cons (ps_asg (pe_ifExp (pt_cmpR op_eq (pe_c CC hr (by omega) (pa_cons (pv 0) (pa_cons pe_int pa_nil))) pe_int (nomark _)) (pe_callTy call_list_of rfl T.list boot_list (pa_cons (pe_dget (hu_of hr) (pv 1) pe_str (fun _ _ => rfl)) pa_nil)) (pe_lst (pa_cons (pe_c CP hr hL (pa_cons (pv 0) (pa_cons (pe_dget (hu_of hr) (pv 1) pe_str (fun _ _ => rfl)) pa_nil))) pa_nil))) (pg_name (i := 5) nd rfl (Or.inl rfl)))
    (pss_cons (ps_setLc (i := 6) (own := [("_law_one", 7)]) (g := gName 7) (tt := tYes) rfl nd rfl rfl rfl (pi_list (pv 5)) (blkOk_by (N := ["_law_die", "_law_plan", "_law_own", "_law_labels", "_law_deep", "_law_signals", "_law_answers", "_law_one"]) (sc := defScope (top 69)) (by decide +kernel))
        (fun _ _ _ _ _ => pg_name (i := 7) nd rfl (Or.inl rfl)) (fun _ _ _ _ _ => pts_nil) (fun _ _ _ _ _ => pe_tup (pa_cons (pv 7) (pa_cons (pe_c CT hr (Nat.le_refl _) (pa_cons (pv 0) (pa_cons (pv 1) (pa_cons (pv 2) (pa_cons (pv 3) (pa_cons (pe_op op_sub (pv 4) pe_int) pa_nil)))))) pa_nil))))
    (pss_one (ps_ret (pe_tup (pa_cons pe_str (pa_cons (pe_callTy call_tuple_of rfl T.tuple boot_tuple (pa_cons (pv 6) pa_nil)) (pa_cons (pe_c CT hr (Nat.le_refl _) (pa_cons (pv 0) (pa_cons (pv 1) (pa_cons (pv 2) (pa_cons (pv 3) (pa_cons (pe_op op_sub (pv 4) pe_int) pa_nil)))))) pa_nil))))))), ?_⟩
  have okc := AE.ok
  have st0 : GenSt d F L [] H := ⟨hd, L, [], hF, by simp, .nil⟩
  have hsub : ((m + 1 : Nat) : Int) - 1 = (m : Nat) := by omega
  refine r_seq (r_asg (r_cutH (fun x H' => ∃ (sg : Addr) (ss : List Str), x = .ref sg ∧ H sg = none ∧ H' sg = some (.lst (ss.map V.str)) ∧ Exm [d] H H' ∧ DieAt H' d ∧ ss ≠ [] ∧ asc ss = true ∧ ss.length ≤ 2 ∧ ∀ s ∈ ss, isNm s = true ∧ s ∈ c.sigs) (fun Q' k => ?_) ?_))
  · walk_at "rds"
    refine ⟨d, 3, rfl, hd, by decide, by decide, fun j H1 hj e1 d1 => ?_⟩
    have A1 := AE.stay st0 (e1.sub (by simp))
    obtain ⟨kvs, sa, g1, g2, g3, g4, g5, g6, g7⟩ := A1.pl
    walk_at "rds"
    have dn : d ≠ d → False := fun z => z rfl
    by_cases hj0 : j = 0
    · subst hj0
      refine r_eq rfl (r_bl (r_yes rfl ?_))
      walk_at "rds"
      refine r_dget ?_
      walk_at "rds"
      refine r_key g1 g3 ?_
      walk_at "rds"
      refine ⟨sa, _, rfl, .inr g4, fun sg hsg2 => ?_⟩
      have hn0 : H sg = none := by
        cases hh : H sg with
        | none => rfl
        | some o =>
          by_cases hz : sg = d
          · rw [hz] at hsg2
            obtain ⟨a, b, z, dz⟩ := d1
            rw [dz] at hsg2
            cases hsg2
          · rw [e1 _ _ (fun y => hz (List.mem_singleton.mp y)) hh] at hsg2
            cases hsg2
      exact k _ _ ⟨sg, c.sigs, rfl, hn0, upd_same, e1.trans (.of (Ex.new hsg2)), d1.ex (Ex.new hsg2), hsg, okc.sg.2.1, okc.sg.2.2, fun s hs => ⟨okc.sg.1 s hs, hs⟩⟩
    · refine r_eq rfl (r_bl (r_no (fun z => hj0 (by have := V.int.inj z; omega)) ?_))
      walk_at "rds"
      refine r_dget ?_
      walk_at "rds"
      refine r_key g1 g3 ?_
      walk_at "rds"
      refine ⟨d, sa, _, rfl, d1, .inr g4, fun z => hsg (List.map_eq_nil_iff.mp z), by rw [List.length_map]; have := okc.sg.2.2; omega, fun x H2 hx e2 d2 => ?_⟩
      obtain ⟨s1, hs1, rfl⟩ := List.mem_map.mp hx
      walk_at "rds"
      refine ⟨(by decide : (1 : Nat) ≤ sizeLine), fun sg hsg2 => ?_⟩
      have hn0 : H sg = none := by
        cases hh : H sg with
        | none => rfl
        | some o =>
          by_cases hz : sg = d
          · rw [hz] at hsg2
            obtain ⟨a, b, z, dz⟩ := d2
            rw [dz] at hsg2
            cases hsg2
          · rw [(e1.trans e2) _ _ (fun y => hz (List.mem_singleton.mp y)) hh] at hsg2
            cases hsg2
      exact k _ _ ⟨sg, [s1], rfl, hn0, upd_same, (e1.trans e2).trans (.of (Ex.new hsg2)), d2.ex (Ex.new hsg2), by simp, rfl, Nat.le_succ _, fun s hs => by rw [List.mem_singleton.mp hs]; exact ⟨okc.sg.1 _ hs1, hs1⟩⟩
  rintro _ H1 ⟨sg, ss, rfl, hsg0, w1, e1, d1, s1, s2, s3, s4⟩
  refine r_name ?_
  dsimp only
  have e1' : Exm [d, F] H H1 := e1.sub (by simp)
  have A1 := AE.stay st0 e1'
  have st1 : GenSt d F L [] H1 := st0.die' ndF e1 d1
  have nsg : sg ∉ [d, F] := fun z => by
    rcases List.mem_cons.mp z with z | z
    · exact (hd.mob.ne hsg0) z.symm
    · rw [List.mem_singleton.mp z, hF] at hsg0; cases hsg0
  walk_at "rds"
  refine ⟨sg, rfl, ⟨_, SqL.of w1⟩, lc_mu (α := Str × Tm) (over_list (xs := ss.map V.str)) [d, F] (fun H2 e2 => SqL.of (e2 _ _ nsg w1)) (fun gs H2 => GenSt d F L (gs.map Prod.snd) H2 ∧ gs.map Prod.fst = ss.take gs.length)
    (fun y g H2 => ∃ q v, y = .ref q ∧ SqT K H2 q [.str g.1, v] ∧ GenR K c own ls m v g.2 H2) (fun gs H H' h e => ⟨h.1.eq e, h.2⟩) (fun gs H h => h.1.mo) (fun y g H H' kx ⟨q, v, h1, h2, h3⟩ => ⟨q, v, h1, kx_t kx h2, h3.kx kx⟩) ⟨st1, by simp⟩ (small (by rw [List.length_map]; omega)) (fun i x H2 gs hi hg e2 ⟨st2, hgs⟩ hx Q q => ?_) fun D2 H2 ys gs hD2 e2 w2 hg ⟨st2, hgs⟩ hpw => ?_⟩
  · obtain ⟨s0, hs0, rfl⟩ := str_at hx
    refine r_name ⟨rfl, ?_⟩
    walk_at "rds"
    rw [hsub]
    refine any_step A1 st1 ndF e2 st2 hLl hLn h1 hn (by omega) (by omega) fun v t H3 e3 st3 r3 => ?_
    walk_at "rds"
    refine ⟨(by decide : (2 : Nat) ≤ sizeLine), fun tp htp => ?_⟩
    have x := Ex.new (o := HO.tup [.str s0, v]) htp
    refine q _ (s0, t) _ (e3.trans (.of x)) ⟨?_, ?_⟩ ⟨tp, v, rfl, SqT.of upd_same, r3.kx (Kx.of x)⟩
    · rw [List.map_append]
      exact st3.ex x
    · rw [List.map_append, hgs, List.length_append, hg]
      show ss.take i ++ [s0] = ss.take (i + 1)
      rw [List.take_add_one, hs0]
      rfl
  refine r_name ?_
  dsimp only
  walk_at "rds"
  rw [List.length_map] at hg
  rw [hg, List.take_length] at hgs
  refine ⟨D2, ys, rfl, .inl ⟨SqL.of w2, fun o2 ho2 => ?_⟩⟩
  have x2 : Ex H2 (upd H2 o2 (.tup ys)) := Ex.new ho2
  have y2 : SqT K (upd H2 o2 (.tup ys)) o2 ys := SqT.of upd_same
  generalize upd H2 o2 (.tup ys) = H3 at *
  walk_at "rds"
  rw [hsub]
  refine any_step A1 st1 ndF (e2.trans (.of x2)) (st2.ex x2) hLl hLn h1 hn (by omega) (by omega) fun v t H4 e4 st4 r4 => ?_
  walk_at "rds"
  refine ⟨(by decide : (3 : Nat) ≤ sizeLine), fun z hz => ?_⟩
  have x5 := Ex.new (o := HO.tup [.str "answer", .ref o2, v]) hz
  have kx : Kx H2 (upd H4 z (.tup [.str "answer", .ref o2, v])) := ((Kx.of x2).trans (e4.kx (st2.ex x2).mo)).trans (Kx.of x5)
  have hts : (gs.map Prod.snd).length = ss.length := by rw [List.length_map, hg]
  have hg2 : ∀ (i : Nat) (u : Tm), (gs.map Prod.snd)[i]? = some u → ∃ y q v s', ys[i]? = some y ∧ y = .ref q ∧ ss[i]? = some s' ∧ SqT K H2 q [.str s', v] ∧ GenR K c own ls m v u H2 := fun i u hu => by
    rw [List.getElem?_map] at hu
    cases hgi : gs[i]? with
    | none => rw [hgi] at hu; cases hu
    | some g =>
      rw [hgi] at hu
      cases hu
      have hiy : i < ys.length := by rw [hpw.1]; exact (List.getElem?_eq_some_iff.mp hgi).1
      obtain ⟨g', f1, q, v, f2, f3, f4⟩ := hpw.2 i ys[i] (List.getElem?_eq_getElem hiy)
      rw [hgi] at f1
      cases f1
      have hs : ss[i]? = some g.1 := by rw [← hgs, List.getElem?_map, hgi]; rfl
      exact ⟨_, q, v, g.1, List.getElem?_eq_getElem hiy, f2, hs, f3, f4⟩
  have hall : ∀ u ∈ gs.map Prod.snd ++ [t], Wf (pcfg c) own ls u ∧ dep u ≤ m ∧ size u ≤ szb m := fun u hu => by
    rcases List.mem_append.mp hu with hu | hu
    · obtain ⟨i, hi, ei⟩ := List.getElem_of_mem hu
      obtain ⟨y, q, v, s', _, _, _, _, r⟩ := hg2 i u (by rw [List.getElem?_eq_getElem hi, ei])
      exact ⟨r.wf, r.de, r.sz⟩
    · rw [List.mem_singleton.mp hu]
      exact ⟨r4.wf, r4.de, r4.sz⟩
  refine q _ (.ans ss (gs.map Prod.snd) t) _ ((e1'.trans e2).trans ((Exm.of x2).trans (e4.trans (.of x5)))) ?_ ⟨?_, ?_, ?_, ?_⟩
  · have := st4.ex x5
    refine ⟨this.die, ?_⟩
    obtain ⟨L', used, f1, f2, f3⟩ := this.fr
    refine ⟨L', used, f1, f2, ?_⟩
    rw [List.flatMap_cons, List.flatMap_nil, List.append_nil, labs_eq]
    exact f3
  · simp only [toD]
    refine .tup (SqT.of upd_same) (.cons (.str _) (.cons (.tup (kx_t (Kx.of x5) (kx_t (e4.kx (st2.ex x2).mo) y2)) ?_) (.cons (Dp.ex x5 _ _ r4.dp) .nil)))
    refine dpa_of (by rw [prs_len2 (by rw [hts]), hpw.1, hg]) fun i y hy => ?_
    have hiy : i < gs.length := by rw [← hpw.1]; exact (List.getElem?_eq_some_iff.mp hy).1
    obtain ⟨y', q, v', s', f1, f2, f3, f4, f5⟩ := hg2 i gs[i].2 (by rw [List.getElem?_map, List.getElem?_eq_getElem hiy]; rfl)
    rw [hy] at f1
    cases f1
    subst f2
    exact ⟨_, prs_at3 f3 (by rw [List.getElem?_map, List.getElem?_eq_getElem hiy]; rfl), .tup (kx_t kx f4) (.cons (.str _) (.cons (Dp.kx kx _ _ f5.dp (noL_toD _)) .nil))⟩
  · refine wf_iff.mpr ⟨⟨hts.symm, s1, s2, s3, s4⟩, fun u hu => (hall u hu).1⟩
  · simp only [dep]
    have d1 : deps (gs.map Prod.snd) ≤ m := deps_le fun u hu => (hall u (List.mem_append_left _ hu)).2.1
    have d2 := r4.de
    omega
  · exact gen_sz (by simp only [kids, List.length_append, hts, List.length_singleton]; omega) fun u hu => (hall u hu).2.2
end
end K8
/-! the law's drawn terms -/
namespace K8
open PySem PySem.Spec L2 Evl
open PyProof.Rows hiding St
section
variable {K : PySem.W.Frag} {σ : L2.St} {H : Hp} {ta tb : TE}
theorem r_catA {a b : Addr} {xs ys : List V} {Q : VK} (h1 : SqT K H a xs) (h2 : SqT K H b ys) (hl : xs.length + ys.length ≤ 100000) (q : ∀ p H', Ex H H' → SqT K H' p (xs ++ ys) → Q (.ref p) H') : rCatA K (.ref a) (.ref b) H Q := by
  refine ⟨a, b, xs, ys, rfl, rfl, h1, h2, Nat.le_of_lt (small hl), fun e => ?_, fun _ e => ?_, fun _ _ p hp => q p _ (Ex.new hp) (SqT.of upd_same)⟩
  · subst e
    exact q b H (Ex.refl _) h2
  · subst e
    exact q a H (Ex.refl _) (by rw [List.append_nil]; exact h1)
/-- te gives a new list of texts, or one that stands -/
def EvS (te : TE) (σ : L2.St) (H : Hp) (zs : List Str) : Prop := ∀ Q : VK, (∀ p H', Ex H H' → H' p = some (.lst (zs.map V.str)) → Q (.ref p) H') → te σ H Q
def EvN (te : TE) (σ : L2.St) (H : Hp) (n : Nat) : Prop := ∀ Q : VK, (∀ H', Ex H H' → Q (.int (n : Int)) H') → te σ H Q
def b2n (b : Bool) : Nat := if b then 1 else 0
theorem evs_var {i : Nat} {p : Addr} {zs : List Str} (h : σ[i]? = some (some (.ref p))) (hp : H p = some (.lst (zs.map V.str))) : EvS (tVar i) σ H zs := fun Q q => ⟨_, h, q p H (Ex.refl _) hp⟩
theorem evs_lst {ts : TA} {zs : List Str} (hl : zs.length ≤ 100000) (h : ∀ QL : List V → Hp → Prop, QL (zs.map V.str) H → ts σ H QL) : EvS (tLst ts) σ H zs := fun Q q =>
  h _ ⟨Nat.le_of_lt (small (by rw [List.length_map]; exact hl)), fun p hp => q p _ (Ex.new hp) upd_same⟩
theorem evs_cat {xs ys : List Str} (h1 : EvS ta σ H xs) (h2 : ∀ H', Ex H H' → EvS tb σ H' ys) (hl : xs.length + ys.length ≤ 100000) : EvS (tOp rCat ta tb) σ H (xs ++ ys) := fun Q q => by
  refine h1 _ fun p H1 e1 w1 => ?_
  refine h2 H1 e1 _ fun p2 H2 e2 w2 => ?_
  refine ⟨p, p2, _, _, rfl, rfl, e2 _ _ w1, w2, Nat.le_of_lt (small (by rw [List.length_map, List.length_map]; exact hl)), fun p3 hp3 => ?_⟩
  exact q p3 _ ((e1.trans e2).trans (Ex.new hp3)) (by rw [upd_same, List.map_append])
theorem evs_rep {s : Str} {n : Nat} (h1 : EvS ta σ H [s]) (h2 : ∀ H', Ex H H' → EvN tb σ H' n) (hn : n ≤ 100) : EvS (tOp rRep ta tb) σ H (List.replicate n s) := fun Q q => by
  refine h1 _ fun p H1 e1 w1 => ?_
  refine h2 H1 e1 _ fun H2 e2 => ?_
  refine ⟨p, (n : Int), _, rfl, rfl, e2 _ _ w1, by omega, by omega, ?_, fun p3 hp3 => ?_⟩
  · simp
    rw [sizeLine_eq]
    omega
  · refine q p3 _ ((e1.trans e2).trans (Ex.new hp3)) ?_
    rw [upd_same]
    simp
theorem evn_ne {a : Addr} {xs : List V} (h : ∀ Q : VK, Q (.ref a) H → ta σ H Q) (ha : SqT K H a xs) : EvN (tCB rInt1 (tCons (tOp (rNeNil K) ta (tTup tNil)) tNil)) σ H (b2n (!xs.isEmpty)) := fun Q q => by
  refine h _ ?_
  refine ⟨Nat.zero_le _, fun p hp => ?_⟩
  refine r_neNilT (ex_t (Ex.new hp) ha) (SqT.of upd_same) ?_
  refine r_int1b ?_
  have := q _ (Ex.new (o := .tup []) hp)
  cases xs <;> exact this
theorem evn_3 {n : Nat} (h : EvN ta σ H n) : EvN (tOp (rI CMul fun i j => V.int (i * j)) (tC (.int 3)) ta) σ H (3 * n) := fun Q q => by
  refine h _ fun H1 e1 => ?_
  refine r_I (.inl ⟨by decide, by decide⟩) ?_
  have := q H1 e1
  rw [show ((3 * n : Nat) : Int) = 3 * (n : Int) by omega] at this
  exact this
end
/-- the ways that may be drawn -/
def WayOk (c : PlC) (own ls : List Str) (m : Nat) (x : Str) : Prop := x = "do" ∨ (x = "run" ∧ own ≠ []) ∨ (x = "exit" ∧ ls ≠ []) ∨ (x = "raise" ∧ c.sigs ≠ []) ∨ (2 ≤ m ∧ (x = "seq" ∨ x = "or" ∨ x = "and" ∨ x = "case" ∨ x = "call" ∨ x = "scope")) ∨ (2 ≤ m ∧ x = "answer" ∧ c.sigs ≠ [])
def ways0 (c : PlC) (own ls : List Str) : List Str := (((["do", "do"] : List Str) ++ List.replicate (3 * b2n (!own.isEmpty)) ("run" : Str)) ++ List.replicate (b2n (!ls.isEmpty)) ("exit" : Str)) ++ List.replicate (b2n (!c.sigs.isEmpty)) ("raise" : Str)
def ways1 (c : PlC) (own ls : List Str) : List Str := (ways0 c own ls ++ (["seq", "seq", "or", "and", "case", "call", "call", "scope"] : List Str)) ++ List.replicate (b2n (!c.sigs.isEmpty)) ("answer" : Str)
theorem b2n_le (b : Bool) : b2n b ≤ 1 := by cases b <;> decide
theorem rep_mem {xs : List Str} {k : Nat} {s x : Str} (h : x ∈ List.replicate (k * b2n (!xs.isEmpty)) s) : x = s ∧ xs ≠ [] := by
  obtain ⟨h1, h2⟩ := List.mem_replicate.mp h
  refine ⟨h2, fun e => h1 ?_⟩
  rw [e]
  rfl
theorem rep_mem1 {xs : List Str} {s x : Str} (h : x ∈ List.replicate (b2n (!xs.isEmpty)) s) : x = s ∧ xs ≠ [] := rep_mem (k := 1) (by rwa [Nat.one_mul])
theorem ways0_ok {c : PlC} {own ls : List Str} {m : Nat} {x : Str} (h : x ∈ ways0 c own ls) : WayOk c own ls m x := by
  unfold ways0 at h
  rcases List.mem_append.mp h with h | h
  · rcases List.mem_append.mp h with h | h
    · rcases List.mem_append.mp h with h | h
      · have : x = "do" := by simpa using h
        exact .inl this
      · exact .inr (.inl (rep_mem h))
    · exact .inr (.inr (.inl (rep_mem1 h)))
  · exact .inr (.inr (.inr (.inl (rep_mem1 h))))
theorem ways1_ok {c : PlC} {own ls : List Str} {m : Nat} {x : Str} (hm : 2 ≤ m) (h : x ∈ ways1 c own ls) : WayOk c own ls m x := by
  unfold ways1 at h
  rcases List.mem_append.mp h with h | h
  · rcases List.mem_append.mp h with h | h
    · exact ways0_ok h
    · refine .inr (.inr (.inr (.inr (.inl ⟨hm, ?_⟩))))
      simp only [List.mem_cons, List.not_mem_nil, or_false] at h
      rcases h with h | h | h | h | h | h | h | h <;> simp [h]
  · obtain ⟨h1, h2⟩ := rep_mem1 h
    exact .inr (.inr (.inr (.inr (.inr ⟨hm, h1, h2⟩))))
theorem ways0_len (c : PlC) (own ls : List Str) : (ways0 c own ls).length ≤ 7 := by
  have h1 := b2n_le (!own.isEmpty)
  have h2 := b2n_le (!ls.isEmpty)
  have h3 := b2n_le (!c.sigs.isEmpty)
  unfold ways0
  simp only [List.length_append, List.length_replicate, List.length_cons, List.length_nil]
  omega
theorem ways1_len (c : PlC) (own ls : List Str) : (ways1 c own ls).length ≤ 16 := by
  have h1 := ways0_len c own ls
  have h3 := b2n_le (!c.sigs.isEmpty)
  unfold ways1
  simp only [List.length_append, List.length_replicate, List.length_cons, List.length_nil]
  omega
end K8
/-! the law's drawn terms: the def -/
namespace K8
open PySem PySem.Spec L2 Evl
open PyProof.Rows hiding St
section
variable {K : PySem.W.Frag} {H H' : Hp} {d p D F o l : Addr} {c : PlC} {own ls L : List Str} {m : Nat} {gs : List Tm}
theorem r_pc {tk tv : TE} {r : List (TE × TE)} {σ : L2.St} {H : Hp} {QP : List (V × V) → Hp → Prop} (q : tk σ H fun x H1 => tv σ H1 fun y H2 => tPairs r σ H2 fun ps H3 => QP ((x, y) :: ps) H3) : tPairs ((tk, tv) :: r) σ H QP := q
theorem r_pn {σ : L2.St} {H : Hp} {QP : List (V × V) → Hp → Prop} (q : QP [] H) : tPairs [] σ H QP := q
theorem r_disp {trs : List (TE × TE)} {σ : L2.St} {H : Hp} {Q : VK} (q : ∀ p, H p = none → tPairs trs σ (upd H p (.dK [])) fun ps H2 => H2 p = some (.dK []) ∧ ∃ kvs : List (Key × V), ps = kvs.map (fun kv => (kV kv.1, kv.2)) ∧ kvs.length ≤ 15 ∧ Q (.ref p) (upd H2 p (.dK (mergeK [] kvs)))) : tDisp trs σ H Q := q
theorem r_cutS {t : TS} {D : Ends} {σ : L2.St} {H : Hp} (R : L2.St → Hp → Prop) (h : ∀ D' : Ends, (∀ σ' H', R σ' H' → D'.nx σ' H') → t D' σ H) (k : ∀ σ' H', R σ' H' → D.nx σ' H') : t D σ H := h D k
theorem keyS_inj {x y : Str} : keyS x = keyS y ↔ x = y := ⟨fun h => Sum.inr.inj h, fun h => by rw [h]⟩
/-- the dict of the three names -/
def nm3 (a b z : V) : List (Key × V) := mergeK [] [(keyS "run", a), (keyS "exit", b), (keyS "raise", z)]
theorem nm3_at (a b z : V) (x : Str) : valV (nm3 a b z) (keyS x) = if x = "raise" then some z else if x = "exit" then some b else if x = "run" then some a else none := by
  unfold nm3 mergeK
  simp only [List.foldl_cons, List.foldl_nil, valV_put, keyS_inj, valV_nil]
theorem evn_neS {ta : TE} {σ : L2.St} {a : Addr} {zs : List Str} (h : ∀ Q : VK, Q (.ref a) H → ta σ H Q) (ha : SqT K H a (zs.map V.str)) : EvN (tCB rInt1 (tCons (tOp (rNeNil K) ta (tTup tNil)) tNil)) σ H (b2n (!zs.isEmpty)) := by
  have := evn_ne h ha
  rwa [show (zs.map V.str).isEmpty = zs.isEmpty by cases zs <;> rfl] at this
theorem gen_leaf {t : Tm} (h : GenSt d F L [] H) (e : labs t = []) : GenSt d F L [t] H := by
  refine ⟨h.die, ?_⟩
  obtain ⟨L', used, h1, h2, h3⟩ := h.fr
  exact ⟨L', used, h1, h2, by rw [List.flatMap_cons, List.flatMap_nil, List.append_nil, e]; exact h3⟩
theorem gen_node {t : Tm} (h : GenSt d F L gs H) (e : labs t = gs.flatMap labs) : GenSt d F L [t] H := by
  refine ⟨h.die, ?_⟩
  obtain ⟨L', used, h1, h2, h3⟩ := h.fr
  exact ⟨L', used, h1, h2, by rw [List.flatMap_cons, List.flatMap_nil, List.append_nil, e]; exact h3⟩
theorem pw_dpa {ys : List V} (h : Pw (fun y g => GenR K c own ls m y g H) ys gs) : DpAll K H ys (toDs gs) :=
  dpa_of (by rw [toDs_len]; exact h.1) fun i x hx => by
    obtain ⟨g, h1, h2⟩ := h.2 i x hx
    exact ⟨toD g, by rw [toDs_map, List.getElem?_map, h1]; rfl, h2.dp⟩
theorem pw_all {ys : List V} (h : Pw (fun y g => GenR K c own ls m y g H) ys gs) : ∀ u ∈ gs, Wf (pcfg c) own ls u ∧ dep u ≤ m ∧ size u ≤ szb m := fun u hu => by
  obtain ⟨i, hi, ei⟩ := List.getElem_of_mem hu
  have hy : i < ys.length := by rw [h.1]; exact hi
  obtain ⟨g, h1, h2⟩ := h.2 i ys[i] (List.getElem?_eq_getElem hy)
  rw [List.getElem?_eq_getElem hi, ei] at h1
  cases h1
  exact ⟨h2.wf, h2.de, h2.sz⟩
theorem die_ne {W : Addr} {ws : List Str} (h : DieAt H d) (hw : H W = some (.lst (ws.map V.str))) (hne : ws ≠ []) : W ≠ d := fun e => by
  obtain ⟨a, b, z, q⟩ := h
  rw [e, q] at hw
  cases ws with
  | nil => exact hne rfl
  | cons x r => cases hw
theorem lookup_heads : ∀ {hs : List (Str × List Str)} {h : Str × List Str}, (hs.map (·.1)).Nodup → h ∈ hs → (hs.map fun h => (h.1, h.2.length)).lookup h.1 = some h.2.length
  | x :: hs, h, nd, hm => by
    rw [List.map_cons, List.lookup_cons]
    rw [List.map_cons, List.nodup_cons] at nd
    rcases List.mem_cons.mp hm with rfl | hm
    · simp
    · have : (h.1 == x.1) = false := beq_eq_false_iff_ne.mpr fun e => nd.1 (by rw [← e]; exact List.mem_map_of_mem hm)
      rw [this]
      exact lookup_heads nd.2 hm
theorem iteN_ne {b : Bool} {A B : Prop} (h : b = false) (q : A) : if (!b) = true then A else B := by
  rw [h]
  exact iteT q
theorem size1 {t : Tm} (h : kids t = []) (hm : 1 ≤ m) : size t ≤ szb m := by
  have := szb_pos hm
  rw [size_eq, h]
  simpa using this
end
section
variable {P : Program} {w : World} {K : PySem.W.Frag} {mg : Str → Option Value} {base : Heap}
abbrev NT : List Str := ["_law_die", "_law_plan", "_law_own", "_law_labels", "_law_deep", "_law_names", "_law_ways", "_law_way", "_law_many", "_law_some", "_law_name", "_law_given", "_law_label", "_law_turn", "_law_one"]
theorem c_any_term_s {lv n : Nat} (hL : 3 ≤ lv) (D : Dfn K mg "_law_any_term" (top 70) ["_law_die", "_law_plan", "_law_own", "_law_labels", "_law_deep"]) (T : Txt K mg) (CC : Cal P w K mg base 1 "_law_cast" spCast) (CP : Cal P w K mg base 2 "_law_pick" (spPick K)) (CD : Cal P w K mg base 3 "_law_any_deed" (spDeedL K))
    (CT : Cal P w K mg base lv "_law_any_term" (spAnyT K n)) (CA : Cal P w K mg base (lv + 1) "_law_any_answer" (spAnsL K n)) : Cal P w K mg base (lv + 2) "_law_any_term" (spAnyT K (n + 1)) := by
  refine D.cal (k := lv + 1) (N := ["_law_die", "_law_plan", "_law_own", "_law_labels", "_law_deep", "_law_names", "_law_ways", "_law_way", "_law_many", "_law_some", "_law_name", "_law_given", "_law_label", "_law_turn", "_law_one"]) (by decide +kernel) (fun vs H Q E h => ?_) fun f cdv A outer s H vs Q E hr nd h => ?_
  · obtain ⟨d, p, D, F, o, l, c, own, ls, L, m, rfl, _⟩ := h
    rfl
  obtain ⟨d, p, D, F, o, l, c, own, ls, L, m, rfl, AE, hd, ndF, hF, hLl, hLn, h1, hn, h5, h50, q⟩ := h
  have bk := fun (own : List (Str × Nat)) (scope : Scope) => blkOk_by (N := NT) (sc := defScope (top 70)) (own := own) (scope := scope)
  refine ⟨_, pss_cons (ps_asg (pe_disp (pps_cons pe_str (pv 2) (pps_cons pe_str (pv 3) (pps_cons pe_str (pe_dget (hu_of hr) (pv 1) pe_str (fun _ _ => rfl)) pps_nil))) (by rfl) (by rfl) (fun z => by cases z) (by decide)) (pg_name (i := 5) nd rfl (Or.inl rfl)))
    (pss_cons (ps_asg (pe_op op_cat (pe_op op_cat (pe_lst (pa_cons pe_str (pa_cons pe_str pa_nil))) (pe_op op_rep (pe_lst (pa_cons pe_str pa_nil)) (pe_op op_mul pe_int (p_int1 T (pe_cmpR (op_ne_nil hr.units0) (pv 2) (pe_tup pa_nil) rfl))))) (pe_op op_rep (pe_lst (pa_cons pe_str pa_nil)) (p_int1 T (pe_cmpR (op_ne_nil hr.units0) (pv 3) (pe_tup pa_nil) rfl)))) (pg_name (i := 6) nd rfl (Or.inl rfl)))
    (pss_cons (ps_asg (pe_op op_cat (pv 6) (pe_op op_rep (pe_lst (pa_cons pe_str pa_nil)) (p_int1 T (pe_cmpR (op_ne_nil hr.units0) (pe_dget (hu_of hr) (pv 1) pe_str (fun _ _ => rfl)) (pe_tup pa_nil) rfl)))) (pg_name (i := 6) nd rfl (Or.inl rfl)))
    (pss_cons (ps_if (pt_cmpR op_gt (pv 4) pe_int (nomark _))
      (pss_cons (ps_asg (pe_op op_cat (pv 6) (pe_lst (pa_cons pe_str (pa_cons pe_str (pa_cons pe_str (pa_cons pe_str (pa_cons pe_str (pa_cons pe_str (pa_cons pe_str (pa_cons pe_str pa_nil)))))))))) (pg_name (i := 6) nd rfl (Or.inl rfl)))
      (pss_one (ps_asg (pe_op op_cat (pv 6) (pe_op op_rep (pe_lst (pa_cons pe_str pa_nil)) (p_int1 T (pe_cmpR (op_ne_nil hr.units0) (pe_dget (hu_of hr) (pv 1) pe_str (fun _ _ => rfl)) (pe_tup pa_nil) rfl)))) (pg_name (i := 6) nd rfl (Or.inl rfl))))) pss_nil)
    (pss_cons (ps_asg (pe_c CP hr (by omega) (pa_cons (pv 0) (pa_cons (pv 6) pa_nil))) (pg_name (i := 7) nd rfl (Or.inl rfl)))
    (pss_cons (ps_if (pt_cmp (pc_din (hu_of hr) (pv 7) (pv 5))) (pss_one (ps_ret (pe_tup (pa_cons (pv 7) (pa_cons (pe_c CP hr (by omega) (pa_cons (pv 0) (pa_cons (pe_dget (hu_of hr) (pv 5) (pv 7) (fun _ _ => rfl)) pa_nil))) pa_nil))))) pss_nil)
    (pss_cons (ps_if (pt_cmpR op_in_seq (pv 7) (pe_tup (pa_cons pe_str (pa_cons pe_str (pa_cons pe_str (pa_cons pe_str pa_nil))))) rfl)
      (pss_cons (ps_asg (pe_ifExp (pt_cmpR op_eq (pv 7) pe_str (nomark _)) (pe_dget (hu_of hr) (pv 1) pe_str (fun _ _ => rfl)) (pe_op op_add (pe_c CC hr (by omega) (pa_cons (pv 0) (pa_cons pe_int pa_nil))) (p_int1 T (pe_cmpR op_ne (pv 7) pe_str (nomark _))))) (pg_name (i := 8) nd rfl (Or.inl rfl)))
      (pss_cons (ps_setLc (i := 9) (own := [("_law_turn", 13)]) (g := gName 13) (tt := tYes) rfl nd rfl rfl rfl (pi_range1 rfl T.range (pa_cons (pv 8) pa_nil)) (bk _ _ (by decide +kernel))
        (fun _ _ _ _ _ => pg_name (i := 13) nd rfl (Or.inl rfl)) (fun _ _ _ _ _ => pts_nil) (fun _ _ _ _ _ => pe_c CT hr (by omega) (pa_cons (pv 0) (pa_cons (pv 1) (pa_cons (pv 2) (pa_cons (pv 3) (pa_cons (pe_op op_sub (pv 4) pe_int) pa_nil)))))))
      (pss_one (ps_ret (pe_op op_catA (pe_tup (pa_cons (pv 7) pa_nil)) (pe_callTy call_tuple_of rfl T.tuple boot_tuple (pa_cons (pv 9) pa_nil))))))) pss_nil)
    (pss_cons (ps_if (pt_cmpR op_eq (pv 7) pe_str (nomark _))
      (pss_cons (ps_asg (pe_c CP hr (by omega) (pa_cons (pv 0) (pa_cons (pe_callB (call_sortedD rfl) rfl T.sorted boot_sorted (pa_cons (pe_dget (hu_of hr) (pv 1) pe_str (fun _ _ => rfl)) pa_nil)) pa_nil))) (pg_name (i := 10) nd rfl (Or.inl rfl)))
      (pss_cons (ps_setLc (i := 11) (own := [("_law_one", 14)]) (g := gName 14) (tt := tYes) rfl nd rfl rfl rfl (pi_tup (pe_dget (hu_of hr) (pe_dget (hu_of hr) (pv 1) pe_str (fun _ _ => rfl)) (pv 10) (fun _ _ => rfl))) (bk _ _ (by decide +kernel))
        (fun _ _ _ _ _ => pg_name (i := 14) nd rfl (Or.inl rfl)) (fun _ _ _ _ _ => pts_nil) (fun _ _ _ _ _ => pe_c CT hr (by omega) (pa_cons (pv 0) (pa_cons (pv 1) (pa_cons (pv 2) (pa_cons (pv 3) (pa_cons (pe_op op_sub (pv 4) pe_int) pa_nil)))))))
      (pss_one (ps_ret (pe_op op_catA (pe_tup (pa_cons pe_str (pa_cons (pv 10) pa_nil))) (pe_callTy call_tuple_of rfl T.tuple boot_tuple (pa_cons (pv 11) pa_nil))))))) pss_nil)
    (pss_cons (ps_if (PW.pt (pw_and (pt_cmpR op_eq (pv 7) pe_str (nomark _)) (pw_and1 (pt_cmpR (op_ne_nil hr.units0) (pe_dget (hu_of hr) (pv 1) pe_str (fun _ _ => rfl)) (pe_lst pa_nil) rfl))))
      (pss_cons (ps_asg (p_pop K (pe_dget (hu_of hr) (pv 1) pe_str (fun _ _ => rfl))) (pg_name (i := 12) nd rfl (Or.inl rfl)))
      (pss_one (ps_ret (pe_tup (pa_cons pe_str (pa_cons (pv 12) (pa_cons (pe_c CT hr (by omega) (pa_cons (pv 0) (pa_cons (pv 1) (pa_cons (pv 2) (pa_cons (pe_op op_catA (pv 3) (pe_tup (pa_cons (pv 12) pa_nil))) (pa_cons (pe_op op_sub (pv 4) pe_int) pa_nil)))))) pa_nil))))))) pss_nil)
    (pss_one (ps_ret (pe_ifExp (pt_cmpR op_eq (pv 7) pe_str (nomark _)) (pe_c CA hr (Nat.le_refl _) (pa_cons (pv 0) (pa_cons (pv 1) (pa_cons (pv 2) (pa_cons (pv 3) (pa_cons (pv 4) pa_nil)))))) (pe_c CD hr (by omega) (pa_cons (pv 0) (pa_cons (pv 1) pa_nil)))))))))))))), ?_⟩
  have okc := AE.ok
  have st0 : GenSt d F L [] H := ⟨hd, L, [], hF, by simp, .nil⟩
  obtain ⟨kvs, sa, g1, g2, g3, g4, g5, g6, g7⟩ := AE.pl
  refine r_seq (r_asg ?_)
  refine r_disp fun p5 hp5 => ?_
  have x0 : Ex H (upd H p5 (.dK [])) := Ex.new hp5
  refine r_pc ?_
  walk_at "rds"
  refine r_pc ?_
  walk_at "rds"
  refine r_pc ?_
  walk_at "rds"
  refine r_dget ?_
  walk_at "rds"
  refine r_key (x0 _ _ g1) g3 ?_
  refine r_pn ?_
  refine ⟨upd_same, [(keyS "run", .ref o), (keyS "exit", .ref l), (keyS "raise", .ref sa)], rfl, (by decide : (3 : Nat) ≤ 15), ?_⟩
  have e1 : Ex H (upd (upd H p5 (.dK [])) p5 (.dK (nm3 (.ref o) (.ref l) (.ref sa)))) := Ex.mut x0 hp5
  have w5 : (upd (upd H p5 (.dK [])) p5 (.dK (nm3 (.ref o) (.ref l) (.ref sa)))) p5 = some (.dK (nm3 (.ref o) (.ref l) (.ref sa))) := upd_same
  replace e1 : Ex H (upd (upd H p5 (.dK [])) p5 (.dK (mergeK [] [(keyS "run", .ref o), (keyS "exit", .ref l), (keyS "raise", .ref sa)]))) := e1
  replace w5 : (upd (upd H p5 (.dK [])) p5 (.dK (mergeK [] [(keyS "run", .ref o), (keyS "exit", .ref l), (keyS "raise", .ref sa)]))) p5 = some (.dK (nm3 (.ref o) (.ref l) (.ref sa))) := w5
  generalize upd (upd H p5 (.dK [])) p5 (.dK (mergeK [] [(keyS "run", .ref o), (keyS "exit", .ref l), (keyS "raise", .ref sa)])) = H1 at *
  have A1 := AE.ex e1
  refine r_name ?_
  dsimp only
  refine r_seq (r_asg ?_)
  refine evs_cat (evs_cat (evs_lst (zs := ["do", "do"]) (by decide) fun QL q => q) (fun H' e' => evs_rep (evs_lst (zs := ["run"]) (by decide) fun QL q => q) (fun H2 e2 => evn_3 (evn_neS (fun Q q => ⟨_, rfl, q⟩) (ex_t (e'.trans e2) A1.so))) (by have := b2n_le (!own.isEmpty); omega)) (by have := b2n_le (!own.isEmpty); simp; omega))
    (fun H' e' => evs_rep (evs_lst (zs := ["exit"]) (by decide) fun QL q => q) (fun H2 e2 => evn_neS (fun Q q => ⟨_, rfl, q⟩) (ex_t (e'.trans e2) A1.sl)) (by have := b2n_le (!ls.isEmpty); omega)) (by have := b2n_le (!own.isEmpty); have := b2n_le (!ls.isEmpty); simp; omega) _ fun W1 H2 e2 w2 => ?_
  refine r_name ?_
  dsimp only
  refine r_seq (r_asg ?_)
  refine evs_cat (evs_var rfl w2) (fun H' e' => evs_rep (evs_lst (zs := ["raise"]) (by decide) fun QL q => q) (fun H3 e3 => evn_neS (a := sa) (fun Q q => r_dget ⟨_, rfl, r_key ((e1.trans e2).trans (e'.trans e3) _ _ g1) g3 q⟩) (ex_t ((e1.trans e2).trans (e'.trans e3)) g4)) (by have := b2n_le (!c.sigs.isEmpty); omega)) (by have := b2n_le (!own.isEmpty); have := b2n_le (!ls.isEmpty); have := b2n_le (!c.sigs.isEmpty); simp; omega) _ fun W2 H3 e3 w3 => ?_
  refine r_name ?_
  dsimp only
  have w3 : H3 W2 = some (.lst ((ways0 c own ls).map V.str)) := w3
  refine r_seq (r_cutS (fun σ' H' => ∃ (W : Addr) (ws : List Str), σ' = [some (.ref d), some (.ref p), some (.ref o), some (.ref l), some (.int (m : Nat)), some (.ref p5), some (.ref W), none, none, none, none, none, none, none, none] ∧ Ex H1 H' ∧ H' W = some (.lst (ws.map V.str)) ∧ ws ≠ [] ∧ ws.length ≤ 16 ∧ ∀ x ∈ ws, WayOk c own ls m x) (fun D' k => ?_) ?_)
  · walk_at "rds"
    by_cases hm2 : 2 ≤ m
    · refine r_yes (by omega) ?_
      refine r_seq (r_asg ?_)
      refine evs_cat (evs_var rfl w3) (fun H' e' => evs_lst (zs := ["seq", "seq", "or", "and", "case", "call", "call", "scope"]) (by decide) fun QL q => q) (by have := ways0_len c own ls; simp only [List.length_cons, List.length_nil]; omega) _ fun W4 H4 e4 w4 => ?_
      refine r_name ?_
      dsimp only
      refine r_asg ?_
      refine evs_cat (evs_var rfl w4) (fun H' e' => evs_rep (evs_lst (zs := ["answer"]) (by decide) fun QL q => q) (fun H5 e5 => evn_neS (a := sa) (fun Q q => r_dget ⟨_, rfl, r_key ((((e1.trans e2).trans e3).trans e4).trans (e'.trans e5) _ _ g1) g3 q⟩) (ex_t ((((e1.trans e2).trans e3).trans e4).trans (e'.trans e5)) g4)) (by have := b2n_le (!c.sigs.isEmpty); omega))
        (by have := ways0_len c own ls; have := b2n_le (!c.sigs.isEmpty); simp only [List.length_append, List.length_replicate, List.length_cons, List.length_nil]; omega) _ fun W5 H5 e5 w5' => ?_
      refine r_name ?_
      exact k _ _ ⟨W5, ways1 c own ls, rfl, (e2.trans e3).trans (e4.trans e5), w5', by simp [ways1, ways0], ways1_len c own ls, fun x hx => ways1_ok hm2 hx⟩
    · refine r_no (by omega) ?_
      exact k _ _ ⟨W2, ways0 c own ls, rfl, e2.trans e3, w3, by simp [ways0], by have := ways0_len c own ls; omega, fun x hx => ways0_ok hx⟩
  rintro _ H4 ⟨W, ws, rfl, e4, w4, hne, hwl, hws⟩
  dsimp only
  walk_at "rds"
  have d4 : DieAt H4 d := hd.ex (e1.trans e4)
  refine ⟨d, W, _, rfl, d4, .inl ⟨SqL.of w4, die_ne d4 w4 hne⟩, fun z => hne (List.map_eq_nil_iff.mp z), by rw [List.length_map]; omega, fun x H5 hx e5 d5 => ?_⟩
  obtain ⟨way, hway, rfl⟩ := List.mem_map.mp hx
  have hok := hws way hway
  have e05 : Exm [d, F] H H5 := (Exm.of (e1.trans e4)).trans (e5.sub (by simp))
  have A5 := AE.stay st0 e05
  have st5 : GenSt d F L [] H5 := (st0.ex (e1.trans e4)).die' ndF e5 d5
  have n5 : p5 ∉ [d] := fun z => by
    rw [List.mem_singleton.mp z] at hp5
    obtain ⟨a, b, z, q⟩ := hd
    rw [hp5] at q
    cases q
  have w55 := e5 _ _ n5 (e4 _ _ w5)
  have done : ∀ v t H', Exm [d, F] H5 H' → GenSt d F L [t] H' → GenR K c own ls m v t H' → Q v H' := fun v t H' e st r => q v t H' (e05.trans e) st r
  clear q hws hway w4 hne hwl e4 w5 w3 e3 w2 e2 A1
  have name := nm3_at (.ref o) (.ref l) (.ref sa) way
  have dget : ∀ {R : V → Prop} {v : V}, valV (nm3 (.ref o) (.ref l) (.ref sa)) (keyS way) = some v → R v → ∃ a u, V.ref p5 = .ref a ∧ DGet H5 a (.str way) (some u) ∧ R u := fun hv q => r_key w55 hv q
  -- a name: run, exit, raise
  have leaf : ∀ (zs : List Str) (b : Addr), valV (nm3 (.ref o) (.ref l) (.ref sa)) (keyS way) = some (.ref b) → SqT K H5 b (zs.map V.str) → zs ≠ [] → zs.length ≤ 100 → (∀ z ∈ zs, okN (pcfg c) own ls (.nam way z)) →
      tRet (tTup (tCons (tVar 7) (tCons (tCall (spPick K) [] E0 (tCons (tVar 0) (tCons (tDGet (tVar 5) (tVar 7)) tNil))) tNil))) { nx := fun _ _ => True, rt := Q } [some (.ref d), some (.ref p), some (.ref o), some (.ref l), some (.int (m : Nat)), some (.ref p5), some (.ref W), some (.str way), none, none, none, none, none, none, none] H5 := fun zs b hv hb hz hl hok => by
    walk_at "rds"
    refine r_dget ?_
    walk_at "rds"
    refine dget hv ?_
    refine ⟨d, b, _, rfl, d5, .inr hb, fun z => hz (List.map_eq_nil_iff.mp z), by rw [List.length_map]; omega, fun x H6 hx e6 d6 => ?_⟩
    obtain ⟨z, hzm, rfl⟩ := List.mem_map.mp hx
    walk_at "rds"
    refine ⟨(by decide : (2 : Nat) ≤ sizeLine), fun r hr' => ?_⟩
    have x7 := Ex.new (o := HO.tup [.str way, .str z]) hr'
    refine done _ (.nam way z) _ ((e6.sub (by simp)).trans (.of x7)) (gen_leaf ((st5.die' ndF e6 d6).ex x7) (by rw [labs_eq]; rfl)) ⟨?_, ?_, ?_, size1 rfl h1⟩
    · simp only [toD]
      exact .tup (SqT.of upd_same) (.cons (.str _) (.cons (.str _) .nil))
    · exact hok z hzm
    · simp only [dep]; omega
  have hit : ∀ {v : V} {R : Option V → Prop}, valV (nm3 (.ref o) (.ref l) (.ref sa)) (keyS way) = some v → R (some v) → ∃ a o, V.ref p5 = .ref a ∧ DGet H5 a (.str way) o ∧ R o := fun {v R} hv q => ⟨p5, some v, rfl, by have := DGet.k (k := keyS way) w55; rw [hv] at this; exact this, q⟩
  have mis : ∀ {R : Option V → Prop}, valV (nm3 (.ref o) (.ref l) (.ref sa)) (keyS way) = none → R none → ∃ a o, V.ref p5 = .ref a ∧ DGet H5 a (.str way) o ∧ R o := fun {R} hv q => ⟨p5, none, rfl, by have := DGet.k (k := keyS way) w55; rw [hv] at this; exact this, q⟩
  refine r_name ?_
  dsimp only
  walk_at "rds"
  refine r_din ?_
  walk_at "rds"
  have key : WayOk c own ls m way → valV (nm3 (.ref o) (.ref l) (.ref sa)) (keyS way) = none ∨ ((way = "run" ∧ own ≠ []) ∨ (way = "exit" ∧ ls ≠ []) ∨ (way = "raise" ∧ c.sigs ≠ [])) := fun _ => by
    by_cases r1 : way = "raise"
    · subst r1
      rcases hok with h | ⟨h, _⟩ | ⟨h, _⟩ | ⟨_, h⟩ | ⟨_, h⟩ | ⟨_, h, _⟩
      · exact absurd h (by decide +kernel)
      · exact absurd h (by decide +kernel)
      · exact absurd h (by decide +kernel)
      · exact .inr (.inr (.inr ⟨rfl, h⟩))
      · rcases h with h | h | h | h | h | h <;> exact absurd h (by decide +kernel)
      · exact absurd h (by decide +kernel)
    by_cases r2 : way = "exit"
    · subst r2
      rcases hok with h | ⟨h, _⟩ | ⟨_, h⟩ | ⟨h, _⟩ | ⟨_, h⟩ | ⟨_, h, _⟩
      · exact absurd h (by decide +kernel)
      · exact absurd h (by decide +kernel)
      · exact .inr (.inr (.inl ⟨rfl, h⟩))
      · exact absurd h (by decide +kernel)
      · rcases h with h | h | h | h | h | h <;> exact absurd h (by decide +kernel)
      · exact absurd h (by decide +kernel)
    by_cases r3 : way = "run"
    · subst r3
      rcases hok with h | ⟨_, h⟩ | ⟨h, _⟩ | ⟨h, _⟩ | ⟨_, h⟩ | ⟨_, h, _⟩
      · exact absurd h (by decide +kernel)
      · exact .inr (.inl ⟨rfl, h⟩)
      · exact absurd h (by decide +kernel)
      · exact absurd h (by decide +kernel)
      · rcases h with h | h | h | h | h | h <;> exact absurd h (by decide +kernel)
      · exact absurd h (by decide +kernel)
    rw [name, if_neg r1, if_neg r2, if_neg r3]
    exact .inl rfl
  rcases key hok with hv | ⟨rfl, h⟩ | ⟨rfl, h⟩ | ⟨rfl, h⟩
  rotate_left
  · have hv : valV (nm3 (.ref o) (.ref l) (.ref sa)) (keyS "run") = some (.ref o) := by rw [nm3_at, if_neg (by decide +kernel), if_neg (by decide +kernel), if_pos rfl]
    refine hit hv ⟨true, rfl, iteT ?_⟩
    exact leaf own o hv A5.so h (by have := A5.ol; omega) fun z hz => ⟨A5.ow z hz, .inl ⟨rfl, hz⟩⟩
  · have hv : valV (nm3 (.ref o) (.ref l) (.ref sa)) (keyS "exit") = some (.ref l) := by rw [nm3_at, if_neg (by decide +kernel), if_pos rfl]
    refine hit hv ⟨true, rfl, iteT ?_⟩
    exact leaf ls l hv A5.sl h A5.ll fun z hz => ⟨A5.lb z hz, .inr (.inl ⟨rfl, hz⟩)⟩
  · have hv : valV (nm3 (.ref o) (.ref l) (.ref sa)) (keyS "raise") = some (.ref sa) := by rw [nm3_at, if_pos rfl]
    refine hit hv ⟨true, rfl, iteT ?_⟩
    exact leaf c.sigs sa hv (kx_t (e05.kx st0.mo) g4) h (by have := okc.sg.2.2; omega) fun z hz => ⟨okc.sg.1 z hz, .inr (.inr ⟨rfl, hz⟩)⟩
  refine mis hv ⟨false, rfl, iteF ?_⟩
  clear hit mis leaf dget name key
  walk_at "rds"
  refine r_inD (zs := ["seq", "or", "and", "case"]) (by decide) fun H6 e6 => ?_
  have A6 := A5.ex e6
  have st6 := st5.ex e6
  replace done : ∀ v t H', Exm [d, F] H6 H' → GenSt d F L [t] H' → GenR K c own ls m v t H' → Q v H' := fun v t H' e st r => done v t H' ((Exm.of e6).trans e) st r
  have d6 := d5.ex e6
  clear e6 A5 st5 e05
  have hsub : 2 ≤ m → ((m : Nat) : Int) - 1 = ((m - 1 : Nat) : Int) := fun h => by omega
  by_cases hser : way ∈ (["seq", "or", "and", "case"] : List Str)
  · refine r_bl (r_yes hser ?_)
    have hm2 : 2 ≤ m := by
      rcases hok with rfl | ⟨rfl, _⟩ | ⟨rfl, _⟩ | ⟨rfl, _⟩ | ⟨h, _⟩ | ⟨h, _⟩
      · exact absurd hser (by decide +kernel)
      · exact absurd hser (by decide +kernel)
      · exact absurd hser (by decide +kernel)
      · exact absurd hser (by decide +kernel)
      · exact h
      · exact h
    have hw4 : way = "seq" ∨ way = "or" ∨ way = "and" ∨ way = "case" := by simpa using hser
    refine r_seq (r_asg (r_cutH (fun x H' => ∃ k : Nat, x = .int (k : Nat) ∧ k ≤ 3 ∧ (way = "seq" ∨ ((way = "or" ∨ way = "and") ∧ k ≠ 0) ∨ (way = "case" ∧ k = c.modes)) ∧ Exm [d] H6 H' ∧ DieAt H' d) (fun Q' k => ?_) ?_))
    · walk_at "rds"
      by_cases hc : way = "case"
      · refine r_eq rfl (r_bl (r_yes (by rw [hc]) ?_))
        refine r_dget ?_
        walk_at "rds"
        obtain ⟨kvs', sa', k1, k2, _⟩ := A6.pl
        refine r_key k1 k2 ?_
        exact k _ _ ⟨c.modes, rfl, okc.m3, .inr (.inr ⟨hc, rfl⟩), Exm.refl _ _, d6⟩
      · refine r_eq rfl (r_bl (r_no (fun z => hc (V.str.inj z)) ?_))
        walk_at "rds"
        refine ⟨d, 3, rfl, d6, by decide, by decide, fun j H7 hj e7 d7 => ?_⟩
        walk_at "rds"
        refine r_ne rfl ?_
        walk_at "rds"
        refine r_int1b ?_
        walk_at "rds"
        by_cases hs : way = "seq"
        · refine k _ _ ⟨j, ?_, by omega, .inl hs, e7, d7⟩
          rw [decide_eq_true (show V.str way = V.str "seq" by rw [hs])]
          simp
        · refine k _ _ ⟨j + 1, ?_, by omega, .inr (.inl ⟨?_, by omega⟩), e7, d7⟩
          · rw [decide_eq_false (show ¬ V.str way = V.str "seq" from fun z => hs (V.str.inj z))]
            simp
          · rcases hw4 with h | h | h | h
            · exact absurd h hs
            · exact .inl h
            · exact .inr h
            · exact absurd h hc
    rintro _ H7 ⟨k, rfl, hk3, hkw, e7, d7⟩
    refine r_name ?_
    dsimp only
    have e67 : Exm [d, F] H6 H7 := e7.sub (by simp)
    have A7 := A6.stay st6 e67
    have st7 := st6.die' ndF e7 d7
    walk_at "rds"
    refine r_iR1 ?_
    walk_at "rds"
    refine ⟨(k : Nat), rfl, by omega, by omega, ?_⟩
    refine lc_mu (α := Tm) (n := k) over_range [d, F] (fun _ _ => trivial) (fun gs H => GenSt d F L gs H) (fun y g H => GenR K c own ls (m - 1) y g H) (fun gs H H' h e => h.eq e) (fun gs H h => h.mo) (fun y g H H' kx h => h.kx kx) st7 (small (by omega)) (fun i x H8 gs hi hg e8 st8 hx Q q => ?_) fun D9 H8 ys gs hD9 e8 w8 hg st8 hpw => ?_
    · refine r_name ⟨rfl, ?_⟩
      walk_at "rds"
      rw [hsub hm2]
      exact any_step A7 st7 ndF e8 st8 hLl hLn (by omega) (by omega) (by omega) (by omega) q
    refine r_name ?_
    dsimp only
    walk_at "rds"
    refine ⟨(by decide : (1 : Nat) ≤ sizeLine), fun p8 hp8 => ?_⟩
    have x8 : Ex H8 (upd H8 p8 (.tup [.str way])) := Ex.new hp8
    have y8 : SqT K (upd H8 p8 (.tup [.str way])) p8 [.str way] := SqT.of upd_same
    generalize upd H8 p8 (.tup [.str way]) = H9 at *
    walk_at "rds"
    refine ⟨D9, ys, rfl, .inl ⟨SqL.of (x8 _ _ w8), fun o9 ho9 => ?_⟩⟩
    have x9 : Ex H9 (upd H9 o9 (.tup ys)) := Ex.new ho9
    have y9 : SqT K (upd H9 o9 (.tup ys)) o9 ys := SqT.of upd_same
    generalize upd H9 o9 (.tup ys) = H10 at *
    have hyl : ys.length = k := by rw [hpw.1, hg]
    refine r_catA (ex_t x9 y8) y9 (by rw [hyl, List.length_singleton]; omega) fun q H11 e11 h11 => ?_
    have x11 : Ex H8 H11 := (x8.trans x9).trans e11
    have hall := pw_all hpw
    refine done _ (.ser way gs) _ (e67.trans (e8.trans (.of x11))) (gen_node (st8.ex x11) (by rw [labs_eq]; rfl)) ⟨?_, ?_, ?_, ?_⟩
    · simp only [toD]
      exact .tup h11 (.cons (.str _) (DpAll.ex x11 _ _ (pw_dpa hpw)))
    · refine wf_iff.mpr ⟨?_, fun u hu => (hall u hu).1⟩
      rcases hkw with h | ⟨h, hk0⟩ | ⟨h, hkm⟩
      · exact .inl h
      · exact .inr (.inl ⟨h, fun e => hk0 (by rw [← hg, e]; rfl)⟩)
      · exact .inr (.inr ⟨h, by rw [hg, hkm]; rfl⟩)
    · have := deps_le fun u hu => (hall u hu).2.1
      simp only [dep]
      omega
    · have := gen_sz (t := .ser way gs) (m := m - 1) (by show gs.length ≤ 3; omega) fun u hu => (hall u hu).2.2
      rwa [show m - 1 + 1 = m by omega] at this
  refine r_bl (r_no hser ?_)
  walk_at "rds"
  by_cases hcall : way = "call"
  · refine r_eq rfl (r_bl (r_yes (by rw [hcall]) ?_))
    subst hcall
    have hm2 : 2 ≤ m := by
      rcases hok with h | ⟨h, _⟩ | ⟨h, _⟩ | ⟨h, _⟩ | ⟨h, _⟩ | ⟨h, _⟩
      · exact absurd h (by decide +kernel)
      · exact absurd h (by decide +kernel)
      · exact absurd h (by decide +kernel)
      · exact absurd h (by decide +kernel)
      · exact h
      · exact h
    obtain ⟨kvs', sa', k1, k2, k3, k4, k5, k6, ⟨hk, f1, f2, f3⟩⟩ := id A6.pl
    have hhl : hk.length = c.heads.length := by
      have := congrArg List.length f2
      rwa [List.length_map, List.length_map] at this
    walk_at "rds"
    refine r_dget ?_
    walk_at "rds"
    refine r_key k1 k5 ?_
    walk_at "rds"
    refine ⟨D, hk, c.heads.map (·.1), rfl, .inl f1, by rw [f2, List.map_map]; rfl, by rw [List.length_map]; have := okc.hd.2.2.2; omega, fun zs ps hperm _ hps => ?_⟩
    have x7 : Ex H6 (upd H6 ps (.lst (zs.map V.str))) := Ex.new hps
    have y7 : (upd H6 ps (.lst (zs.map V.str))) ps = some (.lst (zs.map V.str)) := upd_same
    generalize upd H6 ps (.lst (zs.map V.str)) = H7 at *
    have d7 := d6.ex x7
    have hzl : zs.length = c.heads.length := by rw [hperm.length_eq, List.length_map]
    have hz0 : zs ≠ [] := fun e => okc.hd.2.2.1 (by rw [e] at hzl; exact List.eq_nil_of_length_eq_zero hzl.symm)
    walk_at "rds"
    refine ⟨d, ps, _, rfl, d7, .inl ⟨SqL.of y7, die_ne d7 y7 hz0⟩, fun z => hz0 (List.map_eq_nil_iff.mp z), by rw [List.length_map, hzl]; have := okc.hd.2.2.2; omega, fun x H8 hx8 e8 d8 => ?_⟩
    obtain ⟨name, hname, rfl⟩ := List.mem_map.mp hx8
    obtain ⟨hh, hhm, rfl⟩ := List.mem_map.mp (hperm.mem_iff.mp hname)
    have e68 : Exm [d, F] H6 H8 := (Exm.of x7).trans (e8.sub (by simp))
    have A8 := A6.stay st6 e68
    have st8 := (st6.ex x7).die' ndF e8 d8
    refine r_name ?_
    dsimp only
    walk_at "rds"
    refine r_dget ?_
    refine r_dget ?_
    walk_at "rds"
    obtain ⟨kvs8, sa8, m1, m2, m3, m4, m5, m6, ⟨hk8, n1, n2, n3⟩⟩ := id A8.pl
    refine r_key m1 m5 ?_
    walk_at "rds"
    obtain ⟨ih, hih, eih⟩ := List.getElem_of_mem hhm
    obtain ⟨ao, n4, n5'⟩ := n3 ih hh (by rw [List.getElem?_eq_getElem hih, eih])
    have hnd : (hk8.map (·.1)).Nodup := by
      rw [n2]
      have := okc.hd.2.1
      rw [show c.heads.map (fun h => keyS h.1) = (c.heads.map (·.1)).map keyS by rw [List.map_map]; rfl]
      exact List.Pairwise.map _ (fun a b h e => h (keyS_inj.mp e)) this
    refine r_key n1 (val_nodup hnd n4) ?_
    have hol : hh.2.length ≤ 2 := (okc.hd.1 hh hhm).2
    refine ⟨ao, rfl, ⟨_, n5'⟩, lc_mu (α := Tm) (n := hh.2.length) (by have := over_tup (K := K) (a := ao) (xs := hh.2.map V.str); rwa [List.length_map] at this) [d, F] (fun H' e' => kx_t (e'.kx st8.mo) n5') (fun gs H => GenSt d F L gs H) (fun y g H => GenR K c own ls (m - 1) y g H) (fun gs H H' h e => h.eq e) (fun gs H h => h.mo) (fun y g H H' kx h => h.kx kx) st8 (small (by omega)) (fun i x H9 gs hi hg e9 st9 hx Q q => ?_) fun D9 H9 ys gs hD9 e9 w9 hg st9 hpw => ?_⟩
    · refine r_name ⟨rfl, ?_⟩
      walk_at "rds"
      rw [hsub hm2]
      exact any_step A8 st8 ndF e9 st9 hLl hLn (by omega) (by omega) (by omega) (by omega) q
    refine r_name ?_
    dsimp only
    walk_at "rds"
    refine ⟨(by decide : (2 : Nat) ≤ sizeLine), fun p8 hp8 => ?_⟩
    have x8 : Ex H9 (upd H9 p8 (.tup [.str "call", .str hh.1])) := Ex.new hp8
    have y8 : SqT K (upd H9 p8 (.tup [.str "call", .str hh.1])) p8 [.str "call", .str hh.1] := SqT.of upd_same
    generalize upd H9 p8 (.tup [.str "call", .str hh.1]) = H10 at *
    walk_at "rds"
    refine ⟨D9, ys, rfl, .inl ⟨SqL.of (x8 _ _ w9), fun o9 ho9 => ?_⟩⟩
    have x9 : Ex H10 (upd H10 o9 (.tup ys)) := Ex.new ho9
    have y9 : SqT K (upd H10 o9 (.tup ys)) o9 ys := SqT.of upd_same
    generalize upd H10 o9 (.tup ys) = H11 at *
    have hyl : ys.length = hh.2.length := by rw [hpw.1, hg]
    refine r_catA (ex_t x9 y8) y9 (by rw [hyl]; simp; omega) fun q H12 e12 h12 => ?_
    have x12 : Ex H9 H12 := (x8.trans x9).trans e12
    have hall := pw_all hpw
    refine done _ (.cal hh.1 gs) _ (e68.trans (e9.trans (.of x12))) (gen_node (st9.ex x12) (by rw [labs_eq]; rfl)) ⟨?_, ?_, ?_, ?_⟩
    · simp only [toD]
      exact .tup h12 (.cons (.str _) (.cons (.str _) (DpAll.ex x12 _ _ (pw_dpa hpw))))
    · refine wf_iff.mpr ⟨⟨(okc.hd.1 hh hhm).1, ?_⟩, fun u hu => (hall u hu).1⟩
      rw [hg]
      exact lookup_heads okc.hd.2.1 hhm
    · have := deps_le fun u hu => (hall u hu).2.1
      simp only [dep]
      omega
    · have := gen_sz (t := .cal hh.1 gs) (m := m - 1) (by show gs.length ≤ 3; omega) fun u hu => (hall u hu).2.2
      rwa [show m - 1 + 1 = m by omega] at this
  refine r_eq rfl (r_bl (r_no (fun z => hcall (V.str.inj z)) ?_))
  walk_at "rds"
  -- a deed
  have deed : ∀ (H7 : Hp), Ex H6 H7 → spDeedL K [.ref d, .ref p] H7 Q E0 := fun H7 e7 => by
    refine ⟨d, p, D, F, c, rfl, d6.ex e7, A6.pl.ex e7, okc, fun v H' x tab e' d' f1 f2 f3 f4 => ?_⟩
    refine done v (.act x tab) H' ((Exm.of e7).trans (e'.sub (by simp))) (gen_leaf ((st6.ex e7).die' ndF e' d') (by rw [labs_eq]; rfl)) ⟨f4, ?_, ?_, size1 rfl h1⟩
    · exact ⟨f1, f2, f3⟩
    · simp only [dep]; omega
  by_cases hsc : way = "scope"
  · refine r_eq rfl (r_bl (r_yes (by rw [hsc]) ?_))
    subst hsc
    have hm2 : 2 ≤ m := by
      rcases hok with h | ⟨h, _⟩ | ⟨h, _⟩ | ⟨h, _⟩ | ⟨h, _⟩ | ⟨h, _⟩
      · exact absurd h (by decide +kernel)
      · exact absurd h (by decide +kernel)
      · exact absurd h (by decide +kernel)
      · exact absurd h (by decide +kernel)
      · exact h
      · exact h
    obtain ⟨kvs', sa', k1, k2, k3, k4, k5, k6, k7⟩ := id A6.pl
    obtain ⟨L', used, l1, l2, l3⟩ := st6.fr
    have hu : used = [] := List.Perm.nil_eq l3 |>.symm
    subst hu
    rw [List.append_nil] at l2
    subst l2
    walk_at "rds"
    refine r_dget ?_
    walk_at "rds"
    refine r_key k1 k6 ?_
    walk_at "rds"
    refine ⟨Nat.zero_le _, fun p7 hp7 => ?_⟩
    have x7 : Ex H6 (upd H6 p7 (.lst [])) := Ex.new hp7
    have y7 : (upd H6 p7 (.lst [])) p7 = some (.lst []) := upd_same
    generalize upd H6 p7 (.lst []) = H7 at *
    refine r_neNilL (SqL.of (x7 _ _ l1)) (SqL.of y7) (r_bl ?_)
    by_cases hL0 : L = []
    · subst hL0
      refine iteF ?_
      walk_at "rds"
      refine r_eq rfl (r_bl (r_no (fun z => absurd (show ("scope" : Str) = "answer" from V.str.inj z) (by decide +kernel)) ?_))
      walk_at "rds"
      exact deed H7 x7
    · refine iteN_ne (by cases L with | nil => exact absurd rfl hL0 | cons => rfl) ?_
      obtain ⟨L0, x, rfl⟩ : ∃ L0 x, L = L0 ++ [x] := ⟨L.dropLast, L.getLast hL0, (List.dropLast_concat_getLast hL0).symm⟩
      walk_at "rds"
      refine r_dget ?_
      walk_at "rds"
      refine r_key (x7 _ _ k1) k6 ?_
      have l7 := x7 _ _ l1
      have st7 := st6.ex x7
      refine ⟨ty_l l7, F, _, .str x, rfl, rfl, l7, by simp, ?_⟩
      have l8 : (upd H7 F (.lst (((L0 ++ [x]).map V.str).dropLast))) F = some (.lst (L0.map V.str)) := by rw [upd_same]; simp
      have e8 : Exm [d, F] H7 (upd H7 F (.lst (((L0 ++ [x]).map V.str).dropLast))) := (Exm.refl _ _).set (by simp)
      have d8 : DieAt (upd H7 F (.lst (((L0 ++ [x]).map V.str).dropLast))) d := (d6.ex x7).eq (upd_ne ndF)
      generalize upd H7 F (.lst (((L0 ++ [x]).map V.str).dropLast)) = H8 at *
      have A8 := (A6.ex x7).stay st7 e8
      refine r_name ?_
      dsimp only
      walk_at "rds"
      refine ⟨(by decide : (1 : Nat) ≤ sizeLine), fun p9 hp9 => ?_⟩
      have x9 : Ex H8 (upd H8 p9 (.tup [.str x])) := Ex.new hp9
      refine r_catA (ex_t x9 A8.sl) (SqT.of upd_same) (by rw [List.length_map]; have := A8.ll; simp; omega) fun l2 H9 e9 h9 => ?_
      have x89 := x9.trans e9
      walk_at "rds"
      rw [hsub hm2]
      have A9 := A8.ex x89
      refine ⟨d, p, D, F, o, l2, c, own, ls ++ [x], L0, m - 1, rfl, ⟨A9.pl, A9.so, by rw [List.map_append]; exact h9, okc, A9.ow, A9.ol, fun y hy => ?_, by rw [List.length_append, List.length_singleton]; omega⟩, d8.ex x89, ndF, x89 _ _ l8, by rw [List.length_append] at hLl; omega, fun y hy => hLn y (List.mem_append_left _ hy), by omega, by omega, by omega, by rw [List.length_append, List.length_singleton]; omega, fun v t H10 e10 st10 r10 => ?_⟩
      · rcases List.mem_append.mp hy with hy | hy
        · exact A9.lb y hy
        · exact hLn y (List.mem_append_right _ hy)
      walk_at "rds"
      refine ⟨(by decide : (3 : Nat) ≤ sizeLine), fun r hr' => ?_⟩
      have x11 := Ex.new (o := HO.tup [.str "scope", .str x, v]) hr'
      refine done _ (.sco x t) _ ((((Exm.of x7).trans e8).trans (.of x89)).trans (e10.trans (.of x11))) ?_ ⟨?_, ?_, ?_, ?_⟩
      · obtain ⟨L', used, m1, m2, m3⟩ := (st10.ex x11).fr
        refine ⟨(st10.ex x11).die, L', used ++ [x], m1, by rw [m2, List.append_assoc], ?_⟩
        rw [List.flatMap_cons, List.flatMap_nil, List.append_nil, labs_eq]
        refine List.Perm.trans ?_ List.perm_append_comm
        show ([x] ++ [t].flatMap labs).Perm ([x] ++ used)
        exact List.Perm.append_left _ m3
      · simp only [toD]
        exact .tup (SqT.of upd_same) (.cons (.str _) (.cons (.str _) (.cons (Dp.ex x11 _ _ r10.dp) .nil)))
      · refine wf_iff.mpr ⟨hLn x (by simp), fun u hu => ?_⟩
        rw [show u = t by simpa [kids] using hu]
        exact r10.wf
      · have := r10.de
        simp only [dep]
        omega
      · have := gen_sz (t := .sco x t) (m := m - 1) (by simp [kids]) fun u hu => by
          rw [show u = t by simpa [kids] using hu]
          exact r10.sz
        rwa [show m - 1 + 1 = m by omega] at this
  refine r_eq rfl (r_bl (r_no (fun z => hsc (V.str.inj z)) ?_))
  walk_at "rds"
  by_cases han : way = "answer"
  · refine r_eq rfl (r_bl (r_yes (by rw [han]) ?_))
    subst han
    have hm2 : 2 ≤ m ∧ c.sigs ≠ [] := by
      rcases hok with h | ⟨h, _⟩ | ⟨h, _⟩ | ⟨h, _⟩ | ⟨_, h⟩ | ⟨h, _, h'⟩
      · exact absurd h (by decide +kernel)
      · exact absurd h (by decide +kernel)
      · exact absurd h (by decide +kernel)
      · exact absurd h (by decide +kernel)
      · rcases h with h | h | h | h | h | h <;> exact absurd h (by decide +kernel)
      · exact ⟨h, h'⟩
    walk_at "rds"
    obtain ⟨L', used, l1, l2, l3⟩ := st6.fr
    have hu : used = [] := List.Perm.nil_eq l3 |>.symm
    subst hu
    rw [List.append_nil] at l2
    subst l2
    refine ⟨d, p, D, F, o, l, c, own, ls, L, m - 1, by rw [show m - 1 + 1 = m by omega], A6, d6, ndF, l1, hLl, hLn, by omega, by omega, by omega, by omega, hm2.2, fun v t H' e st r => ?_⟩
    rw [show m - 1 + 1 = m by omega] at r
    exact done v t H' e st r
  refine r_eq rfl (r_bl (r_no (fun z => han (V.str.inj z)) ?_))
  walk_at "rds"
  exact deed H6 (Ex.refl _)
/-- drawn terms, by recursion on the depth -/
theorem c_any_term (D69 : Dfn K mg "_law_any_answer" (top 69) ["_law_die", "_law_plan", "_law_own", "_law_labels", "_law_deep"]) (D : Dfn K mg "_law_any_term" (top 70) ["_law_die", "_law_plan", "_law_own", "_law_labels", "_law_deep"]) (T : Txt K mg) (CC : Cal P w K mg base 1 "_law_cast" spCast) (CP : Cal P w K mg base 2 "_law_pick" (spPick K)) (CD : Cal P w K mg base 3 "_law_any_deed" (spDeedL K)) :
    ∀ n, Cal P w K mg base (2 * n + 3) "_law_any_term" (spAnyT K n)
  | 0 => D.cal (k := 2) (N := NT) (by decide +kernel) (fun vs H Q E h => by obtain ⟨d, p, D, F, o, l, c, own, ls, L, m, rfl, _⟩ := h; rfl) fun f cdv A outer s H vs Q E hr nd h => by
      obtain ⟨d, p, D, F, o, l, c, own, ls, L, m, rfl, _, _, _, _, _, _, h1, h2, _⟩ := h
      omega
  | n + 1 => by
    have CT := c_any_term D69 D T CC CP CD n
    exact c_any_term_s (lv := 2 * n + 3) (by omega) D T CC CP CD CT (c_any_answer (by omega) D69 T CC CP CT)
end
end K8
/-! the law's drawn bodies -/
namespace K8
open PySem PySem.Spec L2 Evl
open PyProof.Rows hiding St
/-- the plan without its labels -/
def Plan0 (K : PySem.W.Frag) (H : Hp) (P D : Addr) (c : PlC) : Prop := ∃ (kvs : List (Key × V)) (sa : Addr), H P = some (.dK kvs) ∧ kvs.length ≤ 4 ∧ valV kvs (keyS "modes") = some (.int (c.modes : Nat)) ∧ valV kvs (keyS "signals") = some (.ref sa) ∧ SqT K H sa (c.sigs.map V.str) ∧
  valV kvs (keyS "heads") = some (.ref D) ∧ HeadsAt K H D c.heads ∧ (valV kvs (keyS "fresh") = none → kvs.length ≤ 3)
section
variable {K : PySem.W.Frag} {H H' : Hp} {P D d : Addr} {c : PlC} {M : List Addr}
theorem Plan0.stay (h : Plan0 K H P D c) (e : Exm M H H') (nP : P ∉ M) (nD : D ∉ M) (m : ∀ a ∈ M, Mob H a) : Plan0 K H' P D c := by
  obtain ⟨kvs, sa, h1, h2, h3, h4, h5, h6, h7, h8⟩ := h
  exact ⟨kvs, sa, e _ _ nP h1, h2, h3, h4, kx_t (e.kx m) h5, h6, h7.stay e nD m, h8⟩
theorem Plan0.mobP (h : Plan0 K H P D c) : Mob H P := by
  obtain ⟨kvs, sa, h1, _⟩ := h
  exact .dK h1
theorem Plan0.ne (h : Plan0 K H P D c) (hd : DieAt H d) : P ∉ [d] ∧ D ∉ [d] := by
  obtain ⟨a, b, z, e⟩ := hd
  obtain ⟨kvs, sa, h1, _, _, _, _, _, ⟨kv2, h2, _⟩, _⟩ := h
  exact ⟨fun y => by (rw [List.mem_singleton.mp y, e] at h1; cases h1), fun y => by (rw [List.mem_singleton.mp y, e] at h2; cases h2)⟩
end
theorem perm_map : ∀ {zs : List Str} {ys : List V}, ys.Perm (zs.map V.str) → ∃ L : List Str, ys = L.map V.str ∧ L.Perm zs := fun {zs ys} h => by
  have h1 : ∀ y ∈ ys, ∃ x : Str, y = V.str x := fun y hy => by
    obtain ⟨x, _, e⟩ := List.mem_map.mp (h.mem_iff.mp hy)
    exact ⟨x, e.symm⟩
  have h2 : ∃ L : List Str, ys = L.map V.str := by
    clear h
    induction ys with
    | nil => exact ⟨[], rfl⟩
    | cons y r ih =>
      obtain ⟨x, rfl⟩ := h1 y List.mem_cons_self
      obtain ⟨L, rfl⟩ := ih fun z hz => h1 z (List.mem_cons_of_mem _ hz)
      exact ⟨x :: L, rfl⟩
  obtain ⟨L, rfl⟩ := h2
  refine ⟨L, rfl, ?_⟩
  have h3 := h.map fun v => match v with | .str x => x | _ => Str.empty
  rw [List.map_map, List.map_map] at h3
  have e : ((fun v => match v with | V.str x => x | _ => Str.empty) ∘ V.str) = id := rfl
  rw [e, List.map_id, List.map_id] at h3
  exact h3
theorem Exm.drop {M : List Addr} {H H' : Hp} {F : Addr} (e : Exm (F :: M) H H') (h : H F = none) : Exm M H H' := fun a o n ha => e a o (fun z => by
  rcases List.mem_cons.mp z with rfl | z
  · rw [h] at ha; cases ha
  · exact n z) ha
theorem GenR.up {K : PySem.W.Frag} {c : PlC} {own ls : List Str} {m n : Nat} {v : V} {t : Tm} {H : Hp} (r : GenR K c own ls m v t H) (h : m ≤ n) : GenR K c own ls n v t H := ⟨r.dp, r.wf, Nat.le_trans r.de h, Nat.le_trans r.sz (szb_mono h)⟩
theorem gen_ok {K : PySem.W.Frag} {c : PlC} {own L : List Str} {d F : Addr} {v : V} {t : Tm} {H : Hp} (st : GenSt d F L [t] H) (r : GenR K c own [] 4 v t H) (nd : L.Nodup) : OkBody (pcfg c) own t := by
  refine ⟨r.wf, ?_, by have := r.de; omega, r.sz⟩
  obtain ⟨L', used, h1, h2, h3⟩ := st.fr
  rw [List.flatMap_cons, List.flatMap_nil, List.append_nil] at h3
  rw [h3.nodup_iff]
  rw [h2] at nd
  exact (List.nodup_append.mp nd).2.1
section
variable {P : Program} {w : World} {K : PySem.W.Frag} {mg : Str → Option Value} {base : Heap}
def spBodyL (K : PySem.W.Frag) : Sp := fun vs H Q _ => ∃ (d p D o : Addr) (c : PlC) (own : List Str), vs = [.ref d, .ref p, .ref o, .int 40] ∧ DieAt H d ∧ Plan0 K H p D c ∧ p ≠ D ∧ PlOk c ∧ SqT K H o (own.map V.str) ∧ (∀ x ∈ own, isNm x = true) ∧ own.length ≤ 10 ∧
  ∀ v t H', Exm [d, p] H H' → DieAt H' d → Plan0 K H' p D c → OkBody (pcfg c) own t → Dp K H' v (toD t) → Q v H'
theorem c_any_body (D71 : Dfn K mg "_law_any_body" (top 71) ["_law_die", "_law_plan", "_law_own", "_law_most"]) (T : Txt K mg) (CC : Cal P w K mg base 1 "_law_cast" spCast) (CS : Cal P w K mg base 2 "_law_shuffle" (spShuf K)) (CD : Cal P w K mg base 3 "_law_any_deed" (spDeedL K)) (CT : Cal P w K mg base 11 "_law_any_term" (spAnyT K 4)) (CI : Cal P w K mg base 7 "_law_all_in" (spAllIn K 6)) :
    Cal P w K mg base 12 "_law_any_body" (spBodyL K) := by
  refine D71.cal (N := ["_law_die", "_law_plan", "_law_own", "_law_most", "_law_body"]) (by decide +kernel) (fun vs H Q E h => ?_) fun f cdv A outer s H vs Q E hr nd h => ?_
  · obtain ⟨d, p, D, o, c, own, rfl, _⟩ := h
    rfl
  obtain ⟨d, p, D, o, c, own, rfl, hd, hp, npD, okc, ho, how, hol, q⟩ := h
  refine ⟨_, pss_cons (ps_dput (hu_of hr) (pv 1) pe_str (pe_c CS hr (by decide) (pa_cons (pv 0) (pa_cons (pe_lst (pa_cons pe_str (pa_cons pe_str (pa_cons pe_str (pa_cons pe_str (pa_cons pe_str (pa_cons pe_str pa_nil))))))) pa_nil))) rfl)
    (pss_cons (ps_asg (pe_c CT hr (by decide) (pa_cons (pv 0) (pa_cons (pv 1) (pa_cons (pv 2) (pa_cons (pe_tup pa_nil) (pa_cons (pe_op op_add pe_int (pe_c CC hr (by decide) (pa_cons (pv 0) (pa_cons pe_int pa_nil)))) pa_nil)))))) (pg_name (i := 4) nd rfl (Or.inl rfl)))
    (pss_one (ps_ret (pe_ifExp (pt_cmpR op_le (p_len T (pe_c CI hr (by decide) (pa_cons (pv 4) pa_nil))) (pv 3) (nomark _)) (pv 4) (pe_c CD hr (by decide) (pa_cons (pv 0) (pa_cons (pv 1) pa_nil))))))), ?_⟩
  refine r_seq (r_dput ?_)
  walk_at "rds"
  refine ⟨(by decide : (6 : Nat) ≤ sizeLine), fun p1 hp1 => ?_⟩
  have e1 : Ex H (upd H p1 (.lst [.str "out", .str "l", .str "go", .str "main", .str "b", .str "late"])) := Ex.new hp1
  have y1 : (upd H p1 (.lst [.str "out", .str "l", .str "go", .str "main", .str "b", .str "late"])) p1 = some (.lst ((["out", "l", "go", "main", "b", "late"] : List Str).map V.str)) := upd_same
  generalize upd H p1 (.lst [.str "out", .str "l", .str "go", .str "main", .str "b", .str "late"]) = H1 at *
  walk_at "rds"
  have d1 := hd.ex e1
  refine ⟨d, p1, _, rfl, d1, SqL.of y1, (hd.mob.ne hp1).symm, by decide, fun F ys H2 hperm hF e2 d2 hF2 => ?_⟩
  obtain ⟨L, rfl, hL⟩ : ∃ L : List Str, ys = L.map V.str ∧ L.Perm ["out", "l", "go", "main", "b", "late"] := perm_map hperm
  have hLl : L.length = 6 := by rw [hL.length_eq]; rfl
  have hLn : ∀ x ∈ L, isNm x = true := fun x hx => by
    have : ∀ x ∈ (["out", "l", "go", "main", "b", "late"] : List Str), isNm x = true := by decide +kernel
    exact this x (hL.mem_iff.mp hx)
  have hLd : L.Nodup := hL.nodup_iff.mpr (by decide +kernel)
  walk_at "rds"
  have hp1' := hp.stay (M := []) (.of e1) (by simp) (by simp) (by simp)
  obtain ⟨nP, nD⟩ := hp1'.ne d1
  have hp2 := hp1'.stay e2 nP nD d1.m
  obtain ⟨kvs, sa, h1, h2, h3, h4, h5, h6, h7, h8⟩ := hp2
  have hF0 : H F = none := ex_none e1 hF
  have nFp : F ≠ p := fun z => by
    obtain ⟨o, g, _⟩ := hp1'.mobP
    rw [← z, hF] at g
    cases g
  have nFd : d ≠ F := d1.mob.ne hF
  have npd : p ≠ d := fun z => nP (List.mem_singleton.mpr z)
  have hlen : (putK kvs (keyS "fresh") (.ref F)).length ≤ 4 := by
    cases hv : valV kvs (keyS "fresh") with
    | none =>
      rw [putK_new _ hv, List.length_append, List.length_singleton]
      have := h8 hv
      omega
    | some u =>
      rw [putK_old hv]
      exact h2
  refine ⟨p, _, rfl, DPut.k (k := keyS "fresh") h1 (small (by omega)), ?_⟩
  have e3 : Exm [p] H2 (upd H2 p (.dK (putK kvs (keyS "fresh") (.ref F)))) := (Exm.refl _ _).set (by simp)
  have k3 : Kx H2 (upd H2 p (.dK (putK kvs (keyS "fresh") (.ref F)))) := Kx.upd h1 rfl
  have w3 : (upd H2 p (.dK (putK kvs (keyS "fresh") (.ref F)))) p = some (.dK (putK kvs (keyS "fresh") (.ref F))) := upd_same
  generalize upd H2 p (.dK (putK kvs (keyS "fresh") (.ref F))) = H3 at *
  have nDp : D ∉ [p] := fun z => npD (List.mem_singleton.mp z).symm
  have hd3 : HeadsAt K H3 D c.heads := h7.stay e3 nDp fun a ha => by rw [List.mem_singleton.mp ha]; exact .dK h1
  have pl3 : PlanAt K H3 p D F c := ⟨_, sa, w3, by rw [valV_put, if_neg (by decide +kernel)]; exact h3, by rw [valV_put, if_neg (by decide +kernel)]; exact h4, kx_t k3 h5, by rw [valV_put, if_neg (by decide +kernel)]; exact h6, by rw [valV_put, if_pos rfl], hd3⟩
  have p03 : Plan0 K H3 p D c := ⟨_, sa, w3, hlen, by rw [valV_put, if_neg (by decide +kernel)]; exact h3, by rw [valV_put, if_neg (by decide +kernel)]; exact h4, kx_t k3 h5, by rw [valV_put, if_neg (by decide +kernel)]; exact h6, hd3, fun z => by rw [valV_put, if_pos rfl] at z; cases z⟩
  have d3 : DieAt H3 d := d2.eq (by
    obtain ⟨a, b, z, q⟩ := d2
    rw [e3 _ _ (fun y => npd (List.mem_singleton.mp y).symm) q, q])
  have hF3 : H3 F = some (.lst (L.map V.str)) := e3 _ _ (fun y => nFp (List.mem_singleton.mp y)) hF2
  have ho3 : SqT K H3 o (own.map V.str) := kx_t k3 (kx_t (e2.kx d1.m) (ex_t e1 ho))
  dsimp only
  walk_at "rds"
  refine ⟨Nat.zero_le _, fun l0 hl0 => ?_⟩
  have e4 : Ex H3 (upd H3 l0 (.tup [])) := Ex.new hl0
  have y4 : SqT K (upd H3 l0 (.tup [])) l0 ((([] : List Str)).map V.str) := SqT.of upd_same
  generalize upd H3 l0 (.tup []) = H4 at *
  walk_at "rds"
  refine ⟨d, 3, rfl, d3.ex e4, by decide, by decide, fun j H5 hj e5 d5 => ?_⟩
  walk_at "rds"
  have AE4 : AEnv K H4 p D F o l0 c own [] := ⟨pl3.ex e4, ex_t e4 ho3, y4, okc, how, hol, by simp, by simp⟩
  have st4 : GenSt d F L [] H4 := ⟨d3.ex e4, L, [], e4 _ _ hF3, by simp, .nil⟩
  have e5' : Exm [d, F] H4 H5 := e5.sub (by simp)
  have AE5 := AE4.stay st4 e5'
  have st5 := st4.die' nFd e5 d5
  rw [show (2 : Int) + (j : Int) = ((2 + j : Nat) : Int) by omega]
  have hF5 : H5 F = some (.lst (L.map V.str)) := e5 _ _ (fun y => nFd (List.mem_singleton.mp y).symm) (e4 _ _ hF3)
  refine ⟨d, p, D, F, o, l0, c, own, [], L, 2 + j, rfl, AE5, d5, nFd, hF5, by omega, hLn, by omega, by omega, by omega, by simp; omega, fun v t H6 e6 st6 r6 => ?_⟩
  have r64 := r6.up (n := 4) (by omega)
  have okb := gen_ok st6 r64 hLd
  have e06 : Exm [d, p] H H6 := by
    refine Exm.drop (F := F) ?_ hF0
    refine Exm.trans (.of e1) (Exm.trans (e2.sub (by simp)) (Exm.trans (e3.sub (by simp)) (Exm.trans (.of e4) (Exm.trans (e5.sub (by simp)) (e6.sub ?_)))))
    intro a ha
    rcases List.mem_cons.mp ha with rfl | ha
    · simp
    · rw [List.mem_singleton.mp ha]; simp
  have nPF : p ∉ [d, F] := by simp [npd, Ne.symm nFp]
  have nDF : D ∉ [d, F] := (AE5.nF st5).2
  have p06 : Plan0 K H6 p D c := by
    have a4 := p03.stay (M := []) (.of e4) (by simp) (by simp) (by simp)
    have a5 := a4.stay e5' nPF nDF st4.mo
    exact a5.stay e6 nPF nDF st5.mo
  have hfr : ∀ u ∈ subs t, frm u := fun u hu => by
    obtain ⟨L', o⟩ := wf_subs okc.m1 okc.m3 _ (Nat.le_refl _) okb.wf u hu
    exact (okN_frm okc.m1 okc.m3 o).1
  walk_at "rds"
  refine ⟨v, t, rfl, r6.dp, okb.dp, by have := okb.sz; omega, hfr, fun l H7 xs hl e7 h7' hxl => ?_⟩
  walk_at "rds"
  refine r_lenL (SqL.of h7') ?_
  walk_at "rds"
  have p07 := p06.stay (M := []) (.of e7) (by simp) (by simp) (by simp)
  have d7 := st6.die.ex e7
  by_cases hle : (xs.length : Int) ≤ 40
  · refine r_yes hle ?_
    walk_at "rds"
    exact q v t H7 (e06.trans (.of e7)) d7 p07 okb (Dp.ex e7 _ _ r6.dp)
  · exfalso
    have := okb.sz
    omega
end
end K8
/-! the law's plain programs: what is promised -/
namespace K8
open PySem PySem.Spec L2 Evl
open PyProof.Rows hiding St
/-! ### heads -/
structure HsOk (hs : List (Str × List Str)) : Prop where
  each : ∀ h ∈ hs, isNm h.1 = true ∧ (∀ x ∈ h.2, isNm x = true) ∧ h.2.Nodup ∧ h.2.length ≤ 2
  nd : (hs.map (·.1)).Nodup
  main : (("main" : Str), ([] : List Str)) ∈ hs
  le : hs.length ≤ 10
theorem HsOk.ok {m : Nat} {sg : List Str} {hs : List (Str × List Str)} (h : HsOk hs) (m1 : 1 ≤ m) (m3 : m ≤ 3) (hsg : (∀ x ∈ sg, isNm x = true) ∧ asc sg = true ∧ sg.length ≤ 2) : PlOk ⟨m, sg, hs⟩ :=
  ⟨m1, m3, hsg, fun x hx => ⟨(h.each x hx).1, (h.each x hx).2.2.2⟩, h.nd, List.ne_nil_of_mem h.main, h.le⟩
theorem HeadsAt.put {K : PySem.W.Frag} {H : Hp} {D a : Addr} {hs : List (Str × List Str)} {n : Str} {own : List Str} (h : HeadsAt K H D hs) (hn : n ∉ hs.map (·.1)) (ho : SqT K H a (own.map V.str)) :
    ∃ kvs, H D = some (.dK kvs) ∧ kvs.length = hs.length ∧ HeadsAt K (upd H D (.dK (putK kvs (keyS n) (.ref a)))) D (hs ++ [(n, own)]) := by
  obtain ⟨kvs, h1, h2, h3⟩ := h
  have hv : valV kvs (keyS n) = none := val_none (by
    rw [h2]
    intro z
    obtain ⟨x, hx, e⟩ := List.mem_map.mp z
    exact hn (by rw [← keyS_inj.mp e]; exact List.mem_map_of_mem hx))
  have hl : kvs.length = hs.length := by
    have := congrArg List.length h2
    rwa [List.length_map, List.length_map] at this
  have kx : Kx H (upd H D (.dK (putK kvs (keyS n) (.ref a)))) := Kx.upd h1 rfl
  refine ⟨kvs, h1, hl, _, upd_same, ?_, fun i x hx => ?_⟩
  · rw [putK_new _ hv, List.map_append, h2, List.map_append]
    rfl
  · rw [putK_new _ hv]
    by_cases hi : i < hs.length
    · rw [List.getElem?_append_left hi] at hx
      obtain ⟨b, g1, g2⟩ := h3 i x hx
      exact ⟨b, by rw [List.getElem?_append_left (by omega)]; exact g1, kx_t (by rw [← putK_new _ hv]; exact kx) g2⟩
    · have hil := (List.getElem?_eq_some_iff.mp hx).1
      rw [List.length_append, List.length_singleton] at hil
      have ei : i = hs.length := by omega
      subst ei
      rw [List.getElem?_append_right (Nat.le_refl _), Nat.sub_self] at hx
      cases (show some (n, own) = some x from hx)
      exact ⟨a, by rw [← hl, List.getElem?_append_right (Nat.le_refl _), Nat.sub_self]; rfl, kx_t (by rw [← putK_new _ hv]; exact kx) ho⟩
/-! ### rows and plain programs -/
def RowL (K : PySem.W.Frag) (x : V) (r : Rw) (H : Hp) : Prop := ∃ q o v, x = .ref q ∧ H q = some (.lst [.str r.name, .ref o, v]) ∧ SqT K H o (r.own.map V.str) ∧ Dp K H v (toD r.body)
/-- what changes is none of the rows -/
def Off (M : List Addr) (H : Hp) : Prop := ∀ a ∈ M, Mob H a ∧ ∀ s u, H a ≠ some (.lst (.str s :: u))
section
variable {K : PySem.W.Frag} {H H' : Hp} {x : V} {r : Rw} {M : List Addr} {d : Addr}
theorem Off.mo (h : Off M H) : ∀ a ∈ M, Mob H a := fun a ha => (h a ha).1
theorem RowL.ex (h : RowL K x r H) (e : Ex H H') : RowL K x r H' := by
  obtain ⟨q, o, v, h1, h2, h3, h4⟩ := h
  exact ⟨q, o, v, h1, e _ _ h2, ex_t e h3, Dp.ex e _ _ h4⟩
theorem RowL.stay (h : RowL K x r H) (e : Exm M H H') (o : Off M H) : RowL K x r H' := by
  obtain ⟨q, b, v, h1, h2, h3, h4⟩ := h
  have k := e.kx o.mo
  exact ⟨q, b, v, h1, e _ _ (fun z => (o q z).2 _ _ h2) h2, kx_t k h3, Dp.kx k _ _ h4 (noL_toD _)⟩
theorem DieAt.off (h : DieAt H d) : Mob H d ∧ ∀ s u, H d ≠ some (.lst (.str s :: u)) := by
  refine ⟨h.mob, fun s u => ?_⟩
  obtain ⟨a, b, z, e⟩ := h
  rw [e]
  intro y
  cases y
theorem dK_off {p : Addr} {kvs : List (Key × V)} (h : H p = some (.dK kvs)) : Mob H p ∧ ∀ s u, H p ≠ some (.lst (.str s :: u)) := ⟨.dK h, fun s u => by rw [h]; intro y; cases y⟩
theorem refs_off {p : Addr} {xs : List V} (h : H p = some (.lst xs)) (hx : ∀ x ∈ xs, ∃ q, x = V.ref q) : Mob H p ∧ ∀ s u, H p ≠ some (.lst (.str s :: u)) := ⟨.lst h, fun s u => by
  rw [h]
  intro y
  cases xs with
  | nil => cases y
  | cons a r =>
    obtain ⟨q, e⟩ := hx a List.mem_cons_self
    rw [e] at y
    cases y⟩
end
def PlainAt (K : PySem.W.Frag) (H : Hp) (x : V) (p : Pl) : Prop := ∃ q sa rl xs, x = .ref q ∧ H q = some (.lst [.int (p.modes : Nat), .ref sa, .ref rl]) ∧ SqT K H sa (p.sigs.map V.str) ∧ H rl = some (.lst xs) ∧ Pw (fun y r => RowL K y r H) xs p.rows
theorem PlainAt.ex {K : PySem.W.Frag} {H H' : Hp} {x : V} {p : Pl} (h : PlainAt K H x p) (e : Ex H H') : PlainAt K H' x p := by
  obtain ⟨q, sa, rl, xs, h1, h2, h3, h4, h5⟩ := h
  exact ⟨q, sa, rl, xs, h1, e _ _ h2, ex_t e h3, e _ _ h4, h5.imp fun y r h => h.ex e⟩
theorem PlainAt.die {K : PySem.W.Frag} {H H' : Hp} {x : V} {p : Pl} {d : Addr} (h : PlainAt K H x p) (hd : DieAt H d) (e : Exm [d] H H') : PlainAt K H' x p := by
  obtain ⟨q, sa, rl, xs, h1, h2, h3, h4, h5⟩ := h
  have off : Off [d] H := fun a ha => by rw [List.mem_singleton.mp ha]; exact hd.off
  obtain ⟨a, b, z, g⟩ := id hd
  have n1 : q ∉ [d] := fun y => by rw [List.mem_singleton.mp y, g] at h2; cases h2
  have n2 : rl ∉ [d] := fun y => by
    rw [List.mem_singleton.mp y, g] at h4
    cases h4
    obtain ⟨r, _, q2, _, _, f, _⟩ := h5.2 0 _ rfl
    cases f
  exact ⟨q, sa, rl, xs, h1, e _ _ n1 h2, kx_t (e.kx off.mo) h3, e _ _ n2 h4, h5.imp fun y r h => h.stay e off⟩
/-! ### right plain programs (plain) -/
theorem look_iff {β : Type} : ∀ {l : List (Str × β)} {x : Str} {v : β}, (l.map (·.1)).Nodup → (l.lookup x = some v ↔ (x, v) ∈ l)
  | [], x, v, _ => by simp
  | (y, u) :: l, x, v, nd => by
    rw [List.map_cons, List.nodup_cons] at nd
    rw [List.lookup_cons, List.mem_cons]
    by_cases e : x = y
    · subst e
      simp only [BEq.rfl]
      constructor
      · intro h; cases h; exact .inl rfl
      · rintro (h | h)
        · cases h; rfl
        · exact absurd (List.mem_map_of_mem (f := (·.1)) h) nd.1
    · rw [show (x == y) = false from beq_eq_false_iff_ne.mpr e]
      simp only
      rw [look_iff nd.2]
      constructor
      · exact .inr
      · rintro (h | h)
        · cases h; exact absurd rfl e
        · exact h
theorem look_perm {β : Type} {l1 l2 : List (Str × β)} (p : l1.Perm l2) (nd : (l1.map (·.1)).Nodup) {x : Str} {v : β} (h : l1.lookup x = some v) : l2.lookup x = some v := by
  have nd2 : (l2.map (·.1)).Nodup := (p.map _).nodup_iff.mp nd
  rw [look_iff nd] at h
  rw [look_iff nd2]
  exact p.mem_iff.mp h
mutual
theorem wf_cfg {c1 c2 : Cfg} (hm : c1.modes = c2.modes) (hs : c1.sigs = c2.sigs) (hh : ∀ x n, c1.heads.lookup x = some n → c2.heads.lookup x = some n) {own : List Str} : ∀ (L : List Str) (t : Tm), Wf c1 own L t → Wf c2 own L t
  | L, .act w tab, h => by
    simp only [Wf, okN] at h ⊢
    rw [← hm]
    exact h
  | L, .nam k x, h => by
    simp only [Wf, okN] at h ⊢
    rw [← hs]
    exact h
  | L, .ser k ts, h => by
    simp only [Wf, okN] at h ⊢
    rw [← hm]
    exact ⟨h.1, wfs_cfg hm hs hh L ts h.2⟩
  | L, .cal x ts, h => by
    simp only [Wf, okN] at h ⊢
    exact ⟨⟨h.1.1, hh _ _ h.1.2⟩, wfs_cfg hm hs hh L ts h.2⟩
  | L, .sco x t, h => by
    simp only [Wf, okN] at h ⊢
    exact ⟨h.1, wf_cfg hm hs hh _ t h.2⟩
  | L, .ans ss ts t, h => by
    simp only [Wf, okN] at h ⊢
    rw [← hs]
    exact ⟨h.1, wfs_cfg hm hs hh L ts h.2.1, wf_cfg hm hs hh L t h.2.2⟩
theorem wfs_cfg {c1 c2 : Cfg} (hm : c1.modes = c2.modes) (hs : c1.sigs = c2.sigs) (hh : ∀ x n, c1.heads.lookup x = some n → c2.heads.lookup x = some n) {own : List Str} : ∀ (L : List Str) (ts : List Tm), Wfs c1 own L ts → Wfs c2 own L ts
  | _, [], _ => by simp [Wfs]
  | L, t :: ts, h => by
    simp only [Wfs] at h ⊢
    exact ⟨wf_cfg hm hs hh L t h.1, wfs_cfg hm hs hh L ts h.2⟩
end
theorem OkRw.cfg {c1 c2 : Cfg} (hm : c1.modes = c2.modes) (hs : c1.sigs = c2.sigs) (hh : ∀ x n, c1.heads.lookup x = some n → c2.heads.lookup x = some n) {r : Rw} (h : OkRw c1 r) : OkRw c2 r :=
  ⟨h.nm, h.own, ⟨wf_cfg hm hs hh _ _ h.bd.wf, h.bd.nd, h.bd.dp, h.bd.sz⟩⟩
/-- rows in another order -/
theorem OkPl.perm {p : Pl} {rows : List Rw} (ok : OkPl p) (h : rows.Perm p.rows) : OkPl ⟨p.modes, p.sigs, rows⟩ := by
  have nd : (rows.map (·.name)).Nodup := (h.map _).nodup_iff.mpr ok.nd
  have key : ∀ {β : Type} (f : Rw → β) (x : Str) (v : β), (p.rows.map fun r => (r.name, f r)).lookup x = some v → (rows.map fun r => (r.name, f r)).lookup x = some v := fun f x v hx =>
    look_perm (h.map _).symm (by rw [List.map_map]; exact ok.nd) hx
  refine ⟨ok.m1, ok.m3, ok.sg, by rw [h.length_eq]; exact ok.rw_, nd, key _ _ _ ok.main, fun r hr => OkRw.cfg (c1 := cfg p) (c2 := cfg ⟨p.modes, p.sigs, rows⟩) rfl rfl (fun x n hx => key (fun r => r.own.length) x n hx) (ok.ok r (h.mem_iff.mp hr))⟩
/-- drawn rows make a program -/
theorem drawn_ok {m : Nat} {sg : List Str} {hs : List (Str × List Str)} {rows : List Rw} (hh : HsOk hs) (m1 : 1 ≤ m) (m3 : m ≤ 3) (hsg : (∀ x ∈ sg, isNm x = true) ∧ asc sg = true ∧ sg.length ≤ 2) (hp : (rows.map (·.name)).Perm (hs.map (·.1)))
    (hr : ∀ r ∈ rows, (r.name, r.own) ∈ hs ∧ OkBody (pcfg ⟨m, sg, hs⟩) r.own r.body) : OkPl ⟨m, sg, rows⟩ := by
  have nd : (rows.map (·.name)).Nodup := hp.nodup_iff.mpr hh.nd
  have ndr : ((rows.map fun r => (r.name, r.own)).map (·.1)).Nodup := by rw [List.map_map]; exact nd
  have hin : ∀ h ∈ hs, h ∈ rows.map fun r => (r.name, r.own) := fun h hm => by
    have : h.1 ∈ rows.map (·.name) := hp.mem_iff.mpr (List.mem_map_of_mem hm)
    obtain ⟨r, hrm, e⟩ := List.mem_map.mp this
    refine List.mem_map.mpr ⟨r, hrm, ?_⟩
    have h1 := (look_iff hh.nd).mpr (hr r hrm).1
    have h2 := (look_iff hh.nd).mpr (show (h.1, h.2) ∈ hs from hm)
    rw [show r.name = h.1 from e, h2] at h1
    exact Prod.ext e (Option.some.inj h1).symm
  have hl : rows.length = hs.length := by
    have := hp.length_eq
    rwa [List.length_map, List.length_map] at this
  refine ⟨m1, m3, hsg, ⟨by rw [hl]; exact List.length_pos_of_mem hh.main, by rw [hl]; exact hh.le⟩, nd, (look_iff ndr).mpr (hin _ hh.main), fun r hrm => ?_⟩
  obtain ⟨h1, h2⟩ := hr r hrm
  obtain ⟨g1, g2, g3, g4⟩ := hh.each _ h1
  have g4 : r.own.length ≤ 2 := g4
  refine OkRw.cfg (c1 := pcfg ⟨m, sg, hs⟩) (c2 := cfg ⟨m, sg, rows⟩) rfl rfl (fun x n hx => ?_) ⟨g1, ⟨g2, g3, by omega⟩, h2⟩
  have ndl : ((hs.map fun h => (h.1, h.2.length)).map (·.1)).Nodup := by rw [List.map_map]; exact hh.nd
  have hx2 : (x, n) ∈ hs.map fun h => (h.1, h.2.length) := (look_iff ndl).mp hx
  obtain ⟨h, hm, e⟩ := List.mem_map.mp hx2
  cases e
  have hm2 := hin h hm
  obtain ⟨r', hr', e'⟩ := List.mem_map.mp hm2
  refine (look_iff (by show ((rows.map fun r => (r.name, r.own.length)).map (·.1)).Nodup; rw [List.map_map]; exact nd)).mpr (List.mem_map.mpr ⟨r', hr', ?_⟩)
  rw [← e']
end K8
/-! the law's drawn plain programs -/
namespace K8
open PySem PySem.Spec L2 Evl
open PyProof.Rows hiding St
theorem nd_at : ∀ {l : List Str} {i j : Nat} {x : Str}, l.Nodup → l[i]? = some x → l[j]? = some x → i = j
  | [], i, j, x, _, h, _ => by simp at h
  | a :: l, 0, 0, x, _, _, _ => rfl
  | a :: l, 0, j + 1, x, nd, h1, h2 => by
    cases h1
    exact absurd (List.mem_of_getElem? (l := l) (i := j) h2) (List.nodup_cons.mp nd).1
  | a :: l, i + 1, 0, x, nd, h1, h2 => by
    cases h2
    exact absurd (List.mem_of_getElem? (l := l) (i := i) h1) (List.nodup_cons.mp nd).1
  | a :: l, i + 1, j + 1, x, nd, h1, h2 => congrArg (· + 1) (nd_at (l := l) (List.nodup_cons.mp nd).2 h1 h2)
theorem mg2_len {m D : Nat} : (mergeK [] [(keyS "modes", V.int (m : Nat)), (keyS "heads", .ref D)]).length = 2 := by
  have h2 : valV (putK [] (keyS "modes") (V.int (m : Nat))) (keyS "heads") = none := by
    rw [valV_put, if_neg (by decide +kernel), valV_nil]
  unfold mergeK
  simp only [List.foldl_cons, List.foldl_nil]
  rw [putK_new _ h2, List.length_append, putK_new _ valV_nil]
  rfl
theorem mg3_at {m D sa : Nat} : valV (putK (mergeK [] [(keyS "modes", V.int (m : Nat)), (keyS "heads", .ref D)]) (keyS "signals") (.ref sa)) (keyS "modes") = some (.int (m : Nat)) ∧
    valV (putK (mergeK [] [(keyS "modes", V.int (m : Nat)), (keyS "heads", .ref D)]) (keyS "signals") (.ref sa)) (keyS "signals") = some (.ref sa) ∧
    valV (putK (mergeK [] [(keyS "modes", V.int (m : Nat)), (keyS "heads", .ref D)]) (keyS "signals") (.ref sa)) (keyS "heads") = some (.ref D) ∧
    (putK (mergeK [] [(keyS "modes", V.int (m : Nat)), (keyS "heads", .ref D)]) (keyS "signals") (.ref sa)).length = 3 ∧
    valV (putK (mergeK [] [(keyS "modes", V.int (m : Nat)), (keyS "heads", .ref D)]) (keyS "signals") (.ref sa)) (keyS "fresh") = none := by
  have n1 : keyS "modes" ≠ keyS "signals" := by decide +kernel
  have n2 : keyS "modes" ≠ keyS "heads" := by decide +kernel
  have n3 : keyS "heads" ≠ keyS "signals" := by decide +kernel
  have n4 : keyS "fresh" ≠ keyS "signals" := by decide +kernel
  have n5 : keyS "fresh" ≠ keyS "heads" := by decide +kernel
  have n6 : keyS "fresh" ≠ keyS "modes" := by decide +kernel
  have h1 : valV (mergeK [] [(keyS "modes", V.int (m : Nat)), (keyS "heads", .ref D)]) (keyS "signals") = none := by
    unfold mergeK
    simp only [List.foldl_cons, List.foldl_nil]
    rw [valV_put, if_neg n3.symm, valV_put, if_neg n1.symm, valV_nil]
  refine ⟨?_, ?_, ?_, ?_, ?_⟩
  · unfold mergeK
    simp only [List.foldl_cons, List.foldl_nil]
    rw [valV_put, if_neg n1, valV_put, if_neg n2, valV_put, if_pos rfl]
  · rw [valV_put, if_pos rfl]
  · unfold mergeK
    simp only [List.foldl_cons, List.foldl_nil]
    rw [valV_put, if_neg n3, valV_put, if_pos rfl]
  · rw [putK_new _ h1, List.length_append, mg2_len]
    rfl
  · unfold mergeK
    simp only [List.foldl_cons, List.foldl_nil]
    rw [valV_put, if_neg n4, valV_put, if_neg n5, valV_put, if_neg n6, valV_nil]
section
variable {P : Program} {w : World} {K : PySem.W.Frag} {mg : Str → Option Value} {base : Heap}
def spPlain (K : PySem.W.Frag) : Sp := fun vs H Q _ => ∃ d : Addr, vs = [.ref d] ∧ DieAt H d ∧ ∀ x pl H', Exm [d] H H' → DieAt H' d → PlainAt K H' x pl → OkPl pl → Q x H'
theorem c_any_plain (D72 : Dfn K mg "_law_any_plain" (top 72) ["_law_die"]) (T : Txt K mg) (CC : Cal P w K mg base 1 "_law_cast" spCast) (CP : Cal P w K mg base 2 "_law_pick" (spPick K)) (CS : Cal P w K mg base 2 "_law_shuffle" (spShuf K)) (CB : Cal P w K mg base 12 "_law_any_body" (spBodyL K)) :
    Cal P w K mg base 13 "_law_any_plain" (spPlain K) := by
  refine D72.cal (N := ["_law_die", "_law_plan", "_law_name", "_law_rows", "_law_own"]) (by decide +kernel) (fun vs H Q E h => ?_) fun f cdv A outer s H vs Q E hr nd h => ?_
  · obtain ⟨d, rfl, _⟩ := h
    rfl
  obtain ⟨d, rfl, hd, q⟩ := h
  refine ⟨_, pss_cons (ps_asg (pe_disp (pps_cons pe_str (pe_c CP hr (by decide) (pa_cons (pv 0) (pa_cons (pe_lst (pa_cons pe_int (pa_cons pe_int (pa_cons pe_int (pa_cons pe_int pa_nil))))) pa_nil))) (pps_cons pe_str (pe_disp (pps_cons pe_str (pe_tup pa_nil) pps_nil) (by rfl) (by rfl) (fun z => by cases z) (by decide)) pps_nil)) (by rfl) (by rfl) (fun z => by cases z) (by decide)) (pg_name (i := 1) nd rfl (Or.inl rfl)))
    (pss_cons (ps_dput (hu_of hr) (pv 1) pe_str (pe_c CP hr (by decide) (pa_cons (pv 0) (pa_cons (pe_lst (pa_cons (pe_tup (pa_cons pe_str pa_nil)) (pa_cons (pe_tup pa_nil) (pa_cons (pe_tup (pa_cons pe_str (pa_cons pe_str pa_nil))) (pa_cons (pe_tup (pa_cons pe_str pa_nil)) (pa_cons (pe_tup pa_nil) pa_nil)))))) pa_nil))) rfl)
    (pss_cons (ps_for PassesOwn.never rfl (p_iL K (pe_slice (sl_list.or sl_anyT) (pe_c CS hr (by decide) (pa_cons (pv 0) (pa_cons (pe_lst (pa_cons pe_str (pa_cons pe_str (pa_cons pe_str (pa_cons pe_str pa_nil))))) pa_nil))) po_none (po_some (pe_c CC hr (by decide) (pa_cons (pv 0) (pa_cons pe_int pa_nil)))))) (pg_name (i := 2) nd rfl (Or.inl rfl))
      (pss_one (ps_dput (hu_of hr) (pe_dget (hu_of hr) (pv 1) pe_str (fun _ _ => rfl)) (pv 2) (pe_callTy call_tuple_of rfl T.tuple boot_tuple (pa_cons (pe_slice (sl_list.or sl_anyT) (pe_c CS hr (by decide) (pa_cons (pv 0) (pa_cons (pe_lst (pa_cons pe_str (pa_cons pe_str (pa_cons pe_str pa_nil)))) pa_nil))) po_none (po_some (pe_c CP hr (by decide) (pa_cons (pv 0) (pa_cons (pe_lst (pa_cons pe_int (pa_cons pe_int (pa_cons pe_int (pa_cons pe_int pa_nil))))) pa_nil))))) pa_nil)) rfl)))
    (pss_cons (ps_asg (pe_lst pa_nil) (pg_name (i := 3) nd rfl (Or.inl rfl)))
    (pss_cons (ps_for PassesOwn.never rfl (p_iL K (pe_c CS hr (by decide) (pa_cons (pv 0) (pa_cons (pe_callB (call_sortedD rfl) rfl T.sorted boot_sorted (pa_cons (pe_dget (hu_of hr) (pv 1) pe_str (fun _ _ => rfl)) pa_nil)) pa_nil)))) (pg_name (i := 2) nd rfl (Or.inl rfl))
      (pss_cons (ps_asg (pe_dget (hu_of hr) (pe_dget (hu_of hr) (pv 1) pe_str (fun _ _ => rfl)) (pv 2) (fun _ _ => rfl)) (pg_name (i := 4) nd rfl (Or.inl rfl)))
      (pss_one (ps_expr (p_app K (pv 3) (pe_lst (pa_cons (pv 2) (pa_cons (pv 4) (pa_cons (pe_c CB hr (by decide) (pa_cons (pv 0) (pa_cons (pv 1) (pa_cons (pv 4) (pa_cons pe_int pa_nil))))) pa_nil)))))))))
    (pss_one (ps_ret (pe_lst (pa_cons (pe_dget (hu_of hr) (pv 1) pe_str (fun _ _ => rfl)) (pa_cons (pe_dget (hu_of hr) (pv 1) pe_str (fun _ _ => rfl)) (pa_cons (pv 3) pa_nil)))))))))), ?_⟩
  refine r_seq (r_asg ?_)
  refine r_disp fun p hp0 => ?_
  have e1 : Ex H (upd H p (.dK [])) := Ex.new hp0
  have w1 : (upd H p (.dK [])) p = some (.dK []) := upd_same
  generalize upd H p (.dK []) = H1 at *
  refine r_pc ?_
  walk_at "rds"
  refine ⟨(by decide : (4 : Nat) ≤ sizeLine), fun a1 ha1 => ?_⟩
  have e2 : Ex H1 (upd H1 a1 (.lst [.int 2, .int 1, .int 2, .int 3])) := Ex.new ha1
  have w2 : (upd H1 a1 (.lst [.int 2, .int 1, .int 2, .int 3])) a1 = some (.lst [.int 2, .int 1, .int 2, .int 3]) := upd_same
  generalize upd H1 a1 (.lst [.int 2, .int 1, .int 2, .int 3]) = H2 at *
  walk_at "rds"
  have ndp : p ∉ [d] := fun z => by
    obtain ⟨o, g, _⟩ := hd.mob
    rw [List.mem_singleton.mp z, g] at hp0
    cases hp0
  have d2 := hd.ex (e1.trans e2)
  refine ⟨d, a1, _, rfl, d2, .inl ⟨SqL.of w2, ((hd.ex e1).mob.ne ha1).symm⟩, by simp, by simp, fun x H3 hx e3 d3 => ?_⟩
  obtain ⟨m, rfl, m1, m3⟩ : ∃ m : Nat, x = .int (m : Nat) ∧ 1 ≤ m ∧ m ≤ 3 := by
    simp only [List.mem_cons, List.not_mem_nil, or_false] at hx
    rcases hx with rfl | rfl | rfl | rfl
    · exact ⟨2, rfl, by decide, by decide⟩
    · exact ⟨1, rfl, by decide, by decide⟩
    · exact ⟨2, rfl, by decide, by decide⟩
    · exact ⟨3, rfl, by decide, by decide⟩
  have w3 : H3 p = some (.dK []) := e3 _ _ ndp (e2 _ _ w1)
  have e03 : Exm [d] H H3 := (Exm.of (e1.trans e2)).trans e3
  refine r_pc ?_
  walk_at "rds"
  refine r_disp fun D hD0 => ?_
  have e4 : Ex H3 (upd H3 D (.dK [])) := Ex.new hD0
  have w4 : (upd H3 D (.dK [])) D = some (.dK []) := upd_same
  generalize upd H3 D (.dK []) = H4 at *
  refine r_pc ?_
  walk_at "rds"
  refine ⟨Nat.zero_le _, fun t0 ht0 => ?_⟩
  have e5 : Ex H4 (upd H4 t0 (.tup [])) := Ex.new ht0
  have w5 : SqT K (upd H4 t0 (.tup [])) t0 (([] : List Str).map V.str) := SqT.of upd_same
  generalize upd H4 t0 (.tup []) = H5 at *
  refine r_pn ?_
  refine ⟨e5 _ _ w4, [(keyS "main", .ref t0)], rfl, (by decide : (1 : Nat) ≤ 15), ?_⟩
  have npD : p ≠ D := ne_of_none w3 hD0
  have k6 : Kx H5 (upd H5 D (.dK (mergeK [] [(keyS "main", .ref t0)]))) := Kx.upd (e5 _ _ w4) rfl
  have x6 : Ex H3 (upd H5 D (.dK (mergeK [] [(keyS "main", .ref t0)]))) := Ex.mut (e4.trans e5) hD0
  have w6 : (upd H5 D (.dK (mergeK [] [(keyS "main", .ref t0)]))) D = some (.dK [(keyS "main", .ref t0)]) := upd_same
  generalize upd H5 D (.dK (mergeK [] [(keyS "main", .ref t0)])) = H6 at *
  refine r_pn ?_
  refine ⟨x6 _ _ w3, [(keyS "modes", .int (m : Nat)), (keyS "heads", .ref D)], rfl, (by decide : (2 : Nat) ≤ 15), ?_⟩
  have k7 : Kx H6 (upd H6 p (.dK (mergeK [] [(keyS "modes", .int (m : Nat)), (keyS "heads", .ref D)]))) := Kx.upd (x6 _ _ w3) rfl
  have w7 : (upd H6 p (.dK (mergeK [] [(keyS "modes", .int (m : Nat)), (keyS "heads", .ref D)]))) p = some (.dK (mergeK [] [(keyS "modes", .int (m : Nat)), (keyS "heads", .ref D)])) := upd_same
  have e07 : Exm [d] H (upd H6 p (.dK (mergeK [] [(keyS "modes", .int (m : Nat)), (keyS "heads", .ref D)]))) := (e03.trans (.of x6)).mut hp0
  have y7 : (upd H6 p (.dK (mergeK [] [(keyS "modes", .int (m : Nat)), (keyS "heads", .ref D)]))) D = some (.dK [(keyS "main", .ref t0)]) := by rw [upd_ne npD.symm]; exact w6
  have d7 : DieAt (upd H6 p (.dK (mergeK [] [(keyS "modes", .int (m : Nat)), (keyS "heads", .ref D)]))) d := (d3.ex x6).eq (upd_ne fun z => ndp (List.mem_singleton.mpr z.symm))
  generalize upd H6 p (.dK (mergeK [] [(keyS "modes", .int (m : Nat)), (keyS "heads", .ref D)])) = H7 at *
  have hds7 : HeadsAt K H7 D [("main", [])] := ⟨_, y7, rfl, fun i x hx => by
    cases i with
    | zero => cases hx; exact ⟨t0, rfl, kx_t k7 (kx_t k6 w5)⟩
    | succ i => simp at hx⟩
  have hD00 : H D = none := by
    cases hh : H D with
    | none => rfl
    | some o =>
      by_cases hz : D ∈ [d]
      · obtain ⟨o', g, _⟩ := d3.mob
        rw [List.mem_singleton.mp hz, g] at hD0
        cases hD0
      · rw [e03 _ _ hz hh] at hD0
        cases hD0
  have ndD : D ∉ [d] := fun z => by
    obtain ⟨o', g, _⟩ := d3.mob
    rw [List.mem_singleton.mp z, g] at hD0
    cases hD0
  clear w6 k7 k6 w5 w4 w3 w2 w1 x6 e5 e4
  refine r_name ?_
  dsimp only
  -- the signals
  refine r_seq (r_dput ?_)
  refine r_cutH (fun x H' => ∃ (sa : Addr) (sg : List Str), x = .ref sa ∧ SqT K H' sa (sg.map V.str) ∧ ((∀ x ∈ sg, isNm x = true) ∧ asc sg = true ∧ sg.length ≤ 2) ∧ Exm [d] H7 H' ∧ DieAt H' d) (fun Q' k => ?_) ?_
  · walk_at "rds"
    refine ⟨(by decide : (1 : Nat) ≤ sizeLine), fun b1 hb1 => ?_⟩
    have x1 : Ex H7 (upd H7 b1 (.tup [.str "need"])) := Ex.new hb1
    have y1 : SqT K (upd H7 b1 (.tup [.str "need"])) b1 ((["need"] : List Str).map V.str) := SqT.of upd_same
    generalize upd H7 b1 (.tup [.str "need"]) = G1 at *
    walk_at "rds"
    refine ⟨(by decide : (0 : Nat) ≤ sizeLine), fun b2 hb2 => ?_⟩
    have x2 : Ex G1 (upd G1 b2 (.tup [])) := Ex.new hb2
    have y2 : SqT K (upd G1 b2 (.tup [])) b2 (([] : List Str).map V.str) := SqT.of upd_same
    generalize upd G1 b2 (.tup []) = G2 at *
    walk_at "rds"
    refine ⟨(by decide : (2 : Nat) ≤ sizeLine), fun b3 hb3 => ?_⟩
    have x3 : Ex G2 (upd G2 b3 (.tup [.str "late", .str "need"])) := Ex.new hb3
    have y3 : SqT K (upd G2 b3 (.tup [.str "late", .str "need"])) b3 ((["late", "need"] : List Str).map V.str) := SqT.of upd_same
    generalize upd G2 b3 (.tup [.str "late", .str "need"]) = G3 at *
    walk_at "rds"
    refine ⟨(by decide : (1 : Nat) ≤ sizeLine), fun b4 hb4 => ?_⟩
    have x4 : Ex G3 (upd G3 b4 (.tup [.str "b"])) := Ex.new hb4
    have y4 : SqT K (upd G3 b4 (.tup [.str "b"])) b4 ((["b"] : List Str).map V.str) := SqT.of upd_same
    generalize upd G3 b4 (.tup [.str "b"]) = G4 at *
    walk_at "rds"
    refine ⟨(by decide : (0 : Nat) ≤ sizeLine), fun b5 hb5 => ?_⟩
    have x5 : Ex G4 (upd G4 b5 (.tup [])) := Ex.new hb5
    have y5 : SqT K (upd G4 b5 (.tup [])) b5 (([] : List Str).map V.str) := SqT.of upd_same
    generalize upd G4 b5 (.tup []) = G5 at *
    walk_at "rds"
    refine ⟨(by decide : (5 : Nat) ≤ sizeLine), fun b6 hb6 => ?_⟩
    have x6 : Ex G5 (upd G5 b6 (.lst [.ref b1, .ref b2, .ref b3, .ref b4, .ref b5])) := Ex.new hb6
    have y6 : (upd G5 b6 (.lst [.ref b1, .ref b2, .ref b3, .ref b4, .ref b5])) b6 = some (.lst [.ref b1, .ref b2, .ref b3, .ref b4, .ref b5]) := upd_same
    generalize upd G5 b6 (.lst [.ref b1, .ref b2, .ref b3, .ref b4, .ref b5]) = G6 at *
    walk_at "rds"
    have x06 : Ex H7 G6 := x1.trans (x2.trans (x3.trans (x4.trans (x5.trans x6))))
    have d06 := d7.ex x06
    refine ⟨d, b6, _, rfl, d06, .inl ⟨SqL.of y6, ((d7.ex (x1.trans (x2.trans (x3.trans (x4.trans x5))))).mob.ne hb6).symm⟩, by simp, by simp, fun x H8 hx e8 d8 => ?_⟩
    have k8 := e8.kx d06.m
    have e78 : Exm [d] H7 H8 := (Exm.of x06).trans e8
    have nmb : isNm "need" = true ∧ isNm "late" = true ∧ isNm "b" = true ∧ asc ["late", "need"] = true := by decide +kernel
    simp only [List.mem_cons, List.not_mem_nil, or_false] at hx
    rcases hx with rfl | rfl | rfl | rfl | rfl
    · exact k _ _ ⟨b1, ["need"], rfl, kx_t k8 (ex_t (x2.trans (x3.trans (x4.trans (x5.trans x6)))) y1), ⟨by simp [nmb], rfl, by decide⟩, e78, d8⟩
    · exact k _ _ ⟨b2, [], rfl, kx_t k8 (ex_t (x3.trans (x4.trans (x5.trans x6))) y2), ⟨by simp, rfl, by decide⟩, e78, d8⟩
    · exact k _ _ ⟨b3, ["late", "need"], rfl, kx_t k8 (ex_t (x4.trans (x5.trans x6)) y3), ⟨by simp [nmb], nmb.2.2.2, by decide⟩, e78, d8⟩
    · exact k _ _ ⟨b4, ["b"], rfl, kx_t k8 (ex_t (x5.trans x6) y4), ⟨by simp [nmb], rfl, by decide⟩, e78, d8⟩
    · exact k _ _ ⟨b5, [], rfl, kx_t k8 (ex_t x6 y5), ⟨by simp, rfl, by decide⟩, e78, d8⟩
  rintro _ H8 ⟨sa, sg, rfl, hsa, hsg, e8, d8⟩
  walk_at "rds"
  have w8 := e8 _ _ ndp w7
  refine ⟨p, _, rfl, DPut.k (k := keyS "signals") w8 (small (by rw [mg2_len]; decide)), ?_⟩
  have k9 : Kx H8 (upd H8 p (.dK (putK (mergeK [] [(keyS "modes", .int (m : Nat)), (keyS "heads", .ref D)]) (keyS "signals") (.ref sa)))) := Kx.upd w8 rfl
  have w9 : (upd H8 p (.dK (putK (mergeK [] [(keyS "modes", .int (m : Nat)), (keyS "heads", .ref D)]) (keyS "signals") (.ref sa)))) p = some (.dK (putK (mergeK [] [(keyS "modes", .int (m : Nat)), (keyS "heads", .ref D)]) (keyS "signals") (.ref sa))) := upd_same
  have e09 : Exm [d] H (upd H8 p (.dK (putK (mergeK [] [(keyS "modes", .int (m : Nat)), (keyS "heads", .ref D)]) (keyS "signals") (.ref sa)))) := (e07.trans e8).mut hp0
  have e89 : Exm [p] H8 (upd H8 p (.dK (putK (mergeK [] [(keyS "modes", .int (m : Nat)), (keyS "heads", .ref D)]) (keyS "signals") (.ref sa)))) := (Exm.refl _ _).set (by simp)
  have d9 : DieAt (upd H8 p (.dK (putK (mergeK [] [(keyS "modes", .int (m : Nat)), (keyS "heads", .ref D)]) (keyS "signals") (.ref sa)))) d := d8.eq (upd_ne fun z => ndp (List.mem_singleton.mpr z.symm))
  generalize upd H8 p (.dK (putK (mergeK [] [(keyS "modes", .int (m : Nat)), (keyS "heads", .ref D)]) (keyS "signals") (.ref sa))) = H9 at *
  have hds9 : HeadsAt K H9 D [("main", [])] := (hds7.stay e8 ndD d7.m).stay e89 (fun z => npD (List.mem_singleton.mp z).symm) fun a ha => by rw [List.mem_singleton.mp ha]; exact .dK w8
  have hsa9 := kx_t k9 hsa
  obtain ⟨v1, v2, v3, v4, v5⟩ := mg3_at (m := m) (D := D) (sa := sa)
  generalize putK (mergeK [] [(keyS "modes", .int (m : Nat)), (keyS "heads", .ref D)]) (keyS "signals") (.ref sa) = kv at *
  clear w7 e07 y7 d7 hds7 e8 d8 hsa w8 k9 e89
  dsimp only
  clear ha1 ht0 hx
  refine r_seq (r_for ?_)
  walk_at "rds"
  refine ⟨(by decide : (4 : Nat) ≤ sizeLine), fun c1 hc1 => ?_⟩
  have x10 : Ex H9 (upd H9 c1 (.lst [.str "each", .str "work", .str "p", .str "out"])) := Ex.new hc1
  have y10 : (upd H9 c1 (.lst [.str "each", .str "work", .str "p", .str "out"])) c1 = some (.lst ((["each", "work", "p", "out"] : List Str).map V.str)) := upd_same
  generalize upd H9 c1 (.lst [.str "each", .str "work", .str "p", .str "out"]) = H10 at *
  walk_at "rds"
  refine ⟨d, c1, _, rfl, d9.ex x10, SqL.of y10, (d9.mob.ne hc1).symm, by decide, fun c2 ys H11 hperm hc2 e11 d11 w11 => ?_⟩
  obtain ⟨zs, rfl, hzs⟩ := perm_map hperm
  walk_at "rds"
  refine ⟨d, 4, rfl, d11, by decide, by decide, fun j H12 hj e12 d12 => ?_⟩
  walk_at "rds"
  have nc2 : c2 ∉ [d] := fun z => by
    obtain ⟨o, g, _⟩ := (d9.ex x10).mob
    rw [List.mem_singleton.mp z, g] at hc2
    cases hc2
  have w12 := e12 _ _ nc2 w11
  refine .inl (r_slLt (k := j) (SqL.of w12) fun c3 H13 hc3 e13 w13 => ?_)
  rw [← List.map_take] at w13
  have e913 : Exm [d] H9 H13 := (Exm.of x10).trans (e11.trans (e12.trans (.of e13)))
  have d13 := d12.ex e13
  have hns : (zs.take j).Nodup ∧ (∀ n ∈ zs.take j, isNm n = true ∧ n ≠ "main") ∧ (zs.take j).length ≤ 4 := by
    have hl : zs.length = 4 := by rw [hzs.length_eq]; rfl
    refine ⟨(hzs.nodup_iff.mpr (by decide +kernel)).sublist (List.take_sublist j zs), fun n hn => ?_, by rw [List.length_take]; omega⟩
    have h1 : ∀ n ∈ (["each", "work", "p", "out"] : List Str), isNm n = true ∧ n ≠ "main" := by decide +kernel
    exact h1 n (hzs.mem_iff.mp (List.mem_of_mem_take hn))
  generalize zs.take j = ns at *
  obtain ⟨ns1, ns2, ns3⟩ := hns
  have w9p : H13 p = some (.dK kv) := e913 _ _ ndp w9
  have hds13 : HeadsAt K H13 D [("main", [])] := hds9.stay e913 ndD d9.m
  have nDd : D ≠ d := fun z => ndD (List.mem_singleton.mpr z)
  have npd : p ≠ d := fun z => ndp (List.mem_singleton.mpr z)
  have npdD : p ∉ [d, D] := by simp [npd, npD]
  have mo : ∀ {H' : Hp} {hs}, DieAt H' d → HeadsAt K H' D hs → ∀ a ∈ [d, D], Mob H' a := fun h1 h2 a ha => by
    rcases List.mem_cons.mp ha with rfl | ha
    · exact h1.mob
    · rw [List.mem_singleton.mp ha]; exact h2.mob
  have nc3 : c3 ∉ [d, D] := fun z => by
    rcases List.mem_cons.mp z with rfl | z
    · obtain ⟨o, g, _⟩ := d12.mob
      rw [g] at hc3
      cases hc3
    · rw [List.mem_singleton.mp z] at hc3
      have hm := (hds9.stay ((Exm.of x10).trans (e11.trans e12)) ndD d9.m).mob
      obtain ⟨o, g, _⟩ := hm
      rw [g] at hc3
      cases hc3
  refine ⟨c3, rfl, ⟨_, SqL.of w13⟩, for_over (over_list (xs := ns.map V.str)) (fun i σ H' => ∃ o2, σ = [some (.ref d), some (.ref p), o2, none, none] ∧ Exm [d, D] H13 H' ∧ DieAt H' d ∧ ∃ hs, HeadsAt K H' D hs ∧ HsOk hs ∧ hs.map (·.1) = ("main" : Str) :: ns.take i) ⟨none, rfl, Exm.refl _ _, d13, [("main", [])], hds13, ⟨fun h hh => by rw [List.mem_singleton.mp hh]; exact ⟨by decide +kernel, by simp, by simp, by simp⟩, by simp, by simp, by simp⟩, rfl⟩ (fun i σ H' ⟨_, _, h, _⟩ => SqL.of (h _ _ nc3 w13)) ?_ ?_⟩
  · rintro i x σ H14 H15 hi ⟨o2, rfl, e14, d14, hs, hds, hok, hnm⟩ e15 hx
    obtain ⟨n, hn, rfl⟩ := str_at hx
    refine r_name ?_
    refine r_dput ?_
    refine r_cutH (fun x H' => ∃ (to : Addr) (own : List Str), x = .ref to ∧ SqT K H' to (own.map V.str) ∧ (∀ x ∈ own, isNm x = true) ∧ own.Nodup ∧ own.length ≤ 2 ∧ Exm [d] H15 H' ∧ DieAt H' d) (fun Q' k => ?_) ?_
    · walk_at "rds"
      refine ⟨(by decide : (3 : Nat) ≤ sizeLine), fun f1 hf1 => ?_⟩
      have z1 : Ex H15 (upd H15 f1 (.lst [.str "b", .str "x", .str "need"])) := Ex.new hf1
      have u1 : (upd H15 f1 (.lst [.str "b", .str "x", .str "need"])) f1 = some (.lst ((["b", "x", "need"] : List Str).map V.str)) := upd_same
      have d15 := d14.ex e15
      generalize upd H15 f1 (.lst [.str "b", .str "x", .str "need"]) = G1 at *
      walk_at "rds"
      refine ⟨d, f1, _, rfl, d15.ex z1, SqL.of u1, (d15.mob.ne hf1).symm, by decide, fun f2 ys G2 hperm hf2 z2 d2 u2 => ?_⟩
      obtain ⟨ps, rfl, hps⟩ := perm_map hperm
      walk_at "rds"
      refine ⟨(by decide : (4 : Nat) ≤ sizeLine), fun f3 hf3 => ?_⟩
      have z3 : Ex G2 (upd G2 f3 (.lst [.int 1, .int 2, .int 0, .int 1])) := Ex.new hf3
      have u3 : (upd G2 f3 (.lst [.int 1, .int 2, .int 0, .int 1])) f3 = some (.lst [.int 1, .int 2, .int 0, .int 1]) := upd_same
      generalize upd G2 f3 (.lst [.int 1, .int 2, .int 0, .int 1]) = G3 at *
      walk_at "rds"
      refine ⟨d, f3, _, rfl, d2.ex z3, .inl ⟨SqL.of u3, (d2.mob.ne hf3).symm⟩, by simp, by simp, fun y G4 hy z4 d4 => ?_⟩
      obtain ⟨k3, rfl, hk3⟩ : ∃ k : Nat, y = .int (k : Nat) ∧ k ≤ 2 := by
        simp only [List.mem_cons, List.not_mem_nil, or_false] at hy
        rcases hy with rfl | rfl | rfl | rfl
        · exact ⟨1, rfl, by decide⟩
        · exact ⟨2, rfl, by decide⟩
        · exact ⟨0, rfl, by decide⟩
        · exact ⟨1, rfl, by decide⟩
      walk_at "rds"
      have nf2 : f2 ∉ [d] := fun z => by
        obtain ⟨o, g, _⟩ := (d15.ex z1).mob
        rw [List.mem_singleton.mp z, g] at hf2
        cases hf2
      refine .inl (r_slLt (k := k3) (SqL.of (z4 _ _ nf2 (z3 _ _ u2))) fun f4 G5 hf4 z5 u5 => ?_)
      rw [← List.map_take] at u5
      walk_at "rds"
      refine ⟨f4, _, rfl, .inl ⟨SqL.of u5, fun to hto => ?_⟩⟩
      have z6 := Ex.new (o := .tup ((ps.take k3).map V.str)) hto
      have hpm : ∀ x ∈ (["b", "x", "need"] : List Str), isNm x = true := by decide +kernel
      exact k _ _ ⟨to, ps.take k3, rfl, SqT.of upd_same, fun x hx => hpm x (hps.mem_iff.mp (List.mem_of_mem_take hx)), (hps.nodup_iff.mpr (by decide +kernel)).sublist (List.take_sublist _ _), by rw [List.length_take]; omega,
        (Exm.of z1).trans (z2.trans ((Exm.of z3).trans (z4.trans (.of (z5.trans z6))))), d4.ex (z5.trans z6)⟩
    rintro _ H16 ⟨to, own, rfl, hto, o1, o2', o3, e16, d16⟩
    have hds15 : HeadsAt K H15 D hs := hds.stay (M := []) (.of e15) (by simp) (by simp)
    have hds16 := hds15.stay e16 ndD (d14.ex e15).m
    have w16 := e16 _ _ ndp (e15 _ _ (e14 _ _ npdD w9p))
    refine r_dget ?_
    walk_at "rds"
    refine r_key w16 v3 ?_
    walk_at "rds"
    have hi2 : i < ns.length := (List.getElem?_eq_some_iff.mp hn).1
    have hnn : n ∉ hs.map (·.1) := by
      rw [hnm]
      intro z
      rcases List.mem_cons.mp z with z | z
      · exact (ns2 n (List.mem_of_getElem? hn)).2 z
      · obtain ⟨i', hi', e'⟩ := List.getElem_of_mem z
        rw [List.length_take] at hi'
        rw [List.getElem_take] at e'
        have := nd_at ns1 (show ns[i']? = some n by rw [List.getElem?_eq_getElem (by omega), e']) hn
        omega
    obtain ⟨kvh, hw, hl, hput⟩ := hds16.put hnn hto
    have hhl : hs.length = i + 1 := by
      have := congrArg List.length hnm
      rw [List.length_map, List.length_cons, List.length_take] at this
      omega
    refine ⟨D, _, rfl, DPut.k (k := keyS n) hw (small (by omega)), ?_⟩
    refine ⟨_, rfl, (e14.trans ((Exm.of e15).trans (e16.sub (by simp)))).set (by simp), d16.eq (upd_ne nDd.symm), _, hput, ⟨fun h hh => ?_, ?_, List.mem_append_left _ hok.main, by rw [List.length_append, List.length_singleton]; omega⟩, ?_⟩
    · rcases List.mem_append.mp hh with hh | hh
      · exact hok.each h hh
      · rw [List.mem_singleton.mp hh]
        exact ⟨(ns2 n (List.mem_of_getElem? hn)).1, o1, o2', o3⟩
    · rw [List.map_append, List.nodup_append]
      refine ⟨hok.nd, by simp, fun a ha b hb => ?_⟩
      rw [show b = n by simpa using hb]
      intro e
      exact hnn (by rw [← e]; exact ha)
    · rw [List.map_append, hnm, List.take_add_one, hn]
      rfl
  · rintro σ H14 ⟨o2, rfl, e14, d14, hs, hds, hok, hnm⟩
    dsimp only
    have w14 := e14 _ _ npdD w9p
    have hsa14 : SqT K H14 sa (sg.map V.str) := kx_t (e14.kx (mo d13 hds13)) (kx_t (e913.kx d9.m) hsa9)
    have okc : PlOk ⟨m, sg, hs⟩ := hok.ok m1 m3 hsg
    have pl14 : Plan0 K H14 p D ⟨m, sg, hs⟩ := ⟨kv, sa, w14, by omega, v1, v2, hsa14, v3, hds, fun _ => by omega⟩
    have e014 : Exm [d] H H14 := Exm.drop (F := D) (((e09.trans e913).sub (by simp)).trans (e14.sub (by simp))) hD00
    walk_at "rds"
    refine ⟨Nat.zero_le _, fun R hR => ?_⟩
    have x15 : Ex H14 (upd H14 R (.lst [])) := Ex.new hR
    have w15 : (upd H14 R (.lst [])) R = some (.lst []) := upd_same
    generalize upd H14 R (.lst []) = H15 at *
    have ndR : R ∉ [d] ∧ R ≠ p := by
      refine ⟨fun z => ?_, fun z => ?_⟩
      · obtain ⟨o, g, _⟩ := d14.mob
        rw [List.mem_singleton.mp z, g] at hR
        cases hR
      · rw [z, w14] at hR
        cases hR
    have pl15 := pl14.stay (M := []) (.of x15) (by simp) (by simp) (by simp)
    have d15 := d14.ex x15
    walk_at "rds"
    refine r_dget ?_
    walk_at "rds"
    refine r_key (x15 _ _ w14) v3 ?_
    walk_at "rds"
    have hds15 : HeadsAt K H15 D hs := hds.stay (M := []) (.of x15) (by simp) (by simp)
    obtain ⟨hk, f1, f2, f3⟩ := id hds15
    have hhl : hk.length = hs.length := by
      have := congrArg List.length f2
      rwa [List.length_map, List.length_map] at this
    refine ⟨D, hk, hs.map (·.1), rfl, .inl f1, by rw [f2, List.map_map]; rfl, by rw [List.length_map]; have := hok.le; omega, fun ys ps hperm _ hps => ?_⟩
    have x16 : Ex H15 (upd H15 ps (.lst (ys.map V.str))) := Ex.new hps
    have w16 : (upd H15 ps (.lst (ys.map V.str))) ps = some (.lst (ys.map V.str)) := upd_same
    generalize upd H15 ps (.lst (ys.map V.str)) = H16 at *
    have hyl : ys.length = hs.length := by rw [hperm.length_eq, List.length_map]
    walk_at "rds"
    refine ⟨d, ps, _, rfl, d15.ex x16, SqL.of w16, (d15.mob.ne hps).symm, by rw [List.length_map, hyl]; have := hok.le; omega, fun g1 vs H17 hvp hg1 e17 d17 w17 => ?_⟩
    obtain ⟨us, rfl, hus⟩ := perm_map hvp
    have husp : us.Perm (hs.map (·.1)) := hus.trans hperm
    have hul : us.length = hs.length := by rw [hus.length_eq, hyl]
    have hus10 := hok.le
    have e1517 : Exm [d] H15 H17 := (Exm.of x16).trans e17
    have pl17 : Plan0 K H17 p D ⟨m, sg, hs⟩ := by
      obtain ⟨q1, q2⟩ := pl15.ne d15
      exact pl15.stay e1517 q1 q2 d15.m
    have w17R : H17 R = some (.lst []) := e1517 _ _ ndR.1 w15
    have e017 : Exm [d, p, R] H H17 := (e014.trans ((Exm.of x15).trans e1517)).sub (by simp)
    have ng1 : g1 ∉ [d, p, R] := fun z => by
      rcases List.mem_cons.mp z with rfl | z
      · obtain ⟨o, g, _⟩ := (d15.ex x16).mob
        rw [g] at hg1; cases hg1
      rcases List.mem_cons.mp z with rfl | z
      · rw [x16 _ _ (x15 _ _ w14)] at hg1; cases hg1
      · rw [List.mem_singleton.mp z, x16 _ _ w15] at hg1; cases hg1
    refine ⟨g1, rfl, ⟨_, SqL.of w17⟩, for_over (over_list (xs := us.map V.str)) (fun i σ H' => ∃ o2 o4, σ = [some (.ref d), some (.ref p), o2, some (.ref R), o4] ∧ Exm [d, p, R] H17 H' ∧ DieAt H' d ∧ Plan0 K H' p D ⟨m, sg, hs⟩ ∧ ∃ xs rows, H' R = some (.lst xs) ∧ Pw (fun y r => RowL K y r H') xs rows ∧ rows.map (·.name) = us.take i ∧ ∀ r ∈ rows, (r.name, r.own) ∈ hs ∧ OkBody (pcfg ⟨m, sg, hs⟩) r.own r.body) ⟨_, _, rfl, Exm.refl _ _, d17, pl17, [], [], w17R, .nil, by simp, by simp⟩ (fun i σ H' ⟨_, _, _, h, _⟩ => SqL.of (h _ _ ng1 w17)) ?_ ?_⟩
    · rintro i x σ H18 H19 hi ⟨o2, o4, rfl, e18, d18, pl18, xs, rows, w18, pw, hnm2, hrw⟩ e19 hx
      obtain ⟨n, hn, rfl⟩ := str_at hx
      have pl19 := pl18.stay (M := []) (.of e19) (by simp) (by simp) (by simp)
      have d19 := d18.ex e19
      refine r_name ?_
      walk_at "rds"
      refine r_dget ?_
      refine r_dget ?_
      walk_at "rds"
      obtain ⟨kv9, sa9, k1, k2, k3, k4, k5, k6, ⟨hk9, k7, k8, k9⟩, k10⟩ := id pl19
      refine r_key k1 k6 ?_
      walk_at "rds"
      have hmem : n ∈ hs.map (·.1) := husp.mem_iff.mp (List.mem_of_getElem? hn)
      obtain ⟨hh, hhm, rfl⟩ := List.mem_map.mp hmem
      obtain ⟨ih, hih, eih⟩ := List.getElem_of_mem hhm
      obtain ⟨ao, n4, n5⟩ := k9 ih hh (by show hs[ih]? = _; rw [List.getElem?_eq_getElem hih, eih])
      have hnd : (hk9.map (·.1)).Nodup := by
        rw [k8]
        show (hs.map fun h => keyS h.1).Nodup
        rw [show hs.map (fun h => keyS h.1) = (hs.map (·.1)).map keyS by rw [List.map_map]; rfl]
        exact List.Pairwise.map _ (fun a b h e => h (keyS_inj.mp e)) hok.nd
      refine r_key k7 (val_nodup hnd n4) ?_
      refine r_name ?_
      dsimp only
      walk_at "rds"
      have w19 := e19 _ _ w18
      refine ⟨ty_l w19, ?_⟩
      walk_at "rds"
      obtain ⟨h1, h2, h3, h4⟩ := hok.each hh hhm
      refine ⟨d, p, D, ao, ⟨m, sg, hs⟩, hh.2, rfl, d19, pl19, npD, okc, n5, h2, by omega, fun v t H20 e20 d20 pl20 okb hdv => ?_⟩
      walk_at "rds"
      refine ⟨(by decide : (3 : Nat) ≤ sizeLine), fun rq hrq => ?_⟩
      have x21 : Ex H20 (upd H20 rq (.lst [.str hh.1, .ref ao, v])) := Ex.new hrq
      have w21 : (upd H20 rq (.lst [.str hh.1, .ref ao, v])) rq = some (.lst [.str hh.1, .ref ao, v]) := upd_same
      generalize upd H20 rq (.lst [.str hh.1, .ref ao, v]) = H21 at *
      walk_at "rds"
      have ndR2 : R ∉ [d, p] := by
        simp only [List.mem_cons, List.not_mem_nil, or_false, not_or]
        exact ⟨fun z => ndR.1 (List.mem_singleton.mpr z), ndR.2⟩
      have w20R := e20 _ _ ndR2 w19
      have w21R := x21 _ _ w20R
      have hxl : xs.length = i := by
        have h1 := congrArg List.length hnm2
        have h2 : i < us.length := (List.getElem?_eq_some_iff.mp hn).1
        rw [List.length_map, List.length_take] at h1
        rw [pw.1]
        omega
      have hi9 : i < us.length := (List.getElem?_eq_some_iff.mp hn).1
      refine ⟨R, xs, _, rfl, rfl, w21R, small (by omega), ?_⟩
      have off19 : Off [d, p] H19 := fun a ha => by
        rcases List.mem_cons.mp ha with rfl | ha
        · exact d19.off
        · rw [List.mem_singleton.mp ha]; exact dK_off k1
      have hrefs : ∀ x ∈ xs, ∃ q, x = V.ref q := fun x hx => by
        obtain ⟨i, hi, e⟩ := List.getElem_of_mem hx
        obtain ⟨g, _, q, _, _, f, _⟩ := pw.2 i x (by rw [List.getElem?_eq_getElem hi, e])
        exact ⟨q, f⟩
      have off21 : Off [R] H21 := fun a ha => by rw [List.mem_singleton.mp ha]; exact refs_off w21R hrefs
      have s22 : Exm [R] H21 (upd H21 R (.lst (xs ++ [.ref rq]))) := (Exm.refl _ _).set (by simp)
      have k22 : Kx H21 (upd H21 R (.lst (xs ++ [.ref rq]))) := Kx.upd w21R rfl
      have d22 : DieAt (upd H21 R (.lst (xs ++ [.ref rq]))) d := (d20.ex x21).eq (upd_ne fun z => ndR.1 (List.mem_singleton.mpr z.symm))
      have w22 : (upd H21 R (.lst (xs ++ [.ref rq]))) R = some (.lst (xs ++ [.ref rq])) := upd_same
      generalize upd H21 R (.lst (xs ++ [.ref rq])) = H22 at *
      have nPR : p ∉ [R] ∧ D ∉ [R] := by
        obtain ⟨kv9, sa9, k1, _, _, _, _, _, ⟨hk9, k7, _⟩, _⟩ := id pl20
        exact ⟨fun z => by (rw [List.mem_singleton.mp z, w20R] at k1; cases k1), fun z => by (rw [List.mem_singleton.mp z, w20R] at k7; cases k7)⟩
      have pl22 : Plan0 K H22 p D ⟨m, sg, hs⟩ := (pl20.stay (M := []) (.of x21) (by simp) (by simp) (by simp)).stay s22 nPR.1 nPR.2 off21.mo
      refine ⟨_, _, rfl, e18.trans ((Exm.of e19).trans ((e20.sub fun a ha => (List.mem_append_left [R] ha : a ∈ [d, p] ++ [R])).trans ((Exm.of x21).trans (s22.sub (by simp))))), d22, pl22, xs ++ [.ref rq], rows ++ [⟨hh.1, hh.2, t⟩], w22, ?_, ?_, ?_⟩
      · refine Pw.app (pw.imp fun y r h => (((h.ex e19).stay e20 off19).ex x21).stay s22 off21) (.one (RowL.stay ⟨rq, ao, v, rfl, w21, ?_, ?_⟩ s22 off21))
        · exact ex_t x21 (kx_t (e20.kx off19.mo) n5)
        · exact Dp.ex x21 _ _ hdv
      · rw [List.map_append, hnm2, List.take_add_one, hn]
        rfl
      · intro r hr'
        rcases List.mem_append.mp hr' with hr' | hr'
        · exact hrw r hr'
        · rw [List.mem_singleton.mp hr']
          exact ⟨hhm, okb⟩
    · rintro σ H18 ⟨o2, o4, rfl, e18, d18, pl18, xs, rows, w18, pw, hnm2, hrw⟩
      dsimp only
      rw [List.length_map, List.take_length] at hnm2
      obtain ⟨kv9, sa9, k1, k2, k3, k4, k5, k6, _⟩ := id pl18
      walk_at "rds"
      refine r_dget ?_
      walk_at "rds"
      refine r_key k1 k3 ?_
      refine r_dget ?_
      walk_at "rds"
      refine r_key k1 k4 ?_
      walk_at "rds"
      refine ⟨(by decide : (3 : Nat) ≤ sizeLine), fun o ho => ?_⟩
      have x19 := Ex.new (o := .lst [.int (m : Nat), .ref sa9, .ref R]) ho
      have okp : OkPl ⟨m, sg, rows⟩ := drawn_ok hok m1 m3 hsg (by rw [hnm2]; exact husp) hrw
      have hR0 : H R = none := by
        cases hh : H R with
        | none => rfl
        | some o =>
          rw [e014 _ _ ndR.1 hh] at hR
          cases hR
      have efin : Exm [d] H (upd H18 o (.lst [.int (m : Nat), .ref sa9, .ref R])) := by
        refine Exm.drop (F := p) (Exm.drop (F := R) ?_ hR0) hp0
        exact (e017.trans (e18.trans (.of x19))).sub fun a ha => by
          simp only [List.mem_cons, List.not_mem_nil, or_false] at ha ⊢
          rcases ha with h | h | h <;> simp [h]
      exact q _ ⟨m, sg, rows⟩ _ efin (d18.ex x19) ⟨o, sa9, R, xs, rfl, upd_same, ex_t x19 k5, x19 _ _ w18, pw.imp fun y r h => h.ex x19⟩ okp
end
end K8
/-! _law_made -/
namespace K8
open PySem PySem.Spec L2 Evl
open PyProof.Rows hiding St
section
variable {P : Program} {w : World} {K : PySem.W.Frag} {mg : Str → Option Value} {base : Heap} {C C2 : Addr}
def spMade (K : PySem.W.Frag) (C C2 : Addr) : Sp := fun vs H Q _ => ∃ (x : V) (p : Pl), vs = [x] ∧ PlainAt K H x p ∧ OkPl p ∧ ∀ y H', Ex H H' → PgAt K C C2 H' y p → Q y H'
theorem r_mkR {C : Addr} {sp : Sp} {E : XK} {t : TA} {σ : L2.St} {H : Hp} {Q : VK} (q : t σ H fun vs H1 => ∀ x dx, H1 x = Option.none → H1 dx = Option.none → dx ≠ x → sp (V.ref x :: vs) (upd (upd H1 dx (.own x)) x (.ins C dx [])) (fun v H2 => v = .non ∧ Q (.ref x) H2) E) : StX.tMakeR C sp E t σ H Q := q
theorem c_made (D : Dfn K mg "_law_made" (top 73) ["_law_plain"]) (T : Txt K mg) (CO : OfM P w K mg base 12 C2 (spOf K C C2)) (CP : MakR P w K mg base 6 "Procedure" C (spPrI K C)) : Cal P w K mg base 13 "_law_made" (spMade K C C2) := by
  refine D.cal (N := ["_law_plain", "_law_row"]) (by decide +kernel) (fun vs H Q E h => ?_) fun f cdv A outer s H vs Q E hr nd h => ?_
  · obtain ⟨x, p, rfl, _⟩ := h
    rfl
  obtain ⟨x, p, rfl, ⟨q0, sa, rl, xs, rfl, h1, h2, h3, h4⟩, ok, q⟩ := h
  refine ⟨_, pss_one (ps_ret (p_of CO hr (by decide) (pa_cons (p_ixL (K := K) (pv 0) pe_int) (pa_cons (p_ixL (K := K) (pv 0) pe_int) (pa_cons (pe_callTy call_tuple_of rfl T.tuple boot_tuple (pa_cons (pe_lc (own := [("_law_row", 1)]) (g := gName 1) (tt := tYes) rfl nd (pi_list (p_ixL (K := K) (pv 0) pe_int)) (blkOk_by (N := ["_law_plain", "_law_row"]) (sc := defScope (top 73)) (by decide +kernel))
      (fun _ _ _ _ _ => pg_name (i := 1) nd rfl (Or.inl rfl)) (fun _ _ _ _ _ => pts_nil) (fun _ _ _ _ _ => pe_mkR CP hr (by decide) (pa_cons (p_ixL (K := K) (pv 1) pe_int) (pa_cons (p_ixL (K := K) (pv 1) pe_int) (pa_cons (p_ixL (K := K) (pv 1) pe_int) pa_nil))))) pa_nil)) pa_nil))))), ?_⟩
  walk_at "rds"
  refine ⟨rfl, ?_⟩
  walk_at "rds"
  refine r_ixL (SqL.of h1) r_at0 ?_
  walk_at "rds"
  refine r_ixL (SqL.of h1) r_at1 ?_
  walk_at "rds"
  refine r_ixL (SqL.of h1) r_at2 ?_
  have hr10 := ok.rw_.2
  refine ⟨rl, rfl, ⟨_, SqL.of h3⟩, lc_own (over_list (xs := xs)) (fun H' e' => SqL.of (e' _ _ h3)) (fun i y G => ∃ r l, p.rows[i]? = some r ∧ PrAtL K C G y r l) (fun i y H H' e ⟨r, l, h1, h2⟩ => ⟨r, l, h1, h2.ex e⟩) (small (by have := h4.1; omega)) (fun i x H1 D1 ys hi e1 hD hDl hx Q q => ?_) fun D1 H1 ys G hD eG eG2 hDl hyl hall => ?_⟩
  · obtain ⟨r, hrr, qa, o, v, rfl, f1, f2, f3⟩ := h4.2 i x hx
    refine r_name ⟨rfl, ?_⟩
    have okr := ok.ok r (List.mem_of_getElem? hrr)
    have f1' := e1 _ _ f1
    refine r_mkR ?_
    walk_at "rds"
    refine r_ixL (SqL.of f1') r_at0 ?_
    walk_at "rds"
    refine r_ixL (SqL.of f1') r_at1 ?_
    walk_at "rds"
    refine r_ixL (SqL.of f1') r_at2 ?_
    walk_at "rds"
    exact pr_made (ex_t e1 f2) (Dp.ex e1 _ _ f3) ok.m1 ok.m3 okr fun x H' l hl e' hpr => q _ _ e' ⟨r, l, hrr, hpr.era (e' _ _ hDl) (ne_of_none hDl hl).symm⟩
  walk_at "rds"
  refine ⟨D1, ys, rfl, .inl ⟨SqL.of hDl, fun pr hpr => ?_⟩⟩
  have e2 : Ex H1 (upd H1 pr (.tup ys)) := Ex.new hpr
  have w2 : SqT K (upd H1 pr (.tup ys)) pr ys := SqT.of upd_same
  generalize upd H1 pr (.tup ys) = H2 at *
  walk_at "rds"
  have x2 : Ex H H2 := (eG.trans eG2).trans e2
  refine ⟨sa, pr, ys, p, rfl, ex_t x2 h2, w2, ⟨by rw [hyl, h4.1], fun i y hy => ?_⟩, ok, fun x H3 e3 hpg => q x H3 (x2.trans e3) hpg⟩
  obtain ⟨r, l, h1, h2⟩ := hall i y hy
  exact ⟨r, h1, l, h2.ex (eG2.trans e2)⟩
end
end K8
/-! _law_open -/
namespace K8
open PySem PySem.Spec L2 Evl
open PyProof.Rows hiding St
theorem r_slTt {K : PySem.W.Frag} {H : Hp} {a : Addr} {xs : List V} {k : Nat} {Q : VK} (h : SqT K H a xs) (q : ∀ p H', Ex H H' → SqT K H' p (xs.take k) → Q (.ref p) H') : rSlT K (.ref a) none (some (k : Int)) H Q ∨ rSlTW K (.ref a) none (some (k : Int)) H Q := by
  by_cases hw : HT.sIx xs.length 0 none = 0 ∧ HT.sIx xs.length xs.length (some (k : Int)) = xs.length
  · refine .inr ⟨a, xs, rfl, h, hw, q a H (Ex.refl _) ?_⟩
    rw [HT.sIx_nat] at hw
    rw [List.take_of_length_le (by omega)]
    exact h
  · refine .inl ⟨a, xs, rfl, h, hw, fun p hp => ?_⟩
    rw [cutV_to]
    exact q p _ (Ex.new hp) (SqT.of upd_same)
/-- "(" + x + ")" -/
theorem r_brk {ws : List (List Nat)} {σ : L2.St} {H : Hp} {Q : VK} (hl : lw ws ≤ 90000) (q : Q (wv (prn ws)) H) :
    ∃ i j, V.str "(" = .str i ∧ V.str (SX.S (jn ws)) = .str j ∧ i.length + j.length ≤ sizeLine ∧ tC (.str ")") σ H fun y H1 => ∃ i' j', V.str (i ++ j) = .str i' ∧ y = .str j' ∧ i'.length + j'.length ≤ sizeLine ∧ Q (.str (i' ++ j')) H1 := by
  have h1 := jn_len ws
  have h1' : (SX.S (jn ws)).length = (jn ws).length := SX.S_len _
  have h2 : ("(" : Str).length = 1 := by decide +kernel
  have h3 : (")" : Str).length = 1 := by decide +kernel
  refine ⟨"(", _, rfl, rfl, Nat.le_of_lt (small (by show ("(" : Str).length + _ ≤ _; rw [h2]; omega)), ?_⟩
  refine ⟨_, ")", rfl, rfl, Nat.le_of_lt (small (by rw [str_app_len, h3]; show ("(" : Str).length + _ + 1 ≤ _; rw [h2]; omega)), ?_⟩
  show Q (.str ((SX.S [40] ++ SX.S (jn ws)) ++ SX.S [41])) H
  rw [SX.S_cat, SX.S_cat]
  exact q
theorem brk_l1 {ws : List (List Nat)} (hl : lw ws ≤ 90000) : ("(" : Str).length + (SX.S (jn ws)).length ≤ sizeLine := by
  have h1 := jn_len ws
  have h1' : (SX.S (jn ws)).length = (jn ws).length := SX.S_len _
  have h2 : ("(" : Str).length = 1 := by decide +kernel
  exact Nat.le_of_lt (small (by omega))
theorem brk_l2 {ws : List (List Nat)} (hl : lw ws ≤ 90000) : (("(" : Str) ++ SX.S (jn ws)).length + (")" : Str).length ≤ sizeLine := by
  have h1 := jn_len ws
  have h1' : (SX.S (jn ws)).length = (jn ws).length := SX.S_len _
  have h2 : ("(" : Str).length = 1 := by decide +kernel
  have h3 : (")" : Str).length = 1 := by decide +kernel
  exact Nat.le_of_lt (small (by rw [str_app_len]; omega))
theorem brk_e (ws : List (List Nat)) : V.str ((("(" : Str) ++ SX.S (jn ws)) ++ (")" : Str)) = wv (prn ws) := by
  show V.str ((SX.S [40] ++ SX.S (jn ws)) ++ SX.S [41]) = _
  rw [SX.S_cat, SX.S_cat]
  rfl
section
variable {P : Program} {w : World} {K : PySem.W.Frag} {mg : Str → Option Value} {base : Heap}
theorem c_law_open (D : Dfn K mg "_law_open" (top 74) ["_law_term"]) (T : Txt K mg) (CI : Cal P w K mg base 1 "_law_inside" (spIn K)) : ∀ n, Cal P w K mg base (n + 1) "_law_open" (spOpen K n)
  | 0 => D.cal (k := 0) (N := ["_law_term", "_law_one", "_law_words", "_law_signal"]) (by decide +kernel) (fun vs H Q E h => by obtain ⟨v, t, rfl, _⟩ := h; rfl) fun f cdv A outer s H vs Q E hr nd h => by
      obtain ⟨v, t, rfl, _, _, hd, _⟩ := h
      have := dep_pos t
      omega
  | n + 1 => by
    have C := c_law_open D T CI n
    refine D.cal (k := n + 1) (N := ["_law_term", "_law_one", "_law_words", "_law_signal"]) (by decide +kernel) (fun vs H Q E h => by obtain ⟨v, t, rfl, _⟩ := h; rfl) fun f cdv A outer s H vs Q E hr nd h => ?_
    obtain ⟨v, t, rfl, hd, hf, hdp, hsz, q⟩ := h
    have hft : frm t := hf t (by rw [subs_eq]; exact List.mem_cons_self)
    have hlw := lw_T t hf
    refine ⟨_, pss_cons (ps_if (pt_cmpR op_eq (p_ixT (K := K) (pv 0) pe_int) pe_str (nomark _))
        (pss_one (ps_ret (p_join K pe_str (pe_op op_cat (pe_lst (pa_cons pe_str (pa_cons (p_ixT (K := K) (pv 0) pe_int) pa_nil))) (pe_lc (own := [("_law_one", 1)]) (g := gName 1) (tt := tYes) rfl nd (pi_tup (p_ixT (K := K) (pv 0) pe_int)) (blkOk_by (N := ["_law_term", "_law_one", "_law_words", "_law_signal"]) (sc := defScope (top 74)) (by decide +kernel))
          (fun _ _ _ _ _ => pg_name (i := 1) nd rfl (Or.inl rfl)) (fun _ _ _ _ _ => pts_nil) (fun _ _ _ _ _ => pe_ifExp (pt_cmp (pc_isN (pv 1))) pe_str (pe_callTy call_str_int rfl T.str boot_str (pa_cons (pv 1) pa_nil)))))))) pss_nil)
      (pss_cons (ps_if (pt_cmpR op_in_seq (p_ixT (K := K) (pv 0) pe_int) (pe_tup (pa_cons pe_str (pa_cons pe_str (pa_cons pe_str pa_nil)))) rfl)
        (pss_one (ps_ret (pe_op op_add_str (pe_op op_add_str (p_ixT (K := K) (pv 0) pe_int) pe_str) (p_ixT (K := K) (pv 0) pe_int)))) pss_nil)
      (pss_cons (ps_asg (pe_ifExp (pt_cmpR op_in_seq (p_ixT (K := K) (pv 0) pe_int) (pe_tup (pa_cons pe_str (pa_cons pe_str pa_nil))) rfl)
          (pe_callTy call_list_of rfl T.list boot_list (pa_cons (pe_slice sl_anyT (pv 0) po_none (po_some pe_int)) pa_nil))
          (pe_lst (pa_cons (p_ixT (K := K) (pv 0) pe_int) pa_nil))) (pg_name (i := 2) nd rfl (Or.inl rfl)))
      (pss_cons (ps_if (pt_cmpR op_eq (p_ixT (K := K) (pv 0) pe_int) pe_str (nomark _))
          (pss_cons (ps_for PassesOwn.never rfl (pi_tup (p_ixT (K := K) (pv 0) pe_int)) (pg_tup rfl (pgs_cons (pg_name (i := 3) nd rfl (Or.inl rfl)) (pgs_cons (pg_name (i := 1) nd rfl (Or.inl rfl)) pgs_nil)))
            (pss_one (ps_asg (pe_op op_cat (pv 2) (pe_lst (pa_cons (pv 3) (pa_cons (pe_op op_add_str (pe_op op_add_str pe_str (pe_c C hr (Nat.le_refl _) (pa_cons (pv 1) pa_nil))) pe_str) pa_nil)))) (pg_name (i := 2) nd rfl (Or.inl rfl)))))
          (pss_one (ps_ret (p_join K pe_str (pe_op op_cat (pv 2) (pe_lst (pa_cons (pe_op op_add_str (pe_op op_add_str pe_str (pe_c C hr (Nat.le_refl _) (pa_cons (p_ixT (K := K) (pv 0) pe_int) pa_nil))) pe_str) pa_nil))))))) pss_nil)
      (pss_one (ps_ret (p_join K pe_str (pe_op op_cat (pv 2) (pe_lc (own := [("_law_one", 1)]) (g := gName 1) (tt := tYes) rfl nd (pi_list (pe_c CI hr (by omega) (pa_cons (pv 0) pa_nil))) (blkOk_by (N := ["_law_term", "_law_one", "_law_words", "_law_signal"]) (sc := defScope (top 74)) (by decide +kernel))
          (fun _ _ _ _ _ => pg_name (i := 1) nd rfl (Or.inl rfl)) (fun _ _ _ _ _ => pts_nil) (fun _ _ _ _ _ => pe_op op_add_str (pe_op op_add_str pe_str (pe_c C hr (Nat.le_refl _) (pa_cons (pv 1) pa_nil))) pe_str))))))))), ?_⟩
    have hwl : (wsT t).length ≤ lw (wsT t) := by
      generalize wsT t = ws
      induction ws with
      | nil => exact Nat.zero_le _
      | cons a r ih => rw [lw_cons, List.length_cons]; omega
    have hkl := kids_len t
    obtain ⟨a, r, rfl, hs, hr'⟩ := dp_tl hd
    -- the closed text of a kid
    have kid : ∀ {k : Tm} {x : V} {H1 : Hp} {σ : L2.St} {Q : VK}, k ∈ kids t → Dp K H1 x (toD k) → (∀ H', Ex H1 H' → Q (wv (prn (wsT k))) H') →
        spOpen K n [x] H1 (fun y H2 => ∃ i j, V.str "(" = .str i ∧ y = .str j ∧ i.length + j.length ≤ sizeLine ∧ tC (.str ")") σ H2 fun y H1 => ∃ i' j', V.str (i ++ j) = .str i' ∧ y = .str j' ∧ i'.length + j'.length ≤ sizeLine ∧ Q (.str (i' ++ j')) H1) E0 := fun {k x H1 σ Q} hk hx q => by
      have h1 := dep_kids hk
      have h2 := kids_size hk
      have h3 := kids_frm hf hk
      have h4 := lw_T k h3
      exact ⟨x, k, rfl, hx, h3, by omega, by omega, fun H' e => r_brk (by omega) (q H' e)⟩
    have kid2 : ∀ {k : Tm} {x : V} {H1 : Hp} {R : VK}, k ∈ kids t → Dp K H1 x (toD k) → (lw (wsT k) ≤ 90000 → ∀ H', Ex H1 H' → R (.str (SX.S (jn (wsT k)))) H') → spOpen K n [x] H1 R E0 := fun {k x H1 R} hk hx q => by
      have h1 := dep_kids hk
      have h2 := kids_size hk
      have h3 := kids_frm hf hk
      have h4 := lw_T k h3
      exact ⟨x, k, rfl, hx, h3, by omega, by omega, fun H' e => q (by omega) H' e⟩
    walk_at "rds"
    refine r_ixT hs r_at0 ?_
    walk_at "rds"
    have go : ∀ (pre : List (List Nat)) (W : Addr) (H1 : Hp) (o1 o3 : Option V), Ex H H1 → H1 W = some (.lst (pre.map wv)) → wsT t = pre ++ (kids t).map (fun k => prn (wsT k)) →
        (∃ a, V.str " " = V.str a) ∧ tOp rCat (tVar 2) (tLc (iList K (tCall (spIn K) [] E0 (tCons (tVar 0) tNil))) (gName 1) tYes (tOp (fun x y H Q => ∃ i j, x = V.str i ∧ y = V.str j ∧ i.length + j.length ≤ sizeLine ∧ Q (V.str (i ++ j)) H) (tOp (fun x y H Q => ∃ i j, x = V.str i ∧ y = V.str j ∧ i.length + j.length ≤ sizeLine ∧ Q (V.str (i ++ j)) H) (tC (.str "(")) (tCall (spOpen K n) [] E0 (tCons (tVar 1) tNil))) (tC (.str ")"))) [1]) [some (.ref a), o1, some (.ref W), o3] H1 fun y H2 => rJoin K (.str " ") [y] H2 Q := fun pre W H1 o1 o3 e1 hW hwt => by
      have hpl : pre.length + (kids t).length ≤ 100000 := by
        have := congrArg List.length hwt
        rw [List.length_append, List.length_map] at this
        omega
      refine ⟨⟨_, rfl⟩, ?_⟩
      walk_at "rds"
      refine ⟨_, t, rfl, Dp.ex e1 _ _ hd, hft, fun l H2 xs hl e2 h2 hks => ?_⟩
      refine ⟨l, rfl, ⟨_, SqL.of h2⟩, lc_pure (over_list (xs := xs)) (fun H3 e3 => SqL.of (e3 _ _ h2)) (fun i y _ => ∃ k, (kids t)[i]? = some k ∧ y = wv (prn (wsT k))) (fun _ _ _ _ _ h => h) (small (by have := hks.len; rw [toDs_len] at this; omega)) (fun i x H3 hi e3 hx Q q => ?_) fun D H3 ys hD e3 h hyl hall => ?_⟩
      · obtain ⟨d, f1, f2⟩ := hks.at hx
        rw [toDs_map, List.getElem?_map] at f1
        cases hu : (kids t)[i]? with
        | none => rw [hu] at f1; cases f1
        | some u =>
          rw [hu] at f1
          cases f1
          refine r_name ⟨rfl, ?_⟩
          walk_at "rds"
          exact kid (List.mem_of_getElem? hu) (Dp.ex e3 _ _ f2) fun H' e => q _ _ e ⟨u, hu, rfl⟩
      · have hys := ext_map (f := fun k => wv (prn (wsT k))) (as := kids t) (by rw [hyl, hks.len, toDs_len]) hall
        refine ⟨W, D, _, _, rfl, rfl, e3 _ _ (e2 _ _ hW), h, Nat.le_of_lt (small (by rw [hys, List.length_map, List.length_map]; omega)), fun p hp => ?_⟩
        refine r_joinW (ws := wsT t) (SqL.of (by rw [upd_same, hwt, hys, List.map_append, List.map_map]; rfl)) (by omega) ?_
        exact q _ (((e1.trans e2).trans e3).trans (Ex.new hp))
    cases t with
    | act wd tab =>
      obtain ⟨v1, r1, rfl, g1, g2⟩ := dpa_inv hr'
      obtain ⟨vu, r2, rfl, g4, g3⟩ := dpa_inv g2
      obtain rfl := dpa_inv0 g3
      cases g1
      obtain ⟨b, es, rfl, hb, hes⟩ := dp_tup g4
      obtain ⟨n1, n2, n3, n4⟩ := hft
      have hl : es.length = tab.length := by rw [hes.len, List.length_map]
      have hwt : wsT (.act wd tab) = cl "do" :: cl wd :: tab.map ent := by rw [wsT]
      have htl : tab.length ≤ 100000 := by
        have := congrArg List.length hwt
        rw [List.length_cons, List.length_cons, List.length_map] at this
        omega
      refine r_eq rfl (r_bl (r_yes rfl ?_))
      walk_at "rds"
      refine ⟨⟨_, rfl⟩, ?_⟩
      walk_at "rds"
      refine r_ixT hs r_at1 ?_
      walk_at "rds"
      refine ⟨(by decide : (2 : Nat) ≤ sizeLine), fun W hW => ?_⟩
      have e1 : Ex H (upd H W (.lst [.str "do", .str wd])) := Ex.new hW
      have w1 : (upd H W (.lst [.str "do", .str wd])) W = some (.lst [.str "do", .str wd]) := upd_same
      generalize upd H W (.lst [.str "do", .str wd]) = H1 at *
      walk_at "rds"
      refine r_ixT (ex_t e1 hs) r_at2 ?_
      refine ⟨b, rfl, ⟨_, ex_t e1 hb⟩, lc_pure over_tup (fun H2 e2 => ex_t (e1.trans e2) hb) (fun i y _ => ∃ o, tab[i]? = some o ∧ y = wv (ent o)) (fun _ _ _ _ _ h => h) (small (by omega)) (fun i x H2 hi e hx Q q => ?_) fun D H2 ys hD e2 h hyl hall => ?_⟩
      · obtain ⟨o, ho, rfl⟩ := ent_at hes hx
        refine r_name ⟨rfl, ?_⟩
        walk_at "rds"
        cases o with
        | none =>
          refine r_isN ?_
          walk_at "rds"
          exact q _ _ (Ex.refl _) ⟨none, ho, rfl⟩
        | some m =>
          have hm := n4 _ (List.mem_of_getElem? ho) m rfl
          refine r_isN ?_
          walk_at "rds"
          refine r_no (by simp) ?_
          walk_at "rds"
          refine ⟨m, rfl, Nat.lt_of_le_of_lt (Nat.log2_le_self _) (by show (Int.natAbs ((m : Nat) : Int)) < 1920; omega), ?_⟩
          exact q _ _ (Ex.refl _) ⟨some m, ho, congrArg V.str (SX.num_S m)⟩
      · have hys := ext_map (f := fun o => wv (ent o)) (as := tab) (by rw [hyl, hl]) hall
        refine ⟨W, D, _, _, rfl, rfl, e2 _ _ w1, h, Nat.le_of_lt (small (by rw [hys, List.length_map]; show 2 + _ ≤ _; omega)), fun p hp => ?_⟩
        refine r_joinW (ws := wsT (.act wd tab)) (SqL.of (by rw [upd_same, hwt, hys, List.map_cons, List.map_cons, List.map_map, wv_cl, wv_cl]; rfl)) (by omega) ?_
        exact q _ ((e1.trans e2).trans (Ex.new hp))
    | nam k x =>
      obtain ⟨n1, n2⟩ := hft
      obtain ⟨v1, r1, rfl, g1, g2⟩ := dpa_inv hr'
      obtain rfl := dpa_inv0 g2
      cases g1
      have hk5 : (cl k).length ≤ 5 := by rcases n2 with rfl | rfl | rfl <;> decide +kernel
      have hx8 := nm_len n1
      have lk : k.length ≤ 5 := by rw [TL.len_tl]; exact hk5
      have lx : x.length ≤ 8 := by rw [TL.len_tl]; exact hx8
      have l1 : (" " : Str).length = 1 := by decide +kernel
      refine r_eq rfl (r_bl (r_no (fun z => absurd (show k = "do" from V.str.inj z) (by rcases n2 with rfl | rfl | rfl <;> decide +kernel)) ?_))
      walk_at "rds"
      refine r_ixT hs r_at0 ?_
      walk_at "rds"
      refine r_inD (zs := ["run", "exit", "raise"]) (by decide) fun H1 e1 => r_bl (r_yes (by show k ∈ _; rcases n2 with rfl | rfl | rfl <;> decide +kernel) ?_)
      walk_at "rds"
      refine r_ixT (ex_t e1 hs) r_at0 ?_
      refine ⟨k, " ", rfl, rfl, Nat.le_of_lt (small (by omega)), ?_⟩
      walk_at "rds"
      refine r_ixT (ex_t e1 hs) r_at1 ?_
      refine ⟨_, x, rfl, rfl, Nat.le_of_lt (small (by rw [str_app_len]; omega)), ?_⟩
      have e : ∀ a b : List Nat, ((SX.S a ++ SX.S [32]) ++ SX.S b) = SX.S (jn [a, b]) := fun a b => by
        rw [SX.S_cat, SX.S_cat]
        simp [jn, TL.joinL]
      have e2 := e (cl k) (cl x)
      rw [SX.S_tl, SX.S_tl] at e2
      have q2 := q H1 e1
      unfold opS at q2
      rw [wsT, ← e2] at q2
      exact q2
    | ser k ts =>
      replace hs : SqT K H a (.str k :: r) := hs
      have hk : k ∈ (["seq", "or", "and", "case"] : List Str) := by rcases hft with rfl | ⟨rfl | rfl, _⟩ | ⟨rfl, _⟩ <;> decide +kernel
      have hk2 : k ∉ (["do", "run", "exit", "raise", "call", "scope", "answer"] : List Str) := by rcases hft with rfl | ⟨rfl | rfl, _⟩ | ⟨rfl, _⟩ <;> decide +kernel
      simp only [List.mem_cons, List.not_mem_nil, or_false, not_or] at hk2
      obtain ⟨m1, m2, m3, m4, m5, m6, m7⟩ := hk2
      refine r_eq rfl (r_bl (r_no (fun z => m1 (V.str.inj z)) ?_))
      walk_at "rds"
      refine r_ixT hs r_at0 ?_
      walk_at "rds"
      refine r_inD (zs := ["run", "exit", "raise"]) (by decide) fun H1 e1 => r_bl (r_no (by show k ∉ _; simp only [List.mem_cons, List.not_mem_nil, or_false, not_or]; exact ⟨m2, m3, m4⟩) ?_)
      walk_at "rds"
      refine r_ixT (ex_t e1 hs) r_at0 ?_
      walk_at "rds"
      refine r_inD (zs := ["call", "scope"]) (by decide) fun H2 e2 => r_bl (r_no (by show k ∉ _; simp only [List.mem_cons, List.not_mem_nil, or_false, not_or]; exact ⟨m5, m6⟩) ?_)
      walk_at "rds"
      have e12 := e1.trans e2
      refine r_ixT (ex_t e12 hs) r_at0 ?_
      walk_at "rds"
      refine ⟨(by decide : (1 : Nat) ≤ sizeLine), fun W hW => ?_⟩
      have e3 : Ex H2 (upd H2 W (.lst [.str k])) := Ex.new hW
      have w3 : (upd H2 W (.lst [.str k])) W = some (.lst [.str k]) := upd_same
      generalize upd H2 W (.lst [.str k]) = H3 at *
      walk_at "rds"
      have e13 := e12.trans e3
      refine r_ixT (ex_t e13 hs) r_at0 ?_
      walk_at "rds"
      refine r_eq rfl (r_bl (r_no (fun z => m7 (V.str.inj z)) ?_))
      walk_at "rds"
      exact go [cl k] W H3 _ _ e13 (by rw [w3]; show some (HO.lst [V.str k]) = some (.lst [wv (cl k)]); rw [wv_cl]) (by rw [wsT, cls_map]; rfl)
    | cal x ts =>
      replace hs : SqT K H a (.str "call" :: r) := hs
      obtain ⟨v1, r1, rfl, g1, g2⟩ := dpa_inv hr'
      cases g1
      refine r_eq rfl (r_bl (r_no (fun z => absurd (show ("call" : Str) = "do" from V.str.inj z) (by decide +kernel)) ?_))
      walk_at "rds"
      refine r_ixT hs r_at0 ?_
      walk_at "rds"
      refine r_inD (zs := ["run", "exit", "raise"]) (by decide) fun H1 e1 => r_bl (r_no (by show ("call" : Str) ∉ _; decide +kernel) ?_)
      walk_at "rds"
      refine r_ixT (ex_t e1 hs) r_at0 ?_
      walk_at "rds"
      refine r_inD (zs := ["call", "scope"]) (by decide) fun H2 e2 => r_bl (r_yes (by show ("call" : Str) ∈ _; decide +kernel) ?_)
      walk_at "rds"
      have e12 := e1.trans e2
      refine r_slTt (k := 2) (ex_t e12 hs) fun p H4 e4 h4 => ?_
      walk_at "rds"
      refine ⟨p, _, rfl, .inr h4, fun W hW => ?_⟩
      have e5 := Ex.new (o := .lst ((V.str "call" :: V.str x :: r1).take 2)) hW
      have w3 : (upd H4 W (.lst ((V.str "call" :: V.str x :: r1).take 2))) W = some (.lst [.str "call", .str x]) := upd_same
      generalize upd H4 W (.lst ((V.str "call" :: V.str x :: r1).take 2)) = H3 at *
      walk_at "rds"
      have e13 := (e12.trans e4).trans e5
      refine r_ixT (ex_t e13 hs) r_at0 ?_
      walk_at "rds"
      refine r_eq rfl (r_bl (r_no (fun z => absurd (show ("call" : Str) = "answer" from V.str.inj z) (by decide +kernel)) ?_))
      walk_at "rds"
      exact go [cl "call", cl x] W H3 _ _ e13 (by rw [w3]; show some (HO.lst [V.str "call", V.str x]) = some (.lst [wv (cl "call"), wv (cl x)]); rw [wv_cl, wv_cl]) (by rw [wsT, cls_map]; rfl)
    | sco x u =>
      replace hs : SqT K H a (.str "scope" :: r) := hs
      obtain ⟨v1, r1, rfl, g1, g2⟩ := dpa_inv hr'
      cases g1
      refine r_eq rfl (r_bl (r_no (fun z => absurd (show ("scope" : Str) = "do" from V.str.inj z) (by decide +kernel)) ?_))
      walk_at "rds"
      refine r_ixT hs r_at0 ?_
      walk_at "rds"
      refine r_inD (zs := ["run", "exit", "raise"]) (by decide) fun H1 e1 => r_bl (r_no (by show ("scope" : Str) ∉ _; decide +kernel) ?_)
      walk_at "rds"
      refine r_ixT (ex_t e1 hs) r_at0 ?_
      walk_at "rds"
      refine r_inD (zs := ["call", "scope"]) (by decide) fun H2 e2 => r_bl (r_yes (by show ("scope" : Str) ∈ _; decide +kernel) ?_)
      walk_at "rds"
      have e12 := e1.trans e2
      refine r_slTt (k := 2) (ex_t e12 hs) fun p H4 e4 h4 => ?_
      walk_at "rds"
      refine ⟨p, _, rfl, .inr h4, fun W hW => ?_⟩
      have e5 := Ex.new (o := .lst ((V.str "scope" :: V.str x :: r1).take 2)) hW
      have w3 : (upd H4 W (.lst ((V.str "scope" :: V.str x :: r1).take 2))) W = some (.lst [.str "scope", .str x]) := upd_same
      generalize upd H4 W (.lst ((V.str "scope" :: V.str x :: r1).take 2)) = H3 at *
      walk_at "rds"
      have e13 := (e12.trans e4).trans e5
      refine r_ixT (ex_t e13 hs) r_at0 ?_
      walk_at "rds"
      refine r_eq rfl (r_bl (r_no (fun z => absurd (show ("scope" : Str) = "answer" from V.str.inj z) (by decide +kernel)) ?_))
      walk_at "rds"
      exact go [cl "scope", cl x] W H3 _ _ e13 (by rw [w3]; show some (HO.lst [V.str "scope", V.str x]) = some (.lst [wv (cl "scope"), wv (cl x)]); rw [wv_cl, wv_cl]) (by rw [wsT]; rfl)
    | ans ss ts u =>
      replace hs : SqT K H a (.str "answer" :: r) := hs
      obtain ⟨v1, r1, rfl, g1, g2⟩ := dpa_inv hr'
      obtain ⟨vu, r2, rfl, g4, g3⟩ := dpa_inv g2
      obtain rfl := dpa_inv0 g3
      obtain ⟨o1, o2, o3, o4, o5⟩ := hft
      obtain ⟨b', ps, rfl, hps, hpl, hp⟩ := dp_prs g1 o1
      have hwt : wsT (.ans ss ts u) = cl "answer" :: (alt ts ss ++ [prn (wsT u)]) := by rw [wsT]
      have hkd : kids (.ans ss ts u) = ts ++ [u] := by simp [kids]
      have hal : ∀ i, (alt (ts.take i) (ss.take i)).length ≤ 2 * ts.length := fun i => Nat.le_trans (alt_len _ _) (Nat.mul_le_mul_left 2 (by rw [List.length_take]; omega))
      have htl : ts.length ≤ 1000 := by rw [hkd, List.length_append] at hkl; omega
      refine r_eq rfl (r_bl (r_no (fun z => absurd (show ("answer" : Str) = "do" from V.str.inj z) (by decide +kernel)) ?_))
      walk_at "rds"
      refine r_ixT hs r_at0 ?_
      walk_at "rds"
      refine r_inD (zs := ["run", "exit", "raise"]) (by decide) fun H1 e1 => r_bl (r_no (by show ("answer" : Str) ∉ _; decide +kernel) ?_)
      walk_at "rds"
      refine r_ixT (ex_t e1 hs) r_at0 ?_
      walk_at "rds"
      refine r_inD (zs := ["call", "scope"]) (by decide) fun H2 e2 => r_bl (r_no (by show ("answer" : Str) ∉ _; decide +kernel) ?_)
      walk_at "rds"
      have e12 := e1.trans e2
      refine r_ixT (ex_t e12 hs) r_at0 ?_
      walk_at "rds"
      refine ⟨(by decide : (1 : Nat) ≤ sizeLine), fun W hW => ?_⟩
      have e3 : Ex H2 (upd H2 W (.lst [.str "answer"])) := Ex.new hW
      have w3 : (upd H2 W (.lst [.str "answer"])) W = some (.lst [.str "answer"]) := upd_same
      generalize upd H2 W (.lst [.str "answer"]) = H3 at *
      walk_at "rds"
      have e13 := e12.trans e3
      refine r_ixT (ex_t e13 hs) r_at0 ?_
      walk_at "rds"
      refine r_eq rfl (r_bl (r_yes rfl ?_))
      walk_at "rds"
      refine r_ixT (ex_t e13 hs) r_at1 ?_
      refine ⟨b', rfl, ⟨_, ex_t e13 hps⟩, for_over (over_tup (xs := ps)) (fun i σ H' => ∃ W o1 o3, σ = [some (.ref a), o1, some (.ref W), o3] ∧ Ex H H' ∧ H' W = some (.lst ((cl "answer" :: alt (ts.take i) (ss.take i)).map wv))) ⟨W, none, none, rfl, e13, ?_⟩ (fun i σ H' ⟨_, _, _, _, h, _⟩ => ex_t h hps) ?_ ?_⟩
      · rw [w3, List.take_zero, show alt [] (ss.take 0) = [] from by cases ss <;> simp [alt]]
        show some (HO.lst [V.str "answer"]) = some (.lst [wv (cl "answer")])
        rw [wv_cl]
      · rintro i x σ H4 H5 hi ⟨W, o1, o3, rfl, e4, w4⟩ e5 hx
        have e45 := e4.trans e5
        obtain ⟨c, sg, tk, uk, f1, f2, rfl, f3, f4⟩ := (hp i x hx).ex e45
        have hkm : tk ∈ kids (.ans ss ts u) := by rw [hkd]; exact List.mem_append_left _ (List.mem_of_getElem? f2)
        refine r_gTup f3 rfl (r_gCons (r_name (r_gCons (r_name (r_gNil ?_)))))
        walk_at "rds"
        refine kid2 hkm f4 fun hl H6 e6 => ⟨"(", _, rfl, rfl, brk_l1 hl, ?_⟩
        walk_at "rds"
        refine ⟨_, ")", rfl, rfl, brk_l2 hl, ?_⟩
        rw [brk_e]
        walk_at "rds"
        refine ⟨(by decide : (2 : Nat) ≤ sizeLine), fun p7 hp7 => ?_⟩
        have e7 := Ex.new (o := .lst [.str sg, wv (prn (wsT tk))]) hp7
        have w7 : (upd H6 p7 (.lst [.str sg, wv (prn (wsT tk))])) p7 = some (.lst [.str sg, wv (prn (wsT tk))]) := upd_same
        generalize upd H6 p7 (.lst [.str sg, wv (prn (wsT tk))]) = H7 at *
        have w47 := e7 _ _ (e6 _ _ (e5 _ _ w4))
        refine ⟨W, p7, _, _, rfl, rfl, w47, w7, Nat.le_of_lt (small (by rw [List.length_map]; have := hal i; simp only [List.length_cons, List.length_nil]; omega)), fun p8 hp8 => ?_⟩
        have e8 := Ex.new (o := .lst ((cl "answer" :: alt (ts.take i) (ss.take i)).map wv ++ [.str sg, wv (prn (wsT tk))])) hp8
        have w8 : (upd H7 p8 (.lst ((cl "answer" :: alt (ts.take i) (ss.take i)).map wv ++ [.str sg, wv (prn (wsT tk))]))) p8 = some (.lst ((cl "answer" :: alt (ts.take i) (ss.take i)).map wv ++ [.str sg, wv (prn (wsT tk))])) := upd_same
        generalize upd H7 p8 (.lst ((cl "answer" :: alt (ts.take i) (ss.take i)).map wv ++ [.str sg, wv (prn (wsT tk))])) = H8 at *
        walk_at "rds"
        refine ⟨p8, _, _, rfl, ((e45.trans e6).trans e7).trans e8, ?_⟩
        rw [w8, alt_snoc f2 f1, List.map_cons, List.map_cons, List.map_append, List.map_cons, List.map_cons, wv_cl, wv_cl]
        rfl
      · rintro σ H4 ⟨W, o1, o3, rfl, e4, w4⟩
        rw [hpl, List.take_length, List.take_of_length_le (by omega)] at w4
        walk_at "rds"
        refine ⟨⟨_, rfl⟩, ?_⟩
        walk_at "rds"
        refine r_ixT (ex_t e4 hs) r_at2 ?_
        walk_at "rds"
        refine kid2 (by rw [hkd]; exact List.mem_append_right _ (List.mem_singleton.mpr rfl)) (Dp.ex e4 _ _ g4) fun hl H6 e6 => ⟨"(", _, rfl, rfl, brk_l1 hl, ?_⟩
        walk_at "rds"
        refine ⟨_, ")", rfl, rfl, brk_l2 hl, ?_⟩
        rw [brk_e]
        walk_at "rds"
        refine ⟨(by decide : (1 : Nat) ≤ sizeLine), fun p7 hp7 => ?_⟩
        have e7 := Ex.new (o := .lst [wv (prn (wsT u))]) hp7
        have hal2 := alt_len ts ss
        refine ⟨W, p7, _, _, rfl, rfl, e7 _ _ (e6 _ _ w4), upd_same, Nat.le_of_lt (small (by rw [List.length_map]; simp only [List.length_cons, List.length_nil]; omega)), fun p8 hp8 => ?_⟩
        refine r_joinW (ws := wsT (.ans ss ts u)) (SqL.of (by rw [upd_same, hwt, List.map_cons, List.map_cons, List.map_append]; rfl)) (by omega) ?_
        exact q _ (((e4.trans e6).trans e7).trans (Ex.new hp8))
end
end K8
/-! _law_line_of, _law_text_of -/
namespace K8
open PySem PySem.Spec L2 Evl
open PyProof.Rows hiding St
section
variable {P : Program} {w : World} {K : PySem.W.Frag} {mg : Str → Option Value} {base : Heap}
def spLine (K : PySem.W.Frag) : Sp := fun vs H Q _ => ∃ (x : V) (r : Rw), vs = [x] ∧ RowL K x r H ∧ Gd r ∧ ∀ H', Ex H H' → Q (wv (jn (lineW r))) H'
theorem c_law_line (D : Dfn K mg "_law_line_of" (top 75) ["_law_row"]) (T : Txt K mg) (CO : Cal P w K mg base 7 "_law_open" (spOpen K 6)) : Cal P w K mg base 8 "_law_line_of" (spLine K) := by
  refine D.cal (N := ["_law_row", "_law_name", "_law_own", "_law_body", "_law_text"]) (by decide +kernel) (fun vs H Q E h => ?_) fun f cdv A outer s H vs Q E hr nd h => ?_
  · obtain ⟨x, r, rfl, _⟩ := h
    rfl
  obtain ⟨x, r, rfl, ⟨q0, o, v, rfl, h1, h2, h3⟩, g, q⟩ := h
  refine ⟨_, pss_cons (ps_asg (pv 0) (pg_unl (n := 3) rfl (pgs_cons (pg_name (i := 1) nd rfl (Or.inl rfl)) (pgs_cons (pg_name (i := 2) nd rfl (Or.inl rfl)) (pgs_cons (pg_name (i := 3) nd rfl (Or.inl rfl)) pgs_nil)))))
    (pss_cons (ps_asg (pe_c CO hr (by decide) (pa_cons (pv 3) pa_nil)) (pg_name (i := 4) nd rfl (Or.inl rfl)))
    (pss_cons (ps_asg (pe_ifExp (pt_cmpR op_in_seq (p_ixT (K := K) (pv 3) pe_int) (pe_tup (pa_cons pe_str (pa_cons pe_str (pa_cons pe_str (pa_cons pe_str pa_nil))))) rfl) (pv 4)
        (pe_op op_add_str (pe_op op_add_str pe_str (pv 4)) pe_str)) (pg_name (i := 4) nd rfl (Or.inl rfl)))
    (pss_one (ps_ret (p_join K pe_str (pe_op op_cat (pe_op op_cat (pe_lst (pa_cons pe_str (pa_cons (pv 1) pa_nil))) (pe_callTy call_list_of rfl T.list boot_list (pa_cons (pv 2) pa_nil))) (pe_lst (pa_cons pe_str (pa_cons (pv 4) pa_nil))))))))), ?_⟩
  have hf := g.frm
  have hb : dep r.body ≤ 6 ∧ size r.body ≤ 40 ∧ r.own.length ≤ 3 := by
    obtain ⟨c, _, _, ok⟩ := id g
    exact ⟨ok.bd.dp, ok.bd.sz, ok.own.2.2⟩
  have hlw := lw_T r.body hf
  have hll := line_len g
  walk_at "rds"
  refine ⟨q0, _, rfl, SqL.of h1, rfl, r_gCons (r_name (r_gCons (r_name (r_gCons (r_name (r_gNil ?_))))))⟩
  walk_at "rds"
  refine ⟨v, r.body, rfl, h3, hf, hb.1, by omega, fun H1 e1 => ?_⟩
  obtain ⟨a, xs, rfl, hs, hx⟩ := dp_tl h3
  refine r_name ?_
  dsimp only
  refine r_seq (r_asg ?_)
  refine r_cutH (fun x H2 => x = V.str (bdS r.body) ∧ Ex H1 H2) (fun Q' q' => ?_) ?_
  · walk_at "rds"
    refine r_ixT (ex_t e1 hs) r_at0 ?_
    walk_at "rds"
    refine r_inD (zs := bare) (by decide) fun H2 e2 => r_bl ?_
    by_cases e : hd1 r.body ∈ bare
    · refine r_yes e ?_
      walk_at "rds"
      refine q' _ _ ⟨?_, e2⟩
      unfold bdS bdL
      rw [if_pos e]
      rfl
    · refine r_no e ?_
      walk_at "rds"
      refine ⟨"(", _, rfl, rfl, brk_l1 (by omega), ?_⟩
      walk_at "rds"
      refine ⟨_, ")", rfl, rfl, brk_l2 (by omega), ?_⟩
      unfold opS
      rw [brk_e]
      refine q' _ _ ⟨?_, e2⟩
      unfold bdS bdL
      rw [if_neg e]
      rfl
  rintro x H2 ⟨rfl, e2⟩
  have e12 := e1.trans e2
  walk_at "rds"
  refine ⟨⟨_, rfl⟩, ?_⟩
  walk_at "rds"
  refine ⟨(by decide : (2 : Nat) ≤ sizeLine), fun p1 hp1 => ?_⟩
  have e3 := Ex.new (o := .lst [.str "proc", .str r.name]) hp1
  have w3 : (upd H2 p1 (.lst [.str "proc", .str r.name])) p1 = some (.lst [.str "proc", .str r.name]) := upd_same
  generalize upd H2 p1 (.lst [.str "proc", .str r.name]) = H3 at *
  walk_at "rds"
  refine ⟨o, _, rfl, .inr (ex_t (e12.trans e3) h2), fun p2 hp2 => ?_⟩
  have e4 := Ex.new (o := .lst (r.own.map V.str)) hp2
  have w4 : (upd H3 p2 (.lst (r.own.map V.str))) p2 = some (.lst (r.own.map V.str)) := upd_same
  generalize upd H3 p2 (.lst (r.own.map V.str)) = H4 at *
  refine ⟨p1, p2, _, _, rfl, rfl, e4 _ _ w3, w4, Nat.le_of_lt (small (by rw [List.length_map]; simp only [List.length_cons, List.length_nil]; omega)), fun p3 hp3 => ?_⟩
  have e5 := Ex.new (o := .lst ([.str "proc", .str r.name] ++ r.own.map V.str)) hp3
  have w5 : (upd H4 p3 (.lst ([.str "proc", .str r.name] ++ r.own.map V.str))) p3 = some (.lst ([.str "proc", .str r.name] ++ r.own.map V.str)) := upd_same
  generalize upd H4 p3 (.lst ([.str "proc", .str r.name] ++ r.own.map V.str)) = H5 at *
  walk_at "rds"
  refine ⟨(by decide : (2 : Nat) ≤ sizeLine), fun p4 hp4 => ?_⟩
  have e6 := Ex.new (o := .lst [.str ":", .str (bdS r.body)]) hp4
  have w6 : (upd H5 p4 (.lst [.str ":", .str (bdS r.body)])) p4 = some (.lst [.str ":", .str (bdS r.body)]) := upd_same
  generalize upd H5 p4 (.lst [.str ":", .str (bdS r.body)]) = H6 at *
  refine ⟨p3, p4, _, _, rfl, rfl, e6 _ _ w5, w6, Nat.le_of_lt (small (by rw [List.length_append, List.length_map]; simp only [List.length_cons, List.length_nil]; omega)), fun p5 hp5 => ?_⟩
  refine r_joinW (ws := lineW r) (SqL.of ?_) (by omega) (q _ (((((e12.trans e3).trans e4).trans e5).trans e6).trans (Ex.new hp5)))
  rw [upd_same]
  refine congrArg (fun z => some (HO.lst z)) ?_
  unfold lineW
  rw [List.map_cons, List.map_cons, List.map_append, List.map_map, wv_cl, wv_cl, List.map_cons, wv_cl]
  have : r.own.map V.str = r.own.map (wv ∘ cl) := List.map_congr_left fun x _ => (wv_cl x).symm
  rw [this]
  rfl
def spTextL (K : PySem.W.Frag) : Sp := fun vs H Q _ => ∃ (x : V) (p : Pl), vs = [x] ∧ PlainAt K H x p ∧ OkPl p ∧ ∀ H', Ex H H' → Q (.str (txP p)) H'
theorem c_law_text (D : Dfn K mg "_law_text_of" (top 76) ["_law_plain"]) (T : Txt K mg) (CL : Cal P w K mg base 8 "_law_line_of" (spLine K)) : Cal P w K mg base 9 "_law_text_of" (spTextL K) := by
  refine D.cal (N := ["_law_plain", "_law_row"]) (by decide +kernel) (fun vs H Q E h => ?_) fun f cdv A outer s H vs Q E hr nd h => ?_
  · obtain ⟨x, r, rfl, _⟩ := h
    rfl
  obtain ⟨x, p, rfl, ⟨q0, sa, rl, xs, rfl, h1, h2, h3, h4⟩, ok, q⟩ := h
  refine ⟨_, pss_one (ps_ret (p_join K pe_str (pe_op op_cat (pe_lst (pa_cons (p_join K pe_str (pe_op op_cat (pe_lst (pa_cons pe_str (pa_cons (pe_callTy call_str_int rfl T.str boot_str (pa_cons (p_ixL (K := K) (pv 0) pe_int) pa_nil)) pa_nil))) (pe_callTy call_list_of rfl T.list boot_list (pa_cons (p_ixL (K := K) (pv 0) pe_int) pa_nil)))) pa_nil))
    (pe_lc (own := [("_law_row", 1)]) (g := gName 1) (tt := tYes) rfl nd (pi_list (p_ixL (K := K) (pv 0) pe_int)) (blkOk_by (N := ["_law_plain", "_law_row"]) (sc := defScope (top 76)) (by decide +kernel))
      (fun _ _ _ _ _ => pg_name (i := 1) nd rfl (Or.inl rfl)) (fun _ _ _ _ _ => pts_nil) (fun _ _ _ _ _ => pe_c CL hr (by decide) (pa_cons (pv 1) pa_nil)))))), ?_⟩
  have hm3 := ok.m3
  have hs2 := ok.sg.2.2
  have hl := head_len ok
  have hr10 := ok.rw_.2
  walk_at "rds"
  refine ⟨⟨_, rfl⟩, ?_⟩
  walk_at "rds"
  refine ⟨⟨_, rfl⟩, ?_⟩
  walk_at "rds"
  refine r_ixL (SqL.of h1) r_at0 ?_
  walk_at "rds"
  refine ⟨(p.modes : Nat), rfl, Nat.lt_of_le_of_lt (Nat.log2_le_self _) (by show (Int.natAbs ((p.modes : Nat) : Int)) < 1920; omega), ?_⟩
  walk_at "rds"
  refine ⟨(by decide : (2 : Nat) ≤ sizeLine), fun p1 hp1 => ?_⟩
  have e1 := Ex.new (o := .lst [.str "program", .str (Str.ofString (toString ((p.modes : Nat) : Int)))]) hp1
  have w1 : (upd H p1 (.lst [.str "program", .str (Str.ofString (toString ((p.modes : Nat) : Int)))])) p1 = some (.lst [.str "program", .str (Str.ofString (toString ((p.modes : Nat) : Int)))]) := upd_same
  generalize upd H p1 (.lst [.str "program", .str (Str.ofString (toString ((p.modes : Nat) : Int)))]) = H1 at *
  walk_at "rds"
  refine r_ixL (SqL.of (e1 _ _ h1)) r_at1 ?_
  walk_at "rds"
  refine ⟨sa, _, rfl, .inr (ex_t e1 h2), fun p2 hp2 => ?_⟩
  have e2 := Ex.new (o := .lst (p.sigs.map V.str)) hp2
  have w2 : (upd H1 p2 (.lst (p.sigs.map V.str))) p2 = some (.lst (p.sigs.map V.str)) := upd_same
  generalize upd H1 p2 (.lst (p.sigs.map V.str)) = H2 at *
  refine ⟨p1, p2, _, _, rfl, rfl, e2 _ _ w1, w2, Nat.le_of_lt (small (by rw [List.length_map]; simp only [List.length_cons, List.length_nil]; omega)), fun p3 hp3 => ?_⟩
  refine r_joinW (ws := headW p) (SqL.of ?_) (by omega) ?_
  · rw [upd_same]
    refine congrArg (fun z => some (HO.lst z)) ?_
    unfold headW
    rw [List.map_cons, List.map_cons, List.map_map, wv_cl, SX.num_S]
    have : p.sigs.map V.str = p.sigs.map (wv ∘ cl) := List.map_congr_left fun x _ => (wv_cl x).symm
    rw [this]
    rfl
  have e3 := Ex.new (o := .lst ([.str "program", .str (Str.ofString (toString ((p.modes : Nat) : Int)))] ++ p.sigs.map V.str)) hp3
  generalize upd H2 p3 (.lst ([.str "program", .str (Str.ofString (toString ((p.modes : Nat) : Int)))] ++ p.sigs.map V.str)) = H3 at *
  have e03 := (e1.trans e2).trans e3
  walk_at "rds"
  refine ⟨(by decide : (1 : Nat) ≤ sizeLine), fun p4 hp4 => ?_⟩
  have e4 := Ex.new (o := .lst [wv (jn (headW p))]) hp4
  have w4 : (upd H3 p4 (.lst [wv (jn (headW p))])) p4 = some (.lst [wv (jn (headW p))]) := upd_same
  change Ex H3 (upd H3 p4 (.lst [V.str (SX.S (jn (headW p)))])) at e4
  change (upd H3 p4 (.lst [V.str (SX.S (jn (headW p)))])) p4 = _ at w4
  generalize upd H3 p4 (.lst [V.str (SX.S (jn (headW p)))]) = H4 at *
  have e04 := e03.trans e4
  walk_at "rds"
  refine r_ixL (SqL.of (e04 _ _ h1)) r_at2 ?_
  refine ⟨rl, rfl, ⟨_, SqL.of (e04 _ _ h3)⟩, lc_pure (over_list (xs := xs)) (fun H' e' => SqL.of (e' _ _ (e04 _ _ h3))) (fun i y _ => ∃ r, p.rows[i]? = some r ∧ y = wv (jn (lineW r))) (fun _ _ _ _ _ h => h) (small (by have := h4.1; omega)) (fun i x H5 hi e5 hx Q q => ?_) fun D5 H5 ys hD e5 h hyl hall => ?_⟩
  · obtain ⟨r, hrr, hro⟩ := h4.2 i x hx
    refine r_name ⟨rfl, ?_⟩
    walk_at "rds"
    exact ⟨x, r, rfl, hro.ex (e04.trans e5), ok.gd (List.mem_of_getElem? hrr), fun H' e' => q _ _ e' ⟨r, hrr, rfl⟩⟩
  have hys := ext_map (f := fun r => wv (jn (lineW r))) (as := p.rows) (by rw [hyl, h4.1]) hall
  refine ⟨p4, D5, _, _, rfl, rfl, e5 _ _ w4, h, Nat.le_of_lt (small (by rw [hys, List.length_map]; simp only [List.length_cons, List.length_nil]; omega)), fun p6 hp6 => ?_⟩
  refine r_joinC (c := 10) (ws := linesL p) rfl (SqL.of ?_) ?_ (q _ ((e04.trans e5).trans (Ex.new hp6)))
  · rw [upd_same, hys]
    unfold linesL
    rw [List.map_cons, List.map_map]
    rfl
  · have h5 : ∀ rows : List Rw, (∀ r ∈ rows, Gd r) → lw (rows.map fun r => jn (lineW r)) ≤ 2501 * rows.length := fun rows => by
      induction rows with
      | nil => intro _; simp [lw]
      | cons r rs ih =>
        intro h
        have h1 := ih fun r hr => h r (List.mem_cons_of_mem _ hr)
        have h2 := line_len (h r List.mem_cons_self)
        have h3 := jn_len (lineW r)
        rw [List.map_cons, lw_cons, List.length_cons]
        omega
    have h6 := h5 p.rows fun r hr => ok.gd hr
    have h7 := jn_len (headW p)
    unfold linesL
    rw [lw_cons]
    omega
end
end K8
/-! _law_right -/
namespace K8
open PySem PySem.Spec L2 Evl
open PyProof.Rows hiding St
theorem Pw.rev {α : Type} {R : V → α → Prop} {xs : List V} {gs : List α} (p : Pw R xs gs) : Pw R xs.reverse gs.reverse := by
  refine ⟨by rw [List.length_reverse, List.length_reverse, p.1], fun i x e => ?_⟩
  have hi := (List.getElem?_eq_some_iff.mp e).1
  rw [List.length_reverse] at hi
  rw [List.getElem?_reverse hi] at e
  obtain ⟨g, h1, h2⟩ := p.2 _ _ e
  exact ⟨g, by rw [List.getElem?_reverse (by rw [← p.1]; exact hi), ← p.1]; exact h1, h2⟩
theorem r_rev {K : PySem.W.Frag} {te : TE} {σ : L2.St} {H : Hp} {Q : VK} (q : te σ H fun x H1 => ∃ a xs, x = .ref a ∧ SqL K H1 a xs ∧ ∀ p, H1 p = none → Q (.ref p) (upd H1 p (.lst xs.reverse))) : tRevL K te σ H Q := q
theorem r_prop {C : Addr} {sp : Sp} {dvs : List V} {E : XK} {ta : TE} {σ : L2.St} {H : Hp} {Q : VK} (q : ta σ H fun x H1 => ∃ a dx fs, x = .ref a ∧ H1 a = some (.ins C dx fs) ∧ sp (.ref a :: dvs) H1 Q E) : tProp C sp dvs E ta σ H Q := q
theorem ix_int {i : Nat} {lo : Int} (h : lo = 0) : V.int (lo + i) = V.int ((i : Nat) : Int) := by rw [h, Int.zero_add]
/-- the class Program, as the law needs it -/
structure PgR (P : Program) (w : World) (K : PySem.W.Frag) (mg : Str → Option Value) (base : Heap) (C C2 : Addr) : Prop where
  eq : ∃ f fd, FnOk P w K mg base L2.CX0 3 f fd ["self", "other"] (spEqB (RPg K C C2)) ∧ PySem.W.findIn K (.ref C2) "__eq__" = some (some (.ref f)) ∧ PySem.W.isFn K (.ref f) = true ∧ Binds K fd ["self", "other"] []
  ne : PySem.W.findIn K (.ref C2) "__ne__" = some (some (.builtin "object.__ne__"))
  mro : PySem.W.mroIn K C2 (.type "object") = some true
  cls : Cls K C2
  sg : ∃ p g fd, PropOf K C2 "signals" p g ∧ FnOk P w K mg base L2.CX0 1 g fd ["self"] (spSigP K C C2) ∧ Binds K fd ["self"] []
section
variable {P : Program} {w : World} {K : PySem.W.Frag} {mg : Str → Option Value} {base : Heap} {C C2 : Addr}
def spRight (K : PySem.W.Frag) : Sp := fun vs H Q _ => ∃ d : Addr, vs = [.ref d] ∧ DieAt H d ∧ ∀ H', Exm [d] H H' → DieAt H' d → Q (.bl true) H'
theorem c_right (D : Dfn K mg "_law_right" (top 77) ["_law_die"]) (T : Txt K mg) (CP : Cal P w K mg base 13 "_law_any_plain" (spPlain K)) (CT : Cal P w K mg base 9 "_law_text_of" (spTextL K)) (CM : Cal P w K mg base 13 "_law_made" (spMade K C C2))
    (CW : Cal P w K mg base 16 "write_program" (spWrite K C C2)) (CR : Cal P w K mg base 17 "read_program" (spRdG K C C2)) (R : PgR P w K mg base C C2) : Cal P w K mg base 18 "_law_right" (spRight K) := by
  refine D.cal (N := ["_law_die", "_law_some", "_law_plain", "_law_texts", "_law_text", "_law_program", "_law_again", "_law_one", "_law_other", "_law_is_same"]) (by decide +kernel) (fun vs H Q E h => ?_) fun f cdv A outer s H vs Q E hr nd h => ?_
  · obtain ⟨d, rfl, _⟩ := h
    rfl
  obtain ⟨d, rfl, hd, q⟩ := h
  obtain ⟨fe, fde, FE, he1, he2, he3⟩ := R.eq
  obtain ⟨gp, gg, fdg, PR, FG, hb⟩ := R.sg
  refine ⟨_, pss_cons (ps_asg (pe_lst (pa_cons (pe_c CP hr (by decide) (pa_cons (pv 0) pa_nil)) (pa_cons (pe_c CP hr (by decide) (pa_cons (pv 0) pa_nil)) (pa_cons (pe_c CP hr (by decide) (pa_cons (pv 0) pa_nil)) pa_nil)))) (pg_name (i := 1) nd rfl (Or.inl rfl)))
    (pss_cons (ps_expr (p_app K (pv 1) (pe_lst (pa_cons (p_ixL (K := K) (p_ixL (K := K) (pv 1) pe_int) pe_int) (pa_cons (p_ixL (K := K) (p_ixL (K := K) (pv 1) pe_int) pe_int) (pa_cons (pe_revL (p_ixL (K := K) (p_ixL (K := K) (pv 1) pe_int) pe_int)) pa_nil))))))
    (pss_cons (ps_setLc (i := 3) (own := [("_law_plain", 2)]) (g := gName 2) (tt := tYes) rfl nd rfl rfl rfl (pi_list (pv 1)) (blkOk_by (N := ["_law_die", "_law_some", "_law_plain", "_law_texts", "_law_text", "_law_program", "_law_again", "_law_one", "_law_other", "_law_is_same"]) (sc := defScope (top 77)) (by decide +kernel))
        (fun _ _ _ _ _ => pg_name (i := 2) nd rfl (Or.inl rfl)) (fun _ _ _ _ _ => pts_nil) (fun _ _ _ _ _ => pe_c CT hr (by decide) (pa_cons (pv 2) pa_nil)))
    (pss_cons (ps_for PassesOwn.never rfl (RZ.pi_zipA rfl T.zip (pa_cons (pv 1) (pa_cons (pv 3) pa_nil))) (pg_tup rfl (pgs_cons (pg_name (i := 2) nd rfl (Or.inl rfl)) (pgs_cons (pg_name (i := 4) nd rfl (Or.inl rfl)) pgs_nil)))
      (pss_cons (ps_asg (pe_c CM hr (by decide) (pa_cons (pv 2) pa_nil)) (pg_name (i := 5) nd rfl (Or.inl rfl)))
      (pss_cons (ps_if (pt_cmpR op_ne (pe_c CW hr (by decide) (pa_cons (pv 5) pa_nil)) (pv 4) (nomark _)) (pss_one ps_no) pss_nil)
      (pss_cons (ps_asg (pe_c CR hr (by decide) (pa_cons (pv 4) pa_nil)) (pg_name (i := 6) nd rfl (Or.inl rfl)))
      (pss_cons (ps_if (pt_cmpR (op_neB FE he1 he2 he3 pass0 R.ne R.mro (hr.mono (by decide))) (pv 6) (pv 5) (nomark _)) (pss_one ps_no) pss_nil)
      (pss_cons (ps_if (pt_cmpR op_ne (pe_c CW hr (by decide) (pa_cons (pv 6) pa_nil)) (pv 4) (nomark _)) (pss_one ps_no) pss_nil)
      (pss_one (ps_if (pt_cmpR (op_neD hr.units) (pe_prop (pv 6) R.cls PR FG (hr.mono (by decide)) hb .nil pass0 rfl) (pe_prop (pv 5) R.cls PR FG (hr.mono (by decide)) hb .nil pass0 rfl) (nomark _)) (pss_one ps_no) pss_nil))))))))
    (pss_cons (ps_for PassesOwn.never rfl (pi_range1 rfl T.range (pa_cons pe_int pa_nil)) (pg_name (i := 7) nd rfl (Or.inl rfl))
      (pss_one (ps_for PassesOwn.never rfl (pi_range1 rfl T.range (pa_cons pe_int pa_nil)) (pg_name (i := 8) nd rfl (Or.inl rfl))
        (pss_cons (ps_asg (pe_cmpR (op_eqB (rcB_ins FE he1 he2 he3 pass0) (hr.mono (by decide))) (pe_c CM hr (by decide) (pa_cons (p_ixL (K := K) (pv 1) (pv 7)) pa_nil)) (pe_c CM hr (by decide) (pa_cons (p_ixL (K := K) (pv 1) (pv 8)) pa_nil)) (nomark _)) (pg_name (i := 9) nd rfl (Or.inl rfl)))
        (pss_one (ps_if (pt_cmpR op_ne (pv 9) (pe_cmpR op_eq (p_ixL (K := K) (pv 3) (pv 7)) (p_ixL (K := K) (pv 3) (pv 8)) (nomark _)) (nomark _)) (pss_one ps_no) pss_nil))))))
    (pss_one (ps_ret pe_bl)))))), ?_⟩
  walk_at "rds"
  refine ⟨d, rfl, hd, fun x1 p1 H1 m1 d1 a1 ok1 => ?_⟩
  walk_at "rds"
  refine ⟨d, rfl, d1, fun x2 p2 H2 m2 d2 a2 ok2 => ?_⟩
  walk_at "rds"
  refine ⟨d, rfl, d2, fun x3 p3 H3 m3 d3 a3 ok3 => ?_⟩
  replace a1 := (a1.die d1 m2).die d2 m3
  replace a2 := a2.die d2 m3
  have m13 := (m1.trans m2).trans m3
  clear m1 m2 m3 d1 d2
  obtain ⟨q1, sa, rl, rs, rfl, b1, b2, b3, b4⟩ := id a1
  walk_at "rds"
  refine ⟨(by decide : (3 : Nat) ≤ sizeLine), fun S hS => ?_⟩
  have e4 := Ex.new (o := .lst [.ref q1, x2, x3]) hS
  have w4 : (upd H3 S (.lst [.ref q1, x2, x3])) S = some (.lst [.ref q1, x2, x3]) := upd_same
  generalize upd H3 S (.lst [.ref q1, x2, x3]) = H4 at *
  walk_at "rds"
  refine ⟨ty_l w4, ?_⟩
  walk_at "rds"
  refine r_ixL (SqL.of w4) r_at0 ?_
  walk_at "rds"
  refine r_ixL (SqL.of (e4 _ _ b1)) r_at0 ?_
  walk_at "rds"
  refine r_ixL (SqL.of w4) r_at0 ?_
  walk_at "rds"
  refine r_ixL (SqL.of (e4 _ _ b1)) r_at1 ?_
  walk_at "rds"
  refine r_rev ?_
  walk_at "rds"
  refine r_ixL (SqL.of w4) r_at0 ?_
  walk_at "rds"
  refine r_ixL (SqL.of (e4 _ _ b1)) r_at2 ?_
  refine ⟨rl, rs, rfl, SqL.of (e4 _ _ b3), fun r4 hr4 => ?_⟩
  have e5 := Ex.new (o := .lst rs.reverse) hr4
  have w5 : (upd H4 r4 (.lst rs.reverse)) r4 = some (.lst rs.reverse) := upd_same
  generalize upd H4 r4 (.lst rs.reverse) = H5 at *
  walk_at "rds"
  refine ⟨(by decide : (3 : Nat) ≤ sizeLine), fun q4 hq4 => ?_⟩
  have e6 := Ex.new (o := .lst [.int (p1.modes : Nat), .ref sa, .ref r4]) hq4
  have w6 : (upd H5 q4 (.lst [.int (p1.modes : Nat), .ref sa, .ref r4])) q4 = some (.lst [.int (p1.modes : Nat), .ref sa, .ref r4]) := upd_same
  generalize upd H5 q4 (.lst [.int (p1.modes : Nat), .ref sa, .ref r4]) = H6 at *
  walk_at "rds"
  have w64 := e6 _ _ (e5 _ _ w4)
  refine ⟨S, _, _, rfl, rfl, w64, small (by decide : (3 : Nat) ≤ 100000), ?_⟩
  have hr4S : r4 ≠ S := (ne_of_none w4 hr4).symm
  have hq4S : q4 ≠ S := (ne_of_none (e5 _ _ w4) hq4).symm
  have e37 : Ex H3 (upd H6 S (.lst ([.ref q1, x2, x3] ++ [.ref q4]))) := Ex.mut ((e4.trans e5).trans e6) hS
  have w7 : (upd H6 S (.lst ([.ref q1, x2, x3] ++ [.ref q4]))) S = some (.lst [.ref q1, x2, x3, .ref q4]) := upd_same
  have w7q : (upd H6 S (.lst ([.ref q1, x2, x3] ++ [.ref q4]))) q4 = some (.lst [.int (p1.modes : Nat), .ref sa, .ref r4]) := by rw [upd_ne hq4S]; exact w6
  have w7r : (upd H6 S (.lst ([.ref q1, x2, x3] ++ [.ref q4]))) r4 = some (.lst rs.reverse) := by rw [upd_ne hr4S]; exact e6 _ _ w5
  generalize upd H6 S (.lst ([.ref q1, x2, x3] ++ [.ref q4])) = H7 at *
  have ok4 : OkPl ⟨p1.modes, p1.sigs, p1.rows.reverse⟩ := ok1.perm (List.reverse_perm _)
  have a4 : PlainAt K H7 (.ref q4) ⟨p1.modes, p1.sigs, p1.rows.reverse⟩ := ⟨q4, sa, r4, _, rfl, w7q, ex_t e37 b2, w7r, (b4.imp fun y r h => h.ex e37).rev⟩
  have hall : Pw (fun x p => PlainAt K H7 x p ∧ OkPl p) [.ref q1, x2, x3, .ref q4] [p1, p2, p3, ⟨p1.modes, p1.sigs, p1.rows.reverse⟩] :=
    ((Pw.one ⟨a1.ex e37, ok1⟩).app (.one ⟨a2.ex e37, ok2⟩)).app ((Pw.one ⟨a3.ex e37, ok3⟩).app (.one ⟨a4, ok4⟩))
  have m07 : Exm [d] H H7 := m13.trans (.of e37)
  have d7 : DieAt H7 d := d3.ex e37
  have hxl : ([V.ref q1, x2, x3, .ref q4]).length = 4 := rfl
  generalize [V.ref q1, x2, x3, .ref q4] = xs at *
  generalize [p1, p2, p3, ⟨p1.modes, p1.sigs, p1.rows.reverse⟩] = ps at *
  have hpl : ps.length = 4 := hall.1.symm.trans hxl
  clear a1 a2 a3 a4 ok1 ok2 ok3 ok4 b1 b2 b3 b4 w4 w5 w6 w64 w7q w7r e37 e4 e5 e6 hr4 hq4 hr4S hq4S d3 m13 hS
  walk_at "rds"
  refine ⟨S, rfl, ⟨_, SqL.of w7⟩, lc_pure (over_list (xs := xs)) (fun H' e' => SqL.of (e' _ _ w7)) (fun i y _ => ∃ p, ps[i]? = some p ∧ y = .str (txP p)) (fun _ _ _ _ _ h => h) (small (by omega)) (fun i x H8 hi e8 hx Q q => ?_) fun U H8 ys hD e8 w8 hyl hys => ?_⟩
  · obtain ⟨p, hp, hpa, okp⟩ := hall.2 i x hx
    refine r_name ⟨rfl, ?_⟩
    walk_at "rds"
    exact ⟨x, p, rfl, hpa.ex e8, okp, fun H' e' => q _ _ e' ⟨p, hp, rfl⟩⟩
  obtain rfl := ext_map (f := fun p => V.str (txP p)) (as := ps) (by rw [hyl, hxl, hpl]) hys
  replace w7 := e8 _ _ w7
  replace hall := hall.imp fun x p h => (show PlainAt K H8 x p ∧ OkPl p from ⟨h.1.ex e8, h.2⟩)
  replace m07 := m07.trans (.of e8)
  replace d7 := d7.ex e8
  clear hys hyl hD e8
  walk_at "rds"
  refine ⟨S, U, xs, _, rfl, .inl ⟨SqL.of w7, SqL.of w8, for_over over_zipL (fun i σ H' => ∃ o2 o4 o5 o6, σ = [some (.ref d), some (.ref S), o2, some (.ref U), o4, o5, o6, none, none, none] ∧ Ex H8 H') ⟨none, none, none, none, rfl, Ex.refl _⟩ (fun i σ H' ⟨_, _, _, _, _, h⟩ => ⟨SqL.of (h _ _ w7), SqL.of (h _ _ w8)⟩) ?_ ?_⟩⟩
  · rintro i x σ H9 Ha hi ⟨o2, o4, o5, o6, rfl, e9⟩ ea ⟨T, x, y, rfl, hT, hx, hy⟩
    obtain ⟨p, hp, hpa, okp⟩ := hall.2 i x hx
    rw [List.getElem?_map, hp] at hy
    cases (show some (V.str (txP p)) = some y from hy)
    replace hpa := hpa.ex (e9.trans ea)
    refine r_gTup (SqT.of hT) rfl (r_gCons (r_name (r_gCons (r_name (r_gNil ?_)))))
    walk_at "rds"
    refine ⟨x, p, rfl, hpa, okp, fun y1 Hb eb g1 => ?_⟩
    walk_at "rds"
    refine ⟨y1, p, rfl, g1, okp, fun Hc ec => ?_⟩
    walk_at "rds"
    refine r_ne rfl (r_bl (r_nyes rfl ?_))
    walk_at "rds"
    refine ⟨p, rfl, okp, fun y2 Hd ed g2 => ?_⟩
    walk_at "rds"
    replace g1 := g1.ex (ec.trans ed)
    obtain ⟨a1, dx1, sa1, pr1, tb1, fr1, xs1, rfl, f1, f2, f3, f4⟩ := id g1
    obtain ⟨a2, dx2, sa2, pr2, tb2, fr2, xs2, rfl, k1, k2, k3, k4⟩ := id g2
    have he : eqPl p p = true := by rw [eqPl_iff okp okp]; exact decide_eq_true rfl
    refine ⟨true, ⟨a2, a1, _, _, _, _, rfl, rfl, k1, f1, p, p, g2, g1, okp, okp, he.symm⟩, fun He ee => r_bl (iteF ?_)⟩
    walk_at "rds"
    refine ⟨_, p, rfl, g2.ex ee, okp, fun Hf ef => ?_⟩
    walk_at "rds"
    refine r_ne rfl (r_bl (r_nyes rfl ?_))
    walk_at "rds"
    have e28 := ee.trans ef
    refine r_prop ?_
    walk_at "rds"
    refine ⟨a2, _, _, rfl, e28 _ _ k1, a2, p, rfl, g2.ex e28, fun s2 hs2 => ?_⟩
    refine r_prop ?_
    walk_at "rds"
    refine ⟨a1, _, _, rfl, e28 _ _ f1, a1, p, rfl, g1.ex e28, fun s1 hs1 => ?_⟩
    refine ⟨_, _, dp_own hs2, dp_own hs1, shaped_own okp.sg.1, shaped_own okp.sg.1, r_bl ?_⟩
    rw [(eqv_iff _ _ (pln_own _) (pln_own _)).mpr rfl]
    refine iteF ?_
    walk_at "rds"
    exact ⟨_, _, _, _, rfl, ((((e9.trans ea).trans eb).trans ec).trans ed).trans e28⟩
  · rintro σ H9 ⟨o2, o4, o5, o6, rfl, e9⟩
    walk_at "rds"
    refine ⟨4, rfl, by decide, by decide, for_over (n := 4) over_range (fun i σ H' => ∃ o2 o4 o5 o6 o7 o8 o9, σ = [some (.ref d), some (.ref S), o2, some (.ref U), o4, o5, o6, o7, o8, o9] ∧ Ex H8 H') ⟨_, _, _, _, _, _, _, rfl, e9⟩ (fun _ _ _ _ => trivial) ?_ ?_⟩
    · rintro i x σ Ha Hb hi ⟨o2, o4, o5, o6, o7, o8, o9, rfl, ea⟩ eb rfl
      rw [ix_int rfl]
      refine r_name ?_
      walk_at "rds"
      refine ⟨4, rfl, by decide, by decide, for_over (n := 4) over_range (fun _ σ H' => ∃ o2 o4 o5 o6 o8 o9, σ = [some (.ref d), some (.ref S), o2, some (.ref U), o4, o5, o6, some (.int ((i : Nat) : Int)), o8, o9] ∧ Ex H8 H') ⟨_, _, _, _, _, _, rfl, ea.trans eb⟩ (fun _ _ _ _ => trivial) ?_ ?_⟩
      · rintro j x σ Hc Hd hj ⟨o2, o4, o5, o6, o8, o9, rfl, ec⟩ ed rfl
        rw [ix_int rfl]
        refine r_name ?_
        walk_at "rds"
        have i2 : i < xs.length := by have : i < Int.toNat 4 := hi; rw [hxl]; exact this
        have j2 : j < xs.length := by have : j < Int.toNat 4 := hj; rw [hxl]; exact this
        have hxi := List.getElem?_eq_getElem i2
        have hxj := List.getElem?_eq_getElem j2
        generalize xs[i] = x at hxi
        generalize xs[j] = y at hxj
        obtain ⟨p, hp, hpa, okp⟩ := hall.2 i x hxi
        obtain ⟨p', hp', hpa', okp'⟩ := hall.2 j y hxj
        have e1 := ec.trans ed
        refine r_ixL (SqL.of (e1 _ _ w7)) (atI_nat hxi) ?_
        walk_at "rds"
        refine ⟨x, p, rfl, hpa.ex e1, okp, fun y1 He ee g1 => ?_⟩
        walk_at "rds"
        have e2 := e1.trans ee
        refine r_ixL (SqL.of (e2 _ _ w7)) (atI_nat hxj) ?_
        walk_at "rds"
        refine ⟨y, p', rfl, hpa'.ex e2, okp', fun y2 Hf ef g2 => ?_⟩
        replace g1 := g1.ex ef
        have e3 := e2.trans ef
        obtain ⟨a1, dx1, sa1, pr1, tb1, fr1, xs1, rfl, f1, f2, f3, f4⟩ := id g1
        obtain ⟨a2, dx2, sa2, pr2, tb2, fr2, xs2, rfl, k1, k2, k3, k4⟩ := id g2
        refine ⟨eqPl p p', ⟨a1, a2, _, _, _, _, rfl, rfl, f1, k1, p, p', g1, g2, okp, okp', rfl⟩, fun Hg eg => ?_⟩
        have e4 := e3.trans eg
        walk_at "rds"
        refine r_ixL (SqL.of (e4 _ _ w8)) (atI_nat (by rw [List.getElem?_map, hp]; rfl)) ?_
        walk_at "rds"
        refine r_ixL (SqL.of (e4 _ _ w8)) (atI_nat (by rw [List.getElem?_map, hp']; rfl)) ?_
        refine r_eq rfl ?_
        refine r_ne rfl (r_bl ?_)
        rw [eqPl_iff okp okp']
        have hE : decide (V.str (txP p) = V.str (txP p')) = decide (txP p = txP p') := by
          by_cases h : txP p = txP p'
          · rw [decide_eq_true h, decide_eq_true (congrArg V.str h)]
          · rw [decide_eq_false h, decide_eq_false (fun z => h (V.str.inj z))]
        rw [hE]
        refine r_nyes rfl ?_
        walk_at "rds"
        exact ⟨_, _, _, _, _, _, rfl, e4⟩
      · rintro σ Hc ⟨o2, o4, o5, o6, o8, o9, rfl, ec⟩
        exact ⟨_, _, _, _, _, _, _, rfl, ec⟩
    · rintro σ Ha ⟨o2, o4, o5, o6, o7, o8, o9, rfl, ea⟩
      walk_at "rds"
      exact q _ (m07.trans (.of ea)) (d7.ex ea)
end
end K8
/-! what raises InvalidProgram; _law_is_refused -/
namespace K8
open PySem PySem.Spec L2 Evl
open PyProof.Rows hiding St
/-- the class InvalidProgram -/
structure IvP (K : PySem.W.Frag) (mg : Str → Option Value) (C3 : Addr) : Prop where
  g : mg "InvalidProgram" = some (.ref C3)
  x : PySem.W.excIn K C3 [.type "ValueError", .type "Exception", .type "BaseException", .type "object"] "ValueError.__new__" = true
  k : PySem.W.keepIn K (.ref C3) = true
  b : PySem.W.subIn K (.ref C3) (.type "BaseException") = some true
  t : PySem.W.typeIn K (.ref C3) = some (.type "type")
  e : PySem.W.exmOne K (.ref C3) (.ref C3) = some true
/-- a def that may raise -/
structure CalX (P : Program) (w : World) (K : PySem.W.Frag) (mg : Str → Option Value) (base : Heap) (k : Nat) (x : Str) (sp : Sp) : Prop where
  ex : ∃ (f : Addr) (fd : FuncData) (ps : List Str), FnOk P w K mg base (L2.CX P w) k f fd ps sp ∧ mg x = some (.ref f) ∧ PySem.W.keepIn K (.ref f) = true ∧ Binds K fd ps []
section
variable {P : Program} {w : World} {K : PySem.W.Frag} {mg : Str → Option Value} {base : Heap} {C2 C3 : Addr}
theorem Dfn.calX {x : Str} {st : Stmt} {N ps : List Str} {k : Nat} {sp : Sp} (D : Dfn K mg x st ps) (S : C8.scC N ps (defScope st) = true) (len : ∀ vs H Q E, sp vs H Q E → vs.length = ps.length)
    (hbody : ∀ (f : Addr) (cdv : Value) (A : Around) (outer : List Env) (s : Shared) (H : Hp) (vs : List V) (Q : VK) (E : XK), Room k (A.deeper (envOfC x (defScope st) s.heap.objs.size f cdv)) → N.Nodup → sp vs H Q E →
      ∃ t, PSs (cxOf (L2.CX P w) P w K mg base N x (defScope st) f cdv A outer s H E) (defBody st) t ∧ t { nx := fun _ H' => Q .non H', rt := Q } (start N vs) H) : CalX P w K mg base (k + 1) x sp := by
  obtain ⟨f, fd, F, m, b⟩ := D.ex
  have sc := C8.fnScope_by S
  exact ⟨f, fd, ps, F.okX sc len fun cdv A outer s H vs Q E hr h => hbody f cdv A outer s H vs Q E hr sc.nd h, m, F.kp, b⟩
/-- one value that is refused -/
def spBad (C3 : Addr) (bad : V → Prop) : Sp := fun vs H _ E => ∃ v, vs = [v] ∧ bad v ∧ E (.ref C3) none H
theorem c_requireX (D : Dfn K mg "require_program" (top 40) ["value"]) (T : Txt K mg) (hm : mg "Program" = some (.ref C2)) (I : IvP K mg C3) (hs : PySem.W.kitOne K (.type "str") (.ref C2) = some false) : CalX P w K mg base 1 "require_program" (spBad C3 fun v => ∃ s, v = .str s) := by
  refine D.calX (N := ["value"]) (by decide +kernel) (fun vs H Q E h => ?_) fun f cdv A outer s H vs Q E hr nd h => ?_
  · obtain ⟨v, rfl, _⟩ := h
    rfl
  obtain ⟨v, rfl, ⟨s, rfl⟩, q⟩ := h
  refine ⟨_, pss_one (ps_if (pt_not (pt_val (pe_callB call_isi rfl T.isinstance boot_isinstance (pa_cons (pv 0) (pa_cons (C8.pe_gc (v := .ref C2) rfl ⟨_, hm, rfl⟩) pa_nil)))))
    (pss_one (ps_raise rfl (takes_of rfl rfl rfl rfl) (pmk_own PySem.F.excBase_ValueError I.x I.g I.k (raises_own I.b I.t) rfl))) pss_nil), ?_⟩
  walk_at "rds"
  refine ⟨.str s, .ref C2, _, .ref C2, false, rfl, .own C2, ty_str _, hs, ?_⟩
  walk_at "rds"
  exact q
/-- a call of such a def: what it raises leaves -/
theorem pe_cX {X : Cx} {W : WX} {k j : Nat} {x : Str} {sp : Sp} {p pos : Pos} {e : Expr} {es : List Expr} {t : TA} (c : CalX X.prog X.w X.K X.mg X.base k x sp) (hr : Room j X.A) (hk : k ≤ j) (tk : Takes X W) (ha : PA X (e :: es) t) (hg : Gl X x := by rfl)
    (hdb : (x == ("__debug__" : Str)) = false := by decide) (he : starEach (e :: es) X.env = (false, eval e X.env) :: starEach es X.env := by rfl) (hpl : (backTo pos (starEach es X.env)).any (·.1) = false := by rfl) :
    PE X (.Call (.Name x p) (e :: es) [] pos) (tCallS sp (WE W) t) := by
  obtain ⟨f, fd, ps, F, hm, kp, b⟩ := c.ex
  exact pe_callS F (hr.mono hk) hg hm kp b (fun σ => passAt tk σ) ha hdb he hpl
theorem r_callS {sp : Sp} {E : L2.St → XK} {t : TA} {σ : L2.St} {H : Hp} {Q : VK} (q : t σ H fun vs H1 => sp vs H1 Q (E σ)) : tCallS sp E t σ H Q := q
theorem c_writeX (D : Dfn K mg "write_program" (top 51) ["program"]) (CR : CalX P w K mg base 1 "require_program" (spBad C3 fun v => ∃ s, v = .str s)) : CalX P w K mg base 2 "write_program" (spBad C3 fun v => ∃ s, v = .str s) := by
  refine D.calX (N := ["program", "lines", "procedure", "words"]) (by decide +kernel) (fun vs H Q E h => ?_) fun f cdv A outer s H vs Q E hr nd h => ?_
  · obtain ⟨v, rfl, _⟩ := h
    rfl
  obtain ⟨v, rfl, b, q⟩ := h
  refine ⟨_, pss_cons (ps_expr (pe_cX CR hr (Nat.le_refl _) (takes_of rfl rfl rfl rfl) (pa_cons (pv 0) pa_nil))) pss_never, ?_⟩
  walk_at "rds"
  refine r_callS ?_
  walk_at "rds"
  exact ⟨v, rfl, b, q⟩
theorem c_readX (D : Dfn K mg "read_program" (top 60) ["text"]) (T : Txt K mg) (I : IvP K mg C3) : CalX P w K mg base 1 "read_program" (spBad C3 fun v => v = .non) := by
  refine D.calX (N := ["text", "first", "lines", "head", "rows", "index", "line", "row", "program", "word"]) (by decide +kernel) (fun vs H Q E h => ?_) fun f cdv A outer s H vs Q E hr nd h => ?_
  · obtain ⟨v, rfl, _⟩ := h
    rfl
  obtain ⟨v, rfl, rfl, q⟩ := h
  refine ⟨_, pss_cons (ps_if (pt_not (pt_val (p_isi T (pv 0) T.str boot_str)))
    (pss_one (ps_raise rfl (takes_of rfl rfl rfl rfl) (pmk_own PySem.F.excBase_ValueError I.x I.g I.k (raises_own I.b I.t) rfl))) pss_nil) pss_never, ?_⟩
  walk_at "rds"
  refine r_isi ty_non kb_none_str ?_
  walk_at "rds"
  exact q
end
/-- what _law_is_refused makes of the call that it gets -/
def TRef (K : PySem.W.Frag) (CS : Addr) : (XK → Hp → VK → Prop) → Hp → VK → Prop := fun tl H Q =>
  tl (fun cls _ H' => ∃ b, PySem.W.exmOne K cls (.ref CS) = some b ∧ (b = true → Q (.bl true) H') ∧ (b = false → False)) H fun _ _ => False
theorem ref_gives {X : Cx} {q : Str} {g C3 : Addr} {cdg : Value} (hme : X.mg "InvalidProgram" = some (.ref C3)) :
    LamX.GivesTo X ["_law_call"] "_law_is_refused" (defScope (top 78)) g cdg (defBody (top 78)) "_law_call" q (TRef X.K C3) := by
  intro f c' s H Q tl act hc h
  refine ⟨_, pss_cons (ps_try_only (X := (cxOf C8.CX0 X.prog X.w X.K X.mg X.base ["_law_call"] "_law_is_refused" (defScope (top 78)) g cdg X.A X.stack s H C8.E0).nox) (c := .ref C3)
      (tb := fun W D σ H => ∃ Ech : XK, (∀ cls d σ' H', Ech cls d H' → W cls d σ' H') ∧ σ[0]? = some (some (.ref f)) ∧ H c' = some (LamX.CodeO c' q) ∧ tl Ech H fun _ H' => D.nx σ H')
      rfl rfl ⟨rfl, by decide, .inl hme⟩ takes0 (fun W pn xe tk _ => ?_) (fun a oe cls d pn _ _ => pss_one (ps_ret pe_bl))) (pss_one ps_no), ?_⟩
  · refine ⟨fun pins s' σ H' D I h' => ?_⟩
    obtain ⟨Ech, hW, h1, h2, h3⟩ := h'
    exact (pss_one (ps_expr (act W pn xe Ech _ _ tk hW))).run pins s' σ H' D I ⟨h1, h2, h3⟩
  · exact ⟨fun cls _ H' => ∃ b, PySem.W.exmOne X.K cls (.ref C3) = some b ∧ (b = true → Q (.bl true) H') ∧ (b = false → False), fun cls d σ' H' ⟨b, e1, e2, e3⟩ => ⟨b, e1, fun hb a _ => e2 hb, fun hb => e3 hb⟩, rfl, hc, h⟩
end K8
/-! the law's fixed program (plain) -/
namespace K8
open PySem PySem.Spec L2
open PyProof.Rows hiding St
def body0 : Tm := .sco "out" (.ans ["late", "need"] [.nam "exit" "out", .act "go" [none, some 1]] (.cal "p" [.nam "raise" "need"]))
def p0 : Pl := ⟨2, ["late", "need"], [⟨"main", [], body0⟩, ⟨"p", ["b"], .nam "run" "b"⟩]⟩
theorem all2 {p : Str → Prop} {a b : Str} (h1 : p a) (h2 : p b) : ∀ x ∈ [a, b], p x := fun x hx => by
  simp only [List.mem_cons, List.not_mem_nil, or_false] at hx
  rcases hx with rfl | rfl
  · exact h1
  · exact h2
theorem okb0 : OkBody (cfg p0) [] body0 := by
  refine ⟨?_, by decide +kernel, by decide +kernel, by decide +kernel⟩
  unfold body0
  simp only [Wf, Wfs, okN, List.nil_append, and_true]
  refine ⟨by decide +kernel, ⟨rfl, by simp, by decide +kernel, Nat.le_refl _, all2 ⟨by decide +kernel, by decide +kernel⟩ ⟨by decide +kernel, by decide +kernel⟩⟩, ⟨⟨by decide +kernel, ?_⟩, by decide +kernel, rfl, ?_⟩, ⟨by decide +kernel, by decide +kernel⟩, by decide +kernel, ?_⟩
  · exact .inr (.inl ⟨trivial, List.mem_singleton.mpr rfl⟩)
  · intro e he n hn
    simp only [List.mem_cons, List.not_mem_nil, or_false] at he
    rcases he with rfl | rfl
    · cases hn
    · cases hn
      decide
  · exact .inr (.inr ⟨trivial, by decide +kernel⟩)
theorem okb1 : OkBody (cfg p0) ["b"] (.nam "run" "b") := by
  refine ⟨?_, by decide +kernel, by decide +kernel, by decide +kernel⟩
  simp only [Wf, okN]
  exact ⟨by decide +kernel, .inl ⟨trivial, List.mem_singleton.mpr rfl⟩⟩
theorem okr0 : OkRw (cfg p0) ⟨"main", [], body0⟩ := ⟨by decide +kernel, ⟨fun x hx => (nomatch hx), List.nodup_nil, Nat.zero_le _⟩, okb0⟩
theorem okr1 : OkRw (cfg p0) ⟨"p", ["b"], .nam "run" "b"⟩ := ⟨by decide +kernel, ⟨by decide +kernel, by decide +kernel, by decide⟩, okb1⟩
theorem okp0 : OkPl p0 := by
  refine ⟨by decide, by decide, ⟨by decide +kernel, by decide +kernel, by decide⟩, ⟨by decide, by decide⟩, by decide +kernel, by decide +kernel, fun r hr => ?_⟩
  simp only [p0, List.mem_cons, List.not_mem_nil, or_false] at hr
  rcases hr with rfl | rfl
  · exact okr0
  · exact okr1
theorem txp0 : txP p0 = ("program 2 late need\nproc main : (scope out (answer late (exit out) need (do go - 1) " : Str) ++ ("(call p (raise need))))\nproc p b : run b" : Str) := by decide +kernel
end K8
/-! law -/
namespace K8
open PySem PySem.Spec L2 Evl
open PyProof.Rows hiding St
section
variable {K : PySem.W.Frag}
/-- te gives data -/
def EvD (K : PySem.W.Frag) (te : TE) (σ : L2.St) (d : PyData) : Prop := ∀ (H : Hp) (Q : VK), (∀ v H', Ex H H' → Dp K H' v d → Q v H') → te σ H Q
def EvDs (K : PySem.W.Frag) (ta : TA) (σ : L2.St) (ds : List PyData) : Prop := ∀ (H : Hp) (Q : List V → Hp → Prop), (∀ vs H', Ex H H' → DpAll K H' vs ds → vs.length = ds.length → Q vs H') → ta σ H Q
variable {σ : L2.St}
theorem evd_str {x : Str} : EvD K (tC (.str x)) σ (.str x) := fun H Q q => q _ H (Ex.refl H) (.str x)
theorem evd_int {x : Int} : EvD K (tC (.int x)) σ (.int x) := fun H Q q => q _ H (Ex.refl H) (.int x)
theorem evd_non : EvD K (tC .non) σ .none := fun H Q q => q _ H (Ex.refl H) .non
theorem evds_nil : EvDs K tNil σ [] := fun H Q q => q _ H (Ex.refl H) .nil rfl
theorem evds_cons {te : TE} {ta : TA} {d : PyData} {ds : List PyData} (h : EvD K te σ d) (hs : EvDs K ta σ ds) : EvDs K (tCons te ta) σ (d :: ds) := fun H Q q =>
  h H _ fun v H1 e1 h1 => hs H1 _ fun vs H2 e2 h2 hl => q _ _ (e1.trans e2) (.cons (Dp.ex e2 _ _ h1) h2) (congrArg (· + 1) hl)
theorem evd_tup {ta : TA} {ds : List PyData} (h : EvDs K ta σ ds) (hl : ds.length ≤ 1000) : EvD K (tTup ta) σ (.tuple ds) := fun H Q q =>
  r_tup (h H _ fun vs H1 e1 h1 hv => ⟨Nat.le_of_lt (small (by omega)), fun p hp => q _ _ (e1.trans (Ex.new hp)) (.tup (SqT.of upd_same) (DpAll.ex (Ex.new hp) _ _ h1))⟩)
end
theorem r_rngE {t : TA} {σ : L2.St} {H : Hp} {R : It → Hp → Prop} (q : t σ H fun vs H1 => ∃ j : Int, vs = [.int j] ∧ -(2 ^ 62) ≤ j ∧ j < 2 ^ 62 ∧ R (Itr 0 j.toNat) H1) : iRng1 t σ H R := q
theorem r_lam {T : List (Addr × Str)} {TT : (XK → Hp → VK → Prop) → Hp → VK → Prop} {t : XK → TE} {σ : L2.St} {H : Hp} {Q : VK} (h : LamX.Tabs T H) (q : ∀ H1, LamX.ExtN H H1 → LamX.Tabs T H1 → TT (fun E H' Q' => t E σ H' Q') H1 Q) : LamX.tLam T TT t σ H Q := ⟨h, q⟩
/-- a call that is refused -/
theorem r_ref {K : PySem.W.Frag} {mg : Str → Option Value} {C3 : Addr} {bad : V → Prop} {σ : L2.St} {H : Hp} {Q : VK} {t : TA} (I : IvP K mg C3) (h : ∀ QL : List V → Hp → Prop, (∀ v, bad v → QL [v] H) → t σ H QL) (q : Q (.bl true) H) :
    TRef K C3 (fun E H' Q' => tCallS (spBad C3 bad) (WE fun cls d _ H => E cls d H) t σ H' Q') H Q := h _ fun v hv => ⟨v, rfl, hv, true, I.e, fun _ => q, fun z => nomatch z⟩
section
variable {P : Program} {w : World} {K : PySem.W.Frag} {mg : Str → Option Value} {base : Heap} {C C2 C3 : Addr}
theorem pr_madeA {H : Hp} {po : Addr} {vb : V} {r : Rw} {c : Cfg} {Q : Addr → Hp → Prop} (hpo : SqT K H po (r.own.map V.str)) (hvb : Dp K H vb (toD r.body)) (h1 : 1 ≤ c.modes) (h3 : c.modes ≤ 3) (ok : OkRw c r) (q : ∀ x H' l, H l = none → Ex H H' → PrAtL K C H' (.ref x) r l → Q x H') :
    ∀ x dx, H x = none → H dx = none → dx ≠ x → spPrI K C (V.ref x :: [.str r.name, .ref po, vb]) (upd (upd H dx (.own x)) x (.ins C dx [])) (fun v H2 => v = .non ∧ Q x H2) E0 := fun x dx hx hdx ne => by
  have e : Ex H (upd (upd H dx (.own x)) x (.ins C dx [])) := Ex.mut (Ex.new hdx) hx
  exact ⟨x, dx, po, vb, r, c, rfl, upd_same, ex_t e hpo, Dp.ex e _ _ hvb, h1, h3, ok, fun H' l hl ex pr => ⟨rfl, q x _ l (ex_none e hl) (exx_new hx hdx ne ex) pr⟩⟩
theorem pg_madeA {H : Hp} {sa : Addr} {xs : List V} {p : Pl} {Q : Addr → Hp → Prop} (hsa : SqT K H sa (p.sigs.map V.str)) (hpw : Pw (fun x r => ∃ l, PrAtL K C H x r l) xs p.rows) (ok : OkPl p) (q : ∀ x H', Ex H H' → PgAt K C C2 H' (.ref x) p → Q x H') :
    ∀ x dx, H x = none → H dx = none → dx ≠ x → spPgR K C C2 (V.ref x :: ([.int (p.modes : Nat), .ref sa] ++ xs)) (upd (upd H dx (.own x)) x (.ins C2 dx [])) (fun v H2 => v = .non ∧ Q x H2) E0 := fun x dx hx hdx ne => by
  have e : Ex H (upd (upd H dx (.own x)) x (.ins C2 dx [])) := Ex.mut (Ex.new hdx) hx
  have hxx : (upd (upd H dx (.own x)) x (.ins C2 dx [])) x = some (.ins C2 dx []) := upd_same
  refine ⟨[.ref x, .int (p.modes : Nat), .ref sa], xs, rfl, rfl, Nat.le_of_lt (small (by have := hpw.1; have := ok.rw_.2; omega)), fun pp hpp => ?_⟩
  have e2 : Ex (upd (upd H dx (.own x)) x (.ins C2 dx [])) (upd (upd (upd H dx (.own x)) x (.ins C2 dx [])) pp (.tup xs)) := Ex.new hpp
  exact ⟨x, dx, sa, pp, xs, p, rfl, e2 _ _ hxx, ex_t (e.trans e2) hsa, SqT.of upd_same, hpw.imp fun y r ⟨l, h⟩ => ⟨l, h.ex (e.trans e2)⟩, ok, fun H' ex pg => ⟨rfl, q x _ (exx_new hx hdx ne fun a o n h => ex a o n (e2 _ _ h)) pg⟩⟩
/-- the law's promise; tb: its table of code objects -/
def spLaw (K : PySem.W.Frag) (tb : Addr) : Sp := fun vs H Q _ => ∃ (a : Addr) (ns : List Int), vs = [.ref a] ∧ SqL K H a (ns.map V.int) ∧ ns.length ≤ 63 ∧ H tb = some (.tbl #[]) ∧ ∀ H', Q (.bl true) H'
theorem c_law {f c tb : Addr} {oc kV doc pm ct : Value} {od an : Option Addr} {osl : Array (Option Value)} (lk : K.lookup f = some ⟨oc, od, .func (PySem.W.fnOf "law" "law" (defArgs (top 79)) (defBody (top 79)) (defScope (top 79)) .none kV doc pm an (.ref c) ct), osl⟩) (hcd : PySem.W.codeIn K (.ref c) "law" = true)
    (TB : LamX.TabB base mg c tb) (T : Txt K mg) (I : IvP K mg C3) (DR : Dfn K mg "_law_is_refused" (top 78) ["_law_call"])
    (CN : Cal P w K mg base 1 "_law_numbers" (spNums K)) (CR : Cal P w K mg base 18 "_law_right" (spRight K)) (CWX : CalX P w K mg base 2 "write_program" (spBad C3 fun v => ∃ s, v = .str s)) (CRX : CalX P w K mg base 1 "read_program" (spBad C3 fun v => v = .non))
    (CP : MakR P w K mg base 6 "Procedure" C (spPrI K C)) (CG : MakR P w K mg base 10 "Program" C2 (spPgR K C C2)) (CW : Cal P w K mg base 16 "write_program" (spWrite K C C2)) (CD : Cal P w K mg base 17 "read_program" (spRdG K C C2)) (R : PgR P w K mg base C C2) :
    FnOk P w K mg base L2.CX0 19 f (PySem.W.fnOf "law" "law" (defArgs (top 79)) (defBody (top 79)) (defScope (top 79)) .none kV doc pm an (.ref c) ct) ["_law_script"] (spLaw K tb) := by
  have sc := C8.fnScope_by (N := ["_law_script", "_law_at", "_law_die", "_law_turn", "_law_told", "_law_body", "_law_program", "_law_text"]) (P := ["_law_script"]) (sc := defScope (top 79)) (by decide +kernel)
  obtain ⟨g, fdr, FR, hmr, br⟩ := DR.ex
  obtain ⟨oc2, od2, kV2, doc2, pm2, an2, cdv2, ct2, osl2, rfl, lk2, hcd2⟩ := FR.ex
  have scR := C8.fnScope_by (N := ["_law_call"]) (P := ["_law_call"]) (sc := defScope (top 78)) (by decide +kernel)
  obtain ⟨fe, fde, FE, he1, he2, he3⟩ := R.eq
  refine fn_of lk hcd sc (fun vs H Q E h => ?_) fun A outer s H vs Q E hr h => ?_
  · obtain ⟨a, ns, rfl, _⟩ := h
    rfl
  obtain ⟨a, ns, rfl, ha, hns, htb, q⟩ := h
  have nd := sc.nd
  refine ⟨_, PSs.nox (pss_cons (ps_for PassesOwn.never rfl (pi_range1 rfl T.range (pa_cons (pe_callB (call_max2 rfl) rfl T.max boot_max (pa_cons pe_int (pa_cons (pe_callB (call_min2 rfl) rfl T.min boot_min (pa_cons pe_int (pa_cons (p_len T (pv 0)) pa_nil))) pa_nil))) pa_nil)) (pg_name (i := 1) nd rfl (Or.inl rfl))
      (pss_cons (ps_asg (pe_c CN hr (by decide) (pa_cons (pv 0) (pa_cons (pv 1) pa_nil))) (pg_name (i := 2) nd rfl (Or.inl rfl)))
      (pss_one (ps_for PassesOwn.never rfl (pi_range1 rfl T.range (pa_cons pe_int pa_nil)) (pg_name (i := 3) nd rfl (Or.inl rfl))
        (pss_one (ps_if (pt_not (pt_val (pe_c CR hr (by decide) (pa_cons (pv 2) pa_nil)))) (pss_one ps_no) pss_nil))))))
    (pss_cons (ps_asg (pe_lst (pa_cons (LamX.pe_lamcall (T := [(tb, (("law" : Str) ++ ".<locals>.") ++ "<lambda>")]) (k := 2) (c := c) (P := tb) rfl hmr FR.kp lk2 hcd2 br scR rfl (Or.inl rfl) (ref_gives I.g) TB rfl (List.mem_singleton.mpr rfl) (fun p hp _ => by rw [List.mem_singleton.mp hp]; rfl) (hr.mono (by decide)) (LamX.lamS_by (sc := defScope (top 79)) (by decide +kernel)) rfl (fun _ _ _ _ _ => rfl)
        (fun A outer s H E f c' hr => pe_cX CWX hr (by decide) (takes_of rfl rfl rfl rfl) (pa_cons pe_str pa_nil))) pa_nil)) (pg_name (i := 4) nd rfl (Or.inl rfl)))
    (pss_cons (ps_expr (p_app K (pv 4) (LamX.pe_lamcall (T := [(tb, (("law" : Str) ++ ".<locals>.") ++ "<lambda>")]) (k := 2) (c := c) (P := tb) rfl hmr FR.kp lk2 hcd2 br scR rfl (Or.inl rfl) (ref_gives I.g) TB rfl (List.mem_singleton.mpr rfl) (fun p hp _ => by rw [List.mem_singleton.mp hp]; rfl) (hr.mono (by decide)) (LamX.lamS_by (sc := defScope (top 79)) (by decide +kernel)) rfl (fun _ _ _ _ _ => rfl)
        (fun A outer s H E f c' hr => pe_cX CRX hr (by decide) (takes_of rfl rfl rfl rfl) (pa_cons pe_non pa_nil)))))
    (pss_cons (ps_asg (pe_tup (pa_cons pe_str (pa_cons pe_str (pa_cons (pe_tup (pa_cons pe_str (pa_cons (pe_tup (pa_cons (pe_tup (pa_cons pe_str (pa_cons (pe_tup (pa_cons pe_str (pa_cons pe_str pa_nil))) pa_nil)))
        (pa_cons (pe_tup (pa_cons pe_str (pa_cons (pe_tup (pa_cons pe_str (pa_cons pe_str (pa_cons (pe_tup (pa_cons pe_non (pa_cons pe_int pa_nil))) pa_nil)))) pa_nil))) pa_nil)))
        (pa_cons (pe_tup (pa_cons pe_str (pa_cons pe_str (pa_cons (pe_tup (pa_cons pe_str (pa_cons pe_str pa_nil))) pa_nil)))) pa_nil)))) pa_nil)))) (pg_name (i := 5) nd rfl (Or.inl rfl)))
    (pss_cons (ps_asg (pe_mkR CG hr (by decide) (pa_cons pe_int (pa_cons (pe_tup (pa_cons pe_str (pa_cons pe_str pa_nil))) (pa_cons (pe_mkR CP hr (by decide) (pa_cons pe_str (pa_cons (pe_tup pa_nil) (pa_cons (pv 5) pa_nil))))
        (pa_cons (pe_mkR CP hr (by decide) (pa_cons pe_str (pa_cons (pe_tup (pa_cons pe_str pa_nil)) (pa_cons (pe_tup (pa_cons pe_str (pa_cons pe_str pa_nil))) pa_nil)))) pa_nil))))) (pg_name (i := 6) nd rfl (Or.inl rfl)))
    (pss_cons (ps_asg pe_str (pg_name (i := 7) nd rfl (Or.inl rfl)))
    (pss_cons (ps_asg (pe_op op_add_str (pv 7) pe_str) (pg_name (i := 7) nd rfl (Or.inl rfl)))
    (pss_cons (ps_if (pt_cmpR (op_neD hr.units) (pv 4) (pe_lst (pa_cons pe_bl (pa_cons pe_bl pa_nil))) (nomark _)) (pss_one ps_no) pss_nil)
    (pss_cons (ps_if (pt_cmpR op_ne (pe_c CW hr (by decide) (pa_cons (pv 6) pa_nil)) (pv 7) (nomark _)) (pss_one ps_no) pss_nil)
    (pss_one (ps_ret (pe_cmpR (op_eqB (rcB_ins FE he1 he2 he3 pass0) (hr.mono (by decide))) (pe_c CD hr (by decide) (pa_cons (pv 7) pa_nil)) (pv 6) (nomark _))))))))))))), ?_⟩
  walk_at "rds"
  refine r_rngE ?_
  walk_at "rds"
  refine r_lenL ha ?_
  walk_at "rds"
  refine ⟨6, _, rfl, ?_⟩
  walk_at "rds"
  refine ⟨1, _, rfl, ?_⟩
  walk_at "rds"
  rw [List.length_map]
  refine ⟨_, rfl, by split <;> split <;> omega, by split <;> split <;> omega, ?_⟩
  generalize Int.toNat _ = n
  refine for_over over_range (fun i σ H' => ∃ o1 o2 o3, σ = [some (.ref a), o1, o2, o3, none, none, none, none] ∧ Ex H H') ⟨none, none, none, rfl, Ex.refl _⟩ (fun _ _ _ _ => trivial) ?_ ?_
  · rintro i x σ H1 H2 hi ⟨o1, o2, o3, rfl, e1⟩ e2 rfl
    rw [ix_int rfl]
    refine r_name ?_
    walk_at "rds"
    have e12 := e1.trans e2
    refine ⟨a, ns, i, rfl, ex_l e12 ha, fun p H3 hp e3 d3 => ?_⟩
    walk_at "rds"
    refine ⟨2, rfl, by decide, by decide, for_over (n := 2) over_range (fun _ σ H' => ∃ o3, σ = [some (.ref a), some (.int ((i : Nat) : Int)), some (.ref p), o3, none, none, none, none] ∧ Exm [p] H3 H' ∧ DieAt H' p) ⟨_, rfl, Exm.refl _ _, d3⟩ (fun _ _ _ _ => trivial) ?_ ?_⟩
    · rintro k x σ H4 H5 hk ⟨o3, rfl, e4, d4⟩ e5 rfl
      refine r_name ?_
      walk_at "rds"
      refine ⟨p, rfl, d4.ex e5, fun H6 e6 d6 => ?_⟩
      walk_at "rds"
      exact ⟨_, rfl, (e4.trans (.of e5)).trans e6, d6⟩
    · rintro σ H4 ⟨o3, rfl, e4, d4⟩
      refine ⟨_, _, _, rfl, ?_⟩
      exact e12.trans (((Exm.of (M := [p]) e3).trans e4).ex fun b hb => by rw [List.mem_singleton.mp hb]; exact hp)
  · rintro σ H1 ⟨o1, o2, o3, rfl, e1⟩
    walk_at "rds"
    have tabs : LamX.Tabs [(tb, (("law" : Str) ++ ".<locals>.") ++ "<lambda>")] H1 := fun p hp => by
      rw [List.mem_singleton.mp hp]
      exact LamX.TabS.nil (e1 _ _ htb)
    refine r_lam tabs fun H2 e2 tabs2 => ?_
    refine r_ref I (fun QL hQ => hQ _ ⟨_, rfl⟩) ?_
    walk_at "rds"
    refine ⟨(by decide : (1 : Nat) ≤ sizeLine), fun L hL => ?_⟩
    have e3 : Ex H2 (upd H2 L (.lst [.bl true])) := Ex.new hL
    have w3 : (upd H2 L (.lst [.bl true])) L = some (.lst [.bl true]) := upd_same
    generalize upd H2 L (.lst [.bl true]) = H3 at *
    walk_at "rds"
    refine ⟨ty_l w3, ?_⟩
    walk_at "rds"
    refine r_lam (tabs2.ext e3) fun H4 e4 tabs4 => ?_
    refine r_ref I (fun QL hQ => hQ _ rfl) ?_
    have w4 : H4 L = some (.lst [.bl true]) := e4 _ _ w3 fun ps z => by cases z
    walk_at "rds"
    refine ⟨L, _, _, rfl, rfl, w4, small (by decide : (1 : Nat) ≤ 100000), ?_⟩
    have w5 : (upd H4 L (.lst ([.bl true] ++ [.bl true]))) L = some (.lst [.bl true, .bl true]) := upd_same
    generalize upd H4 L (.lst ([.bl true] ++ [.bl true])) = H5 at *
    dsimp only
    refine r_seq (r_asg ?_)
    refine (show EvD K _ _ (toD body0) from ?_) _ _ fun vb H6 e6 hvb => ?_
    · have hb : toD body0 = .tuple [.str "scope", .str "out", .tuple [.str "answer", .tuple [.tuple [.str "late", .tuple [.str "exit", .str "out"]], .tuple [.str "need", .tuple [.str "do", .str "go", .tuple [.none, .int 1]]]], .tuple [.str "call", .str "p", .tuple [.str "raise", .str "need"]]]] := by
        simp [body0, toD, toDs, prs, entD]
      rw [hb]
      repeat' first | exact evds_nil | exact evd_str | exact evd_int | exact evd_non | refine evds_cons ?_ ?_ | refine evd_tup ?_ (by decide)
    have w6 := e6 _ _ w5
    clear w3 w4 w5
    refine r_name ?_
    dsimp only
    refine r_seq (r_asg (r_mkR ?_))
    walk_at "rds"
    refine ⟨(by decide : (2 : Nat) ≤ sizeLine), fun sa hsa => ?_⟩
    have e7 : Ex H6 (upd H6 sa (.tup [.str "late", .str "need"])) := Ex.new hsa
    have w7 : SqT K (upd H6 sa (.tup [.str "late", .str "need"])) sa (p0.sigs.map V.str) := SqT.of upd_same
    generalize upd H6 sa (.tup [.str "late", .str "need"]) = H7 at *
    refine r_cons (r_mkR ?_)
    walk_at "rds"
    refine ⟨Nat.zero_le _, fun oa hoa => ?_⟩
    have e8 : Ex H7 (upd H7 oa (.tup [])) := Ex.new hoa
    have w8 : SqT K (upd H7 oa (.tup [])) oa (([] : List Str).map V.str) := SqT.of upd_same
    generalize upd H7 oa (.tup []) = H8 at *
    walk_at "rds"
    refine pr_madeA (r := ⟨"main", [], body0⟩) (c := cfg p0) w8 (Dp.ex (e7.trans e8) _ _ hvb) (by decide) (by decide) okr0 fun x1 H9 l1 _ e9 a1 => ?_
    refine r_cons (r_mkR ?_)
    walk_at "rds"
    refine ⟨(by decide : (1 : Nat) ≤ sizeLine), fun ob hob => ?_⟩
    have e10 : Ex H9 (upd H9 ob (.tup [.str "b"])) := Ex.new hob
    have w10 : SqT K (upd H9 ob (.tup [.str "b"])) ob (([("b" : Str)] : List Str).map V.str) := SqT.of upd_same
    generalize upd H9 ob (.tup [.str "b"]) = H10 at *
    walk_at "rds"
    refine ⟨(by decide : (2 : Nat) ≤ sizeLine), fun vb2 hvb2 => ?_⟩
    have e11 : Ex H10 (upd H10 vb2 (.tup [.str "run", .str "b"])) := Ex.new hvb2
    have w11 : Dp K (upd H10 vb2 (.tup [.str "run", .str "b"])) (.ref vb2) (toD (.nam "run" "b")) := by
      simp only [toD]
      exact .tup (SqT.of upd_same) (.cons (.str _) (.cons (.str _) .nil))
    generalize upd H10 vb2 (.tup [.str "run", .str "b"]) = H11 at *
    walk_at "rds"
    refine pr_madeA (r := ⟨"p", ["b"], .nam "run" "b"⟩) (c := cfg p0) (ex_t e11 w10) w11 (by decide) (by decide) okr1 fun x2 H12 l2 _ e12 a2 => ?_
    walk_at "rds"
    have e712 : Ex H7 H12 := (((e8.trans e9).trans e10).trans e11).trans e12
    refine pg_madeA (p := p0) (xs := [.ref x1, .ref x2]) (ex_t e712 w7) ((Pw.one ⟨l1, a1.ex ((e10.trans e11).trans e12)⟩).app (.one ⟨l2, a2⟩)) okp0 fun x H13 e13 g => ?_
    have w13 := e13 _ _ (e712 _ _ (e7 _ _ w6))
    walk_at "rds"
    refine ⟨_, _, rfl, rfl, Nat.le_of_lt (small (by decide +kernel)), ?_⟩
    rw [← txp0]
    walk_at "rds"
    refine ⟨(by decide : (2 : Nat) ≤ sizeLine), fun L2 hL2 => ?_⟩
    have e14 : Ex H13 (upd H13 L2 (.lst [.bl true, .bl true])) := Ex.new hL2
    have w14 : (upd H13 L2 (.lst [.bl true, .bl true])) L2 = some (.lst [.bl true, .bl true]) := upd_same
    generalize upd H13 L2 (.lst [.bl true, .bl true]) = H14 at *
    have dd : ∀ {b : Addr}, H14 b = some (.lst [.bl true, .bl true]) → Dp K H14 (.ref b) (.list [.bool true, .bool true]) := fun h => .lst (SqL.of h) (.cons (.bl true) (.cons (.bl true) .nil))
    refine ⟨_, _, dd (e14 _ _ w13), dd w14, by decide +kernel, by decide +kernel, r_bl ?_⟩
    rw [show PyData.eqv (.list [.bool true, .bool true]) (.list [.bool true, .bool true]) = true by decide +kernel]
    refine iteF ?_
    walk_at "rds"
    replace g := g.ex e14
    refine ⟨.ref x, p0, rfl, g, okp0, fun H15 e15 => ?_⟩
    walk_at "rds"
    refine r_ne rfl (r_bl (r_nyes rfl ?_))
    walk_at "rds"
    refine ⟨p0, rfl, okp0, fun y H16 e16 g2 => ?_⟩
    walk_at "rds"
    replace g := g.ex (e15.trans e16)
    obtain ⟨a1', dx1, sa1, pr1, tb1, fr1, xs1, rfl, f1, f2, f3, f4⟩ := id g2
    obtain ⟨a2', dx2, sa2, pr2, tb2, fr2, xs2, ey, k1, k2, k3, k4⟩ := id g
    cases ey
    have he : eqPl p0 p0 = true := by rw [eqPl_iff okp0 okp0]; exact decide_eq_true rfl
    exact ⟨true, ⟨a1', x, _, _, _, _, rfl, rfl, f1, k1, p0, p0, g2, g, okp0, okp0, he.symm⟩, fun H17 e17 => q H17⟩
end
end K8
/-! all defs together: the law's promise from what the top has written -/
namespace K8
open PySem PySem.Spec L2 Evl
open PyProof.Rows hiding St
structure Defs (K : PySem.W.Frag) (mg : Str → Option Value) : Prop where
  d4 : Dfn K mg "is_integer" (top 4) ["value"]
  d5 : Dfn K mg "is_from" (top 5) ["value", "first", "last"]
  d6 : Dfn K mg "is_name" (top 6) ["value"]
  d7 : Dfn K mg "is_ascending" (top 7) ["items"]
  d8 : Dfn K mg "are_names" (top 8) ["value"]
  d20 : Dfn K mg "is_table" (top 20) ["value"]
  d21 : Dfn K mg "are_answers" (top 21) ["value"]
  d22 : Dfn K mg "has_form" (top 22) ["value"]
  d23 : Dfn K mg "inside" (top 23) ["term"]
  d24 : Dfn K mg "terms_of" (top 24) ["term"]
  d25 : Dfn K mg "signals_in" (top 25) ["term"]
  d26 : Dfn K mg "is_bound" (top 26) ["term", "parameters", "labels"]
  d27 : Dfn K mg "is_body" (top 27) ["value", "parameters"]
  d28 : Dfn K mg "are_parameters" (top 28) ["value"]
  d34 : Dfn K mg "are_signals" (top 34) ["value"]
  d35 : Dfn K mg "fits" (top 35) ["term", "modes", "signals", "table"]
  d36 : Dfn K mg "unanswered" (top 36) ["term", "answered"]
  d37 : Dfn K mg "free_of" (top 37) ["procedures"]
  d40 : Dfn K mg "require_program" (top 40) ["value"]
  d46 : Dfn K mg "is_number_text" (top 46) ["word"]
  d47 : Dfn K mg "are_letters" (top 47) ["item"]
  d48 : Dfn K mg "open_text" (top 48) ["term"]
  d49 : Dfn K mg "closed_text" (top 49) ["term"]
  d50 : Dfn K mg "body_text" (top 50) ["term"]
  d51 : Dfn K mg "write_program" (top 51) ["program"]
  d52 : Dfn K mg "items_of" (top 52) ["text"]
  d53 : Dfn K mg "all_or_none" (top 53) ["head", "found"]
  d54 : Dfn K mg "deed_of" (top 54) ["items"]
  d55 : Dfn K mg "answer_of" (top 55) ["items"]
  d56 : Dfn K mg "term_of" (top 56) ["items"]
  d57 : Dfn K mg "named_of" (top 57) ["items"]
  d58 : Dfn K mg "read_body" (top 58) ["text"]
  d59 : Dfn K mg "read_procedure" (top 59) ["line"]
  d60 : Dfn K mg "read_program" (top 60) ["text"]
  d62 : Dfn K mg "_law_numbers" (top 62) ["_law_script", "_law_at"]
  d63 : Dfn K mg "_law_cast" (top 63) ["_law_die", "_law_total"]
  d64 : Dfn K mg "_law_pick" (top 64) ["_law_die", "_law_items"]
  d65 : Dfn K mg "_law_shuffle" (top 65) ["_law_die", "_law_items"]
  d66 : Dfn K mg "_law_inside" (top 66) ["_law_term"]
  d67 : Dfn K mg "_law_all_in" (top 67) ["_law_term"]
  d68 : Dfn K mg "_law_any_deed" (top 68) ["_law_die", "_law_plan"]
  d69 : Dfn K mg "_law_any_answer" (top 69) ["_law_die", "_law_plan", "_law_own", "_law_labels", "_law_deep"]
  d70 : Dfn K mg "_law_any_term" (top 70) ["_law_die", "_law_plan", "_law_own", "_law_labels", "_law_deep"]
  d71 : Dfn K mg "_law_any_body" (top 71) ["_law_die", "_law_plan", "_law_own", "_law_most"]
  d72 : Dfn K mg "_law_any_plain" (top 72) ["_law_die"]
  d73 : Dfn K mg "_law_made" (top 73) ["_law_plain"]
  d74 : Dfn K mg "_law_open" (top 74) ["_law_term"]
  d75 : Dfn K mg "_law_line_of" (top 75) ["_law_row"]
  d76 : Dfn K mg "_law_text_of" (top 76) ["_law_plain"]
  d77 : Dfn K mg "_law_right" (top 77) ["_law_die"]
  d78 : Dfn K mg "_law_is_refused" (top 78) ["_law_call"]
/-- a method of a class by its name -/
structure MetF (K : PySem.W.Frag) (C : Addr) (x qual : Str) (st : Stmt) (ps : List Str) : Prop where
  ex : ∃ (f : Addr) (fd : FuncData), L2.Fun K x qual st f fd ∧ PySem.W.findIn K (.ref C) x = some (some (.ref f)) ∧ PySem.W.isFn K (.ref f) = true ∧ Binds K fd ps []
/-- an __init__ -/
structure IniF (K : PySem.W.Frag) (C : Addr) (qual : Str) (st : Stmt) : Prop where
  ex : ∃ (f : Addr) (fd : FuncData), L2.Fun K "__init__" qual st f fd ∧ Mk K C f
/-- the classes -/
structure Clss (K : PySem.W.Frag) (mg : Str → Option Value) (C C2 C3 : Addr) : Prop where
  p : mg "Procedure" = some (.ref C)
  g : mg "Program" = some (.ref C2)
  pc : PrC K mg C
  gc : PgC K C2
  pI : C8.InsC K C
  gI : C8.InsC K C2
  pi : ∃ (f : Addr) (fd : FuncData), L2.Fun K "__init__" "Procedure.__init__" (inClass (top 29) 0) f fd ∧ Mk K C f ∧ Binds K fd ["self", "name", "parameters", "body"] []
  pe : MetF K C "__eq__" "Procedure.__eq__" (inClass (top 29) 9) ["self", "other"]
  gi : IniF K C2 "Program.__init__" (inClass (top 38) 0)
  go : ∃ (mc : Value) (q g : Addr) (fd : FuncData), ClX.CRead K C2 mc ∧ ClX.CMet K C2 mc "of" q g ∧ L2.Fun K "of" "Program.of" (inClass (top 38) 1) g fd ∧ Binds K fd ["cls", "modes", "signals", "procedures"] []
  gs : ∃ (q g : Addr) (fd : FuncData), PropOf K C2 "signals" q g ∧ L2.Fun K "signals" "Program.signals" (inClass (top 38) 3) g fd ∧ Binds K fd ["self"] []
  ge : MetF K C2 "__eq__" "Program.__eq__" (inClass (top 38) 16) ["self", "other"]
  ne : PySem.W.findIn K (.ref C2) "__ne__" = some (some (.builtin "object.__ne__"))
  mro : PySem.W.mroIn K C2 (.type "object") = some true
  bad : PySem.W.kitOne K (.type "str") (.ref C2) = some false
  iv : IvP K mg C3
section
variable {P : Program} {w : World} {K : PySem.W.Frag} {mg : Str → Option Value} {base : Heap} {C C2 C3 : Addr}
theorem law_ok {f c tb : Addr} {oc kV doc pm ct : Value} {od an : Option Addr} {osl : Array (Option Value)} (D : Defs K mg) (T : Txt K mg) (L : Clss K mg C C2 C3)
    (lk : K.lookup f = some ⟨oc, od, .func (PySem.W.fnOf "law" "law" (defArgs (top 79)) (defBody (top 79)) (defScope (top 79)) .none kV doc pm an (.ref c) ct), osl⟩) (hcd : PySem.W.codeIn K (.ref c) "law" = true)
    (TB : LamX.TabB base mg c tb) : FnOk P w K mg base L2.CX0 19 f (PySem.W.fnOf "law" "law" (defArgs (top 79)) (defBody (top 79)) (defScope (top 79)) .none kV doc pm an (.ref c) ct) ["_law_script"] (spLaw K tb) := by
  -- words
  have isint : Cal P w K mg base 1 "is_integer" spInteger := c_is_integer D.d4 T
  have isfrom := c_is_from D.d5 isint
  have isname : Cal P w K mg base 1 "is_name" spName := c_is_name D.d6 T
  have isasc : Cal P w K mg base 1 "is_ascending" (spAsc K) := c_is_ascending D.d7 T
  have names := c_are_names D.d8 T isname
  -- terms and bodies
  have table := c_is_table D.d20 T isfrom
  have answers := c_are_answers D.d21 T isname isasc
  have form := c_has_form D.d22 T isname table answers
  have ins : Cal P w K mg base 1 "inside" (spIn K) := c_inside D.d23
  have terms := c_terms_of D.d24 ins
  have sigin : Cal P w K mg base 1 "signals_in" (spSig K) := c_signals_in D.d25
  have bound : Cal P w K mg base 1 "is_bound" (spBound K) := c_is_bound D.d26
  have body := c_is_body D.d27 T form bound ins
  have params := c_are_parameters D.d28 T names
  -- procedures
  obtain ⟨f1, fd1, F1, M1, B1⟩ := L.pi
  have mkP : MakR P w K mg base 6 "Procedure" C (spPrI K C) := c_pr_init F1 B1 M1 L.p L.pc isname params body terms
  obtain ⟨f2, fd2, F2, fi2, fn2, B2⟩ := L.pe.ex
  have prEq : FnOk P w K mg base L2.CX0 1 f2 fd2 ["self", "other"] (spEqB (RPr K C)) := c_pr_eq F2 T L.p L.pc L.pI
  -- programs
  have sigs := c_are_signals D.d34 T names isasc
  have fits : Cal P w K mg base 1 "fits" (spFits K C) := c_fits D.d35 T L.pc
  have unans := c_unanswered D.d36 T ins sigin 6
  have free := c_free_of D.d37 T L.pc unans
  obtain ⟨g1, gd1, G1, M2⟩ := L.gi.ex
  have init := c_pg_init G1 M2 T L.g L.p L.pc L.gc L.pI isfrom sigs fits free
  have mkG : MakR P w K mg base 10 "Program" C2 (spPgR K C C2) := ⟨g1, M2, init, L.g⟩
  obtain ⟨mc, q, g2, gd2, cr, cm, G2, B3⟩ := L.go
  have of : OfM P w K mg base 12 C2 (spOf K C C2) := by
    have F := (c_of G2 T M2 init).raw B3 .nil
    exact ⟨mc, q, g2, cr, cm, F.imp fun vs H Q E h => by rw [List.append_nil]; exact h, L.g⟩
  obtain ⟨q3, g3, gd3, pr3, G3, B4⟩ := L.gs
  have sg : FnOk P w K mg base L2.CX0 1 g3 gd3 ["self"] (spSigP K C C2) := c_pg_sigs G3 L.gc
  obtain ⟨g4, gd4, G4, fi4, fn4, B5⟩ := L.ge.ex
  have pgEq : FnOk P w K mg base L2.CX0 3 g4 gd4 ["self", "other"] (spEqB (RPg K C C2)) := c_pg_eq G4 T L.g L.gc L.gI prEq fi2 fn2 B2
  have R : PgR P w K mg base C C2 := ⟨⟨g4, gd4, pgEq, fi4, fn4, B5⟩, L.ne, L.mro, L.gc.cl, ⟨q3, g3, gd3, pr3, sg, B4⟩⟩
  -- writing
  have req : Cal P w K mg base 1 "require_program" (spReq K C C2) := c_require D.d40 T L.g L.gI
  have oc := c_oc (P := P) (w := w) (base := base) D.d48 D.d49 T 6
  have btext := c_body_text D.d50 T oc.1 oc.2
  have write := c_write D.d51 T L.pc L.gc req btext
  -- reading
  have lets : Cal P w K mg base 1 "are_letters" spName := c_are_letters D.d47 T
  have num : Cal P w K mg base 1 "is_number_text" spNum := c_is_number D.d46 T
  have items : Cal P w K mg base 1 "items_of" spItems := c_items_of D.d52 T
  have aon : Cal P w K mg base 1 "all_or_none" (spAon K) := c_all_or_none D.d53
  have deed := c_deed_of D.d54 T lets num
  have term := c_term_of D.d53 D.d55 D.d56 D.d57 T lets aon deed 6
  have rbody := c_read_body D.d58 T (by decide) items term
  have rproc := c_read_procedure D.d59 T (by decide) lets rbody
  have read := c_read_program D.d60 T (by decide) lets num (rproc.mono (j := 16) (by decide)) of mkP write
  -- the law's own
  have nums : Cal P w K mg base 1 "_law_numbers" (spNums K) := c_numbers D.d62 T
  have cast : Cal P w K mg base 1 "_law_cast" spCast := c_cast D.d63 T
  have pick := c_pick D.d64 T cast
  have shuf := c_shuffle D.d65 T cast
  have lins : Cal P w K mg base 1 "_law_inside" (spIn K) := c_law_inside D.d66 T
  have allin := c_all_in D.d67 lins 6
  have adeed := c_any_deed D.d68 T pick
  have aterm := c_any_term D.d69 D.d70 T cast pick adeed 4
  have abody := c_any_body D.d71 T cast shuf adeed aterm allin
  have plain := c_any_plain D.d72 T cast pick shuf abody
  have made := c_made D.d73 T of mkP
  have lopen := c_law_open D.d74 T lins 6
  have lline := c_law_line D.d75 T lopen
  have ltext := c_law_text D.d76 T lline
  have right := c_right D.d77 T plain ltext made write read R
  -- what raises
  have reqX := c_requireX (P := P) (w := w) (base := base) D.d40 T L.g L.iv L.bad
  have writeX := c_writeX D.d51 reqX
  have readX : CalX P w K mg base 1 "read_program" (spBad C3 fun v => v = .non) := c_readX D.d60 T L.iv
  exact c_law lk hcd TB T L.iv D.d78 nums right writeX readX mkP mkG write read R
end
/-! ### from the facts of the top -/
section
variable {K : PySem.W.Frag} {h : Heap} {mg : Str → Option Value}
theorem dfn_mk {x : Str} {st : Stmt} {ps : List Str} {f : Addr} {oc kV doc pm cdv ct : Value} {od an : Option Addr} {osl : Array (Option Value)} (X : K.In h) (G : h.Ns mainGlobals mg)
    (a : PySem.W.nsIn K mainGlobals x = some (some (.ref f))) (l : K.lookup f = some ⟨oc, od, .func (PySem.W.fnOf x x (defArgs st) (defBody st) (defScope st) .none kV doc pm an cdv ct), osl⟩) (c : PySem.W.codeIn K cdv x = true) (k : PySem.W.keepIn K (.ref f) = true)
    (b : ∀ (fd : FuncData), L2.Fun K x x st f fd → Binds K fd ps []) : Dfn K mg x st ps := by
  have F := fun_mk (st := st) l c k
  exact ⟨f, _, F, PySem.W.mg_of X G a, b _ F⟩
theorem met_mk {C : Addr} {x qual : Str} {st : Stmt} {ps : List Str} {f : Addr} {oc kV doc pm cdv ct : Value} {od an : Option Addr} {osl : Array (Option Value)}
    (a : PySem.W.findIn K (.ref C) x = some (some (.ref f))) (i : PySem.W.isFn K (.ref f) = true) (l : K.lookup f = some ⟨oc, od, .func (PySem.W.fnOf x qual (defArgs st) (defBody st) (defScope st) .none kV doc pm an cdv ct), osl⟩) (c : PySem.W.codeIn K cdv qual = true) (k : PySem.W.keepIn K (.ref f) = true)
    (b : ∀ (fd : FuncData), L2.Fun K x qual st f fd → Binds K fd ps []) : MetF K C x qual st ps := by
  have F := fun_mk (st := st) l c k
  exact ⟨f, _, F, a, i, b _ F⟩
theorem ini_mk {C : Addr} {qual : Str} {st : Stmt} {f : Addr} {oc kV doc pm cdv ct : Value} {od an : Option Addr} {osl : Array (Option Value)}
    (a : PySem.W.findIn K (.ref C) "__init__" = some (some (.ref f))) (i : PySem.W.isFn K (.ref f) = true) (l : K.lookup f = some ⟨oc, od, .func (PySem.W.fnOf "__init__" qual (defArgs st) (defBody st) (defScope st) .none kV doc pm an cdv ct), osl⟩) (c : PySem.W.codeIn K cdv qual = true) (k : PySem.W.keepIn K (.ref f) = true)
    (m : PySem.W.makesIn K C = true) (kc : PySem.W.keepIn K (.ref C) = true) : ∃ (f : Addr) (fd : FuncData), L2.Fun K "__init__" qual st f fd ∧ Mk K C f := ⟨f, _, fun_mk (st := st) l c k, m, a, i, kc⟩
theorem ini_mkB {C : Addr} {qual : Str} {st : Stmt} {ps : List Str} {f : Addr} {oc kV doc pm cdv ct : Value} {od an : Option Addr} {osl : Array (Option Value)}
    (a : PySem.W.findIn K (.ref C) "__init__" = some (some (.ref f))) (i : PySem.W.isFn K (.ref f) = true) (l : K.lookup f = some ⟨oc, od, .func (PySem.W.fnOf "__init__" qual (defArgs st) (defBody st) (defScope st) .none kV doc pm an cdv ct), osl⟩) (c : PySem.W.codeIn K cdv qual = true) (k : PySem.W.keepIn K (.ref f) = true)
    (m : PySem.W.makesIn K C = true) (kc : PySem.W.keepIn K (.ref C) = true) (b : ∀ (fd : FuncData), L2.Fun K "__init__" qual st f fd → Binds K fd ps []) : ∃ (f : Addr) (fd : FuncData), L2.Fun K "__init__" qual st f fd ∧ Mk K C f ∧ Binds K fd ps [] := by
  have F := fun_mk (st := st) l c k
  exact ⟨f, _, F, ⟨m, a, i, kc⟩, b _ F⟩
/-- a classmethod -/
theorem of_mk {C : Addr} {mc : Value} {x qual : Str} {st : Stmt} {ps : List Str} {q g : Addr} {rest : List Value} {oc kV doc pm cdv ct : Value} {od an : Option Addr} {osl : Array (Option Value)}
    (at_ : PySem.W.findCls K (.ref C) mc x = some (.get (.builtin "classmethod.__get__") (.ref q) .none (.ref C))) (rd : PySem.W.readsIn K C mc = true) (ga : PySem.W.specialIn K (.ref C) "__getattribute__" = some (some (.builtin "type.__getattribute__")))
    (rc : PySem.W.recIn K q "classmethod" = some (.ref g :: rest)) (fi : PySem.W.fnIn K g = true) (l : K.lookup g = some ⟨oc, od, .func (PySem.W.fnOf x qual (defArgs st) (defBody st) (defScope st) .none kV doc pm an cdv ct), osl⟩) (c : PySem.W.codeIn K cdv qual = true) (k : PySem.W.keepIn K (.ref g) = true)
    (b : ∀ (fd : FuncData), L2.Fun K x qual st g fd → Binds K fd ps []) : ∃ (mc : Value) (q g : Addr) (fd : FuncData), ClX.CRead K C mc ∧ ClX.CMet K C mc x q g ∧ L2.Fun K x qual st g fd ∧ Binds K fd ps [] := by
  have F := fun_mk (st := st) l c k
  exact ⟨mc, q, g, _, ⟨rd, ga⟩, ⟨at_, ⟨rest, rc⟩, fi⟩, F, b _ F⟩
/-- a property -/
theorem sg_mk {C : Addr} {x qual : Str} {st : Stmt} {ps : List Str} {q g : Addr} {rest : List Value} {oc kV doc pm cdv ct : Value} {od an : Option Addr} {osl : Array (Option Value)}
    (at_ : PySem.W.findIn K (.ref C) x = some (some (.ref q))) (get : PySem.W.specialIn K (.ref q) "__get__" = some (some (.builtin "property.__get__"))) (tak : PySem.W.takesIn K (.ref q) = some true) (rc : PySem.W.recIn K q "property" = some (.ref g :: rest))
    (l : K.lookup g = some ⟨oc, od, .func (PySem.W.fnOf x qual (defArgs st) (defBody st) (defScope st) .none kV doc pm an cdv ct), osl⟩) (c : PySem.W.codeIn K cdv qual = true) (k : PySem.W.keepIn K (.ref g) = true)
    (b : ∀ (fd : FuncData), L2.Fun K x qual st g fd → Binds K fd ps []) : ∃ (q g : Addr) (fd : FuncData), PropOf K C x q g ∧ L2.Fun K x qual st g fd ∧ Binds K fd ps [] := by
  have F := fun_mk (st := st) l c k
  exact ⟨q, g, _, ⟨at_, get, tak, ⟨rest, rc⟩⟩, F, b _ F⟩
theorem cst_str {x s : Str} {t : Tok} (X : K.In h) (G : h.Ns mainGlobals mg) (a : PySem.W.nsIn K mainGlobals x = some (some (.str s t))) : ∃ u, mg x = some u ∧ RelV (.str s) u := ⟨_, PySem.W.mg_of X G a, ⟨t, rfl⟩⟩
theorem cst_int {x : Str} {i : Int} {t : Tok} (X : K.In h) (G : h.Ns mainGlobals mg) (a : PySem.W.nsIn K mainGlobals x = some (some (.int i t))) : ∃ u, mg x = some u ∧ RelV (.int i) u := ⟨_, PySem.W.mg_of X G a, ⟨t, rfl⟩⟩
theorem cst_bare {x : Str} {a : Addr} {dd : Option Addr} {n : Nat} {sl : Array (Option Value)} {t1 t2 t3 t4 : Tok} (X : K.In h) (G : h.Ns mainGlobals mg) (e : PySem.W.nsIn K mainGlobals x = some (some (.ref a)))
    (l : K.lookup a = some ⟨.type "tuple", dd, .seq #[.str "do" t1, .str "run" t2, .str "exit" t3, .str "raise" t4] n, sl⟩) : ∃ a, mg x = some (.ref a) ∧ ∀ H, SqT K H a [.str "do", .str "run", .str "exit", .str "raise"] :=
  ⟨a, PySem.W.mg_of X G e, fun H => .inr ⟨_, _, _, l, rfl, rfl, (by decide : (4 : Nat) ≤ sizeLine), .cons ⟨t1, rfl⟩ (.cons ⟨t2, rfl⟩ (.cons ⟨t3, rfl⟩ (.cons ⟨t4, rfl⟩ .nil)))⟩⟩
theorem kit_self {C : Addr} : PySem.W.kitOne K (.ref C) (.ref C) = some true := by
  unfold PySem.W.kitOne
  rw [if_pos (beq_self_eq_true _)]
theorem kit_of_sub {T : String} {C : Addr} {b : Bool} (h2 : PySem.W.isClsIn K C = true) (h3 : PySem.W.typeIn K (.ref C) = some (.type "type")) (h4 : PySem.W.subIn K (.type T) (.ref C) = some b) : PySem.W.kitOne K (.type T) (.ref C) = some b := by
  unfold PySem.W.isClsIn at h2
  unfold PySem.W.kitOne PySem.W.kitCls
  dsimp only
  rw [if_neg (by simp), h2, h3, h4]
  rfl
theorem iv_self {S : Addr} (h1 : PySem.W.subIn K (.ref S) (.type "BaseException") = some true) (h2 : PySem.W.isClsIn K S = true) (h3 : PySem.W.typeIn K (.ref S) = some (.type "type")) (h4 : PySem.W.subIn K (.ref S) (.ref S) = some true) : PySem.W.exmOne K (.ref S) (.ref S) = some true := by
  unfold PySem.W.isClsIn at h2
  unfold PySem.W.exmOne PySem.W.kitCls
  dsimp only
  rw [h1, h2, h3, h4]
  rfl
/-- the end's last word -/
theorem law_at {w : World} {fa f c tb C C2 C3 : Addr} {oc kV doc pm ct : Value} {od an : Option Addr} {osl : Array (Option Value)} (X : K.In h) (G : h.Ns mainGlobals mg) (hfa : mg "law" = some (.ref fa)) (D : Defs K mg) (T : Txt K mg) (L : Clss K mg C C2 C3)
    (a : PySem.W.nsIn K mainGlobals "law" = some (some (.ref f))) (lk : K.lookup f = some ⟨oc, od, .func (PySem.W.fnOf "law" "law" (defArgs (top 79)) (defBody (top 79)) (defScope (top 79)) .none kV doc pm an (.ref c) ct), osl⟩) (hcd : PySem.W.codeIn K (.ref c) "law" = true)
    (ht : h.get? tb = some { cls := .none, data := .fields #[] }) (hn : K.lookup tb = none) (hc : PySem.W.codeHdIn K c tb = true) : LamX.LawAtS Row w K L2.CX0 19 63 "_law_script" mg fa h := by
  have e := hfa.symm.trans (PySem.W.mg_of X G a)
  cases e
  have one : ∀ {p : Addr × Addr}, p ∈ [(c, tb)] → p = (c, tb) := fun hp => List.mem_singleton.mp hp
  refine ⟨PySem.W.fnOf "law" "law" (defArgs (top 79)) (defBody (top 79)) (defScope (top 79)) .none kV doc pm an (.ref c) ct, [(c, tb)], spLaw K tb, fun p hp => ?_, fun p hp => ?_, fun p hp => ?_, fun s v => .of_eq rfl, fun H a ns hl _ hT hS => ?_, fun base hb hg TB => ?_⟩
  · rw [one hp]; exact ht
  · rw [one hp]; exact hn
  · rw [one hp]; exact PySem.W.codeHd_of_K X hc
  · exact ⟨a, ns, rfl, hS, hl, hT (c, tb) (List.mem_singleton.mpr rfl), fun _ => rfl⟩
  · exact law_ok D T L lk hcd (TB (c, tb) (List.mem_singleton.mpr rfl))
end
end K8
open PySem PySem.W PyProof.Rows
set_option maxHeartbeats 0 in
theorem PySem.Challenge.cw_handedworld_k08_whole_texts_there_and_ba_holds : PySem.Challenge.rw_handedworld_k08_whole_texts_there_and_ba.Holds := by
  w_on; o_law; k_head; (case hw => w_witness2)
  k_fill
  refine LamX.walk_ofTs (l := PySem.Challenge.rw_handedworld_k08_whole_texts_there_and_ba) (n := 63) (k := 19) (x := "_law_script") (CX := fun _ => L2.CX0) rfl (by decide) rfl ⟨rfl, by decide, by decide⟩ (fun w h Y => PySem.W.km_in_of Y) ?F (fun _ _ _ _ _ z => z)
  case F =>
    intro w mg fa h Y KX G hmg
    refine' K8.law_at KX G hmg ?w_D ?w_T ?w_L ?w_a ?w_lk ?w_cd ?w_tab ?w_no ?w_hd
    (case w_a => k_is); (case w_lk => k_is); (case w_cd => k_is)
    (case w_tab => exact PySem.W.km_tabs_of Y _ List.mem_cons_self)
    (case w_no => kernel_rfl)
    (case w_hd => kernel_rfl)
    case w_D =>
      refine' ⟨?d4, ?d5, ?d6, ?d7, ?d8, ?d20, ?d21, ?d22, ?d23, ?d24, ?d25, ?d26, ?d27, ?d28, ?d34, ?d35, ?d36, ?d37, ?d40, ?d46, ?d47, ?d48, ?d49, ?d50, ?d51, ?d52, ?d53, ?d54, ?d55, ?d56, ?d57, ?d58, ?d59, ?d60, ?d62, ?d63, ?d64, ?d65, ?d66, ?d67, ?d68, ?d69, ?d70, ?d71, ?d72, ?d73, ?d74, ?d75, ?d76, ?d77, ?d78⟩
      case d4 =>
        refine' K8.dfn_mk KX G ?d4_a ?d4_l ?d4_c ?d4_k ?d4_b
        (case d4_a => k_is); (case d4_l => k_is); (case d4_c => k_is); (case d4_k => k_is); (case d4_b => exact fun fd F => F.binds (ps := ["value"]) fun _ _ _ _ _ _ us hl => match us, hl with | [_], _ => rfl)
      case d5 =>
        refine' K8.dfn_mk KX G ?d5_a ?d5_l ?d5_c ?d5_k ?d5_b
        (case d5_a => k_is); (case d5_l => k_is); (case d5_c => k_is); (case d5_k => k_is); (case d5_b => exact fun fd F => F.binds (ps := ["value", "first", "last"]) fun _ _ _ _ _ _ us hl => match us, hl with | [_, _, _], _ => rfl)
      case d6 =>
        refine' K8.dfn_mk KX G ?d6_a ?d6_l ?d6_c ?d6_k ?d6_b
        (case d6_a => k_is); (case d6_l => k_is); (case d6_c => k_is); (case d6_k => k_is); (case d6_b => exact fun fd F => F.binds (ps := ["value"]) fun _ _ _ _ _ _ us hl => match us, hl with | [_], _ => rfl)
      case d7 =>
        refine' K8.dfn_mk KX G ?d7_a ?d7_l ?d7_c ?d7_k ?d7_b
        (case d7_a => k_is); (case d7_l => k_is); (case d7_c => k_is); (case d7_k => k_is); (case d7_b => exact fun fd F => F.binds (ps := ["items"]) fun _ _ _ _ _ _ us hl => match us, hl with | [_], _ => rfl)
      case d8 =>
        refine' K8.dfn_mk KX G ?d8_a ?d8_l ?d8_c ?d8_k ?d8_b
        (case d8_a => k_is); (case d8_l => k_is); (case d8_c => k_is); (case d8_k => k_is); (case d8_b => exact fun fd F => F.binds (ps := ["value"]) fun _ _ _ _ _ _ us hl => match us, hl with | [_], _ => rfl)
      case d20 =>
        refine' K8.dfn_mk KX G ?d20_a ?d20_l ?d20_c ?d20_k ?d20_b
        (case d20_a => k_is); (case d20_l => k_is); (case d20_c => k_is); (case d20_k => k_is); (case d20_b => exact fun fd F => F.binds (ps := ["value"]) fun _ _ _ _ _ _ us hl => match us, hl with | [_], _ => rfl)
      case d21 =>
        refine' K8.dfn_mk KX G ?d21_a ?d21_l ?d21_c ?d21_k ?d21_b
        (case d21_a => k_is); (case d21_l => k_is); (case d21_c => k_is); (case d21_k => k_is); (case d21_b => exact fun fd F => F.binds (ps := ["value"]) fun _ _ _ _ _ _ us hl => match us, hl with | [_], _ => rfl)
      case d22 =>
        refine' K8.dfn_mk KX G ?d22_a ?d22_l ?d22_c ?d22_k ?d22_b
        (case d22_a => k_is); (case d22_l => k_is); (case d22_c => k_is); (case d22_k => k_is); (case d22_b => exact fun fd F => F.binds (ps := ["value"]) fun _ _ _ _ _ _ us hl => match us, hl with | [_], _ => rfl)
      case d23 =>
        refine' K8.dfn_mk KX G ?d23_a ?d23_l ?d23_c ?d23_k ?d23_b
        (case d23_a => k_is); (case d23_l => k_is); (case d23_c => k_is); (case d23_k => k_is); (case d23_b => exact fun fd F => F.binds (ps := ["term"]) fun _ _ _ _ _ _ us hl => match us, hl with | [_], _ => rfl)
      case d24 =>
        refine' K8.dfn_mk KX G ?d24_a ?d24_l ?d24_c ?d24_k ?d24_b
        (case d24_a => k_is); (case d24_l => k_is); (case d24_c => k_is); (case d24_k => k_is); (case d24_b => exact fun fd F => F.binds (ps := ["term"]) fun _ _ _ _ _ _ us hl => match us, hl with | [_], _ => rfl)
      case d25 =>
        refine' K8.dfn_mk KX G ?d25_a ?d25_l ?d25_c ?d25_k ?d25_b
        (case d25_a => k_is); (case d25_l => k_is); (case d25_c => k_is); (case d25_k => k_is); (case d25_b => exact fun fd F => F.binds (ps := ["term"]) fun _ _ _ _ _ _ us hl => match us, hl with | [_], _ => rfl)
      case d26 =>
        refine' K8.dfn_mk KX G ?d26_a ?d26_l ?d26_c ?d26_k ?d26_b
        (case d26_a => k_is); (case d26_l => k_is); (case d26_c => k_is); (case d26_k => k_is); (case d26_b => exact fun fd F => F.binds (ps := ["term", "parameters", "labels"]) fun _ _ _ _ _ _ us hl => match us, hl with | [_, _, _], _ => rfl)
      case d27 =>
        refine' K8.dfn_mk KX G ?d27_a ?d27_l ?d27_c ?d27_k ?d27_b
        (case d27_a => k_is); (case d27_l => k_is); (case d27_c => k_is); (case d27_k => k_is); (case d27_b => exact fun fd F => F.binds (ps := ["value", "parameters"]) fun _ _ _ _ _ _ us hl => match us, hl with | [_, _], _ => rfl)
      case d28 =>
        refine' K8.dfn_mk KX G ?d28_a ?d28_l ?d28_c ?d28_k ?d28_b
        (case d28_a => k_is); (case d28_l => k_is); (case d28_c => k_is); (case d28_k => k_is); (case d28_b => exact fun fd F => F.binds (ps := ["value"]) fun _ _ _ _ _ _ us hl => match us, hl with | [_], _ => rfl)
      case d34 =>
        refine' K8.dfn_mk KX G ?d34_a ?d34_l ?d34_c ?d34_k ?d34_b
        (case d34_a => k_is); (case d34_l => k_is); (case d34_c => k_is); (case d34_k => k_is); (case d34_b => exact fun fd F => F.binds (ps := ["value"]) fun _ _ _ _ _ _ us hl => match us, hl with | [_], _ => rfl)
      case d35 =>
        refine' K8.dfn_mk KX G ?d35_a ?d35_l ?d35_c ?d35_k ?d35_b
        (case d35_a => k_is); (case d35_l => k_is); (case d35_c => k_is); (case d35_k => k_is); (case d35_b => exact fun fd F => F.binds (ps := ["term", "modes", "signals", "table"]) fun _ _ _ _ _ _ us hl => match us, hl with | [_, _, _, _], _ => rfl)
      case d36 =>
        refine' K8.dfn_mk KX G ?d36_a ?d36_l ?d36_c ?d36_k ?d36_b
        (case d36_a => k_is); (case d36_l => k_is); (case d36_c => k_is); (case d36_k => k_is); (case d36_b => exact fun fd F => F.binds (ps := ["term", "answered"]) fun _ _ _ _ _ _ us hl => match us, hl with | [_, _], _ => rfl)
      case d37 =>
        refine' K8.dfn_mk KX G ?d37_a ?d37_l ?d37_c ?d37_k ?d37_b
        (case d37_a => k_is); (case d37_l => k_is); (case d37_c => k_is); (case d37_k => k_is); (case d37_b => exact fun fd F => F.binds (ps := ["procedures"]) fun _ _ _ _ _ _ us hl => match us, hl with | [_], _ => rfl)
      case d40 =>
        refine' K8.dfn_mk KX G ?d40_a ?d40_l ?d40_c ?d40_k ?d40_b
        (case d40_a => k_is); (case d40_l => k_is); (case d40_c => k_is); (case d40_k => k_is); (case d40_b => exact fun fd F => F.binds (ps := ["value"]) fun _ _ _ _ _ _ us hl => match us, hl with | [_], _ => rfl)
      case d46 =>
        refine' K8.dfn_mk KX G ?d46_a ?d46_l ?d46_c ?d46_k ?d46_b
        (case d46_a => k_is); (case d46_l => k_is); (case d46_c => k_is); (case d46_k => k_is); (case d46_b => exact fun fd F => F.binds (ps := ["word"]) fun _ _ _ _ _ _ us hl => match us, hl with | [_], _ => rfl)
      case d47 =>
        refine' K8.dfn_mk KX G ?d47_a ?d47_l ?d47_c ?d47_k ?d47_b
        (case d47_a => k_is); (case d47_l => k_is); (case d47_c => k_is); (case d47_k => k_is); (case d47_b => exact fun fd F => F.binds (ps := ["item"]) fun _ _ _ _ _ _ us hl => match us, hl with | [_], _ => rfl)
      case d48 =>
        refine' K8.dfn_mk KX G ?d48_a ?d48_l ?d48_c ?d48_k ?d48_b
        (case d48_a => k_is); (case d48_l => k_is); (case d48_c => k_is); (case d48_k => k_is); (case d48_b => exact fun fd F => F.binds (ps := ["term"]) fun _ _ _ _ _ _ us hl => match us, hl with | [_], _ => rfl)
      case d49 =>
        refine' K8.dfn_mk KX G ?d49_a ?d49_l ?d49_c ?d49_k ?d49_b
        (case d49_a => k_is); (case d49_l => k_is); (case d49_c => k_is); (case d49_k => k_is); (case d49_b => exact fun fd F => F.binds (ps := ["term"]) fun _ _ _ _ _ _ us hl => match us, hl with | [_], _ => rfl)
      case d50 =>
        refine' K8.dfn_mk KX G ?d50_a ?d50_l ?d50_c ?d50_k ?d50_b
        (case d50_a => k_is); (case d50_l => k_is); (case d50_c => k_is); (case d50_k => k_is); (case d50_b => exact fun fd F => F.binds (ps := ["term"]) fun _ _ _ _ _ _ us hl => match us, hl with | [_], _ => rfl)
      case d51 =>
        refine' K8.dfn_mk KX G ?d51_a ?d51_l ?d51_c ?d51_k ?d51_b
        (case d51_a => k_is); (case d51_l => k_is); (case d51_c => k_is); (case d51_k => k_is); (case d51_b => exact fun fd F => F.binds (ps := ["program"]) fun _ _ _ _ _ _ us hl => match us, hl with | [_], _ => rfl)
      case d52 =>
        refine' K8.dfn_mk KX G ?d52_a ?d52_l ?d52_c ?d52_k ?d52_b
        (case d52_a => k_is); (case d52_l => k_is); (case d52_c => k_is); (case d52_k => k_is); (case d52_b => exact fun fd F => F.binds (ps := ["text"]) fun _ _ _ _ _ _ us hl => match us, hl with | [_], _ => rfl)
      case d53 =>
        refine' K8.dfn_mk KX G ?d53_a ?d53_l ?d53_c ?d53_k ?d53_b
        (case d53_a => k_is); (case d53_l => k_is); (case d53_c => k_is); (case d53_k => k_is); (case d53_b => exact fun fd F => F.binds (ps := ["head", "found"]) fun _ _ _ _ _ _ us hl => match us, hl with | [_, _], _ => rfl)
      case d54 =>
        refine' K8.dfn_mk KX G ?d54_a ?d54_l ?d54_c ?d54_k ?d54_b
        (case d54_a => k_is); (case d54_l => k_is); (case d54_c => k_is); (case d54_k => k_is); (case d54_b => exact fun fd F => F.binds (ps := ["items"]) fun _ _ _ _ _ _ us hl => match us, hl with | [_], _ => rfl)
      case d55 =>
        refine' K8.dfn_mk KX G ?d55_a ?d55_l ?d55_c ?d55_k ?d55_b
        (case d55_a => k_is); (case d55_l => k_is); (case d55_c => k_is); (case d55_k => k_is); (case d55_b => exact fun fd F => F.binds (ps := ["items"]) fun _ _ _ _ _ _ us hl => match us, hl with | [_], _ => rfl)
      case d56 =>
        refine' K8.dfn_mk KX G ?d56_a ?d56_l ?d56_c ?d56_k ?d56_b
        (case d56_a => k_is); (case d56_l => k_is); (case d56_c => k_is); (case d56_k => k_is); (case d56_b => exact fun fd F => F.binds (ps := ["items"]) fun _ _ _ _ _ _ us hl => match us, hl with | [_], _ => rfl)
      case d57 =>
        refine' K8.dfn_mk KX G ?d57_a ?d57_l ?d57_c ?d57_k ?d57_b
        (case d57_a => k_is); (case d57_l => k_is); (case d57_c => k_is); (case d57_k => k_is); (case d57_b => exact fun fd F => F.binds (ps := ["items"]) fun _ _ _ _ _ _ us hl => match us, hl with | [_], _ => rfl)
      case d58 =>
        refine' K8.dfn_mk KX G ?d58_a ?d58_l ?d58_c ?d58_k ?d58_b
        (case d58_a => k_is); (case d58_l => k_is); (case d58_c => k_is); (case d58_k => k_is); (case d58_b => exact fun fd F => F.binds (ps := ["text"]) fun _ _ _ _ _ _ us hl => match us, hl with | [_], _ => rfl)
      case d59 =>
        refine' K8.dfn_mk KX G ?d59_a ?d59_l ?d59_c ?d59_k ?d59_b
        (case d59_a => k_is); (case d59_l => k_is); (case d59_c => k_is); (case d59_k => k_is); (case d59_b => exact fun fd F => F.binds (ps := ["line"]) fun _ _ _ _ _ _ us hl => match us, hl with | [_], _ => rfl)
      case d60 =>
        refine' K8.dfn_mk KX G ?d60_a ?d60_l ?d60_c ?d60_k ?d60_b
        (case d60_a => k_is); (case d60_l => k_is); (case d60_c => k_is); (case d60_k => k_is); (case d60_b => exact fun fd F => F.binds (ps := ["text"]) fun _ _ _ _ _ _ us hl => match us, hl with | [_], _ => rfl)
      case d62 =>
        refine' K8.dfn_mk KX G ?d62_a ?d62_l ?d62_c ?d62_k ?d62_b
        (case d62_a => k_is); (case d62_l => k_is); (case d62_c => k_is); (case d62_k => k_is); (case d62_b => exact fun fd F => F.binds (ps := ["_law_script", "_law_at"]) fun _ _ _ _ _ _ us hl => match us, hl with | [_, _], _ => rfl)
      case d63 =>
        refine' K8.dfn_mk KX G ?d63_a ?d63_l ?d63_c ?d63_k ?d63_b
        (case d63_a => k_is); (case d63_l => k_is); (case d63_c => k_is); (case d63_k => k_is); (case d63_b => exact fun fd F => F.binds (ps := ["_law_die", "_law_total"]) fun _ _ _ _ _ _ us hl => match us, hl with | [_, _], _ => rfl)
      case d64 =>
        refine' K8.dfn_mk KX G ?d64_a ?d64_l ?d64_c ?d64_k ?d64_b
        (case d64_a => k_is); (case d64_l => k_is); (case d64_c => k_is); (case d64_k => k_is); (case d64_b => exact fun fd F => F.binds (ps := ["_law_die", "_law_items"]) fun _ _ _ _ _ _ us hl => match us, hl with | [_, _], _ => rfl)
      case d65 =>
        refine' K8.dfn_mk KX G ?d65_a ?d65_l ?d65_c ?d65_k ?d65_b
        (case d65_a => k_is); (case d65_l => k_is); (case d65_c => k_is); (case d65_k => k_is); (case d65_b => exact fun fd F => F.binds (ps := ["_law_die", "_law_items"]) fun _ _ _ _ _ _ us hl => match us, hl with | [_, _], _ => rfl)
      case d66 =>
        refine' K8.dfn_mk KX G ?d66_a ?d66_l ?d66_c ?d66_k ?d66_b
        (case d66_a => k_is); (case d66_l => k_is); (case d66_c => k_is); (case d66_k => k_is); (case d66_b => exact fun fd F => F.binds (ps := ["_law_term"]) fun _ _ _ _ _ _ us hl => match us, hl with | [_], _ => rfl)
      case d67 =>
        refine' K8.dfn_mk KX G ?d67_a ?d67_l ?d67_c ?d67_k ?d67_b
        (case d67_a => k_is); (case d67_l => k_is); (case d67_c => k_is); (case d67_k => k_is); (case d67_b => exact fun fd F => F.binds (ps := ["_law_term"]) fun _ _ _ _ _ _ us hl => match us, hl with | [_], _ => rfl)
      case d68 =>
        refine' K8.dfn_mk KX G ?d68_a ?d68_l ?d68_c ?d68_k ?d68_b
        (case d68_a => k_is); (case d68_l => k_is); (case d68_c => k_is); (case d68_k => k_is); (case d68_b => exact fun fd F => F.binds (ps := ["_law_die", "_law_plan"]) fun _ _ _ _ _ _ us hl => match us, hl with | [_, _], _ => rfl)
      case d69 =>
        refine' K8.dfn_mk KX G ?d69_a ?d69_l ?d69_c ?d69_k ?d69_b
        (case d69_a => k_is); (case d69_l => k_is); (case d69_c => k_is); (case d69_k => k_is); (case d69_b => exact fun fd F => F.binds (ps := ["_law_die", "_law_plan", "_law_own", "_law_labels", "_law_deep"]) fun _ _ _ _ _ _ us hl => match us, hl with | [_, _, _, _, _], _ => rfl)
      case d70 =>
        refine' K8.dfn_mk KX G ?d70_a ?d70_l ?d70_c ?d70_k ?d70_b
        (case d70_a => k_is); (case d70_l => k_is); (case d70_c => k_is); (case d70_k => k_is); (case d70_b => exact fun fd F => F.binds (ps := ["_law_die", "_law_plan", "_law_own", "_law_labels", "_law_deep"]) fun _ _ _ _ _ _ us hl => match us, hl with | [_, _, _, _, _], _ => rfl)
      case d71 =>
        refine' K8.dfn_mk KX G ?d71_a ?d71_l ?d71_c ?d71_k ?d71_b
        (case d71_a => k_is); (case d71_l => k_is); (case d71_c => k_is); (case d71_k => k_is); (case d71_b => exact fun fd F => F.binds (ps := ["_law_die", "_law_plan", "_law_own", "_law_most"]) fun _ _ _ _ _ _ us hl => match us, hl with | [_, _, _, _], _ => rfl)
      case d72 =>
        refine' K8.dfn_mk KX G ?d72_a ?d72_l ?d72_c ?d72_k ?d72_b
        (case d72_a => k_is); (case d72_l => k_is); (case d72_c => k_is); (case d72_k => k_is); (case d72_b => exact fun fd F => F.binds (ps := ["_law_die"]) fun _ _ _ _ _ _ us hl => match us, hl with | [_], _ => rfl)
      case d73 =>
        refine' K8.dfn_mk KX G ?d73_a ?d73_l ?d73_c ?d73_k ?d73_b
        (case d73_a => k_is); (case d73_l => k_is); (case d73_c => k_is); (case d73_k => k_is); (case d73_b => exact fun fd F => F.binds (ps := ["_law_plain"]) fun _ _ _ _ _ _ us hl => match us, hl with | [_], _ => rfl)
      case d74 =>
        refine' K8.dfn_mk KX G ?d74_a ?d74_l ?d74_c ?d74_k ?d74_b
        (case d74_a => k_is); (case d74_l => k_is); (case d74_c => k_is); (case d74_k => k_is); (case d74_b => exact fun fd F => F.binds (ps := ["_law_term"]) fun _ _ _ _ _ _ us hl => match us, hl with | [_], _ => rfl)
      case d75 =>
        refine' K8.dfn_mk KX G ?d75_a ?d75_l ?d75_c ?d75_k ?d75_b
        (case d75_a => k_is); (case d75_l => k_is); (case d75_c => k_is); (case d75_k => k_is); (case d75_b => exact fun fd F => F.binds (ps := ["_law_row"]) fun _ _ _ _ _ _ us hl => match us, hl with | [_], _ => rfl)
      case d76 =>
        refine' K8.dfn_mk KX G ?d76_a ?d76_l ?d76_c ?d76_k ?d76_b
        (case d76_a => k_is); (case d76_l => k_is); (case d76_c => k_is); (case d76_k => k_is); (case d76_b => exact fun fd F => F.binds (ps := ["_law_plain"]) fun _ _ _ _ _ _ us hl => match us, hl with | [_], _ => rfl)
      case d77 =>
        refine' K8.dfn_mk KX G ?d77_a ?d77_l ?d77_c ?d77_k ?d77_b
        (case d77_a => k_is); (case d77_l => k_is); (case d77_c => k_is); (case d77_k => k_is); (case d77_b => exact fun fd F => F.binds (ps := ["_law_die"]) fun _ _ _ _ _ _ us hl => match us, hl with | [_], _ => rfl)
      case d78 =>
        refine' K8.dfn_mk KX G ?d78_a ?d78_l ?d78_c ?d78_k ?d78_b
        (case d78_a => k_is); (case d78_l => k_is); (case d78_c => k_is); (case d78_k => k_is); (case d78_b => exact fun fd F => F.binds (ps := ["_law_call"]) fun _ _ _ _ _ _ us hl => match us, hl with | [_], _ => rfl)
    case w_T =>
      refine' ⟨?z_len, ?z_all, ?z_isinstance, ?z_zip, ?z_int, ?z_bool, ?z_str, ?z_tuple, ?z_list, ?z_set, ?z_sorted, ?z_range, ?z_enumerate, ?z_max, ?z_min, ?z_abs, ?q_LETTERS, ?q_DIGITS, ?q_MAX_LETTERS, ?q_MAX_PARAMETERS, ?q_MAX_DEPTH, ?q_MAX_TERMS, ?q_MAX_MODES, ?q_MAIN, ?q_MAX_PROCEDURES, ?q_MAX_SIGNALS, ?q_MAX_DIGITS, ?q_MAX_BRACKETS, ?bare⟩
      (case z_len => refine' PySem.W.mg_none_of KX G ?_; k_is)
      (case z_all => refine' PySem.W.mg_none_of KX G ?_; k_is)
      (case z_isinstance => refine' PySem.W.mg_none_of KX G ?_; k_is)
      (case z_zip => refine' PySem.W.mg_none_of KX G ?_; k_is)
      (case z_int => refine' PySem.W.mg_none_of KX G ?_; k_is)
      (case z_bool => refine' PySem.W.mg_none_of KX G ?_; k_is)
      (case z_str => refine' PySem.W.mg_none_of KX G ?_; k_is)
      (case z_tuple => refine' PySem.W.mg_none_of KX G ?_; k_is)
      (case z_list => refine' PySem.W.mg_none_of KX G ?_; k_is)
      (case z_set => refine' PySem.W.mg_none_of KX G ?_; k_is)
      (case z_sorted => refine' PySem.W.mg_none_of KX G ?_; k_is)
      (case z_range => refine' PySem.W.mg_none_of KX G ?_; k_is)
      (case z_enumerate => refine' PySem.W.mg_none_of KX G ?_; k_is)
      (case z_max => refine' PySem.W.mg_none_of KX G ?_; k_is)
      (case z_min => refine' PySem.W.mg_none_of KX G ?_; k_is)
      (case z_abs => refine' PySem.W.mg_none_of KX G ?_; k_is)
      (case q_LETTERS => refine' K8.cst_str KX G ?q_LETTERS_e; (case q_LETTERS_e => k_is))
      (case q_DIGITS => refine' K8.cst_str KX G ?q_DIGITS_e; (case q_DIGITS_e => k_is))
      (case q_MAX_LETTERS => refine' K8.cst_int KX G ?q_MAX_LETTERS_e; (case q_MAX_LETTERS_e => k_is))
      (case q_MAX_PARAMETERS => refine' K8.cst_int KX G ?q_MAX_PARAMETERS_e; (case q_MAX_PARAMETERS_e => k_is))
      (case q_MAX_DEPTH => refine' K8.cst_int KX G ?q_MAX_DEPTH_e; (case q_MAX_DEPTH_e => k_is))
      (case q_MAX_TERMS => refine' K8.cst_int KX G ?q_MAX_TERMS_e; (case q_MAX_TERMS_e => k_is))
      (case q_MAX_MODES => refine' K8.cst_int KX G ?q_MAX_MODES_e; (case q_MAX_MODES_e => k_is))
      (case q_MAIN => refine' K8.cst_str KX G ?q_MAIN_e; (case q_MAIN_e => k_is))
      (case q_MAX_PROCEDURES => refine' K8.cst_int KX G ?q_MAX_PROCEDURES_e; (case q_MAX_PROCEDURES_e => k_is))
      (case q_MAX_SIGNALS => refine' K8.cst_int KX G ?q_MAX_SIGNALS_e; (case q_MAX_SIGNALS_e => k_is))
      (case q_MAX_DIGITS => refine' K8.cst_int KX G ?q_MAX_DIGITS_e; (case q_MAX_DIGITS_e => k_is))
      (case q_MAX_BRACKETS => refine' K8.cst_int KX G ?q_MAX_BRACKETS_e; (case q_MAX_BRACKETS_e => k_is))
      (case bare => refine' K8.cst_bare KX G ?bare_e ?bare_l; (case bare_e => k_is); (case bare_l => k_is))
    case w_L =>
      refine' ⟨?L_p, ?L_g, ?L_pc, ?L_gc, ?L_pI, ?L_gI, ?L_pi, ?L_pe, ?L_gi, ?L_go, ?L_gs, ?L_ge, ?L_ne, ?L_mro, ?L_bad, ?L_iv⟩
      (case L_p => refine' PySem.W.mg_of KX G ?_; k_is)
      (case L_g => refine' PySem.W.mg_of KX G ?_; k_is)
      (case L_pc => refine' ⟨?pc_cl, ?pc_n1, ?pc_n2, ?pc_n3, ?pc_n4⟩; (case pc_cl => refine' ⟨?pc_cl_pg, ?pc_cl_hd, ?pc_cl_po, ?pc_cl_sa⟩; (case pc_cl_pg => k_is); (case pc_cl_hd => k_is); (case pc_cl_po => k_is); (case pc_cl_sa => k_is)); (case pc_n1 => unfold L2.NoAttr; k_is); (case pc_n2 => unfold L2.NoAttr; k_is); (case pc_n3 => unfold L2.NoAttr; k_is); (case pc_n4 => unfold L2.NoAttr; k_is))
      (case L_gc => refine' ⟨?gc_cl, ?gc_n1, ?gc_n2, ?gc_n3, ?gc_n4, ?gc_n5⟩; (case gc_cl => refine' ⟨?gc_cl_pg, ?gc_cl_hd, ?gc_cl_po, ?gc_cl_sa⟩; (case gc_cl_pg => k_is); (case gc_cl_hd => k_is); (case gc_cl_po => k_is); (case gc_cl_sa => k_is)); (case gc_n1 => unfold L2.NoAttr; k_is); (case gc_n2 => unfold L2.NoAttr; k_is); (case gc_n3 => unfold L2.NoAttr; k_is); (case gc_n4 => unfold L2.NoAttr; k_is); (case gc_n5 => unfold L2.NoAttr; k_is))
      (case L_pI => refine' ⟨?pI_cl, ?pI_ha, ?pI_hn, ?pI_htk, ?pI_hm, ?pI_me⟩; (case pI_cl => refine' ⟨?pI_cl_pg, ?pI_cl_hd, ?pI_cl_po, ?pI_cl_sa⟩; (case pI_cl_pg => k_is); (case pI_cl_hd => k_is); (case pI_cl_po => k_is); (case pI_cl_sa => k_is)); (case pI_ha => k_is); (case pI_hn => k_is); (case pI_htk => k_is); (case pI_hm => k_is); (case pI_me => exact K8.kit_self))
      (case L_gI => refine' ⟨?gI_cl, ?gI_ha, ?gI_hn, ?gI_htk, ?gI_hm, ?gI_me⟩; (case gI_cl => refine' ⟨?gI_cl_pg, ?gI_cl_hd, ?gI_cl_po, ?gI_cl_sa⟩; (case gI_cl_pg => k_is); (case gI_cl_hd => k_is); (case gI_cl_po => k_is); (case gI_cl_sa => k_is)); (case gI_ha => k_is); (case gI_hn => k_is); (case gI_htk => k_is); (case gI_hm => k_is); (case gI_me => exact K8.kit_self))
      case L_pi =>
        refine' K8.ini_mkB ?pi_a ?pi_i ?pi_l ?pi_c ?pi_k ?pi_m ?pi_kc ?pi_b
        (case pi_a => k_is); (case pi_i => k_is); (case pi_l => k_is); (case pi_c => k_is); (case pi_k => k_is); (case pi_m => k_is); (case pi_kc => k_is); (case pi_b => exact fun fd F => F.binds (ps := ["self", "name", "parameters", "body"]) fun _ _ _ _ _ _ us hl => match us, hl with | [_, _, _, _], _ => rfl)
      case L_gi =>
        refine' ⟨K8.ini_mk ?gi_a ?gi_i ?gi_l ?gi_c ?gi_k ?gi_m ?gi_kc⟩
        (case gi_a => k_is); (case gi_i => k_is); (case gi_l => k_is); (case gi_c => k_is); (case gi_k => k_is); (case gi_m => k_is); (case gi_kc => k_is)
      case L_pe =>
        refine' K8.met_mk ?pe_a ?pe_i ?pe_l ?pe_c ?pe_k ?pe_b
        (case pe_a => k_is); (case pe_i => k_is); (case pe_l => k_is); (case pe_c => k_is); (case pe_k => k_is); (case pe_b => exact fun fd F => F.binds (ps := ["self", "other"]) fun _ _ _ _ _ _ us hl => match us, hl with | [_, _], _ => rfl)
      case L_ge =>
        refine' K8.met_mk ?ge_a ?ge_i ?ge_l ?ge_c ?ge_k ?ge_b
        (case ge_a => k_is); (case ge_i => k_is); (case ge_l => k_is); (case ge_c => k_is); (case ge_k => k_is); (case ge_b => exact fun fd F => F.binds (ps := ["self", "other"]) fun _ _ _ _ _ _ us hl => match us, hl with | [_, _], _ => rfl)
      case L_go =>
        refine' K8.of_mk (mc := .type "type") ?go_at ?go_rd ?go_ga ?go_rc ?go_fi ?go_l ?go_c ?go_k ?go_b
        (case go_at => k_is); (case go_rd => k_is); (case go_ga => k_is); (case go_rc => k_is); (case go_fi => k_is); (case go_l => k_is); (case go_c => k_is); (case go_k => k_is); (case go_b => exact fun fd F => F.binds (ps := ["cls", "modes", "signals", "procedures"]) fun _ _ _ _ _ _ us hl => match us, hl with | [_, _, _, _], _ => rfl)
      case L_gs =>
        refine' K8.sg_mk ?gs_at ?gs_get ?gs_tak ?gs_rc ?gs_l ?gs_c ?gs_k ?gs_b
        (case gs_at => k_is); (case gs_get => k_is); (case gs_tak => k_is); (case gs_rc => k_is); (case gs_l => k_is); (case gs_c => k_is); (case gs_k => k_is); (case gs_b => exact fun fd F => F.binds (ps := ["self"]) fun _ _ _ _ _ _ us hl => match us, hl with | [_], _ => rfl)
      (case L_ne => k_is); (case L_mro => k_is)
      (case L_bad => refine' K8.kit_of_sub ?bad_2 ?bad_3 ?bad_4; (case bad_2 => k_is); (case bad_3 => k_is); (case bad_4 => k_is))
      case L_iv =>
        refine' ⟨?iv_g, ?iv_x, ?iv_k, ?iv_b, ?iv_t, ?iv_e⟩
        (case iv_g => refine' PySem.W.mg_of KX G ?_; k_is); (case iv_x => k_exc); (case iv_k => k_is); (case iv_b => k_is); (case iv_t => k_is)
        (case iv_e => refine' K8.iv_self ?ie_1 ?ie_2 ?ie_3 ?ie_4; (case ie_1 => k_is); (case ie_2 => k_is); (case ie_3 => k_is); (case ie_4 => k_is))
