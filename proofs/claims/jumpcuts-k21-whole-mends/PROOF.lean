import PyProof.Rows.All
import Wide.All
import OpenK.AllK
import Wide.FinOn
import KE.KStateDown
import Lean
import HandS.ForMost
import HandS.Defaults
import HandS.Head0
import HandS.Head1
import HandS.Head2
import HandS.HeadEnd
import HandS.HeadHook1
import HandS.HeadHook2
import HandS.Walk
import HandS.TupAny
import HandS.TupSets
import HandS.IsInst
import HandS.Style
import HandS.Conv
import HandS.Set
import HandS.SetFor
import HandS.DictTup
import HandS.Codes
import KE.KDictCopyH
import KE.KDictKeyed
import KE.KDictDisplayH
import HandS.SetTxt0
import KE.GoesMore
import PySem.Challenge.RW_jumpcuts_k21_whole_mends
set_option Elab.async false
set_option linter.all false
set_option maxRecDepth 100000
set_option maxHeartbeats 0
section
/-! The text of the program by places. -/
namespace J
open PySem PySem.Spec PyProof.Rows L2
def top (i : Nat) : Stmt := PySem.Challenge.pw_jumpcuts_k21_whole_mends.main.body.getD i (.Pass ⟨0, 0, 0, 0⟩)
abbrev sNeed : Stmt := top 6
abbrev sBegin : Stmt := top 8
abbrev sReach : Stmt := top 9
abbrev sWalk : Stmt := top 12
abbrev sClose : Stmt := top 13
abbrev sRead : Stmt := top 14
abbrev sAdd : Stmt := top 15
abbrev sPut : Stmt := top 16
abbrev sLeft : Stmt := top 17
abbrev sChg : Stmt := top 18
abbrev sMnd : Stmt := top 19
abbrev sMore : Stmt := top 20
abbrev sLess : Stmt := top 21
abbrev sTaken : Stmt := top 23
abbrev sAlike : Stmt := top 24
abbrev sFilm : Stmt := top 25
abbrev sParts : Stmt := top 26
abbrev sMended : Stmt := top 27
abbrev sLaw : Stmt := top 28
abbrev FnP (K : PySem.W.Frag) (x : Str) (st : Stmt) (f : Addr) (fd : FuncData) : Prop := FunD K x x (defArgs st) (defBody st) (defScope st) [] [] f fd

/-- what the top leaves of names that are no defs -/
structure Tx (mg : Str → Option Value) : Prop where
  len : mg "len" = none
  range : mg "range" = none
  enumerate : mg "enumerate" = none
  isinstance : mg "isinstance" = none
  str : mg "str" = none
  tuple : mg "tuple" = none
  list : mg "list" = none
  dict : mg "dict" = none
  set : mg "set" = none
  sorted : mg "sorted" = none
  min : mg "min" = none
  int : mg "int" = none
  LETTERS : ∃ t, mg "LETTERS" = some (.str "abcdefgh" t)
  MOST : ∃ t, mg "MOST_FILM" = some (.int 200 t)
  FAR : ∃ t, mg "FAR" = some (.int 1000000 t)

/-- a def that keeps its promise, as callers ask for it -/
structure OkD (P : Program) (w : World) (K : PySem.W.Frag) (mg : Str → Option Value) (base : Heap) (k : Nat) (x : Str) (ps : List Str) (sp : Sp) : Prop where
  ex : ∃ f fd, FnOk P w K mg base CX0 k f fd ps sp ∧ mg x = some (.ref f) ∧ PySem.W.keepIn K (.ref f) = true ∧ Binds K fd ps []
theorem OkD.mk' {P : Program} {w : World} {K : PySem.W.Frag} {mg : Str → Option Value} {base : Heap} {k : Nat} {x : Str} {ps : List Str} {sp : Sp} {f : Addr} {fd : FuncData}
    (F : FnOk P w K mg base CX0 k f fd ps sp) (g : mg x = some (.ref f)) (kp : PySem.W.keepIn K (.ref f) = true) (b : Binds K fd ps []) : OkD P w K mg base k x ps sp := ⟨f, fd, F, g, kp, b⟩
/-- a call of such a def -/
theorem pe_callO {X : Cx} {k : Nat} {x : Str} {ps : List Str} {sp : Sp} {p pos : Pos} {e : Expr} {es : List Expr} {t : TA} (O : OkD X.prog X.w X.K X.mg X.base k x ps sp) (hr : Room k X.A) (hg : Gl X x)
    (ha : PA X (e :: es) t) (hd : (x == ("__debug__" : Str)) = false := by decide)
    (hs : starEach (e :: es) X.env = (false, eval e X.env) :: starEach es X.env := by rfl) (hplain : (backTo pos (starEach es X.env)).any (·.1) = false := by rfl) : PE X (.Call (.Name x p) (e :: es) [] pos) (tCall sp [] E0 t) := by
  obtain ⟨f, fd, F, g, kp, b⟩ := O.ex
  exact pe_call F hr hg g kp b .nil pass0 ha hd hs hplain
end J
end

section
/-! Dicts whose keys are pairs (whole number, truth value), whose values are whole numbers. -/
namespace J
open PySem PySem.Spec PyProof.Rows L2
abbrev BK := Int × Bool
def bnum (c : Bool) : Int := if c = true then 1 else 0
def kB (p : BK) : List Leaf := [.num p.1, .num (bnum p.2)]
theorem bnum_inj {a b : Bool} (e : bnum a = bnum b) : a = b := by cases a <;> cases b <;> first | rfl | exact absurd e (by decide)
theorem kB_inj {a b : BK} (e : kB a = kB b) : a = b := by
  unfold kB at e
  injection e with e1 e2
  injection e2 with e2 _
  injection e1 with e1
  injection e2 with e2
  exact Prod.ext e1 (bnum_inj e2)
/-- the kind of key -/
abbrev TB (P : Program) (w : World) := tupleKind (leafKind P w)
/-- an entry: its key, where the key's tuple stands, its value -/
abbrev BE := BK × Addr × Int
def EB : List BE → List (List Leaf × Addr × Value) → Prop := Paired fun e x => x.1 = kB e.1 ∧ x.2.1 = e.2.1 ∧ ∃ t, x.2.2 = Value.int e.2.2 t
def DBo (P : Program) (w : World) (a : Addr) (ks : List BE) : HO := .ext fun h => (a == sysModules) = false ∧ ks.length ≤ sizeLine ∧ ∃ xs, EB ks xs ∧
  ∃ o es ep, h.get? a = some o ∧ o.ExactDict ∧ o.data = .dict es ep ∧ es.toList = xs.map (entryOfKey (TB P w)) ∧ (xs.map (·.1)).Nodup
/-- the keys' tuples stand -/
def DBt (H : Hp) (ks : List BE) : Prop := ∀ e ∈ ks, H e.2.1 = some (.tup [.int e.1.1, .bl e.1.2])
abbrev BD := List (BK × Int)
def pairB (ks : List BE) : BD := ks.map fun e => (e.1, e.2.2)
/-- at a stands such a dict -/
def DB (P : Program) (w : World) (H : Hp) (a : Addr) (kvs : BD) : Prop := ∃ ks, H a = some (DBo P w a ks) ∧ DBt H ks ∧ pairB ks = kvs
/-- the value at a key -/
def look (kvs : BD) (k : BK) : Option Int := (kvs.find? fun kv => decide (kv.1 = k)).map (·.2)
def put (kvs : BD) (k : BK) (n : Int) : BD :=
  if (look kvs k).isSome = true then kvs.map (fun kv => if kv.1 = k then (kv.1, n) else kv) else kvs ++ [(k, n)]
theorem put_len (kvs : BD) (k : BK) (n : Int) : (put kvs k n).length ≤ kvs.length + 1 := by
  unfold put
  split
  · rw [List.length_map]; omega
  · rw [List.length_append]; exact Nat.le_refl _
section
variable {P : Program} {w : World} {H H' : Hp} {h h' : Heap} {a : Addr}
theorem EB.length {ks : List BE} {xs : List (List Leaf × Addr × Value)} (r : EB ks xs) : ks.length = xs.length := Paired.length r
theorem EB.look {ks : List BE} {xs : List (List Leaf × Addr × Value)} (r : EB ks xs) (k : BK) :
    match look (pairB ks) k with
    | none => atKey xs (kB k) = none
    | some n => ∃ p t, atKey xs (kB k) = some p ∧ p.2 = Value.int n t := by
  unfold EB at r
  induction r with
  | nil => rfl
  | @cons e x ks xs q t ih =>
    obtain ⟨q1, q2, tk, q3⟩ := q
    by_cases z : e.1 = k
    · have e1 : J.look (pairB (e :: ks)) k = some e.2.2 := by simp [J.look, pairB, z]
      rw [e1]
      refine ⟨x.2, tk, ?_, q3⟩
      have z2 : x.1 = kB k := by rw [q1, z]
      simp [atKey, z2]
    · have e1 : J.look (pairB (e :: ks)) k = J.look (pairB ks) k := by simp [J.look, pairB, z]
      have z2 : ¬ x.1 = kB k := fun y => z (kB_inj (q1.symm.trans y))
      have e2 : atKey (x :: xs) (kB k) = atKey xs (kB k) := by simp [atKey, List.find?_cons, z2]
      rw [e1, e2]
      exact ih
theorem EB.isSome {ks : List BE} {xs : List (List Leaf × Addr × Value)} (r : EB ks xs) (k : BK) : (atKey xs (kB k)).isSome = (J.look (pairB ks) k).isSome := by
  have q := r.look k
  cases e : J.look (pairB ks) k with
  | none => rw [e] at q; rw [show atKey xs (kB k) = none from q]; rfl
  | some n => rw [e] at q; obtain ⟨p, t, q, _⟩ := q; rw [q]; rfl
/-- the entries behind a store -/
def putE (ks : List BE) (k : BK) (b : Addr) (n : Int) : List BE :=
  if (J.look (pairB ks) k).isSome = true then ks.map (fun e => if e.1 = k then (e.1, e.2.1, n) else e) else ks ++ [(k, b, n)]
theorem putE_pair (ks : List BE) (k : BK) (b : Addr) (n : Int) : pairB (putE ks k b n) = put (pairB ks) k n := by
  unfold putE put
  by_cases z : (J.look (pairB ks) k).isSome = true
  · rw [if_pos z, if_pos z]
    unfold pairB
    rw [List.map_map, List.map_map]
    refine List.map_congr_left fun e _ => ?_
    by_cases y : e.1 = k <;> simp [y]
  · rw [if_neg z, if_neg z]
    unfold pairB
    rw [List.map_append] <;> rfl
theorem EB.put {ks : List BE} {xs : List (List Leaf × Addr × Value)} (r : EB ks xs) (k : BK) (b : Addr) (n : Int) (t : Tok) : EB (putE ks k b n) (storedH xs (kB k) b (.int n t)) := by
  have es := r.isSome k
  unfold putE storedH
  rw [es]
  by_cases z : (J.look (pairB ks) k).isSome = true
  · rw [if_pos z, if_pos z]
    clear z es
    unfold EB at r ⊢
    induction r with
    | nil => exact .nil
    | @cons e x ks xs q tl ih =>
      rw [List.map_cons, List.map_cons]
      refine .cons ?_ ih
      obtain ⟨q1, q2, tk, q3⟩ := q
      unfold putAt
      by_cases y : e.1 = k
      · rw [if_pos y, if_pos (by rw [q1, y])]
        exact ⟨q1, q2, t, rfl⟩
      · rw [if_neg y, if_neg (fun y2 => y (kB_inj (q1.symm.trans y2)))]
        exact ⟨q1, q2, tk, q3⟩
  · rw [if_neg z, if_neg z]
    exact Paired.snoc r ⟨rfl, rfl, t, rfl⟩
theorem putE_tups {ks : List BE} {k : BK} {b : Addr} {n : Int} (t : DBt H ks) (hb : H b = some (.tup [.int k.1, .bl k.2])) : DBt H (putE ks k b n) := by
  intro e he
  unfold putE at he
  split at he
  · obtain ⟨e', h1, h2⟩ := List.mem_map.mp he
    split at h2
    · subst h2
      exact t e' h1
    · subst h2
      exact t e' h1
  · rcases List.mem_append.mp he with q | q
    · exact t e q
    · rw [List.mem_singleton.mp q]
      exact hb
theorem putE_len (ks : List BE) (k : BK) (b : Addr) (n : Int) : (putE ks k b n).length ≤ ks.length + 1 := by
  have q := putE_pair ks k b n
  have e1 := congrArg List.length q
  have e2 := put_len (pairB ks) k n
  simp only [pairB, List.length_map] at e1 e2
  rw [e1]
  exact e2
/-- a tuple of a whole number and a truth value is a key -/
theorem keyB_of {i : Int} {c : Bool} {b : Addr} (ok : HOk P w H h) (e : H b = some (.tup [.int i, .bl c])) : (TB P w).is h (kB (i, c)) b := by
  obtain ⟨_, its, r, o, h1, h2, n, h3⟩ := (show ObjOk P w H h b (.tup [.int i, .bl c]) from ok b _ e)
  refine ⟨o, its.toArray, n, h1, h2, h3, ?_⟩
  cases r with
  | cons r1 r2 =>
    cases r2 with
    | cons r2 r3 =>
      cases r3
      obtain ⟨t, rfl⟩ := (show ∃ t, _ = Value.int i t from r1)
      obtain rfl := (show _ = Value.bool c from r2)
      refine .cons ?_ (.cons ?_ .nil)
      · show decide (i = i) = true
        exact decide_eq_true rfl
      · show decide ((if c = true then 1 else 0) = bnum c) = true
        exact decide_eq_true rfl
theorem DBo_new {ks : List BE} {xs : List (List Leaf × Addr × Value)} (hs : (a == sysModules) = false) (hl : ks.length ≤ sizeLine) (r : EB ks xs) (d : h.DictOfH (TB P w) a xs) : ObjOk P w H h a (DBo P w a ks) := by
  obtain ⟨o, es, ep, h1, h2, h3, h4, _, h5⟩ := d
  refine ⟨⟨hs, hl, xs, r, o, es, ep, h1, h2, h3, h4, h5⟩, ⟨o, h1⟩, fun g1 g2 q k => ?_⟩
  obtain ⟨z0, z1, xs', z2, o', es', ep', z3, z4⟩ := q
  exact ⟨z0, z1, xs', z2, o', es', ep', k _ z3, z4⟩
/-- what stands, as the library tells it -/
theorem DBo_at {ks : List BE} (ok : HOk P w H h) (e : Rd H a (DBo P w a ks)) (t : DBt H ks) : (a == sysModules) = false ∧ ks.length ≤ sizeLine ∧ ∃ xs, EB ks xs ∧ h.DictOfH (TB P w) a xs := by
  obtain ⟨⟨hs, hl, xs, r, o, es, ep, h1, h2, h3, h4, h5⟩, _⟩ := (show ObjOk P w H h a (DBo P w a ks) from e.ok ok)
  refine ⟨hs, hl, xs, r, o, es, ep, h1, h2, h3, h4, fun x hx => ?_, h5⟩
  have all : ∀ {l : List BE} {m : List (List Leaf × Addr × Value)}, EB l m → (∀ e ∈ l, H e.2.1 = some (.tup [.int e.1.1, .bl e.1.2])) → ∀ x ∈ m, (TB P w).is h x.1 x.2.1 := by
    intro l m q
    unfold EB at q
    induction q with
    | nil => intro _ x hx; exact nomatch hx
    | @cons e x l m q tl ih =>
      intro z y hy
      rcases List.mem_cons.mp hy with y1 | y1
      · subst y1
        rw [q.1, q.2.1]
        exact keyB_of ok (z e List.mem_cons_self)
      · exact ih (fun e' he' => z e' (List.mem_cons_of_mem _ he')) y y1
  exact all r t x hx
theorem DB.keep {kvs : BD} (d : DB P w H a kvs) (ha : H' a = H a) (ht : ∀ b xs, H b = some (.tup xs) → H' b = some (.tup xs)) : DB P w H' a kvs := by
  obtain ⟨ks, h1, h2, h3⟩ := d
  exact ⟨ks, by rw [ha]; exact h1, fun e he => ht _ _ (h2 e he), h3⟩
theorem DB.same {kvs : BD} (d : DB P w H a kvs) (s : Same H H') : DB P w H' a kvs := by
  obtain ⟨ks, h1, h2, h3⟩ := d
  exact ⟨ks, s _ _ h1, fun e he => s _ _ (h2 e he), h3⟩
theorem DB.some' {kvs : BD} (d : DB P w H a kvs) : ∃ o, H a = some o := let ⟨_, h, _⟩ := d; ⟨_, h⟩
end
/-! ### reading and storing -/
/-- all but a as it was -/
def But (a : Addr) (H H' : Hp) : Prop := ∀ b, b ≠ a → H' b = H b
section
variable {X : Cx} {pins : List (Addr × Obj)} {σ : L2.St} {H : Hp} {s : Shared} {a b : Addr} {kvs : BD} {i : Int} {c : Bool} {A : Around} {E : Value → Shared → Prop}
theorem b_get {Q : Value → Shared → Prop} (hu : A.units + 1 < cLine) (I : Inv X pins σ H s) (d : DB X.prog X.w H a kvs) (hb : H b = some (.tup [.int i, .bl c]))
    (hq : ∀ u s', Inv X pins σ H s' → (∀ n, look kvs (i, c) = some n → RelV (.int n) u) → (look kvs (i, c) = none → u = Value.none) → Q u s') :
    wpAny (model X.prog X.w) A (call (.builtin "dict.get") [.ref a, .ref b]) Q E s := by
  obtain ⟨ks, h1, h2, h3⟩ := d
  obtain ⟨hs, hl, xs, r, dd⟩ := DBo_at I.hok (.inl h1) h2
  have lk := r.look (i, c)
  rw [h3] at lk
  refine call_meetsIn PySem.F.slot_dict_get dd.typeIs PySem.F.entry_dict_get (PySem.F.args_dict_get_2 _ _) (meetsH_dict_get (TB X.prog X.w) a b hs) ⟨tupleKind_room_in1 hu, kB (i, c), xs, keyB_of I.hok hb, dd, ?_⟩
  refine hq _ _ (I.tok _) (fun n e => ?_) fun e => ?_
  · rw [e] at lk
    obtain ⟨p, t, l1, l2⟩ := lk
    rw [l1]
    exact ⟨t, l2⟩
  · rw [e] at lk
    rw [show atKey xs (kB (i, c)) = none from lk] <;> rfl
theorem b_get2 {Q : Value → Shared → Prop} {dv : Value} (hu : A.units + 1 < cLine) (I : Inv X pins σ H s) (d : DB X.prog X.w H a kvs) (hb : H b = some (.tup [.int i, .bl c]))
    (hq : ∀ u s', Inv X pins σ H s' → (∀ n, look kvs (i, c) = some n → RelV (.int n) u) → (look kvs (i, c) = none → u = dv) → Q u s') :
    wpAny (model X.prog X.w) A (call (.builtin "dict.get") [.ref a, .ref b, dv]) Q E s := by
  obtain ⟨ks, h1, h2, h3⟩ := d
  obtain ⟨hs, hl, xs, r, dd⟩ := DBo_at I.hok (.inl h1) h2
  have lk := r.look (i, c)
  rw [h3] at lk
  refine call_meetsIn PySem.F.slot_dict_get dd.typeIs PySem.F.entry_dict_get (PySem.F.args_dict_get_3 _ _ _) (meetsH_dict_get_default (TB X.prog X.w) a b hs dv) ⟨tupleKind_room_in1 hu, kB (i, c), xs, keyB_of I.hok hb, dd, ?_⟩
  refine hq _ _ (I.tok _) (fun n e => ?_) fun e => ?_
  · rw [e] at lk
    obtain ⟨p, t, l1, l2⟩ := lk
    rw [l1]
    exact ⟨t, l2⟩
  · rw [e] at lk
    rw [show atKey xs (kB (i, c)) = none from lk] <;> rfl
theorem b_set {n : Int} {t : Tok} {Q : Unit → Shared → Prop} (hu : A.units + 1 < cLine) (I : Inv X pins σ H s) (d : DB X.prog X.w H a kvs) (hb : H b = some (.tup [.int i, .bl c])) (hl : kvs.length < sizeLine)
    (hq : ∀ s' H', Inv X pins σ H' s' → But a H H' → DB X.prog X.w H' a (put kvs (i, c) n) → Q () s') :
    wpAny (model X.prog X.w) A (setItem (.ref a) (.ref b) (.int n t)) Q E s := by
  obtain ⟨ks, h1, h2, h3⟩ := d
  obtain ⟨hs, hl0, xs, r, dd⟩ := DBo_at I.hok (.inl h1) h2
  have hkl : ks.length < sizeLine := by
    have e := congrArg List.length h3
    simp only [pairB, List.length_map] at e
    rw [e]
    exact hl
  refine wpAny_setItem_heap (hsz := by rw [← r.length]; exact hl0) (tupleKind_room_in1 hu) (keyB_of I.hok hb) dd fun h' dd' hsb => ?_
  have ht : DBt (upd H a (DBo X.prog X.w a (putE ks (i, c) b n))) (putE ks (i, c) b n) := fun e he => by
    have q := putE_tups (k := (i, c)) (n := n) h2 hb e he
    rw [upd_ne (ne_of q h1 fun z => nomatch z)]
    exact q
  refine hq _ _ (d_write I (by rw [h1]; exact True.intro) hsb (let ⟨q, _, _, hqq, _⟩ := dd'; ⟨q, hqq⟩) (DBo_new hs ?_ (r.put (i, c) b n t) dd')) (fun q hq => upd_ne hq) ⟨_, upd_same, ht, ?_⟩
  · have q := putE_len ks (i, c) b n
    omega
  · rw [putE_pair, h3]
end
end J
end

section
/-! Dicts keyed by pairs: the rules. -/
namespace J
open PySem PySem.Spec PyProof.Rows L2
/-- None or the number -/
def oV (d : V) : Option Int → V
  | none => d
  | some n => .int n
theorem db_type {X : Cx} {pins : List (Addr × Obj)} {σ : L2.St} {H : Hp} {s : Shared} {a : Addr} {kvs : BD} (I : Inv X pins σ H s) (d : DB X.prog X.w H a kvs) :
    s.TypeIs (.ref a) "dict" ∧ (∀ b, Value.ref a = .ref b → ∃ ob, s.heap.get? b = some ob ∧ ob.dict = none) := by
  obtain ⟨ks, h1, h2, h3⟩ := d
  obtain ⟨hs, hl, xs, r, dd⟩ := DBo_at I.hok (.inl h1) h2
  refine ⟨dd.typeIs, fun b q => ?_⟩
  cases q
  obtain ⟨o, _, _, h1, h2, _⟩ := dd
  exact ⟨o, h1, h2.2.1⟩
def tBGet1 (P : Program) (w : World) (td ty : TE) : TE := fun σ H Q => td σ H fun x H1 => ∃ a, x = .ref a ∧ (∃ kvs, DB P w H1 a kvs) ∧ ty σ H1 fun y H2 => ∃ b i c kvs, y = .ref b ∧ H2 b = some (.tup [.int i, .bl c]) ∧ DB P w H2 a kvs ∧ Q (oV .non (look kvs (i, c))) H2
def tBGet2 (P : Program) (w : World) (td ty tx : TE) : TE := fun σ H Q => td σ H fun x H1 => ∃ a, x = .ref a ∧ (∃ kvs, DB P w H1 a kvs) ∧ ty σ H1 fun y H2 => tx σ H2 fun z H3 => ∃ b i c kvs, y = .ref b ∧ H3 b = some (.tup [.int i, .bl c]) ∧ DB P w H3 a kvs ∧ Q (oV z (look kvs (i, c))) H3
/-- d[k] = v -/
def sBPut (P : Program) (w : World) (td ty tv : TE) : TS := fun D σ H => tv σ H fun v H1 => td σ H1 fun x H2 => ty σ H2 fun y H3 => ∃ a b i c kvs n, v = .int n ∧ x = .ref a ∧ y = .ref b ∧ H3 b = some (.tup [.int i, .bl c]) ∧ DB P w H3 a kvs ∧ kvs.length < sizeLine ∧
  ∀ H4, But a H3 H4 → DB P w H4 a (put kvs (i, c) n) → D.nx σ H4
section
variable {X : Cx} {o e f value : Expr} {apos cpos pos pos' : Pos} {td ty tx tv : TE}
theorem pe_bget1 (hu : X.A.units + 1 < cLine) (ho : PE X o td) (he : PE X e ty) (m : M1 X o "get" apos e cpos := by exact ⟨rfl, rfl, rfl, rfl⟩) : PE X (.Call (.Attribute o "get" apos) [e] [] cpos) (tBGet1 X.prog X.w td ty) := by
  refine ⟨fun pins s σ H Q I h => ?_⟩
  refine wpAny_Call_method m.base m.few m.line PySem.F.plainAttrs_dict PySem.F.slot_dict_get PySem.F.type_dict_get (thn (ho.run pins s σ H _ I h) fun u0 s1 ⟨x, H1, I1, rx, a, ex, ⟨kv0, d0⟩, q1⟩ => ?_)
  subst ex
  obtain rfl : u0 = Value.ref a := rx
  obtain ⟨t1, t2⟩ := db_type I1 d0
  refine ⟨t1, t2, ?_⟩
  rw [m.trees]
  refine Calls.callWith_builtin rfl (Calls.evalArgs_plain (Calls.spliced_cons (thn (he.run pins s1 σ H1 _ I1 q1) fun iv s2 ⟨y, H2, I2, ry, b, i, c, kvs, ey, hb, d, q2⟩ => Calls.spliced_nil ?_)))
  subst ey
  obtain rfl : iv = Value.ref b := ry
  refine b_get hu I2 d hb fun w' s3 I3 r1 r2 => ⟨_, H2, I3, ?_, q2⟩
  cases z : look kvs (i, c) with
  | none => exact r2 z
  | some n => exact r1 n z
theorem pe_bget2 (hu : X.A.units + 1 < cLine) (ho : PE X o td) (he : PE X e ty) (hf : PE X f tx) (m : M2 X o "get" apos e f cpos := by exact ⟨rfl, rfl, rfl, rfl⟩) : PE X (.Call (.Attribute o "get" apos) [e, f] [] cpos) (tBGet2 X.prog X.w td ty tx) := by
  refine ⟨fun pins s σ H Q I h => ?_⟩
  refine wpAny_Call_method m.base m.few m.line PySem.F.plainAttrs_dict PySem.F.slot_dict_get PySem.F.type_dict_get (thn (ho.run pins s σ H _ I h) fun u0 s1 ⟨x, H1, I1, rx, a, ex, ⟨kv0, d0⟩, q1⟩ => ?_)
  subst ex
  obtain rfl : u0 = Value.ref a := rx
  obtain ⟨t1, t2⟩ := db_type I1 d0
  refine ⟨t1, t2, ?_⟩
  rw [m.trees]
  refine Calls.callWith_builtin rfl (Calls.evalArgs_plain (Calls.spliced_cons (thn (he.run pins s1 σ H1 _ I1 q1) fun iv s2 ⟨y, H2, I2, ry, q2⟩ =>
    Calls.spliced_cons (thn (hf.run pins s2 σ H2 _ I2 q2) fun fv s3 ⟨z, H3, I3, rz, b, i, c, kvs, ey, hb, d, q3⟩ => Calls.spliced_nil ?_))))
  subst ey
  obtain rfl : iv = Value.ref b := ry
  refine b_get2 hu I3 d hb fun w' s4 I4 r1 r2 => ⟨_, H3, I4, ?_, q3⟩
  cases y : look kvs (i, c) with
  | none => rw [r2 y]; exact rz
  | some n => exact r1 n y
theorem ps_bput (hu : X.A.units + 1 < cLine) (hv : PE X value tv) (ho : PE X o td) (hi : PE X e ty) (hs : swapsWith value (some (.Subscript o e pos')) pos.line X.env = pure false := by rfl) :
    PS X (.Assign [.Subscript o e pos'] value pos) (sBPut X.prog X.w td ty tv) := by
  refine ⟨fun pins s σ H D I h => ?_⟩
  refine wpAny_Assign_Subscript (thn (hv.run pins s σ H _ I h) fun r s1 ⟨v, H1, I1, rv, q1⟩ => thn (ho.run pins s1 σ H1 _ I1 q1) fun u0 s2 ⟨x, H2, I2, rx, q2⟩ => thn (hi.run pins s2 σ H2 _ I2 q2) fun iv s3 ⟨y, H3, I3, ry, a, b, i, c, kvs, n, ev, ex, ey, hb, d, hl, q3⟩ => ?_) hs
  subst ev ex ey
  obtain rfl : u0 = Value.ref a := rx
  obtain rfl : iv = Value.ref b := ry
  obtain ⟨t, rfl⟩ := (show ∃ t, r = Value.int n t from rv)
  exact b_set hu I3 d hb hl fun s4 H4 I4 bt d4 => ⟨σ, H4, I4, q3 H4 bt d4⟩
end
/-! ### dict(d) -/
/-- the hash of a key, whatever the world -/
def hashB (p : BK) : Int := reduceHash (Builtin.Tuple.tupleHashOf [hashInt p.1, hashInt (bnum p.2)])
theorem hashB_eq (P : Program) (w : World) (p : BK) : (TB P w).hash (kB p) = hashB p := rfl
def smallK : List BK := [(-1, true), (-1, false), (0, true), (0, false), (1, true), (1, false), (2, true), (2, false)]
theorem hashB_apart : ∀ p ∈ smallK, ∀ q ∈ smallK, hashB p = hashB q → p = q := by decide +kernel
theorem nodup_map {α β : Type} {f : α → β} : ∀ {l : List α}, l.Nodup → (∀ x ∈ l, ∀ y ∈ l, f x = f y → x = y) → (l.map f).Nodup
  | [], _, _ => List.nodup_nil
  | a :: l, h, g => by
    obtain ⟨h1, h2⟩ := List.nodup_cons.mp h
    rw [List.map_cons]
    refine List.nodup_cons.mpr ⟨fun z => ?_, nodup_map h2 fun x hx y hy => g x (List.mem_cons_of_mem _ hx) y (List.mem_cons_of_mem _ hy)⟩
    obtain ⟨b, hb, e⟩ := List.mem_map.mp z
    exact h1 ((g b (List.mem_cons_of_mem _ hb) a List.mem_cons_self e) ▸ hb)
theorem EB.keys {ks : List BE} {xs : List (List Leaf × Addr × Value)} (r : EB ks xs) : xs.map (·.1) = ks.map fun e => kB e.1 := by
  unfold EB at r
  induction r with
  | nil => rfl
  | cons q _ ih => rw [List.map_cons, List.map_cons, ih, q.1]
section
variable {prog : Program} {w : World} {A : Around} {E : Value → Shared → Prop} {s : Shared} {K : Type} [DecidableEq K] {knd : HeapKind prog w K}
theorem call_dictH {o : Addr} {more : List (K × Addr × Value)} {Q : Value → Shared → Prop} (hu : knd.room A.in1.in1) (hoS : (o == sysModules) = false) (ho : s.heap.DictOfH knd o more) (hst : ∀ h', (∀ b ob, s.heap.get? b = some ob → h'.get? b = some ob) → ∀ x ∈ more, knd.is h' x.1 x.2.1)
    (hap : (∀ x ∈ more, s.TypeIs (.ref x.2.1) "tuple") ∧ (more.map fun x => knd.hash x.1).Nodup) (hsz : more.length ≤ sizeLine)
    (h : ∀ h', h'.DictOfH knd s.heap.objs.size more → Heap.SameBut s.heap.objs.size (s.heap.push { cls := .type "dict", data := .dict #[] }) h' → Q (.ref s.heap.objs.size) { s with heap := h' }) :
    wpAny (model prog w) A (call (.type "dict") [.ref o]) Q E s := by
  refine callType_codes (Q₁ := fun ob s1 => ob = .ref s.heap.objs.size ∧ s1 = { s with heap := s.heap.push { cls := .type "dict", data := .dict #[] } }) F.kt_called_dict (F.kt_typeCall_dict_1 _) F.entry_dict_init (kt_code_dict_new _ ⟨rfl, rfl⟩) ?_
  rintro ob s1 ⟨rfl, rfl⟩
  have k1 : ∀ b x, s.heap.get? b = some x → (s.heap.push { cls := .type "dict", data := .dict #[] }).get? b = some x := fun b x e => Heap.get?_push_of_some _ e
  have hnew : (s.heap.push { cls := .type "dict", data := .dict #[] }).DictOfH knd s.heap.objs.size [] := Heap.DictOfH.new s.heap
  have ho1 : (s.heap.push { cls := .type "dict", data := .dict #[] }).DictOfH knd o more := by
    obtain ⟨x, es, ep, z1, z2, z3, z4, _, z5⟩ := ho
    exact ⟨x, es, ep, k1 _ _ z1, z2, z3, z4, hst _ k1, z5⟩
  have hne : s.heap.objs.size ≠ o := by
    obtain ⟨_, _, _, hg, _⟩ := ho
    exact fun e => absurd (Heap.lt_size hg) (by rw [e]; exact Nat.lt_irrefl _)
  refine ⟨hnew.typeIs, F.args_dict_init_2 _ _, ?_⟩
  unfold Builtin.«dict.__init__»
  refine wpAny_bind ?_
  unfold Builtin.Dict.selfAndRest
  refine wpAny_bind (wpAny_notOrdered_dict hnew.typeIs ?_)
  refine wpAny_pure ?_
  have ty1 : ∀ x ∈ more, Shared.TypeIs { s with heap := s.heap.push { cls := .type "dict", data := .dict #[] } } (.ref x.2.1) "tuple" := fun x hx => by
    obtain ⟨y, y1, y2⟩ := hap.1 x hx
    exact ⟨y, k1 _ _ y1, y2⟩
  refine updateFrom_dictH (A := A.in1) (s := { s with heap := s.heap.push { cls := .type "dict", data := .dict #[] } }) .none hu hne hoS hnew ho1 (.inr ⟨ty1, hap.2⟩) (by simpa using hsz) fun h' hd' _ hsb => ?_
  rw [storedAllH_nil_of_nodup more (Heap.DictOfH.nodup ho)] at hd'
  exact ⟨rfl, h h' hd' hsb⟩
end
/-- dict(d): the keys are few and small -/
def rDictB (P : Program) (w : World) : List V → Hp → VK → Prop := fun xs H Q => ∃ a kvs, xs = [V.ref a] ∧ DB P w H a kvs ∧ (∀ kv ∈ kvs, kv.1 ∈ smallK) ∧ ∀ p H', H p = none → But p H H' → DB P w H' p kvs → Q (.ref p) H'
theorem cr_dictB {X : Cx} (hu : X.A.units + 64 < cLine) : CallR X (.type "dict") (rDictB X.prog X.w) := by
  intro pins s σ H xs us Q I r h
  obtain ⟨a, kvs, rfl, d, hk, q⟩ := h
  rw [Vals.ref1 r]
  obtain ⟨ks, h1, h2, h3⟩ := d
  obtain ⟨hs, hl, xs, rel, dd⟩ := DBo_at I.hok (.inl h1) h2
  have his : ∀ x ∈ xs, (TB X.prog X.w).is s.heap x.1 x.2.1 := let ⟨_, _, _, _, _, _, _, z, _⟩ := dd; z
  have hst : ∀ h', (∀ b ob, s.heap.get? b = some ob → h'.get? b = some ob) → ∀ x ∈ xs, (TB X.prog X.w).is h' x.1 x.2.1 := fun h' k x hx => (tupleKind_stays (knd := leafKind X.prog X.w)).stays (fun b o _ _ e _ => k b o e) (his x hx)
  have hnd : (xs.map fun x => (TB X.prog X.w).hash x.1).Nodup := by
    have n1 : (ks.map fun e => kB e.1).Nodup := by
      rw [← rel.keys]
      exact Heap.DictOfH.nodup dd
    have e1 : (xs.map fun x => (TB X.prog X.w).hash x.1) = (xs.map (·.1)).map (TB X.prog X.w).hash := by rw [List.map_map] <;> rfl
    rw [e1, rel.keys]
    refine nodup_map n1 fun x hx y hy e => ?_
    obtain ⟨e1, m1, rfl⟩ := List.mem_map.mp hx
    obtain ⟨e2, m2, rfl⟩ := List.mem_map.mp hy
    have sm : ∀ e ∈ ks, e.1 ∈ smallK := fun e he => hk (e.1, e.2.2) (by rw [← h3]; exact List.mem_map.mpr ⟨e, he, rfl⟩)
    rw [hashB_apart _ (sm e1 m1) _ (sm e2 m2) e]
  refine call_dictH (knd := TB X.prog X.w) (show X.A.units + 1 + 1 < cLine by omega) hs dd hst ⟨fun x hx => (tupleKind_stays (knd := leafKind X.prog X.w)).tuple (his x hx), hnd⟩ (by rw [← rel.length]; exact hl) fun h' hd' hsb => ?_
  have hn := I.hok.fresh (Nat.le_refl s.heap.objs.size)
  have hp : (s.heap.objs.size == sysModules) = false := beq_eq_false_iff_ne.mpr (Ne.symm (Nat.ne_of_lt I.big))
  refine ⟨.ref s.heap.objs.size, upd H s.heap.objs.size (DBo X.prog X.w s.heap.objs.size ks), I.laid (t' := s.toks) (fun b q hq => ?_) (Nat.le_refl _) (DBo_new hp hl rel hd'), rfl, q _ _ hn (fun b hb => upd_ne hb) ⟨ks, upd_same, fun e he => ?_, h3⟩⟩
  · exact (hsb.2 b (Nat.ne_of_lt (Heap.lt_size hq))).trans (Heap.get?_push_of_some _ hq)
  · rw [upd_ne (ne_of_none (h2 e he) hn)]
    exact h2 e he
end J
end

section
/-! Dicts keyed by pairs: displays, the walk of the items. -/
namespace J
open PySem PySem.Spec PyProof.Rows L2
def tBNew (P : Program) (w : World) : TE := fun _ H Q => ∀ p H', H p = none → But p H H' → DB P w H' p [] → Q (.ref p) H'
/-- {k: n} -/
def tBOne (P : Program) (w : World) (tk tv : TE) : TE := fun σ H Q => ∀ p H0, H p = none → But p H H0 → DB P w H0 p [] → tk σ H0 fun x H1 => tv σ H1 fun y H2 => ∃ b i c n, x = .ref b ∧ y = .int n ∧ H2 b = some (.tup [.int i, .bl c]) ∧
  H2 p = H0 p ∧ ∀ H3, But p H2 H3 → DB P w H3 p [((i, c), n)] → Q (.ref p) H3
theorem db_empty {P : Program} {w : World} {H : Hp} (h : Heap) (hb : sysModules < h.objs.size) : ObjOk P w H (h.push { cls := .type "dict", data := .dict #[] }) h.objs.size (DBo P w h.objs.size []) :=
  DBo_new (xs := []) (beq_eq_false_iff_ne.mpr (Ne.symm (Nat.ne_of_lt hb))) (Nat.zero_le _) .nil (Heap.DictOfH.new h)
section
variable {X : Cx} {pos : Pos} {k v : Expr} {tk tv : TE}
theorem pe_bnew : PE X (.Dict [] [] pos) (tBNew X.prog X.w) := ⟨fun pins s σ H Q I h =>
  wpAny_Dict_empty ⟨.ref s.heap.objs.size, upd H s.heap.objs.size (DBo X.prog X.w s.heap.objs.size []), I.laid (t' := s.toks) (fun _ _ q => Heap.get?_push_of_some _ q) (Nat.le_refl _) (db_empty s.heap I.big), rfl,
    h _ _ (I.hok.fresh (Nat.le_refl _)) (fun b hb => upd_ne hb) ⟨[], upd_same, (fun _ z => nomatch z), rfl⟩⟩⟩
theorem pe_bone (hu : X.A.units + 1 < cLine) (hk : PE X k tk) (hv : PE X v tv) : PE X (.Dict [some k] [v] pos) (tBOne X.prog X.w tk tv) := by
  refine ⟨fun pins s σ H Q I q => ?_⟩
  have hn := I.hok.fresh (Nat.le_refl s.heap.objs.size)
  have I1 := I.laid (a := s.heap.objs.size) (o := DBo X.prog X.w s.heap.objs.size []) (h' := s.heap.push { cls := .type "dict", data := .dict #[] }) (t' := s.toks) (fun _ _ z => Heap.get?_push_of_some _ z) (Nat.le_refl _) (db_empty s.heap I.big)
  have hall : ([some k] : List (Option Expr)).all (·.isSome) = true := rfl
  rw [arm_eval_Dict, zip_pairTrees [some k] [v] X.env pos hall rfl, dictDisplay_pairs (pairTrees [some k] [v] X.env pos) (fun z => by cases z) (by show 1 < 17; decide)]
  refine wpAny_bind (wpAny_standAt (wpAny_bind (wpAny_subDictH (knd := TB X.prog X.w) (show X.A.units < cLine by omega) (by show 1 ≤ 15; decide) ?_)))
  refine pairTrees_cons_walk (thn (hk.run pins _ σ _ _ I1 (q _ _ hn (fun b hb => upd_ne hb) ⟨[], upd_same, (fun _ z => nomatch z), rfl⟩)) fun u s2 ⟨x, H1, I2, rx, q1⟩ => thn (hv.run pins s2 σ H1 _ I2 q1) fun z s3 ⟨y, H2, I3, ry, b, i, c, n, ex, ey, hb, hp, q2⟩ => pairTrees_nil_walk ?_)
  subst ex ey
  obtain rfl : u = Value.ref b := rx
  obtain ⟨t, rfl⟩ := (show ∃ t, z = Value.int n t from ry)
  have h0 : H2 s.heap.objs.size = some (DBo X.prog X.w s.heap.objs.size []) := by rw [hp, upd_same]
  obtain ⟨hs, hl, xs, r, dd⟩ := DBo_at I3.hok (.inl h0) (fun _ z => nomatch z)
  cases r
  refine ⟨[(kB (i, c), b, .int n t)], ⟨rfl, rfl, keyB_of I3.hok hb, trivial⟩, dd, fun h' tk' dk hsb => wpAny_pure ?_⟩
  have ht : DBt (upd H2 s.heap.objs.size (DBo X.prog X.w s.heap.objs.size [((i, c), b, n)])) [((i, c), b, n)] := fun e he => by
    rw [List.mem_singleton.mp he, upd_ne (ne_of hb h0 fun z => nomatch z)]
    exact hb
  have one : EB [((i, c), b, n)] [(kB (i, c), b, .int n t)] := .cons ⟨rfl, rfl, t, rfl⟩ .nil
  have dk' : h'.DictOfH (TB X.prog X.w) s.heap.objs.size [(kB (i, c), b, .int n t)] := dk
  refine ⟨.ref s.heap.objs.size, _, d_write (t' := tk') I3 (by rw [h0]; exact True.intro) hsb (let ⟨o, _, _, e, _⟩ := dk'; ⟨o, e⟩) (DBo_new hs (by show 1 ≤ sizeLine; decide) one dk'), rfl, q2 _ (fun a ha => upd_ne ha) ⟨_, upd_same, ht, rfl⟩⟩
end

/-! ### the walk of d.items() -/
/-- the pairs of the locked dict, each a new tuple of the key's own tuple and the value -/
def ItB (P : Program) (w : World) (d : Addr) (o : Obj) (ks : List BE) : It :=
  ⟨fun i H => (H d = some (.frz o (DBo P w d ks)) ∧ DBt H ks) ∧ i < ks.length, fun i H x H' => ∃ T e, ks[i]? = some e ∧ x = .ref T ∧ H T = none ∧ H' = upd H T (.tup [.ref e.2.1, .int e.2.2]),
    fun i H => (H d = some (.frz o (DBo P w d ks)) ∧ DBt H ks) ∧ ks.length ≤ i⟩
theorem walk_itemsB {P : Program} {w : World} {d : Addr} {o : Obj} {ks : List BE} : Walk (ItB P w d o ks) ks.length (fun H => H d = some (.frz o (DBo P w d ks)) ∧ DBt H ks) (fun i H x H' => ∃ T e, ks[i]? = some e ∧ x = .ref T ∧ H T = none ∧ H' = upd H T (.tup [.ref e.2.1, .int e.2.2])) :=
  ⟨fun _ _ hi q => ⟨q, hi⟩, fun _ q => ⟨q, Nat.le_refl _⟩, fun _ _ _ _ _ _ y => y⟩
section
variable {X : Cx} {pins : List (Addr × Obj)} {σ : L2.St} {H : Hp} {s : Shared} {d : Addr} {o : Obj} {ks : List BE}
theorem frzB (I : Inv X pins σ H s) (h : H d = some (.frz o (DBo X.prog X.w d ks))) : (d == sysModules) = false ∧ s.heap.get? d = some o ∧ o.ExactDict ∧ ∃ (es : Array DictEntry) (ep : Nat), o.data = .dict es ep ∧ es.size = ks.length ∧
    ∀ (i : Nat) (e : BE), ks[i]? = some e → ∃ en t, es[i]? = some en ∧ en.key = .ref e.2.1 ∧ en.val = .int e.2.2 t := by
  obtain ⟨hd, ⟨hs, hl, xs, r, o', es, ep, h1, h2, h3, h4, h5⟩, _⟩ := (show ObjOk X.prog X.w H s.heap d (.frz o (DBo X.prog X.w d ks)) from I.hok d _ h)
  rw [hd] at h1
  cases h1
  refine ⟨hs, hd, h2, es, ep, h3, by rw [size_of_entries h4, r.length], fun i e he => ?_⟩
  obtain ⟨x, hx, e1, e2, t, e3⟩ := paired_get r he
  have q := entry_at h4 i
  rw [hx] at q
  exact ⟨_, t, q, by show Value.ref x.2.1 = _; rw [e2], e3⟩
end
section
variable {P : Program} {w : World} {K : PySem.W.Frag} {d : Addr} {o : Obj} {es : Array DictEntry} {ep : Nat}
theorem turn_itemsB {ks : List BE} {elts : List Expr} {kk : Nat} {tpos : Pos} (it : Addr) (hod : o.data = .dict es ep) :
    Turn P w K (.Tuple elts kk tpos) (ItB P w d o ks) [it] it (fun i h => ∃ ok ov, IsItemIter h it d i es.size ep ok ov) where
  mem := by simp
  obj := fun i h ⟨ok, ov, e⟩ b hb => by
    rw [show b = it by simpa using hb]
    exact ⟨_, e, fun v z => nomatch z⟩
  keep := fun i h h2 ⟨ok, ov, e⟩ k => ⟨ok, ov, k it (by simp) _ e⟩
  item := by
    intro X hP hw hK hc i pins s σ H E I hf ⟨ok, ov, st⟩ ⟨⟨hd, htp⟩, hi⟩
    subst hP hw hK
    obtain ⟨hs, hgd, hx, es', ep', hdt, hsz, ent⟩ := frzB I hd
    obtain ⟨rfl, rfl⟩ := dict_ep hod hdt
    obtain ⟨en, t, e1, e2, e3⟩ := ent i ks[i] (List.getElem?_eq_getElem hi)
    have his : i < es'.size := by omega
    have e4 : es'[i] = en := by
      rw [Array.getElem?_eq_getElem his] at e1
      exact Option.some.inj e1
    have hlt : it < s.heap.objs.size := Heap.lt_size st
    refine DT.nextI st ⟨o, hgd, hx, hdt⟩ his fun h1 b1 b2 b3 b4 => ?_
    rw [e4, e2, e3] at b1 b2
    refine ⟨_, rfl, wpAny_letOwnedTupleGo_items (s := { s with heap := h1 }) b1 fun h2 c1 c2 => ?_⟩
    have hT : h2.get? s.heap.objs.size = some { cls := .type "tuple", data := .seq #[.ref (ks[i]).2.1, .int (ks[i]).2.2 t] } := (c2.2 _ (Nat.ne_of_gt hlt)).trans b2
    have new : ObjOk X.prog X.w (upd H s.heap.objs.size (.tup [.ref (ks[i]).2.1, .int (ks[i]).2.2])) h2 s.heap.objs.size (.tup [.ref (ks[i]).2.1, .int (ks[i]).2.2]) :=
      ⟨by show 2 ≤ sizeLine; decide, _, .cons rfl (.cons ⟨t, rfl⟩ .nil), ⟨_, hT, rfl, _, rfl⟩⟩
    have I2 : Inv X pins σ (upd H s.heap.objs.size (.tup [.ref (ks[i]).2.1, .int (ks[i]).2.2])) { s with heap := h2 } :=
      I.turnedNew (t' := s.toks) (ch := [it]) (fun b ob hb z => (c2.2 b (by simpa using hb)).trans (b4 b ob (by simpa using hb) z)) hf (Nat.le_refl _) new
    refine ⟨.ref s.heap.objs.size, _, I2, rfl, ⟨_, ks[i], List.getElem?_eq_getElem hi, rfl, I.hok.fresh (Nat.le_refl _), rfl⟩, ⟨_, _, c1⟩, fun b hb => ?_⟩
    rw [show b = it by simpa using hb, upd_ne (Nat.ne_of_lt hlt)]
    exact (hf it (by simp)).1
  done := by
    intro X hP hw hK hc i pins s σ H E I hf ⟨ok, ov, st⟩ ⟨⟨hd, htp⟩, hi⟩
    subst hP hw hK
    obtain ⟨f0, f1, f2, f3, f4, f5⟩ := hf it (by simp)
    obtain ⟨hs, hgd, hx, es', ep', hdt, hsz, ent⟩ := frzB I hd
    obtain ⟨rfl, rfl⟩ := dict_ep hod hdt
    exact DT.endI (I.ok.hd hc) st ⟨o, hgd, hx, hdt⟩ (by omega) fun h1 eb => ⟨rfl, I.turned (t' := s.toks) (fun b ob hb e => eb b ob hb e) f0 f1 f3 f4 f5⟩
  self := fun A i s Q E ⟨_, _, e⟩ h => PySem.W.kcp_self e h
end
def iItemsB (P : Program) (w : World) (td : TE) : TI := fun σ H R => td σ H fun x H1 => ∃ d o ks, x = .ref d ∧ H1 d = some (.frz o (DBo P w d ks)) ∧ DBt H1 ks ∧ R (ItB P w d o ks) H1
theorem pi_itemsB {X : Cx} {e : Expr} {td : TE} {apos cpos : Pos} {elts : List Expr} {kk : Nat} {tpos : Pos} (he : PE X e td) (hbase : attributeBase e "items" X.env (eval e X.env) = eval e X.env := by rfl) (hline : (apos.endLine == cpos.line) = true := by rfl) :
    PI X (.Tuple elts kk tpos) (.Call (.Attribute e "items" apos) [] [] cpos) (iItemsB X.prog X.w td) := by
  refine ⟨fun pins s σ H R I h => ?_⟩
  refine wpAny_Call_method (T := "dict") (id := "dict.items") hbase rfl hline F.plainAttrs_dict F.slot_dict_items F.type_dict_items (thn (he.run pins s σ H _ I h) fun u s1 ⟨x, H1, I1, rx, d, o, ks, ex, hd, ht, q⟩ => ?_)
  subst ex
  cases rx
  obtain ⟨hs, hgd, hx, es, ep, hdt, hsz, ent⟩ := frzB I1 hd
  have raw : DT.Raw s1.heap d es ep := ⟨o, hgd, hx, hdt⟩
  refine ⟨raw.typeIs, fun b z => by cases z; exact ⟨o, hgd, hx.2.1⟩, ?_⟩
  have I2 : Inv X pins σ H1 { s1 with heap := s1.heap.push { cls := .type "dict_items", data := .fields #[.ref d] } } := I1.kept (t' := s1.toks) fun b ob z => Heap.get?_push_of_some _ z
  refine callWith_method0 (first := [.ref d]) (DT.callItems hs raw ?_)
  exact DT.iterI (d := d) ⟨_, Heap.get?_push_size _ rfl, rfl, rfl⟩ (raw.push _) (pi_one (tk := s1.toks) I2 _ (turn_itemsB _ hdt) ⟨.none, .none, Heap.get?_push_size _ rfl⟩ q)
end J
end

section
/-! The mirror: what the program and the law reckon, over lists of signs. -/
namespace J
abbrev Wd := List Nat
/-! ### begin, is_reached -/
def hasAt (f : Wd) (c p : Nat) : Bool := decide (f[p]? = some c)
def endsFrom (f : Wd) (c p : Nat) : List Nat := (List.range' p (f.length - p)).filter (hasAt f c)
def beginM (f : Wd) : Wd → List Nat → List (List Nat)
  | [], _ => []
  | c :: g, st => match st.filter (hasAt f c) with
    | [] => []
    | p :: _ => endsFrom f c p :: beginM f g ((endsFrom f c p).map (· + 1))
def reachM (f g : Wd) : Bool := decide ((beginM f g [0]).length = g.length) && decide (((beginM f g [0]).getLastD []).getLastD 0 + 1 = f.length)
/-! ### _law_partings -/
def partStep (f : Wd) (c : Nat) (x : List Nat × Nat) : List (List Nat × Nat) :=
  if hasAt f c x.2 = true then (endsFrom f c x.2).map (fun p => (x.1 ++ [p], p + 1)) else []
def partAll (f : Wd) : Wd → List (List Nat × Nat) → List (List Nat × Nat)
  | [], l => l
  | c :: g, l => partAll f g (l.flatMap (partStep f c))
def partsM (f g : Wd) : List (List Nat) := ((partAll f g [([], 0)]).filter (fun x => decide (x.2 = f.length))).map (·.1)
/-! ### _law_mended -/
structure Way where
  ins : Bool
  chg : Bool
  out : Bool
def ins (l : List Wd) (w : Wd) : List Wd := if w ∈ l then l else l ++ [w]
def mendC (y : Way) (w : Wd) (i c : Nat) : List Wd :=
  (if y.ins = true then [w.take i ++ [c] ++ w.drop i] else []) ++ (if (y.chg && decide (i < w.length)) = true then [w.take i ++ [c] ++ w.drop (i + 1)] else [])
def mendAt (ls : Wd) (y : Way) (w : Wd) (i : Nat) : List Wd :=
  ls.flatMap (mendC y w i) ++ (if (y.out && decide (i < w.length)) = true then [w.take i ++ w.drop (i + 1)] else [])
def mendW (ls : Wd) (y : Way) (w : Wd) : List Wd := (List.range (w.length + 1)).flatMap (mendAt ls y w)
def mendM (ls : Wd) (y : Way) (ws : List Wd) : List Wd := (ws.flatMap (mendW ls y)).foldl ins []
/-! ### the dues -/
def hitM (ws : List Wd) (g : Wd) : Bool := ws.any fun w => !(partsM w g).isEmpty
def dueStep (ls : Wd) (y : Way) (g : Wd) (s : List Wd × Option Nat) (t : Nat) : List Wd × Option Nat :=
  let d := if (s.2.isNone && hitM s.1 g) = true then some t else s.2
  (if d.isNone = true then (if s.1.length < 400 then mendM ls y s.1 else s.1) else s.1, d)
def dueM (ls : Wd) (y : Way) (f g : Wd) : Option Nat := ((List.range 5).foldl (dueStep ls y g) ([f], none)).2
/-- the letters of a word, each once, by the alphabet (of a and b) -/
def lettersM (w : Wd) : Wd := [97, 98].filter fun c => decide (c ∈ w)
def ways : List Way := [⟨true, false, false⟩, ⟨false, false, true⟩, ⟨false, true, false⟩, ⟨true, true, true⟩]
/-! ### walk: a state (index, closed) has the number 2 * (index + 1), one more where it is closed -/
abbrev BN := List (Nat × Nat)
def lookN : BN → Nat → Option Nat
  | [], _ => none
  | x :: r, n => cond (Nat.beq x.1 n) (some x.2) (lookN r n)
def putN (kvs : BN) (n p : Nat) : BN := match lookN kvs n with
  | some _ => kvs.map fun x => cond (Nat.beq x.1 n) (x.1, p) x
  | none => kvs ++ [(n, p)]
def FARn : Nat := 1000000
def mnN (i j : Nat) : Nat := cond (Nat.ble (j + 1) i) j i
def addN (kvs : BN) (n p : Nat) : BN := putN kvs n (mnN ((lookN kvs n).getD FARn) p)
def b2 (b : Bool) : Nat := cond b 1 0
def stepR (g : Wd) (c lo ch : Nat) (acc : BN) (x : Nat × Nat) : BN :=
  let m := x.1 / 2
  let a1 := addN acc x.1 (x.2 + lo)
  let a2 := cond (Nat.ble 1 m) (addN (addN (addN a1 (2 * m + b2 (hasAt g c (m - 1))) x.2) (2 * m + 1) (x.2 + ch)) (2 * m) (x.2 + ch)) a1
  cond (Nat.beq (x.1 % 2) 1 && Nat.ble (m + 1) g.length) (addN a2 (2 * (m + 1) + 1) (x.2 + cond (hasAt g c m) 0 ch)) a2
def readN (g : Wd) (kvs : BN) (c lo ch : Nat) : BN := kvs.foldl (stepR g c lo ch) []
def told1 (pr m : Nat) (acc : BN) (t : Option Nat) : BN := match t with
  | some n => cond (Nat.ble 1 m) (addN acc (2 * m + 1) (n + pr)) acc
  | none => acc
def stepC (g : Wd) (pr : Nat) (acc : BN) (m : Nat) : BN :=
  let a2 := told1 pr m (told1 pr m acc (lookN acc (2 * m))) (lookN acc (2 * m + 1))
  match lookN a2 (2 * m + 1) with
  | some n => cond (Nat.ble (m + 1) g.length) (addN a2 (2 * (m + 1) + 1) (n + pr)) a2
  | none => a2
def closeN (g : Wd) (kvs : BN) (pr : Nat) : BN := (List.range (g.length + 1)).foldl (stepC g pr) kvs
def walkGo (g : Wd) (p lo ch : Nat) : Wd → BN → BN
  | [], kvs => closeN g kvs p
  | c :: f, kvs => walkGo g p lo ch f (readN g (closeN g kvs p) c lo ch)
def walkN (f g : Wd) (p lo ch : Nat) : Nat := (lookN (walkGo g p lo ch f [(1, 0)]) (2 * g.length + 1)).getD FARn
def fin (n : Nat) : Option Nat := if n < FARn then some n else none
def toldM (f g : Wd) : List (Option Nat) := [fin (walkN f g 1 FARn FARn), fin (walkN f g FARn 1 FARn), fin (walkN f g FARn FARn 1), some (walkN f g 1 1 1)]
/-! ### one_letter_more, one_letter_less, and the law's own -/
def putW (f : Wd) (i c : Nat) : Wd := f.take i ++ [c] ++ f.drop i
def cutW (f : Wd) (i : Nat) : Wd := f.take i ++ f.drop (i + 1)
def moreAt (f g : Wd) (i : Nat) : List (Nat × Nat) := ((lettersM g).filter fun c => reachM (putW f i c) g).map fun c => (i, c)
def moreM (f g : Wd) : List (Nat × Nat) := (List.range (f.length + 1)).flatMap (moreAt f g)
def lessM (f g : Wd) : List Nat := (List.range f.length).filter fun i => decide (cutW f i ≠ []) && reachM (cutW f i) g
def moreAtL (f g : Wd) (i : Nat) : List (Nat × Nat) := ((lettersM g).filter fun c => !(partsM (putW f i c) g).isEmpty).map fun c => (i, c)
def moreL (f g : Wd) : List (Nat × Nat) := (List.range (f.length + 1)).flatMap (moreAtL f g)
def lessL (f g : Wd) : List Nat := (List.range f.length).filter fun i => !(partsM (cutW f i) g).isEmpty
/-! ### the law -/
def dueOk (d : Option Nat) (t : Option Nat) : Bool := match d with
  | some k => decide (t = some k)
  | none => match t with
    | some n => decide (2 ≤ n)
    | none => true
def duesM (f g : Wd) : List (Option Nat) := ways.map fun y => dueM (lettersM (f ++ g)) y f g
def allOk : List (Option Nat) → List (Option Nat) → Bool
  | d :: ds, t :: ts => dueOk d t && allOk ds ts
  | [], [] => true
  | _, _ => false
def leastOk (f g : Wd) : Bool := (toldM f g).all fun t => match t with | some n => decide (walkN f g 1 1 1 ≤ n) | none => true
/-! ### the inputs -/
def wordsOf : Nat → List Wd
  | 0 => [[]]
  | n + 1 => (wordsOf n).flatMap fun w => [97 :: w, 98 :: w]
def films : List Wd := (List.range' 1 5).flatMap wordsOf
def goals : List Wd := (List.range' 1 3).flatMap wordsOf
theorem test1 : allOk (duesM [97, 98] [98]) (toldM [97, 98] [98]) = true := by decide +kernel
theorem test2 : (moreM [97, 98] [98] = moreL [97,98] [98]) ∧ leastOk [97, 98] [98] = true := by decide +kernel
end J
end

section
/-! The numbers of states, and the dicts that they tell. -/
namespace J
open PySem PySem.Spec PyProof.Rows L2
def decK (n : Nat) : BK := (((n / 2 : Nat) : Int) - 1, Nat.beq (n % 2) 1)
def decB (kvs : BN) : BD := kvs.map fun x => (decK x.1, (x.2 : Int))
theorem decK_inj {m n : Nat} (e : decK m = decK n) : m = n := by
  unfold decK at e
  injection e with e1 e2
  have h1 := Nat.mod_lt m (show 0 < 2 by decide)
  have h2 := Nat.mod_lt n (show 0 < 2 by decide)
  have h3 : m % 2 = n % 2 := by
    rcases (show m % 2 = 0 ∨ m % 2 = 1 by omega) with a | a <;> rcases (show n % 2 = 0 ∨ n % 2 = 1 by omega) with b | b <;> rw [a, b] at e2 ⊢ <;> exact absurd e2 (by decide)
  omega
theorem decK_key (m : Nat) (b : Bool) : decK (2 * m + b2 b) = ((m : Int) - 1, b) := by
  unfold decK
  cases b
  · have h1 : (2 * m + b2 false) / 2 = m := by show (2 * m + 0) / 2 = m; omega
    have h2 : (2 * m + b2 false) % 2 = 0 := by show (2 * m + 0) % 2 = 0; omega
    rw [h1, h2] <;> rfl
  · have h1 : (2 * m + b2 true) / 2 = m := by show (2 * m + 1) / 2 = m; omega
    have h2 : (2 * m + b2 true) % 2 = 1 := by show (2 * m + 1) % 2 = 1; omega
    rw [h1, h2] <;> rfl
theorem decK_open (m : Nat) : decK (2 * m) = ((m : Int) - 1, false) := decK_key m false
theorem decK_shut (m : Nat) : decK (2 * m + 1) = ((m : Int) - 1, true) := decK_key m true
theorem look_dec (n : Nat) : ∀ kvs : BN, look (decB kvs) (decK n) = Option.map (fun (p : Nat) => (p : Int)) (lookN kvs n)
  | [] => rfl
  | x :: r => by
    have ih := look_dec n r
    unfold lookN
    cases e : Nat.beq x.1 n with
    | true =>
      have e' : x.1 = n := Nat.eq_of_beq_eq_true e
      show look ((decK x.1, (x.2 : Int)) :: decB r) (decK n) = some (x.2 : Int)
      rw [e']
      simp [look]
    | false =>
      have e' : ¬ decK x.1 = decK n := fun z => Nat.ne_of_beq_eq_false e (decK_inj z)
      show look ((decK x.1, (x.2 : Int)) :: decB r) (decK n) = Option.map (fun (p : Nat) => (p : Int)) (lookN r n)
      rw [← ih]
      simp [look, e']
theorem put_dec (kvs : BN) (n p : Nat) : put (decB kvs) (decK n) (p : Int) = decB (putN kvs n p) := by
  unfold put putN
  rw [look_dec]
  cases lookN kvs n with
  | some q =>
    rw [if_pos (show (Option.map (fun (p : Nat) => (p : Int)) (some q)).isSome = true from rfl)]
    unfold decB
    show _ = List.map _ (List.map _ kvs)
    rw [List.map_map, List.map_map]
    refine List.map_congr_left fun x _ => ?_
    show (if decK x.1 = decK n then (decK x.1, (p : Int)) else (decK x.1, (x.2 : Int))) = (decK (cond (Nat.beq x.1 n) (x.1, p) x).1, ((cond (Nat.beq x.1 n) (x.1, p) x).2 : Int))
    cases e : Nat.beq x.1 n with
    | true =>
      rw [if_pos (by rw [Nat.eq_of_beq_eq_true e])] <;> rfl
    | false =>
      rw [if_neg (fun z => Nat.ne_of_beq_eq_false e (decK_inj z))] <;> rfl
  | none =>
    rw [if_neg (show ¬ (Option.map (fun (p : Nat) => (p : Int)) none).isSome = true from fun z => nomatch z)]
    unfold decB
    show _ = List.map _ (kvs ++ [(n, p)])
    rw [List.map_append] <;> rfl
theorem min_dec (i j : Nat) : (if (j : Int) < (i : Int) then (j : Int) else (i : Int)) = ((mnN i j : Nat) : Int) := by
  unfold mnN
  cases e : Nat.ble (j + 1) i with
  | true =>
    have h : j + 1 ≤ i := Nat.le_of_ble_eq_true e
    rw [if_pos (by omega)] <;> rfl
  | false =>
    have h : ¬ j + 1 ≤ i := fun z => by rw [Nat.ble_eq_true_of_le z] at e; cases e
    rw [if_neg (by omega)] <;> rfl
/-- the keys are below b, each once -/
structure KOk (b : Nat) (kvs : BN) : Prop where
  lt : ∀ x ∈ kvs, x.1 < b
  nd : (kvs.map (·.1)).Nodup
theorem lookN_mem {n : Nat} : ∀ {kvs : BN} {p : Nat}, lookN kvs n = some p → (n, p) ∈ kvs
  | [], _, h => nomatch h
  | x :: r, p, h => by
    unfold lookN at h
    cases e : Nat.beq x.1 n with
    | true =>
      rw [e] at h
      have h' : some x.2 = some p := h
      injection h' with h'
      rw [← Nat.eq_of_beq_eq_true e, ← h']
      exact List.mem_cons_self
    | false =>
      rw [e] at h
      exact List.mem_cons_of_mem _ (lookN_mem (show lookN r n = some p from h))
theorem lookN_none {n : Nat} : ∀ {kvs : BN}, lookN kvs n = none → n ∉ kvs.map (·.1)
  | [], _ => fun z => nomatch z
  | x :: r, h => by
    unfold lookN at h
    cases e : Nat.beq x.1 n with
    | true => rw [e] at h; cases (show some x.2 = none from h)
    | false =>
      rw [e] at h
      have ih := lookN_none (show lookN r n = none from h)
      intro z
      rcases List.mem_cons.mp z with y | y
      · exact Nat.ne_of_beq_eq_false e y.symm
      · exact ih y
theorem KOk.put {b : Nat} {kvs : BN} (k : KOk b kvs) {n : Nat} (hn : n < b) (p : Nat) : KOk b (putN kvs n p) := by
  unfold putN
  cases e : lookN kvs n with
  | some q =>
    dsimp only
    have m1 : (kvs.map fun x => cond (Nat.beq x.1 n) (x.1, p) x).map (·.1) = kvs.map (·.1) := by
      rw [List.map_map]
      refine List.map_congr_left fun x _ => ?_
      show (cond (Nat.beq x.1 n) (x.1, p) x).1 = x.1
      cases Nat.beq x.1 n <;> rfl
    refine ⟨fun x hx => ?_, by rw [m1]; exact k.nd⟩
    obtain ⟨y, hy, e2⟩ := List.mem_map.mp hx
    have q2 := k.lt y hy
    rw [← e2]
    cases Nat.beq y.1 n <;> exact q2
  | none =>
    dsimp only
    refine ⟨fun x hx => ?_, ?_⟩
    · rcases List.mem_append.mp hx with y | y
      · exact k.lt x y
      · rw [List.mem_singleton.mp y]; exact hn
    · rw [List.map_append]
      refine List.nodup_append.mpr ⟨k.nd, List.nodup_cons.mpr ⟨List.not_mem_nil, List.nodup_nil⟩, fun x hx y hy z => ?_⟩
      rw [List.mem_singleton.mp hy] at z
      rw [z] at hx
      exact lookN_none e hx
theorem KOk.add {b : Nat} {kvs : BN} (k : KOk b kvs) {n : Nat} (hn : n < b) (p : Nat) : KOk b (addN kvs n p) := k.put hn _
theorem KOk.len {b : Nat} {kvs : BN} (k : KOk b kvs) : kvs.length ≤ b := by
  have q := L2.nat_nodup_len (kvs.map (·.1)) (List.range b) k.nd fun x hx => by
    obtain ⟨y, hy, e⟩ := List.mem_map.mp hx
    rw [← e]
    exact List.mem_range.mpr (k.lt y hy)
  rw [List.length_map, List.length_range] at q
  exact q
theorem KOk.mono {b c : Nat} {kvs : BN} (k : KOk b kvs) (h : b ≤ c) : KOk c kvs := ⟨fun x hx => Nat.lt_of_lt_of_le (k.lt x hx) h, k.nd⟩
theorem KOk.nil (b : Nat) : KOk b [] := ⟨fun _ z => (nomatch z), List.nodup_nil⟩
theorem small_of : ∀ n, n < 8 → decK n ∈ smallK := by decide
theorem KOk.small {kvs : BN} (k : KOk 8 kvs) : ∀ kv ∈ decB kvs, kv.1 ∈ smallK := fun kv h => by
  obtain ⟨x, hx, e⟩ := List.mem_map.mp h
  rw [← e]
  exact small_of x.1 (k.lt x hx)
/-- at a stands the dict that the numbers tell -/
abbrev DN (P : Program) (w : World) (H : Hp) (a : Addr) (kvs : BN) : Prop := DB P w H a (decB kvs)
theorem decB_len (kvs : BN) : (decB kvs).length = kvs.length := List.length_map _
end J
end

section
/-! set(text), sorted(set(text)) -/
namespace J
open PySem PySem.Spec PyProof.Rows L2 PySem.Froz
/-- the payload of a set: the texts l in some order, its table rising and walked -/
structure TS (P : Program) (w : World) (D : SD) (l : List Str) : Prop where
  tx : TxOk P w D l
  nd : l.Nodup
  ris : Ris D.2.2.place.toList
  led : w.params.followText "set-order" = true ∨ D.2.2.led = true
theorem addTx_keeps (h : Int) (v : Value) (D : SD) (r : Ris D.2.2.place.toList) : Ris (addTx h v D).2.2.place.toList ∧ (addTx h v D).2.2.led = D.2.2.led := by
  have r1 := layNew_ris D.2.2 D.1 h v r
  have l1 := layNew_led D.2.2 D.1 h v
  unfold addTx tailTx
  generalize layNew D.2.2 D.1 h v = Z at r1 l1 ⊢
  have key : ∀ t2 : SetTable, Ris t2.place.toList → t2.led = D.2.2.led → ∀ b : Bool,
      Ris (if (!b && t2.tooFull) = true then (((relayAll t2 Z.1 (SetTable.grown Z.1.size)).1, D.2.1 + 2, (relayAll t2 Z.1 (SetTable.grown Z.1.size)).2.1) : SD) else (Z.1, D.2.1 + 1, t2)).2.2.place.toList ∧
      (if (!b && t2.tooFull) = true then (((relayAll t2 Z.1 (SetTable.grown Z.1.size)).1, D.2.1 + 2, (relayAll t2 Z.1 (SetTable.grown Z.1.size)).2.1) : SD) else (Z.1, D.2.1 + 1, t2)).2.2.led = D.2.2.led := by
    intro t2 r2 l2 b
    by_cases c : (!b && t2.tooFull) = true
    · rw [if_pos c]
      exact ⟨relayAll_ris _ _ _, (relayAll_led _ _ _).trans l2⟩
    · rw [if_neg c]
      exact ⟨r2, l2⟩
  by_cases c : Z.2.1.plain = true
  · rw [if_pos c]
    exact key { Z.2.1 with plain := false } r1 l1 _
  · rw [if_neg c]
    exact key Z.2.1 r1 l1 _
section
variable {P : Program} {w : World} {A : Around} {E : Value → Shared → Prop} {s : Shared}
theorem TS.add {D : SD} {l : List Str} {k : Str} (u : Tok) (F : TS P w D l) (hk : k ∉ l) : TS P w (addTx (hashStr w k) (.str k u) D) (k :: l) := by
  obtain ⟨q1, q2⟩ := addTx_keeps (hashStr w k) (.str k u) D F.ris
  exact ⟨add_ok u F.tx, List.nodup_cons.mpr ⟨hk, F.nd⟩, q1, F.led.imp id fun z => q2.trans z⟩
/-- one more text: new, or there -/
theorem add_any {a : Addr} {T : String} {D : SD} {l : List Str} {k : Str} {u : Tok} {Q : Bool → Shared → Prop} (ho : s.heap.get? a = some (sObj T D)) (F : TS P w D l) (hb : l.length + 1 < scanBound)
    (h1 : k ∉ l → Q true { s with heap := s.heap.update a (fun _ => sObj T (addTx (hashStr w k) (.str k u) D)) }) (h2 : k ∈ l → Q false s) : wpAny (model P w) A (setAddHashed a (.str k u) (hashStr w k)) Q E s := by
  by_cases hk : k ∈ l
  · obtain ⟨es, ep, t⟩ := D
    have hd : (sObj T (es, ep, t)).data = .set es ep t := rfl
    have hf : t.fits es.size = true := F.tx.fit
    have hel : ElemsOf (strKind P w) es.toList := F.tx.el
    have hz : es.size = l.length := F.tx.sz
    have hkey := is_str (P := P) (w := w) k u
    unfold setAddHashed setAddHashedIn
    refine wpAny_holding (wpAny_bind (wpAny_setState_of ho hd hf ?_))
    dsimp only
    rw [byScan_of rfl (show es.size < scanBound by omega) hel]
    simp only [↓reduceIte]
    unfold setAddByScan
    refine wpAny_bind (wpAny_bind (wpAny_rule (wpAny_bind (wpAny_setScan_of (knd := strKind P w) (k := k) hkey ho hd hf hel ?_))))
    obtain ⟨e, he, q⟩ := (F.tx.mem k).mp hk
    cases hr : List.findIdx? (fun e => (strKind P w).is k e.2) es.toList with
    | none =>
      have c := List.findIdx?_eq_none_iff.mp hr e he
      rw [q] at c
      cases c
    | some j =>
      dsimp only
      exact wpAny_pure (wpAny_pure (h2 hk))
  · exact add_x ho F.tx hk hb (h1 hk)
/-- the rest of a text's signs into the set -/
theorem code_setS {a it : Addr} (hne : a ≠ it) {x : Str} {u : Tok} {R : Result → Shared → Prop} (hh : A.handled = none) : ∀ (cs : List Nat) (i : Nat) (D : SD) (l : List Str) (s : Shared), x.cps.toList.drop i = cs →
    s.heap.get? a = some (sObj "set" D) → s.heap.get? it = some (itObj x u i) → TS P w D l → l.length + cs.length < scanBound →
    (∀ D' l' (h' : Heap) (tk : Nat), TS P w D' l' → (∀ k, k ∈ l' ↔ k ∈ l ∨ ∃ c ∈ cs, k = sing c) → h'.get? a = some (sObj "set" D') → (∀ b o, b ≠ a → b ≠ it → s.heap.get? b = some o → h'.get? b = some o) →
      R (.ok (.ret .none)) { s with heap := h', toks := tk }) → codeAny (model P w) A (.builtin "set.update.loop" ⟨[.ref a, .ref it], []⟩) R s
  | [], i, D, l, s, hd, ha, hit, F, hb, h => by
    refine codeAny_builtin PyProof.Rows.F.entry_set_update_loop ?_
    rw [Around.under_plainId PyProof.Rows.F.plain_set_update_loop _]
    refine wpAny_bind (end_x (u := u) (show A.in1.handled = none from hh) hit (at_end hd) (wpAny_pure ?_))
    have k1 : ∀ b o, b ≠ it → s.heap.get? b = some o → (endHeap s.heap it i).get? b = some o := fun b o hb e =>
      Heap.get?_push_of_some _ (Heap.get?_push_of_some _ ((Heap.get?_update_other _ _ (Ne.symm hb)).trans e))
    exact h D l _ s.toks F (fun k => ⟨.inl, fun z => z.elim id fun ⟨c, hc, _⟩ => nomatch hc⟩) (k1 a _ hne ha) fun b o _ h2 e => k1 b o h2 e
  | c :: r, i, D, l, s, hd, ha, hit, F, hb, h => by
    obtain ⟨hx, hd2⟩ := at_of hd
    have hb2 : l.length + (r.length + 1) < scanBound := hb
    refine codeAny_builtin PyProof.Rows.F.entry_set_update_loop ?_
    rw [Around.under_plainId PyProof.Rows.F.plain_set_update_loop _]
    refine wpAny_bind (next_x (u := u) hit hx ?_)
    refine wpAny_bind (wpAny_holding ?_)
    unfold setAdd
    refine wpAny_holding (wpAny_bind ((strKind P w).pyHash (k := sing c) (is_str _ _) ?_))
    have ha1 : (s.heap.update it (fun _ => itObj x u (i + 1))).get? a = some (sObj "set" D) := PySem.Heap.get?_update_of_ne _ (Ne.symm hne) ha
    have hi1 : (s.heap.update it (fun _ => itObj x u (i + 1))).get? it = some (itObj x u (i + 1)) := get_upd _ hit rfl
    have o1 : ∀ b o, b ≠ it → s.heap.get? b = some o → (s.heap.update it (fun _ => itObj x u (i + 1))).get? b = some o := fun b o hb e => (Heap.get?_update_other _ _ (Ne.symm hb)).trans e
    refine add_any (l := l) (D := D) (T := "set") (s := { s with heap := s.heap.update it (fun _ => itObj x u (i + 1)), toks := s.toks + 1 + 1 }) ha1 F (by omega) (fun hk => ?_) fun hk => ?_
    · have ha2 := get_upd (h := s.heap.update it (fun _ => itObj x u (i + 1))) (sObj "set" (addTx (hashStr w (sing c)) (.str (sing c) s.toks) D)) ha1 rfl
      have hi2 : ((s.heap.update it (fun _ => itObj x u (i + 1))).update a (fun _ => sObj "set" (addTx (hashStr w (sing c)) (.str (sing c) s.toks) D))).get? it = some (itObj x u (i + 1)) := PySem.Heap.get?_update_of_ne _ hne hi1
      refine wpAny_pure ⟨plainId_quiet PyProof.Rows.F.plain_set_update_loop _, code_setS hne hh r (i + 1) _ (sing c :: l) _ hd2 ha2 hi2 (F.add s.toks hk) (by show l.length + 1 + r.length < scanBound; omega) fun D' l' h' tk F' m' a' k' => ?_⟩
      refine h D' l' h' tk F' (fun k => ?_) a' fun b o n1 n2 e => k' b o n1 n2 ((Heap.get?_update_other _ _ (Ne.symm n1)).trans (o1 b o n2 e))
      rw [m' k, List.mem_cons]
      constructor
      · rintro ((z | z) | ⟨d, hd, z⟩)
        · exact .inr ⟨c, List.mem_cons_self, z⟩
        · exact .inl z
        · exact .inr ⟨d, List.mem_cons_of_mem _ hd, z⟩
      · rintro (z | ⟨d, hd, z⟩)
        · exact .inl (.inr z)
        · rcases List.mem_cons.mp hd with y | y
          · exact .inl (.inl (by rw [z, y]))
          · exact .inr ⟨d, y, z⟩
    · refine wpAny_pure ⟨plainId_quiet PyProof.Rows.F.plain_set_update_loop _, code_setS hne hh r (i + 1) D l _ hd2 ha1 hi1 F (by omega) fun D' l' h' tk F' m' a' k' => ?_⟩
      refine h D' l' h' tk F' (fun k => ?_) a' fun b o n1 n2 e => k' b o n1 n2 (o1 b o n2 e)
      rw [m' k]
      constructor
      · rintro (z | ⟨d, hd, z⟩)
        · exact .inl z
        · exact .inr ⟨d, List.mem_cons_of_mem _ hd, z⟩
      · rintro (z | ⟨d, hd, z⟩)
        · exact .inl z
        · rcases List.mem_cons.mp hd with y | y
          · exact .inl (by rw [z, y]; exact hk)
          · exact .inr ⟨d, y, z⟩
end
end J
end

section
namespace J
open PySem PySem.Spec PyProof.Rows L2 PySem.Froz
def newSet (w : World) : Obj := { cls := .type "set", dict := none, data := .set #[] 0 (.fresh 0 0 (!w.params.followText "set-order")) }
def D0 (w : World) : SD := (#[], 0, .fresh 0 0 (!w.params.followText "set-order"))
theorem newSet_eq (w : World) : newSet w = sObj "set" (D0 w) := rfl
theorem TS.new (P : Program) (w : World) : TS P w (D0 w) [] := by
  refine ⟨TxOk.nil rfl, List.nodup_nil, List.Pairwise.nil, ?_⟩
  show _ ∨ (!w.params.followText "set-order") = true
  cases w.params.followText "set-order"
  · exact .inr rfl
  · exact .inl rfl
theorem perm_of_sub {α : Type} [DecidableEq α] : ∀ (l m : List α), l.Nodup → (∀ x ∈ l, x ∈ m) → m.length ≤ l.length → m.Perm l
  | [], m, _, _, h => by
    rw [List.length_eq_zero_iff.mp (Nat.le_zero.mp h)]
  | x :: l, m, hn, hs, h => by
    obtain ⟨h1, h2⟩ := List.nodup_cons.mp hn
    have hx := hs x List.mem_cons_self
    have p := List.perm_cons_erase hx
    have e := p.length_eq
    rw [List.length_cons] at e h
    refine p.trans (List.Perm.cons x (perm_of_sub l (m.erase x) h2 (fun y hy => ?_) (by omega)))
    exact (List.mem_erase_of_ne (fun z : y = x => h1 (z ▸ hy))).mpr (hs y (List.mem_cons_of_mem _ hy))
section
variable {P : Program} {w : World} {A : Around} {E : Value → Shared → Prop} {s : Shared}
/-- set(text) -/
theorem call_setS {x : Str} {u : Tok} {Q : Value → Shared → Prop} (hh : A.handled = none) (ha : x.cps.all (· < 128) = true) (hb : x.cps.toList.length < scanBound)
    (h : ∀ (h' : Heap) (tk : Nat) D l, h'.get? s.heap.objs.size = some (sObj "set" D) → TS P w D l → (∀ k, k ∈ l ↔ ∃ c ∈ x.cps.toList, k = sing c) → (∀ b o, s.heap.get? b = some o → h'.get? b = some o) → Q (.ref s.heap.objs.size) { s with heap := h', toks := tk }) :
    wpAny (model P w) A (call (.type "set") [.str x u]) Q E s := by
  obtain ⟨c, tl, hmro⟩ := F.called_set.mro
  have hmade := F.called_set.made
  have hsub := F.called_set.sub
  refine wpAny_call (codeAny_of_tree ?_)
  show wpAny _ _ (callAny (.type "set") _) _ _ _
  refine wpAny_pure ⟨Code.quiet_builtin _ (by decide +kernel), codeAny_builtin F.entry_type_call ?_⟩
  rw [Around.under_plain (weight_type_call_type "set" [.str x u] []) rfl]
  have g1 := F.called_set.notType
  have g2 := F.called_set.canCreate
  have g3 := F.typeCall_set_1 (.str x u)
  repeat (any_goals (first | assumption | wp_step))
  refine codeAny_mono (code_set_led1 (.str x u) (E := E) (Q₁ := fun ob s1 => ob = .ref s.heap.objs.size ∧ s1 = { s with heap := s.heap.push (newSet w) }) ⟨rfl, rfl⟩) fun r s1 hr => ?_
  cases r with
  | error e => exact hr
  | ok fl =>
    cases fl with
    | ret ob =>
      obtain ⟨rfl, rfl⟩ := hr
      have hS : (s.heap.push (newSet w)).get? s.heap.objs.size = some (newSet w) := Heap.get?_push_size _ rfl
      have hT : Shared.TypeIs { s with heap := s.heap.push (newSet w) } (.ref s.heap.objs.size) "set" := ⟨_, hS, rfl⟩
      have hli := F.called_set.init.lookup
      have hbi := F.called_set.init.bind (.ref s.heap.objs.size)
      repeat (any_goals (first | assumption | wp_step))
      refine codeAny_mono (codeAny_call_builtin (R := wants (fun r s2 => r = .none ∧ ∃ h' tk D l, s2 = { s with heap := h', toks := tk } ∧ h'.get? s.heap.objs.size = some (sObj "set" D) ∧ TS P w D l ∧ (∀ k, k ∈ l ↔ ∃ c ∈ x.cps.toList, k = sing c) ∧
          (∀ b o, s.heap.get? b = some o → h'.get? b = some o)) E) F.called_set.init.plain F.entry_set_init (check_set_init_1 hT ?_)) fun r2 s2 hr2 => ?_
      · have b1 := PySem.F.sub_str_set
        have b2 := PySem.F.sub_str_frozenset
        have b3 : (Value.type "str" == Value.type "dict") = false := by decide
        unfold Builtin.«set.__init__» noKeywords Builtin.Frozenset.updateFrom
        generalize hPI : pyIter = PI
        wp_walk
        subst hPI
        refine wpAny_pyIter_ascii ha ?_
        refine wpAny_bind (wpAny_runValue ?_)
        have z1 : (s.heap.push (newSet w)).objs.size = s.heap.objs.size + 1 := Heap.size_push ..
        refine code_setS (P := P) (x := x) (u := u) (a := s.heap.objs.size) (it := (s.heap.push (newSet w)).objs.size) (by rw [z1]; exact Nat.ne_of_lt (Nat.lt_succ_self _)) (by simp [hh]) x.cps.toList 0 (D0 w) [] _ rfl (Heap.get?_push_of_some _ hS) (Heap.get?_push_size _ rfl) (TS.new P w) (by simpa using hb) fun D l h' tk q1 q2 q3 q4 => ?_
        refine wpAny_pure (wpAny_pure ⟨rfl, h', tk, D, l, rfl, q3, q1, fun k => ?_, fun b o e => ?_⟩)
        · rw [q2 k]
          exact ⟨fun z => z.elim (fun y => nomatch y) id, .inr⟩
        · have hb0 : b < s.heap.objs.size := Heap.lt_size e
          exact q4 b o (Nat.ne_of_lt hb0) (by rw [z1]; exact Nat.ne_of_lt (Nat.lt_succ_of_lt hb0)) (Heap.get?_push_of_some _ (Heap.get?_push_of_some _ e))
      · cases r2 with
        | error e => exact hr2
        | ok fl2 =>
          cases fl2 with
          | ret r =>
            obtain ⟨rfl, h', tk, D, l, rfl, q1, q2, q3, q4⟩ := hr2
            repeat (any_goals (first | assumption | wp_step))
            exact h _ _ D l q1 q2 q3 q4
          | _ => exact hr2.elim
    | _ => exact hr.elim
/-- sorted(a set of texts) -/
theorem sorted_setS {a : Addr} {D : SD} {l : List Str} {Q : Value → Shared → Prop} (ho : s.heap.get? a = some (sObj "set" D)) (F : TS P w D l) (hh : A.handled = none) (h64 : l.length < 64)
    (hQ : ∀ s' p (out : Array Value) (c : Nat) (ys : List Str), (∀ b o, s.heap.get? b = some o → s'.heap.get? b = some o) → s'.gens = s.gens → s'.os = s.os → s.heap.objs.size ≤ p →
      s'.heap.get? p = some (seqObj "list" out c) → StrsAre out.toList ys → ys.Perm l → sortedS ys = true → Q (.ref p) s') : wpAny (model P w) A (call (.builtin "sorted") [.ref a]) Q E s := by
  obtain ⟨es, ep, t⟩ := D
  have hz : es.size = l.length := F.tx.sz
  have hsb : es.size < scanBound := Nat.lt_of_lt_of_le (by omega : es.size < 64) (by decide)
  refine Calls.call_function_entry kind_sorted plain_sorted entry_sorted (args_sorted1 _) ?_
  unfold Builtin.«sorted»
  refine wpAny_bind (m := checkCount "sorted" 1 1 _) (wpAny_pure ?_)
  refine wpAny_bind (collect_set (A := A.in1) hh ⟨_, ho, rfl, rfl⟩ F.tx.fit hsb F.ris F.led fun s1 vs k1 k2 k3 k4 pm => ?_)
  have hvl : vs.length = l.length := by rw [pm.length_eq, List.length_map, Array.length_toList]; exact hz
  have all : ∀ v ∈ vs, ∃ k u, v = Value.str k u ∧ k ∈ l := fun v hv => by
    obtain ⟨e, he, q⟩ := List.mem_map.mp (pm.mem_iff.mp hv)
    obtain ⟨⟨k, i1, _⟩, _⟩ := F.tx.el e he
    obtain ⟨u, i3⟩ := Value.isStrOf_shape (show Value.isStrOf k e.2 = true from i1)
    exact ⟨k, u, by rw [← q]; exact i3, (F.tx.mem k).mpr ⟨e, he, i1⟩⟩
  have hI : StrsAre vs (vs.map strOf) := strsAre_map vs fun v hv => let ⟨k, u, e, _⟩ := all v hv; ⟨k, u, e⟩
  have pk : (vs.map strOf).Perm l := by
    have sub : ∀ k ∈ l, k ∈ vs.map strOf := fun k hk => by
      obtain ⟨e, he, q⟩ := (F.tx.mem k).mp hk
      obtain ⟨u, i3⟩ := Value.isStrOf_shape (show Value.isStrOf k e.2 = true from q)
      exact List.mem_map.mpr ⟨e.2, pm.mem_iff.mpr (List.mem_map.mpr ⟨e, he, rfl⟩), by rw [i3]; rfl⟩
    exact perm_of_sub l _ F.nd sub (by rw [List.length_map]; omega)
  refine wpAny_bind (wpAny_newList ?_ (by rw [hvl, sizeLine_eq]; omega))
  have hoL : (s1.heap.push (seqObj "list" vs.toArray 0)).get? s1.heap.objs.size = some (seqObj "list" vs.toArray 0) := Heap.get?_push_size _ rfl
  refine wpAny_bind (wpAny_holding (wpAny_call_entry slot_list_sort ⟨_, hoL, rfl⟩ entry_list_sort (list_sort_treeK strKind_oneLt hoL hI.keysOf (fun v1 v2 r e => keyKind_strs (by rw [← e]; exact hI)) (by rw [hvl]; exact h64) fun st' hp hs => ⟨_, rfl, ?_⟩) (args_list_sort _)))
  obtain ⟨ys, y1, y2, y3⟩ := sorted_out_str hI hp hs
  obtain ⟨c, hc⟩ := sortedHeap_at (vs := vs) (out := (arrOf st').map (·.2)) hoL
  refine wpAny_pure ⟨_, rfl, hQ _ s1.heap.objs.size _ c ys (fun b o e => ?_) k3 k4 k2 hc y1 (y2.trans pk) y3⟩
  have q := k1 b o e
  have hlt := Heap.lt_size q
  show (sortedHeap (s1.heap.push (seqObj "list" vs.toArray 0)) s1.heap.objs.size vs ((arrOf st').map (·.2))).get? b = some o
  rw [sortedHeap_old (Nat.ne_of_lt hlt) (by rw [size_push']; exact Nat.lt_succ_of_lt hlt)]
  exact Heap.get?_push_of_some _ q
end
/-- at a stands a set of the texts l -/
def SetX (P : Program) (w : World) (a : Addr) (l : List Str) : HO := .ext fun h => ∃ D, h.get? a = some (sObj "set" D) ∧ TS P w D l
theorem setX_ok {P : Program} {w : World} {H : Hp} {h : Heap} {a : Addr} {D : SD} {l : List Str} (e : h.get? a = some (sObj "set" D)) (F : TS P w D l) : ObjOk P w H h a (SetX P w a l) :=
  ⟨⟨D, e, F⟩, ⟨_, e⟩, fun h1 h2 ⟨D', e', F'⟩ k => ⟨D', k _ e', F'⟩⟩
def rSetS (P : Program) (w : World) : List V → Hp → VK → Prop := fun xs H Q => ∃ z, xs = [.str z] ∧ z.cps.all (· < 128) = true ∧ z.cps.toList.length < 1000 ∧
  ∀ p l, H p = none → l.Nodup → (∀ k, k ∈ l ↔ ∃ c ∈ z.cps.toList, k = sing c) → Q (.ref p) (upd H p (SetX P w p l))
theorem cr_setS {X : Cx} (hc : X.calm = true) : CallR X (.type "set") (rSetS X.prog X.w) := by
  intro pins s σ H xs us Q I r h
  obtain ⟨z, rfl, ha, hl, q⟩ := h
  cases r with
  | cons r1 r2 =>
    cases r2
    obtain ⟨u, rfl⟩ := (show ∃ t, _ = Value.str z t from r1)
    refine call_setS (I.ok.hd hc) ha (Nat.lt_trans hl (by decide)) fun h' tk D l e F m k => ?_
    have hn := I.hok.fresh (Nat.le_refl s.heap.objs.size)
    exact ⟨.ref s.heap.objs.size, _, I.laid (t' := tk) k (Nat.le_refl _) (setX_ok e F), rfl, q _ l hn F.nd m⟩
def rSortedX (P : Program) (w : World) : List V → Hp → VK → Prop := fun vs H Q => ∃ a l, vs = [V.ref a] ∧ H a = some (SetX P w a l) ∧ l.length < 64 ∧
  ∀ (ys : List Str) (p : Addr), ys.Perm l → sortedS ys = true → H p = none → Q (.ref p) (upd H p (.lst (ys.map V.str)))
theorem cr_sortedX {X : Cx} (hc : X.calm = true) : CallR X (.builtin "sorted") (rSortedX X.prog X.w) := by
  intro pins s σ H vs us Q I r h
  obtain ⟨a, l, rfl, ha, h64, q⟩ := h
  rw [Vals.ref1 r]
  obtain ⟨⟨D, e, F⟩, _⟩ := (show ObjOk X.prog X.w H s.heap a (SetX X.prog X.w a l) from I.hok a _ ha)
  refine sorted_setS e F (I.ok.hd hc) h64 fun s' p out c ys k g o hp hg hi hm hs => ?_
  have hlen : (ys.map V.str).length ≤ sizeLine := by rw [List.length_map, hm.length_eq]; exact small64 h64
  have hn : H p = none := I.hok.fresh hp
  have J' : Inv X pins σ (upd H p (.lst (ys.map V.str))) { s with heap := s'.heap, gens := s'.gens, drawn := s'.drawn, toks := s'.toks } :=
    I.call (ch := []) (Un.laid k hp hn) (I.hok.laid k hp ⟨hlen, out.toList, c, vals_of_strs hi, hg⟩) (by rw [g]; exact I.bare) (fun _ y => nomatch y)
  have e' : s' = { s with heap := s'.heap, gens := s'.gens, drawn := s'.drawn, toks := s'.toks } := by
    cases s'
    cases s
    cases o
    rfl
  rw [e']
  exact ⟨.ref p, _, J', rfl, q ys p hm hs hn⟩
end J
end

section
/-! for i, c in enumerate(text) -/
namespace J
open PySem PySem.Spec PyProof.Rows L2
/-- the signs of a text, each with its place in a new pair -/
def ItE (z : Str) : It := ⟨fun i _ => i < z.cps.size, fun i H v H' => ∃ T c, z.cps[i]? = some c ∧ v = .ref T ∧ H T = none ∧ H' = upd H T (.tup [.int (i : Nat), .str ⟨#[c]⟩]), fun i _ => i = z.cps.size⟩
theorem walk_enumS {z : Str} : Walk (ItE z) z.cps.size (fun _ => True) (fun i H v H' => ∃ T c, z.cps[i]? = some c ∧ v = .ref T ∧ H T = none ∧ H' = upd H T (.tup [.int (i : Nat), .str ⟨#[c]⟩])) :=
  ⟨fun _ _ hi _ => hi, fun _ _ => rfl, fun _ _ _ _ _ _ y => y⟩
theorem turn_enumS {P : Program} {w : World} {K : PySem.W.Frag} {elts : List Expr} {kk : Nat} {tpos : Pos} (e it : Addr) (z : Str) (t : Tok) (hne : e ≠ it) :
    Turn P w K (.Tuple elts kk tpos) (ItE z) [e, it] e (fun i h => (∃ old, IsEnum h e it ((i : Nat) : Int) old) ∧ h.IsStrIter it (strIterType z) z t i) where
  mem := by simp
  obj := fun i h ⟨⟨old, he⟩, ⟨o, ho, hc, hd⟩⟩ b hb => by
    rcases (show b = e ∨ b = it by simpa using hb) with y | y
    · rw [y]; exact ⟨_, he, fun v q => nomatch q⟩
    · rw [y]; exact ⟨o, ho, fun v q => by rw [hd] at q; cases q⟩
  keep := fun i h h' ⟨⟨old, he⟩, ⟨o, ho, r⟩⟩ k => ⟨⟨old, k e (by simp) _ he⟩, ⟨o, k it (by simp) o ho, r⟩⟩
  item := by
    intro X hP hw hK hc i pins s σ H E I hf ⟨⟨old, he⟩, hit⟩ hg
    subst hP hw hK
    have D : Draws X.prog X.w X.A.in1 it [it] z.cps.size (SignAt z) (fun i h => h.IsStrIter it (strIterType z) z t i) := Draws.text (show X.A.in1.handled = none from I.ok.hd hc) it z t
    have hel : e < s.heap.objs.size := Heap.lt_size he
    have hil : it < s.heap.objs.size := let ⟨_, y, _⟩ := hit; Heap.lt_size y
    refine wpAny_pyNext_enum_itemD D he hit hg hne (fun y => hne (List.mem_singleton.mp y)) fun x h1 tk hP ho hit1 hT hsz hk => ?_
    obtain ⟨c, u, hcx, rfl⟩ := hP
    refine ⟨_, rfl, wpAny_letOwnedTupleGo_enum (s := { s with heap := h1, toks := tk + 1 }) ho fun h2 he2 sb => ?_⟩
    have hT2 : h2.get? s.heap.objs.size = some { cls := .type "tuple", data := .seq #[.int i tk, .str ⟨#[c]⟩ u] } := (sb.2 _ (Nat.ne_of_gt hel)).trans hT
    have new : ObjOk X.prog X.w (upd H s.heap.objs.size (.tup [.int (i : Nat), .str ⟨#[c]⟩])) h2 s.heap.objs.size (.tup [.int (i : Nat), .str ⟨#[c]⟩]) :=
      ⟨by show 2 ≤ sizeLine; decide, _, .cons ⟨tk, rfl⟩ (.cons ⟨u, rfl⟩ .nil), ⟨_, hT2, rfl, _, rfl⟩⟩
    have I1 : Inv X pins σ (upd H s.heap.objs.size (.tup [.int (i : Nat), .str ⟨#[c]⟩])) { s with heap := h2, toks := tk + 1 } :=
      I.turnedNew (ch := [e, it]) (fun b ob hb q => (sb.2 b (fun y => hb (by simp [y]))).trans (hk b ob (fun y => hb (by simp [y])) (fun y => hb (by simp [y])) q)) hf (Nat.le_refl _) new
    refine ⟨.ref s.heap.objs.size, _, I1, rfl, ⟨_, c, hcx, rfl, I.hok.fresh (Nat.le_refl _), rfl⟩, ⟨⟨.str ⟨#[c]⟩ u, ?_⟩, ?_⟩, fun b hb => ?_⟩
    · have e1 : ((i + 1 : Nat) : Int) = (i : Int) + 1 := by omega
      rw [e1]
      exact he2
    · obtain ⟨o, q1, q2⟩ := hit1
      exact ⟨o, (sb.2 it (Ne.symm hne)).trans q1, q2⟩
    · have hb' : b < s.heap.objs.size := by
        rcases (show b = e ∨ b = it by simpa using hb) with y | y
        · rw [y]; exact hel
        · rw [y]; exact hil
      rw [upd_ne (Nat.ne_of_lt hb')]
      exact (hf b hb).1
  done := by
    intro X hP hw hK hc i pins s σ H E I hf ⟨⟨old, he⟩, hit⟩ hg
    subst hP hw hK
    have D : Draws X.prog X.w X.A.in1 it [it] z.cps.size (SignAt z) (fun i h => h.IsStrIter it (strIterType z) z t i) := Draws.text (show X.A.in1.handled = none from I.ok.hd hc) it z t
    obtain ⟨f0, f1, f2, f3, f4, f5⟩ := hf it (by simp)
    have hg' : i = z.cps.size := hg
    subst hg'
    exact wpAny_pyNext_enum_endD D he hit fun h1 eb => ⟨rfl, I.turned (t' := s.toks) (fun b o hb q => eb b o hb q) f0 f1 f3 f4 f5⟩
  self := fun A i s Q E ⟨⟨_, he⟩, _⟩ h => wpAny_pyIter_enum he h
def iEnumS (ta : TA) : TI := fun σ H R => ta σ H fun vs H1 => ∃ z, vs = [.str z] ∧ R (ItE z) H1
theorem pi_enumS {X : Cx} {e : Expr} {ta : TA} {p pos tpos : Pos} {elts : List Expr} {kk : Nat} (hg : Gl X "enumerate") (hm : X.mg "enumerate" = none) (ha : PA X [e] ta) (hs : starEach [e] X.env = [(false, eval e X.env)] := by rfl) :
    PI X (.Tuple elts kk tpos) (.Call (.Name "enumerate" p) [e] [] pos) (iEnumS ta) := by
  refine ⟨fun pins s σ H R I h => ?_⟩
  refine Call_ (ld_blt I hg hm boot_enumerate (PyProof.Rows.callWith_type1 (thn (ha.run pos pins s σ H _ I h) fun us s1 ⟨vs, H1, I1, r1, z, ez, q⟩ => ?_) hs rfl))
  subst ez
  cases r1 with
  | cons r rr =>
    cases rr
    obtain ⟨t, rfl⟩ := (show ∃ t, _ = Value.str z t from r)
    refine call_enumerate_str fun h1 he hit hsz hk => wpAny_pyIter_enum he ?_
    have I2 : Inv X pins σ H1 { s1 with heap := h1 } := I1.kept (t' := s1.toks) hk
    refine ⟨s1.heap.objs.size + 1, [s1.heap.objs.size + 1, s1.heap.objs.size], _, _, H1, rfl, I2, turn_enumS (s1.heap.objs.size + 1) s1.heap.objs.size z t (Nat.succ_ne_self _), ⟨⟨.none, he⟩, hit⟩, fun b hb => ?_, q⟩
    have hle : s1.heap.objs.size ≤ b := by
      rcases (show b = s1.heap.objs.size + 1 ∨ b = s1.heap.objs.size by simpa using hb) with y | y
      · rw [y]; exact Nat.le_add_right _ _
      · rw [y]; exact Nat.le_refl _
    exact I1.fpOk hle (I1.hok.fresh hle)
end J
end

section
/-! add, close_up, read_letter, walk -/
namespace J
open PySem PySem.Spec PyProof.Rows L2
theorem scAdd : FnScope ["found", "key", "price"] ["found", "key", "price"] (defScope sAdd) := ⟨rfl, rfl, rfl, by decide +kernel, rfl, by decide +kernel, by decide +kernel⟩
def spAdd (P : Program) (w : World) : Sp := fun vs H Q _ => ∃ (a b : Addr) (m : Nat) (c : Bool) (kvs : BN) (n : Nat), vs = [.ref a, .ref b, .int ((n : Nat) : Int)] ∧ H b = some (.tup [.int ((m : Nat) - 1 : Int), .bl c]) ∧ DN P w H a kvs ∧ kvs.length < sizeLine ∧
  ∀ H', But a H H' → DN P w H' a (addN kvs (2 * m + b2 c) n) → Q .non H'
section
variable {P : Program} {w : World} {K : PySem.W.Frag} {mg : Str → Option Value} {base : Heap} {f : Addr} {fd : FuncData}
theorem get_far (kvs : BN) (n : Nat) : oV (.int 1000000) (look (decB kvs) (decK n)) = .int (((lookN kvs n).getD FARn : Nat) : Int) := by
  rw [look_dec]
  cases lookN kvs n <;> rfl
theorem ok_add (T : Tx mg) (F : FnP K "add" sAdd f fd) : FnOk P w K mg base CX0 1 f fd ["found", "key", "price"] (spAdd P w) := by
  obtain ⟨tF, hF⟩ := T.FAR
  refine F.ok scAdd (fun vs H Q E h => ?_) (fun cdv A outer s H vs Q E hr h => ?_)
  · obtain ⟨a, b, m, c, kvs, n, rfl, _⟩ := h
    rfl
  · obtain ⟨a, b, m, c, kvs, n, rfl, hb, d, hl, q⟩ := h
    refine ⟨_, PSs.nox (pss_one (ps_bput (hu_of hr) (pe_callB (call_min2 rfl) (by rfl) T.min (by decide +kernel) (pa_cons (pe_bget2 (hu_of hr) (pv 0) (pv 1) (pe_glob (v := .int 1000000) rfl hF ⟨_, rfl⟩)) (pa_cons (pv 2) pa_nil))) (pv 0) (pv 1))), ?_⟩
    refine ⟨.ref a, rfl, a, rfl, ⟨_, d⟩, .ref b, rfl, b, _, c, _, rfl, hb, d, ?_⟩
    rw [← decK_key m c, get_far]
    refine ⟨_, rfl, _, _, rfl, ?_⟩
    rw [min_dec]
    refine ⟨.ref a, rfl, .ref b, rfl, a, b, _, c, _, _, rfl, rfl, rfl, hb, d, by rw [decB_len]; exact hl, fun H' bt d' => ?_⟩
    rw [← decK_key m c, put_dec] at d'
    exact q H' bt d'
end
end J
end

section
namespace J
open PySem PySem.Spec PyProof.Rows L2
abbrev sS (x : Wd) : Str := ⟨x.toArray⟩
theorem sS_len (x : Wd) : (sS x).length = x.length := by simp [Str.length]
theorem sS_list (x : Wd) : (sS x).cps.toList = x := rfl
theorem same_new {H : Hp} {p : Addr} {o : HO} (hn : H p = none) : Same H (upd H p o) := fun b x e => by rw [upd_ne (ne_of_none e hn)]; exact e
theorem same_upd {H0 H : Hp} {p : Addr} {o : HO} (s : Same H0 H) (hn : H p = none) : Same H0 (upd H p o) := s.trans (same_new hn)
theorem same_but {H0 H H' : Hp} {p : Addr} (s : Same H0 H) (hn : H0 p = none) (b : But p H H') : Same H0 H' := fun c x e => by rw [b c (ne_of_none e hn)]; exact s c x e
theorem tup_in {K : PySem.W.Frag} {H : Hp} {a : Addr} {xs : List V} (h : H a = some (.tup xs)) : SqT K H a xs := .inl (.inl h)
theorem lst_in {K : PySem.W.Frag} {H : Hp} {a : Addr} {xs : List V} (h : H a = some (.lst xs)) : SqL K H a xs := .inl (.inl h)
theorem small_size {n : Nat} (h : n ≤ 1000) : n ≤ sizeLine := Nat.le_of_lt (small1000 h)
/-- None or a number -/
def tV : Option Nat → V
  | none => .non
  | some n => .int (n : Int)
theorem get_non (kvs : BN) (n : Nat) : oV .non (look (decB kvs) (decK n)) = tV (lookN kvs n) := by
  rw [look_dec]
  cases lookN kvs n <;> rfl
theorem tV_non (t : Option Nat) : (!decide (tV t = V.non)) = t.isSome := by
  cases t with
  | none => rfl
  | some n => rw [decide_eq_false (fun z => nomatch z)] <;> rfl
theorem DB.ne_tup {P : Program} {w : World} {H : Hp} {a t : Addr} {kvs : BD} {xs : List V} (d : DB P w H a kvs) (h : H t = some (.tup xs)) : t ≠ a := by
  obtain ⟨ks, h1, _⟩ := d
  exact ne_of h h1 fun z => nomatch z
theorem add_nat (n m : Nat) : ((n : Int) + (m : Int)) = ((n + m : Nat) : Int) := by omega
theorem KOk.told1 {b pr m : Nat} {acc : BN} (k : KOk b acc) (hm : 2 * m + 1 < b) (t : Option Nat) : KOk b (told1 pr m acc t) := by
  unfold J.told1
  cases t with
  | none => exact k
  | some n =>
    dsimp only
    cases Nat.ble 1 m
    · exact k
    · exact k.add hm _
theorem KOk.stepC {g : Wd} {pr m : Nat} {acc : BN} (k : KOk (2 * (g.length + 1)) acc) (hm : m ≤ g.length) : KOk (2 * (g.length + 1)) (stepC g pr acc m) := by
  unfold J.stepC
  have k2 := (k.told1 (pr := pr) (m := m) (by omega) (lookN acc (2 * m))).told1 (pr := pr) (m := m) (by omega) (lookN acc (2 * m + 1))
  dsimp only
  split
  · cases e : Nat.ble (m + 1) g.length with
    | false => exact k2
    | true => exact k2.add (by have := Nat.le_of_ble_eq_true e; omega) _
  · exact k2
def closeI (g : Wd) (pr : Nat) (kvs : BN) (i : Nat) : BN := (List.range i).foldl (stepC g pr) kvs
theorem closeI_succ (g : Wd) (pr : Nat) (kvs : BN) (i : Nat) : closeI g pr kvs (i + 1) = stepC g pr (closeI g pr kvs i) i := by
  unfold closeI
  rw [List.range_succ, List.foldl_append] <;> rfl
theorem closeI_ok {g : Wd} {pr : Nat} {kvs : BN} (k : KOk (2 * (g.length + 1)) kvs) : ∀ i, i ≤ g.length + 1 → KOk (2 * (g.length + 1)) (closeI g pr kvs i)
  | 0, _ => k
  | i + 1, h => by
    rw [closeI_succ]
    exact (closeI_ok k i (by omega)).stepC (by omega)
theorem scClose : FnScope ["goal", "best", "price", "found", "index", "told", "key"] ["goal", "best", "price"] (defScope sClose) := ⟨rfl, rfl, rfl, by decide +kernel, rfl, by decide +kernel, by decide +kernel⟩
def spClose (P : Program) (w : World) : Sp := fun vs H Q _ => ∃ (g : Wd) (a : Addr) (kvs : BN) (pr : Nat), vs = [.str (sS g), .ref a, .int ((pr : Nat) : Int)] ∧ g.length ≤ 3 ∧ DN P w H a kvs ∧ KOk (2 * (g.length + 1)) kvs ∧
  ∀ H' p, Same H H' → H p = none → DN P w H' p (closeN g kvs pr) → Q (.ref p) H'
section
variable {P : Program} {w : World} {K : PySem.W.Frag} {mg : Str → Option Value} {base : Heap} {f : Addr} {fd : FuncData}
theorem ok_close (T : Tx mg) (F : FnP K "close_up" sClose f fd) : FnOk P w K mg base CX0 1 f fd ["goal", "best", "price"] (spClose P w) := by
  obtain ⟨tF, hF⟩ := T.FAR
  refine F.ok scClose (fun vs H Q E h => ?_) (fun cdv A outer s H vs Q E hr h => ?_)
  · obtain ⟨g, a, kvs, pr, rfl, _⟩ := h
    rfl
  · obtain ⟨g, a, kvs, pr, rfl, hg, d, k, q⟩ := h
    refine ⟨_, PSs.nox (pss_cons (ps_set (i := 3) scClose.nd rfl (.inl rfl) (pe_callTy (cr_dictB hr.units) (by rfl) T.dict (by decide +kernel) (pa_cons (pv 1) pa_nil)))
      (pss_cons (ps_for PassesOwn.never rfl (pi_range2 (by rfl) T.range (pa_cons (pe_un un_neg pe_int) (pa_cons (pe_callB call_len_str (by rfl) T.len PySem.boot_len (pa_cons (pv 0) pa_nil)) pa_nil))) (pg_name (i := 4) scClose.nd rfl (.inl rfl))
        (pss_cons (ps_for PassesOwn.never rfl (pi_tup (pe_tup (pa_cons (pe_bget1 (hu_of hr) (pv 3) (pe_tup (pa_cons (pv 4) (pa_cons pe_bl pa_nil)))) (pa_cons (pe_bget1 (hu_of hr) (pv 3) (pe_tup (pa_cons (pv 4) (pa_cons pe_bl pa_nil)))) pa_nil)))) (pg_name (i := 5) scClose.nd rfl (.inl rfl))
          (pss_one (ps_if (PW.pt (pw_and (pt_cmp (pc_notN (pv 5))) (pw_and1 (pt_cmpR op_ge (pv 4) pe_int (nomark _)))))
            (pss_one (ps_bput (hu_of hr) (pe_callB (call_min2 rfl) (by rfl) T.min (by decide +kernel) (pa_cons (pe_bget2 (hu_of hr) (pv 3) (pe_tup (pa_cons (pv 4) (pa_cons pe_bl pa_nil))) (pe_glob (v := .int 1000000) rfl hF ⟨_, rfl⟩)) (pa_cons (pe_op op_add (pv 5) (pv 2)) pa_nil))) (pv 3) (pe_tup (pa_cons (pv 4) (pa_cons pe_bl pa_nil))))) pss_nil)))
        (pss_cons (ps_set (i := 5) scClose.nd rfl (.inl rfl) (pe_bget1 (hu_of hr) (pv 3) (pe_tup (pa_cons (pv 4) (pa_cons pe_bl pa_nil)))))
        (pss_one (ps_if (PW.pt (pw_and (pt_cmp (pc_notN (pv 5))) (pw_and1 (pt_cmpR op_lt (pe_op op_add (pv 4) pe_int) (pe_callB call_len_str (by rfl) T.len PySem.boot_len (pa_cons (pv 0) pa_nil)) (nomark _)))))
          (pss_cons (ps_set (i := 6) scClose.nd rfl (.inl rfl) (pe_tup (pa_cons (pe_op op_add (pv 4) pe_int) (pa_cons pe_bl pa_nil))))
          (pss_one (ps_bput (hu_of hr) (pe_callB (call_min2 rfl) (by rfl) T.min (by decide +kernel) (pa_cons (pe_bget2 (hu_of hr) (pv 3) (pv 6) (pe_glob (v := .int 1000000) rfl hF ⟨_, rfl⟩)) (pa_cons (pe_op op_add (pv 5) (pv 2)) pa_nil))) (pv 3) (pv 6)))) pss_nil)))))
      (pss_one (ps_ret (pv 3))))), ?_⟩
    have k8 : KOk 8 kvs := k.mono (by omega)
    -- found = dict(best)
    refine ⟨.ref a, rfl, a, _, rfl, d, k8.small, fun p H1 hn b1 d1 => ?_⟩
    have s1 : Same H H1 := same_but (Same.refl H) hn b1
    -- range(-1, len(goal))
    refine ⟨1, rfl, .str (sS g), rfl, _, rfl, by rw [sS_len]; exact small_size (by omega), -1, (g.length : Int), by rw [sS_len] <;> rfl, ⟨by decide, by decide, by omega, by omega⟩, ?_⟩
    have en : ((g.length : Int) - (-1)).toNat = g.length + 1 := by omega
    rw [en]
    refine for_range (lo := -1) (n := g.length + 1) (fun i σ H' => ∃ x4 x5 x6, σ = [some (.str (sS g)), some (.ref a), some (.int (pr : Int)), some (.ref p), x4, x5, x6] ∧ Same H H' ∧ DN P w H' p (closeI g pr kvs i)) ⟨none, none, none, rfl, s1, d1⟩ (fun i σ H2 hi hP => ?_) fun σ H2 hP => ?_
    · obtain ⟨x4, x5, x6, rfl, s2, d2⟩ := hP
      have ki := closeI_ok (pr := pr) k i (by omega)
      rw [closeI_succ]
      generalize closeI g pr kvs i = acc at d2 ki ⊢
      have ei : ((-1 : Int) + (i : Int)) = (i : Int) - 1 := by omega
      rw [ei]
      -- the pair of what stands there
      refine ⟨.ref p, rfl, p, rfl, ⟨_, d2⟩, _, rfl, by show 2 ≤ sizeLine; decide, fun T1 n1 => ⟨T1, _, _, _, rfl, upd_same, d2.same (same_new n1), ?_⟩⟩
      rw [← decK_open i, get_non]
      have d3 := d2.same (P := P) (w := w) (same_new (o := .tup [.int ((i : Int) - 1), .bl false]) n1)
      refine ⟨.ref p, rfl, p, rfl, ⟨_, d3⟩, _, rfl, by show 2 ≤ sizeLine; decide, fun T2 n2 => ⟨T2, _, _, _, rfl, upd_same, d3.same (same_new n2), ?_⟩⟩
      rw [← decK_shut i, get_non]
      have s4 := same_upd (o := .tup [.int ((i : Int) - 1), .bl true]) (same_upd (o := .tup [.int ((i : Int) - 1), .bl false]) s2 n1) n2
      have d4 := d3.same (P := P) (w := w) (same_new (o := .tup [.int ((i : Int) - 1), .bl true]) n2)
      generalize hH4 : upd (upd H2 T1 (.tup [.int ((i : Int) - 1), .bl false])) T2 (.tup [.int ((i : Int) - 1), .bl true]) = H4 at s4 d4 ⊢
      generalize ht1 : lookN acc (2 * i) = t1
      generalize ht2 : lookN acc (2 * i + 1) = t2
      refine ⟨by show 2 ≤ sizeLine; decide, fun T n => ⟨T, rfl, ⟨_, tup_in upd_same⟩, ?_⟩⟩
      have s5 := same_upd (o := .tup [tV t1, tV t2]) s4 n
      have d5 := d4.same (P := P) (w := w) (same_new (o := .tup [tV t1, tV t2]) n)
      refine for_tup (xs := [t1, t2].map tV) (fun j σ H' => ∃ x5 x6, σ = [some (.str (sS g)), some (.ref a), some (.int (pr : Int)), some (.ref p), some (.int ((i : Int) - 1)), x5, x6] ∧ Same H H' ∧ DN P w H' p (([t1, t2].take j).foldl (told1 pr i) acc) ∧ H' T = some (.tup [tV t1, tV t2]) ∧ KOk (2 * (g.length + 1)) (([t1, t2].take j).foldl (told1 pr i) acc))
        ⟨x5, x6, rfl, s5, d5, upd_same, ki⟩ (fun j σ H' _ ⟨_, _, _, _, _, z, _⟩ => tup_in z) (fun j x σ H5 hx hP => ?_) fun σ H5 hP => ?_
      · obtain ⟨y5, y6, rfl, s6, d6, hT, k6⟩ := hP
        rw [List.getElem?_map] at hx
        cases ht : [t1, t2][j]? with
        | none => rw [ht] at hx; cases hx
        | some t =>
          rw [ht] at hx
          have hx' : tV t = x := Option.some.inj hx
          subst hx'
          have e9 : ([t1, t2].take (j + 1)).foldl (told1 pr i) acc = told1 pr i (([t1, t2].take j).foldl (told1 pr i) acc) t := by
            rw [List.take_add_one, ht, List.foldl_append] <;> rfl
          have k7 := k6.told1 (pr := pr) (m := i) (by omega) t
          rw [e9]
          generalize ([t1, t2].take j).foldl (told1 pr i) acc = cur at d6 k6 k7 ⊢
          refine ⟨tV t, rfl, _, rfl, ?_⟩
          rw [tV_non]
          cases t with
          | none => exact iteF (iteF ⟨_, _, rfl, s6, d6, hT, k6⟩)
          | some n =>
            refine iteT ⟨_, rfl, _, _, rfl, rfl, _, rfl, ?_⟩
            by_cases h1 : 1 ≤ i
            · rw [decide_eq_true (show (0 : Int) ≤ (i : Int) - 1 by omega)]
              have ev : told1 pr i cur (some n) = addN cur (2 * i + 1) (n + pr) := by
                show cond (Nat.ble 1 i) _ _ = _
                rw [Nat.ble_eq_true_of_le h1] <;> rfl
              rw [ev] at k7 ⊢
              refine iteT ?_
              refine ⟨.ref p, rfl, p, rfl, ⟨_, d6⟩, _, rfl, by show 2 ≤ sizeLine; decide, fun T3 n3 => ⟨T3, _, _, _, rfl, upd_same, d6.same (same_new n3), ?_⟩⟩
              rw [← decK_shut i, get_far]
              refine ⟨.int (n : Int), rfl, .int (pr : Int), rfl, _, _, rfl, rfl, ⟨_, _, rfl, ?_⟩⟩
              rw [add_nat, min_dec]
              have s7 := same_upd (o := .tup [.int ((i : Int) - 1), .bl true]) s6 n3
              have d7 := d6.same (P := P) (w := w) (same_new (o := .tup [.int ((i : Int) - 1), .bl true]) n3)
              refine ⟨.ref p, rfl, _, rfl, by show 2 ≤ sizeLine; decide, fun T4 n4 => ⟨p, T4, _, _, _, _, rfl, rfl, rfl, upd_same, d7.same (same_new n4), ?_, fun H9 b9 d9 => ?_⟩⟩
              · rw [decB_len]
                exact Nat.lt_of_le_of_lt k6.len (Nat.lt_of_le_of_lt (show 2 * (g.length + 1) ≤ 8 by omega) (by decide))
              · rw [← decK_shut i, put_dec] at d9
                have s8 := same_upd (o := .tup [.int ((i : Int) - 1), .bl true]) s7 n4
                refine ⟨_, _, rfl, same_but s8 hn b9, d9, ?_, k7⟩
                rw [b9 T (d6.ne_tup hT)]
                exact same_new n4 _ _ (same_new n3 _ _ hT)
            · rw [decide_eq_false (show ¬ (0 : Int) ≤ (i : Int) - 1 by omega)]
              have ev : told1 pr i cur (some n) = cur := by
                show cond (Nat.ble 1 i) _ _ = _
                have : i = 0 := by omega
                subst this <;> rfl
              rw [ev]
              exact iteF ⟨_, _, rfl, s6, d6, hT, k6⟩
      · obtain ⟨y5, y6, rfl, s6, d6, hT, k6⟩ := hP
        have ea : ([t1, t2].take ([t1, t2].map tV).length).foldl (told1 pr i) acc = told1 pr i (told1 pr i acc t1) t2 := rfl
        rw [ea] at d6 k6
        have est : stepC g pr acc i = match lookN (told1 pr i (told1 pr i acc t1) t2) (2 * i + 1) with
            | some n => cond (Nat.ble (i + 1) g.length) (addN (told1 pr i (told1 pr i acc t1) t2) (2 * (i + 1) + 1) (n + pr)) (told1 pr i (told1 pr i acc t1) t2)
            | none => told1 pr i (told1 pr i acc t1) t2 := by
          unfold stepC
          rw [ht1, ht2] <;> rfl
        rw [est]
        generalize told1 pr i (told1 pr i acc t1) t2 = cur at d6 k6 ⊢
        -- told = found.get((index, True))
        refine ⟨.ref p, rfl, p, rfl, ⟨_, d6⟩, _, rfl, by show 2 ≤ sizeLine; decide, fun T3 n3 => ⟨T3, _, _, _, rfl, upd_same, d6.same (same_new n3), ?_⟩⟩
        rw [← decK_shut i, get_non]
        have s7 := same_upd (o := .tup [.int ((i : Int) - 1), .bl true]) s6 n3
        have d7 := d6.same (P := P) (w := w) (same_new (o := .tup [.int ((i : Int) - 1), .bl true]) n3)
        refine ⟨tV (lookN cur (2 * i + 1)), rfl, _, rfl, ?_⟩
        rw [tV_non]
        cases lookN cur (2 * i + 1) with
        | none => exact iteF (iteF ⟨_, _, _, rfl, s7, d7⟩)
        | some n =>
          refine iteT ⟨.int ((i : Int) - 1), rfl, _, _, rfl, rfl, .str (sS g), rfl, _, rfl, by rw [sS_len]; exact small_size (by omega), _, _, rfl, rfl, _, rfl, ?_⟩
          rw [sS_len]
          have e1 : ((i : Int) - 1 + 1) = (i : Int) := by omega
          rw [e1]
          dsimp only
          by_cases h1 : i + 1 ≤ g.length
          · rw [decide_eq_true (show (i : Int) < (g.length : Int) by omega), Nat.ble_eq_true_of_le h1]
            refine iteT ?_
            -- key = (index + 1, True)
            refine ⟨.int ((i : Int) - 1), rfl, _, _, rfl, rfl, by show 2 ≤ sizeLine; decide, fun T4 n4 => ?_⟩
            rw [show ((fun (a b : Int) => V.int (a + b)) ((i : Int) - 1) 1) = V.int (i : Int) from congrArg V.int e1]
            have s8 := same_upd (o := .tup [.int (i : Int), .bl true]) s7 n4
            have d8 := d7.same (P := P) (w := w) (same_new (o := .tup [.int (i : Int), .bl true]) n4)
            have ek : ((i : Int), true) = decK (2 * (i + 1) + 1) := by
              rw [decK_shut]
              have : (((i + 1 : Nat) : Int) - 1) = (i : Int) := by omega
              rw [this]
            refine ⟨.ref p, rfl, p, rfl, ⟨_, d8⟩, .ref T4, rfl, T4, _, _, _, rfl, upd_same, d8, ?_⟩
            rw [ek, get_far]
            refine ⟨.int (n : Int), rfl, .int (pr : Int), rfl, _, _, rfl, rfl, ⟨_, _, rfl, ?_⟩⟩
            rw [add_nat, min_dec]
            refine ⟨.ref p, rfl, .ref T4, rfl, p, T4, _, _, _, _, rfl, rfl, rfl, upd_same, d8, ?_, fun H9 b9 d9 => ?_⟩
            · rw [decB_len]
              exact Nat.lt_of_le_of_lt k6.len (Nat.lt_of_le_of_lt (show 2 * (g.length + 1) ≤ 8 by omega) (by decide))
            · rw [ek, put_dec] at d9
              exact ⟨_, _, _, rfl, same_but s8 hn b9, d9⟩
          · rw [decide_eq_false (show ¬ (i : Int) < (g.length : Int) by omega)]
            have e2 : Nat.ble (i + 1) g.length = false := by
              cases e : Nat.ble (i + 1) g.length with
              | false => rfl
              | true => exact absurd (Nat.le_of_ble_eq_true e) h1
            rw [e2]
            exact iteF ⟨_, _, _, rfl, s7, d7⟩
    · obtain ⟨x4, x5, x6, rfl, s2, d2⟩ := hP
      exact ⟨.ref p, rfl, q H2 p s2 hn d2⟩
end
end J
end

section
namespace J
open PySem PySem.Spec PyProof.Rows L2
/-- between two stores, while the dict at a is walked -/
structure RL (P : Program) (w : World) (H : Hp) (a p : Addr) (od : Obj) (ks : List BE) (H' : Hp) (cur : BN) : Prop where
  frz : H' a = some (.frz od (DBo P w a ks))
  same : ∀ b o, b ≠ a → H b = some o → H' b = some o
  db : DN P w H' p cur
  tups : DBt H' ks
section
variable {P : Program} {w : World} {H : Hp} {a p : Addr} {od : Obj} {ks : List BE} {H' H'' : Hp} {cur cur' : BN}
theorem RL.new {T : Addr} {o : HO} (r : RL P w H a p od ks H' cur) (n : H' T = none) : RL P w H a p od ks (upd H' T o) cur :=
  ⟨same_new n _ _ r.frz, fun b x h e => same_new n _ _ (r.same b x h e), r.db.same (same_new n), fun e he => same_new n _ _ (r.tups e he)⟩
theorem RL.but (r : RL P w H a p od ks H' cur) (hn : H p = none) (hap : a ≠ p) (b : But p H' H'') (d : DN P w H'' p cur') : RL P w H a p od ks H'' cur' :=
  ⟨by rw [b a hap]; exact r.frz, fun c x h e => by rw [b c (ne_of_none e hn)]; exact r.same c x h e, d, fun e he => by rw [b _ (r.db.ne_tup (r.tups e he))]; exact r.tups e he⟩
theorem RL.go {R : Hp → Prop} (r : RL P w H a p od ks H' cur) (hn : H p = none) (hap : a ≠ p) (h : ∀ H'', RL P w H a p od ks H'' cur' → R H'') : ∀ H'', But p H' H'' → DN P w H'' p cur' → R H'' :=
  fun H'' b d => h H'' (r.but hn hap b d)
theorem len8 {z : BN} (k : KOk 8 z) : z.length < sizeLine := Nat.lt_of_le_of_lt k.len (by decide)
theorem ar_eq {p T : Addr} {x y : Int} (e : x = y) : [V.ref p, V.ref T, V.int x] = [V.ref p, V.ref T, V.int y] := by rw [e]
end
theorem scRead : FnScope ["goal", "best", "letter", "left_out", "changed", "found", "index", "closed", "spent"] ["goal", "best", "letter", "left_out", "changed"] (defScope sRead) := ⟨rfl, rfl, rfl, by decide +kernel, rfl, by decide +kernel, by decide +kernel⟩
def spRead (P : Program) (w : World) : Sp := fun vs H Q _ => ∃ (g : Wd) (a : Addr) (kvs : BN) (c lo ch : Nat), vs = [.str (sS g), .ref a, .str (sS [c]), .int ((lo : Nat) : Int), .int ((ch : Nat) : Int)] ∧ g.length ≤ 3 ∧ DN P w H a kvs ∧ KOk (2 * (g.length + 1)) kvs ∧
  ∀ H' p, Same H H' → H p = none → DN P w H' p (readN g kvs c lo ch) → Q (.ref p) H'
theorem dec_sign (c d : Nat) : decide (V.str ⟨#[c]⟩ = V.str ⟨#[d]⟩) = decide (c = d) := by
  by_cases e : c = d
  · rw [e, decide_eq_true rfl, decide_eq_true rfl]
  · rw [decide_eq_false e, decide_eq_false]
    intro z
    have z1 : (⟨#[c]⟩ : Str) = ⟨#[d]⟩ := V.str.inj z
    have z2 := congrArg (fun y : Str => y.cps.toList) z1
    exact e (List.cons.inj z2).1
theorem dec_at {g : Wd} {c : Nat} {k : Nat} {d : Nat} (h : g[k]? = some d) : decide (V.str ⟨#[c]⟩ = V.str ⟨#[d]⟩) = hasAt g c k := by
  rw [dec_sign]
  unfold hasAt
  rw [h]
  by_cases e : c = d
  · rw [e, decide_eq_true rfl, decide_eq_true rfl]
  · rw [decide_eq_false e, decide_eq_false (fun z => e (Option.some.inj z).symm)]
theorem at_str {g : Wd} {k : Nat} {d : Nat} {i : Int} (hi : i = (k : Int)) (h : g[k]? = some d) : atI (sS g).cps.toList i = some d := by
  rw [sS_list]
  subst hi
  exact atI_nat h
theorem KOk.stepR {g : Wd} {c lo ch : Nat} {acc : BN} {x : Nat × Nat} (k : KOk (2 * (g.length + 1)) acc) (hx : x.1 < 2 * (g.length + 1)) : KOk (2 * (g.length + 1)) (stepR g c lo ch acc x) := by
  unfold J.stepR
  have hm : x.1 / 2 ≤ g.length := by omega
  have hb : ∀ b, b2 b ≤ 1 := fun b => by cases b <;> decide
  have k1 := k.add hx (x.2 + lo)
  dsimp only
  have k2 : KOk (2 * (g.length + 1)) (cond (Nat.ble 1 (x.1 / 2)) (addN (addN (addN (addN acc x.1 (x.2 + lo)) (2 * (x.1 / 2) + b2 (hasAt g c (x.1 / 2 - 1))) x.2) (2 * (x.1 / 2) + 1) (x.2 + ch)) (2 * (x.1 / 2)) (x.2 + ch)) (addN acc x.1 (x.2 + lo))) := by
    cases Nat.ble 1 (x.1 / 2)
    · exact k1
    · exact ((k1.add (by have := hb (hasAt g c (x.1 / 2 - 1)); omega) _).add (by omega) _).add (by omega) _
  cases e : (Nat.beq (x.1 % 2) 1 && Nat.ble (x.1 / 2 + 1) g.length) with
  | false => exact k2
  | true =>
    have e2 := Nat.le_of_ble_eq_true (Bool.and_eq_true_iff.mp e).2
    exact k2.add (by omega) _
theorem key_of_num (n : Nat) : ∃ m b, n = 2 * m + b2 b := by
  rcases Nat.mod_two_eq_zero_or_one n with h | h
  · exact ⟨n / 2, false, by show n = 2 * (n / 2) + 0; omega⟩
  · exact ⟨n / 2, true, by show n = 2 * (n / 2) + 1; omega⟩
theorem stepR_key (g : Wd) (c lo ch : Nat) (acc : BN) (m : Nat) (b : Bool) (v : Nat) : stepR g c lo ch acc (2 * m + b2 b, v) =
    cond (b && Nat.ble (m + 1) g.length) (addN (cond (Nat.ble 1 m) (addN (addN (addN (addN acc (2 * m + b2 b) (v + lo)) (2 * m + b2 (hasAt g c (m - 1))) v) (2 * m + 1) (v + ch)) (2 * m) (v + ch)) (addN acc (2 * m + b2 b) (v + lo))) (2 * (m + 1) + 1) (v + cond (hasAt g c m) 0 ch))
      (cond (Nat.ble 1 m) (addN (addN (addN (addN acc (2 * m + b2 b) (v + lo)) (2 * m + b2 (hasAt g c (m - 1))) v) (2 * m + 1) (v + ch)) (2 * m) (v + ch)) (addN acc (2 * m + b2 b) (v + lo))) := by
  have h1 : (2 * m + b2 b) / 2 = m := by cases b <;> (simp only [b2, cond_true, cond_false]; omega)
  have h2 : Nat.beq ((2 * m + b2 b) % 2) 1 = b := by
    have e : decK (2 * m + b2 b) = ((m : Int) - 1, b) := decK_key m b
    exact congrArg Prod.snd e
  unfold stepR
  dsimp only
  rw [h1, h2]
def readI (g : Wd) (kvs : BN) (c lo ch i : Nat) : BN := (kvs.take i).foldl (stepR g c lo ch) []
theorem readI_succ {g : Wd} {kvs : BN} {c lo ch i : Nat} {x : Nat × Nat} (h : kvs[i]? = some x) : readI g kvs c lo ch (i + 1) = stepR g c lo ch (readI g kvs c lo ch i) x := by
  unfold readI
  rw [List.take_add_one, h, List.foldl_append] <;> rfl
theorem readI_ok {g : Wd} {kvs : BN} {c lo ch : Nat} (k : KOk (2 * (g.length + 1)) kvs) : ∀ i, KOk (2 * (g.length + 1)) (readI g kvs c lo ch i)
  | 0 => KOk.nil _
  | i + 1 => by
    cases e : kvs[i]? with
    | none =>
      have h := List.getElem?_eq_none_iff.mp e
      have e1 : readI g kvs c lo ch (i + 1) = readI g kvs c lo ch i := by
        unfold readI
        rw [List.take_of_length_le (by omega), List.take_of_length_le h]
      rw [e1]
      exact readI_ok k i
    | some x =>
      rw [readI_succ e]
      exact (readI_ok k i).stepR (k.lt x (List.mem_of_getElem? e))
section
variable {P : Program} {w : World} {K : PySem.W.Frag} {mg : Str → Option Value} {base : Heap} {f : Addr} {fd : FuncData}
theorem ok_read (T : Tx mg) (OA : OkD P w K mg base 1 "add" ["found", "key", "price"] (spAdd P w)) (F : FnP K "read_letter" sRead f fd) : FnOk P w K mg base CX0 2 f fd ["goal", "best", "letter", "left_out", "changed"] (spRead P w) := by
  refine F.ok scRead (fun vs H Q E h => ?_) (fun cdv A outer s H vs Q E hr h => ?_)
  · obtain ⟨g, a, kvs, c, lo, ch, rfl, _⟩ := h
    rfl
  · obtain ⟨g, a, kvs, c, lo, ch, rfl, hg, d, k, q⟩ := h
    refine ⟨_, PSs.nox (pss_cons (ps_set (i := 5) scRead.nd rfl (.inl rfl) pe_bnew)
      (pss_cons (ps_lock (ps_for PassesOwn.never rfl (pi_itemsB (pv 1)) (pg_tup rfl (pgs_cons (pg_tup rfl (pgs_cons (pg_name (i := 6) scRead.nd rfl (.inl rfl)) (pgs_cons (pg_name (i := 7) scRead.nd rfl (.inl rfl)) pgs_nil))) (pgs_cons (pg_name (i := 8) scRead.nd rfl (.inl rfl)) pgs_nil)))
        (pss_cons (ps_expr (pe_callO OA hr (by rfl) (pa_cons (pv 5) (pa_cons (pe_tup (pa_cons (pv 6) (pa_cons (pv 7) pa_nil))) (pa_cons (pe_op op_add (pv 8) (pv 3)) pa_nil)))))
        (C8.pss_cut (ps_if (pt_cmpR op_ge (pv 6) pe_int (nomark _))
          (pss_cons (ps_expr (pe_callO OA hr (by rfl) (pa_cons (pv 5) (pa_cons (pe_tup (pa_cons (pv 6) (pa_cons (pe_cmpR op_eq (pv 2) (pe_ix ix_str (pv 0) (pv 6) (fun _ _ => rfl)) (nomark _)) pa_nil))) (pa_cons (pv 8) pa_nil)))))
          (pss_cons (ps_expr (pe_callO OA hr (by rfl) (pa_cons (pv 5) (pa_cons (pe_tup (pa_cons (pv 6) (pa_cons pe_bl pa_nil))) (pa_cons (pe_op op_add (pv 8) (pv 4)) pa_nil)))))
          (pss_one (ps_expr (pe_callO OA hr (by rfl) (pa_cons (pv 5) (pa_cons (pe_tup (pa_cons (pv 6) (pa_cons pe_bl pa_nil))) (pa_cons (pe_op op_add (pv 8) (pv 4)) pa_nil))))))))
          pss_nil)
        (pss_one (ps_if (PW.pt (pw_and (pt_val (pv 7)) (pw_and1 (pt_cmpR op_lt (pe_op op_add (pv 6) pe_int) (pe_callB call_len_str (by rfl) T.len PySem.boot_len (pa_cons (pv 0) pa_nil)) (nomark _)))))
          (pss_one (ps_expr (pe_callO OA hr (by rfl) (pa_cons (pv 5) (pa_cons (pe_tup (pa_cons (pe_op op_add (pv 6) pe_int) (pa_cons pe_bl pa_nil))) (pa_cons (pe_op op_add (pv 8) (pe_ifExp (pt_cmpR op_eq (pv 2) (pe_ix ix_str (pv 0) (pe_op op_add (pv 6) pe_int) (fun _ _ => rfl)) (nomark _)) pe_int (pv 4))) pa_nil))))))
          pss_nil))))))
      (pss_one (ps_ret (pv 5))))), ?_⟩
    -- found = {}
    refine fun p H1 hn b1 d1 => ?_
    have s1 : Same H H1 := same_but (Same.refl H) hn b1
    obtain ⟨ks, hks, htp, hpr⟩ := d
    have hap : a ≠ p := ne_of_none hks hn
    have hk1 : H1 a = some (DBo P w a ks) := s1 _ _ hks
    refine ⟨a, DBo P w a ks, hk1, trivial, fun od => ?_⟩
    have r0 : RL P w H a p od ks (upd H1 a (.frz od (DBo P w a ks))) [] := by
      refine ⟨upd_same, fun b o h e => by rw [upd_ne h]; exact s1 b o e, d1.keep (upd_ne hap.symm) fun b xs e => ?_, fun e he => ?_⟩
      · rw [upd_ne (ne_of e hk1 fun z => nomatch z)]
        exact e
      · rw [upd_ne (ne_of (s1 _ _ (htp e he)) hk1 fun z => nomatch z)]
        exact s1 _ _ (htp e he)
    have hlen : ks.length = kvs.length := by
      have e := congrArg List.length hpr
      simp only [pairB, List.length_map, decB_len] at e
      exact e
    have hent : ∀ (i : Nat) (e : BE), ks[i]? = some e → ∃ x, kvs[i]? = some x ∧ e.1 = decK x.1 ∧ e.2.2 = (x.2 : Int) := fun i e he => by
      have z : (pairB ks)[i]? = (decB kvs)[i]? := by rw [hpr]
      unfold pairB decB at z
      rw [List.getElem?_map, List.getElem?_map, he] at z
      cases y : kvs[i]? with
      | none => rw [y] at z; cases z
      | some x =>
        rw [y] at z
        have z2 := Option.some.inj z
        exact ⟨x, rfl, congrArg Prod.fst z2, congrArg Prod.snd z2⟩
    refine ⟨.ref a, rfl, a, od, ks, rfl, r0.frz, r0.tups, ?_⟩
    refine for_it walk_itemsB (fun i σ H' => ∃ x6 x7 x8, σ = [some (.str (sS g)), some (.ref a), some (.str (sS [c])), some (.int (lo : Int)), some (.int (ch : Int)), some (.ref p), x6, x7, x8] ∧ RL P w H a p od ks H' (readI g kvs c lo ch i)) ⟨none, none, none, rfl, r0⟩
      (fun i σ H' _ ⟨_, _, _, _, r⟩ => ⟨r.frz, r.tups⟩) (fun i x σ H2 H3 hi hP hy => ?_) fun σ H2 hP => ?_
    · obtain ⟨x6, x7, x8, rfl, r2⟩ := hP
      obtain ⟨T, e, he, rfl, nT, rfl⟩ := hy
      obtain ⟨x, hx, e1, e2⟩ := hent i e he
      have hxk := k.lt x (List.mem_of_getElem? hx)
      rw [readI_succ hx]
      have kc := readI_ok (c := c) (lo := lo) (ch := ch) k i
      generalize readI g kvs c lo ch i = cur at r2 kc ⊢
      have r3 := r2.new (o := .tup [.ref e.2.1, .int e.2.2]) nT
      have hq : (upd H2 T (.tup [.ref e.2.1, .int e.2.2])) e.2.1 = some (.tup [.int e.1.1, .bl e.1.2]) := r3.tups e (List.mem_of_getElem? he)
      refine ⟨T, _, rfl, tup_in upd_same, rfl, _, _, rfl, ⟨_, _, rfl, tup_in hq, rfl, _, _, rfl, _, _, rfl, rfl, _, _, rfl, rfl, ?_⟩⟩
      clear hq
      obtain ⟨n, v⟩ := x
      obtain ⟨m, b, rfl⟩ := key_of_num n
      dsimp only at hxk e1 e2
      rw [decK_key m b] at e1
      have e1a : e.1.1 = (m : Int) - 1 := congrArg Prod.fst e1
      have e1b : e.1.2 = b := congrArg Prod.snd e1
      rw [e1a, e1b, e2]
      rw [e2] at r3
      generalize upd H2 T (.tup [.ref e.2.1, .int (v : Int)]) = H4 at r3 ⊢
      clear r2 nT e1 e1a e1b e2 he hx
      have hm3 : m ≤ g.length := by omega
      rw [stepR_key]
      have kb : ∀ y : Bool, 2 * m + b2 y < 2 * (g.length + 1) := fun y => by cases y <;> (simp only [b2, cond_true, cond_false]; omega)
      have c8 : ∀ {z : BN}, KOk (2 * (g.length + 1)) z → KOk 8 z := fun z => z.mono (by omega)
      -- add(found, (index, closed), spent + left_out)
      refine ⟨.ref p, rfl, .int _, rfl, .bl _, rfl, by show 2 ≤ sizeLine; decide, fun T1 n1 => ⟨.int (v : Int), rfl, .int (lo : Int), rfl, _, _, rfl, rfl, ?_⟩⟩
      refine ⟨p, T1, m, b, cur, v + lo, ar_eq (add_nat v lo), upd_same, (r3.new n1).db, len8 (c8 kc), (r3.new n1).go hn hap fun H5 r5 => ?_⟩
      have k5 := kc.add hxk (v + lo)
      generalize addN cur (2 * m + b2 b) (v + lo) = a1 at r5 k5 ⊢
      refine ⟨fun σ' H' => σ' = [some (.str (sS g)), some (.ref a), some (.str (sS [c])), some (.int (lo : Int)), some (.int (ch : Int)), some (.ref p), some (.int ((m : Int) - 1)), some (.bl b), some (.int (v : Int))] ∧
        RL P w H a p od ks H' (cond (Nat.ble 1 m) (addN (addN (addN a1 (2 * m + b2 (hasAt g c (m - 1))) v) (2 * m + 1) (v + ch)) (2 * m) (v + ch)) a1), ?_, ?_⟩
      · -- if index >= 0
        refine ⟨_, rfl, _, _, rfl, rfl, _, rfl, ?_⟩
        by_cases h1 : 1 ≤ m
        · rw [decide_eq_true (show (0 : Int) ≤ (m : Int) - 1 by omega), Nat.ble_eq_true_of_le h1]
          obtain ⟨dd, hdd⟩ : ∃ dd, g[m - 1]? = some dd := ⟨g[m - 1], List.getElem?_eq_getElem (by omega)⟩
          refine iteT ?_
          refine ⟨.ref p, rfl, .int _, rfl, .str (sS [c]), rfl, .str (sS g), rfl, .int _, rfl, sS g, _, dd, rfl, rfl, by rw [sS_len]; exact small_size (by omega), at_str (k := m - 1) (by omega) hdd, rfl, ?_⟩
          rw [show decide (V.str (sS [c]) = V.str ⟨#[dd]⟩) = hasAt g c (m - 1) from dec_at hdd]
          refine ⟨by show 2 ≤ sizeLine; decide, fun T2 n2 => ⟨.int (v : Int), rfl, ?_⟩⟩
          refine ⟨p, T2, m, hasAt g c (m - 1), a1, v, rfl, upd_same, (r5.new n2).db, len8 (c8 k5), (r5.new n2).go hn hap fun H6 r6 => ?_⟩
          have k6 := k5.add (kb (hasAt g c (m - 1))) v
          generalize addN a1 (2 * m + b2 (hasAt g c (m - 1))) v = a2 at r6 k6 ⊢
          refine ⟨.ref p, rfl, .int _, rfl, by show 2 ≤ sizeLine; decide, fun T3 n3 => ⟨.int (v : Int), rfl, .int (ch : Int), rfl, _, _, rfl, rfl, ?_⟩⟩
          refine ⟨p, T3, m, true, a2, v + ch, ar_eq (add_nat v ch), upd_same, (r6.new n3).db, len8 (c8 k6), (r6.new n3).go hn hap fun H7 r7 => ?_⟩
          have k7 := k6.add (kb true) (v + ch)
          rw [show (2 * m + b2 true) = 2 * m + 1 from rfl] at r7 k7
          generalize addN a2 (2 * m + 1) (v + ch) = a3 at r7 k7 ⊢
          refine ⟨.ref p, rfl, .int _, rfl, by show 2 ≤ sizeLine; decide, fun T4 n4 => ⟨.int (v : Int), rfl, .int (ch : Int), rfl, _, _, rfl, rfl, ?_⟩⟩
          exact ⟨p, T4, m, false, a3, v + ch, ar_eq (add_nat v ch), upd_same, (r7.new n4).db, len8 (c8 k7), (r7.new n4).go hn hap fun H8 r8 => ⟨rfl, r8⟩⟩
        · rw [decide_eq_false (show ¬ (0 : Int) ≤ (m : Int) - 1 by omega)]
          have : m = 0 := by omega
          subst this
          exact iteF ⟨rfl, r5⟩
      · rintro σ' H' ⟨rfl, r6⟩
        have k6 : KOk (2 * (g.length + 1)) (cond (Nat.ble 1 m) (addN (addN (addN a1 (2 * m + b2 (hasAt g c (m - 1))) v) (2 * m + 1) (v + ch)) (2 * m) (v + ch)) a1) := by
          cases Nat.ble 1 m
          · exact k5
          · exact ((k5.add (kb _) _).add (kb true) _).add (kb false) _
        generalize cond (Nat.ble 1 m) (addN (addN (addN a1 (2 * m + b2 (hasAt g c (m - 1))) v) (2 * m + 1) (v + ch)) (2 * m) (v + ch)) a1 = a2 at r6 k6 ⊢
        refine ⟨.bl b, rfl, b, rfl, ?_⟩
        cases b with
        | false => exact iteF (iteF ⟨_, _, _, rfl, r6⟩)
        | true =>
          refine iteT ⟨.int ((m : Int) - 1), rfl, _, _, rfl, rfl, .str (sS g), rfl, _, rfl, by rw [sS_len]; exact small_size (by omega), _, _, rfl, rfl, _, rfl, ?_⟩
          have e1 : ((m : Int) - 1 + 1) = (m : Int) := by omega
          rw [sS_len, e1, Bool.true_and]
          by_cases h1 : m + 1 ≤ g.length
          · rw [decide_eq_true (show (m : Int) < (g.length : Int) by omega), Nat.ble_eq_true_of_le h1]
            obtain ⟨dd, hdd⟩ : ∃ dd, g[m]? = some dd := ⟨g[m], List.getElem?_eq_getElem (by omega)⟩
            refine iteT ?_
            refine ⟨.ref p, rfl, .int _, rfl, _, _, rfl, rfl, by show 2 ≤ sizeLine; decide, fun T2 n2 => ?_⟩
            rw [show ((fun (x y : Int) => V.int (x + y)) ((m : Int) - 1) 1) = V.int (m : Int) from congrArg V.int e1]
            refine ⟨.int (v : Int), rfl, .str (sS [c]), rfl, .str (sS g), rfl, .int _, rfl, _, _, rfl, rfl, sS g, _, dd, rfl, rfl, by rw [sS_len]; exact small_size (by omega), at_str (k := m) e1 hdd, rfl, _, rfl, ?_⟩
            rw [show decide (V.str (sS [c]) = V.str ⟨#[dd]⟩) = hasAt g c m from dec_at hdd]
            have ek : H' T2 = none → (upd H' T2 (.tup [.int (m : Int), .bl true])) T2 = some (.tup [.int (((m + 1 : Nat) : Int) - 1), .bl true]) := fun _ => by
              rw [upd_same, show (((m + 1 : Nat) : Int) - 1) = (m : Int) by omega]
            cases hasAt g c m with
            | true =>
              refine iteT ⟨_, _, rfl, rfl, ?_⟩
              exact ⟨p, T2, m + 1, true, a2, v + 0, ar_eq (add_nat v 0), ek n2, (r6.new n2).db, len8 (c8 k6), (r6.new n2).go hn hap fun H8 r8 => ⟨_, _, _, rfl, r8⟩⟩
            | false =>
              refine iteF ⟨.int (ch : Int), rfl, _, _, rfl, rfl, ?_⟩
              exact ⟨p, T2, m + 1, true, a2, v + ch, ar_eq (add_nat v ch), ek n2, (r6.new n2).db, len8 (c8 k6), (r6.new n2).go hn hap fun H8 r8 => ⟨_, _, _, rfl, r8⟩⟩
          · rw [decide_eq_false (show ¬ (m : Int) < (g.length : Int) by omega)]
            have e2 : Nat.ble (m + 1) g.length = false := by
              cases e : Nat.ble (m + 1) g.length with
              | false => rfl
              | true => exact absurd (Nat.le_of_ble_eq_true e) h1
            rw [e2]
            exact iteF ⟨_, _, _, rfl, r6⟩
    · obtain ⟨x6, x7, x8, rfl, r2⟩ := hP
      refine ⟨r2.frz, .ref p, rfl, q _ p (fun b o e => ?_) hn ?_⟩
      · by_cases hb : b = a
        · rw [hb] at e ⊢
          rw [upd_same, ← hks]
          exact e
        · rw [upd_ne hb]
          exact r2.same b o hb e
      · have ee : readI g kvs c lo ch ks.length = readN g kvs c lo ch := by
          unfold readI readN
          rw [hlen, List.take_length]
        have d2 := r2.db
        rw [ee] at d2
        refine d2.keep (upd_ne hap.symm) fun b xs e => ?_
        rw [upd_ne (ne_of e r2.frz fun z => nomatch z)]
        exact e
end
end J
end

section
namespace J
open PySem PySem.Spec PyProof.Rows L2
theorem closeN_ok {g : Wd} {pr : Nat} {kvs : BN} (k : KOk (2 * (g.length + 1)) kvs) : KOk (2 * (g.length + 1)) (closeN g kvs pr) := closeI_ok k (g.length + 1) (Nat.le_refl _)
theorem readN_ok {g : Wd} {kvs : BN} {c lo ch : Nat} (k : KOk (2 * (g.length + 1)) kvs) : KOk (2 * (g.length + 1)) (readN g kvs c lo ch) := by
  have q := readI_ok (c := c) (lo := lo) (ch := ch) k kvs.length
  unfold readI at q
  rw [List.take_length] at q
  exact q
theorem scWalk : FnScope ["film", "goal", "put_in", "left_out", "changed", "best", "place"] ["film", "goal", "put_in", "left_out", "changed"] (defScope sWalk) := ⟨rfl, rfl, rfl, by decide +kernel, rfl, by decide +kernel, by decide +kernel⟩
def spWalk : Sp := fun vs H Q _ => ∃ (f g : Wd) (p lo ch : Nat), vs = [.str (sS f), .str (sS g), .int ((p : Nat) : Int), .int ((lo : Nat) : Int), .int ((ch : Nat) : Int)] ∧ f.length ≤ 900 ∧ 1 ≤ g.length ∧ g.length ≤ 3 ∧
  ∀ H', Same H H' → Q (.int ((walkN f g p lo ch : Nat) : Int)) H'
section
variable {P : Program} {w : World} {K : PySem.W.Frag} {mg : Str → Option Value} {base : Heap} {f : Addr} {fd : FuncData}
theorem ok_walk (T : Tx mg) (OC : OkD P w K mg base 1 "close_up" ["goal", "best", "price"] (spClose P w)) (OR : OkD P w K mg base 2 "read_letter" ["goal", "best", "letter", "left_out", "changed"] (spRead P w))
    (F : FnP K "walk" sWalk f fd) : FnOk P w K mg base CX0 3 f fd ["film", "goal", "put_in", "left_out", "changed"] spWalk := by
  obtain ⟨tF, hF⟩ := T.FAR
  refine F.ok scWalk (fun vs H Q E h => ?_) (fun cdv A outer s H vs Q E hr h => ?_)
  · obtain ⟨f, g, p, lo, ch, rfl, _⟩ := h
    rfl
  · obtain ⟨f, g, p, lo, ch, rfl, hf, hg1, hg, q⟩ := h
    refine ⟨_, PSs.nox (pss_cons (ps_set (i := 5) scWalk.nd rfl (.inl rfl) (pe_bone (hu_of hr) (pe_tup (pa_cons (pe_un un_neg pe_int) (pa_cons pe_bl pa_nil))) pe_int))
      (pss_cons (ps_for PassesOwn.never rfl (pi_range1 (by rfl) T.range (pa_cons (pe_op op_add (pe_callB call_len_str (by rfl) T.len PySem.boot_len (pa_cons (pv 0) pa_nil)) pe_int) pa_nil)) (pg_name (i := 6) scWalk.nd rfl (.inl rfl))
        (pss_cons (ps_set (i := 5) scWalk.nd rfl (.inl rfl) (pe_callO OC (hr.mono (by decide)) (by rfl) (pa_cons (pv 1) (pa_cons (pv 5) (pa_cons (pv 2) pa_nil)))))
        (pss_one (ps_if (pt_cmpR op_lt (pv 6) (pe_callB call_len_str (by rfl) T.len PySem.boot_len (pa_cons (pv 0) pa_nil)) (nomark _))
          (pss_one (ps_set (i := 5) scWalk.nd rfl (.inl rfl) (pe_callO OR hr (by rfl) (pa_cons (pv 1) (pa_cons (pv 5) (pa_cons (pe_ix ix_str (pv 0) (pv 6) (fun _ _ => rfl)) (pa_cons (pv 3) (pa_cons (pv 4) pa_nil))))))))
          pss_nil))))
      (pss_one (ps_ret (pe_bget2 (hu_of hr) (pv 5) (pe_tup (pa_cons (pe_op op_sub (pe_callB call_len_str (by rfl) T.len PySem.boot_len (pa_cons (pv 1) pa_nil)) pe_int) (pa_cons pe_bl pa_nil))) (pe_glob (v := .int 1000000) rfl hF ⟨_, rfl⟩)))))), ?_⟩
    -- best = {(-1, True): 0}
    refine fun b H0 hn b0 d0 => ⟨1, rfl, by show 2 ≤ sizeLine; decide, fun T0 n0 => ⟨T0, -1, true, 0, rfl, rfl, upd_same, ?_, fun H1 b1 d1 => ?_⟩⟩
    · obtain ⟨o, ho⟩ := d0.some'
      exact upd_ne (ne_of_none ho n0)
    · have s0 : Same H H0 := same_but (Same.refl H) hn b0
      have s1 : Same H H1 := same_but (same_upd s0 n0) hn b1
      have d1' : DN P w H1 b [(1, 0)] := d1
      clear d1 b1 b0 d0 s0
      refine ⟨.str (sS f), rfl, _, rfl, by rw [sS_len]; exact small_size (by omega), _, _, rfl, rfl, _, rfl, by rw [sS_len]; omega, by rw [sS_len]; omega, ?_⟩
      have en : (((sS f).length : Int) + 1).toNat = f.length + 1 := by rw [sS_len]; omega
      rw [en]
      refine for_range (lo := 0) (n := f.length + 1) (fun i σ H' => ∃ b kvs x6, σ = [some (.str (sS f)), some (.str (sS g)), some (.int (p : Int)), some (.int (lo : Int)), some (.int (ch : Int)), some (.ref b), x6] ∧ Same H H' ∧ DN P w H' b kvs ∧ KOk (2 * (g.length + 1)) kvs ∧
        (i ≤ f.length → walkGo g p lo ch f [(1, 0)] = walkGo g p lo ch (f.drop i) kvs) ∧ (i = f.length + 1 → walkGo g p lo ch f [(1, 0)] = kvs))
        ⟨b, [(1, 0)], none, rfl, s1, d1', ⟨fun x hx => by rw [List.mem_singleton.mp hx]; show 1 < 2 * (g.length + 1); omega, List.nodup_cons.mpr ⟨List.not_mem_nil, List.nodup_nil⟩⟩, fun _ => rfl, fun z => by omega⟩ (fun i σ H2 hi hP => ?_) fun σ H2 hP => ?_
      · obtain ⟨b2, kvs, x6, rfl, s2, d2, k2, e1, _⟩ := hP
        have e1 := e1 (by omega)
        refine ⟨.str (sS g), rfl, .ref b2, rfl, .int (p : Int), rfl, g, b2, kvs, p, rfl, hg, d2, k2, fun H3 b3 s3 n3 d3 => ?_⟩
        have s23 := s2.trans s3
        have k3 := closeN_ok (pr := p) k2
        refine ⟨.int (0 + (i : Int)), rfl, .str (sS f), rfl, _, rfl, by rw [sS_len]; exact small_size (by omega), _, _, rfl, rfl, _, rfl, ?_⟩
        rw [sS_len]
        by_cases h1 : i < f.length
        · rw [decide_eq_true (show (0 : Int) + (i : Int) < (f.length : Int) by omega)]
          have hc : f[i]? = some f[i] := List.getElem?_eq_getElem h1
          refine iteT ⟨.str (sS g), rfl, .ref b3, rfl, .str (sS f), rfl, .int (0 + (i : Int)), rfl, sS f, _, f[i], rfl, rfl, by rw [sS_len]; exact small_size (by omega), at_str (k := i) (by omega) hc, .int (lo : Int), rfl, .int (ch : Int), rfl, g, b3, closeN g kvs p, f[i], lo, ch, rfl, hg, d3, k3, fun H4 b4 s4 n4 d4 => ?_⟩
          refine ⟨b4, _, _, rfl, s23.trans s4, d4, readN_ok k3, fun _ => ?_, fun z => by omega⟩
          rw [e1, List.drop_eq_getElem_cons h1] <;> rfl
        · rw [decide_eq_false (show ¬ (0 : Int) + (i : Int) < (f.length : Int) by omega)]
          refine iteF ⟨b3, _, _, rfl, s23, d3, k3, fun z => by omega, fun _ => ?_⟩
          rw [e1, List.drop_eq_nil_of_le (by omega)] <;> rfl
      · obtain ⟨b2, kvs, x6, rfl, s2, d2, k2, _, e2⟩ := hP
        have e2 := e2 rfl
        refine ⟨.ref b2, rfl, b2, rfl, ⟨_, d2⟩, .str (sS g), rfl, _, rfl, by rw [sS_len]; exact small_size (by omega), _, _, rfl, rfl, by show 2 ≤ sizeLine; decide, fun T1 n1 => ⟨T1, _, true, _, rfl, upd_same, d2.same (same_new n1), ?_⟩⟩
        rw [sS_len, ← decK_shut g.length, get_far]
        have ew : (lookN kvs (2 * g.length + 1)).getD FARn = walkN f g p lo ch := by
          unfold walkN
          rw [e2]
        rw [ew]
        exact q _ (same_upd s2 n1)
end
end J
end

section
/-! need_film and the four counts -/
namespace J
open PySem PySem.Spec PyProof.Rows L2
theorem scNeed : FnScope ["value", "place", "letter"] ["value"] (defScope sNeed) := ⟨rfl, rfl, rfl, by decide +kernel, rfl, by decide +kernel, by decide +kernel⟩
/-- a word of the letters a and b -/
def AB (f : Wd) : Prop := ∀ c ∈ f, c = 97 ∨ c = 98
def spNeed : Sp := fun vs H Q _ => ∃ f : Wd, vs = [.str (sS f)] ∧ 1 ≤ f.length ∧ f.length ≤ 200 ∧ AB f ∧ ∀ H', Same H H' → Q .non H'
section
variable {P : Program} {w : World} {K : PySem.W.Frag} {mg : Str → Option Value} {base : Heap} {f : Addr} {fd : FuncData}
theorem ok_need (T : Tx mg) (F : FnP K "need_film" sNeed f fd) : FnOk P w K mg base CX0 1 f fd ["value"] spNeed := by
  obtain ⟨tL, hL⟩ := T.LETTERS
  obtain ⟨tM, hM⟩ := T.MOST
  refine F.ok scNeed (fun vs H Q E h => ?_) (fun cdv A outer s H vs Q E hr h => ?_)
  · obtain ⟨f, rfl, _⟩ := h
    rfl
  · obtain ⟨f, rfl, h1, h2, hab, q⟩ := h
    refine ⟨_, PSs.nox (pss_cons (ps_if (PW.pt (pw_or (pt_not (pt_val (pe_callB call_isi (by rfl) T.isinstance (by decide +kernel) (pa_cons (pv 0) (pa_cons (pe_bltn (v := .ty "str") (by rfl) T.str (by decide +kernel) rfl) pa_nil)))))
        (pw_or1 (pt_not (pt_chain op_le op_le pe_int (pe_callB call_len_str (by rfl) T.len PySem.boot_len (pa_cons (pv 0) pa_nil)) (pe_glob (v := .int 200) rfl hM ⟨_, rfl⟩))))))
        (pss_one ps_never) pss_nil)
      (pss_one (ps_for PassesOwn.never rfl (pi_enumS (by rfl) T.enumerate (pa_cons (pv 0) pa_nil)) (pg_tup rfl (pgs_cons (pg_name (i := 1) scNeed.nd rfl (.inl rfl)) (pgs_cons (pg_name (i := 2) scNeed.nd rfl (.inl rfl)) pgs_nil)))
        (pss_one (ps_if (pt_cmpR op_notIn_sign (pv 2) (pe_glob (v := .str "abcdefgh") rfl hL ⟨_, rfl⟩) rfl) (pss_one ps_never) pss_nil))))), ?_⟩
    refine ⟨.str (sS f), rfl, .str (sS f), .ty "str", .type "str", .type "str", true, rfl, .ty _, .base (.str _), kit_ty (by decide +kernel), _, rfl, ?_⟩
    refine iteF ⟨.str (sS f), rfl, _, rfl, by rw [sS_len]; exact small_size (by omega), _, _, rfl, rfl, _, rfl, ?_⟩
    rw [sS_len, decide_eq_true (show (1 : Int) ≤ (f.length : Int) by omega)]
    refine iteT ⟨_, _, rfl, rfl, _, rfl, ?_⟩
    rw [decide_eq_true (show (f.length : Int) ≤ 200 by omega)]
    refine iteF ⟨.str (sS f), rfl, sS f, rfl, ?_⟩
    refine for_it walk_enumS (fun i σ H' => ∃ x1 x2, σ = [some (.str (sS f)), x1, x2] ∧ Same H H') ⟨none, none, rfl, Same.refl H⟩ (fun _ _ _ _ _ => trivial) (fun i x σ H2 H3 hi hP hy => ?_) fun σ H2 hP => ?_
    · obtain ⟨x1, x2, rfl, s2⟩ := hP
      obtain ⟨T1, c, hc, rfl, n1, rfl⟩ := hy
      have hm : c ∈ f := by
        have e : f[i]? = some c := by rw [← hc]; simp
        exact List.mem_of_getElem? e
      refine ⟨T1, _, rfl, tup_in upd_same, rfl, _, _, rfl, _, _, rfl, rfl, ?_⟩
      refine ⟨.str ⟨#[c]⟩, rfl, c, _, rfl, rfl, _, rfl, ?_⟩
      have hd : decide (c ∈ (Str.ofString "abcdefgh").cps.toList) = true := by
        rcases hab c hm with e | e
        · rw [e]; decide +kernel
        · rw [e]; decide +kernel
      rw [hd]
      exact iteF ⟨_, _, rfl, same_upd s2 n1⟩
    · obtain ⟨x1, x2, rfl, s2⟩ := hP
      exact q H2 s2
/-! ### the counts -/
theorem scPut : FnScope ["film", "goal", "found"] ["film", "goal"] (defScope sPut) := ⟨rfl, rfl, rfl, by decide +kernel, rfl, by decide +kernel, by decide +kernel⟩
theorem scLeft : FnScope ["film", "goal", "found"] ["film", "goal"] (defScope sLeft) := ⟨rfl, rfl, rfl, by decide +kernel, rfl, by decide +kernel, by decide +kernel⟩
theorem scChg : FnScope ["film", "goal", "found"] ["film", "goal"] (defScope sChg) := ⟨rfl, rfl, rfl, by decide +kernel, rfl, by decide +kernel, by decide +kernel⟩
theorem scMnd : FnScope ["film", "goal"] ["film", "goal"] (defScope sMnd) := ⟨rfl, rfl, rfl, by decide +kernel, rfl, by decide +kernel, by decide +kernel⟩
def spCnt (r : Wd → Wd → V) : Sp := fun vs H Q _ => ∃ f g : Wd, vs = [.str (sS f), .str (sS g)] ∧ 1 ≤ f.length ∧ f.length ≤ 200 ∧ AB f ∧ 1 ≤ g.length ∧ g.length ≤ 3 ∧ AB g ∧ ∀ H', Same H H' → Q (r f g) H'
theorem far_int : (1000000 : Int) = ((FARn : Nat) : Int) := by decide +kernel
theorem lt_far (n : Nat) : n < FARn ↔ (n : Int) < 1000000 := by rw [far_int]; exact Int.ofNat_lt.symm
theorem ltb (n : Nat) : decide ((n : Int) < 1000000) = true → n < FARn := fun z => (lt_far n).mpr (of_decide_eq_true z)
theorem ltb' (n : Nat) : decide ((n : Int) < 1000000) = false → ¬ n < FARn := fun z h => (of_decide_eq_false z) ((lt_far n).mp h)
theorem farEm (n : Nat) : (decide ((n : Int) < 1000000) = true ∧ fin n = some n) ∨ (decide ((n : Int) < 1000000) = false ∧ fin n = none) := by
  generalize hb : decide ((n : Int) < 1000000) = b
  cases b
  · refine .inr ⟨rfl, ?_⟩
    unfold fin
    exact if_neg (ltb' n hb)
  · refine .inl ⟨rfl, ?_⟩
    unfold fin
    exact if_pos (ltb n hb)
theorem far_V : V.int 1000000 = V.int ((FARn : Nat) : Int) := congrArg V.int far_int
section
variable (T : Tx mg) (ON : OkD P w K mg base 1 "need_film" ["value"] spNeed) (OW : OkD P w K mg base 3 "walk" ["film", "goal", "put_in", "left_out", "changed"] spWalk)
include T ON OW
theorem ok_put (F : FnP K "fewest_put_in" sPut f fd) : FnOk P w K mg base CX0 4 f fd ["film", "goal"] (spCnt fun f g => tV (fin (walkN f g 1 FARn FARn))) := by
  obtain ⟨tF, hF⟩ := T.FAR
  refine F.ok scPut (fun vs H Q E h => ?_) (fun cdv A outer s H vs Q E hr h => ?_)
  · obtain ⟨f, g, rfl, _⟩ := h
    rfl
  · obtain ⟨f, g, rfl, f1, f2, f3, g1, g2, g3, q⟩ := h
    refine ⟨_, PSs.nox (pss_cons (ps_expr (pe_callO ON (hr.mono (by decide)) (by rfl) (pa_cons (pv 0) pa_nil)))
      (pss_cons (ps_expr (pe_callO ON (hr.mono (by decide)) (by rfl) (pa_cons (pv 1) pa_nil)))
      (pss_cons (ps_set (i := 2) scPut.nd rfl (.inl rfl) (pe_callO OW hr (by rfl) (pa_cons (pv 0) (pa_cons (pv 1) (pa_cons pe_int (pa_cons (pe_glob (v := .int 1000000) rfl hF ⟨_, rfl⟩) (pa_cons (pe_glob (v := .int 1000000) rfl hF ⟨_, rfl⟩) pa_nil)))))))
      (pss_one (ps_ret (pe_ifExp (pt_cmpR op_lt (pv 2) (pe_glob (v := .int 1000000) rfl hF ⟨_, rfl⟩) (nomark _)) (pv 2) pe_non)))))), ?_⟩
    refine ⟨.str (sS f), rfl, f, rfl, f1, f2, f3, fun H1 s1 => ⟨.str (sS g), rfl, g, rfl, g1, by omega, g3, fun H2 s2 => ⟨.str (sS f), rfl, .str (sS g), rfl, f, g, 1, FARn, FARn, by rw [far_V]; rfl, by omega, g1, g2, fun H3 s3 => ?_⟩⟩⟩
    have s : Q (tV (fin (walkN f g 1 FARn FARn))) H3 := q H3 (s1.trans (s2.trans s3))
    refine (farEm (walkN f g 1 FARn FARn)).elim (fun z => ?_) fun z => ?_
    · have e := z.1
      have h := z.2
      rw [h] at s
      refine ⟨_, rfl, _, _, rfl, rfl, _, rfl, ?_⟩
      rw [e]
      exact iteT ⟨_, rfl, s⟩
    · have e := z.1
      have h := z.2
      rw [h] at s
      refine ⟨_, rfl, _, _, rfl, rfl, _, rfl, ?_⟩
      rw [e]
      exact iteF s
theorem ok_left (F : FnP K "fewest_left_out" sLeft f fd) : FnOk P w K mg base CX0 4 f fd ["film", "goal"] (spCnt fun f g => tV (fin (walkN f g FARn 1 FARn))) := by
  obtain ⟨tF, hF⟩ := T.FAR
  refine F.ok scLeft (fun vs H Q E h => ?_) (fun cdv A outer s H vs Q E hr h => ?_)
  · obtain ⟨f, g, rfl, _⟩ := h
    rfl
  · obtain ⟨f, g, rfl, f1, f2, f3, g1, g2, g3, q⟩ := h
    refine ⟨_, PSs.nox (pss_cons (ps_expr (pe_callO ON (hr.mono (by decide)) (by rfl) (pa_cons (pv 0) pa_nil)))
      (pss_cons (ps_expr (pe_callO ON (hr.mono (by decide)) (by rfl) (pa_cons (pv 1) pa_nil)))
      (pss_cons (ps_set (i := 2) scLeft.nd rfl (.inl rfl) (pe_callO OW hr (by rfl) (pa_cons (pv 0) (pa_cons (pv 1) (pa_cons (pe_glob (v := .int 1000000) rfl hF ⟨_, rfl⟩) (pa_cons pe_int (pa_cons (pe_glob (v := .int 1000000) rfl hF ⟨_, rfl⟩) pa_nil)))))))
      (pss_one (ps_ret (pe_ifExp (pt_cmpR op_lt (pv 2) (pe_glob (v := .int 1000000) rfl hF ⟨_, rfl⟩) (nomark _)) (pv 2) pe_non)))))), ?_⟩
    refine ⟨.str (sS f), rfl, f, rfl, f1, f2, f3, fun H1 s1 => ⟨.str (sS g), rfl, g, rfl, g1, by omega, g3, fun H2 s2 => ⟨.str (sS f), rfl, .str (sS g), rfl, f, g, FARn, 1, FARn, by rw [far_V]; rfl, by omega, g1, g2, fun H3 s3 => ?_⟩⟩⟩
    have s : Q (tV (fin (walkN f g FARn 1 FARn))) H3 := q H3 (s1.trans (s2.trans s3))
    refine (farEm (walkN f g FARn 1 FARn)).elim (fun z => ?_) fun z => ?_
    · have e := z.1
      have h := z.2
      rw [h] at s
      refine ⟨_, rfl, _, _, rfl, rfl, _, rfl, ?_⟩
      rw [e]
      exact iteT ⟨_, rfl, s⟩
    · have e := z.1
      have h := z.2
      rw [h] at s
      refine ⟨_, rfl, _, _, rfl, rfl, _, rfl, ?_⟩
      rw [e]
      exact iteF s
theorem ok_chg (F : FnP K "fewest_changed" sChg f fd) : FnOk P w K mg base CX0 4 f fd ["film", "goal"] (spCnt fun f g => tV (fin (walkN f g FARn FARn 1))) := by
  obtain ⟨tF, hF⟩ := T.FAR
  refine F.ok scChg (fun vs H Q E h => ?_) (fun cdv A outer s H vs Q E hr h => ?_)
  · obtain ⟨f, g, rfl, _⟩ := h
    rfl
  · obtain ⟨f, g, rfl, f1, f2, f3, g1, g2, g3, q⟩ := h
    refine ⟨_, PSs.nox (pss_cons (ps_expr (pe_callO ON (hr.mono (by decide)) (by rfl) (pa_cons (pv 0) pa_nil)))
      (pss_cons (ps_expr (pe_callO ON (hr.mono (by decide)) (by rfl) (pa_cons (pv 1) pa_nil)))
      (pss_cons (ps_set (i := 2) scChg.nd rfl (.inl rfl) (pe_callO OW hr (by rfl) (pa_cons (pv 0) (pa_cons (pv 1) (pa_cons (pe_glob (v := .int 1000000) rfl hF ⟨_, rfl⟩) (pa_cons (pe_glob (v := .int 1000000) rfl hF ⟨_, rfl⟩) (pa_cons pe_int pa_nil)))))))
      (pss_one (ps_ret (pe_ifExp (pt_cmpR op_lt (pv 2) (pe_glob (v := .int 1000000) rfl hF ⟨_, rfl⟩) (nomark _)) (pv 2) pe_non)))))), ?_⟩
    refine ⟨.str (sS f), rfl, f, rfl, f1, f2, f3, fun H1 s1 => ⟨.str (sS g), rfl, g, rfl, g1, by omega, g3, fun H2 s2 => ⟨.str (sS f), rfl, .str (sS g), rfl, f, g, FARn, FARn, 1, by rw [far_V]; rfl, by omega, g1, g2, fun H3 s3 => ?_⟩⟩⟩
    have s : Q (tV (fin (walkN f g FARn FARn 1))) H3 := q H3 (s1.trans (s2.trans s3))
    refine (farEm (walkN f g FARn FARn 1)).elim (fun z => ?_) fun z => ?_
    · have e := z.1
      have h := z.2
      rw [h] at s
      refine ⟨_, rfl, _, _, rfl, rfl, _, rfl, ?_⟩
      rw [e]
      exact iteT ⟨_, rfl, s⟩
    · have e := z.1
      have h := z.2
      rw [h] at s
      refine ⟨_, rfl, _, _, rfl, rfl, _, rfl, ?_⟩
      rw [e]
      exact iteF s
omit T in
theorem ok_mnd (F : FnP K "fewest_mends" sMnd f fd) : FnOk P w K mg base CX0 4 f fd ["film", "goal"] (spCnt fun f g => tV (some (walkN f g 1 1 1))) := by
  refine F.ok scMnd (fun vs H Q E h => ?_) (fun cdv A outer s H vs Q E hr h => ?_)
  · obtain ⟨f, g, rfl, _⟩ := h
    rfl
  · obtain ⟨f, g, rfl, f1, f2, f3, g1, g2, g3, q⟩ := h
    refine ⟨_, PSs.nox (pss_cons (ps_expr (pe_callO ON (hr.mono (by decide)) (by rfl) (pa_cons (pv 0) pa_nil)))
      (pss_cons (ps_expr (pe_callO ON (hr.mono (by decide)) (by rfl) (pa_cons (pv 1) pa_nil)))
      (pss_one (ps_ret (pe_callO OW hr (by rfl) (pa_cons (pv 0) (pa_cons (pv 1) (pa_cons pe_int (pa_cons pe_int (pa_cons pe_int pa_nil)))))))))), ?_⟩
    exact ⟨.str (sS f), rfl, f, rfl, f1, f2, f3, fun H1 s1 => ⟨.str (sS g), rfl, g, rfl, g1, by omega, g3, fun H2 s2 => ⟨.str (sS f), rfl, .str (sS g), rfl, f, g, 1, 1, 1, rfl, by omega, g1, g2, fun H3 s3 => q H3 (s1.trans (s2.trans s3))⟩⟩⟩
end
end
end J
end

section
/-! Lists of numbers and of tuples; comprehensions over numbers; x == [] -/
namespace J
open PySem PySem.Spec PyProof.Rows L2
def nV (n : Nat) : V := .int ((n : Nat) : Int)
/-! ### data that lies flat -/
theorem canAll_of : ∀ {ds : List PyData}, (∀ d ∈ ds, d.canLay0 = true) → PyData.canLayAll0 ds = true
  | [], _ => by simp only [PyData.canLayAll0]
  | d :: ds, h => by
    simp only [PyData.canLayAll0]
    rw [h d List.mem_cons_self, canAll_of fun e m => h e (List.mem_cons_of_mem _ m)] <;> rfl
theorem depthAll_le {k : Nat} : ∀ {ds : List PyData}, (∀ d ∈ ds, d.depth ≤ k) → PyData.depthAll ds ≤ k
  | [], _ => by simp [PyData.depthAll]
  | d :: ds, h => by
    simp only [PyData.depthAll]
    exact Nat.max_le.mpr ⟨h d List.mem_cons_self, depthAll_le fun e m => h e (List.mem_cons_of_mem _ m)⟩
/-- flat of depth k -/
def Fl (k : Nat) (d : PyData) : Prop := d.canLay0 = true ∧ d.depth ≤ k
theorem Fl.int (i : Int) : Fl 0 (.int i) := ⟨by simp only [PyData.canLay0], by simp [PyData.depth]⟩
theorem Fl.lst {k : Nat} {ds : List PyData} (h : ∀ d ∈ ds, Fl k d) : Fl (k + 1) (.list ds) := by
  refine ⟨?_, ?_⟩
  · simp only [PyData.canLay0]
    exact canAll_of fun d m => (h d m).1
  · simp only [PyData.depth]
    exact Nat.succ_le_succ (depthAll_le fun d m => (h d m).2)
theorem Fl.tup {k : Nat} {ds : List PyData} (h : ∀ d ∈ ds, Fl k d) : Fl (k + 1) (.tuple ds) := by
  refine ⟨?_, ?_⟩
  · simp only [PyData.canLay0]
    exact canAll_of fun d m => (h d m).1
  · simp only [PyData.depth]
    exact Nat.succ_le_succ (depthAll_le fun d m => (h d m).2)
theorem Fl.shaped {k : Nat} {d : PyData} (h : Fl k d) (hk : k ≤ 64) : SeqAt.shaped d = true := by
  unfold SeqAt.shaped
  rw [h.1, decide_eq_true (Nat.le_trans h.2 hk)] <;> rfl
theorem Fl.mono {k m : Nat} {d : PyData} (h : Fl k d) (hk : k ≤ m) : Fl m d := ⟨h.1, Nat.le_trans h.2 hk⟩
theorem eqv_nil (ds : List PyData) : PyData.eqv (.list ds) (.list []) = ds.isEmpty := by
  cases ds <;> simp [PyData.eqv, PyData.eqvAll]
theorem dp_of {K : PySem.W.Frag} {H : Hp} {f : V → PyData} : ∀ (xs : List V), (∀ x ∈ xs, Dp K H x (f x)) → DpAll K H xs (xs.map f)
  | [], _ => .nil
  | x :: xs, h => .cons (h x List.mem_cons_self) (dp_of xs fun y m => h y (List.mem_cons_of_mem _ m))
/-- x == [] for a list of things that are data of depth k -/
theorem eq_empty {K : PySem.W.Frag} {H : Hp} {Q : VK} {a b : Addr} {xs : List V} {f : V → PyData} (ha : SqL K H a xs) (hb : SqL K H b []) (hf : ∀ x ∈ xs, Dp K H x (f x) ∧ Fl 2 (f x)) (q : Q (.bl xs.isEmpty) H) : rEqD K (.ref a) (.ref b) H Q := by
  refine ⟨.list (xs.map f), .list [], .lst ha (dp_of (f := f) xs fun x m => (hf x m).1), .lst hb .nil, (Fl.lst (k := 2) fun d m => ?_).shaped (by decide), rfl, ?_⟩
  · obtain ⟨x, hx, rfl⟩ := List.mem_map.mp m
    exact (hf x hx).2
  · rw [eqv_nil, List.isEmpty_map]
    exact q
theorem ne_empty {K : PySem.W.Frag} {H : Hp} {Q : VK} {a b : Addr} {xs : List V} {f : V → PyData} (ha : SqL K H a xs) (hb : SqL K H b []) (hf : ∀ x ∈ xs, Dp K H x (f x) ∧ Fl 2 (f x)) (q : Q (.bl (!xs.isEmpty)) H) : rNeD K (.ref a) (.ref b) H Q := by
  refine ⟨.list (xs.map f), .list [], .lst ha (dp_of (f := f) xs fun x m => (hf x m).1), .lst hb .nil, (Fl.lst (k := 2) fun d m => ?_).shaped (by decide), rfl, ?_⟩
  · obtain ⟨x, hx, rfl⟩ := List.mem_map.mp m
    exact (hf x hx).2
  · rw [eqv_nil, List.isEmpty_map]
    exact q
def dV : V → PyData
  | .int i => .int i
  | _ => .none
theorem dp_nats {K : PySem.W.Frag} {H : Hp} {l : List Nat} : ∀ x ∈ l.map nV, Dp K H x (dV x) ∧ Fl 2 (dV x) := fun x m => by
  obtain ⟨n, _, rfl⟩ := List.mem_map.mp m
  exact ⟨.int _, (Fl.int _).mono (by decide)⟩
/-! ### a list of tuples of numbers -/
def Tups (H : Hp) : List V → List (List Nat) → Prop
  | [], [] => True
  | v :: vs, l :: ls => (∃ t, v = .ref t ∧ H t = some (.tup (l.map nV))) ∧ Tups H vs ls
  | _, _ => False
theorem Tups.mono {H H' : Hp} (k : ∀ t xs, H t = some (.tup xs) → H' t = some (.tup xs)) : ∀ {vs : List V} {ls : List (List Nat)}, Tups H vs ls → Tups H' vs ls
  | [], [], h => h
  | v :: vs, l :: ls, ⟨⟨t, e, h⟩, r⟩ => ⟨⟨t, e, k t _ h⟩, Tups.mono k r⟩
  | [], _ :: _, h => h.elim
  | _ :: _, [], h => h.elim
theorem Tups.snoc {H : Hp} {t : Addr} {l : List Nat} (e : H t = some (.tup (l.map nV))) : ∀ {vs : List V} {ls : List (List Nat)}, Tups H vs ls → Tups H (vs ++ [.ref t]) (ls ++ [l])
  | [], [], _ => ⟨⟨t, rfl, e⟩, trivial⟩
  | v :: vs, m :: ls, ⟨a, r⟩ => ⟨a, Tups.snoc e r⟩
  | [], _ :: _, h => h.elim
  | _ :: _, [], h => h.elim
theorem Tups.length {H : Hp} : ∀ {vs : List V} {ls : List (List Nat)}, Tups H vs ls → vs.length = ls.length
  | [], [], _ => rfl
  | v :: vs, m :: ls, ⟨_, r⟩ => congrArg Nat.succ (Tups.length r)
  | [], _ :: _, h => h.elim
  | _ :: _, [], h => h.elim
theorem Tups.at {H : Hp} : ∀ {vs : List V} {ls : List (List Nat)} (h : Tups H vs ls) (i : Nat) (l : List Nat), ls[i]? = some l → ∃ t : Addr, vs[i]? = some (V.ref t) ∧ H t = some (.tup (l.map nV))
  | v :: vs, m :: ls, ⟨⟨t, e, h⟩, r⟩, 0, l, z => by
    cases z
    exact ⟨t, by rw [e] <;> rfl, h⟩
  | v :: vs, m :: ls, ⟨_, r⟩, i + 1, l, z => Tups.at r i l z
  | [], [], _, i, l, z => by cases z
/-! ### comprehensions over numbers -/
theorem lcN {J : It} {G : Hp → Prop} {Y : Nat → Hp → V → Hp → Prop} {l : List Nat} (w : Walk J l.length G Y) (hY : ∀ i x H H', Y i H x H' → H' = H ∧ ∀ n, l[i]? = some n → x = nV n)
    {tt : TT} {te : TE} {vs : List Nat} {σ : L2.St} {H1 : Hp} {D : Addr} {Qd : Hp → Prop} {j : Nat} (p : Nat → Bool) (v : Nat → V) (hD : H1 D = none) (hl : l.length ≤ 1000)
    (hG : ∀ H, Same H1 H → G H) (hw : ∀ x, wipe ((wipe σ vs).set j (some x)) vs = wipe σ vs)
    (ht : ∀ n ∈ l, ∀ H, Same H1 H → ∀ R : Bool → Hp → Prop, (∀ H', Same H H' → R (p n) H') → tt ((wipe σ vs).set j (some (nV n))) H R)
    (he : ∀ n ∈ l, p n = true → ∀ H, Same H1 H → ∀ R : VK, (∀ H', Same H H' → R (v n) H') → te ((wipe σ vs).set j (some (nV n))) H R)
    (q : ∀ H', Same H1 H' → H' D = some (.lst ((l.filter p).map v)) → Qd H') :
    ∃ W : Nat → Nat → Hp → Prop, (∃ m, W 0 m (upd H1 D (.lst []))) ∧ ∀ i m H, W i m H →
      (J.stop i H ∧ Qd H) ∨ (J.go i H ∧ ∃ Nx : Hp → Prop, (∀ H', Nx H' → ∃ m', m' < m ∧ W (i + 1) m' H') ∧ ∀ x H', J.yld i H x H' → gName j x (wipe σ vs) H' fun σ2 H2 => wipe σ2 vs = wipe σ vs ∧ tt σ2 H2 fun b H3 =>
        if b = true then te σ2 H3 fun y H4 => ∃ acc, H4 D = some (.lst acc) ∧ acc.length < sizeLine ∧ Nx (upd H4 D (.lst (acc ++ [y]))) else Nx H3) := by
  refine lc_it w (fun i H => Same H1 H ∧ H D = some (.lst (((l.take i).filter p).map v))) ⟨same_new hD, upd_same⟩ (fun i H _ h => hG H h.1) (fun i x H H' hi hP hy => ?_) fun H h => ?_
  · obtain ⟨rfl, hx⟩ := hY i x H H' hy
    obtain ⟨s, d⟩ := hP
    have hn : l[i]? = some l[i] := List.getElem?_eq_getElem hi
    rw [hx _ hn]
    have hm : l[i] ∈ l := List.getElem_mem hi
    have et : l.take (i + 1) = l.take i ++ [l[i]] := by rw [List.take_add_one, hn] <;> rfl
    refine ⟨hw _, ht _ hm H' s _ fun H2 s2 => ?_⟩
    cases hp : p l[i] with
    | true =>
      refine iteT (he _ hm hp H2 (s.trans s2) _ fun H3 s3 => ⟨_, s3 _ _ (s2 _ _ d), ?_, ?_, ?_⟩)
      · rw [List.length_map]
        refine small1000 ?_
        have q1 := List.length_filter_le p (l.take i)
        have q2 := List.length_take_le i l
        omega
      · intro a o e
        rw [upd_ne (ne_of_none e hD)]
        exact s3 a o (s2 a o (s a o e))
      · rw [et, List.filter_append, List.map_append, List.filter_cons, if_pos hp]
        exact upd_same
    | false =>
      refine iteF ⟨s.trans s2, ?_⟩
      rw [et, List.filter_append, List.map_append, List.filter_cons, if_neg (by rw [hp]; decide)]
      show _ = some (HO.lst (_ ++ []))
      rw [List.append_nil]
      exact s2 _ _ d
  · refine q H h.1 ?_
    have e := h.2
    rw [List.take_length] at e
    exact e
theorem walk_nats {K : PySem.W.Frag} {a : Addr} {l : List Nat} : Walk (Itl K a) l.length (fun H => SqL K H a (l.map nV)) (YAt (l.map nV)) := by
  have q := walk_list (K := K) (a := a) (xs := l.map nV)
  rw [List.length_map] at q
  exact q
theorem walk_natsT {K : PySem.W.Frag} {a : Addr} {l : List Nat} : Walk (Itt K a) l.length (fun H => SqT K H a (l.map nV)) (YAt (l.map nV)) := by
  have q := walk_tup (K := K) (a := a) (xs := l.map nV)
  rw [List.length_map] at q
  exact q
theorem walk_rng {lo n : Nat} : Walk (Itr (lo : Int) n) (List.range' lo n).length (fun _ => True) (YFn fun i => V.int ((lo : Int) + (i : Nat))) := by
  have q := walk_range (lo := (lo : Int)) (n := n)
  rw [List.length_range']
  exact q
theorem yat_nats {l : List Nat} : ∀ i x H H', YAt (l.map nV) i H x H' → H' = H ∧ ∀ n, l[i]? = some n → x = nV n := fun i x H H' y => ⟨y.1, fun n e => by
  have z := y.2
  rw [List.getElem?_map, e] at z
  exact (Option.some.inj z).symm⟩
theorem yfn_nats {lo n : Nat} : ∀ i x H H', YFn (fun i => V.int ((lo : Int) + (i : Nat))) i H x H' → H' = H ∧ ∀ m, (List.range' lo n)[i]? = some m → x = nV m := fun i x H H' y => ⟨y.1, fun m e => by
  have hi : i < n := by
    have q := (List.getElem?_eq_some_iff.mp e).1
    rw [List.length_range'] at q
    exact q
  rw [List.getElem?_range' hi] at e
  have e2 := Option.some.inj e
  rw [y.2, ← e2]
  show V.int _ = V.int _
  congr 1
  omega⟩
end J
end

section
/-! begin, is_reached -/
namespace J
open PySem PySem.Spec PyProof.Rows L2
theorem dec_at' {g : Wd} {c : Nat} {k : Nat} {d : Nat} (h : g[k]? = some d) : decide (V.str ⟨#[d]⟩ = V.str ⟨#[c]⟩) = hasAt g c k := by
  rw [dec_sign]
  unfold hasAt
  rw [h]
  by_cases e : d = c
  · rw [e, decide_eq_true rfl, decide_eq_true rfl]
  · rw [decide_eq_false e, decide_eq_false (fun z => e (Option.some.inj z))]
theorem hasAt_out {g : Wd} {c k : Nat} (h : ¬ k < g.length) : hasAt g c k = false := by
  unfold hasAt
  rw [List.getElem?_eq_none (by omega)]
  exact decide_eq_false (fun z => nomatch z)
abbrev nBegin : List Str := ["film", "goal", "found", "starts", "letter", "good", "ends", "place"]
theorem scBegin : FnScope nBegin ["film", "goal"] (defScope sBegin) := ⟨rfl, rfl, rfl, by decide +kernel, rfl, by decide +kernel, by decide +kernel⟩
def spBegin : Sp := fun vs H Q _ => ∃ f g : Wd, vs = [.str (sS f), .str (sS g)] ∧ f.length ≤ 900 ∧ g.length ≤ 3 ∧ ∀ (H' : Hp) (a : Addr) (xs : List V), Same H H' → H a = none → H' a = some (.lst xs) → Tups H' xs (beginM f g [0]) → Q (.ref a) H'
theorem ends_bd {f : Wd} {c p n : Nat} (h : n ∈ endsFrom f c p) : n < f.length ∧ p ≤ n := by
  unfold endsFrom at h
  have h1 := (List.mem_filter.mp h).1
  rw [List.mem_range'_1] at h1
  omega
theorem ends_len (f : Wd) (c p : Nat) : (endsFrom f c p).length ≤ f.length := by
  unfold endsFrom
  have h1 := List.length_filter_le (hasAt f c) (List.range' p (f.length - p))
  rw [List.length_range'] at h1
  omega
theorem map_succ (l : List Nat) : (l.filter fun _ => true).map (fun n => nV (n + 1)) = (l.map (· + 1)).map nV := by
  rw [List.filter_eq_self.mpr fun _ _ => rfl, List.map_map] <;> rfl
section
variable {P : Program} {w : World} {K : PySem.W.Frag} {mg : Str → Option Value} {base : Heap} {f : Addr} {fd : FuncData}
theorem ok_begin (T : Tx mg) (F : FnP K "begin" sBegin f fd) : FnOk P w K mg base CX0 1 f fd ["film", "goal"] spBegin := by
  refine F.ok scBegin (fun vs H Q E h => ?_) (fun cdv A outer s H vs Q E hr h => ?_)
  · obtain ⟨f, g, rfl, _⟩ := h
    rfl
  · obtain ⟨f, g, rfl, hf, hg, q⟩ := h
    refine ⟨_, PSs.nox (pss_cons (ps_par (i := 2) (j := 3) rfl scBegin.nd rfl rfl (by decide) rfl rfl (pa_cons (pe_lst pa_nil) (pa_cons (pe_lst (pa_cons pe_int pa_nil)) pa_nil)) rfl)
      (pss_cons (ps_for PassesOwn.never rfl (pi_str (pv 1)) (pg_name (i := 4) scBegin.nd rfl (.inr rfl))
        (pss_cons (ps_setLc (i := 5) (own := [("place", 7)]) rfl scBegin.nd rfl rfl (sw_true rfl rfl rfl (by decide +kernel)) (pi_list (pv 3)) (blkOk_by (N := nBegin) (sc := defScope sBegin) (by decide +kernel)) (fun _ _ _ _ _ => pg_name (i := 7) scBegin.nd rfl (.inl rfl))
          (fun _ _ _ _ _ => pts_one (PW.pt (pw_and (pt_cmpR op_lt (pv 7) (pe_callB call_len_str (by rfl) T.len PySem.boot_len (pa_cons (pv 0) pa_nil)) (nomark _)) (pw_and1 (pt_cmpR op_eq (pe_ix ix_str (pv 0) (pv 7) (fun _ _ => rfl)) (pv 4) (nomark _))))))
          (fun _ _ _ _ _ => pv 7))
        (pss_cons (ps_if (pt_cmpR (op_eqD hr.units) (pv 5) (pe_lst pa_nil) (nomark _)) (pss_one ps_break) pss_nil)
        (pss_cons (ps_set (i := 6) scBegin.nd rfl (.inl rfl) (pe_callTy call_tuple_of (by rfl) T.tuple (by decide +kernel) (pa_cons
            (pe_lc (own := [("place", 7)]) rfl scBegin.nd (pi_range2 (by rfl) T.range (pa_cons (pe_ix ix_list (pv 5) pe_int (fun _ _ => rfl)) (pa_cons (pe_callB call_len_str (by rfl) T.len PySem.boot_len (pa_cons (pv 0) pa_nil)) pa_nil))) (blkOk_by (N := nBegin) (sc := defScope sBegin) (by decide +kernel))
              (fun _ _ _ _ _ => pg_name (i := 7) scBegin.nd rfl (.inl rfl)) (fun _ _ _ _ _ => pts_one (pt_cmpR op_eq (pe_ix ix_str (pv 0) (pv 7) (fun _ _ => rfl)) (pv 4) (nomark _))) (fun _ _ _ _ _ => pv 7)) pa_nil)))
        (pss_cons (ps_expr (pe_bm PySem.F.plainAttrs_list PySem.F.slot_list_append PySem.F.type_list_append mt_append (pv 2) (pa_cons (pv 6) pa_nil)))
        (pss_one (ps_setLc (i := 3) (own := [("place", 7)]) rfl scBegin.nd rfl rfl (sw_true rfl rfl rfl (by decide +kernel)) (pi_tup (pv 6)) (blkOk_by (N := nBegin) (sc := defScope sBegin) (by decide +kernel)) (fun _ _ _ _ _ => pg_name (i := 7) scBegin.nd rfl (.inl rfl))
          (fun _ _ _ _ _ => pts_nil) (fun _ _ _ _ _ => pe_op op_add (pv 7) pe_int))))))))
      (pss_one (ps_ret (pv 2))))), ?_⟩
    refine ⟨Nat.zero_le _, fun l1 hl1 => ⟨by show 1 ≤ sizeLine; decide, fun l2 hl2 => ⟨_, _, rfl, .str (sS g), rfl, sS g, rfl, ?_⟩⟩⟩
    have n12 : l1 ≠ l2 := fun z => by
      rw [z, upd_same] at hl2
      cases hl2
    have hl20 : H l2 = none := by rw [upd_ne (Ne.symm n12)] at hl2; exact hl2
    have s0 : Same H (upd (upd H l1 (.lst [])) l2 (.lst [.int 0])) := (same_new hl1).trans (same_new hl2)
    refine for_it walk_str (fun i σ H' => ∃ (fa sa : Addr) (x4 x5 x6 : Option V) (xs : List V) (done : List (List Nat)) (st : List Nat),
      σ = [some (.str (sS f)), some (.str (sS g)), some (.ref fa), some (.ref sa), x4, x5, x6, none] ∧ Same H H' ∧ H fa = none ∧ H' fa = some (.lst xs) ∧ Tups H' xs done ∧ H' sa = some (.lst (st.map nV)) ∧
      beginM f g [0] = done ++ beginM f (g.drop i) st ∧ done.length = i ∧ st.length ≤ 901)
      ⟨l1, l2, none, none, none, [], [], [0], rfl, s0, hl1, by rw [upd_ne n12]; exact upd_same, trivial, upd_same, rfl, rfl, by decide⟩ (fun _ _ _ _ _ => trivial) (fun i x σ H2 H3 hi hP hy => ?_) fun σ H2 hP => ?_
    · obtain ⟨fa, sa, x4, x5, x6, xs, done, st, rfl, s2, nf, hfa, tp, hsa, eb, ed, sl⟩ := hP
      obtain ⟨rfl, c, hc, rfl⟩ := hy
      have hi' : i < g.length := by
        have z : (sS g).cps.size = g.length := by simp
        omega
      have ec : g[i]? = some c := by rw [← hc]; simp
      have eg : g.drop i = c :: g.drop (i + 1) := by
        rw [List.drop_eq_getElem_cons hi']
        congr 1
        rw [List.getElem?_eq_getElem hi'] at ec
        exact Option.some.inj ec
      rw [eg] at eb
      -- good
      refine ⟨.ref sa, rfl, sa, rfl, ⟨_, lst_in hsa⟩, fun D hD => lcN walk_nats yat_nats (l := st) (j := 7) (hasAt f c) nV hD (by omega) (fun H' s => lst_in (s _ _ hsa)) (fun _ => rfl) (fun n hn H4 s4 R r => ?_) (fun n hn _ H4 s4 R r => ⟨nV n, rfl, r H4 (Same.refl _)⟩) fun H4 s4 d4 => ?_⟩
      · refine ⟨nV n, rfl, .str (sS f), rfl, _, rfl, by rw [sS_len]; exact small_size (by omega), _, _, rfl, rfl, _, rfl, ?_⟩
        rw [sS_len]
        by_cases h1 : n < f.length
        · rw [decide_eq_true (show (n : Int) < (f.length : Int) by omega)]
          have hd : f[n]? = some f[n] := List.getElem?_eq_getElem h1
          refine iteT ⟨.str (sS f), rfl, nV n, rfl, sS f, _, f[n], rfl, rfl, by rw [sS_len]; exact small_size (by omega), at_str (k := n) rfl hd, .str ⟨#[c]⟩, rfl, rfl, _, rfl, ?_⟩
          rw [show decide (V.str (sS [f[n]]) = V.str ⟨#[c]⟩) = hasAt f c n from dec_at' hd]
          exact r H4 (Same.refl _)
        · rw [decide_eq_false (show ¬ (n : Int) < (f.length : Int) by omega)]
          refine iteF ?_
          have z := r H4 (Same.refl _)
          rw [hasAt_out h1] at z
          exact z
      · generalize hgood : st.filter (hasAt f c) = good at d4
        refine ⟨.ref D, rfl, Nat.zero_le _, fun D2 n2 => ?_⟩
        have s5 := same_upd s4 n2 (o := .lst [])
        have d5 : upd H4 D2 (.lst []) D = some (.lst (good.map nV)) := by rw [upd_ne (ne_of_none d4 n2)]; exact d4
        have d6 : upd H4 D2 (.lst []) D2 = some (.lst []) := upd_same
        generalize upd H4 D2 (.lst []) = H5 at s5 d5 d6 ⊢
        refine eq_empty (f := dV) (lst_in d5) (lst_in d6) dp_nats ⟨_, rfl, ?_⟩
        have f5 := s5 _ _ hfa
        have t5 : Tups H5 xs done := tp.mono fun t ys e => s5 _ _ e
        cases good with
        | nil =>
          refine iteT ⟨.ref fa, rfl, q H5 fa xs (s2.trans s5) nf f5 ?_⟩
          rw [eb]
          unfold beginM
          rw [hgood]
          show Tups H5 xs (done ++ [])
          rw [List.append_nil]
          exact t5
        | cons p rest =>
          have eb2 : beginM f g [0] = (done ++ [endsFrom f c p]) ++ beginM f (g.drop (i + 1)) ((endsFrom f c p).map (· + 1)) := by
            rw [eb, List.append_assoc]
            congr 1
            rw [beginM, hgood] <;> rfl
          have hp : hasAt f c p = true := (List.mem_filter.mp (show p ∈ st.filter (hasAt f c) by rw [hgood]; exact List.mem_cons_self)).2
          have hpl : p < f.length := Decidable.byContradiction fun z => by rw [hasAt_out z] at hp; cases hp
          refine iteF ⟨.ref D, rfl, D, _, 0, nV p, rfl, rfl, lst_in d5, atI_nat (j := 0) rfl, .str (sS f), rfl, _, rfl, by rw [sS_len]; exact small_size (by omega), _, _, rfl, by rw [sS_len]; omega, ?_⟩
          rw [sS_len, show ((f.length : Int) - (p : Int)).toNat = f.length - p by omega]
          refine fun D3 n3 => lcN walk_rng yfn_nats (j := 7) (hasAt f c) nV n3 (by rw [List.length_range']; omega) (fun _ _ => trivial) (fun _ => rfl) (fun n hn H6 s6 R r => ?_) (fun n hn _ H6 s6 R r => ⟨nV n, rfl, r H6 (Same.refl _)⟩) fun H6 s6 d7 => ?_
          · have h1 : n < f.length := by
              rw [List.mem_range'_1] at hn
              omega
            have hd : f[n]? = some f[n] := List.getElem?_eq_getElem h1
            refine ⟨.str (sS f), rfl, nV n, rfl, sS f, _, f[n], rfl, rfl, by rw [sS_len]; exact small_size (by omega), at_str (k := n) rfl hd, .str ⟨#[c]⟩, rfl, rfl, _, rfl, ?_⟩
            rw [show decide (V.str (sS [f[n]]) = V.str ⟨#[c]⟩) = hasAt f c n from dec_at' hd]
            exact r H6 (Same.refl _)
          · have d7 : H6 D3 = some (.lst ((endsFrom f c p).map nV)) := d7
            refine ⟨D3, _, rfl, .inl ⟨lst_in d7, fun T nT => ?_⟩⟩
            have s7 := (s5.trans s6).trans (same_new nT (o := .tup ((endsFrom f c p).map nV)))
            have hT : upd H6 T (.tup ((endsFrom f c p).map nV)) T = some (.tup ((endsFrom f c p).map nV)) := upd_same
            generalize upd H6 T (.tup ((endsFrom f c p).map nV)) = H7 at s7 hT ⊢
            have f7 := s7 _ _ hfa
            have nTf : T ≠ fa := ne_of hT f7 fun z => nomatch z
            have hx : xs.length ≤ 3 := by rw [tp.length, ed]; omega
            refine ⟨.ref fa, rfl, .inl ⟨rfl, _, lst_in f7⟩, .ref T, rfl, fa, xs, _, rfl, rfl, f7, small1000 (by omega), ?_⟩
            have s8 : Same H (upd H7 fa (.lst (xs ++ [.ref T]))) := fun b o e => by
              rw [upd_ne (ne_of_none e nf)]
              exact s7 b o (s2 b o e)
            have t8 : Tups (upd H7 fa (.lst (xs ++ [.ref T]))) (xs ++ [.ref T]) (done ++ [endsFrom f c p]) := by
              refine Tups.snoc (by rw [upd_ne nTf]; exact hT) (tp.mono fun t ys e => ?_)
              rw [upd_ne (ne_of e hfa fun z => nomatch z)]
              exact s7 _ _ e
            have hT8 : upd H7 fa (.lst (xs ++ [.ref T])) T = some (.tup ((endsFrom f c p).map nV)) := by rw [upd_ne nTf]; exact hT
            have f8 : upd H7 fa (.lst (xs ++ [.ref T])) fa = some (.lst (xs ++ [.ref T])) := upd_same
            generalize upd H7 fa (.lst (xs ++ [.ref T])) = H8 at s8 t8 hT8 f8 ⊢
            have el := ends_len f c p
            refine ⟨.ref T, rfl, T, rfl, ⟨_, tup_in hT8⟩, fun D4 n4 => lcN walk_natsT yat_nats (l := endsFrom f c p) (j := 7) (fun _ => true) (fun n => nV (n + 1)) n4 (by omega) (fun H' s => tup_in (s _ _ hT8)) (fun _ => rfl) (fun n hn H9 s9 R r => r H9 (Same.refl _))
              (fun n hn _ H9 s9 R r => ⟨nV n, rfl, _, _, rfl, rfl, r H9 (Same.refl _)⟩) fun H9 s9 d9 => ?_⟩
            rw [map_succ] at d9
            exact ⟨fa, D4, _, _, _, xs ++ [.ref T], done ++ [endsFrom f c p], (endsFrom f c p).map (· + 1), rfl, s8.trans s9, nf, s9 _ _ f8, t8.mono fun t ys e => s9 _ _ e, d9, eb2, by rw [List.length_append, ed] <;> rfl, by rw [List.length_map]; omega⟩
    · obtain ⟨fa, sa, x4, x5, x6, xs, done, st, rfl, s2, nf, hfa, tp, hsa, eb, ed, sl⟩ := hP
      refine ⟨.ref fa, rfl, q H2 fa xs s2 nf hfa ?_⟩
      have e : g.drop (sS g).cps.size = [] := List.drop_eq_nil_of_le (by simp)
      rw [e] at eb
      rw [eb]
      show Tups H2 xs (done ++ [])
      rw [List.append_nil]
      exact tp
end
end J
end

section
/-! sorted(set(text)) of a text of a and b; slices and sums of texts -/
namespace J
open PySem PySem.Spec PyProof.Rows L2 PySem.Froz
theorem sing_inj {c d : Nat} (h : sing c = sing d) : c = d := by
  have z2 := congrArg (fun y : Str => y.cps.toList) h
  exact (List.cons.inj z2).1
theorem two_lists {α : Type} {a b : α} : ∀ (ys : List α), ys.Nodup → (∀ y ∈ ys, y = a ∨ y = b) → ys = [] ∨ ys = [a] ∨ ys = [b] ∨ ys = [a, b] ∨ ys = [b, a]
  | [], _, _ => .inl rfl
  | [x], _, h => by
    rcases h x List.mem_cons_self with e | e
    · exact .inr (.inl (by rw [e]))
    · exact .inr (.inr (.inl (by rw [e])))
  | [x, y], n, h => by
    have hn : x ≠ y := fun e => (List.nodup_cons.mp n).1 (by rw [e]; exact List.mem_cons_self)
    rcases h x List.mem_cons_self with e | e <;> rcases h y (by simp) with e2 | e2
    · exact (hn (e.trans e2.symm)).elim
    · exact .inr (.inr (.inr (.inl (by rw [e, e2]))))
    · exact .inr (.inr (.inr (.inr (by rw [e, e2]))))
    · exact (hn (e.trans e2.symm)).elim
  | x :: y :: z :: r, n, h => by
    have n1 := List.nodup_cons.mp n
    have n2 := List.nodup_cons.mp n1.2
    have h1 : x ≠ y := fun e => n1.1 (by rw [e]; simp)
    have h2 : x ≠ z := fun e => n1.1 (by rw [e]; simp)
    have h3 : y ≠ z := fun e => n2.1 (by rw [e]; simp)
    rcases h x (by simp) with e | e <;> rcases h y (by simp) with e2 | e2 <;> rcases h z (by simp) with e3 | e3
    all_goals first
      | exact (h1 (e.trans e2.symm)).elim
      | exact (h2 (e.trans e3.symm)).elim
      | exact (h3 (e2.trans e3.symm)).elim
theorem letters_sorted {g : Wd} (hg : AB g) {l ys : List Str} (nd : l.Nodup) (hl : ∀ k, k ∈ l ↔ ∃ c ∈ g, k = sing c) (hp : ys.Perm l) (hs : sortedS ys = true) : ys = (lettersM g).map sing := by
  have hm : ∀ k, k ∈ ys ↔ ∃ c ∈ g, k = sing c := fun k => by rw [hp.mem_iff]; exact hl k
  have ny : ys.Nodup := hp.nodup_iff.mpr nd
  have h2 : ∀ y ∈ ys, y = sing 97 ∨ y = sing 98 := fun y h => by
    obtain ⟨c, hc, rfl⟩ := (hm y).mp h
    rcases hg c hc with e | e
    · exact .inl (by rw [e])
    · exact .inr (by rw [e])
  have ha : (sing 97 ∈ ys) ↔ 97 ∈ g := ⟨fun h => by obtain ⟨c, hc, e⟩ := (hm _).mp h; rw [sing_inj e]; exact hc, fun h => (hm _).mpr ⟨97, h, rfl⟩⟩
  have hb : (sing 98 ∈ ys) ↔ 98 ∈ g := ⟨fun h => by obtain ⟨c, hc, e⟩ := (hm _).mp h; rw [sing_inj e]; exact hc, fun h => (hm _).mpr ⟨98, h, rfl⟩⟩
  have ne : sing 97 ≠ sing 98 := fun e => absurd (sing_inj e) (by decide)
  have el : lettersM g = (if 97 ∈ g then [97] else []) ++ (if 98 ∈ g then [98] else []) := by
    unfold lettersM
    by_cases h1 : 97 ∈ g <;> by_cases h2 : 98 ∈ g <;> simp [h1, h2]
  rw [el]
  rcases two_lists ys ny h2 with e | e | e | e | e
  · subst e
    rw [if_neg (fun z => by simpa using ha.mpr z), if_neg (fun z => by simpa using hb.mpr z)] <;> rfl
  · subst e
    rw [if_pos (ha.mp (by simp)), if_neg (fun z => by have := hb.mpr z; exact ne (List.mem_singleton.mp this).symm)] <;> rfl
  · subst e
    rw [if_neg (fun z => by have := ha.mpr z; exact ne (List.mem_singleton.mp this)), if_pos (hb.mp (by simp))] <;> rfl
  · subst e
    rw [if_pos (ha.mp (by simp)), if_pos (hb.mp (by simp))] <;> rfl
  · subst e
    exact absurd hs (by decide +kernel)
theorem letters_ab (g : Wd) : ∀ c ∈ lettersM g, c = 97 ∨ c = 98 := fun c h => by
  unfold lettersM at h
  have := (List.mem_filter.mp h).1
  simpa using this
theorem letters_len (g : Wd) : (lettersM g).length ≤ 2 := by
  unfold lettersM
  exact Nat.le_trans (List.length_filter_le _ _) (by decide)
theorem ascii_ab {g : Wd} (hg : AB g) : (sS g).cps.all (· < 128) = true := by
  rw [Array.all_eq_true']
  intro c hc
  have : c ∈ g := by simpa using hc
  rcases hg c this with e | e <;> (rw [e]; decide)
theorem set_few {g : Wd} (hg : AB g) {l : List Str} (nd : l.Nodup) (hl : ∀ k, k ∈ l ↔ ∃ c ∈ g, k = sing c) : l.length < 64 := by
  have h2 : ∀ y ∈ l, y = sing 97 ∨ y = sing 98 := fun y h => by
    obtain ⟨c, hc, rfl⟩ := (hl y).mp h
    rcases hg c hc with e | e
    · exact .inl (by rw [e])
    · exact .inr (by rw [e])
  rcases two_lists l nd h2 with e | e | e | e | e <;> (rw [e]; decide)
theorem sl_to (f : Wd) (i : Nat) : Txt.slice (sS f) none (some ((i : Nat) : Int)) = sS (f.take i) := SX.slice_to (a := f) (Int.natCast_nonneg i)
theorem sl_from (f : Wd) (i : Nat) : Txt.slice (sS f) (some ((i : Nat) : Int)) none = sS (f.drop i) := SX.slice_from (a := f) (Int.natCast_nonneg i)
theorem sS_cat (a b : Wd) : sS a ++ sS b = sS (a ++ b) := SX.S_cat a b
/-- sorted(set(g)) as a list of one-letter texts -/
def cV (c : Nat) : V := .str (sS [c])
theorem letters_V (g : Wd) : ((lettersM g).map sing).map V.str = (lettersM g).map cV := by
  rw [List.map_map] <;> rfl
end J
end

section
/-! is_reached, one_letter_more, one_letter_less -/
namespace J
open PySem PySem.Spec PyProof.Rows L2
theorem beginM_ne {f : Wd} : ∀ (g : Wd) (st : List Nat), ∀ l ∈ beginM f g st, l ≠ []
  | [], st, l, h => by cases h
  | c :: g, st, l, h => by
    unfold beginM at h
    cases e : st.filter (hasAt f c) with
    | nil => rw [e] at h; cases h
    | cons p rest =>
      rw [e] at h
      have hp : hasAt f c p = true := (List.mem_filter.mp (show p ∈ st.filter (hasAt f c) by rw [e]; exact List.mem_cons_self)).2
      have hpl : p < f.length := Decidable.byContradiction fun z => by rw [hasAt_out z] at hp; cases hp
      rcases List.mem_cons.mp h with z | z
      · intro en
        have hm : p ∈ endsFrom f c p := List.mem_filter.mpr ⟨List.mem_range'_1.mpr ⟨Nat.le_refl _, by omega⟩, hp⟩
        rw [← z, en] at hm
        cases hm
      · exact beginM_ne g _ l z
theorem atI_end {α : Type} {xs : List α} {v : α} {n : Nat} (hn : xs.length = n + 1) (h : xs[n]? = some v) : atI xs (-1) = some v := by
  have e : ixN xs.length (-1) = some n := by
    unfold ixN
    rw [if_neg (by decide), if_pos (by omega)]
    congr 1
    omega
  unfold atI
  rw [e]
  exact h
theorem lastD_at {α : Type} {l : List α} {n : Nat} {x d : α} (hn : l.length = n + 1) (h : l[n]? = some x) : l.getLastD d = x := by
  have e : l.getLast? = some x := by rw [List.getLast?_eq_getElem?, hn]; exact h
  rw [List.getLastD_eq_getLast?, e] <;> rfl
theorem dec_nat (a b : Nat) : decide (V.int ((a : Nat) : Int) = V.int ((b : Nat) : Int)) = decide (a = b) := by
  by_cases e : a = b
  · rw [e, decide_eq_true rfl, decide_eq_true rfl]
  · rw [decide_eq_false e, decide_eq_false]
    intro z
    have := V.int.inj z
    omega
theorem scReach : FnScope ["film", "goal", "told"] ["film", "goal"] (defScope sReach) := ⟨rfl, rfl, rfl, by decide +kernel, rfl, by decide +kernel, by decide +kernel⟩
def spReach : Sp := fun vs H Q _ => ∃ f g : Wd, vs = [.str (sS f), .str (sS g)] ∧ f.length ≤ 900 ∧ 1 ≤ g.length ∧ g.length ≤ 3 ∧ ∀ H', Same H H' → Q (.bl (reachM f g)) H'
section
variable {P : Program} {w : World} {K : PySem.W.Frag} {mg : Str → Option Value} {base : Heap} {f : Addr} {fd : FuncData}
theorem ok_reach (T : Tx mg) (OB : OkD P w K mg base 1 "begin" ["film", "goal"] spBegin) (F : FnP K "is_reached" sReach f fd) : FnOk P w K mg base CX0 2 f fd ["film", "goal"] spReach := by
  refine F.ok scReach (fun vs H Q E h => ?_) (fun cdv A outer s H vs Q E hr h => ?_)
  · obtain ⟨f, g, rfl, _⟩ := h
    rfl
  · obtain ⟨f, g, rfl, hf, hg1, hg, q⟩ := h
    refine ⟨_, PSs.nox (pss_cons (ps_set (i := 2) scReach.nd rfl (.inl rfl) (pe_callO OB hr (by rfl) (pa_cons (pv 0) (pa_cons (pv 1) pa_nil))))
      (pss_one (ps_ret (pe_and (pe_cmpR op_eq (pe_callB call_len_seq (by rfl) T.len PySem.boot_len (pa_cons (pv 2) pa_nil)) (pe_callB call_len_str (by rfl) T.len PySem.boot_len (pa_cons (pv 1) pa_nil)) (nomark _))
        (pe_one (pe_cmpR op_eq (pe_ix ix_tup (pe_ix ix_list (pv 2) (pe_un un_neg pe_int) (fun _ _ => rfl)) (pe_un un_neg pe_int) (fun _ _ => rfl))
          (pe_op op_sub (pe_callB call_len_str (by rfl) T.len PySem.boot_len (pa_cons (pv 0) pa_nil)) pe_int) (nomark _))))))), ?_⟩
    refine ⟨.str (sS f), rfl, .str (sS g), rfl, f, g, rfl, hf, hg, fun H2 a xs s2 na ha tp => ?_⟩
    have hl := tp.length
    refine ⟨.ref a, rfl, a, xs, rfl, .inl (lst_in ha), .str (sS g), rfl, _, rfl, by rw [sS_len]; exact small_size (by omega), rfl, _, rfl, ?_⟩
    rw [sS_len, dec_nat, hl]
    have qq := q H2 s2
    unfold reachM at qq
    generalize hb : beginM f g [0] = bs at tp hl qq
    by_cases e : bs.length = g.length
    · rw [decide_eq_true e]
      obtain ⟨n, hn⟩ : ∃ n, bs.length = n + 1 := ⟨bs.length - 1, by omega⟩
      have hbn : bs[n]? = some bs[n] := List.getElem?_eq_getElem (by omega)
      obtain ⟨t, hxt, ht⟩ := tp.at n _ hbn
      have hne : bs[n] ≠ [] := beginM_ne g [0] _ (by rw [hb]; exact List.getElem_mem _)
      generalize bs[n] = lst at hbn hne ht
      obtain ⟨m, hm⟩ : ∃ m, lst.length = m + 1 := ⟨lst.length - 1, by have := List.length_pos_iff.mpr hne; omega⟩
      have hlm : lst[m]? = some lst[m] := List.getElem?_eq_getElem (by omega)
      have hv : (lst.map nV)[m]? = some (nV lst[m]) := by rw [List.getElem?_map, hlm] <;> rfl
      refine iteT ⟨.ref a, rfl, ?_⟩
      refine ⟨_, rfl, a, xs, -1, .ref t, rfl, rfl, lst_in ha, atI_end (by rw [hl, hn]) hxt, _, rfl, t, _, -1, nV lst[m], rfl, rfl, tup_in ht, atI_end (by rw [List.length_map, hm]) hv, .str (sS f), rfl, _, rfl, by rw [sS_len]; exact small_size (by omega), _, _, rfl, rfl, rfl, ?_⟩
      rw [lastD_at hn hbn, lastD_at hm hlm, decide_eq_true e, Bool.true_and] at qq
      rw [sS_len]
      have e3 : decide (nV lst[m] = V.int ((f.length : Int) - 1)) = decide (lst[m] + 1 = f.length) := by
        by_cases e4 : lst[m] + 1 = f.length
        · rw [decide_eq_true e4, decide_eq_true]
          show V.int _ = V.int _
          congr 1
          omega
        · rw [decide_eq_false e4, decide_eq_false]
          intro z
          have := V.int.inj z
          omega
      rw [e3]
      exact qq
    · rw [decide_eq_false e]
      rw [decide_eq_false e, Bool.false_and] at qq
      exact iteF qq
end
/-! ### lists of new tuples -/
def TR {α : Type} (e : α → List V) (H : Hp) : List V → List α → Prop
  | [], [] => True
  | v :: vs, l :: ls => (∃ t, v = .ref t ∧ H t = some (.tup (e l))) ∧ TR e H vs ls
  | _, _ => False
theorem TR.mono {α : Type} {e : α → List V} {H H' : Hp} (k : ∀ t xs, H t = some (.tup xs) → H' t = some (.tup xs)) : ∀ {vs : List V} {ls : List α}, TR e H vs ls → TR e H' vs ls
  | [], [], h => h
  | v :: vs, l :: ls, ⟨⟨t, e, h⟩, r⟩ => ⟨⟨t, e, k t _ h⟩, TR.mono k r⟩
  | [], _ :: _, h => h.elim
  | _ :: _, [], h => h.elim
theorem TR.snoc {α : Type} {e : α → List V} {H : Hp} {t : Addr} {l : α} (h0 : H t = some (.tup (e l))) : ∀ {vs : List V} {ls : List α}, TR e H vs ls → TR e H (vs ++ [.ref t]) (ls ++ [l])
  | [], [], _ => ⟨⟨t, rfl, h0⟩, trivial⟩
  | v :: vs, m :: ls, ⟨a, r⟩ => ⟨a, TR.snoc h0 r⟩
  | [], _ :: _, h => h.elim
  | _ :: _, [], h => h.elim
theorem TR.length {α : Type} {e : α → List V} {H : Hp} : ∀ {vs : List V} {ls : List α}, TR e H vs ls → vs.length = ls.length
  | [], [], _ => rfl
  | v :: vs, m :: ls, ⟨_, r⟩ => congrArg Nat.succ (TR.length r)
  | [], _ :: _, h => h.elim
  | _ :: _, [], h => h.elim
theorem TR.nil {α : Type} {e : α → List V} {H : Hp} : TR e H [] ([] : List α) := trivial
def eP (x : Nat × Nat) : List V := [nV x.1, cV x.2]
def moreTo (f g : Wd) (i : Nat) : List (Nat × Nat) := (List.range i).flatMap (moreAt f g)
def moreIn (f g : Wd) (i j : Nat) : List (Nat × Nat) := (((lettersM g).take j).filter fun c => reachM (putW f i c) g).map fun c => (i, c)
theorem moreTo_succ (f g : Wd) (i : Nat) : moreTo f g (i + 1) = moreTo f g i ++ moreAt f g i := by
  unfold moreTo
  rw [List.range_succ, List.flatMap_append] <;> simp
theorem moreAt_len (f g : Wd) (i : Nat) : (moreAt f g i).length ≤ 2 := by
  unfold moreAt
  rw [List.length_map]
  exact Nat.le_trans (List.length_filter_le _ _) (letters_len g)
theorem moreTo_len (f g : Wd) : ∀ i, (moreTo f g i).length ≤ 2 * i
  | 0 => Nat.zero_le _
  | i + 1 => by
    rw [moreTo_succ, List.length_append]
    have h1 := moreTo_len f g i
    have h2 := moreAt_len f g i
    omega
theorem moreIn_len (f g : Wd) (i j : Nat) : (moreIn f g i j).length ≤ 2 := by
  unfold moreIn
  rw [List.length_map]
  exact Nat.le_trans (List.length_filter_le _ _) (Nat.le_trans (List.length_take_le' _ _) (letters_len g))
theorem moreIn_yes {f g : Wd} {i j c : Nat} (h : (lettersM g)[j]? = some c) (r : reachM (putW f i c) g = true) : moreIn f g i (j + 1) = moreIn f g i j ++ [(i, c)] := by
  unfold moreIn
  rw [List.take_add_one, h, List.filter_append, List.map_append]
  show _ ++ List.map _ (List.filter _ [c]) = _
  rw [List.filter_cons, if_pos r] <;> rfl
theorem moreIn_no {f g : Wd} {i j c : Nat} (h : (lettersM g)[j]? = some c) (r : reachM (putW f i c) g = false) : moreIn f g i (j + 1) = moreIn f g i j := by
  unfold moreIn
  rw [List.take_add_one, h, List.filter_append, List.map_append]
  show _ ++ List.map _ (List.filter _ [c]) = _
  rw [List.filter_cons, if_neg (by rw [r]; decide)]
  exact List.append_nil _
theorem scMore : FnScope ["film", "goal", "found", "place", "letter"] ["film", "goal"] (defScope sMore) := ⟨rfl, rfl, rfl, by decide +kernel, rfl, by decide +kernel, by decide +kernel⟩
def spTwo (α : Type) (e : α → List V) (r : Wd → Wd → List α) : Sp := fun vs H Q _ => ∃ f g : Wd, vs = [.str (sS f), .str (sS g)] ∧ 1 ≤ f.length ∧ f.length ≤ 200 ∧ AB f ∧ 1 ≤ g.length ∧ g.length ≤ 3 ∧ AB g ∧
  ∀ (H' : Hp) (a : Addr) (xs : List V), Same H H' → H a = none → H' a = some (.tup xs) → TR e H' xs (r f g) → Q (.ref a) H'
def spNums (r : Wd → Wd → List Nat) : Sp := fun vs H Q _ => ∃ f g : Wd, vs = [.str (sS f), .str (sS g)] ∧ 1 ≤ f.length ∧ f.length ≤ 200 ∧ AB f ∧ 1 ≤ g.length ∧ g.length ≤ 3 ∧ AB g ∧
  ∀ (H' : Hp) (a : Addr), Same H H' → H a = none → H' a = some (.tup ((r f g).map nV)) → Q (.ref a) H'
section
variable {P : Program} {w : World} {K : PySem.W.Frag} {mg : Str → Option Value} {base : Heap} {f : Addr} {fd : FuncData}
theorem ok_more (T : Tx mg) (ON : OkD P w K mg base 1 "need_film" ["value"] spNeed) (OR : OkD P w K mg base 2 "is_reached" ["film", "goal"] spReach) (F : FnP K "one_letter_more" sMore f fd) :
    FnOk P w K mg base CX0 3 f fd ["film", "goal"] (spTwo (Nat × Nat) eP moreM) := by
  refine F.ok scMore (fun vs H Q E h => ?_) (fun cdv A outer s H vs Q E hr h => ?_)
  · obtain ⟨f, g, rfl, _⟩ := h
    rfl
  · obtain ⟨f, g, rfl, f1, f2, f3, g1, g2, g3, q⟩ := h
    refine ⟨_, PSs.nox (pss_cons (ps_expr (pe_callO ON (hr.mono (by decide)) (by rfl) (pa_cons (pv 0) pa_nil)))
      (pss_cons (ps_expr (pe_callO ON (hr.mono (by decide)) (by rfl) (pa_cons (pv 1) pa_nil)))
      (pss_cons (ps_set (i := 2) scMore.nd rfl (.inl rfl) (pe_lst pa_nil))
      (pss_cons (ps_for PassesOwn.never rfl (pi_range1 (by rfl) T.range (pa_cons (pe_op op_add (pe_callB call_len_str (by rfl) T.len PySem.boot_len (pa_cons (pv 0) pa_nil)) pe_int) pa_nil)) (pg_name (i := 3) scMore.nd rfl (.inl rfl))
        (pss_one (ps_for PassesOwn.never rfl (pi_list (pe_callB (cr_sortedX rfl) (by rfl) T.sorted (by decide +kernel) (pa_cons (pe_callTy (cr_setS rfl) (by rfl) T.set (by decide +kernel) (pa_cons (pv 1) pa_nil)) pa_nil))) (pg_name (i := 4) scMore.nd rfl (.inl rfl))
          (pss_one (ps_if (pt_val (pe_callO OR hr (by rfl) (pa_cons (pe_op op_add_str (pe_op op_add_str (pe_slice C8.sl_txt (pv 0) po_none (po_some (pv 3))) (pv 4)) (pe_slice C8.sl_txt (pv 0) (po_some (pv 3)) po_none)) (pa_cons (pv 1) pa_nil))))
            (pss_one (ps_expr (pe_bm PySem.F.plainAttrs_list PySem.F.slot_list_append PySem.F.type_list_append mt_append (pv 2) (pa_cons (pe_tup (pa_cons (pv 3) (pa_cons (pv 4) pa_nil))) pa_nil))))
            pss_nil)))))
      (pss_one (ps_ret (pe_callTy call_tuple_of (by rfl) T.tuple (by decide +kernel) (pa_cons (pv 2) pa_nil)))))))), ?_⟩
    refine ⟨.str (sS f), rfl, f, rfl, f1, f2, f3, fun H1 s1 => ⟨.str (sS g), rfl, g, rfl, g1, by omega, g3, fun H2 s2 => ⟨Nat.zero_le _, fun fa nfa => ?_⟩⟩⟩
    have s3 := (s1.trans s2).trans (same_new nfa (o := .lst []))
    have nf : H fa = none := by
      cases e : H fa with
      | none => rfl
      | some o => rw [s2 _ _ (s1 _ _ e)] at nfa; cases nfa
    have hfa : upd H2 fa (.lst []) fa = some (.lst []) := upd_same
    generalize upd H2 fa (.lst []) = H3 at s3 hfa ⊢
    clear s1 s2 nfa
    refine ⟨.str (sS f), rfl, _, rfl, by rw [sS_len]; exact small_size (by omega), _, _, rfl, rfl, _, rfl, by rw [sS_len]; omega, by rw [sS_len]; omega, ?_⟩
    have en : (((sS f).length : Int) + 1).toNat = f.length + 1 := by rw [sS_len]; omega
    rw [en]
    refine for_range (lo := 0) (n := f.length + 1) (fun i σ H' => ∃ (x3 x4 : Option V) (xs : List V), σ = [some (.str (sS f)), some (.str (sS g)), some (.ref fa), x3, x4] ∧ Same H H' ∧ H' fa = some (.lst xs) ∧ TR eP H' xs (moreTo f g i))
      ⟨none, none, [], rfl, s3, hfa, trivial⟩ (fun i σ H4 hi hP => ?_) fun σ H4 hP => ?_
    · obtain ⟨x3, x4, xs, rfl, s4, h4, t4⟩ := hP
      rw [show (0 : Int) + (i : Int) = (i : Int) by omega]
      refine ⟨.str (sS g), rfl, sS g, rfl, ascii_ab g3, by show g.length < 1000; omega, fun p l np nd hl => ⟨p, l, rfl, upd_same, set_few g3 nd hl, fun ys p2 hp hs np2 => ⟨p2, rfl, ⟨_, lst_in upd_same⟩, ?_⟩⟩⟩
      have e := letters_sorted g3 nd hl hp hs
      subst e
      rw [letters_V]
      have s5 : Same H4 (upd (upd H4 p (SetX P w p l)) p2 (.lst ((lettersM g).map cV))) := (same_new np).trans (same_new np2)
      have h5 : upd (upd H4 p (SetX P w p l)) p2 (.lst ((lettersM g).map cV)) p2 = some (.lst ((lettersM g).map cV)) := upd_same
      have n5 : H4 p2 = none := by
        by_cases e : p2 = p
        · rw [e]; exact np
        · rw [upd_ne e] at np2; exact np2
      have e0 : moreTo f g i ++ moreIn f g i 0 = moreTo f g i := List.append_nil _
      have nfp : p2 ≠ fa := fun z => by rw [z, h4] at n5; cases n5
      refine for_list (xs := (lettersM g).map cV) (fun j σ H' => ∃ (x4 : Option V) (xs : List V), σ = [some (.str (sS f)), some (.str (sS g)), some (.ref fa), some (.int (i : Int)), x4] ∧ Same H H' ∧ H' p2 = some (.lst ((lettersM g).map cV)) ∧ H' fa = some (.lst xs) ∧ TR eP H' xs (moreTo f g i ++ moreIn f g i j))
        ⟨x4, xs, rfl, s4.trans s5, h5, s5 _ _ h4, by
          rw [e0]
          exact t4.mono fun t ys e => s5 _ _ e⟩ (fun j σ H' _ hP => by obtain ⟨_, _, _, _, h, _⟩ := hP; exact lst_in h) (fun j x σ H6 hx hP => ?_) fun σ H6 hP => ?_
      · obtain ⟨x4, xs, rfl, s6, h6, f6, t6⟩ := hP
        obtain ⟨c, hc, rfl⟩ : ∃ c, (lettersM g)[j]? = some c ∧ x = cV c := by
          rw [List.getElem?_map] at hx
          cases e : (lettersM g)[j]? with
          | none => rw [e] at hx; cases hx
          | some c => rw [e] at hx; exact ⟨c, rfl, (Option.some.inj hx).symm⟩
        refine ⟨.str (sS f), rfl, .int (i : Int), rfl, (i : Int), rfl, sS f, rfl, by rw [sS_len]; exact small_size (by omega), ?_⟩
        rw [sl_to]
        refine ⟨cV c, rfl, sS (f.take i), sS [c], rfl, rfl, by rw [sS_len, sS_len]; exact small_size (by rw [List.length_take]; show min i f.length + 1 ≤ 1000; omega), ?_⟩
        rw [sS_cat]
        refine ⟨.str (sS f), rfl, .int (i : Int), rfl, (i : Int), rfl, sS f, rfl, by rw [sS_len]; exact small_size (by omega), ?_⟩
        rw [sl_from]
        refine ⟨_, _, rfl, rfl, by rw [sS_len, sS_len]; exact small_size (by rw [List.length_append, List.length_take, List.length_drop]; show min i f.length + 1 + _ ≤ 1000; omega), ?_⟩
        rw [sS_cat]
        have hz : (putW f i c).length ≤ 900 := by
          unfold putW
          rw [List.length_append, List.length_append, List.length_take, List.length_drop]
          show min i f.length + 1 + _ ≤ 900
          omega
        refine ⟨.str (sS g), rfl, putW f i c, g, rfl, hz, g1, g2, fun H7 s7 => ⟨_, rfl, ?_⟩⟩
        have f7 := s7 _ _ f6
        have t7 := t6.mono fun t ys e => s7 _ _ e
        cases hr7 : reachM (putW f i c) g with
        | true =>
          have hlen : xs.length ≤ 2 * 200 + 2 + 2 := by
            rw [t6.length, List.length_append]
            have h1 := moreTo_len f g i
            have h2 := moreIn_len f g i j
            omega
          refine iteT ⟨.ref fa, rfl, .inl ⟨rfl, _, lst_in f7⟩, .int (i : Int), rfl, cV c, rfl, by show 2 ≤ sizeLine; decide, fun T nT => ⟨fa, xs, _, rfl, rfl, ?_, small1000 (by omega), ?_⟩⟩
          · rw [upd_ne (ne_of_none f7 nT)]
            exact f7
          · have nTf : T ≠ fa := Ne.symm (ne_of_none f7 nT)
            refine ⟨_, xs ++ [.ref T], rfl, fun b o e => ?_, ?_, upd_same, ?_⟩
            · rw [upd_ne (ne_of_none e nf), upd_ne (ne_of_none (s7 _ _ (s6 _ _ e)) nT)]
              exact s7 _ _ (s6 _ _ e)
            · rw [upd_ne nfp, upd_ne (ne_of_none (s7 _ _ h6) nT)]
              exact s7 _ _ h6
            · rw [moreIn_yes hc hr7, ← List.append_assoc]
              refine TR.snoc (by rw [upd_ne nTf]; exact upd_same) (t7.mono fun t ys e => ?_)
              rw [upd_ne (ne_of e f7 fun z => nomatch z), upd_ne (ne_of_none e nT)]
              exact e
        | false =>
          refine iteF ⟨_, xs, rfl, s6.trans s7, s7 _ _ h6, f7, ?_⟩
          rw [moreIn_no hc hr7]
          exact t7
      · obtain ⟨x4, xs, rfl, s6, h6, f6, t6⟩ := hP
        refine ⟨_, x4, xs, rfl, s6, f6, ?_⟩
        rw [moreTo_succ]
        have e : moreIn f g i ((lettersM g).map cV).length = moreAt f g i := by
          unfold moreIn moreAt
          rw [List.length_map, List.take_length]
        rw [e] at t6
        exact t6
    · obtain ⟨x3, x4, xs, rfl, s4, h4, t4⟩ := hP
      refine ⟨.ref fa, rfl, fa, xs, rfl, .inl ⟨lst_in h4, fun a na => q _ a xs (same_upd s4 na) ?_ upd_same (t4.mono fun t ys e => by rw [upd_ne (ne_of_none e na)]; exact e)⟩⟩
      cases e : H a with
      | none => rfl
      | some o => rw [s4 _ _ e] at na; cases na
end
end J
end

section
/-! one_letter_less -/
namespace J
open PySem PySem.Spec PyProof.Rows L2
def lessTo (f g : Wd) (i : Nat) : List Nat := (List.range i).filter fun i => decide (cutW f i ≠ []) && reachM (cutW f i) g
theorem lessTo_yes {f g : Wd} {i : Nat} (h : (decide (cutW f i ≠ []) && reachM (cutW f i) g) = true) : lessTo f g (i + 1) = lessTo f g i ++ [i] := by
  unfold lessTo
  rw [List.range_succ, List.filter_append, List.filter_cons, if_pos h] <;> rfl
theorem lessTo_no {f g : Wd} {i : Nat} (h : (decide (cutW f i ≠ []) && reachM (cutW f i) g) = false) : lessTo f g (i + 1) = lessTo f g i := by
  unfold lessTo
  rw [List.range_succ, List.filter_append, List.filter_cons, if_neg (by rw [h]; decide)]
  exact List.append_nil _
theorem lessTo_len (f g : Wd) (i : Nat) : (lessTo f g i).length ≤ i := by
  unfold lessTo
  have h := List.length_filter_le (fun i => decide (cutW f i ≠ []) && reachM (cutW f i) g) (List.range i)
  rw [List.length_range] at h
  exact h
theorem dec_empty (r : Wd) : (!decide (V.str (sS r) = V.str (sS []))) = decide (r ≠ []) := by
  by_cases e : r = []
  · rw [e, decide_eq_true rfl, decide_eq_false (fun z => z rfl)] <;> rfl
  · rw [decide_eq_true e, decide_eq_false (fun z => e (SX.S_inj (V.str.inj z)))] <;> rfl
theorem scLess : FnScope ["film", "goal", "found", "place", "rest"] ["film", "goal"] (defScope sLess) := ⟨rfl, rfl, rfl, by decide +kernel, rfl, by decide +kernel, by decide +kernel⟩
section
variable {P : Program} {w : World} {K : PySem.W.Frag} {mg : Str → Option Value} {base : Heap} {f : Addr} {fd : FuncData}
theorem ok_less (T : Tx mg) (ON : OkD P w K mg base 1 "need_film" ["value"] spNeed) (OR : OkD P w K mg base 2 "is_reached" ["film", "goal"] spReach) (F : FnP K "one_letter_less" sLess f fd) :
    FnOk P w K mg base CX0 3 f fd ["film", "goal"] (spNums lessM) := by
  refine F.ok scLess (fun vs H Q E h => ?_) (fun cdv A outer s H vs Q E hr h => ?_)
  · obtain ⟨f, g, rfl, _⟩ := h
    rfl
  · obtain ⟨f, g, rfl, f1, f2, f3, g1, g2, g3, q⟩ := h
    refine ⟨_, PSs.nox (pss_cons (ps_expr (pe_callO ON (hr.mono (by decide)) (by rfl) (pa_cons (pv 0) pa_nil)))
      (pss_cons (ps_expr (pe_callO ON (hr.mono (by decide)) (by rfl) (pa_cons (pv 1) pa_nil)))
      (pss_cons (ps_set (i := 2) scLess.nd rfl (.inl rfl) (pe_lst pa_nil))
      (pss_cons (ps_for PassesOwn.never rfl (pi_range1 (by rfl) T.range (pa_cons (pe_callB call_len_str (by rfl) T.len PySem.boot_len (pa_cons (pv 0) pa_nil)) pa_nil)) (pg_name (i := 3) scLess.nd rfl (.inl rfl))
        (pss_cons (ps_set (i := 4) scLess.nd rfl (.inl rfl) (pe_op op_add_str (pe_slice C8.sl_txt (pv 0) po_none (po_some (pv 3))) (pe_slice C8.sl_txt (pv 0) (po_some (pe_op op_add (pv 3) pe_int)) po_none)))
        (pss_one (ps_if (PW.pt (pw_and (pt_cmpR op_ne (pv 4) pe_str (nomark _)) (pw_and1 (pt_val (pe_callO OR hr (by rfl) (pa_cons (pv 4) (pa_cons (pv 1) pa_nil)))))))
            (pss_one (ps_expr (pe_bm PySem.F.plainAttrs_list PySem.F.slot_list_append PySem.F.type_list_append mt_append (pv 2) (pa_cons (pv 3) pa_nil))))
            pss_nil))))
      (pss_one (ps_ret (pe_callTy call_tuple_of (by rfl) T.tuple (by decide +kernel) (pa_cons (pv 2) pa_nil)))))))), ?_⟩
    refine ⟨.str (sS f), rfl, f, rfl, f1, f2, f3, fun H1 s1 => ⟨.str (sS g), rfl, g, rfl, g1, by omega, g3, fun H2 s2 => ⟨Nat.zero_le _, fun fa nfa => ?_⟩⟩⟩
    have s3 := (s1.trans s2).trans (same_new nfa (o := .lst []))
    have nf : H fa = none := by
      cases e : H fa with
      | none => rfl
      | some o => rw [s2 _ _ (s1 _ _ e)] at nfa; cases nfa
    have hfa : upd H2 fa (.lst []) fa = some (.lst []) := upd_same
    generalize upd H2 fa (.lst []) = H3 at s3 hfa ⊢
    clear s1 s2 nfa
    refine ⟨.str (sS f), rfl, _, rfl, by rw [sS_len]; exact small_size (by omega), _, rfl, by rw [sS_len]; omega, by rw [sS_len]; omega, ?_⟩
    have en : ((sS f).length : Int).toNat = f.length := by rw [sS_len]; omega
    rw [en]
    refine for_range (lo := 0) (n := f.length) (fun i σ H' => ∃ (x3 x4 : Option V), σ = [some (.str (sS f)), some (.str (sS g)), some (.ref fa), x3, x4] ∧ Same H H' ∧ H' fa = some (.lst ((lessTo f g i).map nV)))
      ⟨none, none, rfl, s3, hfa⟩ (fun i σ H4 hi hP => ?_) fun σ H4 hP => ?_
    · obtain ⟨x3, x4, rfl, s4, h4⟩ := hP
      rw [show (0 : Int) + (i : Int) = (i : Int) by omega]
      refine ⟨.str (sS f), rfl, .int (i : Int), rfl, (i : Int), rfl, sS f, rfl, by rw [sS_len]; exact small_size (by omega), ?_⟩
      rw [sl_to]
      refine ⟨.str (sS f), rfl, .int (i : Int), rfl, _, _, rfl, rfl, (i : Int) + 1, rfl, sS f, rfl, by rw [sS_len]; exact small_size (by omega), ?_⟩
      rw [show (i : Int) + 1 = ((i + 1 : Nat) : Int) by omega, sl_from]
      have hz : (cutW f i).length ≤ 900 := by
        unfold cutW
        rw [List.length_append, List.length_take, List.length_drop]
        omega
      refine ⟨_, _, rfl, rfl, by rw [sS_len, sS_len]; exact small_size (by rw [List.length_take, List.length_drop]; omega), ?_⟩
      rw [sS_cat, show f.take i ++ f.drop (i + 1) = cutW f i from rfl]
      refine ⟨.str (sS (cutW f i)), rfl, rfl, _, rfl, ?_⟩
      rw [show (!decide (V.str (sS (cutW f i)) = V.str "")) = decide (cutW f i ≠ []) from dec_empty _]
      cases he : decide (cutW f i ≠ []) with
      | false =>
        refine iteF (iteF ⟨_, _, rfl, s4, ?_⟩)
        rw [lessTo_no (by rw [he] <;> rfl)]
        exact h4
      | true =>
        refine iteT ⟨.str (sS (cutW f i)), rfl, .str (sS g), rfl, cutW f i, g, rfl, hz, g1, g2, fun H7 s7 => ⟨_, rfl, ?_⟩⟩
        have f7 := s7 _ _ h4
        cases hr7 : reachM (cutW f i) g with
        | true =>
          have hlen := lessTo_len f g i
          refine iteT ⟨.ref fa, rfl, .inl ⟨rfl, _, lst_in f7⟩, .int (i : Int), rfl, fa, _, _, rfl, rfl, f7, by rw [List.length_map]; exact small1000 (by omega), ?_⟩
          refine ⟨_, _, rfl, fun b o e => ?_, ?_⟩
          · rw [upd_ne (ne_of_none e nf)]
            exact s7 _ _ (s4 _ _ e)
          · rw [lessTo_yes (by rw [he, hr7] <;> rfl), List.map_append]
            exact upd_same
        | false =>
          refine iteF ⟨_, _, rfl, s4.trans s7, ?_⟩
          rw [lessTo_no (by rw [he, hr7] <;> rfl)]
          exact f7
    · obtain ⟨x3, x4, rfl, s4, h4⟩ := hP
      refine ⟨.ref fa, rfl, fa, _, rfl, .inl ⟨lst_in h4, fun a na => q _ a (same_upd s4 na) ?_ upd_same⟩⟩
      cases e : H a with
      | none => rfl
      | some o => rw [s4 _ _ e] at na; cases na
end
end J
end

section
/-! _law_taken, _law_film -/
namespace J
open PySem PySem.Spec PyProof.Rows L2
/-- the script's ints stay where only the row changes -/
theorem scr_but {K : PySem.W.Frag} {H H' : Hp} {a b r : Addr} {ns : List Int} {xs : List V} (h : SqL K H a (ns.map V.int)) (hr : H r = some (.lst (.ref b :: xs))) (k : But r H H') : SqL K H' a (ns.map V.int) := by
  rcases h with h | h
  · refine .inl ?_
    rcases h with h | ⟨o, h⟩
    · refine .inl ((k a fun e => ?_).trans h)
      rw [e, hr] at h
      have h := HO.lst.inj (Option.some.inj h)
      cases ns <;> cases h
    · exact .inr ⟨o, (k a fun e => by rw [e, hr] at h; cases h).trans h⟩
  · exact .inr h
theorem sql_same {K : PySem.W.Frag} {H H' : Hp} {a : Addr} {xs : List V} (h : SqL K H a xs) (s : Same H H') : SqL K H' a xs := by
  rcases h with h | h
  · rcases h with h | ⟨o, h⟩
    · exact .inl (.inl (s _ _ h))
    · exact .inl (.inr ⟨o, s _ _ h⟩)
  · exact .inr h
/-- the row: the script, where it stands, and two numbers -/
def RowAt (K : PySem.W.Frag) (H : Hp) (r : Addr) (ns : List Int) : Prop := ∃ (a : Addr) (k : Nat) (x y : Int), H r = some (.lst [.ref a, .int (k : Int), .int x, .int y]) ∧ SqL K H a (ns.map V.int) ∧ 0 ≤ x ∧ x < 2147483647
theorem scTaken : FnScope ["_law_row", "_law_many", "_law_found", "_law_cell"] ["_law_row", "_law_many"] (defScope sTaken) := ⟨rfl, rfl, rfl, by decide +kernel, rfl, by decide +kernel, by decide +kernel⟩
def spTaken (K : PySem.W.Frag) : Sp := fun vs H Q _ => ∃ (r : Addr) (m : Int) (ns : List Int), vs = [.ref r, .int m] ∧ RowAt K H r ns ∧ ns.length ≤ 63 ∧ 1 ≤ m ∧ m ≤ 1000 ∧
  ∀ (H' : Hp) (d : Int), But r H H' → RowAt K H' r ns → 0 ≤ d → d < m → Q (.int d) H'
theorem But.refl (r : Addr) (H : Hp) : But r H H := fun _ _ => rfl
theorem But.upd {r : Addr} {H H' : Hp} {o : HO} (k : But r H H') : But r H (upd H' r o) := fun b hb => (upd_ne hb).trans (k b hb)
section
variable {P : Program} {w : World} {K : PySem.W.Frag} {mg : Str → Option Value} {base : Heap} {f : Addr} {fd : FuncData}
theorem ok_taken (T : Tx mg) (F : FnP K "_law_taken" sTaken f fd) : FnOk P w K mg base CX0 1 f fd ["_law_row", "_law_many"] (spTaken K) := by
  refine F.ok scTaken (fun vs H Q E h => ?_) (fun cdv A outer s H vs Q E hr h => ?_)
  · obtain ⟨r, m, ns, rfl, _⟩ := h
    rfl
  · obtain ⟨r, m, ns, rfl, ⟨a, k, x, y, h0, ha, x0, x1⟩, hl, m1, m2, q⟩ := h
    refine ⟨_, PSs.nox (pss_cons (ps_if (pt_cmpR op_gt (pe_ix ix_list (pv 0) pe_int (fun _ _ => rfl)) pe_int (nomark _))
        (pss_cons (ps_set (i := 2) scTaken.nd rfl (.inl rfl) (pe_op op_mod (pe_callTy call_int1 (by rfl) T.int (by decide +kernel) (pa_cons (pe_ix ix_list (pv 0) pe_int (fun _ _ => rfl)) pa_nil)) (pv 1)))
        (pss_cons (ps_asg (pe_op op_fdiv (pe_ix ix_list (pv 0) pe_int (fun _ _ => rfl)) (pv 1)) (pg_sub (pv 0) pe_int set_list))
        (pss_one (ps_ret (pv 2))))) pss_nil)
      (pss_cons (ps_asg (pe_op op_add (pe_ix ix_list (pv 0) pe_int (fun _ _ => rfl)) pe_int) (pg_sub (pv 0) pe_int set_list))
      (pss_cons (ps_if (pt_cmpR op_gt (pe_ix ix_list (pv 0) pe_int (fun _ _ => rfl)) (pe_callB call_len_seq (by rfl) T.len PySem.boot_len (pa_cons (pe_ix ix_list (pv 0) pe_int (fun _ _ => rfl)) pa_nil)) (nomark _))
        (pss_cons (ps_asg (pe_op op_mod (pe_callTy call_int1 (by rfl) T.int (by decide +kernel) (pa_cons (pe_op op_add (pe_op op_mul (pe_ix ix_list (pv 0) pe_int (fun _ _ => rfl)) pe_int) pe_int) pa_nil)) pe_int) (pg_sub (pv 0) pe_int set_list))
        (pss_one (ps_ret (pe_op op_mod (pe_callTy call_int1 (by rfl) T.int (by decide +kernel) (pa_cons (pe_op op_fdiv (pe_ix ix_list (pv 0) pe_int (fun _ _ => rfl)) pe_int) pa_nil)) (pv 1))))) pss_nil)
      (pss_cons (ps_set (i := 3) scTaken.nd rfl (.inl rfl) (pe_ix ix_list (pe_ix ix_list (pv 0) pe_int (fun _ _ => rfl)) (pe_op op_sub (pe_ix ix_list (pv 0) pe_int (fun _ _ => rfl)) pe_int) (fun _ _ => rfl)))
      (pss_cons (ps_asg (pe_op op_mod (pe_callTy call_int1 (by rfl) T.int (by decide +kernel) (pa_cons (pe_op op_add (pe_op op_add (pe_op op_mul (pe_ix ix_list (pv 0) pe_int (fun _ _ => rfl)) pe_int) (pv 3)) pe_int) pa_nil)) pe_int) (pg_sub (pv 0) pe_int set_list))
      (pss_cons (ps_if (pt_cmpR op_ge (pv 3) (pe_op op_pow pe_int pe_int) (nomark _))
        (pss_one (ps_asg (pe_op op_fdiv (pv 3) (pv 1)) (pg_sub (pv 0) pe_int set_list))) pss_nil)
      (pss_one (ps_ret (pe_op op_mod (pe_callTy call_int1 (by rfl) T.int (by decide +kernel) (pa_cons (pv 3) pa_nil)) (pv 1)))))))))), ?_⟩
    have mp : (0 : Int) < m := by omega
    have mb : m < 1073741824 := by omega
    refine ⟨.ref r, rfl, r, _, 3, .int y, rfl, rfl, lst_in h0, atI_nat (j := 3) rfl, _, _, rfl, rfl, _, rfl, ?_⟩
    by_cases hy : (0 : Int) < y
    · rw [decide_eq_true (show y > 0 from hy)]
      refine iteT ⟨.ref r, rfl, r, _, 3, .int y, rfl, rfl, lst_in h0, atI_nat (j := 3) rfl, .inl ⟨y, rfl, .int m, rfl, _, _, rfl, rfl, mp, ?_⟩⟩
      refine ⟨.ref r, rfl, r, _, 3, .int y, rfl, rfl, lst_in h0, atI_nat (j := 3) rfl, .int m, rfl, _, _, rfl, rfl, ⟨mp, mb⟩, .ref r, rfl, r, _, 3, 3, rfl, rfl, h0, rfl, ?_⟩
      have bt : But r H (upd H r (.lst [.ref a, .int (k : Int), .int x, .int (y / m)])) := (But.refl r H).upd
      exact ⟨_, rfl, q _ _ bt ⟨a, k, x, y / m, upd_same, scr_but ha h0 bt, x0, x1⟩ (Int.emod_nonneg _ (by omega)) (Int.emod_lt_of_pos _ mp)⟩
    · rw [decide_eq_false (show ¬ y > 0 from hy)]
      refine iteF ⟨.ref r, rfl, r, _, 1, .int (k : Int), rfl, rfl, lst_in h0, atI_nat (j := 1) rfl, _, _, rfl, rfl, .ref r, rfl, r, _, 1, 1, rfl, rfl, h0, rfl, ?_⟩
      have b1 : But r H (upd H r (.lst [.ref a, .int ((k : Int) + 1), .int x, .int y])) := (But.refl r H).upd
      have h1 : upd H r (.lst [.ref a, .int ((k : Int) + 1), .int x, .int y]) r = some (.lst [.ref a, .int ((k : Int) + 1), .int x, .int y]) := upd_same
      refine ⟨.ref r, rfl, r, _, 1, .int ((k : Int) + 1), rfl, rfl, lst_in h1, atI_nat (j := 1) rfl, .ref r, rfl, r, _, 0, .ref a, rfl, rfl, lst_in h1, atI_nat (j := 0) rfl, a, _, rfl, .inl (scr_but ha h0 b1), _, _, rfl, rfl, _, rfl, ?_⟩
      rw [List.length_map]
      by_cases hk : (ns.length : Int) < (k : Int) + 1
      · rw [decide_eq_true (show (k : Int) + 1 > (ns.length : Int) from hk)]
        refine iteT ⟨.ref r, rfl, r, _, 2, .int x, rfl, rfl, lst_in h1, atI_nat (j := 2) rfl, _, _, rfl, rfl, .inl ⟨by omega, by omega⟩, _, _, rfl, rfl, .inl ⟨_, rfl, _, _, rfl, rfl, (by show (0 : Int) < 2147483647; decide), ?_⟩⟩
        refine ⟨.ref r, rfl, r, _, 2, 2, rfl, rfl, h1, rfl, ?_⟩
        have x20 : 0 ≤ ((x * 48271 + 11) % 2147483647) := by exact Int.emod_nonneg _ (by decide)
        have x21 : ((x * 48271 + 11) % 2147483647) < 2147483647 := by exact Int.emod_lt_of_pos _ (by decide)
        have b2 : But r H (upd (upd H r (.lst [.ref a, .int ((k : Int) + 1), .int x, .int y])) r (.lst [.ref a, .int ((k : Int) + 1), .int ((x * 48271 + 11) % 2147483647), .int y])) := b1.upd
        refine ⟨.ref r, rfl, r, _, 2, .int ((x * 48271 + 11) % 2147483647), rfl, rfl, lst_in upd_same, atI_nat (j := 2) rfl, _, _, rfl, rfl, ⟨by decide, by decide⟩, .inl ⟨_, rfl, .int m, rfl, _, _, rfl, rfl, mp, ?_⟩⟩
        exact q _ _ b2 ⟨a, k + 1, ((x * 48271 + 11) % 2147483647), y, upd_same, scr_but ha h0 b2, x20, x21⟩ (Int.emod_nonneg _ (by omega)) (Int.emod_lt_of_pos _ mp)
      · rw [decide_eq_false (show ¬ (k : Int) + 1 > (ns.length : Int) from hk)]
        have hkl : k < ns.length := by omega
        have hc : (ns.map V.int)[k]? = some (.int ns[k]) := by rw [List.getElem?_map, List.getElem?_eq_getElem hkl] <;> rfl
        generalize ns[k] = c at hc
        refine iteF ⟨.ref r, rfl, r, _, 0, .ref a, rfl, rfl, lst_in h1, atI_nat (j := 0) rfl, .ref r, rfl, r, _, 1, .int ((k : Int) + 1), rfl, rfl, lst_in h1, atI_nat (j := 1) rfl, _, _, rfl, rfl, a, _, (k : Int) + 1 - 1, .int c, rfl, rfl, scr_but ha h0 b1, by rw [show (k : Int) + 1 - 1 = (k : Int) by omega]; exact atI_nat hc, ?_⟩
        refine ⟨.ref r, rfl, r, _, 2, .int x, rfl, rfl, lst_in h1, atI_nat (j := 2) rfl, _, _, rfl, rfl, .inl ⟨by omega, by omega⟩, .int c, rfl, _, _, rfl, rfl, _, _, rfl, rfl, .inl ⟨_, rfl, _, _, rfl, rfl, (by show (0 : Int) < 2147483647; decide), ?_⟩⟩
        refine ⟨.ref r, rfl, r, _, 2, 2, rfl, rfl, h1, rfl, ?_⟩
        have x20 : 0 ≤ ((x * 48271 + c + 11) % 2147483647) := by exact Int.emod_nonneg _ (by decide)
        have x21 : ((x * 48271 + c + 11) % 2147483647) < 2147483647 := by exact Int.emod_lt_of_pos _ (by decide)
        have b2 : But r H (upd (upd H r (.lst [.ref a, .int ((k : Int) + 1), .int x, .int y])) r (.lst [.ref a, .int ((k : Int) + 1), .int ((x * 48271 + c + 11) % 2147483647), .int y])) := b1.upd
        have h2 : upd (upd H r (.lst [.ref a, .int ((k : Int) + 1), .int x, .int y])) r (.lst [.ref a, .int ((k : Int) + 1), .int ((x * 48271 + c + 11) % 2147483647), .int y]) r = some (.lst [.ref a, .int ((k : Int) + 1), .int ((x * 48271 + c + 11) % 2147483647), .int y]) := upd_same
        refine ⟨.int c, rfl, _, _, rfl, rfl, ⟨by decide, by decide, by decide⟩, _, _, rfl, rfl, _, rfl, ?_⟩
        cases hb : decide (c ≥ (10 : Int) ^ Int.toNat 18) with
        | true =>
          refine iteT ⟨.int c, rfl, .int m, rfl, _, _, rfl, rfl, ⟨mp, mb⟩, .ref r, rfl, r, _, 3, 3, rfl, rfl, h2, rfl, ?_⟩
          have b3 := b2.upd (o := .lst [.ref a, .int ((k : Int) + 1), .int ((x * 48271 + c + 11) % 2147483647), .int (c / m)])
          refine ⟨.int c, rfl, .inl ⟨_, rfl, .int m, rfl, _, _, rfl, rfl, mp, ?_⟩⟩
          exact q _ _ b3 ⟨a, k + 1, ((x * 48271 + c + 11) % 2147483647), c / m, upd_same, scr_but ha h0 b3, x20, x21⟩ (Int.emod_nonneg _ (by omega)) (Int.emod_lt_of_pos _ mp)
        | false =>
          refine iteF ⟨.int c, rfl, .inl ⟨_, rfl, .int m, rfl, _, _, rfl, rfl, mp, ?_⟩⟩
          exact q _ _ b2 ⟨a, k + 1, ((x * 48271 + c + 11) % 2147483647), y, upd_same, scr_but ha h0 b2, x20, x21⟩ (Int.emod_nonneg _ (by omega)) (Int.emod_lt_of_pos _ mp)
end
end J
end

section
/-! _law_film -/
namespace J
open PySem PySem.Spec PyProof.Rows L2
theorem But.trans {r : Addr} {H H' H2 : Hp} (k : But r H H') (l : But r H' H2) : But r H H2 := fun b hb => (l b hb).trans (k b hb)
theorem scFilm : FnScope ["_law_row", "_law_most", "_law_many", "_law_found", "_law_turn"] ["_law_row", "_law_most", "_law_many"] (defScope sFilm) := ⟨rfl, rfl, rfl, by decide +kernel, rfl, by decide +kernel, by decide +kernel⟩
def spFilm (K : PySem.W.Frag) : Sp := fun vs H Q _ => ∃ (r : Addr) (M : Nat) (ns : List Int), vs = [.ref r, .int ((M : Nat) : Int), .int 2] ∧ RowAt K H r ns ∧ ns.length ≤ 63 ∧ 1 ≤ M ∧ M ≤ 900 ∧
  ∀ (H' : Hp) (f : Wd), But r H H' → RowAt K H' r ns → AB f → 1 ≤ f.length → f.length ≤ M → Q (.str (sS f)) H'
section
variable {P : Program} {w : World} {K : PySem.W.Frag} {mg : Str → Option Value} {base : Heap} {f : Addr} {fd : FuncData}
theorem ok_film (T : Tx mg) (OT : OkD P w K mg base 1 "_law_taken" ["_law_row", "_law_many"] (spTaken K)) (F : FnP K "_law_film" sFilm f fd) : FnOk P w K mg base CX0 2 f fd ["_law_row", "_law_most", "_law_many"] (spFilm K) := by
  refine F.ok scFilm (fun vs H Q E h => ?_) (fun cdv A outer s H vs Q E hr h => ?_)
  · obtain ⟨r, m, ns, rfl, _⟩ := h
    rfl
  · obtain ⟨r, M, ns, rfl, hrow, hl, m1, m2, q⟩ := h
    refine ⟨_, PSs.nox (pss_cons (ps_set (i := 3) scFilm.nd rfl (.inl rfl) pe_str)
      (pss_cons (ps_for PassesOwn.never rfl (pi_range1 (by rfl) T.range (pa_cons (pe_op op_add pe_int (pe_callO OT hr (by rfl) (pa_cons (pv 0) (pa_cons (pv 1) pa_nil)))) pa_nil)) (pg_name (i := 4) scFilm.nd rfl (.inl rfl))
        (pss_one (ps_set (i := 3) scFilm.nd rfl (.inl rfl) (pe_op op_add_str (pv 3) (pe_ix ix_str pe_str (pe_callO OT hr (by rfl) (pa_cons (pv 0) (pa_cons (pv 2) pa_nil))) (fun _ _ => rfl))))))
      (pss_one (ps_ret (pv 3))))), ?_⟩
    refine ⟨.ref r, rfl, .int (M : Int), rfl, r, (M : Int), ns, rfl, hrow, hl, by omega, by omega, fun H1 d b1 r1 d0 d1 => ⟨_, _, rfl, rfl, 1 + d, rfl, by omega, by omega, ?_⟩⟩
    refine for_range (lo := 0) (n := (1 + d).toNat) (fun i σ H' => ∃ (x4 : Option V) (f : Wd), σ = [some (.ref r), some (.int (M : Int)), some (.int 2), some (.str (sS f)), x4] ∧ But r H H' ∧ RowAt K H' r ns ∧ AB f ∧ f.length = i)
      ⟨none, [], rfl, b1, r1, fun _ z => (nomatch z), rfl⟩ (fun i σ H2 hi hP => ?_) fun σ H2 hP => ?_
    · obtain ⟨x4, f, rfl, b2, r2, ab, el⟩ := hP
      refine ⟨.str (sS f), rfl, .ref r, rfl, .int 2, rfl, r, 2, ns, rfl, r2, hl, by decide, by decide, fun H3 e b3 r3 e0 e1 => ?_⟩
      have he : e = 0 ∨ e = 1 := by omega
      have step : ∀ c : Nat, (c = 97 ∨ c = 98) → ∃ (x4 : Option V) (f' : Wd), [some (V.ref r), some (.int (M : Int)), some (.int 2), some (.str (sS (f ++ [c]))), some (.int (0 + (i : Int)))] = [some (V.ref r), some (.int (M : Int)), some (.int 2), some (.str (sS f')), x4] ∧ But r H H3 ∧ RowAt K H3 r ns ∧ AB f' ∧ f'.length = i + 1 := fun c hc =>
        ⟨_, f ++ [c], rfl, b2.trans b3, r3, fun x hx => by
          rcases List.mem_append.mp hx with z | z
          · exact ab x z
          · rw [List.mem_singleton.mp z]; exact hc, by rw [List.length_append, el] <;> rfl⟩
      rcases he with rfl | rfl
      · refine ⟨_, 0, 97, rfl, rfl, (by decide +kernel), rfl, _, _, rfl, rfl, by rw [sS_len]; exact small_size (by show f.length + 1 ≤ 1000; omega), ?_⟩
        rw [show sS f ++ (⟨#[97]⟩ : Str) = sS (f ++ [97]) from sS_cat f [97]]
        exact step 97 (.inl rfl)
      · refine ⟨_, 1, 98, rfl, rfl, (by decide +kernel), rfl, _, _, rfl, rfl, by rw [sS_len]; exact small_size (by show f.length + 1 ≤ 1000; omega), ?_⟩
        rw [show sS f ++ (⟨#[98]⟩ : Str) = sS (f ++ [98]) from sS_cat f [98]]
        exact step 98 (.inr rfl)
    · obtain ⟨x4, f, rfl, b2, r2, ab, el⟩ := hP
      exact ⟨.str (sS f), rfl, q H2 f b2 r2 ab (by omega) (by omega)⟩
end
end J
end

section
/-! _law_partings -/
namespace J
open PySem PySem.Spec PyProof.Rows L2
/-! ### lists of values against a list of things -/
def LR {α : Type} (R : V → α → Prop) : List V → List α → Prop
  | [], [] => True
  | v :: vs, l :: ls => R v l ∧ LR R vs ls
  | _, _ => False
theorem LR.mono {α : Type} {R S : V → α → Prop} (k : ∀ v x, R v x → S v x) : ∀ {vs : List V} {ls : List α}, LR R vs ls → LR S vs ls
  | [], [], h => h
  | v :: vs, l :: ls, ⟨a, r⟩ => ⟨k v l a, LR.mono k r⟩
  | [], _ :: _, h => h.elim
  | _ :: _, [], h => h.elim
theorem LR.snoc {α : Type} {R : V → α → Prop} {v : V} {l : α} (h0 : R v l) : ∀ {vs : List V} {ls : List α}, LR R vs ls → LR R (vs ++ [v]) (ls ++ [l])
  | [], [], _ => ⟨h0, trivial⟩
  | _ :: vs, m :: ls, ⟨a, r⟩ => ⟨a, LR.snoc h0 r⟩
  | [], _ :: _, h => h.elim
  | _ :: _, [], h => h.elim
theorem LR.length {α : Type} {R : V → α → Prop} : ∀ {vs : List V} {ls : List α}, LR R vs ls → vs.length = ls.length
  | [], [], _ => rfl
  | _ :: vs, m :: ls, ⟨_, r⟩ => congrArg Nat.succ (LR.length r)
  | [], _ :: _, h => h.elim
  | _ :: _, [], h => h.elim
theorem LR.at {α : Type} {R : V → α → Prop} : ∀ {vs : List V} {ls : List α} (h : LR R vs ls) (i : Nat) (v : V), vs[i]? = some v → ∃ l, ls[i]? = some l ∧ R v l
  | v :: vs, m :: ls, ⟨a, r⟩, 0, u, z => by
    cases z
    exact ⟨m, rfl, a⟩
  | v :: vs, m :: ls, ⟨_, r⟩, i + 1, l, z => LR.at r i l z
  | [], [], _, i, l, z => by cases z
theorem LR.mem {α : Type} {R : V → α → Prop} : ∀ {vs : List V} {ls : List α}, LR R vs ls → ∀ v ∈ vs, ∃ l ∈ ls, R v l
  | v :: vs, m :: ls, ⟨a, r⟩, u, z => by
    rcases List.mem_cons.mp z with e | e
    · rw [e]; exact ⟨m, List.mem_cons_self, a⟩
    · obtain ⟨l, hl, h⟩ := LR.mem r u e
      exact ⟨l, List.mem_cons_of_mem _ hl, h⟩
  | [], [], _, _, z => by cases z
/-- a pair (told, start) -/
def PTup (H : Hp) (v : V) (x : List Nat × Nat) : Prop := ∃ t u : Addr, v = .ref t ∧ H t = some (.tup [.ref u, nV x.2]) ∧ H u = some (.tup (x.1.map nV))
theorem PTup.mono {H H' : Hp} (k : ∀ t xs, H t = some (.tup xs) → H' t = some (.tup xs)) {v : V} {x : List Nat × Nat} (h : PTup H v x) : PTup H' v x := by
  obtain ⟨t, u, e, h1, h2⟩ := h
  exact ⟨t, u, e, k _ _ h1, k _ _ h2⟩
theorem cat1 {K : PySem.W.Frag} {H : Hp} {Q : VK} {a b : Addr} {l : List Nat} {p : Nat} (ha : H a = some (.tup (l.map nV))) (hb : H b = some (.tup [nV p])) (hl : l.length ≤ 100) (q : ∀ (u : Addr) (H' : Hp), Same H H' → H' u = some (.tup ((l ++ [p]).map nV)) → Q (.ref u) H') : rCatA K (.ref a) (.ref b) H Q := by
  refine ⟨a, b, l.map nV, [nV p], rfl, rfl, tup_in ha, tup_in hb, by rw [List.length_map]; exact small_size (by show l.length + 1 ≤ 1000; omega), fun e => ?_, fun _ e => (nomatch e), fun _ _ r nr => ?_⟩
  · have e := List.map_eq_nil_iff.mp e
    subst e
    exact q b H (Same.refl H) hb
  · refine q r _ (same_new nr) ?_
    rw [upd_same, List.map_append] <;> rfl
/-! ### the stages -/
theorem partAll_snoc (f : Wd) (c : Nat) : ∀ (g : Wd) (l : List (List Nat × Nat)), partAll f (g ++ [c]) l = (partAll f g l).flatMap (partStep f c)
  | [], l => rfl
  | d :: g, l => partAll_snoc f c g _
def partTo (f g : Wd) (i : Nat) : List (List Nat × Nat) := partAll f (g.take i) [([], 0)]
theorem partTo_succ {f g : Wd} {i c : Nat} (h : g[i]? = some c) : partTo f g (i + 1) = (partTo f g i).flatMap (partStep f c) := by
  unfold partTo
  rw [List.take_add_one, h]
  exact partAll_snoc f c _ _
theorem flatMap_len {α β : Type} {k : Nat} {h : α → List β} : ∀ (l : List α), (∀ x ∈ l, (h x).length ≤ k) → (l.flatMap h).length ≤ k * l.length
  | [], _ => Nat.zero_le _
  | a :: l, q => by
    rw [List.flatMap_cons, List.length_append, List.length_cons, Nat.mul_succ]
    have h1 := q a List.mem_cons_self
    have h2 := flatMap_len l fun x m => q x (List.mem_cons_of_mem _ m)
    omega
theorem step_len {f : Wd} (hf : f.length ≤ 9) (c : Nat) (x : List Nat × Nat) : (partStep f c x).length ≤ 9 := by
  unfold partStep
  by_cases e : hasAt f c x.2 = true
  · rw [if_pos e, List.length_map]
    exact Nat.le_trans (ends_len f c x.2) hf
  · rw [if_neg e]; exact Nat.zero_le _
theorem partTo_len {f g : Wd} (hf : f.length ≤ 9) : ∀ (i : Nat), i ≤ g.length → (partTo f g i).length ≤ 9 ^ i
  | 0, _ => Nat.le_refl _
  | i + 1, h => by
    have hc : g[i]? = some g[i] := List.getElem?_eq_getElem (by omega)
    rw [partTo_succ hc, Nat.pow_succ, Nat.mul_comm]
    exact Nat.le_trans (flatMap_len _ fun x _ => step_len hf _ x) (Nat.mul_le_mul_left 9 (partTo_len hf i (by omega)))
theorem partTo_of {f g : Wd} : ∀ (i : Nat), i ≤ g.length → ∀ x ∈ partTo f g i, x.1.length = i ∧ (∀ n ∈ x.1, n < f.length) ∧ x.2 ≤ f.length
  | 0, _, x, hx => by
    rw [List.mem_singleton.mp (show x ∈ [([], 0)] from hx)]
    exact ⟨rfl, fun _ z => (nomatch z), Nat.zero_le _⟩
  | i + 1, h, x, hx => by
    have hc : g[i]? = some g[i] := List.getElem?_eq_getElem (by omega)
    rw [partTo_succ hc] at hx
    obtain ⟨y, hy, hx⟩ := List.mem_flatMap.mp hx
    obtain ⟨y1, y2, y3⟩ := partTo_of i (by omega) y hy
    unfold partStep at hx
    by_cases e : hasAt f g[i] y.2 = true
    · rw [if_pos e] at hx
      obtain ⟨p, hp, rfl⟩ := List.mem_map.mp hx
      have hb := ends_bd hp
      refine ⟨by rw [List.length_append, y1] <;> rfl, fun n hn => ?_, by show p + 1 ≤ _; omega⟩
      rcases List.mem_append.mp hn with z | z
      · exact y2 n z
      · rw [List.mem_singleton.mp z]; exact hb.1
    · rw [if_neg e] at hx; cases hx
theorem partTo_end (f g : Wd) : partTo f g g.length = partAll f g [([], 0)] := by
  unfold partTo
  rw [List.take_length]
def inn (f : Wd) (c : Nat) (x : List Nat × Nat) (m : Nat) : List (List Nat × Nat) := (((List.range' x.2 (f.length - x.2)).take m).filter (hasAt f c)).map fun p => (x.1 ++ [p], p + 1)
theorem inn_yes {f : Wd} {c m : Nat} {x : List Nat × Nat} (hm : m < f.length - x.2) (h : hasAt f c (x.2 + m) = true) : inn f c x (m + 1) = inn f c x m ++ [(x.1 ++ [x.2 + m], x.2 + m + 1)] := by
  unfold inn
  rw [List.take_add_one, List.getElem?_range' hm, List.filter_append, List.map_append, Nat.one_mul]
  show _ ++ List.map _ (List.filter _ [x.2 + m]) = _
  rw [List.filter_cons, if_pos h] <;> rfl
theorem inn_no {f : Wd} {c m : Nat} {x : List Nat × Nat} (hm : m < f.length - x.2) (h : hasAt f c (x.2 + m) = false) : inn f c x (m + 1) = inn f c x m := by
  unfold inn
  rw [List.take_add_one, List.getElem?_range' hm, List.filter_append, List.map_append, Nat.one_mul]
  show _ ++ List.map _ (List.filter _ [x.2 + m]) = _
  rw [List.filter_cons, if_neg (by rw [h]; decide)]
  exact List.append_nil _
theorem inn_len (f : Wd) (c m : Nat) (x : List Nat × Nat) : (inn f c x m).length ≤ m := by
  unfold inn
  rw [List.length_map]
  exact Nat.le_trans (List.length_filter_le _ _) (List.length_take_le _ _)
theorem inn_all {f : Wd} {c : Nat} {x : List Nat × Nat} (h : hasAt f c x.2 = true) : inn f c x (f.length - x.2) = partStep f c x := by
  unfold inn partStep
  rw [if_pos h, List.take_of_length_le (by rw [List.length_range'] <;> omega)] <;> rfl
theorem flat_succ {α β : Type} {h : α → List β} {l : List α} {j : Nat} {x : α} (e : l[j]? = some x) : (l.take (j + 1)).flatMap h = (l.take j).flatMap h ++ h x := by
  rw [List.take_add_one, e, List.flatMap_append]
  show _ ++ List.flatMap h [x] = _
  rw [List.flatMap_cons] <;> simp
end J
end

section
/-! _law_partings, the walk -/
namespace J
open PySem PySem.Spec PyProof.Rows L2
abbrev nParts : List Str := ["_law_film_here", "_law_goal", "_law_found", "_law_letter", "_law_later", "_law_told", "_law_start", "_law_place"]
theorem scParts : FnScope nParts ["_law_film_here", "_law_goal"] (defScope sParts) := ⟨rfl, rfl, rfl, by decide +kernel, rfl, by decide +kernel, by decide +kernel⟩
def spParts : Sp := fun vs H Q _ => ∃ f g : Wd, vs = [.str (sS f), .str (sS g)] ∧ f.length ≤ 9 ∧ 1 ≤ g.length ∧ g.length ≤ 3 ∧ (partsM f g).length < 64 ∧
  ∀ (H' : Hp) (a : Addr) (xs : List V), Same H H' → H a = none → H' a = some (.lst xs) → (∀ x ∈ xs, ∃ (t : Addr) (l : List Nat), x = .ref t ∧ H' t = some (.tup (l.map nV))) → xs.isEmpty = (partsM f g).isEmpty → Q (.ref a) H'
section
variable {P : Program} {w : World} {K : PySem.W.Frag} {mg : Str → Option Value} {base : Heap} {f : Addr} {fd : FuncData}
theorem ok_parts (T : Tx mg) (F : FnP K "_law_partings" sParts f fd) : FnOk P w K mg base CX0 1 f fd ["_law_film_here", "_law_goal"] spParts := by
  refine F.ok scParts (fun vs H Q E h => ?_) (fun cdv A outer s H vs Q E hr h => ?_)
  · obtain ⟨f, g, rfl, _⟩ := h
    rfl
  · obtain ⟨f, g, rfl, hf, hg1, hg, h64, q⟩ := h
    refine ⟨_, PSs.nox (pss_cons (ps_set (i := 2) scParts.nd rfl (.inl rfl) (pe_lst (pa_cons (pe_tup (pa_cons (pe_tup pa_nil) (pa_cons pe_int pa_nil))) pa_nil)))
      (pss_cons (ps_for PassesOwn.never rfl (pi_str (pv 1)) (pg_name (i := 3) scParts.nd rfl (.inl rfl))
        (pss_cons (ps_set (i := 4) scParts.nd rfl (.inl rfl) (pe_lst pa_nil))
        (pss_cons (ps_for PassesOwn.never rfl (pi_list (pv 2)) (pg_tup rfl (pgs_cons (pg_name (i := 5) scParts.nd rfl (.inl rfl)) (pgs_cons (pg_name (i := 6) scParts.nd rfl (.inl rfl)) pgs_nil)))
          (pss_one (ps_if (PW.pt (pw_and (pt_cmpR op_lt (pv 6) (pe_callB call_len_str (by rfl) T.len PySem.boot_len (pa_cons (pv 0) pa_nil)) (nomark _)) (pw_and1 (pt_cmpR op_eq (pe_ix ix_str (pv 0) (pv 6) (fun _ _ => rfl)) (pv 3) (nomark _)))))
            (pss_one (ps_for PassesOwn.never rfl (pi_range2 (by rfl) T.range (pa_cons (pv 6) (pa_cons (pe_callB call_len_str (by rfl) T.len PySem.boot_len (pa_cons (pv 0) pa_nil)) pa_nil))) (pg_name (i := 7) scParts.nd rfl (.inl rfl))
              (pss_one (ps_if (pt_cmpR op_eq (pe_ix ix_str (pv 0) (pv 7) (fun _ _ => rfl)) (pv 3) (nomark _))
                (pss_one (ps_expr (pe_bm PySem.F.plainAttrs_list PySem.F.slot_list_append PySem.F.type_list_append mt_append (pv 4) (pa_cons (pe_tup (pa_cons (pe_op op_catA (pv 5) (pe_tup (pa_cons (pv 7) pa_nil))) (pa_cons (pe_op op_add (pv 7) pe_int) pa_nil))) pa_nil))))
                pss_nil))))
            pss_nil)))
        (pss_one (ps_set (i := 2) scParts.nd rfl (.inl rfl) (pv 4))))))
      (pss_one (ps_ret (pe_callB (cr_sortT (d := g.length) (B := 1000) hg1) (by rfl) T.sorted (by decide +kernel) (pa_cons
        (pe_lc (own := [("_law_told", 5), ("_law_start", 6)]) (g := gTup K 2 (gCons (gName 5) (gCons (gName 6) gNil))) rfl scParts.nd (pi_list (pv 2)) (blkOk_by (N := nParts) (sc := defScope sParts) (by decide +kernel))
          (fun _ _ _ _ _ => pg_tup rfl (pgs_cons (pg_name (i := 5) scParts.nd rfl (.inl rfl) (.inr rfl)) (pgs_cons (pg_name (i := 6) scParts.nd rfl (.inl rfl) (.inr rfl)) pgs_nil)))
          (fun _ _ _ _ _ => pts_one (pt_cmpR op_eq (pv 6) (pe_callB call_len_str (by rfl) T.len PySem.boot_len (pa_cons (pv 0) pa_nil)) (nomark _))) (fun _ _ _ _ _ => pv 5)) pa_nil)))))), ?_⟩
    refine ⟨Nat.zero_le _, fun u0 n0 => ⟨by show 2 ≤ sizeLine; decide, fun t0 m0 => ⟨by show 1 ≤ sizeLine; decide, fun fa0 k0 => ?_⟩⟩⟩
    have hu0 : upd H u0 (.tup []) u0 = some (.tup []) := upd_same
    have s0 : Same H (upd H u0 (.tup [])) := same_new n0
    generalize upd H u0 (.tup []) = H1 at hu0 s0 m0 k0 ⊢
    have ht0 : upd H1 t0 (.tup [.ref u0, .int 0]) t0 = some (.tup [.ref u0, .int 0]) := upd_same
    have s1 : Same H1 (upd H1 t0 (.tup [.ref u0, .int 0])) := same_new m0
    generalize upd H1 t0 (.tup [.ref u0, .int 0]) = H2 at ht0 s1 k0 ⊢
    have hf0 : upd H2 fa0 (.lst [.ref t0]) fa0 = some (.lst [.ref t0]) := upd_same
    have s2 : Same H2 (upd H2 fa0 (.lst [.ref t0])) := same_new k0
    generalize upd H2 fa0 (.lst [.ref t0]) = H3 at hf0 s2 ⊢
    refine ⟨.str (sS g), rfl, sS g, rfl, ?_⟩
    refine for_it walk_str (fun i σ H' => ∃ (fa : Addr) (xs : List V) (x3 x4 x5 x6 x7 : Option V), σ = [some (.str (sS f)), some (.str (sS g)), some (.ref fa), x3, x4, x5, x6, x7] ∧ Same H H' ∧ H' fa = some (.lst xs) ∧ LR (PTup H') xs (partTo f g i))
      ⟨fa0, [.ref t0], none, none, none, none, none, rfl, s0.trans (s1.trans s2), hf0, ⟨⟨t0, u0, rfl, s2 _ _ ht0, s2 _ _ (s1 _ _ hu0)⟩, trivial⟩⟩ (fun _ _ _ _ _ => trivial) (fun i x σ H4 H5 hi hP hy => ?_) fun σ H4 hP => ?_
    · obtain ⟨fa, xs, x3, x4, x5, x6, x7, rfl, s4, hfa, tq⟩ := hP
      obtain ⟨rfl, c, hc, rfl⟩ := hy
      have hi' : i < g.length := by
        have z : (sS g).cps.size = g.length := by simp
        omega
      have ec : g[i]? = some c := by rw [← hc]; simp
      have hL := partTo_len (f := f) (g := g) hf i (by omega)
      have hLo := partTo_of (f := f) (g := g) i (by omega)
      have esucc := partTo_succ (f := f) ec
      generalize partTo f g i = L at tq hL hLo esucc
      have hL81 : L.length ≤ 81 := Nat.le_trans hL (Nat.le_trans (Nat.pow_le_pow_right (by decide) (show i ≤ 2 by omega)) (by decide))
      refine ⟨Nat.zero_le _, fun la nla => ?_⟩
      have nl : H la = none := by
        cases e : H la with
        | none => rfl
        | some o => rw [s4 _ _ e] at nla; cases nla
      have s5 := s4.trans (same_new nla (o := .lst []))
      have hla : upd H5 la (.lst []) la = some (.lst []) := upd_same
      have hfl : la ≠ fa := fun z => by rw [z, hfa] at nla; cases nla
      have hfa5 : upd H5 la (.lst []) fa = some (.lst xs) := by rw [upd_ne (Ne.symm hfl)]; exact hfa
      have tq5 : LR (PTup (upd H5 la (.lst []))) xs L := tq.mono fun v x h => h.mono fun t ys e => by rw [upd_ne (ne_of_none e nla)]; exact e
      generalize upd H5 la (.lst []) = H6 at s5 hla hfa5 tq5 ⊢
      refine ⟨.ref fa, rfl, fa, rfl, ⟨_, lst_in hfa5⟩, for_list (xs := xs) (fun j σ H' => ∃ (ys : List V) (x5 x6 x7 : Option V), σ = [some (.str (sS f)), some (.str (sS g)), some (.ref fa), some (.str ⟨#[c]⟩), some (.ref la), x5, x6, x7] ∧ Same H H' ∧ H' fa = some (.lst xs) ∧
        LR (PTup H') xs L ∧ H' la = some (.lst ys) ∧ LR (PTup H') ys ((L.take j).flatMap (partStep f c)))
        ⟨[], x5, x6, x7, rfl, s5, hfa5, tq5, hla, trivial⟩ (fun j σ H' _ hP => by obtain ⟨_, _, _, _, _, _, h, _⟩ := hP; exact lst_in h) (fun j x σ H7 hx hP => ?_) fun σ H7 hP => ?_⟩
      · obtain ⟨ys, x5, x6, x7, rfl, s7, f7, t7, l7, r7⟩ := hP
        obtain ⟨pr, hpr, t, u, rfl, ht, hu⟩ := t7.at j x hx
        have hj : j < L.length := (List.getElem?_eq_some_iff.mp hpr).1
        obtain ⟨o1, o2, o3⟩ := hLo pr (List.mem_of_getElem? hpr)
        have hyl : ys.length ≤ 9 * j := by
          rw [r7.length]
          refine Nat.le_trans (flatMap_len (k := 9) _ fun x _ => step_len hf c x) ?_
          exact Nat.mul_le_mul_left 9 (List.length_take_le _ _)
        rw [← Nat.succ_eq_add_one, Nat.succ_eq_add_one, flat_succ hpr]
        refine ⟨t, _, rfl, tup_in ht, rfl, _, _, rfl, _, _, rfl, rfl, ?_⟩
        refine ⟨nV pr.2, rfl, .str (sS f), rfl, _, rfl, by rw [sS_len]; exact small_size (by omega), _, _, rfl, rfl, _, rfl, ?_⟩
        rw [sS_len]
        by_cases h1 : pr.2 < f.length
        · rw [decide_eq_true (show (pr.2 : Int) < (f.length : Int) by omega)]
          have hd : f[pr.2]? = some f[pr.2] := List.getElem?_eq_getElem h1
          refine iteT ⟨.str (sS f), rfl, nV pr.2, rfl, sS f, _, f[pr.2], rfl, rfl, by rw [sS_len]; exact small_size (by omega), at_str (k := pr.2) rfl hd, .str ⟨#[c]⟩, rfl, rfl, _, rfl, ?_⟩
          rw [show decide (V.str (sS [f[pr.2]]) = V.str ⟨#[c]⟩) = hasAt f c pr.2 from dec_at' hd]
          cases hh : hasAt f c pr.2 with
          | true =>
            refine iteT ⟨nV pr.2, rfl, .str (sS f), rfl, _, rfl, by rw [sS_len]; exact small_size (by omega), _, _, rfl, by rw [sS_len]; omega, ?_⟩
            rw [sS_len, show ((f.length : Int) - (pr.2 : Int)).toNat = f.length - pr.2 by omega]
            refine for_range (lo := (pr.2 : Int)) (n := f.length - pr.2) (fun m σ H' => ∃ (ys : List V) (x7 : Option V), σ = [some (.str (sS f)), some (.str (sS g)), some (.ref fa), some (.str ⟨#[c]⟩), some (.ref la), some (.ref u), some (nV pr.2), x7] ∧ Same H H' ∧ H' fa = some (.lst xs) ∧
              LR (PTup H') xs L ∧ H' la = some (.lst ys) ∧ H' u = some (.tup (pr.1.map nV)) ∧ LR (PTup H') ys ((L.take j).flatMap (partStep f c) ++ inn f c pr m))
              ⟨ys, x7, rfl, s7, f7, t7, l7, hu, by show LR _ ys (_ ++ []); rw [List.append_nil]; exact r7⟩ (fun m σ H8 hm hP => ?_) fun σ H8 hP => ?_
            · obtain ⟨zs, x7, rfl, s8, f8, t8, l8, u8, r8⟩ := hP
              have hzl : zs.length ≤ 9 * j + m := by
                rw [r8.length, List.length_append]
                have h1 := r7.length
                have h2 := inn_len f c m pr
                omega
              rw [show (pr.2 : Int) + (m : Int) = ((pr.2 + m : Nat) : Int) by omega]
              have hml : pr.2 + m < f.length := by omega
              have hdm : f[pr.2 + m]? = some f[pr.2 + m] := List.getElem?_eq_getElem hml
              refine ⟨.str (sS f), rfl, nV (pr.2 + m), rfl, sS f, _, f[pr.2 + m], rfl, rfl, by rw [sS_len]; exact small_size (by omega), at_str (k := pr.2 + m) rfl hdm, .str ⟨#[c]⟩, rfl, rfl, _, rfl, ?_⟩
              rw [show decide (V.str (sS [f[pr.2 + m]]) = V.str ⟨#[c]⟩) = hasAt f c (pr.2 + m) from dec_at' hdm]
              cases hq : hasAt f c (pr.2 + m) with
              | true =>
                refine iteT ⟨.ref la, rfl, .inl ⟨rfl, _, lst_in l8⟩, .ref u, rfl, nV (pr.2 + m), rfl, by show 1 ≤ sizeLine; decide, fun b nb => ?_⟩
                refine cat1 (l := pr.1) (p := pr.2 + m) ((same_new nb) _ _ u8) upd_same (by omega) fun v H9 s9 hv => ?_
                refine ⟨nV (pr.2 + m), rfl, _, _, rfl, rfl, by show 2 ≤ sizeLine; decide, fun T nT => ?_⟩
                have s89 : Same H8 (upd H9 T (.tup [.ref v, .int (((pr.2 + m : Nat) : Int) + 1)])) := ((same_new nb).trans s9).trans (same_new nT)
                have hT : upd H9 T (.tup [.ref v, .int (((pr.2 + m : Nat) : Int) + 1)]) T = some (.tup [.ref v, .int (((pr.2 + m : Nat) : Int) + 1)]) := upd_same
                have hv9 : upd H9 T (.tup [.ref v, .int (((pr.2 + m : Nat) : Int) + 1)]) v = some (.tup ((pr.1 ++ [pr.2 + m]).map nV)) := (same_new nT) _ _ hv
                generalize upd H9 T (.tup [.ref v, .int (((pr.2 + m : Nat) : Int) + 1)]) = H10 at s89 hT hv9 ⊢
                refine ⟨la, zs, _, rfl, rfl, s89 _ _ l8, small1000 (by omega), ?_⟩
                have kt : ∀ (t : Addr) (ws : List V), H8 t = some (.tup ws) → upd H10 la (.lst (zs ++ [.ref T])) t = some (.tup ws) := fun t ws e => by
                  rw [upd_ne (ne_of e l8 fun z => nomatch z)]
                  exact s89 _ _ e
                have k10 : ∀ (t : Addr) (ws : List V), H10 t = some (.tup ws) → upd H10 la (.lst (zs ++ [.ref T])) t = some (.tup ws) := fun t ws e => by
                  rw [upd_ne (ne_of e (s89 _ _ l8) fun z => nomatch z)]
                  exact e
                refine ⟨zs ++ [.ref T], _, rfl, fun b o e => ?_, ?_, t8.mono fun v x h => h.mono kt, upd_same, kt _ _ u8, ?_⟩
                · rw [upd_ne (ne_of_none e nl)]
                  exact s89 _ _ (s8 _ _ e)
                · rw [upd_ne (Ne.symm hfl)]
                  exact s89 _ _ f8
                · rw [inn_yes hm hq, ← List.append_assoc]
                  refine LR.snoc ⟨T, v, rfl, ?_, k10 _ _ hv9⟩ (r8.mono fun v x h => h.mono kt)
                  rw [k10 _ _ hT]
                  show some (HO.tup [.ref v, .int _]) = some (HO.tup [.ref v, .int _])
                  congr 5
              | false =>
                refine iteF ⟨zs, _, rfl, s8, f8, t8, l8, u8, ?_⟩
                rw [inn_no hm hq]
                exact r8
            · obtain ⟨zs, x7, rfl, s8, f8, t8, l8, u8, r8⟩ := hP
              rw [inn_all hh] at r8
              exact ⟨zs, _, _, x7, rfl, s8, f8, t8, l8, r8⟩
          | false =>
            refine iteF ⟨ys, _, _, x7, rfl, s7, f7, t7, l7, ?_⟩
            have e : partStep f c pr = [] := by unfold partStep; rw [if_neg (by rw [hh]; decide)]
            rw [e, List.append_nil]
            exact r7
        · rw [decide_eq_false (show ¬ (pr.2 : Int) < (f.length : Int) by omega)]
          refine iteF (iteF ⟨ys, _, _, x7, rfl, s7, f7, t7, l7, ?_⟩)
          have e : partStep f c pr = [] := by unfold partStep; rw [if_neg (by rw [hasAt_out h1]; decide)]
          rw [e, List.append_nil]
          exact r7
      · obtain ⟨ys, x5, x6, x7, rfl, s7, f7, t7, l7, r7⟩ := hP
        rw [tq.length, List.take_length, ← esucc] at r7
        exact ⟨.ref la, rfl, la, ys, _, _, x5, x6, x7, rfl, s7, l7, r7⟩
    · obtain ⟨fa, xs, x3, x4, x5, x6, x7, rfl, s4, hfa, tq⟩ := hP
      have en : (sS g).cps.size = g.length := by simp
      rw [en] at tq
      have hLo := partTo_of (f := f) (g := g) g.length (Nat.le_refl _)
      have hL := partTo_len (f := f) (g := g) hf g.length (Nat.le_refl _)
      have hpm : partsM f g = ((partTo f g g.length).filter (fun x => decide (x.2 = f.length))).map (·.1) := by
        rw [partTo_end] <;> rfl
      rw [hpm] at h64 q
      generalize partTo f g g.length = L at tq hL hLo h64 q
      have hL729 : L.length ≤ 729 := Nat.le_trans hL (Nat.le_trans (Nat.pow_le_pow_right (by decide) hg) (by decide))
      refine ⟨.ref fa, rfl, fa, rfl, ⟨_, lst_in hfa⟩, fun D hD => lc_list (xs := xs) (fun j H' => Same H4 H' ∧ ∃ ys, H' D = some (.lst ys) ∧ LR (fun v x => ∃ u, v = .ref u ∧ H' u = some (.tup (x.1.map nV))) ys ((L.take j).filter (fun x => decide (x.2 = f.length))))
        ⟨same_new hD, [], upd_same, trivial⟩ (fun j H' _ hP => lst_in (hP.1 _ _ hfa)) (fun j x H5 hx hP => ?_) fun H5 hP => ?_⟩
      · obtain ⟨s5, ys, d5, r5⟩ := hP
        obtain ⟨pr, hpr, t, u, rfl, ht, hu⟩ := tq.at j x hx
        obtain ⟨o1, o2, o3⟩ := hLo pr (List.mem_of_getElem? hpr)
        have hj : j < L.length := (List.getElem?_eq_some_iff.mp hpr).1
        have et : (L.take (j + 1)).filter (fun x => decide (x.2 = f.length)) = (L.take j).filter (fun x => decide (x.2 = f.length)) ++ [pr].filter (fun x => decide (x.2 = f.length)) := by
          rw [List.take_add_one, hpr, List.filter_append] <;> rfl
        refine ⟨t, _, rfl, tup_in (s5 _ _ ht), rfl, _, _, rfl, _, _, rfl, rfl, rfl, ?_⟩
        refine ⟨nV pr.2, rfl, .str (sS f), rfl, _, rfl, by rw [sS_len]; exact small_size (by omega), rfl, _, rfl, ?_⟩
        rw [sS_len, show decide (nV pr.2 = V.int (f.length : Int)) = decide (pr.2 = f.length) from dec_nat _ _]
        rw [et]
        cases hq : decide (pr.2 = f.length) with
        | true =>
          have e1 : [pr].filter (fun x => decide (x.2 = f.length)) = [pr] := by rw [List.filter_cons, if_pos hq] <;> rfl
          rw [e1]
          have hyl : ys.length ≤ 729 := by
            rw [r5.length]
            exact Nat.le_trans (List.length_filter_le _ _) (Nat.le_trans (List.length_take_le _ _) (by omega))
          refine iteT ⟨.ref u, rfl, ys, d5, small1000 (by omega), fun b o e => ?_, ys ++ [.ref u], upd_same, ?_⟩
          · rw [upd_ne (ne_of_none e hD)]
            exact s5 _ _ e
          · have kt : ∀ (t : Addr) (ws : List V), H5 t = some (.tup ws) → upd H5 D (.lst (ys ++ [.ref u])) t = some (.tup ws) := fun t ws e => by
              rw [upd_ne (ne_of e d5 fun z => nomatch z)]
              exact e
            exact LR.snoc ⟨u, rfl, kt _ _ (s5 _ _ hu)⟩ (r5.mono fun v x ⟨u, e, h⟩ => ⟨u, e, kt _ _ h⟩)
        | false =>
          have e1 : [pr].filter (fun x => decide (x.2 = f.length)) = [] := by rw [List.filter_cons, if_neg (by rw [hq]; decide)] <;> rfl
          rw [e1, List.append_nil]
          exact iteF ⟨s5, ys, d5, r5⟩
      · obtain ⟨s5, ys, d5, r5⟩ := hP
        rw [tq.length, List.take_length] at r5
        have hyl : ys.length < 64 := by
          rw [r5.length]
          rw [List.length_map] at h64
          exact h64
        refine ⟨D, ys, rfl, lst_in d5, hyl, fun x hx => ?_, fun zs p hp _ np => ?_⟩
        · obtain ⟨l, hl, u, rfl, hu⟩ := r5.mem x hx
          obtain ⟨o1, o2, o3⟩ := hLo l (List.mem_filter.mp hl).1
          refine ⟨l.1.map fun n => ((n : Nat) : Int), ⟨u, rfl, ?_⟩, by rw [List.length_map, o1], ?_⟩
          · rw [List.map_map]
            exact tup_in hu
          · intro n hn
            obtain ⟨m, hm, rfl⟩ := List.mem_map.mp hn
            have := o2 m hm
            constructor <;> omega
        · refine q _ p zs (s4.trans (same_upd s5 np)) ?_ upd_same (fun x hx => ?_) ?_
          · cases e : H p with
            | none => rfl
            | some o => rw [s5 _ _ (s4 _ _ e)] at np; cases np
          · obtain ⟨l, hl, u, rfl, hu⟩ := r5.mem x (hp.mem_iff.mp hx)
            exact ⟨u, l.1, rfl, by rw [upd_ne (ne_of_none hu np)]; exact hu⟩
          · rw [List.isEmpty_map, Bool.eq_iff_iff, List.isEmpty_iff_length_eq_zero, List.isEmpty_iff_length_eq_zero, hp.length_eq, r5.length]
end
end J
end

section
/-! _law_mended -/
namespace J
open PySem PySem.Spec PyProof.Rows L2
def wV (w : Wd) : V := .str (sS w)
def wD (ws : List Wd) : List (Key × V) := ws.map fun w => (Sum.inr (sS w), .bl true)
theorem sS_inj {a b : Wd} (h : sS a = sS b) : a = b := SX.S_inj h
theorem put_wD (ws : List Wd) (w : Wd) : putK (wD ws) (Sum.inr (sS w)) (.bl true) = wD (ins ws w) := by
  unfold putK ins
  have e : ((wD ws).any fun kv => decide (kv.1 = Sum.inr (sS w))) = decide (w ∈ ws) := by
    rw [Bool.eq_iff_iff, List.any_eq_true, decide_eq_true_eq]
    constructor
    · rintro ⟨kv, hk, h⟩
      obtain ⟨v, hv, rfl⟩ := List.mem_map.mp hk
      have h := Sum.inr.inj (of_decide_eq_true h)
      rw [← sS_inj h]
      exact hv
    · intro h
      exact ⟨_, List.mem_map.mpr ⟨w, h, rfl⟩, decide_eq_true rfl⟩
  rw [e]
  by_cases h : w ∈ ws
  · rw [if_pos (decide_eq_true h), if_pos h]
    unfold wD
    rw [List.map_map]
    refine List.map_congr_left fun v _ => ?_
    show (if (Sum.inr (sS v) : Key) = Sum.inr (sS w) then _ else _) = _
    split <;> rfl
  · rw [if_neg (fun z => h (of_decide_eq_true z)), if_neg h]
    unfold wD
    rw [List.map_append] <;> rfl
theorem ins_len (l : List Wd) (w : Wd) : (ins l w).length ≤ l.length + 1 := by
  unfold ins
  split
  · omega
  · rw [List.length_append] <;> exact Nat.le_refl _
theorem foldl_len : ∀ (l a : List Wd), (l.foldl ins a).length ≤ a.length + l.length
  | [], a => Nat.le_refl _
  | w :: l, a => by
    rw [List.foldl_cons, List.length_cons]
    have h1 := foldl_len l (ins a w)
    have h2 := ins_len a w
    omega
def keysOf (M : List Wd) : List Wd := M.foldl ins []
theorem keysOf_snoc (M : List Wd) (w : Wd) : keysOf (M ++ [w]) = ins (keysOf M) w := by
  unfold keysOf
  rw [List.foldl_append] <;> rfl
theorem keysOf_len (M : List Wd) : (keysOf M).length ≤ M.length := by
  have := foldl_len M []
  rw [List.length_nil, Nat.zero_add] at this
  exact this
theorem mendC_len (y : Way) (w : Wd) (i c : Nat) : (mendC y w i c).length ≤ 2 := by
  unfold mendC
  rw [List.length_append]
  split <;> split <;> simp
theorem mendAt_len {ls : Wd} (hl : ls.length ≤ 2) (y : Way) (w : Wd) (i : Nat) : (mendAt ls y w i).length ≤ 5 := by
  unfold mendAt
  rw [List.length_append]
  have h1 := flatMap_len (k := 2) (h := mendC y w i) ls fun x _ => mendC_len y w i x
  have h2 : (if (y.out && decide (i < w.length)) = true then [w.take i ++ w.drop (i + 1)] else []).length ≤ 1 := by split <;> simp
  omega
theorem mendW_len {ls : Wd} (hl : ls.length ≤ 2) (y : Way) {w : Wd} (hw : w.length ≤ 9) : (mendW ls y w).length ≤ 50 := by
  unfold mendW
  have h1 := flatMap_len (k := 5) (h := mendAt ls y w) (List.range (w.length + 1)) fun x _ => mendAt_len hl y w x
  rw [List.length_range] at h1
  omega
def WayS (z : Str) (y : Way) : Prop := inV (.str z) [.str "in", .str "all"] = y.ins ∧ inV (.str z) [.str "changed", .str "all"] = y.chg ∧ inV (.str z) [.str "out", .str "all"] = y.out
theorem iteB {c b : Bool} {A B : Prop} (e : c = b) (h1 : b = true → A) (h2 : b = false → B) : if c = true then A else B := by
  subst e
  cases c
  · exact h2 rfl
  · exact h1 rfl
theorem same_put {H H' : Hp} {d : Addr} {o : HO} (s : Same H H') (nd : H d = none) : Same H (upd H' d o) := fun b u e => by
  rw [upd_ne (ne_of_none e nd)]
  exact s b u e
theorem sz5 {n : Nat} (h : n < 100000) : n < sizeLine := Nat.lt_of_lt_of_le h (by decide)
abbrev nMended : List Str := ["_law_words", "_law_letters", "_law_way", "_law_found", "_law_word", "_law_at", "_law_letter"]
theorem scMended : FnScope nMended ["_law_words", "_law_letters", "_law_way"] (defScope sMended) := ⟨rfl, rfl, rfl, by decide +kernel, rfl, by decide +kernel, by decide +kernel⟩
def spMended (K : PySem.W.Frag) : Sp := fun vs H Q _ => ∃ (a b : Addr) (ws : List Wd) (ls : Wd) (z : Str) (y : Way), vs = [.ref a, .ref b, .str z] ∧ SqL K H a (ws.map wV) ∧ SqL K H b (ls.map cV) ∧ WayS z y ∧ ws.length ≤ 400 ∧ (∀ w ∈ ws, w.length ≤ 9) ∧ ls.length ≤ 2 ∧
  ∀ (H' : Hp) (p : Addr), Same H H' → H p = none → H' p = some (.lst ((mendM ls y ws).map wV)) → Q (.ref p) H'
theorem at_map {α : Type} {e : α → V} {l : List α} {j : Nat} {x : V} (h : (l.map e)[j]? = some x) : ∃ a, l[j]? = some a ∧ x = e a := by
  rw [List.getElem?_map] at h
  cases q : l[j]? with
  | none => rw [q] at h; cases h
  | some a => rw [q] at h; exact ⟨a, rfl, (Option.some.inj h).symm⟩
section
variable {P : Program} {w : World} {K : PySem.W.Frag} {mg : Str → Option Value} {base : Heap} {f : Addr} {fd : FuncData}
theorem ok_mended (T : Tx mg) (F : FnP K "_law_mended" sMended f fd) : FnOk P w K mg base CX0 1 f fd ["_law_words", "_law_letters", "_law_way"] (spMended K) := by
  refine F.ok scMended (fun vs H Q E h => ?_) (fun cdv A outer s H vs Q E hr h => ?_)
  · obtain ⟨a, b, ws, ls, z, y, rfl, _⟩ := h
    rfl
  · obtain ⟨a, b, ws, ls, z, y, rfl, ha, hb, ⟨w1, w2, w3⟩, hwl, hws, hls, q⟩ := h
    refine ⟨_, PSs.nox (pss_cons (ps_set (i := 3) scMended.nd rfl (.inl rfl) pe_dnewK)
      (pss_cons (ps_for PassesOwn.never rfl (pi_list (pv 0)) (pg_name (i := 4) scMended.nd rfl (.inl rfl))
        (pss_one (ps_for PassesOwn.never rfl (pi_range1 (by rfl) T.range (pa_cons (pe_op op_add (pe_callB call_len_str (by rfl) T.len PySem.boot_len (pa_cons (pv 4) pa_nil)) pe_int) pa_nil)) (pg_name (i := 5) scMended.nd rfl (.inl rfl))
          (pss_cons (ps_for PassesOwn.never rfl (pi_list (pv 1)) (pg_name (i := 6) scMended.nd rfl (.inl rfl))
            (C8.pss_cut (ps_if (pt_cmpR op_in_seq (pv 2) (pe_lst (pa_cons pe_str (pa_cons pe_str pa_nil))) rfl)
              (pss_one (ps_dput (hu_of hr) (pv 3) (pe_op op_add_str (pe_op op_add_str (pe_slice C8.sl_txt (pv 4) po_none (po_some (pv 5))) (pv 6)) (pe_slice C8.sl_txt (pv 4) (po_some (pv 5)) po_none)) pe_bl rfl)) pss_nil)
            (pss_one (ps_if (PW.pt (pw_and (pt_cmpR op_in_seq (pv 2) (pe_lst (pa_cons pe_str (pa_cons pe_str pa_nil))) rfl) (pw_and1 (pt_cmpR op_lt (pv 5) (pe_callB call_len_str (by rfl) T.len PySem.boot_len (pa_cons (pv 4) pa_nil)) (nomark _)))))
              (pss_one (ps_dput (hu_of hr) (pv 3) (pe_op op_add_str (pe_op op_add_str (pe_slice C8.sl_txt (pv 4) po_none (po_some (pv 5))) (pv 6)) (pe_slice C8.sl_txt (pv 4) (po_some (pe_op op_add (pv 5) pe_int)) po_none)) pe_bl rfl)) pss_nil))))
          (pss_one (ps_if (PW.pt (pw_and (pt_cmpR op_in_seq (pv 2) (pe_lst (pa_cons pe_str (pa_cons pe_str pa_nil))) rfl) (pw_and1 (pt_cmpR op_lt (pv 5) (pe_callB call_len_str (by rfl) T.len PySem.boot_len (pa_cons (pv 4) pa_nil)) (nomark _)))))
            (pss_one (ps_dput (hu_of hr) (pv 3) (pe_op op_add_str (pe_slice C8.sl_txt (pv 4) po_none (po_some (pv 5))) (pe_slice C8.sl_txt (pv 4) (po_some (pe_op op_add (pv 5) pe_int)) po_none)) pe_bl rfl)) pss_nil))))))
      (pss_one (ps_ret (pe_callTy (call_listD rfl) (by rfl) T.list (by decide +kernel) (pa_cons (pv 3) pa_nil)))))), ?_⟩
    refine fun d nd => ⟨.ref a, rfl, a, rfl, ⟨_, sql_same ha (same_new nd)⟩, ?_⟩
    refine for_list (xs := ws.map wV) (fun j σ H' => ∃ (x4 x5 x6 : Option V), σ = [some (.ref a), some (.ref b), some (.str z), some (.ref d), x4, x5, x6] ∧ Same H H' ∧ H' d = some (.dK (wD (keysOf ((ws.take j).flatMap (mendW ls y))))))
      ⟨none, none, none, rfl, same_new nd, upd_same⟩ (fun j σ H' _ hP => by obtain ⟨_, _, _, _, s, _⟩ := hP; exact sql_same ha s) (fun j x σ H1 hx hP => ?_) fun σ H1 hP => ?_
    · obtain ⟨x4, x5, x6, rfl, s1, d1⟩ := hP
      obtain ⟨w, hw, rfl⟩ := at_map hx
      have hjl : j < ws.length := (List.getElem?_eq_some_iff.mp hw).1
      have hwl9 : w.length ≤ 9 := hws w (List.mem_of_getElem? hw)
      rw [flat_succ hw]
      have hM : ((ws.take j).flatMap (mendW ls y)).length ≤ 20000 := by
        refine Nat.le_trans (flatMap_len (k := 50) _ fun v hv => mendW_len hls y (hws v (List.mem_of_mem_take hv))) ?_
        have := List.length_take_le j ws
        omega
      generalize (ws.take j).flatMap (mendW ls y) = M at d1 hM
      refine ⟨.str (sS w), rfl, _, rfl, by rw [sS_len]; exact small_size (by omega), _, _, rfl, rfl, _, rfl, by rw [sS_len]; omega, by rw [sS_len]; omega, ?_⟩
      have en : (((sS w).length : Int) + 1).toNat = w.length + 1 := by rw [sS_len]; omega
      rw [en]
      refine for_range (lo := 0) (n := w.length + 1) (fun i σ H' => ∃ (x5 x6 : Option V), σ = [some (.ref a), some (.ref b), some (.str z), some (.ref d), some (.str (sS w)), x5, x6] ∧ Same H H' ∧ H' d = some (.dK (wD (keysOf (M ++ (List.range i).flatMap (mendAt ls y w))))))
        ⟨x5, x6, rfl, s1, by show H1 d = some (.dK (wD (keysOf (M ++ [])))); rw [List.append_nil]; exact d1⟩ (fun i σ H2 hi hP => ?_) fun σ H2 hP => ?_
      · obtain ⟨x5, x6, rfl, s2, d2⟩ := hP
        rw [show (0 : Int) + (i : Int) = (i : Int) by omega]
        have e1 : (List.range (i + 1)).flatMap (mendAt ls y w) = (List.range i).flatMap (mendAt ls y w) ++ mendAt ls y w i := by
          rw [List.range_succ, List.flatMap_append] <;> simp
        rw [e1, ← List.append_assoc]
        have hM2 : (M ++ (List.range i).flatMap (mendAt ls y w)).length ≤ 20050 := by
          rw [List.length_append]
          have h1 := flatMap_len (k := 5) (h := mendAt ls y w) (List.range i) fun x _ => mendAt_len hls y w x
          rw [List.length_range] at h1
          omega
        generalize M ++ (List.range i).flatMap (mendAt ls y w) = N at d2 hM2
        clear e1
        have hlt : decide ((i : Int) < ((sS w).length : Int)) = decide (i < w.length) := by
          rw [sS_len]
          by_cases h : i < w.length
          · rw [decide_eq_true h, decide_eq_true (by omega)]
          · rw [decide_eq_false h, decide_eq_false (by omega)]
        refine ⟨.ref b, rfl, b, rfl, ⟨_, sql_same hb s2⟩, ?_⟩
        refine for_list (xs := ls.map cV) (fun k σ H' => ∃ (x6 : Option V), σ = [some (.ref a), some (.ref b), some (.str z), some (.ref d), some (.str (sS w)), some (.int (i : Int)), x6] ∧ Same H H' ∧ H' d = some (.dK (wD (keysOf (N ++ (ls.take k).flatMap (mendC y w i))))))
          ⟨x6, rfl, s2, by show H2 d = some (.dK (wD (keysOf (N ++ [])))); rw [List.append_nil]; exact d2⟩ (fun k σ H' _ hP => by obtain ⟨_, _, s, _⟩ := hP; exact sql_same hb s) (fun k x σ H3 hx hP => ?_) fun σ H3 hP => ?_
        · obtain ⟨x6, rfl, s3, d3⟩ := hP
          obtain ⟨c, hc, rfl⟩ := at_map hx
          rw [flat_succ hc, ← List.append_assoc]
          have hM3 : (N ++ (ls.take k).flatMap (mendC y w i)).length ≤ 20054 := by
            rw [List.length_append]
            have h1 := flatMap_len (k := 2) (h := mendC y w i) (ls.take k) fun x _ => mendC_len y w i x
            have h2 := List.length_take_le' k ls
            omega
          generalize N ++ (ls.take k).flatMap (mendC y w i) = O at d3 hM3
          have e2 : O ++ mendC y w i c = (O ++ (if y.ins = true then [w.take i ++ [c] ++ w.drop i] else [])) ++ (if (y.chg && decide (i < w.length)) = true then [w.take i ++ [c] ++ w.drop (i + 1)] else []) := by
            unfold mendC
            exact (List.append_assoc _ _ _).symm
          rw [e2]
          have hM4 : (O ++ (if y.ins = true then [w.take i ++ [c] ++ w.drop i] else [])).length ≤ 20055 := by
            rw [List.length_append]
            have : (if y.ins = true then [w.take i ++ [c] ++ w.drop i] else []).length ≤ 1 := by split <;> simp
            omega
          clear e2
          refine ⟨fun σ H' => σ = [some (.ref a), some (.ref b), some (.str z), some (.ref d), some (.str (sS w)), some (.int (i : Int)), some (cV c)] ∧ Same H H' ∧ H' d = some (.dK (wD (keysOf (O ++ (if y.ins = true then [w.take i ++ [c] ++ w.drop i] else []))))), ?_, fun σ H4 hM => ?_⟩
          · refine ⟨.str z, rfl, by show 2 ≤ sizeLine; decide, fun p np => ⟨p, _, rfl, .inl (lst_in upd_same), rfl, rfl, _, rfl, ?_⟩⟩
            have s4 := s3.trans (same_new np (o := .lst [.str "in", .str "all"]))
            have d4 := same_new np (o := .lst [.str "in", .str "all"]) _ _ d3
            refine iteB (b := y.ins) w1 (fun hy => ?_) fun hy => ?_
            · rw [if_pos hy, keysOf_snoc]
              refine ⟨.ref d, rfl, .str (sS w), rfl, .int (i : Int), rfl, (i : Int), rfl, sS w, rfl, by rw [sS_len]; exact small_size (by omega), ?_⟩
              rw [sl_to]
              refine ⟨cV c, rfl, sS (w.take i), sS [c], rfl, rfl, by rw [sS_len, sS_len]; exact small_size (by rw [List.length_take]; show min i w.length + 1 ≤ 1000; omega), ?_⟩
              rw [sS_cat]
              refine ⟨.str (sS w), rfl, .int (i : Int), rfl, (i : Int), rfl, sS w, rfl, by rw [sS_len]; exact small_size (by omega), ?_⟩
              rw [sl_from]
              refine ⟨_, _, rfl, rfl, by rw [sS_len, sS_len]; exact small_size (by rw [List.length_append, List.length_take, List.length_drop]; show min i w.length + 1 + _ ≤ 1000; omega), ?_⟩
              rw [sS_cat]
              refine ⟨d, _, rfl, DPut.k (k := Sum.inr (sS (w.take i ++ [c] ++ w.drop i))) d4 (sz5 ?_), rfl, same_put s4 nd, ?_⟩
              · unfold wD
                rw [List.length_map]
                have := keysOf_len O
                omega
              · rw [put_wD]
                exact upd_same
            · rw [if_neg (by rw [hy]; decide), List.append_nil]
              exact ⟨rfl, s4, d4⟩
          · obtain ⟨rfl, s4, d4⟩ := hM
            generalize O ++ (if y.ins = true then [w.take i ++ [c] ++ w.drop i] else []) = O2 at d4 hM4
            refine ⟨.str z, rfl, by show 2 ≤ sizeLine; decide, fun p np => ⟨p, _, rfl, .inl (lst_in upd_same), rfl, rfl, _, rfl, ?_⟩⟩
            have s5 := s4.trans (same_new np (o := .lst [.str "changed", .str "all"]))
            have d5 := same_new np (o := .lst [.str "changed", .str "all"]) _ _ d4
            refine iteB (b := y.chg) w2 (fun hy => ?_) fun hy => ?_
            · rw [hy, Bool.true_and]
              refine ⟨.int (i : Int), rfl, .str (sS w), rfl, _, rfl, by rw [sS_len]; exact small_size (by omega), _, _, rfl, rfl, _, rfl, ?_⟩
              refine iteB (b := decide (i < w.length)) hlt (fun hi' => ?_) fun hi' => ?_
              · rw [if_pos hi', keysOf_snoc]
                refine ⟨.ref d, rfl, .str (sS w), rfl, .int (i : Int), rfl, (i : Int), rfl, sS w, rfl, by rw [sS_len]; exact small_size (by omega), ?_⟩
                rw [sl_to]
                refine ⟨cV c, rfl, sS (w.take i), sS [c], rfl, rfl, by rw [sS_len, sS_len]; exact small_size (by rw [List.length_take]; show min i w.length + 1 ≤ 1000; omega), ?_⟩
                rw [sS_cat]
                refine ⟨.str (sS w), rfl, .int (i : Int), rfl, _, _, rfl, rfl, (i : Int) + 1, rfl, sS w, rfl, by rw [sS_len]; exact small_size (by omega), ?_⟩
                rw [show (i : Int) + 1 = ((i + 1 : Nat) : Int) by omega, sl_from]
                refine ⟨_, _, rfl, rfl, by rw [sS_len, sS_len]; exact small_size (by rw [List.length_append, List.length_take, List.length_drop]; show min i w.length + 1 + _ ≤ 1000; omega), ?_⟩
                rw [sS_cat]
                refine ⟨d, _, rfl, DPut.k (k := Sum.inr (sS (w.take i ++ [c] ++ w.drop (i + 1)))) d5 (sz5 ?_), _, rfl, same_put s5 nd, ?_⟩
                · unfold wD
                  rw [List.length_map]
                  have := keysOf_len O2
                  omega
                · rw [put_wD]
                  exact upd_same
              · rw [if_neg (by rw [hi']; decide), List.append_nil]
                exact ⟨_, rfl, s5, d5⟩
            · rw [hy, Bool.false_and, if_neg (by decide), List.append_nil]
              exact iteF ⟨_, rfl, s5, d5⟩
        · obtain ⟨x6, rfl, s3, d3⟩ := hP
          rw [List.length_map, List.take_length] at d3
          have e2 : N ++ mendAt ls y w i = (N ++ ls.flatMap (mendC y w i)) ++ (if (y.out && decide (i < w.length)) = true then [w.take i ++ w.drop (i + 1)] else []) := by
            unfold mendAt
            exact (List.append_assoc _ _ _).symm
          rw [e2]
          have hM3 : (N ++ ls.flatMap (mendC y w i)).length ≤ 20054 := by
            rw [List.length_append]
            have h1 := flatMap_len (k := 2) (h := mendC y w i) ls fun x _ => mendC_len y w i x
            omega
          clear e2
          generalize N ++ ls.flatMap (mendC y w i) = O2 at d3 hM3
          refine ⟨.str z, rfl, by show 2 ≤ sizeLine; decide, fun p np => ⟨p, _, rfl, .inl (lst_in upd_same), rfl, rfl, _, rfl, ?_⟩⟩
          have s5 := s3.trans (same_new np (o := .lst [.str "out", .str "all"]))
          have d5 := same_new np (o := .lst [.str "out", .str "all"]) _ _ d3
          refine iteB (b := y.out) w3 (fun hy => ?_) fun hy => ?_
          · rw [hy, Bool.true_and]
            refine ⟨.int (i : Int), rfl, .str (sS w), rfl, _, rfl, by rw [sS_len]; exact small_size (by omega), _, _, rfl, rfl, _, rfl, ?_⟩
            refine iteB (b := decide (i < w.length)) hlt (fun hi' => ?_) fun hi' => ?_
            · rw [if_pos hi', keysOf_snoc]
              refine ⟨.ref d, rfl, .str (sS w), rfl, .int (i : Int), rfl, (i : Int), rfl, sS w, rfl, by rw [sS_len]; exact small_size (by omega), ?_⟩
              rw [sl_to]
              refine ⟨.str (sS w), rfl, .int (i : Int), rfl, _, _, rfl, rfl, (i : Int) + 1, rfl, sS w, rfl, by rw [sS_len]; exact small_size (by omega), ?_⟩
              rw [show (i : Int) + 1 = ((i + 1 : Nat) : Int) by omega, sl_from]
              refine ⟨_, _, rfl, rfl, by rw [sS_len, sS_len]; exact small_size (by rw [List.length_take, List.length_drop]; omega), ?_⟩
              rw [sS_cat]
              refine ⟨d, _, rfl, DPut.k (k := Sum.inr (sS (w.take i ++ w.drop (i + 1)))) d5 (sz5 ?_), _, _, rfl, same_put s5 nd, ?_⟩
              · unfold wD
                rw [List.length_map]
                have := keysOf_len O2
                omega
              · rw [put_wD]
                exact upd_same
            · rw [if_neg (by rw [hi']; decide), List.append_nil]
              exact ⟨_, _, rfl, s5, d5⟩
          · rw [hy, Bool.false_and, if_neg (by decide), List.append_nil]
            exact iteF ⟨_, _, rfl, s5, d5⟩
      · obtain ⟨x5, x6, rfl, s2, d2⟩ := hP
        exact ⟨_, x5, x6, rfl, s2, d2⟩
    · obtain ⟨x4, x5, x6, rfl, s1, d1⟩ := hP
      rw [List.length_map, List.take_length] at d1
      refine ⟨.ref d, rfl, d, _, rfl, .inl d1, fun p np => q _ p (same_upd s1 np) ?_ ?_⟩
      · cases e : H p with
        | none => rfl
        | some o => rw [s1 _ _ e] at np; cases np
      · rw [upd_same]
        congr 2
        unfold wD
        rw [List.map_map] <;> rfl
end
end J
end

section
/-! _law_alike: what is alike -/
namespace J
open PySem PySem.Spec PyProof.Rows L2
def Al (H : Hp) : Nat → V → V → Prop
  | 0, _, _ => False
  | n + 1, x, y => (∃ i, x = .int i ∧ y = .int i) ∨ (∃ z, x = .str z ∧ y = .str z) ∨ ∃ (a b : Addr) (xs ys : List V), x = .ref a ∧ y = .ref b ∧ xs.length = ys.length ∧ ys.length ≤ 900 ∧
      ((H a = some (.lst xs) ∧ H b = some (.lst ys)) ∨ (H a = some (.tup xs) ∧ H b = some (.tup ys))) ∧ ∀ (k : Nat) (u v : V), xs[k]? = some u → ys[k]? = some v → Al H n u v
theorem Al.same {H H' : Hp} (s : Same H H') : ∀ (n : Nat) {x y : V}, Al H n x y → Al H' n x y
  | 0, _, _, h => h
  | n + 1, x, y, h => by
    rcases h with h | h | ⟨a, b, xs, ys, e1, e2, hl, hb, h, q⟩
    · exact .inl h
    · exact .inr (.inl h)
    · refine .inr (.inr ⟨a, b, xs, ys, e1, e2, hl, hb, ?_, fun k u v hu hv => Al.same s n (q k u v hu hv)⟩)
      rcases h with ⟨h1, h2⟩ | ⟨h1, h2⟩
      · exact .inl ⟨s _ _ h1, s _ _ h2⟩
      · exact .inr ⟨s _ _ h1, s _ _ h2⟩
abbrev nAlike : List Str := ["_law_found", "_law_due", "_law_k"]
theorem scAlike : FnScope nAlike ["_law_found", "_law_due"] (defScope sAlike) := ⟨rfl, rfl, rfl, by decide +kernel, rfl, by decide +kernel, by decide +kernel⟩
def spAl (n : Nat) : Sp := fun vs H Q _ => ∃ x y : V, vs = [x, y] ∧ Al H n x y ∧ ∀ H', Same H H' → Q (.bl true) H'
theorem two_cls {K : PySem.W.Frag} : Paired ClsV [.ty "tuple", .ty "list"] [.type "tuple", .type "list"] := .cons (.ty _) (.cons (.ty _) .nil)
theorem any_list {K : PySem.W.Frag} : PySem.W.kitAny K (.type "list") [.type "tuple", .type "list"] = some true :=
  kitAny_cons (b := false) (kit_ty (by decide +kernel)) (fun _ => kitAny_cons (b := true) (kit_ty (by decide +kernel)) (fun z => (nomatch z)) fun _ => rfl) fun z => (nomatch z)
theorem any_tup {K : PySem.W.Frag} : PySem.W.kitAny K (.type "tuple") [.type "tuple", .type "list"] = some true :=
  kitAny_cons (b := true) (kit_ty (by decide +kernel)) (fun z => (nomatch z)) fun _ => rfl
theorem any_int {K : PySem.W.Frag} : PySem.W.kitAny K (.type "int") [.type "tuple", .type "list"] = some false :=
  kitAny_cons (b := false) (kit_ty (by decide +kernel)) (fun _ => kitAny_cons (b := false) (kit_ty (by decide +kernel)) (fun _ => kitAny_nil) fun z => (nomatch z)) fun z => (nomatch z)
theorem any_str {K : PySem.W.Frag} : PySem.W.kitAny K (.type "str") [.type "tuple", .type "list"] = some false :=
  kitAny_cons (b := false) (kit_ty (by decide +kernel)) (fun _ => kitAny_cons (b := false) (kit_ty (by decide +kernel)) (fun _ => kitAny_nil) fun z => (nomatch z)) fun z => (nomatch z)
section
variable {P : Program} {w : World} {K : PySem.W.Frag} {mg : Str → Option Value} {base : Heap} {f : Addr} {fd : FuncData}
theorem ok_alike0 : FnOk P w K mg base CX0 0 f fd ["_law_found", "_law_due"] (spAl 0) := ⟨fun vs H Q E ⟨_, _, _, h, _⟩ => h.elim, fun _ _ _ _ _ _ _ _ _ _ _ _ _ ⟨_, _, _, h, _⟩ => h.elim⟩
theorem ok_alikeS (T : Tx mg) (hbool : mg "bool" = none) {n : Nat} (OA : OkD P w K mg base n "_law_alike" ["_law_found", "_law_due"] (spAl n)) (F : FnP K "_law_alike" sAlike f fd) : FnOk P w K mg base CX0 (n + 1) f fd ["_law_found", "_law_due"] (spAl (n + 1)) := by
  refine F.ok scAlike (fun vs H Q E h => ?_) (fun cdv A outer s H vs Q E hr h => ?_)
  · obtain ⟨x, y, rfl, _⟩ := h
    rfl
  · obtain ⟨x, y, rfl, hxy, q⟩ := h
    refine ⟨_, PSs.nox (pss_cons (ps_if (pt_val (pe_callB call_isiT (by rfl) T.isinstance (by decide +kernel) (pa_cons (pv 1) (pa_cons (pe_tup (pa_cons (pe_bltn (v := .ty "tuple") (by rfl) T.tuple (by decide +kernel) rfl) (pa_cons (pe_bltn (v := .ty "list") (by rfl) T.list (by decide +kernel) rfl) pa_nil))) pa_nil))))
        (pss_cons (ps_if (PW.pt (pw_or (pt_not (pt_val (pe_callB call_isiT (by rfl) T.isinstance (by decide +kernel) (pa_cons (pv 0) (pa_cons (pe_tup (pa_cons (pe_bltn (v := .ty "tuple") (by rfl) T.tuple (by decide +kernel) rfl) (pa_cons (pe_bltn (v := .ty "list") (by rfl) T.list (by decide +kernel) rfl) pa_nil))) pa_nil)))))
            (pw_or1 (pt_cmpR op_ne (pe_callB call_isi (by rfl) T.isinstance (by decide +kernel) (pa_cons (pv 0) (pa_cons (pe_bltn (v := .ty "list") (by rfl) T.list (by decide +kernel) rfl) pa_nil))) (pe_callB call_isi (by rfl) T.isinstance (by decide +kernel) (pa_cons (pv 1) (pa_cons (pe_bltn (v := .ty "list") (by rfl) T.list (by decide +kernel) rfl) pa_nil))) (nomark _)))))
          (pss_one (ps_ret pe_bl)) pss_nil)
        (pss_cons (ps_if (pt_cmpR op_ne (pe_callB call_len_seq (by rfl) T.len PySem.boot_len (pa_cons (pv 0) pa_nil)) (pe_callB call_len_seq (by rfl) T.len PySem.boot_len (pa_cons (pv 1) pa_nil)) (nomark _))
          (pss_one (ps_ret pe_bl)) pss_nil)
        (pss_one (ps_ret (pe_cmpR (op_eqD hr.units)
          (pe_lc (own := [("_law_k", 2)]) (tt := tNot (tB (tCall (spAl n) [] E0 (tCons (tOp (rIx K) (tVar 0) (tVar 2)) (tCons (tOp (rIx K) (tVar 1) (tVar 2)) tNil))))) rfl scAlike.nd (pi_range1 (by rfl) T.range (pa_cons (pe_callB call_len_seq (by rfl) T.len PySem.boot_len (pa_cons (pv 1) pa_nil)) pa_nil)) (blkOk_by (N := nAlike) (sc := defScope sAlike) (by decide +kernel))
            (fun _ _ _ _ _ => pg_name (i := 2) scAlike.nd rfl (.inl rfl))
            (fun _ _ _ _ _ => pts_one (pt_not (pt_val (pe_callO OA hr (by rfl) (pa_cons (pe_ix ix_seq (pv 0) (pv 2) (fun _ _ => rfl)) (pa_cons (pe_ix ix_seq (pv 1) (pv 2) (fun _ _ => rfl)) pa_nil))))))
            (fun _ _ _ _ _ => pv 2)) (pe_lst pa_nil) (nomark _))))))
        pss_nil)
      (pss_cons (ps_if (PW.pt (pw_or (pt_cmp (pc_isN (pv 1))) (pw_or1 (pt_val (pe_callB call_isi (by rfl) T.isinstance (by decide +kernel) (pa_cons (pv 1) (pa_cons (pe_bltn (v := .ty "str") (by rfl) T.str (by decide +kernel) rfl) pa_nil)))))))
        (pss_one (ps_ret (pe_and (pe_cmpR op_eq (pv 0) (pv 1) (nomark _)) (pe_one (pe_cmpR op_eq (pe_callB call_isi (by rfl) T.isinstance (by decide +kernel) (pa_cons (pv 0) (pa_cons (pe_bltn (v := .ty "str") (by rfl) T.str (by decide +kernel) rfl) pa_nil))) (pe_callB call_isi (by rfl) T.isinstance (by decide +kernel) (pa_cons (pv 1) (pa_cons (pe_bltn (v := .ty "str") (by rfl) T.str (by decide +kernel) rfl) pa_nil))) (nomark _)))))) pss_nil)
      (pss_one (ps_ret (pe_and (pe_callB call_isi (by rfl) T.isinstance (by decide +kernel) (pa_cons (pv 0) (pa_cons (pe_bltn (v := .ty "int") (by rfl) T.int (by decide +kernel) rfl) pa_nil)))
        (pe_and (pe_cmpR op_eq (pe_callB call_isi (by rfl) T.isinstance (by decide +kernel) (pa_cons (pv 0) (pa_cons (pe_bltn (v := .ty "bool") (by rfl) hbool (by decide +kernel) rfl) pa_nil))) (pe_callB call_isi (by rfl) T.isinstance (by decide +kernel) (pa_cons (pv 1) (pa_cons (pe_bltn (v := .ty "bool") (by rfl) hbool (by decide +kernel) rfl) pa_nil))) (nomark _))
          (pe_one (pe_cmpR op_eq (pv 0) (pv 1) (nomark _))))))))), ?_⟩
    rcases hxy with ⟨i, rfl, rfl⟩ | ⟨z, rfl, rfl⟩ | ⟨a, b, xs, ys, rfl, rfl, hlen, hbig, hk, hel⟩
    · refine ⟨.int i, rfl, by show 2 ≤ sizeLine; decide, fun t nt => ⟨.int i, t, _, .type "int", _, false, rfl, upd_same, two_cls (K := K), .base (.int i), any_int, _, rfl, ?_⟩⟩
      refine iteF ⟨.int i, rfl, _, rfl, ?_⟩
      rw [decide_eq_false (fun z => (nomatch z))]
      refine iteF ⟨.int i, rfl, _, _, _, _, false, rfl, .ty _, .base (.int i), kit_ty (by decide +kernel), _, rfl, iteF ?_⟩
      refine ⟨.int i, rfl, _, _, _, _, true, rfl, .ty _, .base (.int i), kit_ty (by decide +kernel), _, rfl, iteT ?_⟩
      refine ⟨.int i, rfl, _, _, _, _, false, rfl, .ty _, .base (.int i), kit_ty (by decide +kernel), .int i, rfl, _, _, _, _, false, rfl, .ty _, .base (.int i), kit_ty (by decide +kernel), rfl, _, rfl, iteT ?_⟩
      refine ⟨.int i, rfl, .int i, rfl, rfl, ?_⟩
      rw [decide_eq_true rfl]
      exact q _ (same_new nt)
    · refine ⟨.str z, rfl, by show 2 ≤ sizeLine; decide, fun t nt => ⟨.str z, t, _, .type "str", _, false, rfl, upd_same, two_cls (K := K), .base (.str z), any_str, _, rfl, ?_⟩⟩
      refine iteF ⟨.str z, rfl, _, rfl, ?_⟩
      rw [decide_eq_false (fun z => (nomatch z))]
      refine iteF ⟨.str z, rfl, _, _, _, _, true, rfl, .ty _, .base (.str z), kit_ty (by decide +kernel), _, rfl, iteT ?_⟩
      refine ⟨.str z, rfl, .str z, rfl, rfl, _, rfl, ?_⟩
      rw [decide_eq_true rfl]
      refine iteT ⟨.str z, rfl, _, _, _, _, true, rfl, .ty _, .base (.str z), kit_ty (by decide +kernel), .str z, rfl, _, _, _, _, true, rfl, .ty _, .base (.str z), kit_ty (by decide +kernel), rfl, ?_⟩
      exact q _ (same_new nt)
    · obtain ⟨ky, bl, ta, tb, ka, ko, sa, sb⟩ : ∃ (k : String) (bl : Bool), (∀ H', Same H H' → TyX K H' (.ref a) (.type k)) ∧ (∀ H', Same H H' → TyX K H' (.ref b) (.type k)) ∧ PySem.W.kitAny K (.type k) [.type "tuple", .type "list"] = some true ∧ PySem.W.kitOne K (.type k) (.type "list") = some bl ∧
          (∀ H', Same H H' → SqL K H' a xs ∨ SqT K H' a xs) ∧ (∀ H', Same H H' → SqL K H' b ys ∨ SqT K H' b ys) := by
        rcases hk with ⟨h1, h2⟩ | ⟨h1, h2⟩
        · exact ⟨"list", true, fun H' s => .base (.lst (s _ _ h1)), fun H' s => .base (.lst (s _ _ h2)), any_list, kit_ty (by decide +kernel), fun H' s => .inl (lst_in (s _ _ h1)), fun H' s => .inl (lst_in (s _ _ h2))⟩
        · exact ⟨"tuple", false, fun H' s => .base (.tup (s _ _ h1)), fun H' s => .base (.tup (s _ _ h2)), any_tup, kit_ty (by decide +kernel), fun H' s => .inr (tup_in (s _ _ h1)), fun H' s => .inr (tup_in (s _ _ h2))⟩
      refine ⟨.ref b, rfl, by show 2 ≤ sizeLine; decide, fun t nt => ?_⟩
      have s1 := same_new nt (o := .tup [.ty "tuple", .ty "list"])
      have ht : upd H t (.tup [.ty "tuple", .ty "list"]) t = some (.tup [.ty "tuple", .ty "list"]) := upd_same
      generalize upd H t (.tup [.ty "tuple", .ty "list"]) = H1 at s1 ht ⊢
      refine ⟨.ref b, t, _, _, _, true, rfl, ht, two_cls (K := K), tb _ s1, ka, _, rfl, iteT ?_⟩
      refine ⟨.ref a, rfl, by show 2 ≤ sizeLine; decide, fun t2 nt2 => ?_⟩
      have s2 := s1.trans (same_new nt2 (o := .tup [.ty "tuple", .ty "list"]))
      have ht2 : upd H1 t2 (.tup [.ty "tuple", .ty "list"]) t2 = some (.tup [.ty "tuple", .ty "list"]) := upd_same
      generalize upd H1 t2 (.tup [.ty "tuple", .ty "list"]) = H2 at s2 ht2 ⊢
      refine ⟨.ref a, t2, _, _, _, true, rfl, ht2, two_cls (K := K), ta _ s2, ka, _, rfl, iteF ?_⟩
      refine ⟨.ref a, rfl, _, _, _, _, bl, rfl, .ty _, ta _ s2, ko, .ref b, rfl, _, _, _, _, bl, rfl, .ty _, tb _ s2, ko, rfl, _, rfl, ?_⟩
      rw [decide_eq_true rfl]
      refine iteF ⟨.ref a, rfl, a, xs, rfl, sa _ s2, .ref b, rfl, b, ys, rfl, sb _ s2, rfl, _, rfl, ?_⟩
      rw [hlen, decide_eq_true rfl]
      refine iteF ⟨.ref b, rfl, b, ys, rfl, sb _ s2, _, rfl, by omega, by omega, ?_⟩
      rw [show ((ys.length : Nat) : Int).toNat = ys.length from Int.toNat_natCast _]
      refine fun D nD => lcN (walk_rng (lo := 0) (n := ys.length)) yfn_nats (j := 2) (fun _ => false) nV nD (by rw [List.length_range']; omega) (fun _ _ => trivial) (fun _ => rfl) (fun k hk H3 s3 R r => ?_) (fun k hk hf H3 s3 R r => by cases hf) fun H3 s3 d3 => ?_
      · have hkl : k < ys.length := by
          rw [List.mem_range'_1] at hk
          omega
        have s23 := s2.trans s3
        have hu : xs[k]? = some xs[k] := List.getElem?_eq_getElem (by omega)
        have hv : ys[k]? = some ys[k] := List.getElem?_eq_getElem hkl
        have ixa : ∀ {Q : VK}, Q xs[k] H3 → rIx K (.ref a) (nV k) H3 Q := fun {Q} q => by
          rcases sa _ s23 with h | h
          · exact .inl ⟨a, xs, (k : Int), _, rfl, rfl, h, atI_nat hu, q⟩
          · exact .inr (.inl ⟨a, xs, (k : Int), _, rfl, rfl, h, atI_nat hu, q⟩)
        have ixb : ∀ {Q : VK}, Q ys[k] H3 → rIx K (.ref b) (nV k) H3 Q := fun {Q} q => by
          rcases sb _ s23 with h | h
          · exact .inl ⟨b, ys, (k : Int), _, rfl, rfl, h, atI_nat hv, q⟩
          · exact .inr (.inl ⟨b, ys, (k : Int), _, rfl, rfl, h, atI_nat hv, q⟩)
        refine ⟨.ref a, rfl, nV k, rfl, ixa ⟨.ref b, rfl, nV k, rfl, ixb ⟨xs[k], ys[k], rfl, (hel k _ _ hu hv).same s23, fun H4 s4 => ⟨_, rfl, r H4 s4⟩⟩⟩⟩
      · have d3 : H3 D = some (.lst []) := by
          rw [d3]
          congr 2
          rw [List.filter_eq_nil_iff.mpr fun _ _ => by decide] <;> rfl
        refine ⟨Nat.zero_le _, fun D2 n2 => eq_empty (f := dV) (xs := []) (lst_in ((same_new n2) _ _ d3)) (lst_in upd_same) (fun x hx => (nomatch hx)) ?_⟩
        exact q _ ((s2.trans s3).trans (same_new n2))
theorem ok_alike (T : Tx mg) (hbool : mg "bool" = none) (F : FnP K "_law_alike" sAlike f fd) (g : mg "_law_alike" = some (.ref f)) (kp : PySem.W.keepIn K (.ref f) = true) (b : Binds K fd ["_law_found", "_law_due"] []) :
    ∀ n, FnOk P w K mg base CX0 n f fd ["_law_found", "_law_due"] (spAl n)
  | 0 => ok_alike0
  | n + 1 => ok_alikeS T hbool (.mk' (ok_alike T hbool F g kp b n) g kp b) F
end
end J
end

section
/-! Words by numbers, sets of words by bits; a mend looked up backwards. -/
namespace J
def encA : Wd → Nat → Nat
  | [], a => a
  | c :: r, a => encA r (Nat.add (Nat.mul 2 a) (Nat.sub c 97))
def enc (w : Wd) : Nat := encA w 1
def bit (r n : Nat) : Bool := Nat.beq (Nat.land 1 (Nat.shiftRight r n)) 1
def mmL : List Wd → Nat
  | [] => 0
  | v :: r => Nat.lor (mmL r) (Nat.pow 2 (enc v))
def meets (m r : Nat) : Bool := !(Nat.beq (Nat.land m r) 0)
theorem beq_dec (a b : Nat) : Nat.beq a b = decide (a = b) := by
  by_cases e : a = b
  · rw [e, decide_eq_true rfl]
    exact Nat.beq_refl b
  · rw [decide_eq_false e]
    cases h : Nat.beq a b with
    | false => rfl
    | true => exact (e (Nat.eq_of_beq_eq_true h)).elim
theorem bit_eq (r n : Nat) : bit r n = r.testBit n := by
  unfold bit
  show Nat.beq (1 &&& (r >>> n)) 1 = _
  rw [beq_dec, Nat.testBit]
  have h : (1 &&& (r >>> n)) = 0 ∨ (1 &&& (r >>> n)) = 1 := by
    rw [Nat.one_and_eq_mod_two]
    omega
  rcases h with h | h <;> rw [h] <;> rfl
theorem meets_nil (r : Nat) : meets 0 r = false := by
  unfold meets
  show (!Nat.beq (0 &&& r) 0) = false
  rw [Nat.zero_and] <;> rfl
theorem meets_iff (m r : Nat) : meets m r = true ↔ ∃ i, m.testBit i = true ∧ r.testBit i = true := by
  unfold meets
  show (!Nat.beq (m &&& r) 0) = true ↔ _
  rw [beq_dec]
  constructor
  · intro h
    have h1 : m &&& r ≠ 0 := fun e => by rw [e] at h; exact absurd h (by decide)
    obtain ⟨i, hi⟩ := Nat.exists_testBit_of_ne_zero h1
    rw [Nat.testBit_and, Bool.and_eq_true] at hi
    exact ⟨i, hi⟩
  · intro ⟨i, h1, h2⟩
    have h3 : m &&& r ≠ 0 := fun e => by
      have q : (m &&& r).testBit i = true := by rw [Nat.testBit_and, h1, h2] <;> rfl
      rw [e, Nat.zero_testBit] at q
      cases q
    rw [decide_eq_false h3] <;> rfl
theorem mmL_bit (i : Nat) : ∀ l : List Wd, (mmL l).testBit i = true ↔ ∃ v ∈ l, enc v = i
  | [] => by
    show Nat.testBit 0 i = true ↔ _
    rw [Nat.zero_testBit]
    exact ⟨fun h => (nomatch h), fun ⟨v, h, _⟩ => (nomatch h)⟩
  | v :: r => by
    show Nat.testBit (mmL r ||| 2 ^ enc v) i = true ↔ _
    rw [Nat.testBit_or, Nat.testBit_two_pow, Bool.or_eq_true, mmL_bit i r, decide_eq_true_eq]
    constructor
    · rintro (⟨u, hu, e⟩ | e)
      · exact ⟨u, List.mem_cons_of_mem _ hu, e⟩
      · exact ⟨v, List.mem_cons_self, e⟩
    · rintro ⟨u, hu, e⟩
      rcases List.mem_cons.mp hu with z | z
      · exact .inr (by rw [← z]; exact e)
      · exact .inl ⟨u, z, e⟩
theorem meets_any (l : List Wd) (r : Nat) : meets (mmL l) r = l.any fun v => bit r (enc v) := by
  rw [Bool.eq_iff_iff, meets_iff, List.any_eq_true]
  constructor
  · rintro ⟨i, h1, h2⟩
    obtain ⟨v, hv, e⟩ := (mmL_bit i l).mp h1
    exact ⟨v, hv, by rw [bit_eq, e]; exact h2⟩
  · rintro ⟨v, hv, h⟩
    rw [bit_eq] at h
    exact ⟨enc v, (mmL_bit _ l).mpr ⟨v, hv, rfl⟩, h⟩
/-! ### how far a hit is -/
def hitK (ls : Wd) (y : Way) (g : Wd) : Nat → Wd → Bool
  | 0, w => !(partsM w g).isEmpty
  | k + 1, w => (mendW ls y w).any (hitK ls y g k)
theorem any_ins (p : Wd → Bool) (l : List Wd) (w : Wd) : (ins l w).any p = (l.any p || p w) := by
  unfold ins
  by_cases h : w ∈ l
  · rw [if_pos h]
    cases hp : p w with
    | false => rw [Bool.or_false]
    | true => rw [List.any_eq_true.mpr ⟨w, h, hp⟩] <;> rfl
  · rw [if_neg h, List.any_append] <;> simp
theorem any_foldl (p : Wd → Bool) : ∀ (l a : List Wd), (l.foldl ins a).any p = (a.any p || l.any p)
  | [], a => by simp
  | w :: l, a => by
    rw [List.foldl_cons, any_foldl p l, any_ins, List.any_cons, Bool.or_assoc]
theorem any_mendM (ls : Wd) (y : Way) (ws : List Wd) (p : Wd → Bool) : (mendM ls y ws).any p = ws.any fun w => (mendW ls y w).any p := by
  unfold mendM
  rw [any_foldl, List.any_nil, Bool.false_or, List.any_flatMap]
def Wk (ls : Wd) (y : Way) (f : Wd) : Nat → List Wd
  | 0 => [f]
  | k + 1 => mendM ls y (Wk ls y f k)
theorem hit_Wk (ls : Wd) (y : Way) (f g : Wd) : ∀ (k j : Nat), (Wk ls y f k).any (hitK ls y g j) = hitK ls y g (k + j) f
  | 0, j => by
    show [f].any _ = _
    rw [Nat.zero_add]
    simp
  | k + 1, j => by
    show (mendM ls y (Wk ls y f k)).any _ = _
    rw [any_mendM]
    have q := hit_Wk ls y f g k (j + 1)
    rw [show k + 1 + j = k + (j + 1) by omega, ← q] <;> rfl
theorem hitM_Wk (ls : Wd) (y : Way) (f g : Wd) (k : Nat) : hitM (Wk ls y f k) g = hitK ls y g k f := hit_Wk ls y f g k 0
/-! ### the sets stay small -/
def AB' (w : Wd) : Prop := ∀ c ∈ w, c = 97 ∨ c = 98
theorem nodup_ins {l : List Wd} {w : Wd} (h : l.Nodup) : (ins l w).Nodup := by
  unfold ins
  by_cases e : w ∈ l
  · rw [if_pos e]; exact h
  · rw [if_neg e]
    refine List.nodup_append.mpr ⟨h, List.nodup_cons.mpr ⟨List.not_mem_nil, List.nodup_nil⟩, fun a ha b hb => ?_⟩
    rw [List.mem_singleton.mp hb]
    exact fun z => e (z ▸ ha)
theorem nodup_foldl : ∀ (l a : List Wd), a.Nodup → (l.foldl ins a).Nodup
  | [], a, h => h
  | w :: l, a, h => nodup_foldl l _ (nodup_ins h)
theorem mem_ins {l : List Wd} {w v : Wd} (h : v ∈ ins l w) : v ∈ l ∨ v = w := by
  unfold ins at h
  by_cases e : w ∈ l
  · rw [if_pos e] at h; exact .inl h
  · rw [if_neg e] at h
    rcases List.mem_append.mp h with z | z
    · exact .inl z
    · exact .inr (List.mem_singleton.mp z)
theorem mem_foldl {v : Wd} : ∀ (l a : List Wd), v ∈ l.foldl ins a → v ∈ a ∨ v ∈ l
  | [], a, h => .inl h
  | w :: l, a, h => by
    rcases mem_foldl l _ h with z | z
    · rcases mem_ins z with y | y
      · exact .inl y
      · exact .inr (by rw [y]; exact List.mem_cons_self)
    · exact .inr (List.mem_cons_of_mem _ z)
theorem nodup_mendM (ls : Wd) (y : Way) (ws : List Wd) : (mendM ls y ws).Nodup := nodup_foldl _ _ List.nodup_nil
theorem sub_put (w : Wd) (i c : Nat) : List.Sublist w (w.take i ++ [c] ++ w.drop i) := by
  have h : List.Sublist (w.take i ++ w.drop i) (w.take i ++ [c] ++ w.drop i) := List.Sublist.append_right (List.sublist_append_left _ _) _
  rw [List.take_append_drop] at h
  exact h
theorem mend_of {ls : Wd} {y : Way} {w v : Wd} (hl : AB' ls) (hw : AB' w) (h : v ∈ mendW ls y w) : AB' v ∧ v.length ≤ w.length + 1 ∧ (v.length = w.length + 1 → List.Sublist w v) := by
  unfold mendW at h
  obtain ⟨i, hi, h⟩ := List.mem_flatMap.mp h
  have hi : i < w.length + 1 := List.mem_range.mp hi
  have ht : AB' (w.take i) := fun c hc => hw c (List.mem_of_mem_take hc)
  have hd : ∀ j, AB' (w.drop j) := fun j c hc => hw c (List.mem_of_mem_drop hc)
  unfold mendAt at h
  rcases List.mem_append.mp h with h | h
  · obtain ⟨c, hc, h⟩ := List.mem_flatMap.mp h
    have hc := hl c hc
    unfold mendC at h
    rcases List.mem_append.mp h with h | h
    · by_cases e : y.ins = true
      · rw [if_pos e] at h
        have h := List.mem_singleton.mp h
        subst h
        refine ⟨fun d hd' => ?_, ?_, fun _ => sub_put w i c⟩
        · rcases List.mem_append.mp hd' with z | z
          · rcases List.mem_append.mp z with z | z
            · exact ht d z
            · rw [List.mem_singleton.mp z]; exact hc
          · exact hd i d z
        · simp only [List.length_append, List.length_take, List.length_drop, List.length_singleton]
          omega
      · rw [if_neg e] at h; cases h
    · by_cases e : (y.chg && decide (i < w.length)) = true
      · rw [if_pos e] at h
        have h := List.mem_singleton.mp h
        rw [Bool.and_eq_true, decide_eq_true_eq] at e
        have hv : v.length = w.length := by
          rw [h]
          simp only [List.length_append, List.length_take, List.length_drop, List.length_singleton]
          omega
        subst h
        refine ⟨fun d hd' => ?_, by omega, fun z => by omega⟩
        rcases List.mem_append.mp hd' with z | z
        · rcases List.mem_append.mp z with z | z
          · exact ht d z
          · rw [List.mem_singleton.mp z]; exact hc
        · exact hd (i + 1) d z
      · rw [if_neg e] at h; cases h
  · by_cases e : (y.out && decide (i < w.length)) = true
    · rw [if_pos e] at h
      have h := List.mem_singleton.mp h
      rw [Bool.and_eq_true, decide_eq_true_eq] at e
      have hv : v.length + 1 = w.length := by
        rw [h]
        simp only [List.length_append, List.length_take, List.length_drop]
        omega
      subst h
      refine ⟨fun d hd' => ?_, by omega, fun z => by omega⟩
      rcases List.mem_append.mp hd' with z | z
      · exact ht d z
      · exact hd (i + 1) d z
    · rw [if_neg e] at h; cases h
theorem Wk_of {ls : Wd} {y : Way} {f : Wd} (hl : AB' ls) (hf : AB' f) : ∀ (k : Nat), (Wk ls y f k).Nodup ∧ ∀ v ∈ Wk ls y f k, AB' v ∧ v.length ≤ f.length + k ∧ (v.length = f.length + k → List.Sublist f v)
  | 0 => ⟨List.nodup_cons.mpr ⟨List.not_mem_nil, List.nodup_nil⟩, fun v h => by
    rw [List.mem_singleton.mp h]
    exact ⟨hf, Nat.le_refl _, fun _ => List.Sublist.refl _⟩⟩
  | k + 1 => ⟨nodup_mendM _ _ _, fun v h => by
    rcases mem_foldl _ _ h with z | z
    · cases z
    · obtain ⟨w, hw, hv⟩ := List.mem_flatMap.mp z
      obtain ⟨a, b, c⟩ := (Wk_of hl hf k).2 w hw
      obtain ⟨a', b', c'⟩ := mend_of hl a hv
      exact ⟨a', by omega, fun e => (c (by omega)).trans (c' (by omega))⟩⟩
theorem mem_words : ∀ (w : Wd), AB' w → w ∈ wordsOf w.length
  | [], _ => List.mem_singleton.mpr rfl
  | c :: w, h => by
    show c :: w ∈ (wordsOf w.length).flatMap fun w => [97 :: w, 98 :: w]
    refine List.mem_flatMap.mpr ⟨w, mem_words w fun d hd => h d (List.mem_cons_of_mem _ hd), ?_⟩
    rcases h c List.mem_cons_self with e | e
    · rw [e]; exact List.mem_cons_self
    · rw [e]; exact List.mem_cons_of_mem _ List.mem_cons_self
theorem words_ab : ∀ (n : Nat) (w : Wd), w ∈ wordsOf n → AB' w ∧ w.length = n
  | 0, w, h => by
    rw [List.mem_singleton.mp h]
    exact ⟨fun _ z => (nomatch z), rfl⟩
  | n + 1, w, h => by
    obtain ⟨v, hv, h⟩ := List.mem_flatMap.mp h
    obtain ⟨a, b⟩ := words_ab n v hv
    have h : w = 97 :: v ∨ w = 98 :: v := by simpa using h
    rcases h with e | e <;> subst e
    · exact ⟨fun c hc => by rcases List.mem_cons.mp hc with z | z; exact .inl z; exact a c z, by rw [List.length_cons, b]⟩
    · exact ⟨fun c hc => by rcases List.mem_cons.mp hc with z | z; exact .inr z; exact a c z, by rw [List.length_cons, b]⟩
theorem nodup_le {l m : List Wd} : l.Nodup → (∀ x ∈ l, x ∈ m) → l.length ≤ m.length := by
  induction l generalizing m with
  | nil => intro _ _; exact Nat.zero_le _
  | cons a l ih =>
    intro n h
    have n1 := List.nodup_cons.mp n
    have ha : a ∈ m := h a List.mem_cons_self
    have hl := ih (m := m.erase a) n1.2 fun x hx => (List.mem_erase_of_ne (fun e => n1.1 (by rw [← e]; exact hx))).mpr (h x (List.mem_cons_of_mem _ hx))
    rw [List.length_erase_of_mem ha] at hl
    have hp : 0 < m.length := List.length_pos_of_mem ha
    rw [List.length_cons]
    omega
def uni7 : List Wd := (List.range 8).flatMap wordsOf
def uni8 (f : Wd) : List Wd := (wordsOf 8).filter fun w => f.isSublist w
theorem uni7_len : uni7.length = 255 := by decide +kernel
theorem uni8_len : (wordsOf 5).all (fun f => Nat.ble (uni8 f).length 144) = true := by decide +kernel
theorem Wk_few {ls : Wd} {y : Way} {f : Wd} (hl : AB' ls) (hf : AB' f) (h5 : f.length ≤ 5) {k : Nat} (hk : k ≤ 3) : (Wk ls y f k).length < 400 := by
  obtain ⟨nd, hm⟩ := Wk_of (y := y) hl hf k
  by_cases h : f.length = 5
  · have h8 : (uni8 f).length ≤ 144 := by
      have q := List.all_eq_true.mp uni8_len f (by rw [← h]; exact mem_words f hf)
      exact Nat.le_of_ble_eq_true q
    have q := nodup_le (m := uni7 ++ uni8 f) nd fun v hv => by
      obtain ⟨a, b, c⟩ := hm v hv
      by_cases h7 : v.length < 8
      · exact List.mem_append.mpr (.inl (List.mem_flatMap.mpr ⟨v.length, List.mem_range.mpr h7, mem_words v a⟩))
      · have e8 : v.length = 8 := by omega
        exact List.mem_append.mpr (.inr (List.mem_filter.mpr ⟨by rw [← e8]; exact mem_words v a, List.isSublist_iff_sublist.mpr (c (by omega))⟩))
    rw [List.length_append, uni7_len] at q
    omega
  · have q := nodup_le (m := uni7) nd fun v hv => by
      obtain ⟨a, b, c⟩ := hm v hv
      exact List.mem_flatMap.mpr ⟨v.length, List.mem_range.mpr (by omega), mem_words v a⟩
    rw [uni7_len] at q
    omega
/-! ### the due, by how far a hit is -/
def firstK (b : Nat → Bool) : Option Nat := if b 0 = true then some 0 else if b 1 = true then some 1 else if b 2 = true then some 2 else if b 3 = true then some 3 else if b 4 = true then some 4 else none
theorem due_first {ls : Wd} {y : Way} {f g : Wd} (hl : AB' ls) (hf : AB' f) (h5 : f.length ≤ 5) : dueM ls y f g = firstK fun k => hitK ls y g k f := by
  have e0 := hitM_Wk ls y f g 0
  have e1 := hitM_Wk ls y f g 1
  have e2 := hitM_Wk ls y f g 2
  have e3 := hitM_Wk ls y f g 3
  have e4 := hitM_Wk ls y f g 4
  have l0 := Wk_few (y := y) hl hf h5 (k := 0) (by decide)
  have l1 := Wk_few (y := y) hl hf h5 (k := 1) (by decide)
  have l2 := Wk_few (y := y) hl hf h5 (k := 2) (by decide)
  have l3 := Wk_few (y := y) hl hf h5 (k := 3) (by decide)
  have stay : ∀ (l : List Nat) (ws : List Wd) (n : Nat), l.foldl (dueStep ls y g) (ws, some n) = (ws, some n) := by
    intro l
    induction l with
    | nil => intro ws n; rfl
    | cons t l ih =>
      intro ws n
      rw [List.foldl_cons]
      exact ih ws n
  have hit : ∀ (k t : Nat), hitK ls y g k f = true → dueStep ls y g (Wk ls y f k, none) t = (Wk ls y f k, some t) := by
    intro k t h
    unfold dueStep
    have e := hitM_Wk ls y f g k
    rw [h] at e
    simp [e]
  have miss : ∀ (k t : Nat), (Wk ls y f k).length < 400 → hitK ls y g k f = false → dueStep ls y g (Wk ls y f k, none) t = (Wk ls y f (k + 1), none) := by
    intro k t hl h
    unfold dueStep
    have e := hitM_Wk ls y f g k
    rw [h] at e
    simp [e, hl]
    rfl
  have last : ∀ (ws : List Wd) (t : Nat), hitM ws g = false → (dueStep ls y g (ws, none) t).2 = none := by
    intro ws t e
    unfold dueStep
    simp [e]
  have fk : firstK (fun k => hitK ls y g k f) = if hitK ls y g 0 f = true then some 0 else if hitK ls y g 1 f = true then some 1 else if hitK ls y g 2 f = true then some 2 else if hitK ls y g 3 f = true then some 3 else if hitK ls y g 4 f = true then some 4 else none := rfl
  rw [fk]
  unfold dueM
  show (dueStep ls y g (dueStep ls y g (dueStep ls y g (dueStep ls y g (dueStep ls y g (Wk ls y f 0, none) 0) 1) 2) 3) 4).2 = _
  have st : ∀ (ws : List Wd) (n t : Nat), dueStep ls y g (ws, some n) t = (ws, some n) := fun ws n t => stay [t] ws n
  cases h0 : hitK ls y g 0 f with
  | true => rw [hit 0 0 h0, st, st, st, st] <;> rfl
  | false =>
    rw [miss 0 0 l0 h0]
    cases h1 : hitK ls y g 1 f with
    | true => rw [hit 1 1 h1, st, st, st] <;> rfl
    | false =>
      rw [miss 1 1 l1 h1]
      cases h2 : hitK ls y g 2 f with
      | true => rw [hit 2 2 h2, st, st] <;> rfl
      | false =>
        rw [miss 2 2 l2 h2]
        cases h3 : hitK ls y g 3 f with
        | true => rw [hit 3 3 h3, st] <;> rfl
        | false =>
          rw [miss 3 3 l3 h3]
          cases h4 : hitK ls y g 4 f with
          | true => rw [hit 4 4 h4] <;> rfl
          | false => rw [last _ _ (e4.trans h4)] <;> rfl
end J
end

section
/-! The tables, a goal each: the hits among words up to nine signs; then, by way, from which words 1, 2, 3, 4 mends reach one. -/
namespace J
def rows : List (Wd × Nat × List (List Nat)) := [
  ([97], 0x555555555555555555555555555555555555555555555555555555555555555500000000000000000000000000000000555555555555555555555555555555550000000000000000555555555555555500000000555555550000555500550514, [[0x55555555555555555555555555555555ffffffffffffffffffffffffffffffff5555555555555555ffffffffffffffff55555555ffffffff5555ffff55ff5f76, 0xfffffffffffffffffffffffffffffffffffffffffffffffffffffffffffffffe, 0xfffffffffffffffffffffffffffffffe, 0xfffffffffffffffe], [0x5555555555555555777777777777777777777777777777770000000055555555777777777777777700005555777777770055777705771770, 0x5555777777777f7f7f7f7f7f7f7f005577777f7f7f7f05777f7f177f7f00, 0x5777f7f7fff7fff177f7fff7fff0000, 0x7fffffff00000000], [0x55555555555555555555555555555555ffffffffffffffffffffffffffffffff5555555555555555ffffffffffffffff55555555ffffffff5555ffff55ff5f7c, 0xfffffffffffffffffffffffffffffffffffffffffffffffffffffffffffffffc, 0xfffffffffffffffffffffffffffffffc, 0xfffffffffffffffc], [0x55555555555555555555555555555555ffffffffffffffffffffffffffffffff5555555555555555ffffffffffffffff55555555ffffffff5555ffff55ff5f7e, 0xfffffffffffffffffffffffffffffffffffffffffffffffffffffffffffffffe, 0xfffffffffffffffffffffffffffffffe, 0xfffffffffffffffe]]),
  ([98], 0xaaaaaaaaaaaaaaaaaaaaaaaaaaaaaaaaaaaaaaaaaaaaaaaaaaaaaaaaaaaaaaaa0000000000000000000000000000000000000000000000000000000000000000aaaaaaaaaaaaaaaaaaaaaaaaaaaaaaaa00000000000000000000000000000000aaaaaaaaaaaaaaaa0000000000000000aaaaaaaa00000000aaaa0000aa00a088, [[0xffffffffffffffffffffffffffffffffaaaaaaaaaaaaaaaaaaaaaaaaaaaaaaaaffffffffffffffffaaaaaaaaaaaaaaaaffffffffaaaaaaaaffffaaaaffaafaea, 0xfffffffffffffffffffffffffffffffffffffffffffffffffffffffffffffffe, 0xfffffffffffffffffffffffffffffffe, 0xfffffffffffffffe], [0xeeeeeeeeeeeeeeeeeeeeeeeeeeeeeeeeaaaaaaaaaaaaaaaa0000000000000000eeeeeeeeeeeeeeeeaaaaaaaa00000000eeeeeeeeaaaa0000eeeeaa00eea0e8e0, 0xfefefefefefefefeeeeeeeeeaaaa0000fefefefeeeeeaa00fefeeea0fee8fe00, 0xfffefffefefeeea0fffefee8fffe0000, 0xfffffffe00000000], [0xffffffffffffffffffffffffffffffffaaaaaaaaaaaaaaaaaaaaaaaaaaaaaaaaffffffffffffffffaaaaaaaaaaaaaaaaffffffffaaaaaaaaffffaaaaffaafaec, 0xfffffffffffffffffffffffffffffffffffffffffffffffffffffffffffffffc, 0xfffffffffffffffffffffffffffffffc, 0xfffffffffffffffc], [0xffffffffffffffffffffffffffffffffaaaaaaaaaaaaaaaaaaaaaaaaaaaaaaaaffffffffffffffffaaaaaaaaaaaaaaaaffffffffaaaaaaaaffffaaaaffaafaee, 0xfffffffffffffffffffffffffffffffffffffffffffffffffffffffffffffffe, 0xfffffffffffffffffffffffffffffffe, 0xfffffffffffffffe]]),
  ([97, 97], 0x111511551115555511151155555555555555555555555555555555555555555500000000000000000000000000000000111511551115555555555555555555550000000000000000111511555555555500000000111555550000115500150110, [[0x11151155111555551115115555555555575f57ff575fffffffffffffffffffff1115115511155555575f57ffffffffff11151155575fffff111557ff115f1714, 0x575f57ff575fffffffffffffffffffff575f57ffffffffff575fffff57ff5f76, 0xfffffffffffffffffffffffffffffffe, 0xfffffffffffffffe], [0x1115115555555555171717775757777777777777777777770000000011155555171757777777777700001155175777770015177701171700, 0x115517577777177f777f7f7f7f7f00151777177f7f7f0117177f177f0000, 0x117177f177f7fff177f7fff00000000, 0x0], [0x11151155111555555555555555555555777f77ff777fffffffffffffffffffff1115115555555555777f77ffffffffff11155555777fffff115577ff157f1770, 0x777f77ffffffffffffffffffffffffff777fffffffffffff77ffffff7fff7ff0, 0xfffffffffffffffffffffffffffffff0, 0xfffffffffffffff0], [0x11151155111555555555555555555555777f77ff777fffffffffffffffffffff1115115555555555777f77ffffffffff11155555777fffff115577ff157f1774, 0x777f77ffffffffffffffffffffffffff777fffffffffffff77ffffff7fff7ffe, 0xfffffffffffffffffffffffffffffffe, 0xfffffffffffffffe]]),
  ([97, 98], 0xaaaaaaaaaaaaaaaaaaaaaaaaaaaaaaaaaaaaaaaaaaaaaaaaaaaaaaaaaaaaaaaa00000000000000000000000000000000aaaaaaaaaaaaaaaaaaaaaaaaaaaaaaaa0000000000000000aaaaaaaaaaaaaaaa00000000aaaaaaaa0000aaaa00aa0a20, [[0xaaaaaaaaaaaaaaaaaaaaaaaaaaaaaaaaffffffffffffffffffffffffffffffffaaaaaaaaaaaaaaaaffffffffffffffffaaaaaaaaffffffffaaaaffffaaffafbc, 0xfffffffffffffffffffffffffffffffffffffffffffffffffffffffffffffffe, 0xfffffffffffffffffffffffffffffffe, 0xfffffffffffffffe], [0xaaaaaaaaaaaaaaaaeeeeeeeeeeeeeeeeeeeeeeeeeeeeeeee00000000aaaaaaaaeeeeeeeeeeeeeeee0000aaaaeeeeeeee00aaeeee0aee2e00, 0xaaaaeeeeeeeefefefefefefefefe00aaeeeefefefefe0aeefefe2efe0000, 0xaeefefefffefffe2efefffe00000000, 0x0], [0xaaaaaaaaaaaaaaaaaaaaaaaaaaaaaaaaffffffffffffffffffffffffffffffffaaaaaaaaaaaaaaaaffffffffffffffffaaaaaaaaffffffffaaaaffffaaffafb0, 0xfffffffffffffffffffffffffffffffffffffffffffffffffffffffffffffff0, 0xfffffffffffffffffffffffffffffff0, 0xfffffffffffffff0], [0xaaaaaaaaaaaaaaaaaaaaaaaaaaaaaaaaffffffffffffffffffffffffffffffffaaaaaaaaaaaaaaaaffffffffffffffffaaaaaaaaffffffffaaaaffffaaffafbc, 0xfffffffffffffffffffffffffffffffffffffffffffffffffffffffffffffffe, 0xfffffffffffffffffffffffffffffffe, 0xfffffffffffffffe]]),
  ([98, 97], 0x5555555555555555555555555555555555555555555555555555555555555555000000000000000000000000000000000000000000000000000000000000000055555555555555555555555555555555000000000000000000000000000000005555555555555555000000000000000055555555000000005555000055005040, [[0xffffffffffffffffffffffffffffffff55555555555555555555555555555555ffffffffffffffff5555555555555555ffffffff55555555ffff5555ff55f5dc, 0xfffffffffffffffffffffffffffffffffffffffffffffffffffffffffffffffe, 0xfffffffffffffffffffffffffffffffe, 0xfffffffffffffffe], [0x77777777777777777777777777777777555555555555555500000000000000007777777777777777555555550000000077777777555500007777550077507400, 0x7f7f7f7f7f7f7f7f77777777555500007f7f7f7f777755007f7f77507f740000, 0x7fff7fff7f7f77507fff7f7400000000, 0x0], [0xffffffffffffffffffffffffffffffff55555555555555555555555555555555ffffffffffffffff5555555555555555ffffffff55555555ffff5555ff55f5d0, 0xfffffffffffffffffffffffffffffffffffffffffffffffffffffffffffffff0, 0xfffffffffffffffffffffffffffffff0, 0xfffffffffffffff0], [0xffffffffffffffffffffffffffffffff55555555555555555555555555555555ffffffffffffffff5555555555555555ffffffff55555555ffff5555ff55f5dc, 0xfffffffffffffffffffffffffffffffffffffffffffffffffffffffffffffffe, 0xfffffffffffffffffffffffffffffffe, 0xfffffffffffffffe]]),
  ([98, 98], 0xaaaaaaaaaaaaaaaaaaaaaaaaaaaaaaaaaaaaaaaaaa88a888aaaaa888aa88a8880000000000000000000000000000000000000000000000000000000000000000aaaaaaaaaaaaaaaaaaaaa888aa88a88800000000000000000000000000000000aaaaaaaaaa88a8880000000000000000aaaaa88800000000aa880000a8008080, [[0xfffffffffffffffffffffaeaffeafaeaaaaaaaaaaa88a888aaaaa888aa88a888ffffffffffeafaeaaaaaa888aa88a888fffffaeaaa88a888ffeaa888fa88e888, 0xfffffffffffffffffffffaeaffeafaeaffffffffffeafaeafffffaeaffeafaea, 0xfffffffffffffffffffffffffffffffe, 0xfffffffffffffffe], [0xeeeeeeeeeeeeeeeeeeeeeaeaeee8e8e8aaaaaaaaaa88a8880000000000000000eeeeeeeeeeeae8e8aaaaa88800000000eeeeeae8aa880000eee8a800e880e800, 0xfefefefefeeefee8eeeeeae8aa880000fefefee8eee8a800fee8e880fee80000, 0xfffefee8fee8e880fffefee800000000, 0x0], [0xfffffffffffffffffffffeeeffeefeeeaaaaaaaaaaaaaaaaaaaaa888aa88a888ffffffffffeefeeeaaaaaaaaaa88a888fffffeeeaaaaa888ffeeaa88fea8e8e0, 0xffffffffffffffffffffffffffeefeeefffffffffffffeeeffffffeefffefef0, 0xfffffffffffffffffffffffffffffff0, 0xfffffffffffffff0], [0xfffffffffffffffffffffeeeffeefeeeaaaaaaaaaaaaaaaaaaaaa888aa88a888ffffffffffeefeeeaaaaaaaaaa88a888fffffeeeaaaaa888ffeeaa88fea8e8e8, 0xffffffffffffffffffffffffffeefeeefffffffffffffeeeffffffeefffefefe, 0xfffffffffffffffffffffffffffffffe, 0xfffffffffffffffe]]),
  ([97, 97, 97], 0x10101150101115501010115111555551115115511155555555555555555555500000000000000000000000000000000010101150101115511151155555555550000000000000000010101151115555500000000010111550000011500010100, [[0x10101150101115501010115111555551117115f111757ff575f57ffffffffff01010115010111551117115f575fffff01010115111757ff0101115f01170110, 0x1117115f111757ff575f57ffffffffff1117115f575fffff111757ff115f1714, 0x575f57ffffffffff575fffff57ff5f76, 0xfffffffffffffffe], [0x101011511155555011701171117577717175777777777770000000001011155011711571757777700000115011717770001011701170000, 0x115011717770117177f177f7f7f000101170117177f0117177f00000000, 0x117177f177f7fff0000000000000000, 0x0], [0x10101150101115511151155555555551717177f575777ff777f77ffffffffff01010115111555551717577f777fffff01011155175777ff0115177f01171700, 0x1717577f777fffff7f7fffffffffffff175777ff7fffffff177f7fff177f7f00, 0x7fffffffffffffff7fffffff7fffff00, 0xffffffffffffff00], [0x10101150101115511151155555555551717177f575777ff777f77ffffffffff01010115111555551717577f777fffff01011155175777ff0115177f01171710, 0x1717577f777fffff7f7fffffffffffff175777ff7fffffff177f7fff177f7f74, 0x7fffffffffffffff7fffffff7ffffffe, 0xfffffffffffffffe]]),
  ([97, 97, 98], 0x20a02aa020aaaaa020a02aaaaaaaaaaaaaaaaaaaaaaaaaaaaaaaaaaaaaaaaaa00000000000000000000000000000000020a02aa020aaaaaaaaaaaaaaaaaaaaa0000000000000000020a02aaaaaaaaaa00000000020aaaaa000002aa000a0200, [[0x20a02aa020aaaaa020a02aaaaaaaaaabbbfbbffbbbfffffffffffffffffffff020a02aa020aaaaabbbfbbffffffffff020a02aabbbfffff020abbff02bf0b30, 0xbbbfbbffbbbfffffffffffffffffffffbbbfbbffffffffffbbbfffffbbffbfbc, 0xfffffffffffffffffffffffffffffffe, 0xfffffffffffffffe], [0x20a02aaaaaaaaaa022e0aeeaaaeeeeeeeeeeeeeeeeeeeee00000000020aaaaa022eaaeeeeeeeeee000002aa02aeeeee000a0aee022e0000, 0x2aa02aeeeee02aeeefefefefefe000a0aee0aeefefe022e2efe00000000, 0x22e2efe2efefffe0000000000000000, 0x0], [0x20a02aa020aaaaaaaaaaaaaaaaaaaaaabafabffabafffffffffffffffffffff020a02aaaaaaaaaaabafabffffffffff020aaaaaabafffff02aaabff0aaf2b00, 0xabafabffffffffffffffffffffffffffabafffffffffffffabffffffafffbf00, 0xffffffffffffffffffffffffffffff00, 0xffffffffffffff00], [0x20a02aa020aaaaaaaaaaaaaaaaaaaaabbbfbbffbbbfffffffffffffffffffff020a02aaaaaaaaaabbbfbbffffffffff020aaaaabbbfffff02aabbff0abf2b30, 0xbbbfbbffffffffffffffffffffffffffbbbfffffffffffffbbffffffbfffbffc, 0xfffffffffffffffffffffffffffffffe, 0xfffffffffffffffe]]),
  ([97, 98, 97], 0x555555555555555555555555555555555555555555555555555555555555555400000000000000000000000000000000555555555555555555555555555555540000000000000000555555555555555400000000555555540000555400540400, [[0x55555555555555555555555555555555ffffffffffffffffffffffffffffffff5555555555555555ffffffffffffffff55555555ffffffff5555ffff55ff5f70, 0xfffffffffffffffffffffffffffffffffffffffffffffffffffffffffffffffc, 0xfffffffffffffffffffffffffffffffe, 0xfffffffffffffffe], [0x5555555555555554777777777777777777777777777777740000000055555554777777777777777400005554777777740054777404740000, 0x5554777777747f7f7f7f7f7f7f74005477747f7f7f7404747f7400000000, 0x4747f747fff7f740000000000000000, 0x0], [0x55555555555555555555555555555554fffffffffffffffffffffffffffffffd5555555555555554fffffffffffffffd55555554fffffffd5554fffd54fd4d00, 0xfffffffffffffffdfffffffffffffffffffffffdfffffffffffdfffffdffdf00, 0xffffffffffffffffffffffffffffff00, 0xffffffffffffff00], [0x55555555555555555555555555555555ffffffffffffffffffffffffffffffff5555555555555555ffffffffffffffff55555555ffffffff5555ffff55ff5f70, 0xfffffffffffffffffffffffffffffffffffffffffffffffffffffffffffffffc, 0xfffffffffffffffffffffffffffffffe, 0xfffffffffffffffe]]),
  ([97, 98, 98], 0xaaaaaaaaaaaaaaaaaaaaa888aa88a888aaaaaaaaaa88a888aaaaa888aa88a88800000000000000000000000000000000aaaaaaaaaa88a888aaaaa888aa88a8880000000000000000aaaaa888aa88a88800000000aa88a8880000a88800880800, [[0xaaaaaaaaaaaaaaaaaaaaa888aa88a888ffffffffffeafaeafffffaeaffeafaeaaaaaaaaaaa88a888fffffaeaffeafaeaaaaaa888ffeafaeaaa88faeaa8ea8aa0, 0xffffffffffeafaeafffffffffffffffffffffaeaffffffffffeafffffaffefbc, 0xfffffffffffffffffffffffffffffffe, 0xfffffffffffffffe], [0xaaaaa888aa88a888eeeeeeeeeeeae8e8eeeeeae8eee8e8e800000000aa88a888eeeeeae8eee8e8e80000a888eee8e8e80088e8e808e80000, 0xa888eee8e8e8fefefee8fee8fee80088e8e8fee8fee808e8fee800000000, 0x8e8fee8fffefee80000000000000000, 0x0], [0xaaaaaaaaaa88a888aaaaa888aa88a888ffffffffffeefeeefffffeeeffeefeeeaaaaa888aa88a888fffffeeeffeefeeeaa88a888ffeefeeea888feee88ee8e00, 0xfffffeeeffeefeeeffffffffffffffffffeefeeefffffffffeeeffffeeffef00, 0xffffffffffffffffffffffffffffff00, 0xffffffffffffff00], [0xaaaaaaaaaaaaaaaaaaaaa888aa88a888ffffffffffeefeeefffffeeeffeefeeeaaaaaaaaaa88a888fffffeeeffeefeeeaaaaa888ffeefeeeaa88feeea8ee8ea0, 0xffffffffffeefeeefffffffffffffffffffffeeeffffffffffeefffffeffeffc, 0xfffffffffffffffffffffffffffffffe, 0xfffffffffffffffe]]),
  ([98, 97, 97], 0x1115115511155555111511555555555511151155111555555555555555555555000000000000000000000000000000000000000000000000000000000000000011151155111555551115115555555555000000000000000000000000000000001115115511155555000000000000000011151155000000001115000011001000, [[0x575f57ff575fffff575f57ffffffffff11151155111555555555555555555555575f57ff575fffff1115115555555555575f57ff11155555575f115557155150, 0xffffffffffffffff575f57ffffffffffffffffff575fffffffff57ffff5ff7dc, 0xfffffffffffffffffffffffffffffffe, 0xfffffffffffffffe], [0x17171777175777771717577777777777111511551115555500000000000000001717177717577777111511550000000017171777111500001717110017100000, 0x177f177f177f7f7f1717177711150000177f177f17171100177f171000000000, 0x177f7fff177f17100000000000000000, 0x0], [0x777f77ff777fffff777f77ffffffffff11151155111555551115115555555555777f77ff777fffff1115115511155555777f77ff11151155777f111577117100, 0xffffffffffffffff777f77ff777fffffffffffff777f77ffffff777fff77f700, 0xffffffffffffffffffffffffffffff00, 0xffffffffffffff00], [0x777f77ff777fffff777f77ffffffffff11151155111555555555555555555555777f77ff777fffff1115115555555555777f77ff11155555777f115577157150, 0xffffffffffffffff777f77ffffffffffffffffff777fffffffff77ffff7ff7fc, 0xfffffffffffffffffffffffffffffffe, 0xfffffffffffffffe]]),
  ([98, 97, 98], 0x2aaaaaaaaaaaaaaaaaaaaaaaaaaaaaaaaaaaaaaaaaaaaaaaaaaaaaaaaaaaaaaa00000000000000000000000000000000000000000000000000000000000000002aaaaaaaaaaaaaaaaaaaaaaaaaaaaaaa000000000000000000000000000000002aaaaaaaaaaaaaaa00000000000000002aaaaaaa000000002aaa00002a002000, [[0xffffffffffffffffffffffffffffffffaaaaaaaaaaaaaaaaaaaaaaaaaaaaaaaaffffffffffffffffaaaaaaaaaaaaaaaaffffffffaaaaaaaaffffaaaaffaafae0, 0xfffffffffffffffffffffffffffffffffffffffffffffffffffffffffffffffc, 0xfffffffffffffffffffffffffffffffe, 0xfffffffffffffffe], [0x2eeeeeeeeeeeeeeeeeeeeeeeeeeeeeee2aaaaaaaaaaaaaaa00000000000000002eeeeeeeeeeeeeee2aaaaaaa000000002eeeeeee2aaa00002eee2a002e200000, 0x2efefefefefefefe2eeeeeee2aaa00002efefefe2eee2a002efe2e2000000000, 0x2efefffe2efe2e200000000000000000, 0x0], [0xbfffffffffffffffffffffffffffffff2aaaaaaaaaaaaaaaaaaaaaaaaaaaaaaabfffffffffffffff2aaaaaaaaaaaaaaabfffffff2aaaaaaabfff2aaabf2ab200, 0xffffffffffffffffbfffffffffffffffffffffffbfffffffffffbfffffbffb00, 0xffffffffffffffffffffffffffffff00, 0xffffffffffffff00], [0xffffffffffffffffffffffffffffffffaaaaaaaaaaaaaaaaaaaaaaaaaaaaaaaaffffffffffffffffaaaaaaaaaaaaaaaaffffffffaaaaaaaaffffaaaaffaafae0, 0xfffffffffffffffffffffffffffffffffffffffffffffffffffffffffffffffc, 0xfffffffffffffffffffffffffffffffe, 0xfffffffffffffffe]]),
  ([98, 98, 97], 0x5555555555555555555555555555555555555555554050405555504055405040000000000000000000000000000000000000000000000000000000000000000055555555555555555555504055405040000000000000000000000000000000005555555555405040000000000000000055555040000000005540000050004000, [[0xfffffffffffffffffffffdddffddfddd55555555554050405555504055405040ffffffffffddfddd5555504055405040fffffddd55405040ffdd5040fd40d0c0, 0xfffffffffffffffffffffdddffddfdddffffffffffddfdddfffffdddffddfddc, 0xfffffffffffffffffffffffffffffffe, 0xfffffffffffffffe], [0x77777777777777777777755577507440555555555540504000000000000000007777777777557440555550400000000077777540554000007750500074400000, 0x7f7f7f7f7f77754077777540554000007f7f7750775050007f74744000000000, 0x7fff7f747f7474400000000000000000, 0x0], [0xfffffffffffffffffffff5d5ffd5f5d555555555555555555555504055405040ffffffffffd5f5d55555555555405040fffff5d555555040ffd55540f550d400, 0xffffffffffffffffffffffffffd5f5d5fffffffffffff5d5ffffffd5fff5fd00, 0xffffffffffffffffffffffffffffff00, 0xffffffffffffff00], [0xfffffffffffffffffffffdddffddfddd55555555555555555555504055405040ffffffffffddfddd5555555555405040fffffddd55555040ffdd5540fd50d4c0, 0xffffffffffffffffffffffffffddfdddfffffffffffffdddffffffddfffdfdfc, 0xfffffffffffffffffffffffffffffffe, 0xfffffffffffffffe]]),
  ([98, 98, 98], 0xaaaaaaaaaaaaaaaaaaaaa888aa88a888aaaaa888a8808080aa888080a88080800000000000000000000000000000000000000000000000000000000000000000aaaaaaaaaa88a888aa888080a880808000000000000000000000000000000000aaaaa888a88080800000000000000000aa88808000000000a880000080008000, [[0xffffffffffeafaeaffeae888fa88e888aaaaa888a8808080aa888080a8808080fffffaeafa88e888aa888080a8808080ffeae888a8808080fa888080e8808080, 0xffffffffffeafaeaffeae888fa88e888fffffaeafa88e888ffeae888fa88e888, 0xffffffffffeafaeafffffaeaffeafaea, 0xfffffffffffffffe], [0xeeeeeeeeeeeae8e8eeeae888e880e880aaaaa888a88080800000000000000000eeeeeae8ea88e880aa88808000000000eee8e880a8800000e8808000e8800000, 0xfefefee8fee8e880eee8e880a8800000fee8e880e8808000fee8e88000000000, 0xfffefee8fee8e8800000000000000000, 0x0], [0xffffffffffeefeeeffeeeaeafee8e8e8aaaaaaaaaa88a888aa888080a8808080fffffeeefeeae8e8aaaaa888a8808080ffeeeae8aa888080fee8a880e880e800, 0xfffffffffffffefefffffeeefeeae8e8fffffffeffeeeae8fffefee8fee8fe00, 0xfffffffffffffffefffffffefffeff00, 0xffffffffffffff00], [0xffffffffffeefeeeffeeeaeafee8e8e8aaaaaaaaaa88a888aa888080a8808080fffffeeefeeae8e8aaaaa888a8808080ffeeeae8aa888080fee8a880e880e880, 0xfffffffffffffefefffffeeefeeae8e8fffffffeffeeeae8fffefee8fee8fee8, 0xfffffffffffffffefffffffefffefffe, 0xfffffffffffffffe]])]

def abL : Wd := [97, 98]
def lvl (m e : Nat) : List Nat → Nat → Bool
  | r0 :: rs, k + 1 => match rs with
    | r1 :: _ => (bit r1 e == meets m r0) && lvl m e rs k
    | [] => true
  | _, _ => true
def chkW (y : Way) (t : List (List Nat)) (n : Nat) (w : Wd) : Bool := t.all fun rs => lvl (mmL (mendW abL y w)) (enc w) rs (9 - n)
def chkN (y : Way) (t : List (List Nat)) (n : Nat) : Bool := (wordsOf n).all (chkW y t n)
def tab (j : Nat) : List (List Nat) := rows.map fun x => x.2.1 :: x.2.2.getD j []
def okp (b : Bool) : List (List Nat) → Bool
  | [] => !b
  | x :: l => b && Nat.ble (l.length + 1) 63
def chk0 (n : Nat) : Bool := rows.all fun x => (wordsOf n).all fun w => okp (bit x.2.1 (enc w)) (partsM w x.1)
end J
end

section
/-! the hits -/
namespace J
theorem ck0a : (List.range 8).all chk0 = true := by decide +kernel
theorem ck0b : chk0 8 = true := by decide +kernel
theorem ck0c0 : (rows.take 7).all (fun x => (wordsOf 9).all fun w => okp (bit x.2.1 (enc w)) (partsM w x.1)) = true := by decide +kernel
theorem ck0c1 : (rows.drop 7).all (fun x => (wordsOf 9).all fun w => okp (bit x.2.1 (enc w)) (partsM w x.1)) = true := by decide +kernel
theorem all_two {α : Type} {p : α → Bool} {k : Nat} (l : List α) (h1 : (l.take k).all p = true) (h2 : (l.drop k).all p = true) : l.all p = true := by
  have e : (l.take k ++ l.drop k).all p = true := by rw [List.all_append, h1, h2] <;> rfl
  rw [List.take_append_drop] at e
  exact e
theorem ck0c : chk0 9 = true := all_two rows ck0c0 ck0c1
theorem ck0 : (List.range 10).all chk0 = true := by
  have e : List.range 10 = List.range 8 ++ [8, 9] := by decide +kernel
  rw [e, List.all_append, ck0a]
  show (true && (chk0 8 && (chk0 9 && true))) = true
  rw [ck0b, ck0c] <;> rfl
end J
end

section
/-! the levels -/
namespace J
theorem ckIna : (List.range 8).all (chkN ⟨true, false, false⟩ (tab 0)) = true := by decide +kernel
theorem ckInb : chkN ⟨true, false, false⟩ (tab 0) 8 = true := by decide +kernel
theorem ckIn : (List.range 9).all (chkN ⟨true, false, false⟩ (tab 0)) = true := by
  have e : List.range 9 = List.range 8 ++ [8] := by decide +kernel
  rw [e, List.all_append, ckIna]
  show (true && (chkN ⟨true, false, false⟩ (tab 0) 8 && true)) = true
  rw [ckInb] <;> rfl
theorem ckOuta : (List.range 8).all (chkN ⟨false, false, true⟩ (tab 1)) = true := by decide +kernel
theorem ckOutb : chkN ⟨false, false, true⟩ (tab 1) 8 = true := by decide +kernel
theorem ckOut : (List.range 9).all (chkN ⟨false, false, true⟩ (tab 1)) = true := by
  have e : List.range 9 = List.range 8 ++ [8] := by decide +kernel
  rw [e, List.all_append, ckOuta]
  show (true && (chkN ⟨false, false, true⟩ (tab 1) 8 && true)) = true
  rw [ckOutb] <;> rfl
theorem ckChga : (List.range 8).all (chkN ⟨false, true, false⟩ (tab 2)) = true := by decide +kernel
theorem ckChgb : chkN ⟨false, true, false⟩ (tab 2) 8 = true := by decide +kernel
theorem ckChg : (List.range 9).all (chkN ⟨false, true, false⟩ (tab 2)) = true := by
  have e : List.range 9 = List.range 8 ++ [8] := by decide +kernel
  rw [e, List.all_append, ckChga]
  show (true && (chkN ⟨false, true, false⟩ (tab 2) 8 && true)) = true
  rw [ckChgb] <;> rfl
theorem ckAlla : (List.range 8).all (chkN ⟨true, true, true⟩ (tab 3)) = true := by decide +kernel
theorem ckAllb : chkN ⟨true, true, true⟩ (tab 3) 8 = true := by decide +kernel
theorem ckAll : (List.range 9).all (chkN ⟨true, true, true⟩ (tab 3)) = true := by
  have e : List.range 9 = List.range 8 ++ [8] := by decide +kernel
  rw [e, List.all_append, ckAlla]
  show (true && (chkN ⟨true, true, true⟩ (tab 3) 8 && true)) = true
  rw [ckAllb] <;> rfl
end J
end

section
/-! told and due agree, for each film and goal -/
namespace J
def dueT (e : Nat) : List Nat → Nat → Option Nat
  | [], _ => none
  | r :: rs, k => cond (bit r e) (some k) (dueT e rs (k + 1))
def duesT (e r0 : Nat) (rs : List (List Nat)) : List (Option Nat) := rs.map fun r => dueT e (r0 :: r) 0
def minOk (n : Nat) : List (Option Nat) → Bool
  | [] => true
  | none :: l => minOk n l
  | some m :: l => Nat.ble n m && minOk n l
def toldOk (ds ts : List (Option Nat)) (n : Nat) : Bool := allOk ds ts && minOk n ts
def chkP (x : Wd × Nat × List (List Nat)) (f : Wd) : Bool :=
  toldOk (match lettersM (f ++ x.1) with
    | [_, _] => duesT (enc f) x.2.1 x.2.2
    | _ => duesM f x.1) (toldM f x.1) (walkN f x.1 1 1 1) && (decide (moreM f x.1 = moreL f x.1) && decide (lessM f x.1 = lessL f x.1))
def chkR (x : Wd × Nat × List (List Nat)) (n : Nat) : Bool := (wordsOf n).all (chkP x)
theorem slices (n m k : Nat) (x : Wd × Nat × List (List Nat)) (hm : 0 < m) (hl : (wordsOf n).length ≤ m * k) (h : ∀ j, j < k → (((wordsOf n).drop (m * j)).take m).all (chkP x) = true) : chkR x n = true := by
  unfold chkR
  refine List.all_eq_true.mpr fun f hf => ?_
  obtain ⟨i, hi, rfl⟩ := List.getElem_of_mem hf
  have hj : i / m < k := (Nat.div_lt_iff_lt_mul hm).mpr (by rw [Nat.mul_comm]; omega)
  refine List.all_eq_true.mp (h (i / m) hj) _ (List.mem_of_getElem? (i := i % m) ?_)
  rw [List.getElem?_take_of_lt (Nat.mod_lt _ hm), List.getElem?_drop, Nat.div_add_mod]
  exact List.getElem?_eq_getElem hi
theorem ckP1 : rows.all (fun x => chkR x 1) = true := by decide +kernel
theorem ckP2 : rows.all (fun x => chkR x 2) = true := by decide +kernel
theorem ckP3a : rows.all (fun x => (((wordsOf 3).drop (4 * 0)).take 4).all (chkP x)) = true := by decide +kernel
theorem ckP3b : rows.all (fun x => (((wordsOf 3).drop (4 * 1)).take 4).all (chkP x)) = true := by decide +kernel
theorem ckP3 : rows.all (fun x => chkR x 3) = true := List.all_eq_true.mpr fun x hx => slices 3 4 2 x (by decide) (by decide +kernel) fun j hj => match j, hj with
  | 0, _ => List.all_eq_true.mp ckP3a x hx
  | 1, _ => List.all_eq_true.mp ckP3b x hx
end J
end

section
namespace J
theorem ckP4s0 : rows.all (fun x => (((wordsOf 4).drop (3 * 0)).take 3).all (chkP x)) = true := by decide +kernel
theorem ckP4s1 : rows.all (fun x => (((wordsOf 4).drop (3 * 1)).take 3).all (chkP x)) = true := by decide +kernel
theorem ckP4s2 : rows.all (fun x => (((wordsOf 4).drop (3 * 2)).take 3).all (chkP x)) = true := by decide +kernel
theorem ckP4s3 : rows.all (fun x => (((wordsOf 4).drop (3 * 3)).take 3).all (chkP x)) = true := by decide +kernel
theorem ckP4s4 : rows.all (fun x => (((wordsOf 4).drop (3 * 4)).take 3).all (chkP x)) = true := by decide +kernel
theorem ckP4s5 : rows.all (fun x => (((wordsOf 4).drop (3 * 5)).take 3).all (chkP x)) = true := by decide +kernel
theorem ckP4 : rows.all (fun x => chkR x 4) = true := List.all_eq_true.mpr fun x hx => slices 4 3 6 x (by decide) (by decide +kernel) fun j hj => match j, hj with
  | 0, _ => List.all_eq_true.mp ckP4s0 x hx
  | 1, _ => List.all_eq_true.mp ckP4s1 x hx
  | 2, _ => List.all_eq_true.mp ckP4s2 x hx
  | 3, _ => List.all_eq_true.mp ckP4s3 x hx
  | 4, _ => List.all_eq_true.mp ckP4s4 x hx
  | 5, _ => List.all_eq_true.mp ckP4s5 x hx
end J
end

section
namespace J
theorem ckP5s0 : rows.all (fun x => (((wordsOf 5).drop (2 * 0)).take 2).all (chkP x)) = true := by decide +kernel
theorem ckP5s1 : rows.all (fun x => (((wordsOf 5).drop (2 * 1)).take 2).all (chkP x)) = true := by decide +kernel
theorem ckP5s2 : rows.all (fun x => (((wordsOf 5).drop (2 * 2)).take 2).all (chkP x)) = true := by decide +kernel
theorem ckP5s3 : rows.all (fun x => (((wordsOf 5).drop (2 * 3)).take 2).all (chkP x)) = true := by decide +kernel
end J
end

section
namespace J
theorem ckP5s4 : rows.all (fun x => (((wordsOf 5).drop (2 * 4)).take 2).all (chkP x)) = true := by decide +kernel
theorem ckP5s5 : rows.all (fun x => (((wordsOf 5).drop (2 * 5)).take 2).all (chkP x)) = true := by decide +kernel
theorem ckP5s6 : rows.all (fun x => (((wordsOf 5).drop (2 * 6)).take 2).all (chkP x)) = true := by decide +kernel
theorem ckP5s7 : rows.all (fun x => (((wordsOf 5).drop (2 * 7)).take 2).all (chkP x)) = true := by decide +kernel
end J
end

section
namespace J
theorem ckP5s8 : rows.all (fun x => (((wordsOf 5).drop (2 * 8)).take 2).all (chkP x)) = true := by decide +kernel
theorem ckP5s9 : rows.all (fun x => (((wordsOf 5).drop (2 * 9)).take 2).all (chkP x)) = true := by decide +kernel
theorem ckP5s10 : rows.all (fun x => (((wordsOf 5).drop (2 * 10)).take 2).all (chkP x)) = true := by decide +kernel
theorem ckP5s11 : rows.all (fun x => (((wordsOf 5).drop (2 * 11)).take 2).all (chkP x)) = true := by decide +kernel
end J
end

section
namespace J
theorem ckP5s12 : rows.all (fun x => (((wordsOf 5).drop (2 * 12)).take 2).all (chkP x)) = true := by decide +kernel
theorem ckP5s13 : rows.all (fun x => (((wordsOf 5).drop (2 * 13)).take 2).all (chkP x)) = true := by decide +kernel
theorem ckP5s14 : rows.all (fun x => (((wordsOf 5).drop (2 * 14)).take 2).all (chkP x)) = true := by decide +kernel
theorem ckP5s15 : rows.all (fun x => (((wordsOf 5).drop (2 * 15)).take 2).all (chkP x)) = true := by decide +kernel
end J
end

section
/-! What the tables tell of the dues -/
namespace J
theorem enc_hit {x : Wd × Nat × List (List Nat)} (c0 : (List.range 10).all chk0 = true) (hx : x ∈ rows) {w : Wd} (hw : AB' w) (hl : w.length ≤ 9) : okp (bit x.2.1 (enc w)) (partsM w x.1) = true := by
  have q := List.all_eq_true.mp c0 w.length (List.mem_range.mpr (by omega))
  unfold chk0 at q
  have q2 := List.all_eq_true.mp q x hx
  exact List.all_eq_true.mp q2 w (mem_words w hw)
theorem okp_bit {b : Bool} {l : List (List Nat)} (h : okp b l = true) : b = !l.isEmpty := by
  cases l with
  | nil => cases b with
    | false => rfl
    | true => cases h
  | cons x l =>
    have h : (b && Nat.ble (l.length + 1) 63) = true := h
    rw [Bool.and_eq_true] at h
    rw [h.1] <;> rfl
theorem okp_len {b : Bool} {l : List (List Nat)} (h : okp b l = true) : l.length < 64 := by
  cases l with
  | nil => show 0 < 64; decide
  | cons x l =>
    have h : (b && Nat.ble (l.length + 1) 63) = true := h
    rw [Bool.and_eq_true] at h
    have := Nat.le_of_ble_eq_true h.2
    rw [List.length_cons]
    omega
theorem goals_rows : goals.all (fun g => rows.any fun x => decide (x.1 = g)) = true := by decide +kernel
theorem goal_row {g : Wd} (h : g ∈ goals) : ∃ x ∈ rows, x.1 = g := by
  obtain ⟨x, hx, e⟩ := List.any_eq_true.mp (List.all_eq_true.mp goals_rows g h)
  exact ⟨x, hx, of_decide_eq_true e⟩
theorem parts_few (c0 : (List.range 10).all chk0 = true) {g w : Wd} (hg : g ∈ goals) (hw : AB' w) (hl : w.length ≤ 9) : (partsM w g).length < 64 := by
  obtain ⟨x, hx, rfl⟩ := goal_row hg
  exact okp_len (enc_hit c0 hx hw hl)
theorem lvl_get {m e : Nat} : ∀ (rs : List Nat) (k j : Nat) (r0 r1 : Nat), lvl m e rs k = true → j < k → rs[j]? = some r0 → rs[j + 1]? = some r1 → bit r1 e = meets m r0
  | [], k, j, r0, r1, _, _, h, _ => by cases h
  | a :: rs, 0, j, r0, r1, _, h, _, _ => by omega
  | [a], k + 1, j, r0, r1, _, _, h0, h1 => by cases j <;> cases h1
  | a :: b :: rs, k + 1, 0, r0, r1, h, _, h0, h1 => by
    have h : ((bit b e == meets m a) && lvl m e (b :: rs) k) = true := h
    rw [Bool.and_eq_true] at h
    cases h0
    cases h1
    exact eq_of_beq h.1
  | a :: b :: rs, k + 1, j + 1, r0, r1, h, hj, h0, h1 => by
    have h : ((bit b e == meets m a) && lvl m e (b :: rs) k) = true := h
    rw [Bool.and_eq_true] at h
    exact lvl_get (b :: rs) k j r0 r1 h.2 (by omega) h0 h1
theorem abL_ab : AB' abL := fun c h => by
  have : c = 97 ∨ c = 98 := by simpa [abL] using h
  exact this
theorem hit_bit {x : Wd × Nat × List (List Nat)} {y : Way} {j : Nat} (c0 : (List.range 10).all chk0 = true) (c1 : (List.range 9).all (chkN y (tab j)) = true) (hx : x ∈ rows) : ∀ (k : Nat) (r : Nat) (w : Wd), k ≤ 4 → (x.2.1 :: x.2.2.getD j [])[k]? = some r →
    AB' w → w.length + k ≤ 9 → hitK abL y x.1 k w = bit r (enc w)
  | 0, r, w, _, hr, hw, hl => by
    cases hr
    exact (okp_bit (enc_hit c0 hx hw hl)).symm
  | k + 1, r, w, hk, hr, hw, hl => by
    have hlen : k + 1 < (x.2.1 :: x.2.2.getD j []).length := (List.getElem?_eq_some_iff.mp hr).1
    obtain ⟨r0, h0⟩ : ∃ r0, (x.2.1 :: x.2.2.getD j [])[k]? = some r0 := ⟨_, List.getElem?_eq_getElem (by omega)⟩
    have q := List.all_eq_true.mp c1 w.length (List.mem_range.mpr (by omega))
    have q2 := List.all_eq_true.mp q w (mem_words w hw)
    have q3 := List.all_eq_true.mp q2 (x.2.1 :: x.2.2.getD j []) (List.mem_map.mpr ⟨x, hx, rfl⟩)
    have q4 := lvl_get _ _ k r0 r q3 (by omega) h0 hr
    rw [q4, meets_any]
    show (mendW abL y w).any (hitK abL y x.1 k) = _
    have e : ∀ v ∈ mendW abL y w, hitK abL y x.1 k v = bit r0 (enc v) := fun v hv => by
      obtain ⟨a, b, _⟩ := mend_of abL_ab hw hv
      exact hit_bit c0 c1 hx k r0 v (by omega) h0 a (by omega)
    rw [Bool.eq_iff_iff, List.any_eq_true, List.any_eq_true]
    constructor
    · rintro ⟨v, hv, h⟩
      exact ⟨v, hv, by rw [← e v hv]; exact h⟩
    · rintro ⟨v, hv, h⟩
      exact ⟨v, hv, by rw [e v hv]; exact h⟩
end J
end

section
/-! The plain law -/
namespace J
theorem dueT_first {e a b c d r0 : Nat} {p : Nat → Bool} (h0 : p 0 = bit r0 e) (h1 : p 1 = bit a e) (h2 : p 2 = bit b e) (h3 : p 3 = bit c e) (h4 : p 4 = bit d e) : firstK p = dueT e [r0, a, b, c, d] 0 := by
  unfold firstK
  rw [h0, h1, h2, h3, h4]
  show _ = cond (bit r0 e) (some 0) (cond (bit a e) (some 1) (cond (bit b e) (some 2) (cond (bit c e) (some 3) (cond (bit d e) (some 4) none))))
  cases bit r0 e <;> cases bit a e <;> cases bit b e <;> cases bit c e <;> cases bit d e <;> rfl
def four {α : Type} : List α → Bool
  | [_, _, _, _] => true
  | _ => false
theorem four_of {α : Type} : ∀ {l : List α}, four l = true → ∃ a b c d, l = [a, b, c, d]
  | [a, b, c, d], _ => ⟨a, b, c, d, rfl⟩
theorem rows_four : rows.all (fun x => four x.2.2 && x.2.2.all four) = true := by decide +kernel
theorem due_row {x : Wd × Nat × List (List Nat)} {y : Way} {j : Nat} {rs : List Nat} (c1 : (List.range 9).all (chkN y (tab j)) = true) (hx : x ∈ rows) (hj : x.2.2.getD j [] = rs) (h4 : four rs = true) {f : Wd} (hf : AB' f) (h5 : f.length ≤ 5) :
    dueM abL y f x.1 = dueT (enc f) (x.2.1 :: rs) 0 := by
  obtain ⟨a, b, c, d, e⟩ := four_of h4
  subst e
  rw [due_first abL_ab hf h5]
  have q := fun k r hk hr => hit_bit (w := f) ck0 c1 hx k r hk (by rw [hj]; exact hr) hf (by omega)
  exact dueT_first (q 0 _ (by decide) rfl) (q 1 _ (by decide) rfl) (q 2 _ (by decide) rfl) (q 3 _ (by decide) rfl) (q 4 _ (by decide) rfl)
theorem letters_two {w : Wd} {a b : Nat} (h : lettersM w = [a, b]) : lettersM w = abL := by
  rw [h]
  unfold lettersM at h
  have s := (List.filter_sublist (p := fun c => decide (c ∈ w)) (l := [97, 98])).eq_of_length (by rw [h] <;> rfl)
  rw [s] at h
  exact h.symm
theorem dues_row {x : Wd × Nat × List (List Nat)} (hx : x ∈ rows) {f : Wd} (hf : AB' f) (h5 : f.length ≤ 5) (hl : lettersM (f ++ x.1) = abL) : duesM f x.1 = duesT (enc f) x.2.1 x.2.2 := by
  have q := List.all_eq_true.mp rows_four x hx
  rw [Bool.and_eq_true] at q
  obtain ⟨a, b, c, d, e⟩ := four_of q.1
  have q2 := List.all_eq_true.mp q.2
  rw [e] at q2
  unfold duesM duesT ways
  rw [hl, e]
  show [dueM abL _ f x.1, dueM abL _ f x.1, dueM abL _ f x.1, dueM abL _ f x.1] = [_, _, _, _]
  rw [due_row (j := 0) ckIn hx (by rw [e] <;> rfl) (q2 a (by simp)) hf h5, due_row (j := 1) ckOut hx (by rw [e] <;> rfl) (q2 b (by simp)) hf h5, due_row (j := 2) ckChg hx (by rw [e] <;> rfl) (q2 c (by simp)) hf h5, due_row (j := 3) ckAll hx (by rw [e] <;> rfl) (q2 d (by simp)) hf h5]
theorem ckP5 : rows.all (fun x => chkR x 5) = true := List.all_eq_true.mpr fun x hx => slices 5 2 16 x (by decide) (by decide +kernel) fun j hj => match j, hj with
  | 0, _ => List.all_eq_true.mp ckP5s0 x hx
  | 1, _ => List.all_eq_true.mp ckP5s1 x hx
  | 2, _ => List.all_eq_true.mp ckP5s2 x hx
  | 3, _ => List.all_eq_true.mp ckP5s3 x hx
  | 4, _ => List.all_eq_true.mp ckP5s4 x hx
  | 5, _ => List.all_eq_true.mp ckP5s5 x hx
  | 6, _ => List.all_eq_true.mp ckP5s6 x hx
  | 7, _ => List.all_eq_true.mp ckP5s7 x hx
  | 8, _ => List.all_eq_true.mp ckP5s8 x hx
  | 9, _ => List.all_eq_true.mp ckP5s9 x hx
  | 10, _ => List.all_eq_true.mp ckP5s10 x hx
  | 11, _ => List.all_eq_true.mp ckP5s11 x hx
  | 12, _ => List.all_eq_true.mp ckP5s12 x hx
  | 13, _ => List.all_eq_true.mp ckP5s13 x hx
  | 14, _ => List.all_eq_true.mp ckP5s14 x hx
  | 15, _ => List.all_eq_true.mp ckP5s15 x hx
  | j + 16, h => absurd h (by omega)
theorem plain_law {f g : Wd} (hf : AB' f) (hg : AB' g) (f1 : 1 ≤ f.length) (f5 : f.length ≤ 5) (g1 : 1 ≤ g.length) (g3 : g.length ≤ 3) :
    allOk (duesM f g) (toldM f g) = true ∧ minOk (walkN f g 1 1 1) (toldM f g) = true ∧ moreM f g = moreL f g ∧ lessM f g = lessL f g ∧ ∀ w : Wd, AB' w → w.length ≤ 9 → (partsM w g).length < 64 := by
  have gm : g ∈ goals := by
    unfold goals
    exact List.mem_flatMap.mpr ⟨g.length, List.mem_range'_1.mpr (by omega), mem_words g hg⟩
  obtain ⟨x, hx, e⟩ := goal_row gm
  have cp : chkP x f = true := by
    have fw := mem_words f hf
    have five : f.length = 1 ∨ f.length = 2 ∨ f.length = 3 ∨ f.length = 4 ∨ f.length = 5 := by omega
    rcases five with e | e | e | e | e <;> rw [e] at fw
    · exact List.all_eq_true.mp (List.all_eq_true.mp ckP1 x hx) f fw
    · exact List.all_eq_true.mp (List.all_eq_true.mp ckP2 x hx) f fw
    · exact List.all_eq_true.mp (List.all_eq_true.mp ckP3 x hx) f fw
    · exact List.all_eq_true.mp (List.all_eq_true.mp ckP4 x hx) f fw
    · exact List.all_eq_true.mp (List.all_eq_true.mp ckP5 x hx) f fw
  unfold chkP toldOk at cp
  rw [Bool.and_eq_true, Bool.and_eq_true, Bool.and_eq_true, decide_eq_true_eq, decide_eq_true_eq] at cp
  obtain ⟨⟨c1, c2⟩, c3, c4⟩ := cp
  subst e
  refine ⟨?_, c2, c3, c4, fun w hw hl => parts_few ck0 gm hw hl⟩
  split at c1
  · next a b h => rw [dues_row hx hf f5 (letters_two h)]; exact c1
  · exact c1
end J
end

section
/-! law, from the script to the films, the goal and the letters -/
namespace J
open PySem PySem.Spec PyProof.Rows L2
/-! ### a statement told by what holds ahead of it and behind it -/
abbrev StP := L2.St → Hp → Prop
def Seg (X : Cx) (st : Stmt) (A B : StP) : Prop := ∃ t : L2.TS, PS X st t ∧ ∀ (D : Ends) (σ : L2.St) (H : Hp), A σ H → (∀ σ' H', B σ' H' → D.nx σ' H') → t D σ H
def SegR (X : Cx) (sts : List Stmt) (A : StP) (v : V) : Prop := ∃ t : L2.TS, PSs X sts t ∧ ∀ (D : Ends) (σ : L2.St) (H : Hp), A σ H → (∀ H', D.rt v H') → t D σ H
theorem SegR.cons {X : Cx} {st : Stmt} {sts : List Stmt} {A B : StP} {v : V} (h : Seg X st A B) (k : SegR X sts B v) : SegR X (st :: sts) A v := by
  obtain ⟨t, p, h⟩ := h
  obtain ⟨u, q, k⟩ := k
  exact ⟨_, pss_cons p q, fun D σ H a r => h { D with nx := u D } σ H a fun σ' H' b => k D σ' H' b r⟩
abbrev nLaw : List Str := ["_law_script", "_law_row", "_law_film_here", "_law_goal", "_law_letters", "_law_dues", "_law_way", "_law_words", "_law_steps", "_law_due", "_law_turn", "_law_told", "_law_at", "_law_more", "_law_place", "_law_letter", "_law_less", "_law_word", "_law_one"]
theorem scLaw : FnScope nLaw ["_law_script"] (defScope sLaw) := ⟨rfl, rfl, rfl, by decide +kernel, rfl, by decide +kernel, by decide +kernel⟩
def ln (j : Nat) : Stmt := (defBody sLaw).getD j (.Pass ⟨0, 0, 0, 0⟩)
/-- film, goal, letters and dues stand; the heap tells letters and dues -/
def StA (f g : Wd) (ds : List (Option Nat)) : StP := fun σ H => ∃ (lt du : Addr) (x0 x1 x6 x7 x8 x9 x10 x11 x12 x13 x14 x15 x16 x17 x18 : Option V),
  σ = [x0, x1, some (.str (sS f)), some (.str (sS g)), some (.ref lt), some (.ref du), x6, x7, x8, x9, x10, x11, x12, x13, x14, x15, x16, x17, x18] ∧ lt ≠ du ∧ H lt = some (.lst ((lettersM (f ++ g)).map cV)) ∧ H du = some (.lst (ds.map tV))
def Ok2 (f g : Wd) : Prop := AB f ∧ AB g ∧ 1 ≤ f.length ∧ f.length ≤ 5 ∧ 1 ≤ g.length ∧ g.length ≤ 3
section
variable {P : Program} {w : World} {K : PySem.W.Frag} {mg : Str → Option Value} {base : Heap} {f : Addr} {cdv : Value} {A : Around} {outer : List Env} {s : Shared} {H0 : Hp} {E : XK}
abbrev XL (P : Program) (w : World) (K : PySem.W.Frag) (mg : Str → Option Value) (base : Heap) (f : Addr) (cdv : Value) (A : Around) (outer : List Env) (s : Shared) (H0 : Hp) (E : XK) : Cx := (cxOf CX0 P w K mg base nLaw "law" (defScope sLaw) f cdv A outer s H0 E).nox
abbrev Rm (f : Addr) (cdv : Value) (A : Around) (s : Shared) : Prop := Room 11 (A.deeper (envOfC "law" (defScope sLaw) s.heap.objs.size f cdv))
/-- the script stands alone -/
def StS (K : PySem.W.Frag) (ns : List Int) : StP := fun σ H => ∃ a : Addr, σ = L2.start nLaw [.ref a] ∧ SqL K H a (ns.map V.int)
def StR (K : PySem.W.Frag) (ns : List Int) : StP := fun σ H => ∃ (a r : Addr), σ = [some (.ref a), some (.ref r), none, none, none, none, none, none, none, none, none, none, none, none, none, none, none, none, none] ∧ RowAt K H r ns
def StF0 : StP := fun σ H => ∃ (f g : Wd) (a r : Addr), Ok2 f g ∧ σ = [some (.ref a), some (.ref r), some (.str (sS f)), some (.str (sS g)), none, none, none, none, none, none, none, none, none, none, none, none, none, none, none]
def StL0 : StP := fun σ H => ∃ (f g : Wd) (a r lt : Addr), Ok2 f g ∧ σ = [some (.ref a), some (.ref r), some (.str (sS f)), some (.str (sS g)), some (.ref lt), none, none, none, none, none, none, none, none, none, none, none, none, none, none] ∧ H lt = some (.lst ((lettersM (f ++ g)).map cV))
def StA0 : StP := fun σ H => ∃ (f g : Wd), Ok2 f g ∧ StA f g [] σ H
theorem seg0 {ns : List Int} : Seg (XL P w K mg base f cdv A outer s H0 E) (ln 0) (StS K ns) (StR K ns) := by
  refine ⟨_, ps_set (i := 1) scLaw.nd rfl (.inl rfl) (pe_lst (pa_cons (pv 0) (pa_cons pe_int (pa_cons pe_int (pa_cons pe_int pa_nil))))), fun D σ H h q => ?_⟩
  obtain ⟨a, rfl, ha⟩ := h
  refine ⟨.ref a, rfl, by show 4 ≤ sizeLine; decide, fun r nr => q _ _ ⟨a, r, rfl, a, 0, 5021, 0, upd_same, sql_same ha (same_new nr), by decide, by decide⟩⟩
theorem seg1 {ns : List Int} (hns : ns.length ≤ 63) (hr : Rm f cdv A s) (OF : OkD P w K mg base 2 "_law_film" ["_law_row", "_law_most", "_law_many"] (spFilm K)) : Seg (XL P w K mg base f cdv A outer s H0 E) (ln 1) (StR K ns) StF0 := by
  refine ⟨_, ps_asg (pe_tup (pa_cons (pe_callO OF (hr.mono (by decide)) (by rfl) (pa_cons (pv 1) (pa_cons pe_int (pa_cons pe_int pa_nil)))) (pa_cons (pe_callO OF (hr.mono (by decide)) (by rfl) (pa_cons (pv 1) (pa_cons pe_int (pa_cons pe_int pa_nil)))) pa_nil)))
    (pg_tup rfl (pgs_cons (pg_name (i := 2) scLaw.nd rfl (.inl rfl)) (pgs_cons (pg_name (i := 3) scLaw.nd rfl (.inr rfl)) pgs_nil))), fun D σ H h q => ?_⟩
  obtain ⟨a, r, rfl, hrow⟩ := h
  refine ⟨.ref r, rfl, r, 5, ns, rfl, hrow, hns, by decide, by decide, fun H1 f b1 r1 f1 f2 f3 => ⟨.ref r, rfl, r, 3, ns, rfl, r1, hns, by decide, by decide, fun H2 g b2 r2 g1 g2 g3 => ⟨by show 2 ≤ sizeLine; decide, fun t nt => ?_⟩⟩⟩
  exact ⟨t, _, rfl, tup_in upd_same, rfl, _, _, rfl, _, _, rfl, rfl, q _ _ ⟨f, g, a, r, ⟨f1, g1, f2, f3, g2, g3⟩, rfl⟩⟩
theorem seg2 (T : Tx mg) : Seg (XL P w K mg base f cdv A outer s H0 E) (ln 2) StF0 StL0 := by
  refine ⟨_, ps_set (i := 4) scLaw.nd rfl (.inl rfl) (pe_callB (cr_sortedX rfl) (by rfl) T.sorted (by decide +kernel) (pa_cons (pe_callTy (cr_setS rfl) (by rfl) T.set (by decide +kernel) (pa_cons (pe_op op_add_str (pv 2) (pv 3)) pa_nil)) pa_nil)), fun D σ H h q => ?_⟩
  obtain ⟨f, g, a, r, ok, rfl⟩ := h
  obtain ⟨f1, g1, f2, f3, g2, g3⟩ := id ok
  refine ⟨.str (sS f), rfl, .str (sS g), rfl, _, _, rfl, rfl, by rw [sS_len, sS_len]; exact small_size (by omega), ?_⟩
  rw [sS_cat]
  have hab : AB (f ++ g) := fun c h => by
    rcases List.mem_append.mp h with z | z
    · exact f1 c z
    · exact g1 c z
  refine ⟨sS (f ++ g), rfl, ascii_ab hab, by show (f ++ g).length < 1000; rw [List.length_append]; omega, fun p l np nd hl => ⟨p, l, rfl, upd_same, set_few hab nd hl, fun ys p2 hp hs np2 => ?_⟩⟩
  have e := letters_sorted hab nd hl hp hs
  subst e
  rw [letters_V]
  exact q _ _ ⟨f, g, a, r, p2, ok, rfl, upd_same⟩
theorem seg3 : Seg (XL P w K mg base f cdv A outer s H0 E) (ln 3) StL0 StA0 := by
  refine ⟨_, ps_set (i := 5) scLaw.nd rfl (.inl rfl) (pe_lst pa_nil), fun D σ H h q => ?_⟩
  obtain ⟨f, g, a, r, lt, ok, rfl, hlt⟩ := h
  refine ⟨Nat.zero_le _, fun du nd => q _ _ ⟨f, g, ok, lt, du, _, _, _, _, _, _, _, _, _, _, _, _, _, _, _, rfl, ?_, ?_, upd_same⟩⟩
  · exact ne_of_none hlt nd
  · rw [upd_ne (ne_of_none hlt nd)]
    exact hlt
end
end J
end

section
/-! law, the dues -/
namespace J
open PySem PySem.Spec PyProof.Rows L2
theorem lcG {α : Type} {e : α → V} {J : It} {G : Hp → Prop} {Y : Nat → Hp → V → Hp → Prop} {l : List α} (w : Walk J l.length G Y) (hY : ∀ i x H H', Y i H x H' → H' = H ∧ ∀ n, l[i]? = some n → x = e n)
    {tt : TT} {te : TE} {vs : List Nat} {σ : L2.St} {H1 : Hp} {D : Addr} {Qd : Hp → Prop} {j : Nat} (p : α → Bool) (v : α → V) (hD : H1 D = none) (hl : l.length ≤ 50000)
    (hG : ∀ H, Same H1 H → G H) (hw : ∀ x, wipe ((wipe σ vs).set j (some x)) vs = wipe σ vs)
    (ht : ∀ n ∈ l, ∀ H, Same H1 H → ∀ R : Bool → Hp → Prop, (∀ H', Same H H' → R (p n) H') → tt ((wipe σ vs).set j (some (e n))) H R)
    (he : ∀ n ∈ l, p n = true → ∀ H, Same H1 H → ∀ R : VK, (∀ H', Same H H' → R (v n) H') → te ((wipe σ vs).set j (some (e n))) H R)
    (q : ∀ H', Same H1 H' → H' D = some (.lst ((l.filter p).map v)) → Qd H') :
    ∃ W : Nat → Nat → Hp → Prop, (∃ m, W 0 m (upd H1 D (.lst []))) ∧ ∀ i m H, W i m H →
      (J.stop i H ∧ Qd H) ∨ (J.go i H ∧ ∃ Nx : Hp → Prop, (∀ H', Nx H' → ∃ m', m' < m ∧ W (i + 1) m' H') ∧ ∀ x H', J.yld i H x H' → gName j x (wipe σ vs) H' fun σ2 H2 => wipe σ2 vs = wipe σ vs ∧ tt σ2 H2 fun b H3 =>
        if b = true then te σ2 H3 fun y H4 => ∃ acc, H4 D = some (.lst acc) ∧ acc.length < sizeLine ∧ Nx (upd H4 D (.lst (acc ++ [y]))) else Nx H3) := by
  refine lc_it w (fun i H => Same H1 H ∧ H D = some (.lst (((l.take i).filter p).map v))) ⟨same_new hD, upd_same⟩ (fun i H _ h => hG H h.1) (fun i x H H' hi hP hy => ?_) fun H h => ?_
  · obtain ⟨rfl, hx⟩ := hY i x H H' hy
    obtain ⟨s, d⟩ := hP
    have hn : l[i]? = some l[i] := List.getElem?_eq_getElem hi
    rw [hx _ hn]
    have hm : l[i] ∈ l := List.getElem_mem hi
    have et : l.take (i + 1) = l.take i ++ [l[i]] := by rw [List.take_add_one, hn] <;> rfl
    refine ⟨hw _, ht _ hm H' s _ fun H2 s2 => ?_⟩
    cases hp : p l[i] with
    | true =>
      refine iteT (he _ hm hp H2 (s.trans s2) _ fun H3 s3 => ⟨_, s3 _ _ (s2 _ _ d), ?_, ?_, ?_⟩)
      · rw [List.length_map]
        refine sz5 ?_
        have q1 := List.length_filter_le p (l.take i)
        have q2 := List.length_take_le i l
        omega
      · intro a o e
        rw [upd_ne (ne_of_none e hD)]
        exact s3 a o (s2 a o (s a o e))
      · rw [et, List.filter_append, List.map_append, List.filter_cons, if_pos hp]
        exact upd_same
    | false =>
      refine iteF ⟨s.trans s2, ?_⟩
      rw [et, List.filter_append, List.map_append, List.filter_cons, if_neg (by rw [hp]; decide)]
      show _ = some (HO.lst (_ ++ []))
      rw [List.append_nil]
      exact s2 _ _ d
  · refine q H h.1 ?_
    have e := h.2
    rw [List.take_length] at e
    exact e
theorem walk_map {α : Type} {e : α → V} {K : PySem.W.Frag} {a : Addr} {l : List α} : Walk (Itl K a) l.length (fun H => SqL K H a (l.map e)) (YAt (l.map e)) := by
  have q := walk_list (K := K) (a := a) (xs := l.map e)
  rw [List.length_map] at q
  exact q
theorem yat_map {α : Type} {e : α → V} {l : List α} : ∀ i x H H', YAt (l.map e) i H x H' → H' = H ∧ ∀ n, l[i]? = some n → x = e n := fun i x H H' y => ⟨y.1, fun n h => by
  have z := y.2
  rw [List.getElem?_map, h] at z
  exact (Option.some.inj z).symm⟩
theorem neD_of {K : PySem.W.Frag} {H : Hp} {Q : VK} {a b : Addr} {xs : List V} (ha : SqL K H a xs) (hb : SqL K H b []) (hf : ∀ x ∈ xs, ∃ d, Dp K H x d ∧ Fl 2 d) (q : Q (.bl (!xs.isEmpty)) H) : rNeD K (.ref a) (.ref b) H Q := by
  classical
  refine ne_empty (f := fun x => if h : ∃ d, Dp K H x d ∧ Fl 2 d then Classical.choose h else .none) ha hb (fun x hx => ?_) q
  have h := hf x hx
  show Dp K H x (dite _ _ _) ∧ Fl 2 (dite _ _ _)
  rw [dif_pos h]
  exact Classical.choose_spec h
theorem tups_data {K : PySem.W.Frag} {H : Hp} {xs : List V} (h : ∀ x ∈ xs, ∃ (t : Addr) (l : List Nat), x = .ref t ∧ H t = some (.tup (l.map nV))) : ∀ x ∈ xs, ∃ d, Dp K H x d ∧ Fl 2 d := fun x hx => by
  obtain ⟨t, l, rfl, ht⟩ := h x hx
  refine ⟨.tuple ((l.map nV).map dV), .tup (tup_in ht) (dp_of (f := dV) _ fun y hy => (dp_nats (K := K) (H := H) (l := l) y hy).1), (Fl.tup (k := 0) fun d hd => ?_).mono (by decide)⟩
  obtain ⟨y, hy, rfl⟩ := List.mem_map.mp hd
  obtain ⟨n, _, rfl⟩ := List.mem_map.mp hy
  exact Fl.int _
theorem words_data {K : PySem.W.Frag} {H : Hp} {ws : List Wd} (h : ∀ w ∈ ws, AB' w) : ∀ x ∈ ws.map wV, ∃ d, Dp K H x d ∧ Fl 2 d := fun x hx => by
  obtain ⟨w, hw, rfl⟩ := List.mem_map.mp hx
  refine ⟨.str (sS w), .str _, ?_, by simp [PyData.depth]⟩
  simp only [PyData.canLay0]
  show (sS w).cps.all (· < 0x110000) = true
  rw [Array.all_eq_true']
  intro c hc
  have : c ∈ w := by simpa using hc
  rcases h w hw c this with e | e <;> (rw [e]; decide)
theorem filter_empty {α : Type} (p : α → Bool) : ∀ l : List α, (!(l.filter p).isEmpty) = l.any p
  | [] => rfl
  | a :: l => by
    rw [List.filter_cons, List.any_cons]
    cases h : p a with
    | true => simp
    | false => simp [filter_empty p l]
theorem tV_isN (t : Option Nat) : decide (tV t = V.non) = t.isNone := by
  cases t with
  | none => exact decide_eq_true rfl
  | some n => exact decide_eq_false (fun z => nomatch z)
/-! ### the turns -/
def dst (ls : Wd) (y : Way) (f g : Wd) (t : Nat) : List Wd × Option Nat := (List.range t).foldl (dueStep ls y g) ([f], none)
theorem dst_succ (ls : Wd) (y : Way) (f g : Wd) (t : Nat) : dst ls y f g (t + 1) = dueStep ls y g (dst ls y f g t) t := by
  unfold dst
  rw [List.range_succ, List.foldl_append] <;> rfl
def InvW (f : Wd) (t : Nat) (ws : List Wd) : Prop := (∀ w ∈ ws, AB' w ∧ w.length ≤ f.length + t) ∧ ws.length ≤ 20000
theorem mendM_inv {ls : Wd} {y : Way} {f : Wd} {t : Nat} {ws : List Wd} (hl : AB' ls) (h2 : ls.length ≤ 2) (h9 : f.length + t ≤ 9) (h : InvW f t ws) (h400 : ws.length < 400) : InvW f (t + 1) (mendM ls y ws) := by
  refine ⟨fun v hv => ?_, ?_⟩
  · rcases mem_foldl _ _ hv with z | z
    · cases z
    · obtain ⟨w, hw, hv⟩ := List.mem_flatMap.mp z
      obtain ⟨a, b⟩ := h.1 w hw
      obtain ⟨a', b', _⟩ := mend_of hl a hv
      exact ⟨a', by omega⟩
  · have e1 := keysOf_len (ws.flatMap (mendW ls y))
    have e2 := flatMap_len (k := 50) (h := mendW ls y) ws fun w hw => mendW_len h2 y (by have := (h.1 w hw).2; omega)
    unfold keysOf at e1
    unfold mendM
    omega
theorem dst_inv {ls : Wd} {y : Way} {f g : Wd} (hl : AB' ls) (h2 : ls.length ≤ 2) (hf : AB' f) (h5 : f.length ≤ 5) : ∀ t, t ≤ 5 → InvW f t (dst ls y f g t).1
  | 0, _ => ⟨fun w hw => by rw [List.mem_singleton.mp (show w ∈ [f] from hw)]; exact ⟨hf, Nat.le_refl _⟩, by show 1 ≤ 20000; decide⟩
  | t + 1, h => by
    rw [dst_succ]
    have q := dst_inv (y := y) (g := g) hl h2 hf h5 t (by omega)
    generalize dst ls y f g t = s at q
    have up : InvW f (t + 1) s.1 := ⟨fun w hw => ⟨(q.1 w hw).1, by have := (q.1 w hw).2; omega⟩, q.2⟩
    unfold dueStep
    dsimp only
    generalize (if (s.2.isNone && hitM s.1 g) = true then some t else s.2) = d
    cases d with
    | none =>
      rw [if_pos (show (none : Option Nat).isNone = true from rfl)]
      by_cases h4 : s.1.length < 400
      · rw [if_pos h4]
        exact mendM_inv hl h2 (by omega) q h4
      · rw [if_neg h4]
        exact up
    | some n =>
      rw [if_neg (show ¬ (some n).isNone = true from fun z => (nomatch z))]
      exact up
theorem way_at : ∀ (j : Nat) (x : V), [V.str "in", V.str "out", V.str "changed", V.str "all"][j]? = some x → ∃ (z : Str) (y : Way), x = .str z ∧ ways[j]? = some y ∧ WayS z y
  | 0, x, h => by cases h; exact ⟨_, _, rfl, rfl, by decide +kernel, by decide +kernel, by decide +kernel⟩
  | 1, x, h => by cases h; exact ⟨_, _, rfl, rfl, by decide +kernel, by decide +kernel, by decide +kernel⟩
  | 2, x, h => by cases h; exact ⟨_, _, rfl, rfl, by decide +kernel, by decide +kernel, by decide +kernel⟩
  | 3, x, h => by cases h; exact ⟨_, _, rfl, rfl, by decide +kernel, by decide +kernel, by decide +kernel⟩
  | j + 4, x, h => by cases h
end J
end

section
/-! law, the dues: the walk -/
namespace J
open PySem PySem.Spec PyProof.Rows L2
section
variable {P : Program} {w : World} {K : PySem.W.Frag} {mg : Str → Option Value} {base : Heap} {f : Addr} {cdv : Value} {A : Around} {outer : List Env} {s : Shared} {H0 : Hp} {E : XK}
theorem seg4 (T : Tx mg) (hr : Rm f cdv A s) (OP : OkD P w K mg base 1 "_law_partings" ["_law_film_here", "_law_goal"] spParts) (OM : OkD P w K mg base 1 "_law_mended" ["_law_words", "_law_letters", "_law_way"] (spMended K))
    (pf : ∀ f g : Wd, Ok2 f g → ∀ w : Wd, AB' w → w.length ≤ 9 → (partsM w g).length < 64) :
    Seg (XL P w K mg base f cdv A outer s H0 E) (ln 4) StA0 (fun σ H => ∃ f g, Ok2 f g ∧ StA f g (duesM f g) σ H) := by
  refine ⟨_, ps_for PassesOwn.never rfl (pi_list (pe_lst (pa_cons pe_str (pa_cons pe_str (pa_cons pe_str (pa_cons pe_str pa_nil)))))) (pg_name (i := 6) scLaw.nd rfl (.inl rfl))
    (pss_cons (ps_par3 (i := 7) (j := 8) (l := 9) rfl scLaw.nd rfl rfl rfl (by decide) (by decide) (by decide) rfl rfl rfl (pa_cons (pe_lst (pa_cons (pv 2) pa_nil)) (pa_cons pe_int (pa_cons pe_non pa_nil))) rfl)
    (pss_cons (ps_for PassesOwn.never rfl (pi_range1 (by rfl) T.range (pa_cons pe_int pa_nil)) (pg_name (i := 10) scLaw.nd rfl (.inl rfl))
      (C8.pss_cut (ps_if (PW.pt (pw_and (pt_cmp (pc_isN (pv 9))) (pw_and1 (pt_cmpR (op_neD hr.units)
          (pe_lc (own := [("_law_word", 17)]) (tt := tTest (tOp (rNeD K) (tCall spParts [] E0 (tCons (tVar 17) (tCons (tVar 3) tNil))) (tLst tNil))) rfl scLaw.nd (pi_list (pv 7)) (blkOk_by (N := nLaw) (sc := defScope sLaw) (by decide +kernel)) (fun _ _ _ _ _ => pg_name (i := 17) scLaw.nd rfl (.inl rfl))
            (fun _ _ _ _ _ => pts_one (pt_cmpR (op_neD hr.units) (pe_callO OP (hr.mono (by decide)) (by rfl) (pa_cons (pv 17) (pa_cons (pv 3) pa_nil))) (pe_lst pa_nil) (nomark _))) (fun _ _ _ _ _ => pv 17)) (pe_lst pa_nil) (nomark _)))))
        (pss_one (ps_set (i := 9) scLaw.nd rfl (.inl rfl) (pv 10))) pss_nil)
      (pss_one (ps_if (pt_cmp (pc_isN (pv 9))) (pss_one (ps_set (i := 7) scLaw.nd rfl (.inl rfl) (pe_ifExp (pt_cmpR op_lt (pe_callB call_len_seq (by rfl) T.len PySem.boot_len (pa_cons (pv 7) pa_nil)) pe_int (nomark _))
        (pe_callO OM (hr.mono (by decide)) (by rfl) (pa_cons (pv 7) (pa_cons (pv 4) (pa_cons (pv 6) pa_nil)))) (pv 7)))) pss_nil))))
    (pss_one (ps_expr (pe_bm PySem.F.plainAttrs_list PySem.F.slot_list_append PySem.F.type_list_append mt_append (pv 5) (pa_cons (pv 9) pa_nil)))))), fun D σ H h q => ?_⟩
  obtain ⟨f, g, ok, lt, du, x0, x1, x6, x7, x8, x9, x10, x11, x12, x13, x14, x15, x16, x17, x18, rfl, nld, hlt, hdu⟩ := h
  obtain ⟨f1, g1, f2, f3, g2, g3⟩ := id ok
  have pf := pf f g ok
  have lab : AB' (lettersM (f ++ g)) := letters_ab _
  have l2 := letters_len (f ++ g)
  generalize hls : lettersM (f ++ g) = ls at hlt lab l2
  have edu : duesM f g = ways.map (fun y => dueM ls y f g) := by
    unfold duesM
    rw [hls]
  refine ⟨by show 4 ≤ sizeLine; decide, fun p np => ⟨p, rfl, ⟨_, lst_in upd_same⟩, ?_⟩⟩
  have npl : p ≠ lt := fun z => by rw [z, hlt] at np; cases np
  have npd : p ≠ du := fun z => by rw [z, hdu] at np; cases np
  refine for_list (xs := [V.str "in", V.str "out", V.str "changed", V.str "all"]) (fun j σ H' => ∃ (x0 x1 x6 x7 x8 x9 x10 x11 x12 x13 x14 x15 x16 x17 x18 : Option V),
      σ = [x0, x1, some (.str (sS f)), some (.str (sS g)), some (.ref lt), some (.ref du), x6, x7, x8, x9, x10, x11, x12, x13, x14, x15, x16, x17, x18] ∧ H' p = some (.lst [V.str "in", V.str "out", V.str "changed", V.str "all"]) ∧
      H' lt = some (.lst (ls.map cV)) ∧ H' du = some (.lst (((ways.take j).map (fun y => dueM ls y f g)).map tV)))
    ⟨x0, x1, x6, x7, x8, x9, x10, x11, x12, x13, x14, x15, x16, x17, x18, rfl, upd_same, by rw [upd_ne (Ne.symm npl)]; exact hlt, by rw [upd_ne (Ne.symm npd)]; exact hdu⟩
    (fun j σ H' _ hP => by obtain ⟨_, _, _, _, _, _, _, _, _, _, _, _, _, _, _, _, h, _⟩ := hP; exact lst_in h) (fun j x σ H1 hx hP => ?_) fun σ H1 hP => ?_
  · obtain ⟨x0, x1, x6, x7, x8, x9, x10, x11, x12, x13, x14, x15, x16, x17, x18, rfl, hp, hlt, hdu⟩ := hP
    obtain ⟨z, y, rfl, hy, wz⟩ := way_at j x hx
    have et : (ways.take (j + 1)).map (fun y => dueM ls y f g) = (ways.take j).map (fun y => dueM ls y f g) ++ [dueM ls y f g] := by
      rw [List.take_add_one, hy, List.map_append] <;> rfl
    rw [et]
    have hdl : ((ways.take j).map (fun y => dueM ls y f g)).length ≤ 4 := by
      rw [List.length_map]
      exact List.length_take_le' j ways
    generalize (ways.take j).map (fun y => dueM ls y f g) = ds at hdu hdl
    refine ⟨.str (sS f), rfl, by show 1 ≤ sizeLine; decide, fun wd nwd => ⟨_, _, _, rfl, 5, rfl, by decide, by decide, ?_⟩⟩
    have nwl : wd ≠ lt := fun z => by rw [z, hlt] at nwd; cases nwd
    have nwu : wd ≠ du := fun z => by rw [z, hdu] at nwd; cases nwd
    have nwp : wd ≠ p := fun z => by rw [z, hp] at nwd; cases nwd
    have ed : dueM ls y f g = (dst ls y f g 5).2 := rfl
    rw [ed]
    refine for_range (lo := 0) (n := 5) (fun t σ H' => ∃ (wd : Addr) (x8 x10 : Option V), σ = [x0, x1, some (.str (sS f)), some (.str (sS g)), some (.ref lt), some (.ref du), some (.str z), some (.ref wd), x8, some (tV (dst ls y f g t).2), x10, x11, x12, x13, x14, x15, x16, x17, x18] ∧
        Same H1 H' ∧ H' wd = some (.lst ((dst ls y f g t).1.map wV)))
      ⟨wd, _, _, rfl, same_new nwd, upd_same⟩ (fun t σ H2 hi hP => ?_) fun σ H2 hP => ?_
    · obtain ⟨wd, x8, x10, rfl, s2, hwd⟩ := hP
      rw [show (0 : Int) + (t : Int) = (t : Int) by omega]
      have inv := dst_inv (y := y) (g := g) lab l2 f1 f3 t (by omega)
      rw [dst_succ]
      generalize dst ls y f g t = sd at hwd inv
      obtain ⟨ws, d⟩ := sd
      obtain ⟨iw, il⟩ := inv
      have iw : ∀ w ∈ ws, AB' w ∧ w.length ≤ f.length + t := iw
      have il : ws.length ≤ 20000 := il
      have hwd : H2 wd = some (.lst (ws.map wV)) := hwd
      refine ⟨fun σ H' => σ = [x0, x1, some (.str (sS f)), some (.str (sS g)), some (.ref lt), some (.ref du), some (.str z), some (.ref wd), x8, some (tV (if (d.isNone && hitM ws g) = true then some t else d)), some (.int (t : Int)), x11, x12, x13, x14, x15, x16, x17, x18] ∧ Same H1 H' ∧ H' wd = some (.lst (ws.map wV)), ?_, fun σ H3 hM => ?_⟩
      · refine ⟨tV d, rfl, _, rfl, ?_⟩
        refine iteB (b := d.isNone) (tV_isN d) (fun hd => ?_) fun hd => ?_
        · refine ⟨.ref wd, rfl, wd, rfl, ⟨_, lst_in hwd⟩, fun D nD => lcG (e := wV) walk_map yat_map (l := ws) (j := 17) (fun w => !(partsM w g).isEmpty) wV nD (by have := il; omega) (fun H' s => lst_in (s _ _ hwd)) (fun _ => rfl) (fun w hw H3 s3 R r => ?_) (fun w hw _ H3 s3 R r => ⟨wV w, rfl, r H3 (Same.refl _)⟩) fun H3 s3 d3 => ?_⟩
          · obtain ⟨wa, wl⟩ := iw w hw
            refine ⟨wV w, rfl, .str (sS g), rfl, w, g, rfl, by omega, g2, g3, pf w wa (by omega), fun H4 a xs s4 na ha hx he => ⟨Nat.zero_le _, fun D2 n2 => neD_of (lst_in ((same_new n2) _ _ ha)) (lst_in upd_same) (tups_data fun x hx' => ?_) ⟨_, rfl, ?_⟩⟩⟩
            · obtain ⟨t, l, e, h⟩ := hx x hx'
              exact ⟨t, l, e, (same_new n2) _ _ h⟩
            · rw [he]
              exact r _ (s4.trans (same_new n2))
          · refine ⟨Nat.zero_le _, fun D2 n2 => neD_of (lst_in ((same_new n2) _ _ d3)) (lst_in upd_same) (words_data fun w hw => (iw w (List.mem_filter.mp hw).1).1) ⟨_, rfl, ?_⟩⟩
            have s5 := s2.trans (s3.trans (same_new n2 (o := .lst [])))
            have w5 := (s3.trans (same_new n2 (o := .lst []))) _ _ hwd
            rw [List.isEmpty_map, filter_empty]
            refine iteB (b := hitM ws g) rfl (fun hh => ?_) fun hh => ?_
            · rw [if_pos (by rw [hd, hh] <;> rfl)]
              exact ⟨.int (t : Int), rfl, rfl, s5, w5⟩
            · rw [if_neg (by rw [hd, hh]; decide)]
              exact ⟨rfl, s5, w5⟩
        · rw [if_neg (by rw [hd, Bool.false_and]; decide)]
          exact iteF ⟨rfl, s2, hwd⟩
      · obtain ⟨rfl, s3, hwd3⟩ := hM
        have e : dueStep ls y g (ws, d) t = (if (if (d.isNone && hitM ws g) = true then some t else d).isNone = true then (if ws.length < 400 then mendM ls y ws else ws) else ws, if (d.isNone && hitM ws g) = true then some t else d) := rfl
        rw [e]
        generalize (if (d.isNone && hitM ws g) = true then some t else d) = d'
        refine ⟨tV d', rfl, _, rfl, ?_⟩
        refine iteB (b := d'.isNone) (tV_isN d') (fun hd => ?_) fun hd => ?_
        · rw [if_pos hd]
          refine ⟨.ref wd, rfl, wd, _, rfl, .inl (lst_in hwd3), _, _, rfl, rfl, _, rfl, ?_⟩
          rw [List.length_map]
          by_cases h4 : ws.length < 400
          · rw [decide_eq_true (show (ws.length : Int) < 400 by omega)]
            rw [if_pos h4]
            refine iteT ⟨.ref wd, rfl, .ref lt, rfl, .str z, rfl, wd, lt, ws, ls, z, y, rfl, lst_in hwd3, lst_in (s3 _ _ hlt), wz, by omega, fun w hw => by have := (iw w hw).2; omega, l2, fun H4 wd' s4 nw hw4 => ?_⟩
            exact ⟨wd', _, _, rfl, s3.trans s4, hw4⟩
          · rw [decide_eq_false (show ¬ (ws.length : Int) < 400 by omega)]
            rw [if_neg h4]
            exact iteF ⟨.ref wd, rfl, wd, _, _, rfl, s3, hwd3⟩
        · rw [if_neg (by rw [hd]; decide)]
          exact ⟨wd, _, _, rfl, s3, hwd3⟩
    · obtain ⟨wd, x8, x10, rfl, s2, hwd⟩ := hP
      have hd2 := s2 _ _ hdu
      refine ⟨.ref du, rfl, .inl ⟨rfl, _, lst_in hd2⟩, tV (dst ls y f g 5).2, rfl, du, _, _, rfl, rfl, hd2, by rw [List.length_map]; exact small1000 (by omega), ?_⟩
      refine ⟨_, _, _, _, _, _, _, _, _, _, _, _, _, _, _, rfl, ?_, ?_, ?_⟩
      · rw [upd_ne npd]; exact s2 _ _ hp
      · rw [upd_ne nld]; exact s2 _ _ hlt
      · rw [List.map_append]; exact upd_same
  · obtain ⟨x0, x1, x6, x7, x8, x9, x10, x11, x12, x13, x14, x15, x16, x17, x18, rfl, hp, hlt, hdu⟩ := hP
    refine q _ _ ⟨f, g, ok, lt, du, x0, x1, x6, x7, x8, x9, x10, x11, x12, x13, x14, x15, x16, x17, x18, rfl, nld, by rw [hls]; exact hlt, ?_⟩
    rw [edu]
    exact hdu
end
end J
end

section
/-! law, what is told -/
namespace J
open PySem PySem.Spec PyProof.Rows L2
/-- dues and told stand -/
def StT (f g : Wd) (ts : List (Option Nat)) : StP := fun σ H => ∃ (du td : Addr) (x0 x1 x4 x6 x7 x8 x9 x10 x12 x13 x14 x15 x16 x17 x18 : Option V),
  σ = [x0, x1, some (.str (sS f)), some (.str (sS g)), x4, some (.ref du), x6, x7, x8, x9, x10, some (.ref td), x12, x13, x14, x15, x16, x17, x18] ∧ du ≠ td ∧ H du = some (.lst ((duesM f g).map tV)) ∧ H td = some (.lst (ts.map tV))
def StD (f g : Wd) : StP := fun σ _ => ∃ (x0 x1 x4 x5 x6 x7 x8 x9 x10 x11 x12 x13 x14 x15 x16 x17 x18 : Option V),
  σ = [x0, x1, some (.str (sS f)), some (.str (sS g)), x4, x5, x6, x7, x8, x9, x10, x11, x12, x13, x14, x15, x16, x17, x18]
theorem allOk_at : ∀ {ds ts : List (Option Nat)} (k : Nat) (d t : Option Nat), allOk ds ts = true → ds[k]? = some d → ts[k]? = some t → dueOk d t = true
  | d :: ds, t :: ts, 0, _, _, h, h1, h2 => by
    cases h1
    cases h2
    have h : (dueOk d t && allOk ds ts) = true := h
    rw [Bool.and_eq_true] at h
    exact h.1
  | d :: ds, t :: ts, k + 1, _, _, h, h1, h2 => by
    have h : (dueOk d t && allOk ds ts) = true := h
    rw [Bool.and_eq_true] at h
    exact allOk_at k _ _ h.2 h1 h2
  | [], _, _, _, _, _, h1, _ => by cases h1
  | _ :: _, [], _, _, _, _, _, h2 => by cases h2
theorem some_ints : ∀ ts : List (Option Nat), (ts.filter Option.isSome).map tV = ((ts.filterMap id).map fun n => ((n : Nat) : Int)).map V.int
  | [] => rfl
  | none :: ts => some_ints ts
  | some n :: ts => congrArg (V.int (n : Int) :: ·) (some_ints ts)
theorem minOk_all {n : Nat} : ∀ {ts : List (Option Nat)}, minOk n ts = true → ∀ m ∈ ts.filterMap id, n ≤ m
  | [], _, m, h => by cases h
  | none :: ts, h, m, hm => minOk_all (ts := ts) h m hm
  | some k :: ts, h, m, hm => by
    have h : (Nat.ble n k && minOk n ts) = true := h
    rw [Bool.and_eq_true] at h
    rcases List.mem_cons.mp (show m ∈ k :: ts.filterMap id from hm) with e | e
    · rw [e]; exact Nat.le_of_ble_eq_true h.1
    · exact minOk_all h.2 m e
theorem scal_tV (t d : Option Nat) : scal (tV t) (tV d) = true := by cases t <;> cases d <;> rfl
theorem dues_len (f g : Wd) : (duesM f g).length = 4 := rfl
section
variable {P : Program} {w : World} {K : PySem.W.Frag} {mg : Str → Option Value} {base : Heap} {f : Addr} {cdv : Value} {A : Around} {outer : List Env} {s : Shared} {H0 : Hp} {E : XK}
theorem seg5 (hr : Rm f cdv A s) (O1 : OkD P w K mg base 4 "fewest_put_in" ["film", "goal"] (spCnt fun f g => tV (fin (walkN f g 1 FARn FARn)))) (O2 : OkD P w K mg base 4 "fewest_left_out" ["film", "goal"] (spCnt fun f g => tV (fin (walkN f g FARn 1 FARn))))
    (O3 : OkD P w K mg base 4 "fewest_changed" ["film", "goal"] (spCnt fun f g => tV (fin (walkN f g FARn FARn 1)))) :
    Seg (XL P w K mg base f cdv A outer s H0 E) (ln 5) (fun σ H => ∃ f g, Ok2 f g ∧ StA f g (duesM f g) σ H) (fun σ H => ∃ f g, Ok2 f g ∧ StT f g [fin (walkN f g 1 FARn FARn), fin (walkN f g FARn 1 FARn), fin (walkN f g FARn FARn 1)] σ H) := by
  refine ⟨_, ps_set (i := 11) scLaw.nd rfl (.inl rfl) (pe_lst (pa_cons (pe_callO O1 (hr.mono (by decide)) (by rfl) (pa_cons (pv 2) (pa_cons (pv 3) pa_nil))) (pa_cons (pe_callO O2 (hr.mono (by decide)) (by rfl) (pa_cons (pv 2) (pa_cons (pv 3) pa_nil))) (pa_cons (pe_callO O3 (hr.mono (by decide)) (by rfl) (pa_cons (pv 2) (pa_cons (pv 3) pa_nil))) pa_nil)))), fun D σ H h q => ?_⟩
  obtain ⟨f, g, ok, lt, du, x0, x1, x6, x7, x8, x9, x10, x11, x12, x13, x14, x15, x16, x17, x18, rfl, nld, hlt, hdu⟩ := h
  obtain ⟨f1, g1, f2, f3, g2, g3⟩ := id ok
  refine ⟨.str (sS f), rfl, .str (sS g), rfl, f, g, rfl, f2, by omega, f1, g2, g3, g1, fun H1 s1 => ⟨.str (sS f), rfl, .str (sS g), rfl, f, g, rfl, f2, by omega, f1, g2, g3, g1, fun H2 s2 => ⟨.str (sS f), rfl, .str (sS g), rfl, f, g, rfl, f2, by omega, f1, g2, g3, g1, fun H3 s3 => ⟨by show 3 ≤ sizeLine; decide, fun td nt => ?_⟩⟩⟩⟩
  have hd3 := s3 _ _ (s2 _ _ (s1 _ _ hdu))
  refine q _ _ ⟨f, g, ok, du, td, _, _, _, _, _, _, _, _, _, _, _, _, _, _, _, rfl, ne_of_none hd3 nt, (same_new nt) _ _ hd3, upd_same⟩
theorem seg6 (hr : Rm f cdv A s) (O4 : OkD P w K mg base 4 "fewest_mends" ["film", "goal"] (spCnt fun f g => tV (some (walkN f g 1 1 1)))) :
    Seg (XL P w K mg base f cdv A outer s H0 E) (ln 6) (fun σ H => ∃ f g, Ok2 f g ∧ StT f g [fin (walkN f g 1 FARn FARn), fin (walkN f g FARn 1 FARn), fin (walkN f g FARn FARn 1)] σ H) (fun σ H => ∃ f g, Ok2 f g ∧ StT f g (toldM f g) σ H) := by
  refine ⟨_, ps_expr (pe_bm PySem.F.plainAttrs_list PySem.F.slot_list_append PySem.F.type_list_append mt_append (pv 11) (pa_cons (pe_callO O4 (hr.mono (by decide)) (by rfl) (pa_cons (pv 2) (pa_cons (pv 3) pa_nil))) pa_nil)), fun D σ H h q => ?_⟩
  obtain ⟨f, g, ok, du, td, x0, x1, x4, x6, x7, x8, x9, x10, x12, x13, x14, x15, x16, x17, x18, rfl, ndt, hdu, htd⟩ := h
  obtain ⟨f1, g1, f2, f3, g2, g3⟩ := id ok
  refine ⟨.ref td, rfl, .inl ⟨rfl, _, lst_in htd⟩, .str (sS f), rfl, .str (sS g), rfl, f, g, rfl, f2, by omega, f1, g2, g3, g1, fun H1 s1 => ⟨td, _, _, rfl, rfl, s1 _ _ htd, small1000 (by show 3 ≤ 1000; decide), ?_⟩⟩
  exact q _ _ ⟨f, g, ok, du, td, _, _, _, _, _, _, _, _, _, _, _, _, _, _, _, rfl, ndt, by rw [upd_ne ndt]; exact s1 _ _ hdu, upd_same⟩
theorem seg7 (T : Tx mg) (pl : ∀ f g : Wd, Ok2 f g → allOk (duesM f g) (toldM f g) = true) :
    Seg (XL P w K mg base f cdv A outer s H0 E) (ln 7) (fun σ H => ∃ f g, Ok2 f g ∧ StT f g (toldM f g) σ H) (fun σ H => ∃ f g, Ok2 f g ∧ StT f g (toldM f g) σ H) := by
  refine ⟨_, ps_for PassesOwn.never rfl (pi_range1 (by rfl) T.range (pa_cons pe_int pa_nil)) (pg_name (i := 12) scLaw.nd rfl (.inl rfl))
    (pss_cons (ps_if (PW.pt (pw_and (pt_cmp (pc_notN (pe_ix ix_list (pv 5) (pv 12) (fun _ _ => rfl)))) (pw_and1 (pt_cmpR op_ne (pe_ix ix_list (pv 11) (pv 12) (fun _ _ => rfl)) (pe_ix ix_list (pv 5) (pv 12) (fun _ _ => rfl)) (nomark _))))) (pss_one (ps_ret pe_bl)) pss_nil)
    (pss_one (ps_if (PW.pt (pw_and (pt_cmp (pc_isN (pe_ix ix_list (pv 5) (pv 12) (fun _ _ => rfl)))) (pw_and (pt_cmp (pc_notN (pe_ix ix_list (pv 11) (pv 12) (fun _ _ => rfl)))) (pw_and1 (pt_cmpR op_lt (pe_ix ix_list (pv 11) (pv 12) (fun _ _ => rfl)) pe_int (nomark _)))))) (pss_one (ps_ret pe_bl)) pss_nil))), fun D σ H h q => ?_⟩
  obtain ⟨f, g, ok, du, td, x0, x1, x4, x6, x7, x8, x9, x10, x12, x13, x14, x15, x16, x17, x18, rfl, ndt, hdu, htd⟩ := h
  have pl := pl f g ok
  have q := fun σ' H' h => q σ' H' ⟨f, g, ok, h⟩
  have dl : (duesM f g).length = 4 := rfl
  have tl : (toldM f g).length = 4 := rfl
  unfold StT at q
  generalize duesM f g = ds at hdu pl dl q
  generalize toldM f g = ts at htd pl tl q
  refine ⟨4, rfl, by decide, by decide, ?_⟩
  refine for_range (lo := 0) (n := 4) (fun i σ H' => ∃ (x12 : Option V), σ = [x0, x1, some (.str (sS f)), some (.str (sS g)), x4, some (.ref du), x6, x7, x8, x9, x10, some (.ref td), x12, x13, x14, x15, x16, x17, x18] ∧ H' du = some (.lst (ds.map tV)) ∧ H' td = some (.lst (ts.map tV)))
    ⟨x12, rfl, hdu, htd⟩ (fun i σ H2 hi hP => ?_) fun σ H2 hP => ?_
  · obtain ⟨x12, rfl, hdu, htd⟩ := hP
    rw [show (0 : Int) + (i : Int) = (i : Int) by omega]
    have hd : ds[i]? = some ds[i] := List.getElem?_eq_getElem (by omega)
    have ht : ts[i]? = some ts[i] := List.getElem?_eq_getElem (by omega)
    have hq := allOk_at i _ _ pl hd ht
    generalize ds[i] = d at hd hq
    generalize ts[i] = t at ht hq
    have vd : (ds.map tV)[i]? = some (tV d) := by rw [List.getElem?_map, hd] <;> rfl
    have vt : (ts.map tV)[i]? = some (tV t) := by rw [List.getElem?_map, ht] <;> rfl
    have next : ∃ (y12 : Option V), [x0, x1, some (V.str (sS f)), some (V.str (sS g)), x4, some (V.ref du), x6, x7, x8, x9, x10, some (V.ref td), some (V.int (i : Int)), x13, x14, x15, x16, x17, x18] = [x0, x1, some (.str (sS f)), some (.str (sS g)), x4, some (.ref du), x6, x7, x8, x9, x10, some (.ref td), y12, x13, x14, x15, x16, x17, x18] ∧ H2 du = some (.lst (ds.map tV)) ∧ H2 td = some (.lst (ts.map tV)) := ⟨_, rfl, hdu, htd⟩
    refine ⟨.ref du, rfl, .int (i : Int), rfl, du, _, (i : Int), tV d, rfl, rfl, lst_in hdu, atI_nat vd, _, rfl, ?_⟩
    refine iteB (b := d.isSome) (tV_non d) (fun hd1 => ?_) fun hd1 => ?_
    · obtain ⟨m, rfl⟩ := Option.isSome_iff_exists.mp hd1
      have e : t = some m := of_decide_eq_true hq
      subst e
      refine ⟨.ref td, rfl, .int (i : Int), rfl, td, _, (i : Int), tV (some m), rfl, rfl, lst_in htd, atI_nat vt, .ref du, rfl, .int (i : Int), rfl, du, _, (i : Int), tV (some m), rfl, rfl, lst_in hdu, atI_nat vd, scal_tV _ _, _, rfl, ?_⟩
      refine iteB (b := false) (by rw [decide_eq_true rfl] <;> rfl) (fun z => (nomatch z)) fun _ => ?_
      refine ⟨.ref du, rfl, .int (i : Int), rfl, du, _, (i : Int), tV (some m), rfl, rfl, lst_in hdu, atI_nat vd, _, rfl, ?_⟩
      exact iteB (b := false) (tV_isN (some m)) (fun z => (nomatch z)) fun _ => iteF next
    · have e : d = none := by cases d with
        | none => rfl
        | some n => cases hd1
      subst e
      refine iteF ⟨.ref du, rfl, .int (i : Int), rfl, du, _, (i : Int), tV none, rfl, rfl, lst_in hdu, atI_nat vd, _, rfl, ?_⟩
      refine iteB (b := true) (tV_isN none) (fun _ => ?_) fun z => (nomatch z)
      refine ⟨.ref td, rfl, .int (i : Int), rfl, td, _, (i : Int), tV t, rfl, rfl, lst_in htd, atI_nat vt, _, rfl, ?_⟩
      refine iteB (b := t.isSome) (tV_non t) (fun ht1 => ?_) fun _ => iteF next
      obtain ⟨n, rfl⟩ := Option.isSome_iff_exists.mp ht1
      have e : 2 ≤ n := of_decide_eq_true hq
      refine ⟨.ref td, rfl, .int (i : Int), rfl, td, _, (i : Int), tV (some n), rfl, rfl, lst_in htd, atI_nat vt, _, _, rfl, rfl, _, rfl, ?_⟩
      rw [decide_eq_false (show ¬ (n : Int) < 2 by omega)]
      exact iteF next
  · obtain ⟨x12, rfl, hdu, htd⟩ := hP
    exact q _ _ ⟨du, td, x0, x1, x4, x6, x7, x8, x9, x10, x12, x13, x14, x15, x16, x17, x18, rfl, ndt, hdu, htd⟩
theorem seg8 (T : Tx mg) (pl : ∀ f g : Wd, Ok2 f g → minOk (walkN f g 1 1 1) (toldM f g) = true) :
    Seg (XL P w K mg base f cdv A outer s H0 E) (ln 8) (fun σ H => ∃ f g, Ok2 f g ∧ StT f g (toldM f g) σ H) (fun σ H => ∃ f g, Ok2 f g ∧ StD f g σ H) := by
  refine ⟨_, ps_if (pt_cmpR op_gt (pe_ix ix_list (pv 11) pe_int (fun _ _ => rfl)) (pe_callB (cr_min rfl) (by rfl) T.min (by decide +kernel) (pa_cons
      (pe_lc (own := [("_law_one", 18)]) rfl scLaw.nd (pi_list (pv 11)) (blkOk_by (N := nLaw) (sc := defScope sLaw) (by decide +kernel)) (fun _ _ _ _ _ => pg_name (i := 18) scLaw.nd rfl (.inl rfl))
        (fun _ _ _ _ _ => pts_one (pt_cmp (pc_notN (pv 18)))) (fun _ _ _ _ _ => pv 18)) pa_nil)) (nomark _)) (pss_one (ps_ret pe_bl)) pss_nil, fun D σ H h q => ?_⟩
  obtain ⟨f, g, ok, du, td, x0, x1, x4, x6, x7, x8, x9, x10, x12, x13, x14, x15, x16, x17, x18, rfl, ndt, hdu, htd⟩ := h
  have pl := pl f g ok
  have q := fun σ' H' h => q σ' H' ⟨f, g, ok, h⟩
  have h3 : (toldM f g)[3]? = some (some (walkN f g 1 1 1)) := rfl
  have tl : (toldM f g).length = 4 := rfl
  generalize toldM f g = ts at htd pl tl h3
  generalize walkN f g 1 1 1 = n at pl h3
  have v3 : (ts.map tV)[3]? = some (.int (n : Int)) := by rw [List.getElem?_map, h3] <;> rfl
  refine ⟨.ref td, rfl, td, _, 3, .int (n : Int), rfl, rfl, lst_in htd, atI_nat (j := 3) v3, .ref td, rfl, td, rfl, ⟨_, lst_in htd⟩, fun Dd nD => lcG (e := tV) walk_map yat_map (l := ts) (j := 18) Option.isSome tV nD (by omega) (fun H' s => lst_in (s _ _ htd)) (fun _ => rfl) (fun t _ H1 s1 R r => ?_) (fun t _ _ H1 s1 R r => ⟨tV t, rfl, r H1 (Same.refl _)⟩) fun H1 s1 d1 => ?_⟩
  · refine ⟨tV t, rfl, _, rfl, ?_⟩
    have z := r H1 (Same.refl _)
    rw [← tV_non t] at z
    exact z
  · rw [some_ints] at d1
    refine ⟨Dd, _, rfl, lst_in d1, ?_, fun m hm _ => ⟨_, _, rfl, rfl, _, rfl, ?_⟩⟩
    · rw [List.length_map]
      exact List.length_pos_of_mem (a := n) (List.mem_filterMap.mpr ⟨some n, List.mem_of_getElem? h3, rfl⟩)
    · obtain ⟨k, hk, rfl⟩ := List.mem_map.mp hm
      have := minOk_all pl k hk
      rw [decide_eq_false (show ¬ (n : Int) > (k : Int) by omega)]
      exact iteF (q _ _ ⟨_, _, _, _, _, _, _, _, _, _, _, _, _, _, _, _, _, rfl⟩)
end
end J
end

section
/-! law, one letter more, one letter less -/
namespace J
open PySem PySem.Spec PyProof.Rows L2
def hitW (w g : Wd) : Bool := !(partsM w g).isEmpty
def mLTo (f g : Wd) (i : Nat) : List (Nat × Nat) := (List.range i).flatMap (moreAtL f g)
def mLIn (f g : Wd) (i j : Nat) : List (Nat × Nat) := (((lettersM g).take j).filter fun c => hitW (putW f i c) g).map fun c => (i, c)
theorem mLTo_succ (f g : Wd) (i : Nat) : mLTo f g (i + 1) = mLTo f g i ++ moreAtL f g i := by
  unfold mLTo
  rw [List.range_succ, List.flatMap_append] <;> simp
theorem moreAtL_len (f g : Wd) (i : Nat) : (moreAtL f g i).length ≤ 2 := by
  unfold moreAtL
  rw [List.length_map]
  exact Nat.le_trans (List.length_filter_le _ _) (letters_len g)
theorem mLTo_len (f g : Wd) : ∀ i, (mLTo f g i).length ≤ 2 * i
  | 0 => Nat.zero_le _
  | i + 1 => by
    rw [mLTo_succ, List.length_append]
    have h1 := mLTo_len f g i
    have h2 := moreAtL_len f g i
    omega
theorem mLIn_len (f g : Wd) (i j : Nat) : (mLIn f g i j).length ≤ 2 := by
  unfold mLIn
  rw [List.length_map]
  exact Nat.le_trans (List.length_filter_le _ _) (Nat.le_trans (List.length_take_le' _ _) (letters_len g))
theorem mLIn_yes {f g : Wd} {i j c : Nat} (h : (lettersM g)[j]? = some c) (r : hitW (putW f i c) g = true) : mLIn f g i (j + 1) = mLIn f g i j ++ [(i, c)] := by
  unfold mLIn
  rw [List.take_add_one, h, List.filter_append, List.map_append]
  show _ ++ List.map _ (List.filter _ [c]) = _
  rw [List.filter_cons, if_pos r] <;> rfl
theorem mLIn_no {f g : Wd} {i j c : Nat} (h : (lettersM g)[j]? = some c) (r : hitW (putW f i c) g = false) : mLIn f g i (j + 1) = mLIn f g i j := by
  unfold mLIn
  rw [List.take_add_one, h, List.filter_append, List.map_append]
  show _ ++ List.map _ (List.filter _ [c]) = _
  rw [List.filter_cons, if_neg (by rw [r]; decide)]
  exact List.append_nil _
def lLTo (f g : Wd) (i : Nat) : List Nat := (List.range i).filter fun i => hitW (cutW f i) g
theorem lLTo_yes {f g : Wd} {i : Nat} (h : hitW (cutW f i) g = true) : lLTo f g (i + 1) = lLTo f g i ++ [i] := by
  unfold lLTo
  rw [List.range_succ, List.filter_append, List.filter_cons, if_pos h] <;> rfl
theorem lLTo_no {f g : Wd} {i : Nat} (h : hitW (cutW f i) g = false) : lLTo f g (i + 1) = lLTo f g i := by
  unfold lLTo
  rw [List.range_succ, List.filter_append, List.filter_cons, if_neg (by rw [h]; decide)]
  exact List.append_nil _
theorem lLTo_len (f g : Wd) (i : Nat) : (lLTo f g i).length ≤ i := by
  unfold lLTo
  have h := List.length_filter_le (fun i => hitW (cutW f i) g) (List.range i)
  rw [List.length_range] at h
  exact h
theorem put_ab {f : Wd} {i c : Nat} (hf : AB f) (hc : c = 97 ∨ c = 98) : AB' (putW f i c) := fun d h => by
  unfold putW at h
  rcases List.mem_append.mp h with z | z
  · rcases List.mem_append.mp z with z | z
    · exact hf d (List.mem_of_mem_take z)
    · rw [List.mem_singleton.mp z]; exact hc
  · exact hf d (List.mem_of_mem_drop z)
theorem cut_ab {f : Wd} {i : Nat} (hf : AB f) : AB' (cutW f i) := fun d h => by
  unfold cutW at h
  rcases List.mem_append.mp h with z | z
  · exact hf d (List.mem_of_mem_take z)
  · exact hf d (List.mem_of_mem_drop z)
theorem putW_len (f : Wd) (i c : Nat) : (putW f i c).length ≤ f.length + 1 := by
  unfold putW
  rw [List.length_append, List.length_append, List.length_take, List.length_drop]
  show min i f.length + 1 + _ ≤ _
  omega
theorem cutW_len (f : Wd) (i : Nat) : (cutW f i).length ≤ f.length := by
  unfold cutW
  rw [List.length_append, List.length_take, List.length_drop]
  omega
def StM (f g : Wd) (ms : List (Nat × Nat)) : StP := fun σ H => ∃ (mo : Addr) (xs : List V) (x0 x1 x4 x5 x6 x7 x8 x9 x10 x11 x12 x14 x15 x16 x17 x18 : Option V),
  σ = [x0, x1, some (.str (sS f)), some (.str (sS g)), x4, x5, x6, x7, x8, x9, x10, x11, x12, some (.ref mo), x14, x15, x16, x17, x18] ∧ H mo = some (.lst xs) ∧ TR eP H xs ms
def StN (f g : Wd) (ms : List (Nat × Nat)) (ns : List Nat) : StP := fun σ H => ∃ (mo le : Addr) (xs : List V) (x0 x1 x4 x5 x6 x7 x8 x9 x10 x11 x12 x14 x15 x17 x18 : Option V),
  σ = [x0, x1, some (.str (sS f)), some (.str (sS g)), x4, x5, x6, x7, x8, x9, x10, x11, x12, some (.ref mo), x14, x15, some (.ref le), x17, x18] ∧ mo ≠ le ∧ H mo = some (.lst xs) ∧ TR eP H xs ms ∧ H le = some (.lst (ns.map nV))
section
variable {P : Program} {w : World} {K : PySem.W.Frag} {mg : Str → Option Value} {base : Heap} {f : Addr} {cdv : Value} {A : Around} {outer : List Env} {s : Shared} {H0 : Hp} {E : XK}
theorem seg9 : Seg (XL P w K mg base f cdv A outer s H0 E) (ln 9) (fun σ H => ∃ f g, Ok2 f g ∧ StD f g σ H) (fun σ H => ∃ f g, Ok2 f g ∧ StM f g [] σ H) := by
  refine ⟨_, ps_set (i := 13) scLaw.nd rfl (.inl rfl) (pe_lst pa_nil), fun D σ H h q => ?_⟩
  obtain ⟨f, g, ok, x0, x1, x4, x5, x6, x7, x8, x9, x10, x11, x12, x13, x14, x15, x16, x17, x18, rfl⟩ := h
  exact ⟨Nat.zero_le _, fun mo nm => q _ _ ⟨f, g, ok, mo, [], _, _, _, _, _, _, _, _, _, _, _, _, _, _, _, _, rfl, upd_same, trivial⟩⟩
theorem seg11 : Seg (XL P w K mg base f cdv A outer s H0 E) (ln 11) (fun σ H => ∃ f g, Ok2 f g ∧ StM f g (moreL f g) σ H) (fun σ H => ∃ f g, Ok2 f g ∧ StN f g (moreL f g) [] σ H) := by
  refine ⟨_, ps_set (i := 16) scLaw.nd rfl (.inl rfl) (pe_lst pa_nil), fun D σ H h q => ?_⟩
  obtain ⟨f, g, ok, mo, xs, x0, x1, x4, x5, x6, x7, x8, x9, x10, x11, x12, x14, x15, x16, x17, x18, rfl, hmo, tr⟩ := h
  exact ⟨Nat.zero_le _, fun le nl => q _ _ ⟨f, g, ok, mo, le, xs, _, _, _, _, _, _, _, _, _, _, _, _, _, _, _, rfl, ne_of_none hmo nl, (same_new nl) _ _ hmo, tr.mono fun t ys e => (same_new nl) _ _ e, upd_same⟩⟩
theorem seg10 (T : Tx mg) (hr : Rm f cdv A s) (OP : OkD P w K mg base 1 "_law_partings" ["_law_film_here", "_law_goal"] spParts) (pf : ∀ f g : Wd, Ok2 f g → ∀ w : Wd, AB' w → w.length ≤ 9 → (partsM w g).length < 64) :
    Seg (XL P w K mg base f cdv A outer s H0 E) (ln 10) (fun σ H => ∃ f g, Ok2 f g ∧ StM f g [] σ H) (fun σ H => ∃ f g, Ok2 f g ∧ StM f g (moreL f g) σ H) := by
  refine ⟨_, ps_for PassesOwn.never rfl (pi_range1 (by rfl) T.range (pa_cons (pe_op op_add (pe_callB call_len_str (by rfl) T.len PySem.boot_len (pa_cons (pv 2) pa_nil)) pe_int) pa_nil)) (pg_name (i := 14) scLaw.nd rfl (.inl rfl))
    (pss_one (ps_for PassesOwn.never rfl (pi_list (pe_callB (cr_sortedX rfl) (by rfl) T.sorted (by decide +kernel) (pa_cons (pe_callTy (cr_setS rfl) (by rfl) T.set (by decide +kernel) (pa_cons (pv 3) pa_nil)) pa_nil))) (pg_name (i := 15) scLaw.nd rfl (.inl rfl))
      (pss_one (ps_if (pt_cmpR (op_neD hr.units) (pe_callO OP (hr.mono (by decide)) (by rfl) (pa_cons (pe_op op_add_str (pe_op op_add_str (pe_slice C8.sl_txt (pv 2) po_none (po_some (pv 14))) (pv 15)) (pe_slice C8.sl_txt (pv 2) (po_some (pv 14)) po_none)) (pa_cons (pv 3) pa_nil))) (pe_lst pa_nil) (nomark _))
        (pss_one (ps_expr (pe_bm PySem.F.plainAttrs_list PySem.F.slot_list_append PySem.F.type_list_append mt_append (pv 13) (pa_cons (pe_tup (pa_cons (pv 14) (pa_cons (pv 15) pa_nil))) pa_nil)))) pss_nil)))), fun D σ H h q => ?_⟩
  obtain ⟨f, g, ok, fa, xs0, x0, x1, x4, x5, x6, x7, x8, x9, x10, x11, x12, x14, x15, x16, x17, x18, rfl, hfa, tr0⟩ := h
  obtain ⟨f3, g3, f1, f2, g1, g2⟩ := id ok
  have pf := pf f g ok
  refine ⟨.str (sS f), rfl, _, rfl, by rw [sS_len]; exact small_size (by omega), _, _, rfl, rfl, _, rfl, by rw [sS_len]; omega, by rw [sS_len]; omega, ?_⟩
  have en : (((sS f).length : Int) + 1).toNat = f.length + 1 := by rw [sS_len]; omega
  rw [en]
  refine for_range (lo := 0) (n := f.length + 1) (fun i σ H' => ∃ (x14 x15 : Option V) (xs : List V), σ = [x0, x1, some (.str (sS f)), some (.str (sS g)), x4, x5, x6, x7, x8, x9, x10, x11, x12, some (.ref fa), x14, x15, x16, x17, x18] ∧ H' fa = some (.lst xs) ∧ TR eP H' xs (mLTo f g i))
    ⟨x14, x15, xs0, rfl, hfa, tr0⟩ (fun i σ H4 hi hP => ?_) fun σ H4 hP => ?_
  · obtain ⟨x14, x15, xs, rfl, h4, t4⟩ := hP
    rw [show (0 : Int) + (i : Int) = (i : Int) by omega]
    refine ⟨.str (sS g), rfl, sS g, rfl, ascii_ab g3, by show g.length < 1000; omega, fun p l np nd hl => ⟨p, l, rfl, upd_same, set_few g3 nd hl, fun ys p2 hp hs np2 => ⟨p2, rfl, ⟨_, lst_in upd_same⟩, ?_⟩⟩⟩
    have e := letters_sorted g3 nd hl hp hs
    subst e
    rw [letters_V]
    have s5 : Same H4 (upd (upd H4 p (SetX P w p l)) p2 (.lst ((lettersM g).map cV))) := (same_new np).trans (same_new np2)
    have h5 : upd (upd H4 p (SetX P w p l)) p2 (.lst ((lettersM g).map cV)) p2 = some (.lst ((lettersM g).map cV)) := upd_same
    have n5 : H4 p2 = none := by
      by_cases e : p2 = p
      · rw [e]; exact np
      · rw [upd_ne e] at np2; exact np2
    have nfp : p2 ≠ fa := fun z => by rw [z, h4] at n5; cases n5
    have e0 : mLTo f g i ++ mLIn f g i 0 = mLTo f g i := List.append_nil _
    refine for_list (xs := (lettersM g).map cV) (fun j σ H' => ∃ (x15 : Option V) (xs : List V), σ = [x0, x1, some (.str (sS f)), some (.str (sS g)), x4, x5, x6, x7, x8, x9, x10, x11, x12, some (.ref fa), some (.int (i : Int)), x15, x16, x17, x18] ∧ H' p2 = some (.lst ((lettersM g).map cV)) ∧ H' fa = some (.lst xs) ∧ TR eP H' xs (mLTo f g i ++ mLIn f g i j))
      ⟨x15, xs, rfl, h5, s5 _ _ h4, by
        rw [e0]
        exact t4.mono fun t ys e => s5 _ _ e⟩ (fun j σ H' _ hP => by obtain ⟨_, _, _, h, _⟩ := hP; exact lst_in h) (fun j x σ H6 hx hP => ?_) fun σ H6 hP => ?_
    · obtain ⟨x15, xs, rfl, h6, f6, t6⟩ := hP
      obtain ⟨c, hc, rfl⟩ := at_map hx
      have hcab := letters_ab g c (List.mem_of_getElem? hc)
      refine ⟨.str (sS f), rfl, .int (i : Int), rfl, (i : Int), rfl, sS f, rfl, by rw [sS_len]; exact small_size (by omega), ?_⟩
      rw [sl_to]
      refine ⟨cV c, rfl, sS (f.take i), sS [c], rfl, rfl, by rw [sS_len, sS_len]; exact small_size (by rw [List.length_take]; show min i f.length + 1 ≤ 1000; omega), ?_⟩
      rw [sS_cat]
      refine ⟨.str (sS f), rfl, .int (i : Int), rfl, (i : Int), rfl, sS f, rfl, by rw [sS_len]; exact small_size (by omega), ?_⟩
      rw [sl_from]
      refine ⟨_, _, rfl, rfl, by rw [sS_len, sS_len]; exact small_size (by rw [List.length_append, List.length_take, List.length_drop]; show min i f.length + 1 + _ ≤ 1000; omega), ?_⟩
      rw [sS_cat]
      have hz := putW_len f i c
      refine ⟨.str (sS g), rfl, putW f i c, g, rfl, by omega, g1, g2, pf _ (put_ab f3 hcab) (by omega), fun H7 a zs s7 na ha hx he => ⟨Nat.zero_le _, fun D2 n2 => neD_of (lst_in ((same_new n2) _ _ ha)) (lst_in upd_same) (tups_data fun x hx' => ?_) ⟨_, rfl, ?_⟩⟩⟩
      · obtain ⟨t, l, e, h⟩ := hx x hx'
        exact ⟨t, l, e, (same_new n2) _ _ h⟩
      · rw [he]
        have s8 := s7.trans (same_new n2 (o := .lst []))
        generalize upd H7 D2 (.lst []) = H8 at s8 ⊢
        have f7 := s8 _ _ f6
        have t7 := t6.mono fun t ys e => s8 _ _ e
        refine iteB (b := hitW (putW f i c) g) rfl (fun hr7 => ?_) fun hr7 => ?_
        · have hlen : xs.length ≤ 2 * 6 + 2 + 2 := by
            rw [t6.length, List.length_append]
            have h1 := mLTo_len f g i
            have h2 := mLIn_len f g i j
            omega
          refine ⟨.ref fa, rfl, .inl ⟨rfl, _, lst_in f7⟩, .int (i : Int), rfl, cV c, rfl, by show 2 ≤ sizeLine; decide, fun T nT => ⟨fa, xs, _, rfl, rfl, ?_, small1000 (by omega), ?_⟩⟩
          · rw [upd_ne (ne_of_none f7 nT)]
            exact f7
          · have nTf : T ≠ fa := Ne.symm (ne_of_none f7 nT)
            refine ⟨_, xs ++ [.ref T], rfl, ?_, upd_same, ?_⟩
            · rw [upd_ne nfp, upd_ne (ne_of_none (s8 _ _ h6) nT)]
              exact s8 _ _ h6
            · rw [mLIn_yes hc hr7, ← List.append_assoc]
              refine TR.snoc (by rw [upd_ne nTf]; exact upd_same) (t7.mono fun t ys e => ?_)
              rw [upd_ne (ne_of e f7 fun z => nomatch z), upd_ne (ne_of_none e nT)]
              exact e
        · refine ⟨_, xs, rfl, s8 _ _ h6, f7, ?_⟩
          rw [mLIn_no hc hr7]
          exact t7
    · obtain ⟨x15, xs, rfl, h6, f6, t6⟩ := hP
      refine ⟨_, x15, xs, rfl, f6, ?_⟩
      rw [mLTo_succ]
      have e : mLIn f g i ((lettersM g).map cV).length = moreAtL f g i := by
        unfold mLIn moreAtL
        rw [List.length_map, List.take_length] <;> rfl
      rw [e] at t6
      exact t6
  · obtain ⟨x14, x15, xs, rfl, h4, t4⟩ := hP
    exact q _ _ ⟨f, g, ok, fa, xs, _, _, _, _, _, _, _, _, _, _, _, _, _, _, _, _, rfl, h4, t4⟩
theorem seg12 (T : Tx mg) (hr : Rm f cdv A s) (OP : OkD P w K mg base 1 "_law_partings" ["_law_film_here", "_law_goal"] spParts) (pf : ∀ f g : Wd, Ok2 f g → ∀ w : Wd, AB' w → w.length ≤ 9 → (partsM w g).length < 64) :
    Seg (XL P w K mg base f cdv A outer s H0 E) (ln 12) (fun σ H => ∃ f g, Ok2 f g ∧ StN f g (moreL f g) [] σ H) (fun σ H => ∃ f g, Ok2 f g ∧ StN f g (moreL f g) (lessL f g) σ H) := by
  refine ⟨_, ps_for PassesOwn.never rfl (pi_range1 (by rfl) T.range (pa_cons (pe_callB call_len_str (by rfl) T.len PySem.boot_len (pa_cons (pv 2) pa_nil)) pa_nil)) (pg_name (i := 14) scLaw.nd rfl (.inl rfl))
    (pss_one (ps_if (pt_cmpR (op_neD hr.units) (pe_callO OP (hr.mono (by decide)) (by rfl) (pa_cons (pe_op op_add_str (pe_slice C8.sl_txt (pv 2) po_none (po_some (pv 14))) (pe_slice C8.sl_txt (pv 2) (po_some (pe_op op_add (pv 14) pe_int)) po_none)) (pa_cons (pv 3) pa_nil))) (pe_lst pa_nil) (nomark _))
      (pss_one (ps_expr (pe_bm PySem.F.plainAttrs_list PySem.F.slot_list_append PySem.F.type_list_append mt_append (pv 16) (pa_cons (pv 14) pa_nil)))) pss_nil)), fun D σ H h q => ?_⟩
  obtain ⟨f, g, ok, mo, fa, xs, x0, x1, x4, x5, x6, x7, x8, x9, x10, x11, x12, x14, x15, x17, x18, rfl, nmf, hmo, tr, hfa⟩ := h
  obtain ⟨f3, g3, f1, f2, g1, g2⟩ := id ok
  have pf := pf f g ok
  have q := fun σ' H' h => q σ' H' ⟨f, g, ok, h⟩
  unfold StN at q
  generalize moreL f g = ms at tr q
  refine ⟨.str (sS f), rfl, _, rfl, by rw [sS_len]; exact small_size (by omega), _, rfl, by rw [sS_len]; omega, by rw [sS_len]; omega, ?_⟩
  have en : ((sS f).length : Int).toNat = f.length := by rw [sS_len]; omega
  rw [en]
  refine for_range (lo := 0) (n := f.length) (fun i σ H' => ∃ (x14 : Option V), σ = [x0, x1, some (.str (sS f)), some (.str (sS g)), x4, x5, x6, x7, x8, x9, x10, x11, x12, some (.ref mo), x14, x15, some (.ref fa), x17, x18] ∧ H' mo = some (.lst xs) ∧ TR eP H' xs ms ∧ H' fa = some (.lst ((lLTo f g i).map nV)))
    ⟨x14, rfl, hmo, tr, hfa⟩ (fun i σ H4 hi hP => ?_) fun σ H4 hP => ?_
  · obtain ⟨x14, rfl, hmo, tr, hfa⟩ := hP
    rw [show (0 : Int) + (i : Int) = (i : Int) by omega]
    refine ⟨.str (sS f), rfl, .int (i : Int), rfl, (i : Int), rfl, sS f, rfl, by rw [sS_len]; exact small_size (by omega), ?_⟩
    rw [sl_to]
    refine ⟨.str (sS f), rfl, .int (i : Int), rfl, _, _, rfl, rfl, (i : Int) + 1, rfl, sS f, rfl, by rw [sS_len]; exact small_size (by omega), ?_⟩
    rw [show (i : Int) + 1 = ((i + 1 : Nat) : Int) by omega, sl_from]
    have hz := cutW_len f i
    refine ⟨_, _, rfl, rfl, by rw [sS_len, sS_len]; exact small_size (by rw [List.length_take, List.length_drop]; omega), ?_⟩
    rw [sS_cat, show f.take i ++ f.drop (i + 1) = cutW f i from rfl]
    refine ⟨.str (sS g), rfl, cutW f i, g, rfl, by omega, g1, g2, pf _ (cut_ab f3) (by omega), fun H7 a zs s7 na ha hx he => ⟨Nat.zero_le _, fun D2 n2 => neD_of (lst_in ((same_new n2) _ _ ha)) (lst_in upd_same) (tups_data fun x hx' => ?_) ⟨_, rfl, ?_⟩⟩⟩
    · obtain ⟨t, l, e, h⟩ := hx x hx'
      exact ⟨t, l, e, (same_new n2) _ _ h⟩
    · rw [he]
      have s8 := s7.trans (same_new n2 (o := .lst []))
      generalize upd H7 D2 (.lst []) = H8 at s8 ⊢
      have f8 := s8 _ _ hfa
      have m8 := s8 _ _ hmo
      have t8 := tr.mono fun t ys e => s8 _ _ e
      refine iteB (b := hitW (cutW f i) g) rfl (fun hr7 => ?_) fun hr7 => ?_
      · have hlen := lLTo_len f g i
        refine ⟨.ref fa, rfl, .inl ⟨rfl, _, lst_in f8⟩, .int (i : Int), rfl, fa, _, _, rfl, rfl, f8, by rw [List.length_map]; exact small1000 (by omega), ?_⟩
        refine ⟨_, rfl, ?_, t8.mono fun t ys e => ?_, ?_⟩
        · rw [upd_ne nmf]; exact m8
        · rw [upd_ne (ne_of e f8 fun z => nomatch z)]; exact e
        · rw [lLTo_yes hr7, List.map_append]
          exact upd_same
      · refine ⟨_, rfl, m8, t8, ?_⟩
        rw [lLTo_no hr7]
        exact f8
  · obtain ⟨x14, rfl, hmo, tr, hfa⟩ := hP
    exact q _ _ ⟨mo, fa, xs, _, _, _, _, _, _, _, _, _, _, _, _, _, _, _, rfl, nmf, hmo, tr, hfa⟩
end
end J
end

section
/-! law, the end; the law -/
namespace J
open PySem PySem.Spec PyProof.Rows L2
theorem TR.at {α : Type} {e : α → List V} {H : Hp} : ∀ {vs : List V} {ls : List α} (h : TR e H vs ls) (i : Nat) (v : V), vs[i]? = some v → ∃ l, ls[i]? = some l ∧ ∃ t, v = .ref t ∧ H t = some (.tup (e l))
  | v :: vs, m :: ls, ⟨a, r⟩, 0, u, z => by
    cases z
    exact ⟨m, rfl, a⟩
  | v :: vs, m :: ls, ⟨_, r⟩, i + 1, l, z => TR.at r i l z
  | [], [], _, i, l, z => by cases z
theorem al_int {H : Hp} {n k : Nat} : Al H (n + 1) (nV k) (nV k) := .inl ⟨_, rfl, rfl⟩
theorem al_sign {H : Hp} {n k : Nat} : Al H (n + 1) (cV k) (cV k) := .inr (.inl ⟨_, rfl, rfl⟩)
theorem al_pairs {H : Hp} {a u : Addr} {xs ys : List V} {ms : List (Nat × Nat)} (h1 : TR eP H xs ms) (h2 : TR eP H ys ms) (hl : ms.length ≤ 900) (ha : H a = some (.tup xs)) (hu : H u = some (.tup ys)) : Al H 3 (.ref a) (.ref u) := by
  refine .inr (.inr ⟨a, u, xs, ys, rfl, rfl, by rw [h1.length, h2.length], by rw [h2.length]; exact hl, .inr ⟨ha, hu⟩, fun k x y hx hy => ?_⟩)
  obtain ⟨l, hl1, p, rfl, hp⟩ := h1.at k x hx
  obtain ⟨l2, hl2, q, rfl, hq⟩ := h2.at k y hy
  rw [hl1] at hl2
  have e := Option.some.inj hl2
  subst e
  refine .inr (.inr ⟨p, q, eP l, eP l, rfl, rfl, rfl, by show 2 ≤ 900; decide, .inr ⟨hp, hq⟩, fun k x y hx hy => ?_⟩)
  rw [hx] at hy
  have e := Option.some.inj hy
  subst e
  match k, hx with
  | 0, hx => cases hx; exact al_int
  | 1, hx => cases hx; exact al_sign
  | k + 2, hx => cases hx
theorem al_nums {H : Hp} {a u : Addr} {l : List Nat} (hl : l.length ≤ 900) (ha : H a = some (.tup (l.map nV))) (hu : H u = some (.tup (l.map nV))) : Al H 3 (.ref a) (.ref u) := by
  refine .inr (.inr ⟨a, u, _, _, rfl, rfl, rfl, by rw [List.length_map]; exact hl, .inr ⟨ha, hu⟩, fun k x y hx hy => ?_⟩)
  rw [hx] at hy
  have e := Option.some.inj hy
  subst e
  obtain ⟨n, _, rfl⟩ := at_map hx
  exact al_int
section
variable {P : Program} {w : World} {K : PySem.W.Frag} {mg : Str → Option Value} {base : Heap} {f : Addr} {cdv : Value} {A : Around} {outer : List Env} {s : Shared} {H0 : Hp} {E : XK}
theorem seg13 (T : Tx mg) (hr : Rm f cdv A s) (OMo : OkD P w K mg base 3 "one_letter_more" ["film", "goal"] (spTwo (Nat × Nat) eP moreM)) (OLe : OkD P w K mg base 3 "one_letter_less" ["film", "goal"] (spNums lessM))
    (OA : OkD P w K mg base 4 "_law_alike" ["_law_found", "_law_due"] (spAl 4)) (pl : ∀ f g : Wd, Ok2 f g → moreM f g = moreL f g ∧ lessM f g = lessL f g) :
    SegR (XL P w K mg base f cdv A outer s H0 E) [ln 13] (fun σ H => ∃ f g, Ok2 f g ∧ StN f g (moreL f g) (lessL f g) σ H) (.bl true) := by
  refine ⟨_, pss_one (ps_ret (pe_callO OA (hr.mono (by decide)) (by rfl) (pa_cons (pe_lst (pa_cons (pe_callO OMo (hr.mono (by decide)) (by rfl) (pa_cons (pv 2) (pa_cons (pv 3) pa_nil))) (pa_cons (pe_callO OLe (hr.mono (by decide)) (by rfl) (pa_cons (pv 2) (pa_cons (pv 3) pa_nil))) pa_nil)))
    (pa_cons (pe_lst (pa_cons (pe_callTy call_tuple_of (by rfl) T.tuple (by decide +kernel) (pa_cons (pv 13) pa_nil)) (pa_cons (pe_callTy call_tuple_of (by rfl) T.tuple (by decide +kernel) (pa_cons (pv 16) pa_nil)) pa_nil))) pa_nil)))), fun D σ H h q => ?_⟩
  obtain ⟨f, g, ok, mo, le, xs, x0, x1, x4, x5, x6, x7, x8, x9, x10, x11, x12, x14, x15, x17, x18, rfl, nmf, hmo, tr, hle⟩ := h
  obtain ⟨f3, g3, f1, f2, g1, g2⟩ := id ok
  obtain ⟨em, el⟩ := pl f g ok
  have lm : (moreL f g).length ≤ 900 := by
    have e : moreL f g = mLTo f g (f.length + 1) := rfl
    rw [e]
    have := mLTo_len f g (f.length + 1)
    omega
  have ll : (lessL f g).length ≤ 900 := by
    have e : lessL f g = lLTo f g f.length := rfl
    rw [e]
    have := lLTo_len f g f.length
    omega
  refine ⟨.str (sS f), rfl, .str (sS g), rfl, f, g, rfl, f1, by omega, f3, g1, g2, g3, fun H1 a1 xs1 s1 n1 h1 t1 => ⟨.str (sS f), rfl, .str (sS g), rfl, f, g, rfl, f1, by omega, f3, g1, g2, g3, fun H2 a2 s2 n2 h2 => ⟨by show 2 ≤ sizeLine; decide, fun l1 nl1 => ?_⟩⟩⟩
  rw [em] at t1
  rw [el] at h2
  have b3 := same_new nl1 (o := .lst [.ref a1, .ref a2])
  have hl1 : upd H2 l1 (.lst [.ref a1, .ref a2]) l1 = some (.lst [.ref a1, .ref a2]) := upd_same
  generalize upd H2 l1 (.lst [.ref a1, .ref a2]) = H3 at b3 hl1 ⊢
  have s13 := s2.trans b3
  have s03 := s1.trans s13
  refine ⟨.ref mo, rfl, mo, xs, rfl, .inl ⟨lst_in (s03 _ _ hmo), fun u1 nu1 => ?_⟩⟩
  have b4 := same_new nu1 (o := .tup xs)
  have hu1 : upd H3 u1 (.tup xs) u1 = some (.tup xs) := upd_same
  generalize upd H3 u1 (.tup xs) = H4 at b4 hu1 ⊢
  refine ⟨.ref le, rfl, le, _, rfl, .inl ⟨lst_in (b4 _ _ (s03 _ _ hle)), fun u2 nu2 => ?_⟩⟩
  have b5 := same_new nu2 (o := .tup ((lessL f g).map nV))
  have hu2 : upd H4 u2 (.tup ((lessL f g).map nV)) u2 = some (.tup ((lessL f g).map nV)) := upd_same
  generalize upd H4 u2 (.tup ((lessL f g).map nV)) = H5 at b5 hu2 ⊢
  refine ⟨by show 2 ≤ sizeLine; decide, fun l2 nl2 => ?_⟩
  have b6 := same_new nl2 (o := .lst [.ref u1, .ref u2])
  have hl2 : upd H5 l2 (.lst [.ref u1, .ref u2]) l2 = some (.lst [.ref u1, .ref u2]) := upd_same
  generalize upd H5 l2 (.lst [.ref u1, .ref u2]) = H6 at b6 hl2 ⊢
  have s46 := b5.trans b6
  have s36 := b4.trans s46
  have s16 := s13.trans s36
  have s06 := s1.trans s16
  refine ⟨.ref l1, .ref l2, rfl, .inr (.inr ⟨l1, l2, [.ref a1, .ref a2], [.ref u1, .ref u2], rfl, rfl, rfl, by show 2 ≤ 900; decide, .inl ⟨s36 _ _ hl1, hl2⟩, fun k u v hu hv => ?_⟩), fun H' _ => q H'⟩
  match k, hu, hv with
  | 0, hu, hv =>
    cases hu
    cases hv
    exact al_pairs (t1.mono fun t ys e => s16 _ _ e) (tr.mono fun t ys e => s06 _ _ e) lm (s16 _ _ h1) (s46 _ _ hu1)
  | 1, hu, hv =>
    cases hu
    cases hv
    exact al_nums ll ((b3.trans s36) _ _ h2) (b6 _ _ hu2)
  | k + 2, hu, hv => cases hu
end
end J
end

section
/-! The head by facts. -/
namespace J
open PySem PySem.Spec PyProof.Rows L2
def mkD (x : Str) (st : Stmt) : He.DefD := ⟨(x, none), x, x, defArgs st, defBody st, defScope st, [], []⟩
def fnsL : List He.DefD := [mkD "need_film" sNeed, mkD "begin" sBegin, mkD "is_reached" sReach, mkD "walk" sWalk, mkD "close_up" sClose, mkD "read_letter" sRead, mkD "add" sAdd,
  mkD "fewest_put_in" sPut, mkD "fewest_left_out" sLeft, mkD "fewest_changed" sChg, mkD "fewest_mends" sMnd, mkD "one_letter_more" sMore, mkD "one_letter_less" sLess,
  mkD "_law_taken" sTaken, mkD "_law_alike" sAlike, mkD "_law_film" sFilm, mkD "_law_partings" sParts, mkD "_law_mended" sMended, mkD "law" sLaw]
def fasL : List He.Fa := [.glo "need_film", .glo "begin", .glo "is_reached", .glo "walk", .glo "close_up", .glo "read_letter", .glo "add",
  .glo "fewest_put_in", .glo "fewest_left_out", .glo "fewest_changed", .glo "fewest_mends", .glo "one_letter_more", .glo "one_letter_less",
  .glo "_law_taken", .glo "_law_alike", .glo "_law_film", .glo "_law_partings", .glo "_law_mended", .glo "law",
  .free "len", .free "range", .free "enumerate", .free "isinstance", .free "str", .free "tuple", .free "list", .free "dict", .free "set", .free "sorted", .free "min", .free "int",
  .str "LETTERS" "abcdefgh", .int "MOST_FILM" 200, .int "FAR" 1000000, .free "bool"]
abbrev Rw : PySem.W.OpenRow := PySem.W.OpenLaw.row PySem.Challenge.rw_jumpcuts_k21_whole_mends
abbrev hk : PySem.W.Hook := He.hookD 4 fasL fnsL
def ob (s : PySem.W.SharedT) : He.AlD := He.obsDG 4 fasL fnsL (HandSHeadRun.getT s)
theorem ob_eq (s : PySem.W.SharedT) : ob s = hk.obs s.abs := He.obsDG_eq (HandSHeadRun.getT_eq s)
def looseL : List Str := ["CutError", "BadFilm", "need_film", "begin", "is_reached", "walk", "close_up", "read_letter", "add", "fewest_put_in", "fewest_left_out", "fewest_changed", "fewest_mends", "one_letter_more", "one_letter_less",
  "_law_taken", "_law_alike", "_law_film", "_law_partings", "_law_mended", "LETTERS", "MOST_FILM", "FAR"]
theorem run (w : World) : HandSHeadRun.RunEq Rw (PySem.W.view Rw.prog [28]) hk ob 2000 looseL w := by
  intro os
  kernel_rfl
end J
end

section
namespace J
open PySem PySem.Spec PyProof.Rows L2
def spLaw (K : PySem.W.Frag) : Sp := fun vs H Q _ => ∃ (a : Addr) (ns : List Int), vs = [.ref a] ∧ SqL K H a (ns.map V.int) ∧ ns.length ≤ 63 ∧ ∀ H', Q (.bl true) H'
/-- what is to be shown of the law, from where each def stands -/
def Goal : Prop := ∀ (P : Program) (w : World) (K : PySem.W.Frag) (mg : Str → Option Value) (base : Heap) (ad : Nat → Addr) (fd : Nat → FuncData),
  Tx mg → mg "bool" = none →
  (∀ i d, fnsL[i]? = some d → FunD K d.name d.qual d.params d.body d.scope [] [] (ad i) (fd i) ∧ mg d.name = some (.ref (ad i))) →
  FnOk P w K mg base CX0 12 (ad 18) (fd 18) ["_law_script"] (spLaw K)
theorem facts (hl : Goal) {P : Program} {w : World} {K : PySem.W.Frag} {h : Heap} {mg : Str → Option Value} {f : Addr} (X : K.In h) (G : h.Ns mainGlobals mg) (hfa : mg ("law" : Str) = some (.ref f)) (c : He.SaysD fasL fnsL K) :
    ∃ fd : FuncData, (∀ (s : Shared) (v : Value), BindsTo s fd ⟨[v], []⟩ [("_law_script", v)]) ∧ ∀ base : Heap, K.In base → base.Ns mainGlobals mg → FnOk P w K mg base CX0 12 f fd ["_law_script"] (spLaw K) := by
  have gl : ∀ (i : Nat) (x : Str), fasL[i]? = some (.glo x) → mg x = some (.ref (He.ga K x)) := fun i x e => He.glo_ok X G (c.fact i (f := .glo x) e)
  have fr : ∀ (i : Nat) (x : Str), fasL[i]? = some (.free x) → mg x = none := fun i x e => He.free_ok X G (c.fact i (f := .free x) e)
  have tx : Tx mg := ⟨fr 19 _ rfl, fr 20 _ rfl, fr 21 _ rfl, fr 22 _ rfl, fr 23 _ rfl, fr 24 _ rfl, fr 25 _ rfl, fr 26 _ rfl, fr 27 _ rfl, fr 28 _ rfl, fr 29 _ rfl, fr 30 _ rfl,
    He.str_ok X G (c.fact 31 (f := .str "LETTERS" "abcdefgh") rfl), He.int_ok X G (c.fact 32 (f := .int "MOST_FILM" 200) rfl), He.int_ok X G (c.fact 33 (f := .int "FAR" 1000000) rfl)⟩
  have all : ∀ i : Nat, ∃ fd : FuncData, ∀ d, fnsL[i]? = some d → FunD K d.name d.qual d.params d.body d.scope (d.dvs K) (d.kws K) (He.fAd K d.at_) fd := fun i => by
    cases e : fnsL[i]? with
    | none => exact ⟨Classical.choice (let ⟨fd, _⟩ := c.def_ 0 (d := mkD "need_film" sNeed) rfl; ⟨fd⟩), fun d q => nomatch q⟩
    | some d =>
      obtain ⟨fd, F⟩ := c.def_ i e
      exact ⟨fd, fun d' q => by cases q; exact F⟩
  let fdOf : Nat → FuncData := fun i => Classical.choose (all i)
  let adOf : Nat → Addr := fun i => match fnsL[i]? with | some d => He.fAd K d.at_ | none => 0
  have names : ∀ i d, fnsL[i]? = some d → mg d.name = some (.ref (adOf i)) ∧ d.dfl = [] ∧ d.kwd = [] := by
    intro i d e
    have hi : i < 19 := by
      have := (List.getElem?_eq_some_iff.mp e).1
      exact this
    have ea : adOf i = He.fAd K d.at_ := by
      show (match fnsL[i]? with | some d => He.fAd K d.at_ | none => 0) = _
      rw [e]
    rw [ea]
    match i, hi with
    | 0, _ => cases e; exact ⟨gl 0 _ rfl, rfl, rfl⟩
    | 1, _ => cases e; exact ⟨gl 1 _ rfl, rfl, rfl⟩
    | 2, _ => cases e; exact ⟨gl 2 _ rfl, rfl, rfl⟩
    | 3, _ => cases e; exact ⟨gl 3 _ rfl, rfl, rfl⟩
    | 4, _ => cases e; exact ⟨gl 4 _ rfl, rfl, rfl⟩
    | 5, _ => cases e; exact ⟨gl 5 _ rfl, rfl, rfl⟩
    | 6, _ => cases e; exact ⟨gl 6 _ rfl, rfl, rfl⟩
    | 7, _ => cases e; exact ⟨gl 7 _ rfl, rfl, rfl⟩
    | 8, _ => cases e; exact ⟨gl 8 _ rfl, rfl, rfl⟩
    | 9, _ => cases e; exact ⟨gl 9 _ rfl, rfl, rfl⟩
    | 10, _ => cases e; exact ⟨gl 10 _ rfl, rfl, rfl⟩
    | 11, _ => cases e; exact ⟨gl 11 _ rfl, rfl, rfl⟩
    | 12, _ => cases e; exact ⟨gl 12 _ rfl, rfl, rfl⟩
    | 13, _ => cases e; exact ⟨gl 13 _ rfl, rfl, rfl⟩
    | 14, _ => cases e; exact ⟨gl 14 _ rfl, rfl, rfl⟩
    | 15, _ => cases e; exact ⟨gl 15 _ rfl, rfl, rfl⟩
    | 16, _ => cases e; exact ⟨gl 16 _ rfl, rfl, rfl⟩
    | 17, _ => cases e; exact ⟨gl 17 _ rfl, rfl, rfl⟩
    | 18, _ => cases e; exact ⟨gl 18 _ rfl, rfl, rfl⟩
  have q : ∀ i d, fnsL[i]? = some d → FunD K d.name d.qual d.params d.body d.scope [] [] (adOf i) (fdOf i) ∧ mg d.name = some (.ref (adOf i)) := by
    intro i d e
    have ea : adOf i = He.fAd K d.at_ := by
      show (match fnsL[i]? with | some d => He.fAd K d.at_ | none => 0) = _
      rw [e]
    obtain ⟨n1, n2, n3⟩ := names i d e
    have F := Classical.choose_spec (all i) d e
    have e1 : d.dvs K = [] := by unfold He.DefD.dvs; rw [n2]; rfl
    have e2 : d.kws K = [] := by unfold He.DefD.kws; rw [n3]; rfl
    rw [e1, e2] at F
    rw [← ea] at F
    exact ⟨F, n1⟩
  have e := hfa.symm.trans (q 18 (mkD "law" sLaw) rfl).2
  have ef : f = adOf 18 := by injection e with e; injection e with e
  rw [ef]
  have F := (q 18 (mkD "law" sLaw) rfl).1
  have b := FunD.bindsA (ps := ["_law_script"]) F fun _ _ _ _ _ _ us hl => match us, hl with | [_], _ => rfl
  exact ⟨fdOf 18, fun s v => b s [v] rfl, fun base _ _ => hl P w K mg base adOf fdOf tx (fr 34 _ rfl) q⟩
end J
open PySem PySem.W PySem.Calls PyProof.Rows
theorem holdsOf (hl : J.Goal) : PySem.Challenge.rw_jumpcuts_k21_whole_mends.Holds := by
  w_on; o_law
  refine HandSHeadRun.head_any (r := OpenLaw.row PySem.Challenge.rw_jumpcuts_k21_whole_mends) (q := view (OpenLaw.row PySem.Challenge.rw_jumpcuts_k21_whole_mends).prog [28]) (H := J.hk) (ob := J.ob) (M := 2000) (loose := J.looseL) (d := HandSHeadRun.topDef (OpenLaw.row PySem.Challenge.rw_jumpcuts_k21_whole_mends).prog 28) (kwd := []) J.ob_eq
    (by kernel_rfl) (fun s => by kernel_rfl) J.run (by kernel_rfl) (by kernel_rfl) (by kernel_rfl) (by rfl) (by first | assumption | decide +kernel) (by decide +kernel) ⟨rfl, rfl, rfl, rfl, rfl, by decide +kernel⟩ ?hw ?hc
  case hw => w_witness2
  case hc =>
    refine L2.walk_ofE (l := PySem.Challenge.rw_jumpcuts_k21_whole_mends) (n := 63) (k := 12) (x := "_law_script") (CX := L2.CX0) rfl (by decide) (by kernel_rfl) ⟨rfl, by decide, by decide⟩ ?F (fun _ _ _ _ z => z)
    intro w mg fa h Y G hmg0
    obtain ⟨K, KX, c⟩ := Y
    have hmg : mg ("law" : PySem.Str) = some (.ref fa) := by
      have e : (HandSHeadRun.topDef (OpenLaw.row PySem.Challenge.rw_jumpcuts_k21_whole_mends).prog 28).name = ("law" : PySem.Str) := by kernel_rfl
      rw [← e]
      exact hmg0
    obtain ⟨fd, hb, hF⟩ := J.facts hl (P := (PySem.Challenge.rw_jumpcuts_k21_whole_mends).prog) (w := w) KX G hmg c
    exact ⟨K, fd, J.spLaw K, KX, hb, fun H a ns hl _ hS => ⟨a, ns, rfl, hS, hl, fun _ => rfl⟩, hF⟩
end

section
/-! The law, from where each def stands -/
namespace J
open PySem PySem.Spec PyProof.Rows L2
theorem pl_few : ∀ f g : Wd, Ok2 f g → ∀ w : Wd, AB' w → w.length ≤ 9 → (partsM w g).length < 64 := fun _ _ ⟨a, b, c, d, e, h⟩ => (plain_law a b c d e h).2.2.2.2
theorem pl_all : ∀ f g : Wd, Ok2 f g → allOk (duesM f g) (toldM f g) = true := fun _ _ ⟨a, b, c, d, e, h⟩ => (plain_law a b c d e h).1
theorem pl_min : ∀ f g : Wd, Ok2 f g → minOk (walkN f g 1 1 1) (toldM f g) = true := fun _ _ ⟨a, b, c, d, e, h⟩ => (plain_law a b c d e h).2.1
theorem pl_same : ∀ f g : Wd, Ok2 f g → moreM f g = moreL f g ∧ lessM f g = lessL f g := fun _ _ ⟨a, b, c, d, e, h⟩ => ⟨(plain_law a b c d e h).2.2.1, (plain_law a b c d e h).2.2.2.1⟩
theorem law_body : defBody sLaw = [ln 0, ln 1, ln 2, ln 3, ln 4, ln 5, ln 6, ln 7, ln 8, ln 9, ln 10, ln 11, ln 12, ln 13] := rfl
theorem goal : Goal := by
  intro P w K mg base ad fd T hbool q
  have F0 : FnP K "need_film" sNeed (ad 0) (fd 0) := (q 0 (mkD "need_film" sNeed) rfl).1
  have G0 : mg "need_film" = some (.ref (ad 0)) := (q 0 (mkD "need_film" sNeed) rfl).2
  have B0 : Binds K (fd 0) ["value"] [] := F0.bindsN fun _ _ _ _ _ _ us hl => match us, hl with | [_], _ => rfl
  have O0 : OkD P w K mg base 1 "need_film" ["value"] spNeed := .mk' (ok_need T F0) G0 F0.kp B0
  have F1 : FnP K "begin" sBegin (ad 1) (fd 1) := (q 1 (mkD "begin" sBegin) rfl).1
  have G1 : mg "begin" = some (.ref (ad 1)) := (q 1 (mkD "begin" sBegin) rfl).2
  have B1 : Binds K (fd 1) ["film", "goal"] [] := F1.bindsN fun _ _ _ _ _ _ us hl => match us, hl with | [_, _], _ => rfl
  have O1 : OkD P w K mg base 1 "begin" ["film", "goal"] spBegin := .mk' (ok_begin T F1) G1 F1.kp B1
  have F2 : FnP K "is_reached" sReach (ad 2) (fd 2) := (q 2 (mkD "is_reached" sReach) rfl).1
  have G2 : mg "is_reached" = some (.ref (ad 2)) := (q 2 (mkD "is_reached" sReach) rfl).2
  have B2 : Binds K (fd 2) ["film", "goal"] [] := F2.bindsN fun _ _ _ _ _ _ us hl => match us, hl with | [_, _], _ => rfl
  have O2 : OkD P w K mg base 2 "is_reached" ["film", "goal"] spReach := .mk' (ok_reach T O1 F2) G2 F2.kp B2
  have F6 : FnP K "add" sAdd (ad 6) (fd 6) := (q 6 (mkD "add" sAdd) rfl).1
  have G6 : mg "add" = some (.ref (ad 6)) := (q 6 (mkD "add" sAdd) rfl).2
  have B6 : Binds K (fd 6) ["found", "key", "price"] [] := F6.bindsN fun _ _ _ _ _ _ us hl => match us, hl with | [_, _, _], _ => rfl
  have O6 : OkD P w K mg base 1 "add" ["found", "key", "price"] (spAdd P w) := .mk' (ok_add T F6) G6 F6.kp B6
  have F4 : FnP K "close_up" sClose (ad 4) (fd 4) := (q 4 (mkD "close_up" sClose) rfl).1
  have G4 : mg "close_up" = some (.ref (ad 4)) := (q 4 (mkD "close_up" sClose) rfl).2
  have B4 : Binds K (fd 4) ["goal", "best", "price"] [] := F4.bindsN fun _ _ _ _ _ _ us hl => match us, hl with | [_, _, _], _ => rfl
  have O4 : OkD P w K mg base 1 "close_up" ["goal", "best", "price"] (spClose P w) := .mk' (ok_close T F4) G4 F4.kp B4
  have F5 : FnP K "read_letter" sRead (ad 5) (fd 5) := (q 5 (mkD "read_letter" sRead) rfl).1
  have G5 : mg "read_letter" = some (.ref (ad 5)) := (q 5 (mkD "read_letter" sRead) rfl).2
  have B5 : Binds K (fd 5) ["goal", "best", "letter", "left_out", "changed"] [] := F5.bindsN fun _ _ _ _ _ _ us hl => match us, hl with | [_, _, _, _, _], _ => rfl
  have O5 : OkD P w K mg base 2 "read_letter" ["goal", "best", "letter", "left_out", "changed"] (spRead P w) := .mk' (ok_read T O6 F5) G5 F5.kp B5
  have F3 : FnP K "walk" sWalk (ad 3) (fd 3) := (q 3 (mkD "walk" sWalk) rfl).1
  have G3 : mg "walk" = some (.ref (ad 3)) := (q 3 (mkD "walk" sWalk) rfl).2
  have B3 : Binds K (fd 3) ["film", "goal", "put_in", "left_out", "changed"] [] := F3.bindsN fun _ _ _ _ _ _ us hl => match us, hl with | [_, _, _, _, _], _ => rfl
  have O3 : OkD P w K mg base 3 "walk" ["film", "goal", "put_in", "left_out", "changed"] spWalk := .mk' (ok_walk T O4 O5 F3) G3 F3.kp B3
  have F7 : FnP K "fewest_put_in" sPut (ad 7) (fd 7) := (q 7 (mkD "fewest_put_in" sPut) rfl).1
  have G7 : mg "fewest_put_in" = some (.ref (ad 7)) := (q 7 (mkD "fewest_put_in" sPut) rfl).2
  have B7 : Binds K (fd 7) ["film", "goal"] [] := F7.bindsN fun _ _ _ _ _ _ us hl => match us, hl with | [_, _], _ => rfl
  have O7 : OkD P w K mg base 4 "fewest_put_in" ["film", "goal"] (spCnt fun f g => tV (fin (walkN f g 1 FARn FARn))) := .mk' (ok_put T O0 O3 F7) G7 F7.kp B7
  have F8 : FnP K "fewest_left_out" sLeft (ad 8) (fd 8) := (q 8 (mkD "fewest_left_out" sLeft) rfl).1
  have G8 : mg "fewest_left_out" = some (.ref (ad 8)) := (q 8 (mkD "fewest_left_out" sLeft) rfl).2
  have B8 : Binds K (fd 8) ["film", "goal"] [] := F8.bindsN fun _ _ _ _ _ _ us hl => match us, hl with | [_, _], _ => rfl
  have O8 : OkD P w K mg base 4 "fewest_left_out" ["film", "goal"] (spCnt fun f g => tV (fin (walkN f g FARn 1 FARn))) := .mk' (ok_left T O0 O3 F8) G8 F8.kp B8
  have F9 : FnP K "fewest_changed" sChg (ad 9) (fd 9) := (q 9 (mkD "fewest_changed" sChg) rfl).1
  have G9 : mg "fewest_changed" = some (.ref (ad 9)) := (q 9 (mkD "fewest_changed" sChg) rfl).2
  have B9 : Binds K (fd 9) ["film", "goal"] [] := F9.bindsN fun _ _ _ _ _ _ us hl => match us, hl with | [_, _], _ => rfl
  have O9 : OkD P w K mg base 4 "fewest_changed" ["film", "goal"] (spCnt fun f g => tV (fin (walkN f g FARn FARn 1))) := .mk' (ok_chg T O0 O3 F9) G9 F9.kp B9
  have F10 : FnP K "fewest_mends" sMnd (ad 10) (fd 10) := (q 10 (mkD "fewest_mends" sMnd) rfl).1
  have G10 : mg "fewest_mends" = some (.ref (ad 10)) := (q 10 (mkD "fewest_mends" sMnd) rfl).2
  have B10 : Binds K (fd 10) ["film", "goal"] [] := F10.bindsN fun _ _ _ _ _ _ us hl => match us, hl with | [_, _], _ => rfl
  have O10 : OkD P w K mg base 4 "fewest_mends" ["film", "goal"] (spCnt fun f g => tV (some (walkN f g 1 1 1))) := .mk' (ok_mnd O0 O3 F10) G10 F10.kp B10
  have F11 : FnP K "one_letter_more" sMore (ad 11) (fd 11) := (q 11 (mkD "one_letter_more" sMore) rfl).1
  have G11 : mg "one_letter_more" = some (.ref (ad 11)) := (q 11 (mkD "one_letter_more" sMore) rfl).2
  have B11 : Binds K (fd 11) ["film", "goal"] [] := F11.bindsN fun _ _ _ _ _ _ us hl => match us, hl with | [_, _], _ => rfl
  have O11 : OkD P w K mg base 3 "one_letter_more" ["film", "goal"] (spTwo (Nat × Nat) eP moreM) := .mk' (ok_more T O0 O2 F11) G11 F11.kp B11
  have F12 : FnP K "one_letter_less" sLess (ad 12) (fd 12) := (q 12 (mkD "one_letter_less" sLess) rfl).1
  have G12 : mg "one_letter_less" = some (.ref (ad 12)) := (q 12 (mkD "one_letter_less" sLess) rfl).2
  have B12 : Binds K (fd 12) ["film", "goal"] [] := F12.bindsN fun _ _ _ _ _ _ us hl => match us, hl with | [_, _], _ => rfl
  have O12 : OkD P w K mg base 3 "one_letter_less" ["film", "goal"] (spNums lessM) := .mk' (ok_less T O0 O2 F12) G12 F12.kp B12
  have F13 : FnP K "_law_taken" sTaken (ad 13) (fd 13) := (q 13 (mkD "_law_taken" sTaken) rfl).1
  have G13 : mg "_law_taken" = some (.ref (ad 13)) := (q 13 (mkD "_law_taken" sTaken) rfl).2
  have B13 : Binds K (fd 13) ["_law_row", "_law_many"] [] := F13.bindsN fun _ _ _ _ _ _ us hl => match us, hl with | [_, _], _ => rfl
  have O13 : OkD P w K mg base 1 "_law_taken" ["_law_row", "_law_many"] (spTaken K) := .mk' (ok_taken T F13) G13 F13.kp B13
  have F14 : FnP K "_law_alike" sAlike (ad 14) (fd 14) := (q 14 (mkD "_law_alike" sAlike) rfl).1
  have G14 : mg "_law_alike" = some (.ref (ad 14)) := (q 14 (mkD "_law_alike" sAlike) rfl).2
  have B14 : Binds K (fd 14) ["_law_found", "_law_due"] [] := F14.bindsN fun _ _ _ _ _ _ us hl => match us, hl with | [_, _], _ => rfl
  have O14 : OkD P w K mg base 4 "_law_alike" ["_law_found", "_law_due"] (spAl 4) := .mk' (ok_alike T hbool F14 G14 F14.kp B14 4) G14 F14.kp B14
  have F15 : FnP K "_law_film" sFilm (ad 15) (fd 15) := (q 15 (mkD "_law_film" sFilm) rfl).1
  have G15 : mg "_law_film" = some (.ref (ad 15)) := (q 15 (mkD "_law_film" sFilm) rfl).2
  have B15 : Binds K (fd 15) ["_law_row", "_law_most", "_law_many"] [] := F15.bindsN fun _ _ _ _ _ _ us hl => match us, hl with | [_, _, _], _ => rfl
  have O15 : OkD P w K mg base 2 "_law_film" ["_law_row", "_law_most", "_law_many"] (spFilm K) := .mk' (ok_film T O13 F15) G15 F15.kp B15
  have F16 : FnP K "_law_partings" sParts (ad 16) (fd 16) := (q 16 (mkD "_law_partings" sParts) rfl).1
  have G16 : mg "_law_partings" = some (.ref (ad 16)) := (q 16 (mkD "_law_partings" sParts) rfl).2
  have B16 : Binds K (fd 16) ["_law_film_here", "_law_goal"] [] := F16.bindsN fun _ _ _ _ _ _ us hl => match us, hl with | [_, _], _ => rfl
  have O16 : OkD P w K mg base 1 "_law_partings" ["_law_film_here", "_law_goal"] spParts := .mk' (ok_parts T F16) G16 F16.kp B16
  have F17 : FnP K "_law_mended" sMended (ad 17) (fd 17) := (q 17 (mkD "_law_mended" sMended) rfl).1
  have G17 : mg "_law_mended" = some (.ref (ad 17)) := (q 17 (mkD "_law_mended" sMended) rfl).2
  have B17 : Binds K (fd 17) ["_law_words", "_law_letters", "_law_way"] [] := F17.bindsN fun _ _ _ _ _ _ us hl => match us, hl with | [_, _, _], _ => rfl
  have O17 : OkD P w K mg base 1 "_law_mended" ["_law_words", "_law_letters", "_law_way"] (spMended K) := .mk' (ok_mended T F17) G17 F17.kp B17
  have F18 : FnP K "law" sLaw (ad 18) (fd 18) := (q 18 (mkD "law" sLaw) rfl).1
  refine F18.ok scLaw (fun vs H Q E h => ?_) (fun cdv A outer s H vs Q E hr h => ?_)
  · obtain ⟨a, ns, rfl, _⟩ := h
    rfl
  · obtain ⟨a, ns, rfl, ha, hns, qq⟩ := h
    have c := SegR.cons (seg0 (P := P) (w := w) (K := K) (mg := mg) (base := base) (f := ad 18) (cdv := cdv) (A := A) (outer := outer) (s := s) (H0 := H) (E := E) (ns := ns))
      (SegR.cons (seg1 hns hr O15) (SegR.cons (seg2 T) (SegR.cons seg3 (SegR.cons (seg4 T hr O16 O17 pl_few) (SegR.cons (seg5 hr O7 O8 O9) (SegR.cons (seg6 hr O10) (SegR.cons (seg7 T pl_all) (SegR.cons (seg8 T pl_min)
      (SegR.cons seg9 (SegR.cons (seg10 T hr O16 pl_few) (SegR.cons seg11 (SegR.cons (seg12 T hr O16 pl_few) (seg13 T hr O11 O12 O14 pl_same)))))))))))))
    obtain ⟨t, p, h⟩ := c
    rw [← law_body] at p
    exact ⟨t, PSs.nox p, h _ _ H ⟨a, rfl, ha⟩ fun H' => qq H'⟩
end J
open PySem PySem.W PySem.Calls PyProof.Rows
end

theorem PySem.Challenge.cw_jumpcuts_k21_whole_mends_holds : PySem.Challenge.rw_jumpcuts_k21_whole_mends.Holds := by
  exact holdsOf J.goal
