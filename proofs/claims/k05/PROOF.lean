import PyProof.Rows.All
import Wide.All
import OpenK.AllK
import Wide.FinOn
import HandS.ForMost
import HandS.ForExc
import HandS.TupAny
import HandS.Walk
import PyProof.P3Eq
import PyProof.Claim2Refuses
import PyProof.NeData
import HandS.Flow
import HandS.Style
import HandS.Text
import HandS.Conv
import HandS.FStr
import KE.GoesEnum
import HandS.TryOnly
import HandS.Strs
import HandS.IsInst
import HandS.MakeKwOnly
import HandS.Property
import HandS.Small
import HandS.Exc
import KE.GoesComp
import HandS.List
import HandS.TryMany
import HandS.ExcIs
import HandS.Star
import PySem.Challenge.RW_everyfire_k05_whole_text_and_back
set_option Elab.async false
set_option linter.all false
set_option autoImplicit false
/-! RB: tuples whose object is told: it has no dict of its own. -/
namespace R
open PySem PySem.Spec PyProof.Rows L2
/-- a tuple's cell, its object told -/
abbrev tupC (ob : Obj) (xs : List V) : HO := .frz ob (.tup xs)
/-- a tuple that is known to have no dict -/
def TqT (K : PySem.W.Frag) (H : Hp) (a : Addr) (xs : List V) : Prop :=
  (∃ ob : Obj, ob.dict = none ∧ H a = some (tupC ob xs)) ∨ ∃ (ob : Obj) (us : Array Value) (n : Nat), K.lookup a = some ob ∧ ob.dict = none ∧ ob.cls = .type "tuple" ∧ ob.data = .seq us n ∧ us.size ≤ sizeLine ∧ Vals xs us.toList
theorem TqT.sq {K : PySem.W.Frag} {H : Hp} {a : Addr} {xs : List V} (h : TqT K H a xs) : SqT K H a xs := by
  rcases h with ⟨ob, _, h⟩ | ⟨ob, us, n, h1, h2, h3, h4, h5, h6⟩
  · exact .inl (.inr ⟨ob, h⟩)
  · exact .inr ⟨ob, us, n, h1, h3, h4, h5, h6⟩
section
variable {X : Cx} {pins : List (Addr × Obj)} {σ : L2.St} {H : Hp} {s : Shared}
/-- what stands behind a new tuple's object -/
theorem tup_laid {xs : List V} {us : List Value} (I : Inv X pins σ H s) (r : Vals xs us) (hz : xs.length ≤ sizeLine) :
    ∃ ob : Obj, ob.dict = none ∧ Inv X pins σ (upd H s.heap.objs.size (tupC ob xs)) { s with heap := s.heap.push { cls := .type "tuple", data := .seq us.toArray } } := by
  refine ⟨{ cls := .type "tuple", data := .seq us.toArray }, rfl, I.laid (t' := s.toks) (fun c o z => Heap.get?_push_of_some _ z) (Nat.le_refl _) ?_⟩
  exact ⟨Heap.get?_push_size _ rfl, hz, us, r, IsTup.new _ _⟩
end
section
variable {X : Cx} {pos : Pos} {es : List Expr} {t : TA}
def tTupB (t : TA) : TE := fun σ H Q => t σ H fun xs H1 => xs.length ≤ sizeLine ∧ ∀ p ob, H1 p = none → ob.dict = none → Q (.ref p) (upd H1 p (tupC ob xs))
theorem pe_tupB {x1} (h : PA X es t) : PE X (.Tuple es x1 pos) (tTupB t) := by
  refine ⟨fun pins s σ H Q I hq => wpAny_Tuple_spliced (thn (h.run pos pins s σ H _ I hq) fun us s1 z => ?_)⟩
  obtain ⟨xs, H1, I1, r, hz, q⟩ := z
  refine ⟨r.length ▸ hz, ?_⟩
  obtain ⟨ob, hd, I2⟩ := tup_laid I1 r hz
  exact ⟨.ref s1.heap.objs.size, _, I2, rfl, q _ ob (I1.hok.fresh (Nat.le_refl _)) hd⟩
/-- tuple(x) -/
theorem call_tupB : CallR X (.type "tuple") (fun xs H Q => ∃ p ys, xs = [.ref p] ∧ ((SqL X.K H p ys ∧ ∀ l ob, H l = none → ob.dict = none → Q (.ref l) (upd H l (tupC ob ys))) ∨ (SqT X.K H p ys ∧ Q (.ref p) H))) := by
  rintro pins s σ H xs us Q I r ⟨p, ys, rfl, h⟩
  obtain ⟨u, rfl, rx⟩ := vals1 r
  cases rx
  rcases h with ⟨hq, q⟩ | ⟨hq, q⟩
  · obtain ⟨vs, rv, pl, hz⟩ := I.list hq
    have hn := rv.length
    refine call_tuple_list pl.isList (fun h1 kp => ?_) (by rw [List.size_toArray, ← hn]; exact hz)
    have I1 : Inv X pins σ H { s with heap := h1 } := I.kept (t' := s.toks) kp
    obtain ⟨ob, hd, I2⟩ := tup_laid I1 rv hz
    exact ⟨.ref h1.objs.size, _, I2, rfl, q _ ob (I1.hok.fresh (Nat.le_refl _)) hd⟩
  · obtain ⟨vs, rv, pl, hz⟩ := I.tuple hq
    exact call_tuple_same pl ⟨.ref p, H, I, rfl, q⟩
/-- t[lo:hi] -/
def rSlB (K : PySem.W.Frag) : V → Option Int → Option Int → Hp → VK → Prop := fun x lo hi H Q => ∃ a xs, x = .ref a ∧ SqT K H a xs ∧
  ((HT.sIx xs.length 0 lo = 0 ∧ HT.sIx xs.length xs.length hi = xs.length) → Q (.ref a) H) ∧
  (¬ (HT.sIx xs.length 0 lo = 0 ∧ HT.sIx xs.length xs.length hi = xs.length) → ∀ p ob, H p = none → ob.dict = none → Q (.ref p) (upd H p (tupC ob (cutV xs lo hi))))
theorem sl_tupB : SlR X (rSlB X.K) := by
  rintro pins s σ H x v vl vu lo hi sl Q I rx hs pl pu ⟨a, xs, rfl, hx, q1, q2⟩
  by_cases hw : HT.sIx xs.length 0 lo = 0 ∧ HT.sIx xs.length xs.length hi = xs.length
  · exact sl_tupA pins s σ H _ v vl vu lo hi sl Q I rx hs pl pu ⟨a, xs, rfl, hx, q1, fun n => absurd hw n⟩
  · cases rx
    obtain ⟨us, rv, ht, hz⟩ := I.tuple hx
    have hn : us.toArray.size = xs.length := by rw [List.size_toArray, rv.length]
    refine ⟨"tuple", _, PyProof.Rows.slot_tuple_getitem.lookup, ht.typeIs, HT.getItem_tuple_cut ht hs pl pu (hn ▸ hw) ?_ (hn ▸ hz)⟩
    rw [hn]
    obtain ⟨ob, hd, I2⟩ := tup_laid I ((rv.drop (HT.sIx xs.length 0 lo)).take (HT.sIx xs.length xs.length hi - HT.sIx xs.length 0 lo)) (Nat.le_trans (cutV_length xs lo hi) hz)
    exact ⟨.ref s.heap.objs.size, _, I2, rfl, q2 hw _ ob (I.hok.fresh (Nat.le_refl _)) hd⟩
/-- t + u -/
def rCatB (K : PySem.W.Frag) : R2 := fun x y H Q => ∃ a b xs ys, x = .ref a ∧ y = .ref b ∧ SqT K H a xs ∧ SqT K H b ys ∧ xs.length + ys.length ≤ sizeLine ∧
  (xs = [] → Q (.ref b) H) ∧ (xs ≠ [] → ys = [] → Q (.ref a) H) ∧ (xs ≠ [] → ys ≠ [] → ∀ p ob, H p = none → ob.dict = none → Q (.ref p) (upd H p (tupC ob (xs ++ ys))))
theorem op_catB : OpR X (binaryOp .Add) (rCatB X.K) := by
  rintro pins s σ H x y v u Q I rx ry ⟨a, b, xs, ys, rfl, rfl, ha, hb, hz, q0, q1, q2⟩
  by_cases hx : xs = []
  · exact op_catA pins s σ H _ _ v u Q I rx ry ⟨a, b, xs, ys, rfl, rfl, ha, hb, hz, q0, fun n => absurd hx n, fun n => absurd hx n⟩
  · cases rx
    cases ry
    obtain ⟨us, r1, p1, _⟩ := I.tuple ha
    obtain ⟨ws, r2, p2, _⟩ := I.tuple hb
    refine HT.cat_tup p1 p2 (fun z => hx (r1.nil_iff.mp z)) (fun z => ⟨.ref a, H, I, rfl, q1 hx (r2.nil_iff.mp z)⟩) (fun z => ?_) (by rw [← r1.length, ← r2.length]; exact hz)
    obtain ⟨ob, hd, I2⟩ := tup_laid I (r1.append r2) (by rw [List.length_append]; exact hz)
    exact ⟨.ref s.heap.objs.size, _, I2, rfl, q2 hx (fun w => z (r2.nil_iff.mpr w)) _ ob (I.hok.fresh (Nat.le_refl _)) hd⟩
end
end R
set_option Elab.async false
set_option linter.all false
/-! R0: data D, what stands for it in the abstract heap (Rep), owned trees (Own), the state (OK) and its algebra. -/
namespace R
open PySem PySem.Spec PyProof.Rows L2
inductive D where
  | non | bl (b : Bool) | int (i : Int) | str (s : Str)
  | lst (xs : List D) | tup (xs : List D) | pr (xs : List D) | dic (ks : List Key) (xs : List D) | obj (k : Nat) (xs : List D)
  deriving Inhabited

abbrev Mg := Str → Option Value
/-- the program's classes, by number, and their fields in order -/
def cName : Nat → Str
  | 0 => "Land" | 1 => "Paper" | 2 => "Cut" | 3 => "Net" | 4 => "Course" | 5 => "Order" | 6 => "State" | 7 => "Trial" | 8 => "Book" | 9 => "Block" | _ => "Session"
def cFlds : Nat → List Str
  | 0 => ["winds", "places", "links", "paths"] | 1 => ["word", "labels", "chain"] | 2 => ["places", "ways"] | 3 => ["free"] | 4 => ["stays", "cuts", "end"] | 5 => ["places", "minute"]
  | 6 => ["lands", "cases"] | 7 => ["book", "state", "past", "future"] | 8 => ["state", "past", "future", "known", "entries", "decided", "kept"] | 9 => ["words", "lines"] | _ => ["book", "block"]
/-- its errors, and the field of each -/
def eName : Nat → Str
  | 0 => "EveryfireError" | 1 => "InvalidLand" | 2 => "UnknownName" | 3 => "InvalidWeather" | 4 => "InvalidPlan" | 5 => "InvalidNotation" | 6 => "InvalidPaper" | 7 => "InvalidQuestion" | 8 => "NameInUse" | 9 => "NothingToUndo"
  | 10 => "NothingToRedo" | _ => "NoCut"
def eFld : Nat → Option Str
  | 2 => some "name" | 4 => some "number" | 5 => some "line" | 6 => some "line" | 8 => some "name" | _ => none
/-- the written part, the module's names -/
structure Wd where
  K : PySem.W.Frag
  mg : Mg
mutual
def Rep (M : Wd) (H : Hp) : D → V → Prop
  | .non, v => v = .non
  | .bl b, v => v = .bl b
  | .int i, v => v = .int i
  | .str s, v => v = .str s
  | .lst ds, v => ∃ a vs, v = .ref a ∧ SqL M.K H a vs ∧ RepL M H ds vs
  | .tup ds, v => ∃ a vs, v = .ref a ∧ TqT M.K H a vs ∧ RepL M H ds vs
  | .pr ds, v => ∃ a vs, v = .ref a ∧ SqT M.K H a vs ∧ RepL M H ds vs
  | .dic ks ds, v => ∃ a vs, v = .ref a ∧ ks.length = vs.length ∧ Rd H a (.dK (ks.zip vs)) ∧ RepL M H ds vs
  | .obj k ds, v => ∃ a C dx vs, v = .ref a ∧ vs.length ≤ (cFlds k).length ∧ M.mg (cName k) = some (.ref C) ∧ H a = some (.ins C dx ((cFlds k).zip vs)) ∧ RepL M H ds vs
def RepL (M : Wd) (H : Hp) : List D → List V → Prop
  | [], vs => vs = []
  | d :: ds, vs => ∃ v r, vs = v :: r ∧ Rep M H d v ∧ RepL M H ds r
end
def Ext (G H : Hp) : Prop := ∀ a o, G a = some o → H a = some o
theorem Ext.refl (H : Hp) : Ext H H := fun _ _ h => h
theorem Ext.trans {A B C : Hp} (x : Ext A B) (y : Ext B C) : Ext A C := fun a o h => y a o (x a o h)
section
variable {M : Wd} {G H : Hp}
theorem rd_ext (x : Ext G H) {a : Addr} {o : HO} (h : Rd G a o) : Rd H a o := by
  rcases h with h | ⟨ob, h⟩
  · exact .inl (x _ _ h)
  · exact .inr ⟨ob, x _ _ h⟩
theorem sqL_ext {K : PySem.W.Frag} (x : Ext G H) {a : Addr} {vs : List V} (h : SqL K G a vs) : SqL K H a vs := by
  rcases h with (h | ⟨o, h⟩) | h
  · exact .inl (.inl (x _ _ h))
  · exact .inl (.inr ⟨o, x _ _ h⟩)
  · exact .inr h
theorem sqT_ext {K : PySem.W.Frag} (x : Ext G H) {a : Addr} {vs : List V} (h : SqT K G a vs) : SqT K H a vs := by
  rcases h with (h | ⟨o, h⟩) | h
  · exact .inl (.inl (x _ _ h))
  · exact .inl (.inr ⟨o, x _ _ h⟩)
  · exact .inr h
theorem tqT_ext {K : PySem.W.Frag} (x : Ext G H) {a : Addr} {vs : List V} (h : TqT K G a vs) : TqT K H a vs := by
  rcases h with ⟨ob, hd, h⟩ | h
  · exact .inl ⟨ob, hd, x _ _ h⟩
  · exact .inr h
mutual
theorem Rep.mono (x : Ext G H) : ∀ {d : D} {v : V}, Rep M G d v → Rep M H d v
  | .non, _, h => h
  | .bl _, _, h => h
  | .int _, _, h => h
  | .str _, _, h => h
  | .lst _, _, ⟨a, vs, e, s, r⟩ => ⟨a, vs, e, sqL_ext x s, RepL.mono x r⟩
  | .tup _, _, ⟨a, vs, e, s, r⟩ => ⟨a, vs, e, tqT_ext x s, RepL.mono x r⟩
  | .pr _, _, ⟨a, vs, e, s, r⟩ => ⟨a, vs, e, sqT_ext x s, RepL.mono x r⟩
  | .dic _ _, _, ⟨a, vs, e, l, s, r⟩ => ⟨a, vs, e, l, rd_ext x s, RepL.mono x r⟩
  | .obj _ _, _, ⟨a, C, dx, vs, e, l, m, s, r⟩ => ⟨a, C, dx, vs, e, l, m, x _ _ s, RepL.mono x r⟩
theorem RepL.mono (x : Ext G H) : ∀ {d : List D} {v : List V}, RepL M G d v → RepL M H d v
  | [], _, h => h
  | _ :: _, _, ⟨v, r, e, h1, h2⟩ => ⟨v, r, e, h1.mono x, RepL.mono x h2⟩
end
theorem RepL.length : ∀ {ds : List D} {vs : List V}, RepL M H ds vs → vs.length = ds.length
  | [], _, h => by rw [h]; rfl
  | _ :: _, _, ⟨_, _, e, _, h2⟩ => by rw [e, List.length_cons, List.length_cons, RepL.length h2]
end

/-! ### shapes of ownership -/
inductive Sh where
  /-- frozen: never changes again -/
  | fro
  /-- lent: a flat tree of somebody else's, read only -/
  | lnt
  /-- a list or a dict of one's own, its items of the shape s -/
  | con (s : Sh)
  /-- an instance of one's own, its fields' shapes -/
  | obj (ss : List Sh)
  /-- the same, its address told -/
  | slf (a : Addr) (ss : List Sh)
  deriving Inhabited

inductive All3 {α β γ : Type} (P : α → β → γ → Prop) : List α → List β → List γ → Prop
  | nil : All3 P [] [] []
  | cons {a b c as bs cs} : P a b c → All3 P as bs cs → All3 P (a :: as) (b :: bs) (c :: cs)
theorem All3.imp {α β γ : Type} {P P' : α → β → γ → Prop} : ∀ {as : List α} {bs : List β} {cs : List γ}, All3 P as bs cs → (∀ a b c, c ∈ cs → P a b c → P' a b c) → All3 P' as bs cs
  | _, _, _, .nil, _ => .nil
  | _, _, _, .cons p t, h => .cons (h _ _ _ List.mem_cons_self p) (All3.imp t fun a b c hc => h a b c (List.mem_cons_of_mem _ hc))

/-- what a call leaves of the caller's: U, as it stands in B -/
structure Ctx where
  G0 : Hp
  U : Addr → Prop
  B : Hp

mutual
def Own (M : Wd) (U : Addr → Prop) (G H : Hp) : Sh → D → V → List Addr → Prop
  | .fro, d, v, F => F = [] ∧ Rep M G d v
  | .lnt, d, v, F => F = [] ∧ ∃ a, v = .ref a ∧ U a ∧
      ((∃ ds vs, d = .lst ds ∧ H a = some (.lst vs) ∧ RepL M G ds vs) ∨ (∃ ks ds vs, d = .dic ks ds ∧ ks.length = vs.length ∧ H a = some (.dK (ks.zip vs)) ∧ RepL M G ds vs)
        ∨ (∃ k ds C dx vs, d = .obj k ds ∧ vs.length ≤ (cFlds k).length ∧ M.mg (cName k) = some (.ref C) ∧ H a = some (.ins C dx ((cFlds k).zip vs)) ∧ RepL M G ds vs))
  | .con s, d, v, F => ∃ a Fs, v = .ref a ∧ F = a :: Fs.flatten ∧
      ((∃ ds vs, d = .lst ds ∧ H a = some (.lst vs) ∧ All3 (fun d v F => Own M U G H s d v F) ds vs Fs) ∨ (∃ ks ds vs, d = .dic ks ds ∧ ks.length = vs.length ∧ H a = some (.dK (ks.zip vs)) ∧ All3 (fun d v F => Own M U G H s d v F) ds vs Fs))
  | .obj ss, d, v, F => ∃ a Fs k ds C dx vs, v = .ref a ∧ F = a :: Fs.flatten ∧ d = .obj k ds ∧ vs.length ≤ (cFlds k).length ∧ M.mg (cName k) = some (.ref C) ∧ H a = some (.ins C dx ((cFlds k).zip vs)) ∧ OwnS M U G H ss ds vs Fs
  | .slf a0 ss, d, v, F => v = .ref a0 ∧ ∃ a Fs k ds C dx vs, v = .ref a ∧ F = a :: Fs.flatten ∧ d = .obj k ds ∧ vs.length ≤ (cFlds k).length ∧ M.mg (cName k) = some (.ref C) ∧ H a = some (.ins C dx ((cFlds k).zip vs)) ∧ OwnS M U G H ss ds vs Fs
def OwnS (M : Wd) (U : Addr → Prop) (G H : Hp) : List Sh → List D → List V → List (List Addr) → Prop
  | [], ds, vs, Fs => ds = [] ∧ vs = [] ∧ Fs = []
  | s :: ss, ds, vs, Fs => ∃ d dr v vr F Fr, ds = d :: dr ∧ vs = v :: vr ∧ Fs = F :: Fr ∧ Own M U G H s d v F ∧ OwnS M U G H ss dr vr Fr
end
section
variable {M : Wd} {U U' : Addr → Prop} {G G' H H' : Hp}
theorem All3.toRep {P : D → V → List Addr → Prop} (h : ∀ d v F, P d v F → Rep M H d v) : ∀ {ds : List D} {vs : List V} {Fs : List (List Addr)}, All3 P ds vs Fs → RepL M H ds vs
  | _, _, _, .nil => rfl
  | _, _, _, .cons p t => ⟨_, _, rfl, h _ _ _ p, All3.toRep h t⟩
mutual
/-- readable in the heap as it stands -/
theorem Own.rep (x : Ext G H) : ∀ (s : Sh) {d : D} {v : V} {F : List Addr}, Own M U G H s d v F → Rep M H d v
  | .fro, _, _, _, ⟨_, r⟩ => r.mono x
  | .lnt, _, _, _, ⟨_, a, e, _, h⟩ => by
    subst e
    rcases h with ⟨ds, vs, rfl, h, r⟩ | ⟨ks, ds, vs, rfl, l, h, r⟩ | ⟨k, ds, C, dx, vs, rfl, l, m, h, r⟩
    · exact ⟨a, vs, rfl, .inl (.inl h), r.mono x⟩
    · exact ⟨a, vs, rfl, l, .inl h, r.mono x⟩
    · exact ⟨a, C, dx, vs, rfl, l, m, h, r.mono x⟩
  | .con s, _, _, _, ⟨a, Fs, e, _, h⟩ => by
    subst e
    rcases h with ⟨ds, vs, rfl, h, r⟩ | ⟨ks, ds, vs, rfl, l, h, r⟩
    · exact ⟨a, vs, rfl, .inl (.inl h), r.toRep fun _ _ _ q => Own.rep x s q⟩
    · exact ⟨a, vs, rfl, l, .inl h, r.toRep fun _ _ _ q => Own.rep x s q⟩
  | .obj ss, _, _, _, ⟨a, Fs, k, ds, C, dx, vs, e, _, ed, l, m, h, r⟩ => by
    subst e; subst ed
    exact ⟨a, C, dx, vs, rfl, l, m, h, OwnS.rep x ss r⟩
  | .slf _ ss, _, _, _, ⟨_, a, Fs, k, ds, C, dx, vs, e, _, ed, l, m, h, r⟩ => by
    subst e; subst ed
    exact ⟨a, C, dx, vs, rfl, l, m, h, OwnS.rep x ss r⟩
theorem OwnS.rep (x : Ext G H) : ∀ (ss : List Sh) {ds : List D} {vs : List V} {Fs : List (List Addr)}, OwnS M U G H ss ds vs Fs → RepL M H ds vs
  | [], _, _, _, ⟨e1, e2, _⟩ => by subst e1; subst e2; rfl
  | s :: ss, _, _, _, ⟨d, dr, v, vr, F, Fr, e1, e2, _, h1, h2⟩ => by subst e1; subst e2; exact ⟨v, vr, rfl, Own.rep x s h1, OwnS.rep x ss h2⟩
end
theorem mem_flat_of {F : List Addr} {Fs : List (List Addr)} {b : Addr} (h : F ∈ Fs) (hb : b ∈ F) : b ∈ Fs.flatten := List.mem_flatten.mpr ⟨F, h, hb⟩
mutual
/-- kept where its own cells (and the lent ones) are -/
theorem Own.keep (x : Ext G G') (hu : ∀ a, U a → U' a ∧ H' a = H a) : ∀ (s : Sh) {d : D} {v : V} {F : List Addr}, (∀ a ∈ F, H' a = H a) → Own M U G H s d v F → Own M U' G' H' s d v F
  | .fro, _, _, _, _, ⟨e, r⟩ => ⟨e, r.mono x⟩
  | .lnt, _, _, _, _, ⟨e, a, ev, ua, h⟩ => by
    refine ⟨e, a, ev, (hu a ua).1, ?_⟩
    rw [(hu a ua).2]
    rcases h with ⟨ds, vs, e, h, r⟩ | ⟨ks, ds, vs, e, l, h, r⟩ | ⟨k, ds, C, dx, vs, e, l, m, h, r⟩
    · exact .inl ⟨ds, vs, e, h, r.mono x⟩
    · exact .inr (.inl ⟨ks, ds, vs, e, l, h, r.mono x⟩)
    · exact .inr (.inr ⟨k, ds, C, dx, vs, e, l, m, h, r.mono x⟩)
  | .con s, _, _, _, k, ⟨a, Fs, e, ef, h⟩ => by
    subst ef
    refine ⟨a, Fs, e, rfl, ?_⟩
    rw [k a List.mem_cons_self]
    have sub : ∀ {as : List D} {bs : List V}, All3 (fun d v F => Own M U G H s d v F) as bs Fs → All3 (fun d v F => Own M U' G' H' s d v F) as bs Fs := fun r =>
      r.imp fun d v F hF q => Own.keep x hu s (fun b hb => k b (List.mem_cons_of_mem _ (mem_flat_of hF hb))) q
    rcases h with ⟨ds, vs, e, h, r⟩ | ⟨ks, ds, vs, e, l, h, r⟩
    · exact .inl ⟨ds, vs, e, h, sub r⟩
    · exact .inr ⟨ks, ds, vs, e, l, h, sub r⟩
  | .obj ss, _, _, _, k, ⟨a, Fs, kk, ds, C, dx, vs, e, ef, ed, l, m, h, r⟩ => by
    subst ef
    refine ⟨a, Fs, kk, ds, C, dx, vs, e, rfl, ed, l, m, (k a List.mem_cons_self).trans h, OwnS.keep x hu ss (fun b hb => k b (List.mem_cons_of_mem _ hb)) r⟩
  | .slf _ ss, _, _, _, k, ⟨e0, a, Fs, kk, ds, C, dx, vs, e, ef, ed, l, m, h, r⟩ => by
    subst ef
    exact ⟨e0, a, Fs, kk, ds, C, dx, vs, e, rfl, ed, l, m, (k a List.mem_cons_self).trans h, OwnS.keep x hu ss (fun b hb => k b (List.mem_cons_of_mem _ hb)) r⟩
theorem OwnS.keep (x : Ext G G') (hu : ∀ a, U a → U' a ∧ H' a = H a) : ∀ (ss : List Sh) {ds : List D} {vs : List V} {Fs : List (List Addr)}, (∀ a ∈ Fs.flatten, H' a = H a) → OwnS M U G H ss ds vs Fs → OwnS M U' G' H' ss ds vs Fs
  | [], _, _, _, _, h => h
  | s :: ss, _, _, _, k, ⟨d, dr, v, vr, F, Fr, e1, e2, e3, h1, h2⟩ => by
    subst e3
    rw [List.flatten_cons] at k
    exact ⟨d, dr, v, vr, F, Fr, e1, e2, rfl, Own.keep x hu s (fun b hb => k b (List.mem_append_left _ hb)) h1, OwnS.keep x hu ss (fun b hb => k b (List.mem_append_right _ hb)) h2⟩
end
theorem All3.there {P : D → V → List Addr → Prop} (h : ∀ d v F, P d v F → ∀ a ∈ F, ∃ o, H a = some o) : ∀ {ds : List D} {vs : List V} {Fs : List (List Addr)}, All3 P ds vs Fs → ∀ a ∈ Fs.flatten, ∃ o, H a = some o
  | _, _, _, .nil, a, ha => by simp at ha
  | _, _, _, .cons p t, a, ha => by
    rw [List.flatten_cons, List.mem_append] at ha
    rcases ha with ha | ha
    · exact h _ _ _ p a ha
    · exact All3.there h t a ha
mutual
theorem Own.there : ∀ (s : Sh) {d : D} {v : V} {F : List Addr}, Own M U G H s d v F → ∀ a ∈ F, ∃ o, H a = some o
  | .fro, _, _, _, ⟨e, _⟩, a, ha => by subst e; cases ha
  | .lnt, _, _, _, ⟨e, _⟩, a, ha => by subst e; cases ha
  | .con s, _, _, _, ⟨b, Fs, _, ef, h⟩, a, ha => by
    subst ef
    rcases List.mem_cons.mp ha with rfl | ha
    · rcases h with ⟨ds, vs, e, h, r⟩ | ⟨ks, ds, vs, e, l, h, r⟩ <;> exact ⟨_, h⟩
    · rcases h with ⟨ds, vs, e, h, r⟩ | ⟨ks, ds, vs, e, l, h, r⟩
      · exact r.there (fun _ _ _ q => Own.there s q) a ha
      · exact r.there (fun _ _ _ q => Own.there s q) a ha
  | .obj ss, _, _, _, ⟨b, Fs, kk, ds, C, dx, vs, e, ef, ed, l, m, h, r⟩, a, ha => by
    subst ef
    rcases List.mem_cons.mp ha with rfl | ha
    · exact ⟨_, h⟩
    · exact OwnS.there ss r a ha
  | .slf _ ss, _, _, _, ⟨_, b, Fs, kk, ds, C, dx, vs, e, ef, ed, l, m, h, r⟩, a, ha => by
    subst ef
    rcases List.mem_cons.mp ha with rfl | ha
    · exact ⟨_, h⟩
    · exact OwnS.there ss r a ha
theorem OwnS.there : ∀ (ss : List Sh) {ds : List D} {vs : List V} {Fs : List (List Addr)}, OwnS M U G H ss ds vs Fs → ∀ a ∈ Fs.flatten, ∃ o, H a = some o
  | [], _, _, _, ⟨_, _, e⟩, a, ha => by subst e; simp at ha
  | s :: ss, _, _, _, ⟨d, dr, v, vr, F, Fr, e1, e2, e3, h1, h2⟩, a, ha => by
    subst e3
    rw [List.flatten_cons, List.mem_append] at ha
    rcases ha with ha | ha
    · exact Own.there s h1 a ha
    · exact OwnS.there ss h2 a ha
end
end

/-! ### owners -/
inductive Ow where
  /-- a value -/
  | val (v : V) (s : Sh) (d : D)
  /-- a bare cell -/
  | cel (a : Addr) (o : HO)
  /-- a lasting fact about the frozen part -/
  | pin (φ : Hp → Prop)
def Fp (M : Wd) (U : Addr → Prop) (G H : Hp) : Ow → List Addr → Prop
  | .val v s d, F => Own M U G H s d v F
  | .cel a o, F => F = [a] ∧ H a = some o
  | .pin φ, F => F = [] ∧ ∀ G', Ext G G' → φ G'
theorem Fp.keep {M : Wd} {U U' : Addr → Prop} {G G' H H' : Hp} (x : Ext G G') (hu : ∀ a, U a → U' a ∧ H' a = H a) {w : Ow} {F : List Addr} (k : ∀ a ∈ F, H' a = H a) (h : Fp M U G H w F) : Fp M U' G' H' w F := by
  cases w with
  | val v s d => exact Own.keep x hu s k h
  | cel a o => exact ⟨h.1, (k a (by rw [h.1]; exact List.mem_singleton_self a)).trans h.2⟩
  | pin φ => exact ⟨h.1, fun G'' x' => h.2 G'' (x.trans x')⟩
theorem Fp.there {M : Wd} {U : Addr → Prop} {G H : Hp} {w : Ow} {F : List Addr} (h : Fp M U G H w F) : ∀ a ∈ F, ∃ o, H a = some o := by
  cases w with
  | val v s d => exact Own.there s h
  | cel a o =>
    intro b hb
    rw [h.1, List.mem_singleton] at hb
    exact ⟨o, hb ▸ h.2⟩
  | pin φ => intro b hb; rw [h.1] at hb; cases hb

/-- the owners stand side by side -/
structure OKx (M : Wd) (c : Ctx) (G H : Hp) (L : List Ow) (Fs : List (List Addr)) : Prop where
  g0 : Ext c.G0 G
  gh : Ext G H
  un : ∀ a, c.U a → G a = none ∧ H a = c.B a ∧ ∃ o, c.B a = some o
  own : Paired (Fp M c.U G H) L Fs
  nd : Fs.flatten.Nodup
  ap : ∀ a ∈ Fs.flatten, G a = none ∧ ¬ c.U a
def OK (M : Wd) (c : Ctx) (H : Hp) (L : List Ow) : Prop := ∃ G Fs, OKx M c G H L Fs
end R
set_option Elab.async false
set_option linter.all false
/-! R1: the algebra of owners. -/
namespace R
open PySem PySem.Spec PyProof.Rows L2
theorem Paired.perm {α β : Type} {P : α → β → Prop} {L L' : List α} (p : L.Perm L') : ∀ {Fs : List β}, Paired P L Fs → ∃ Fs', Paired P L' Fs' ∧ Fs.Perm Fs' := by
  induction p with
  | nil => intro Fs h; exact ⟨Fs, h, .refl _⟩
  | cons x _ ih =>
    intro Fs h
    cases h with
    | cons h1 h2 =>
      obtain ⟨Fs', a, b⟩ := ih h2
      exact ⟨_, .cons h1 a, b.cons _⟩
  | swap x y l =>
    intro Fs h
    cases h with
    | cons h1 h2 => cases h2 with
      | cons h3 h4 => exact ⟨_, .cons h3 (.cons h1 h4), .swap _ _ _⟩
  | trans _ _ ih1 ih2 =>
    intro Fs h
    obtain ⟨F1, a, b⟩ := ih1 h
    obtain ⟨F2, c, d⟩ := ih2 a
    exact ⟨F2, c, b.trans d⟩
theorem Paired.split {α β : Type} {P : α → β → Prop} : ∀ {L1 L2 : List α} {Fs : List β}, Paired P (L1 ++ L2) Fs → ∃ F1 F2, Fs = F1 ++ F2 ∧ Paired P L1 F1 ∧ Paired P L2 F2
  | [], _, Fs, h => ⟨[], Fs, rfl, .nil, h⟩
  | _ :: _, _, _, .cons h t => by
    obtain ⟨F1, F2, e, a, b⟩ := Paired.split t
    exact ⟨_ :: F1, F2, by rw [e]; rfl, .cons h a, b⟩
theorem Paired.join {α β : Type} {P : α → β → Prop} : ∀ {L1 L2 : List α} {F1 F2 : List β}, Paired P L1 F1 → Paired P L2 F2 → Paired P (L1 ++ L2) (F1 ++ F2)
  | _, _, _, _, .nil, h => h
  | _, _, _, _, .cons h t, q => .cons h (Paired.join t q)
theorem pr_impM {α β : Type} {P P' : α → β → Prop} : ∀ {L : List α} {Fs : List β}, Paired P L Fs → (∀ a b, b ∈ Fs → P a b → P' a b) → Paired P' L Fs
  | _, _, .nil, _ => .nil
  | _, _, .cons h t, f => .cons (f _ _ List.mem_cons_self h) (pr_impM t fun a b hb => f a b (List.mem_cons_of_mem _ hb))
theorem flat_perm {α : Type} {Fs Fs' : List (List α)} (p : Fs.Perm Fs') : Fs.flatten.Perm Fs'.flatten := p.flatten

section
variable {M : Wd} {c : Ctx} {H : Hp} {L L' : List Ow}
theorem OK.perm (h : OK M c H L) (p : L.Perm L') : OK M c H L' := by
  obtain ⟨G, Fs, x⟩ := h
  obtain ⟨Fs', a, b⟩ := Paired.perm p x.own
  exact ⟨G, Fs', x.g0, x.gh, x.un, a, (flat_perm b).nodup_iff.mp x.nd, fun q hq => x.ap q ((flat_perm b).mem_iff.mpr hq)⟩
theorem OK.drop {w : Ow} (h : OK M c H (w :: L)) : OK M c H L := by
  obtain ⟨G, Fs, x⟩ := h
  obtain ⟨g0, gh, un, own, nd, ap⟩ := x
  cases own with
  | cons h1 h2 =>
    rw [List.flatten_cons] at nd ap
    exact ⟨G, _, g0, gh, un, h2, (List.nodup_append.mp nd).2.1, fun q hq => ap q (List.mem_append_right _ hq)⟩
theorem OK.drops : ∀ {L1 : List Ow}, OK M c H (L1 ++ L) → OK M c H L
  | [], h => h
  | _ :: _, h => OK.drops h.drop
/-- what is owned may be read -/
theorem OK.read {v : V} {s : Sh} {d : D} (h : OK M c H (.val v s d :: L)) : Rep M H d v := by
  obtain ⟨G, Fs, x⟩ := h
  obtain ⟨g0, gh, un, own, nd, ap⟩ := x
  cases own with
  | cons h1 h2 => exact Own.rep gh s h1
theorem OK.cell {a : Addr} {o : HO} (h : OK M c H (.cel a o :: L)) : H a = some o := by
  obtain ⟨G, Fs, x⟩ := h
  obtain ⟨g0, gh, un, own, nd, ap⟩ := x
  cases own with
  | cons h1 h2 => exact h1.2
theorem OK.pinned {φ : Hp → Prop} (h : OK M c H (.pin φ :: L)) : φ H := by
  obtain ⟨G, Fs, x⟩ := h
  obtain ⟨g0, gh, un, own, nd, ap⟩ := x
  cases own with
  | cons h1 h2 => exact h1.2 _ gh
/-- an empty footprint is put ahead -/
theorem OK.add0 {w : Ow} (h : OK M c H L) (hw : ∀ G, Ext G H → Fp M c.U G H w []) : OK M c H (w :: L) := by
  obtain ⟨G, Fs, x⟩ := h
  exact ⟨G, [] :: Fs, x.g0, x.gh, x.un, .cons (hw G x.gh) x.own, by rw [List.flatten_cons]; exact x.nd, by rw [List.flatten_cons]; exact x.ap⟩
theorem OK.pin {φ : Hp → Prop} (h : OK M c H L) (hφ : ∀ G, φ G) : OK M c H (.pin φ :: L) := h.add0 fun _ _ => ⟨rfl, fun _ _ => hφ _⟩
theorem OK.lit {d : D} {v : V} (h : OK M c H L) (hd : ∀ G, Rep M G d v) : OK M c H (.val v .fro d :: L) := h.add0 fun G _ => ⟨rfl, hd G⟩
theorem OK.map1 {w w' : Ow} (h : OK M c H (w :: L)) (f : ∀ G F, Ext G H → Fp M c.U G H w F → Fp M c.U G H w' F) : OK M c H (w' :: L) := by
  obtain ⟨G, Fs, x⟩ := h
  obtain ⟨g0, gh, un, own, nd, ap⟩ := x
  cases own with
  | cons h1 h2 => exact ⟨G, _, g0, gh, un, .cons (f _ _ gh h1) h2, nd, ap⟩
theorem OK.pinMap {φ ψ : Hp → Prop} (h : OK M c H (.pin φ :: L)) (f : ∀ G, φ G → ψ G) : OK M c H (.pin ψ :: L) := h.map1 fun _ _ _ q => ⟨q.1, fun G' x => f _ (q.2 G' x)⟩
theorem OK.toPin {d : D} {v : V} (h : OK M c H (.val v .fro d :: L)) : OK M c H (.pin (fun G => Rep M G d v) :: L) := h.map1 fun _ _ _ q => ⟨q.1, fun _ x => q.2.mono x⟩
theorem OK.ofPin {d : D} {v : V} (h : OK M c H (.pin (fun G => Rep M G d v) :: L)) : OK M c H (.val v .fro d :: L) := h.map1 fun G _ _ q => ⟨q.1, q.2 G (Ext.refl G)⟩
theorem OK.pinDup {φ : Hp → Prop} (h : OK M c H (.pin φ :: L)) : OK M c H (.pin φ :: .pin φ :: L) := by
  obtain ⟨G, Fs, x⟩ := h
  obtain ⟨g0, gh, un, own, nd, ap⟩ := x
  cases own with
  | cons h1 h2 =>
    obtain ⟨rfl, h1⟩ := h1
    exact ⟨G, [] :: [] :: _, g0, gh, un, .cons ⟨rfl, h1⟩ (.cons ⟨rfl, h1⟩ h2), nd, ap⟩
theorem OK.pinEx {ι : Sort _} {φ : ι → Hp → Prop} (h : OK M c H (.pin (fun G => ∃ i, φ i G) :: L)) (f : ∀ i G G', Ext G G' → φ i G → φ i G') : ∃ i, OK M c H (.pin (φ i) :: L) := by
  obtain ⟨G, Fs, x⟩ := h
  obtain ⟨g0, gh, un, own, nd, ap⟩ := x
  cases own with
  | cons h1 h2 =>
    obtain ⟨e, h1⟩ := h1
    obtain ⟨i, hi⟩ := h1 G (Ext.refl G)
    exact ⟨i, G, _, g0, gh, un, .cons ⟨e, fun G' x => f i G G' x hi⟩ h2, nd, ap⟩
theorem OK.pinAnd {φ ψ : Hp → Prop} (h : OK M c H (.pin φ :: .pin ψ :: L)) : OK M c H (.pin (fun G => φ G ∧ ψ G) :: L) := by
  obtain ⟨G, Fs, x⟩ := h
  obtain ⟨g0, gh, un, own, nd, ap⟩ := x
  cases own with
  | cons h1 h2 => cases h2 with
    | cons h3 h4 =>
      obtain ⟨rfl, h1⟩ := h1
      obtain ⟨rfl, h3⟩ := h3
      exact ⟨G, [] :: _, g0, gh, un, .cons ⟨rfl, fun G' x => ⟨h1 G' x, h3 G' x⟩⟩ h4, nd, ap⟩
theorem OK.dup {d : D} {v : V} (h : OK M c H (.val v .fro d :: L)) : OK M c H (.val v .fro d :: .val v .fro d :: L) := by
  have h1 := h.toPin.pinDup.ofPin
  have h2 := (h1.perm (List.Perm.swap _ _ _)).ofPin
  exact h2
/-- a new cell -/
theorem OK.new {p : Addr} {o : HO} (h : OK M c H L) (hp : H p = none) : OK M c (upd H p o) (.cel p o :: L) := by
  obtain ⟨G, Fs, x⟩ := h
  have hU : ¬ c.U p := fun u => by
    obtain ⟨_, e, ob, q⟩ := x.un p u
    rw [hp, q] at e; cases e
  have keep : ∀ a ∈ Fs.flatten, a ≠ p := fun a ha z => by
    subst z
    have : ∀ {L : List Ow} {Fs : List (List Addr)}, Paired (Fp M c.U G H) L Fs → a ∈ Fs.flatten → ∃ o, H a = some o := by
      intro L Fs q
      induction q with
      | nil => intro z; simp at z
      | cons h1 _ ih =>
        intro z
        rw [List.flatten_cons, List.mem_append] at z
        exact z.elim (fun z => h1.there a z) ih
    obtain ⟨ob, e⟩ := this x.own ha
    rw [hp] at e; cases e
  have gp : G p = none := by
    cases e : G p with
    | none => rfl
    | some ob => rw [x.gh p ob e] at hp; cases hp
  refine ⟨G, [p] :: Fs, x.g0, fun a ob e => ?_, fun a u => ?_, .cons ⟨rfl, upd_same⟩ (pr_impM x.own fun w F hF q => ?_), ?_, ?_⟩
  · rw [upd_ne (fun z => by rw [z, gp] at e; cases e)]; exact x.gh a ob e
  · rw [upd_ne (show a ≠ p from fun z => hU (z ▸ u))]; exact x.un a u
  · exact q.keep (Ext.refl G) (fun a u => ⟨u, upd_ne (show a ≠ p from fun z => hU (z ▸ u))⟩) fun a ha => upd_ne (keep a (mem_flat_of hF ha))
  · rw [List.flatten_cons, List.singleton_append, List.nodup_cons]
    exact ⟨fun z => keep p z rfl, x.nd⟩
  · intro a ha
    rw [List.flatten_cons, List.singleton_append] at ha
    rcases List.mem_cons.mp ha with rfl | ha
    · exact ⟨gp, hU⟩
    · exact x.ap a ha
/-- a cell is written -/
theorem OK.upd {p : Addr} {o o' : HO} (h : OK M c H (.cel p o :: L)) : OK M c (L2.upd H p o') (.cel p o' :: L) := by
  obtain ⟨G, Fs, x⟩ := h
  obtain ⟨g0, gh, un, own, nd, ap⟩ := x
  cases own with
  | cons h1 h2 =>
    obtain ⟨rfl, h1⟩ := h1
    rw [List.flatten_cons, List.singleton_append] at nd ap
    have nd' := List.nodup_cons.mp nd
    obtain ⟨gp, hU⟩ := ap p List.mem_cons_self
    refine ⟨G, [p] :: _, g0, fun a ob e => ?_, fun a u => ?_, .cons ⟨rfl, upd_same⟩ (pr_impM h2 fun w F hF q => ?_), nd, ap⟩
    · rw [upd_ne (fun z => by rw [z, gp] at e; cases e)]; exact gh a ob e
    · rw [upd_ne (show a ≠ p from fun z => hU (z ▸ u))]; exact un a u
    · exact q.keep (Ext.refl G) (fun a u => ⟨u, upd_ne (show a ≠ p from fun z => hU (z ▸ u))⟩) fun a ha => upd_ne (fun z => nd'.1 (z ▸ mem_flat_of hF ha))
/-- a cell is written that isn't there (for what HandS leaves): the same heap -/
theorem OK.heap {H' : Hp} (h : OK M c H L) (e : H = H') : OK M c H' L := e ▸ h
end

/-! ### freezing -/
mutual
def Sh.solid : Sh → Prop
  | .fro => True
  | .lnt => False
  | .con s => s.solid
  | .obj ss => Sh.solids ss
  | .slf _ _ => False
def Sh.solids : List Sh → Prop
  | [] => True
  | s :: ss => s.solid ∧ Sh.solids ss
end
section
variable {M : Wd} {U U' : Addr → Prop} {G G' H H' : Hp}
mutual
/-- a solid tree is kept where its own cells are, whatever is lent -/
theorem Own.keepS (x : Ext G G') : ∀ (s : Sh) {d : D} {v : V} {F : List Addr}, s.solid → (∀ a ∈ F, H' a = H a) → Own M U G H s d v F → Own M U' G' H' s d v F
  | .fro, _, _, _, _, _, ⟨e, r⟩ => ⟨e, r.mono x⟩
  | .lnt, _, _, _, z, _, _ => z.elim
  | .con s, _, _, _, z, k, ⟨a, Fs, e, ef, h⟩ => by
    subst ef
    refine ⟨a, Fs, e, rfl, ?_⟩
    rw [k a List.mem_cons_self]
    have sub : ∀ {as : List D} {bs : List V}, All3 (fun d v F => Own M U G H s d v F) as bs Fs → All3 (fun d v F => Own M U' G' H' s d v F) as bs Fs := fun r =>
      r.imp fun d v F hF q => Own.keepS x s z (fun b hb => k b (List.mem_cons_of_mem _ (mem_flat_of hF hb))) q
    rcases h with ⟨ds, vs, e, h, r⟩ | ⟨ks, ds, vs, e, l, h, r⟩
    · exact .inl ⟨ds, vs, e, h, sub r⟩
    · exact .inr ⟨ks, ds, vs, e, l, h, sub r⟩
  | .obj ss, _, _, _, z, k, ⟨a, Fs, kk, ds, C, dx, vs, e, ef, ed, l, m, h, r⟩ => by
    subst ef
    refine ⟨a, Fs, kk, ds, C, dx, vs, e, rfl, ed, l, m, (k a List.mem_cons_self).trans h, OwnS.keepS x ss z (fun b hb => k b (List.mem_cons_of_mem _ hb)) r⟩
  | .slf _ _, _, _, _, z, _, _ => z.elim
theorem OwnS.keepS (x : Ext G G') : ∀ (ss : List Sh) {ds : List D} {vs : List V} {Fs : List (List Addr)}, Sh.solids ss → (∀ a ∈ Fs.flatten, H' a = H a) → OwnS M U G H ss ds vs Fs → OwnS M U' G' H' ss ds vs Fs
  | [], _, _, _, _, _, h => h
  | s :: ss, _, _, _, z, k, ⟨d, dr, v, vr, F, Fr, e1, e2, e3, h1, h2⟩ => by
    subst e3
    rw [List.flatten_cons] at k
    exact ⟨d, dr, v, vr, F, Fr, e1, e2, rfl, Own.keepS x s z.1 (fun b hb => k b (List.mem_append_left _ hb)) h1, OwnS.keepS x ss z.2 (fun b hb => k b (List.mem_append_right _ hb)) h2⟩
end
end
section
variable {M : Wd} {c : Ctx} {H : Hp} {L L' : List Ow}
/-- the footprint of the first one joins the frozen part -/
theorem OK.sink {w : Ow} {φ : Hp → Prop} (h : OK M c H (w :: L)) (f : ∀ G G' F, Ext G G' → (∀ a ∈ F, G' a = H a) → Fp M c.U G H w F → ∀ G'', Ext G' G'' → φ G'') : OK M c H (.pin φ :: L) := by
  obtain ⟨G, Fs, x⟩ := h
  obtain ⟨g0, gh, un, own, nd, ap⟩ := x
  cases own with
  | @cons _ F _ Fr h1 h2 =>
    rw [List.flatten_cons] at nd ap
    obtain ⟨n1, n2, n3⟩ := List.nodup_append.mp nd
    have ext : Ext G (fun a => if a ∈ F then H a else G a) := fun a o e => by
      show (if a ∈ F then H a else G a) = some o
      split
      · exact gh a o e
      · exact e
    refine ⟨fun a => if a ∈ F then H a else G a, [] :: Fr, g0.trans ext, fun a o e => ?_, fun a u => ⟨?_, (un a u).2⟩, .cons ⟨rfl, f G _ F ext (fun a ha => if_pos ha) h1⟩ (pr_impM h2 fun w F' hF q => q.keep ext (fun a u => ⟨u, rfl⟩) fun _ _ => rfl), ?_, ?_⟩
    · have e : (if a ∈ F then H a else G a) = some o := e
      split at e
      · exact e
      · exact gh a o e
    · show (if a ∈ F then H a else G a) = none
      rw [if_neg (fun z => (ap a (List.mem_append_left _ z)).2 u)]
      exact (un a u).1
    · rw [List.flatten_cons]; exact n2
    · intro a ha
      rw [List.flatten_cons] at ha
      have ha : a ∈ Fr.flatten := ha
      refine ⟨?_, (ap a (List.mem_append_right _ ha)).2⟩
      show (if a ∈ F then H a else G a) = none
      rw [if_neg (fun z => n3 a z a ha rfl)]
      exact (ap a (List.mem_append_right _ ha)).1
theorem OK.freeze {v : V} {s : Sh} {d : D} (h : OK M c H (.val v s d :: L)) (hs : s.solid) : OK M c H (.val v .fro d :: L) :=
  (h.sink (φ := fun G => Rep M G d v) fun G G' F x k q G'' x' => ((Own.keepS (U' := c.U) (H' := G') (Ext.refl G) s hs k q).rep x s).mono x').ofPin
theorem OK.freezeCel {a : Addr} {o : HO} (h : OK M c H (.cel a o :: L)) : OK M c H (.pin (fun G => G a = some o) :: L) :=
  h.sink fun G G' F x k q G'' x' => by
    obtain ⟨rfl, q⟩ := q
    exact x' _ _ ((k a (List.mem_singleton_self a)).trans q)

/-! ### opening and closing -/
def itc (s : Sh) : List D → List V → List Ow
  | d :: ds, v :: vs => .val v s d :: itc s ds vs
  | _, _ => []
def its : List Sh → List D → List V → List Ow
  | s :: ss, d :: ds, v :: vs => .val v s d :: its ss ds vs
  | _, _, _ => []
theorem itc_of {U : Addr → Prop} {G : Hp} {s : Sh} : ∀ {ds : List D} {vs : List V} {Fs : List (List Addr)}, All3 (fun d v F => Own M U G H s d v F) ds vs Fs → Paired (Fp M U G H) (itc s ds vs) Fs ∧ ds.length = vs.length
  | _, _, _, .nil => ⟨.nil, rfl⟩
  | _, _, _, .cons h t => let ⟨a, b⟩ := itc_of t; ⟨.cons h a, by rw [List.length_cons, List.length_cons, b]⟩
theorem of_itc {U : Addr → Prop} {G : Hp} {s : Sh} : ∀ {ds : List D} {vs : List V} {Fs : List (List Addr)}, Paired (Fp M U G H) (itc s ds vs) Fs → ds.length = vs.length → All3 (fun d v F => Own M U G H s d v F) ds vs Fs
  | [], [], _, .nil, _ => .nil
  | _ :: _, _ :: _, _, .cons h t, e => .cons h (of_itc t (Nat.succ.inj e))
theorem OK.expand {w : Ow} {ws : List Ow} (h : OK M c H (w :: L)) (f : ∀ G F, Fp M c.U G H w F → ∃ Fs, F = Fs.flatten ∧ Paired (Fp M c.U G H) ws Fs) : OK M c H (ws ++ L) := by
  obtain ⟨G, Fs, x⟩ := h
  obtain ⟨g0, gh, un, own, nd, ap⟩ := x
  cases own with
  | cons h1 h2 =>
    obtain ⟨Fw, rfl, p⟩ := f _ _ h1
    rw [List.flatten_cons, ← List.flatten_append] at nd ap
    exact ⟨G, _, g0, gh, un, Paired.join p h2, nd, ap⟩
theorem OK.collapse {w : Ow} {ws : List Ow} (h : OK M c H (ws ++ L)) (f : ∀ G Fs, Paired (Fp M c.U G H) ws Fs → Fp M c.U G H w Fs.flatten) : OK M c H (w :: L) := by
  obtain ⟨G, Fs, x⟩ := h
  obtain ⟨g0, gh, un, own, nd, ap⟩ := x
  obtain ⟨F1, F2, rfl, p, q⟩ := Paired.split own
  rw [List.flatten_append, ← List.flatten_cons] at nd ap
  exact ⟨G, _, g0, gh, un, .cons (f _ _ p) q, nd, ap⟩
theorem OK.openL {v : V} {s : Sh} {ds : List D} (h : OK M c H (.val v (.con s) (.lst ds) :: L)) : ∃ a vs, v = .ref a ∧ ds.length = vs.length ∧ OK M c H (.cel a (.lst vs) :: (itc s ds vs ++ L)) := by
  have ⟨G, Fs, x⟩ := h
  obtain ⟨g0, gh, un, own, nd, ap⟩ := x
  cases own with
  | cons h1 h2 =>
    obtain ⟨a, Fs1, rfl, rfl, h1⟩ := h1
    rcases h1 with ⟨ds', vs, e, hv, r⟩ | ⟨ks, ds', vs, e, _⟩
    · cases e
      refine ⟨a, vs, rfl, (itc_of r).2, ⟨G, [a] :: (Fs1 ++ _), g0, gh, un, .cons ⟨rfl, hv⟩ (Paired.join (itc_of r).1 h2), ?_, ?_⟩⟩
      · rw [List.flatten_cons, List.flatten_append, ← List.append_assoc]
        rw [List.flatten_cons] at nd
        exact nd
      · rw [List.flatten_cons, List.flatten_append, ← List.append_assoc]
        rw [List.flatten_cons] at ap
        exact ap
    · cases e
theorem OK.closeL {a : Addr} {vs : List V} {s : Sh} {ds : List D} (hl : ds.length = vs.length) (h : OK M c H (.cel a (.lst vs) :: (itc s ds vs ++ L))) : OK M c H (.val (.ref a) (.con s) (.lst ds) :: L) := by
  refine OK.collapse (ws := .cel a (.lst vs) :: itc s ds vs) h fun G Fs p => ?_
  cases p with
  | cons h1 h2 =>
    obtain ⟨rfl, h1⟩ := h1
    exact ⟨a, _, rfl, rfl, .inl ⟨ds, vs, rfl, h1, of_itc h2 hl⟩⟩
theorem OK.openD {v : V} {s : Sh} {ks : List Key} {ds : List D} (h : OK M c H (.val v (.con s) (.dic ks ds) :: L)) :
    ∃ a vs, v = .ref a ∧ ks.length = vs.length ∧ ds.length = vs.length ∧ OK M c H (.cel a (.dK (ks.zip vs)) :: (itc s ds vs ++ L)) := by
  have ⟨G, Fs, x⟩ := h
  obtain ⟨g0, gh, un, own, nd, ap⟩ := x
  cases own with
  | cons h1 h2 =>
    obtain ⟨a, Fs1, rfl, rfl, h1⟩ := h1
    rcases h1 with ⟨ds', vs, e, _⟩ | ⟨ks', ds', vs, e, l, hv, r⟩
    · cases e
    · cases e
      refine ⟨a, vs, rfl, l, (itc_of r).2, ⟨G, [a] :: (Fs1 ++ _), g0, gh, un, .cons ⟨rfl, hv⟩ (Paired.join (itc_of r).1 h2), ?_, ?_⟩⟩
      · rw [List.flatten_cons, List.flatten_append, ← List.append_assoc]
        rw [List.flatten_cons] at nd
        exact nd
      · rw [List.flatten_cons, List.flatten_append, ← List.append_assoc]
        rw [List.flatten_cons] at ap
        exact ap
theorem OK.closeD {a : Addr} {vs : List V} {s : Sh} {ks : List Key} {ds : List D} (hk : ks.length = vs.length) (hl : ds.length = vs.length) (h : OK M c H (.cel a (.dK (ks.zip vs)) :: (itc s ds vs ++ L))) :
    OK M c H (.val (.ref a) (.con s) (.dic ks ds) :: L) := by
  refine OK.collapse (ws := .cel a (.dK (ks.zip vs)) :: itc s ds vs) h fun G Fs p => ?_
  cases p with
  | cons h1 h2 =>
    obtain ⟨rfl, h1⟩ := h1
    exact ⟨a, _, rfl, rfl, .inr ⟨ks, ds, vs, rfl, hk, h1, of_itc h2 hl⟩⟩
theorem itcs_of {U : Addr → Prop} {G : Hp} : ∀ {ss : List Sh} {ds : List D} {vs : List V} {Fs : List (List Addr)}, OwnS M U G H ss ds vs Fs → Paired (Fp M U G H) (its ss ds vs) Fs ∧ ss.length = ds.length ∧ ds.length = vs.length
  | [], _, _, _, ⟨e1, e2, e3⟩ => by subst e1; subst e2; subst e3; exact ⟨.nil, rfl, rfl⟩
  | s :: ss, _, _, _, ⟨d, dr, v, vr, F, Fr, e1, e2, e3, h1, h2⟩ => by
    subst e1; subst e2; subst e3
    obtain ⟨a, b, c⟩ := itcs_of h2
    exact ⟨.cons h1 a, by rw [List.length_cons, List.length_cons, b], by rw [List.length_cons, List.length_cons, c]⟩
theorem of_itcs {U : Addr → Prop} {G : Hp} : ∀ {ss : List Sh} {ds : List D} {vs : List V} {Fs : List (List Addr)}, Paired (Fp M U G H) (its ss ds vs) Fs → ss.length = ds.length → ds.length = vs.length → OwnS M U G H ss ds vs Fs
  | [], [], [], _, .nil, _, _ => ⟨rfl, rfl, rfl⟩
  | s :: ss, d :: ds, v :: vs, _, .cons h t, e1, e2 => ⟨d, ds, v, vs, _, _, rfl, rfl, rfl, h, of_itcs t (Nat.succ.inj e1) (Nat.succ.inj e2)⟩
/-- an instance of one's own -/
theorem OK.openO {v : V} {ss : List Sh} {k : Nat} {ds : List D} (h : OK M c H (.val v (.obj ss) (.obj k ds) :: L)) :
    ∃ a C dx vs, v = .ref a ∧ M.mg (cName k) = some (.ref C) ∧ vs.length ≤ (cFlds k).length ∧ ss.length = ds.length ∧ ds.length = vs.length ∧ OK M c H (.cel a (.ins C dx ((cFlds k).zip vs)) :: (its ss ds vs ++ L)) := by
  have ⟨G, Fs, x⟩ := h
  obtain ⟨g0, gh, un, own, nd, ap⟩ := x
  cases own with
  | cons h1 h2 =>
    obtain ⟨a, Fs1, kk, ds', C, dx, vs, rfl, rfl, e, l, m, hv, r⟩ := h1
    cases e
    obtain ⟨p, l1, l2⟩ := itcs_of r
    refine ⟨a, C, dx, vs, rfl, m, l, l1, l2, ⟨G, [a] :: (Fs1 ++ _), g0, gh, un, .cons ⟨rfl, hv⟩ (Paired.join p h2), ?_, ?_⟩⟩
    · rw [List.flatten_cons, List.flatten_append, ← List.append_assoc]
      rw [List.flatten_cons] at nd
      exact nd
    · rw [List.flatten_cons, List.flatten_append, ← List.append_assoc]
      rw [List.flatten_cons] at ap
      exact ap
theorem OK.closeO {a C dx : Addr} {vs : List V} {ss : List Sh} {k : Nat} {ds : List D} (m : M.mg (cName k) = some (.ref C)) (l : vs.length ≤ (cFlds k).length) (l1 : ss.length = ds.length) (l2 : ds.length = vs.length)
    (h : OK M c H (.cel a (.ins C dx ((cFlds k).zip vs)) :: (its ss ds vs ++ L))) : OK M c H (.val (.ref a) (.obj ss) (.obj k ds) :: L) := by
  refine OK.collapse (ws := .cel a (.ins C dx ((cFlds k).zip vs)) :: its ss ds vs) h fun G Fs p => ?_
  cases p with
  | cons h1 h2 =>
    obtain ⟨rfl, h1⟩ := h1
    exact ⟨a, _, k, ds, C, dx, vs, rfl, rfl, rfl, l, m, h1, of_itcs h2 l1 l2⟩
/-- frozen items, taken together -/
theorem OK.pinItems : ∀ {ds : List D} {vs : List V} {L : List Ow}, OK M c H (itc .fro ds vs ++ L) → ds.length = vs.length → OK M c H (.pin (fun G => RepL M G ds vs) :: L)
  | [], [], _, h, _ => h.pin fun _ => rfl
  | d :: ds, v :: vs, L, h, e => by
    have h1 : OK M c H (.val v .fro d :: (itc .fro ds vs ++ L)) := h
    have h2 : OK M c H (itc .fro ds vs ++ .pin (fun G => Rep M G d v) :: L) := h1.toPin.perm List.perm_middle.symm
    exact (OK.pinItems h2 (Nat.succ.inj e)).pinAnd.pinMap fun G q => ⟨v, vs, rfl, q.2, q.1⟩
theorem OK.itemsPin : ∀ {ds : List D} {vs : List V} {L : List Ow}, OK M c H (.pin (fun G => RepL M G ds vs) :: L) → OK M c H (itc .fro ds vs ++ L)
  | [], _, _, h => h.drop
  | d :: ds, vs, L, h => by
    have ⟨G, Fs, x⟩ := h
    obtain ⟨g0, gh, un, own, nd, ap⟩ := x
    cases own with
    | cons h1 h2 =>
      obtain ⟨e, h1⟩ := h1
      obtain ⟨v, r, rfl, _, _⟩ := h1 _ (Ext.refl G)
      have h3 := (h.pinMap (ψ := fun G => Rep M G d v ∧ RepL M G ds r) fun G q => by
        obtain ⟨v', r', e, a, b⟩ := q
        cases e
        exact ⟨a, b⟩).pinDup
      have h4 : OK M c H (.val v .fro d :: .pin (fun G => RepL M G ds r) :: L) := ((((h3.pinMap fun _ q => q.1).ofPin).perm (List.Perm.swap _ _ _)).pinMap fun _ q => q.2).perm (List.Perm.swap _ _ _)
      have h5 : OK M c H (.pin (fun G => RepL M G ds r) :: .val v .fro d :: L) := h4.perm (List.Perm.swap _ _ _)
      have h6 := OK.itemsPin h5
      exact h6.perm List.perm_middle
/-- a list of frozen items, its cell frozen too -/
theorem OK.froL {a : Addr} {vs : List V} {ds : List D} (hl : ds.length = vs.length) (h : OK M c H (.cel a (.lst vs) :: (itc .fro ds vs ++ L))) : OK M c H (.val (.ref a) .fro (.lst ds) :: L) :=
  (OK.closeL hl h).freeze trivial
/-- a pair of a walk -/
theorem OK.froP {a : Addr} {vs : List V} {ds : List D} (hl : ds.length = vs.length) (h : OK M c H (.cel a (.tup vs) :: (itc .fro ds vs ++ L))) : OK M c H (.val (.ref a) .fro (.pr ds) :: L) := by
  have h1 : OK M c H (itc .fro ds vs ++ (.pin (fun G => G a = some (.tup vs)) :: L)) := h.freezeCel.perm List.perm_middle.symm
  exact ((OK.pinItems h1 hl).pinAnd.pinMap fun G q => ⟨a, vs, rfl, .inl (.inl q.2), q.1⟩).ofPin
/-- a tuple -/
theorem OK.froT {a : Addr} {ob : Obj} {vs : List V} {ds : List D} (hd : ob.dict = none) (hl : ds.length = vs.length) (h : OK M c H (.cel a (tupC ob vs) :: (itc .fro ds vs ++ L))) : OK M c H (.val (.ref a) .fro (.tup ds) :: L) := by
  have h1 : OK M c H (itc .fro ds vs ++ (.pin (fun G => G a = some (tupC ob vs)) :: L)) := h.freezeCel.perm List.perm_middle.symm
  exact ((OK.pinItems h1 hl).pinAnd.pinMap fun G q => ⟨a, vs, rfl, .inl ⟨ob, hd, q.2⟩, q.1⟩).ofPin
end
end R
set_option Elab.async false
set_option linter.all false
set_option autoImplicit false
/-! R2: environments, outcomes, the judgements. -/
namespace R
open PySem PySem.Spec PyProof.Rows L2
abbrev St := List (Option V)
abbrev Rv := Sh × D
abbrev En := List (Option Rv)
structure Exn where
  k : Nat
  fld : Option D
inductive Out (α : Type) where
  | ok (a : α) (ε : En) | exc (x : Exn) (ε : En) | bad
def Out.bind {α β : Type} : Out α → (α → En → Out β) → Out β
  | .ok a ε, k => k a ε
  | .exc x ε, _ => .exc x ε
  | .bad, _ => .bad
@[simp] theorem bind_ok {α β : Type} (a : α) (ε : En) (k : α → En → Out β) : (Out.ok a ε).bind k = k a ε := rfl
@[simp] theorem bind_exc {α β : Type} (x : Exn) (ε : En) (k : α → En → Out β) : (Out.exc x ε : Out α).bind k = .exc x ε := rfl
@[simp] theorem bind_bad {α β : Type} (k : α → En → Out β) : (Out.bad : Out α).bind k = .bad := rfl

def slots : St → En → List Ow
  | some v :: σ, some r :: ε => .val v r.1 r.2 :: slots σ ε
  | _ :: σ, _ :: ε => slots σ ε
  | _, _ => []
theorem slots_get : ∀ {σ : St} {ε : En} {i : Nat} {v : V} {r : Rv}, σ[i]? = some (some v) → ε[i]? = some (some r) → (slots σ ε).Perm (.val v r.1 r.2 :: slots σ (ε.set i none))
  | [], _, _, _, _, h, _ => by simp at h
  | _ :: _, [], _, _, _, _, h => by simp at h
  | x :: σ, y :: ε, 0, v, r, h, h' => by
    simp only [List.getElem?_cons_zero, Option.some.injEq] at h h'
    subst h; subst h'
    simp [slots]
  | x :: σ, y :: ε, i + 1, v, r, h, h' => by
    simp only [List.getElem?_cons_succ] at h h'
    have ih := slots_get h h'
    rw [List.set_cons_succ]
    cases x with
    | none => simpa [slots] using ih
    | some x => cases y with
      | none => simpa [slots] using ih
      | some y =>
        simp only [slots]
        exact (ih.cons _).trans (.swap _ _ _)
theorem slots_none : ∀ {σ : St} {ε : En} {i : Nat} (x : Option V), slots (σ.set i x) (ε.set i none) = slots σ (ε.set i none)
  | [], ε, i, x => by simp
  | _ :: _, [], i, x => by
    cases i <;> simp [slots]
  | y :: σ, z :: ε, 0, x => by
    cases x <;> cases y <;> simp [slots]
  | y :: σ, z :: ε, i + 1, x => by
    rw [List.set_cons_succ, List.set_cons_succ]
    cases y <;> cases z <;> simp only [slots, slots_none (σ := σ) (ε := ε) (i := i) x]
structure Fit (σ : St) (ε : En) : Prop where
  len : ε.length = σ.length
  has : ∀ (i : Nat) (r : Rv), ε[i]? = some (some r) → ∃ v, σ[i]? = some (some v)
theorem Fit.set {σ : St} {ε : En} (f : Fit σ ε) {i : Nat} {r r' : Rv} (h : ε[i]? = some (some r)) : Fit σ (ε.set i (some r')) :=
  ⟨by rw [List.length_set]; exact f.len, fun j q e => by
    by_cases hj : i = j
    · subst hj; exact f.has i r h
    · rw [List.getElem?_set_ne hj] at e; exact f.has j q e⟩
theorem Fit.clear {σ : St} {ε : En} (f : Fit σ ε) (i : Nat) : Fit σ (ε.set i none) :=
  ⟨by rw [List.length_set]; exact f.len, fun j q e => by
    by_cases hj : i = j
    · subst hj
      by_cases hi : i < ε.length
      · rw [List.getElem?_set_self hi] at e; cases e
      · rw [List.getElem?_eq_none (by rw [List.length_set]; omega)] at e; cases e
    · rw [List.getElem?_set_ne hj] at e; exact f.has j q e⟩
theorem Fit.store {σ : St} {ε : En} (f : Fit σ ε) (i : Nat) (v : V) (r : Rv) : Fit (σ.set i (some v)) (ε.set i (some r)) :=
  ⟨by rw [List.length_set, List.length_set]; exact f.len, fun j q e => by
    by_cases hj : i = j
    · subst hj
      by_cases hi : i < σ.length
      · exact ⟨v, List.getElem?_set_self hi⟩
      · rw [List.getElem?_eq_none (by rw [List.length_set, f.len]; omega)] at e; cases e
    · rw [List.getElem?_set_ne hj] at e ⊢; exact f.has j q e⟩
structure Sta (M : Wd) (c : Ctx) (T : List Ow) (σ : St) (H : Hp) (ε : En) : Prop where
  ok : OK M c H (T ++ slots σ ε)
  fit : Fit σ ε
section
variable {M : Wd} {c : Ctx} {T T' : List Ow} {σ : St} {H H' : Hp} {ε : En}
theorem Sta.perm (s : Sta M c T σ H ε) (p : T.Perm T') : Sta M c T' σ H ε := ⟨s.ok.perm (p.append_right _), s.fit⟩
theorem Sta.drop {w : Ow} (s : Sta M c (w :: T) σ H ε) : Sta M c T σ H ε := ⟨s.ok.drop, s.fit⟩
theorem Sta.drops {T1 : List Ow} (s : Sta M c (T1 ++ T) σ H ε) : Sta M c T σ H ε := ⟨OK.drops (L1 := T1) (by rw [← List.append_assoc]; exact s.ok), s.fit⟩
theorem Sta.read {v : V} {sh : Sh} {d : D} (s : Sta M c (.val v sh d :: T) σ H ε) : Rep M H d v := s.ok.read
theorem Sta.lit {v : V} {d : D} (s : Sta M c T σ H ε) (hd : ∀ G, Rep M G d v) : Sta M c (.val v .fro d :: T) σ H ε := ⟨s.ok.lit hd, s.fit⟩
theorem Sta.freeze {v : V} {sh : Sh} {d : D} (s : Sta M c (.val v sh d :: T) σ H ε) (hs : sh.solid) : Sta M c (.val v .fro d :: T) σ H ε := ⟨s.ok.freeze hs, s.fit⟩
theorem Sta.dup {v : V} {d : D} (s : Sta M c (.val v .fro d :: T) σ H ε) : Sta M c (.val v .fro d :: .val v .fro d :: T) σ H ε := ⟨s.ok.dup, s.fit⟩
theorem Sta.new {p : Addr} {o : HO} (s : Sta M c T σ H ε) (hp : H p = none) : Sta M c (.cel p o :: T) σ (upd H p o) ε := ⟨s.ok.new hp, s.fit⟩
/-- the slot i is taken out -/
theorem Sta.take {i : Nat} {r : Rv} {v : V} (s : Sta M c T σ H ε) (h : ε[i]? = some (some r)) (hv : σ[i]? = some (some v)) : Sta M c (.val v r.1 r.2 :: T) σ H (ε.set i none) :=
  ⟨s.ok.perm (((slots_get hv h).append_left T).trans List.perm_middle), s.fit.clear i⟩
/-- .. and put back -/
theorem Sta.put {i : Nat} {r : Rv} {v : V} (s : Sta M c (.val v r.1 r.2 :: T) σ H (ε.set i none)) (hi : i < ε.length) (hv : σ[i]? = some (some v)) : Sta M c T σ H (ε.set i (some r)) := by
  have f : Fit σ (ε.set i (some r)) := ⟨by rw [List.length_set]; have := s.fit.len; rw [List.length_set] at this; exact this, fun j q e => by
    by_cases hj : i = j
    · subst hj; exact ⟨v, hv⟩
    · have := s.fit.has j q
      rw [List.getElem?_set_ne hj] at e this
      exact this e⟩
  refine ⟨s.ok.perm ?_, f⟩
  have q := slots_get hv (List.getElem?_set_self hi : (ε.set i (some r))[i]? = some (some r))
  rw [List.set_set] at q
  exact (((q.append_left T).trans List.perm_middle)).symm
/-- stored in the slot i -/
theorem Sta.store {i : Nat} {r : Rv} {v : V} (s : Sta M c (.val v r.1 r.2 :: T) σ H ε) (hi : i < σ.length) : Sta M c T (σ.set i (some v)) H (ε.set i (some r)) := by
  have hi' : i < ε.length := by rw [s.fit.len]; exact hi
  refine ⟨?_, s.fit.store i v r⟩
  have q := slots_get (σ := σ.set i (some v)) (ε := ε.set i (some r)) (List.getElem?_set_self hi) (List.getElem?_set_self hi')
  rw [List.set_set, slots_none] at q
  have d : OK M c H (.val v r.1 r.2 :: (T ++ slots σ (ε.set i none))) := by
    cases e : ε[i]? with
    | none => rw [List.getElem?_eq_none_iff] at e; omega
    | some o =>
      cases o with
      | none =>
        have z : ε.set i none = ε := by
          apply List.ext_getElem?
          intro j
          by_cases hj : i = j
          · subst hj; rw [List.getElem?_set_self hi', e]
          · rw [List.getElem?_set_ne hj]
        rw [z]; exact s.ok
      | some r' =>
        obtain ⟨v', hv'⟩ := s.fit.has i r' e
        have := (Sta.take s e hv').ok
        have t2 : OK M c H (.val v r.1 r.2 :: .val v' r'.1 r'.2 :: (T ++ slots σ (ε.set i none))) := this.perm (List.Perm.swap _ _ _)
        exact ((t2.perm (List.Perm.swap _ _ _)).drop)
  exact d.perm (((q.append_left T).trans List.perm_middle)).symm
end

/-- the world of a context -/
abbrev wd (X : Cx) : Wd := ⟨X.K, X.mg⟩
def ExcR (M : Wd) (x : Exn) (cls : Value) (d : Option Addr) : Hp → Prop := fun G => ∃ C, M.mg (eName x.k) = some (.ref C) ∧ cls = .ref C ∧
  match x.fld with
  | none => d = none
  | some q => ∃ a f v, d = some a ∧ eFld x.k = some f ∧ G a = some (.xd [(f, v)]) ∧ Rep M G q v

/-! ### what is wanted of an outcome -/
def pst (M : Wd) (W : WX) (c : Ctx) (T : List Ow) (σ : St) {α : Type} (P : α → En → Prop) : Out α → Prop
  | .ok a ε => P a ε
  | .exc x ε => ∀ cls d H, Sta M c (.pin (ExcR M x cls d) :: T) σ H ε → W cls d σ H
  | .bad => False
section
variable {M : Wd} {W : WX} {c : Ctx} {T : List Ow} {σ : St} {α β : Type}
theorem pst_bind {f : Out α} {k : α → En → Out β} {P : β → En → Prop} (h : pst M W c T σ P (f.bind k)) : pst M W c T σ (fun a ε => pst M W c T σ P (k a ε)) f := by
  cases f <;> exact h
theorem pst_push {f : Out α} {P : α → En → Prop} {w : Ow} (h : pst M W c T σ P f) : pst M W c (w :: T) σ P f := by
  cases f with
  | ok a ε => exact h
  | exc x ε => exact fun cls d H s => h cls d H ((s.perm (List.Perm.swap _ _ _)).drop)
  | bad => exact h
theorem pst_pushes {f : Out α} {P : α → En → Prop} : ∀ {L : List Ow}, pst M W c T σ P f → pst M W c (L ++ T) σ P f
  | [], h => h
  | _ :: _, h => pst_push (pst_pushes h)
theorem pst_mono {f : Out α} {P P' : α → En → Prop} (i : ∀ a ε, P a ε → P' a ε) (h : pst M W c T σ P f) : pst M W c T σ P' f := by
  cases f with
  | ok a ε => exact i _ _ h
  | exc x ε => exact h
  | bad => exact h
end
/-! ### expressions -/
abbrev EvE := En → Out Rv
abbrev postE (M : Wd) (W : WX) (c : Ctx) (T : List Ow) (σ : St) (Q : VK) : Out Rv → Prop := pst M W c T σ fun r ε => ∀ v H, Sta M c (.val v r.1 r.2 :: T) σ H ε → Q v H
def tE (M : Wd) (W : WX) (f : EvE) : TE := fun σ H Q => ∃ c T ε, Sta M c T σ H ε ∧ postE M W c T σ Q (f ε)
structure RE (X : Cx) (W : WX) (e : Expr) (f : EvE) : Prop where
  run : PE X e (tE (wd X) W f)
/-- an operand: a value made for it, or a name -/
inductive Opd where
  | tmp (r : Rv) | slot (i : Nat)
abbrev EvO := En → Out Opd
def opw (σ : St) : Opd → V → Ow
  | .tmp r, v => .val v r.1 r.2
  | .slot i, v => .pin fun _ => σ[i]? = some (some v)
def res : Opd → En → Option Rv
  | .tmp r, _ => some r
  | .slot i, ε => (ε[i]?).join
abbrev postO (M : Wd) (W : WX) (c : Ctx) (T : List Ow) (σ : St) (Q : VK) : Out Opd → Prop := pst M W c T σ fun o ε => ∀ v H, Sta M c (opw σ o v :: T) σ H ε → Q v H
def tO (M : Wd) (W : WX) (f : EvO) : TE := fun σ H Q => ∃ c T ε, Sta M c T σ H ε ∧ postO M W c T σ Q (f ε)
structure RO (X : Cx) (W : WX) (e : Expr) (f : EvO) : Prop where
  run : PE X e (tO (wd X) W f)
/-! ### tests -/
abbrev EvT := En → Out Bool
abbrev postT (M : Wd) (W : WX) (c : Ctx) (T : List Ow) (σ : St) (Q : Bool → Hp → Prop) : Out Bool → Prop := pst M W c T σ fun b ε => ∀ H, Sta M c T σ H ε → Q b H
def tT (M : Wd) (W : WX) (f : EvT) : TT := fun σ H Q => ∃ c T ε, Sta M c T σ H ε ∧ postT M W c T σ Q (f ε)
structure RT (X : Cx) (W : WX) (e : Expr) (f : EvT) : Prop where
  run : PT X e (tT (wd X) W f)
structure RW (X : Cx) (W : WX) (e : Expr) (f : EvT) : Prop where
  run : PW X e (tT (wd X) W f)
/-! ### argument lists: operands; captured values -/
abbrev EvA := En → Out (List Opd)
def opws (σ : St) : List Opd → List V → List Ow
  | o :: os, v :: vs => opw σ o v :: opws σ os vs
  | _, _ => []
abbrev postA (M : Wd) (W : WX) (c : Ctx) (T : List Ow) (σ : St) (Q : List V → Hp → Prop) : Out (List Opd) → Prop := pst M W c T σ fun os ε => ∀ vs H, os.length = vs.length → Sta M c (opws σ os vs ++ T) σ H ε → Q vs H
def tAr (M : Wd) (W : WX) (f : EvA) : TA := fun σ H Q => ∃ c T ε, Sta M c T σ H ε ∧ postA M W c T σ Q (f ε)
structure RA (X : Cx) (W : WX) (es : List Expr) (f : EvA) : Prop where
  run : PA X es (tAr (wd X) W f)
abbrev EvC := En → Out (List D)
abbrev postC (M : Wd) (W : WX) (c : Ctx) (T : List Ow) (σ : St) (Q : List V → Hp → Prop) : Out (List D) → Prop := pst M W c T σ fun ds ε => ∀ vs H, ds.length = vs.length → Sta M c (itc .fro ds vs ++ T) σ H ε → Q vs H
def tCa (M : Wd) (W : WX) (f : EvC) : TA := fun σ H Q => ∃ c T ε, Sta M c T σ H ε ∧ postC M W c T σ Q (f ε)
structure RC (X : Cx) (W : WX) (es : List Expr) (f : EvC) : Prop where
  run : PA X es (tCa (wd X) W f)
/-! ### statements -/
inductive Fl where
  | nx | bk | ct | rt (r : Rv)
abbrev EvS := En → Out Fl
def pstS (M : Wd) (W : WX) (c : Ctx) (T : List Ow) {α : Type} (P : α → En → Prop) : Out α → Prop
  | .ok a ε => P a ε
  | .exc x ε => ∀ cls d σ H, Sta M c (.pin (ExcR M x cls d) :: T) σ H ε → W cls d σ H
  | .bad => False
theorem pstS_bind {M : Wd} {W : WX} {c : Ctx} {T : List Ow} {α β : Type} {f : Out α} {k : α → En → Out β} {P : β → En → Prop} (h : pstS M W c T P (f.bind k)) : pstS M W c T (fun a ε => pstS M W c T P (k a ε)) f := by
  cases f <;> exact h
theorem pstS_mono {M : Wd} {W : WX} {c : Ctx} {T : List Ow} {α : Type} {f : Out α} {P P' : α → En → Prop} (i : ∀ a ε, P a ε → P' a ε) (h : pstS M W c T P f) : pstS M W c T P' f := by
  cases f with
  | ok a ε => exact i _ _ h
  | exc x ε => exact h
  | bad => exact h
theorem pstS_push {M : Wd} {W : WX} {c : Ctx} {T : List Ow} {α : Type} {f : Out α} {P : α → En → Prop} {w : Ow} (h : pstS M W c T P f) : pstS M W c (w :: T) P f := by
  cases f with
  | ok a ε => exact h
  | exc x ε => exact fun cls d σ H s => h cls d σ H ((s.perm (List.Perm.swap _ _ _)).drop)
  | bad => exact h
/-- an expression's outcome within a statement -/
theorem pst_of_S {M : Wd} {W : WX} {c : Ctx} {T : List Ow} {σ : St} {α : Type} {f : Out α} {P : α → En → Prop} (h : pstS M W c T P f) : pst M W c T σ P f := by
  cases f with
  | ok a ε => exact h
  | exc x ε => exact fun cls d H s => h cls d σ H s
  | bad => exact h
def flP (M : Wd) (c : Ctx) (T : List Ow) (D : Ends) : Fl → En → Prop
  | .nx, ε => ∀ σ H, Sta M c T σ H ε → D.nx σ H
  | .bk, ε => ∀ σ H, Sta M c T σ H ε → D.bk σ H
  | .ct, ε => ∀ σ H, Sta M c T σ H ε → D.ct σ H
  | .rt r, ε => ∀ v σ H, Sta M c (.val v r.1 r.2 :: T) σ H ε → D.rt v H
abbrev postS (M : Wd) (W : WX) (c : Ctx) (T : List Ow) (D : Ends) : Out Fl → Prop := pstS M W c T (flP M c T D)
def tS (M : Wd) (W : WX) (f : EvS) : TS := fun D σ H => ∃ c T ε, Sta M c T σ H ε ∧ postS M W c T D (f ε)
structure RS (X : Cx) (W : WX) (st : Stmt) (f : EvS) : Prop where
  run : PS X st (tS (wd X) W f)
structure RSs (X : Cx) (W : WX) (sts : List Stmt) (f : EvS) : Prop where
  run : PSs X sts (tS (wd X) W f)

theorem PE.imp {X : Cx} {e : Expr} {t t' : TE} (h : PE X e t) (i : ∀ σ H Q, t' σ H Q → t σ H Q) : PE X e t' := ⟨fun pins s σ H Q I q => h.run pins s σ H Q I (i σ H Q q)⟩
theorem PT.imp {X : Cx} {e : Expr} {t t' : TT} (h : PT X e t) (i : ∀ σ H Q, t' σ H Q → t σ H Q) : PT X e t' := ⟨fun pins s σ H Q I q => h.run pins s σ H Q I (i σ H Q q)⟩
theorem PW.imp {X : Cx} {e : Expr} {t t' : TT} (h : PW X e t) (i : ∀ σ H Q, t' σ H Q → t σ H Q) : PW X e t' := ⟨fun wh pins s σ H Q I q => h.run wh pins s σ H Q I (i σ H Q q)⟩
theorem PA.imp {X : Cx} {e : List Expr} {t t' : TA} (h : PA X e t) (i : ∀ σ H Q, t' σ H Q → t σ H Q) : PA X e t' := ⟨fun pos pins s σ H Q I q => h.run pos pins s σ H Q I (i σ H Q q)⟩
theorem PS.imp {X : Cx} {st : Stmt} {t t' : TS} (h : PS X st t) (i : ∀ D σ H, t' D σ H → t D σ H) : PS X st t' := ⟨fun pins s σ H D I q => h.run pins s σ H D I (i D σ H q)⟩
theorem PSs.imp {X : Cx} {st : List Stmt} {t t' : TS} (h : PSs X st t) (i : ∀ D σ H, t' D σ H → t D σ H) : PSs X st t' := ⟨fun pins s σ H D I q => h.run pins s σ H D I (i D σ H q)⟩
end R
set_option Elab.async false
set_option linter.all false
set_option autoImplicit false
/-! R3: names, constants, operators, tests, plain statements. -/
namespace R
open PySem PySem.Spec PyProof.Rows L2
def opt {α β : Type} : Option α → (α → Out β) → Out β
  | some a, k => k a
  | none, _ => .bad
@[simp] theorem opt_some {α β : Type} (a : α) (k : α → Out β) : opt (some a) k = k a := rfl
@[simp] theorem opt_none {α β : Type} (k : α → Out β) : opt none k = .bad := rfl
theorem pst_opt {M : Wd} {W : WX} {c : Ctx} {T : List Ow} {σ : St} {α β : Type} {P : β → En → Prop} {o : Option α} {k : α → Out β} (h : pst M W c T σ P (opt o k)) : ∃ a, o = some a ∧ pst M W c T σ P (k a) := by
  cases o with
  | none => exact h.elim
  | some a => exact ⟨a, rfl, h⟩
mutual
def Sh.sol : Sh → Bool
  | .fro => true
  | .lnt => false
  | .con s => s.sol
  | .obj ss => Sh.sols ss
  | .slf _ _ => false
def Sh.sols : List Sh → Bool
  | [] => true
  | s :: ss => s.sol && Sh.sols ss
end
mutual
theorem Sh.sol_solid : ∀ s : Sh, s.sol = true → s.solid
  | .fro, _ => trivial
  | .lnt, h => by simp [Sh.sol] at h
  | .con s, h => by simp only [Sh.sol] at h; simp only [Sh.solid]; exact Sh.sol_solid s h
  | .obj ss, h => by simp only [Sh.sol] at h; simp only [Sh.solid]; exact Sh.sols_solids ss h
  | .slf _ _, h => by simp [Sh.sol] at h
theorem Sh.sols_solids : ∀ ss : List Sh, Sh.sols ss = true → Sh.solids ss
  | [], _ => trivial
  | s :: ss, h => by
    simp only [Sh.sols, Bool.and_eq_true] at h
    exact ⟨Sh.sol_solid s h.1, Sh.sols_solids ss h.2⟩
end
section
variable {M : Wd} {c : Ctx} {T : List Ow} {σ : St} {H : Hp} {ε : En} {W : WX}
theorem join_some {i : Nat} {r : Rv} (h : (ε[i]?).join = some r) : ε[i]? = some (some r) := by
  cases e : ε[i]? with
  | none => rw [e] at h; cases h
  | some o => rw [e] at h; cases o with
    | none => cases h
    | some q => cases h; rfl
theorem lt_of_slot {i : Nat} {r : Rv} (h : ε[i]? = some (some r)) : i < ε.length := (List.getElem?_eq_some_iff.mp h).1
theorem set_same {i : Nat} {r : Rv} (h : ε[i]? = some (some r)) : ε.set i (some r) = ε := by
  apply List.ext_getElem?
  intro j
  by_cases hj : i = j
  · subst hj; rw [List.getElem?_set_self (lt_of_slot h), h]
  · rw [List.getElem?_set_ne hj]
/-- the slot i is frozen, its value handed out -/
theorem Sta.lend {i : Nat} {s : Sh} {d : D} {v : V} (st : Sta M c T σ H ε) (h : ε[i]? = some (some (s, d))) (hv : σ[i]? = some (some v)) (hs : s.solid) :
    Sta M c (.val v .fro d :: T) σ H (ε.set i (some (.fro, d))) := by
  have h1 := ((st.take h hv).freeze hs).dup
  exact Sta.put (r := (.fro, d)) (T := .val v .fro d :: T) h1 (lt_of_slot h) hv
/-- what an operand holds may be read -/
theorem Sta.readO {o : Opd} {v : V} {r : Rv} (st : Sta M c (opw σ o v :: T) σ H ε) (h : res o ε = some r) : Rep M H r.2 v := by
  cases o with
  | tmp q =>
    cases h
    exact st.read
  | slot i =>
    have hv : σ[i]? = some (some v) := st.ok.pinned
    exact (Sta.take st (join_some h) hv).read
theorem Sta.readO2 {o : Opd} {v : V} {r : Rv} {w : Ow} (st : Sta M c (w :: opw σ o v :: T) σ H ε) (h : res o ε = some r) : Rep M H r.2 v := st.drop.readO h
end

/-! ### names and constants -/
def eVar (i : Nat) : EvE := fun ε => match (ε[i]?).join with
  | some (.fro, d) => .ok (.fro, d) ε
  | some (s, d) => if s.sol = true then .ok (.fro, d) (ε.set i (some (.fro, d))) else .bad
  | none => .bad
def oVar (i : Nat) : EvO := fun ε => match (ε[i]?).join with
  | some _ => .ok (.slot i) ε
  | none => .bad
/-- moved out of the slot, as it is owned -/
def eMove (i : Nat) : EvE := fun ε => match (ε[i]?).join with
  | some (.fro, d) => .ok (.fro, d) ε
  | some r => .ok r (ε.set i none)
  | none => .bad
def eLit (d : D) : EvE := fun ε => .ok (.fro, d) ε
section
variable {X : Cx} {W : WX} {pos : Pos}
theorem eVar_run {M : Wd} {c : Ctx} {T : List Ow} {σ : St} {H : Hp} {ε : En} {i : Nat} {Q : VK} (s : Sta M c T σ H ε) (p : postE M W c T σ Q (eVar i ε)) : ∃ v, σ[i]? = some (some v) ∧ Q v H := by
  unfold eVar at p
  split at p
  · rename_i d e
    have e := join_some e
    obtain ⟨v, hv⟩ := s.fit.has _ _ e
    refine ⟨v, hv, p v H ?_⟩
    have q := s.lend e hv trivial
    rw [set_same e] at q
    exact q
  · rename_i sh d _ e
    have e := join_some e
    obtain ⟨v, hv⟩ := s.fit.has _ _ e
    split at p
    · rename_i hs
      exact ⟨v, hv, p v H (s.lend e hv (Sh.sol_solid _ hs))⟩
    · exact p.elim
  · exact p.elim
theorem re_var (i : Nat) {x : Str} (hN : X.N[i]? = some x := by rfl) (hv : Vis X.env.scope x := by first | exact Or.inl rfl | exact Or.inr (Or.inl rfl) | exact Or.inr (Or.inr rfl)) (hd : (x == ("__debug__" : Str)) = false := by decide)
    (hcd : (x == ("__classdict__" : Str)) = false := by decide) : RE X W (.Name x pos) (eVar i) :=
  ⟨PE.imp (pv i hN hv hd hcd) fun σ H Q ⟨c, T, ε, s, p⟩ => eVar_run s p⟩
theorem re_move (i : Nat) {x : Str} (hN : X.N[i]? = some x := by rfl) (hv : Vis X.env.scope x := by first | exact Or.inl rfl | exact Or.inr (Or.inl rfl) | exact Or.inr (Or.inr rfl)) (hd : (x == ("__debug__" : Str)) = false := by decide)
    (hcd : (x == ("__classdict__" : Str)) = false := by decide) : RE X W (.Name x pos) (eMove i) :=
  ⟨PE.imp (pv i hN hv hd hcd) fun σ H Q ⟨c, T, ε, s, p⟩ => by
    unfold eMove at p
    split at p
    · rename_i d e
      have e := join_some e
      obtain ⟨v, hv⟩ := s.fit.has _ _ e
      refine ⟨v, hv, p v H ?_⟩
      have q := s.lend e hv trivial
      rw [set_same e] at q
      exact q
    · rename_i r _ e
      have e := join_some e
      obtain ⟨v, hv⟩ := s.fit.has _ _ e
      exact ⟨v, hv, p v H (s.take e hv)⟩
    · exact p.elim⟩
theorem ro_var (i : Nat) {x : Str} (hN : X.N[i]? = some x := by rfl) (hv : Vis X.env.scope x := by first | exact Or.inl rfl | exact Or.inr (Or.inl rfl) | exact Or.inr (Or.inr rfl)) (hd : (x == ("__debug__" : Str)) = false := by decide)
    (hcd : (x == ("__classdict__" : Str)) = false := by decide) : RO X W (.Name x pos) (oVar i) :=
  ⟨PE.imp (pv i hN hv hd hcd) fun σ H Q ⟨c, T, ε, s, p⟩ => by
    unfold oVar at p
    split at p
    · rename_i r e
      have e := join_some e
      obtain ⟨v, hv⟩ := s.fit.has _ _ e
      exact ⟨v, hv, p v H ⟨s.ok.pin fun _ => hv, s.fit⟩⟩
    · exact p.elim⟩
def oOf (f : EvE) : EvO := fun ε => (f ε).bind fun r ε => .ok (.tmp r) ε
theorem ro_of {e : Expr} {f : EvE} (h : RE X W e f) : RO X W e (oOf f) :=
  ⟨PE.imp h.run fun σ H Q ⟨c, T, ε, s, p⟩ => ⟨c, T, ε, s, pst_bind p⟩⟩
theorem re_lit {e : Expr} {d : D} {v : V} (h : PE X e (tC v)) (hd : ∀ G, Rep (wd X) G d v) : RE X W e (eLit d) :=
  ⟨PE.imp h fun σ H Q ⟨c, T, ε, s, p⟩ => p v H (s.lit hd)⟩
theorem re_int {i j} : RE X W (.Constant (.int i) j pos) (eLit (.int i)) := re_lit pe_int fun _ => rfl
theorem re_bl {b j} : RE X W (.Constant (.bool b) j pos) (eLit (.bl b)) := re_lit pe_bl fun _ => rfl
theorem re_non {j} : RE X W (.Constant .none j pos) (eLit .non) := re_lit pe_non fun _ => rfl
theorem re_str {x j} : RE X W (.Constant (.str x) j pos) (eLit (.str x)) := re_lit pe_str fun _ => rfl
/-- a module's constant -/
theorem re_glob {x : Str} {v : V} {u : Value} {d : D} (hg : Gl X x) (hm : X.mg x = some u) (r : RelV v u) (hd : ∀ G, Rep (wd X) G d v) (hdb : (x == ("__debug__" : Str)) = false := by decide) : RE X W (.Name x pos) (eLit d) :=
  re_lit (pe_glob hg hm r hdb) hd
end

/-! ### operators -/
abbrev Op2 (X : Cx) (F : Value → Value → Sem Value) (p : D → D → Option D) : Prop :=
  OpR X F fun x y H Q => ∃ d1 d2 d, Rep (wd X) H d1 x ∧ Rep (wd X) H d2 y ∧ p d1 d2 = some d ∧ ∀ v, (∀ G, Rep (wd X) G d v) → Q v H
def sOp2 (p : D → D → Option D) (f g : EvO) : EvE := fun ε => (f ε).bind fun o1 ε => (g ε).bind fun o2 ε => opt (res o1 ε) fun r1 => opt (res o2 ε) fun r2 => opt (p r1.2 r2.2) fun d => .ok (.fro, d) ε
section
variable {X : Cx} {W : WX} {pos : Pos} {a b c : Expr} {f g h : EvO}
/-- two operands in a row, then an operator -/
theorem op2_run {M : Wd} {c : Ctx} {T : List Ow} {σ : St} {H : Hp} {ε : En} {Q : VK} {p : D → D → Option D} (s : Sta M c T σ H ε) (q : postE M W c T σ Q (sOp2 p f g ε)) {r : V → V → Hp → VK → Prop}
    (hr : ∀ x y H Q, (∃ d1 d2 d, Rep M H d1 x ∧ Rep M H d2 y ∧ p d1 d2 = some d ∧ ∀ v, (∀ G, Rep M G d v) → Q v H) → r x y H Q) : tOp r (tO M W f) (tO M W g) σ H Q := by
  refine ⟨c, T, ε, s, pst_mono (fun o1 ε1 q v1 H1 s1 => ⟨c, _, ε1, s1, pst_mono (fun o2 ε2 q v2 H2 s2 => ?_) (pst_push (pst_bind q))⟩) (pst_bind q)⟩
  obtain ⟨r1, e1, q⟩ := pst_opt q
  obtain ⟨r2, e2, q⟩ := pst_opt q
  obtain ⟨d, e3, q⟩ := pst_opt q
  exact hr _ _ _ _ ⟨r1.2, r2.2, d, s2.readO2 e1, s2.readO e2, e3, fun v hv => q v H2 (s2.drop.drop.lit hv)⟩
theorem re_op2 {op : Operator} {p : D → D → Option D} (ho : Op2 X (binaryOp op) p) (ha : RO X W a f) (hb : RO X W b g) : RE X W (.BinOp a op b pos) (sOp2 p f g) :=
  ⟨PE.imp (pe_op ho ha.run hb.run) fun σ H Q ⟨c, T, ε, s, q⟩ => op2_run s q fun _ _ _ _ h => h⟩
theorem re_cmp {op : CmpOp} {p : D → D → Option D} (ho : Op2 X (compareOp op) p) (ha : RO X W a f) (hb : RO X W b g) (hm : behindInMarks op b = false := by first | exact nomark _ | rfl) : RE X W (.Compare a [op] [b] pos) (sOp2 p f g) :=
  ⟨PE.imp (pe_cmpR ho ha.run hb.run hm) fun σ H Q ⟨c, T, ε, s, q⟩ => op2_run s q fun _ _ _ _ h => h⟩
/-- the truth of a scalar outcome -/
def bOf : D → Option Bool
  | .bl b => some b
  | _ => none
def tOf (f : EvE) : EvT := fun ε => (f ε).bind fun r ε => opt (bOf r.2) fun b => .ok b ε
theorem tB_run {M : Wd} {c : Ctx} {T : List Ow} {σ : St} {ε : En} {Q : Bool → Hp → Prop} {f : EvE} (p : postT M W c T σ Q (tOf f ε)) : postE M W c T σ (fun v H => ∃ k, v = .bl k ∧ Q k H) (f ε) := by
  refine pst_mono (fun r ε q v H s => ?_) (pst_bind p)
  obtain ⟨b, e, q⟩ := pst_opt q
  obtain ⟨sh, d⟩ := r
  cases d <;> simp only [bOf, Option.some.injEq, reduceCtorEq] at e
  subst e
  exact ⟨_, s.read, q H s.drop⟩
theorem rt_cmp {op : CmpOp} {p : D → D → Option D} (ho : Op2 X (compareOp op) p) (ha : RO X W a f) (hb : RO X W b g) (hm : behindInMarks op b = false := by first | exact nomark _ | rfl) : RT X W (.Compare a [op] [b] pos) (tOf (sOp2 p f g)) :=
  ⟨PT.imp (pt_cmpR ho ha.run hb.run hm) fun σ H Q ⟨c, T, ε, s, q⟩ => op2_run s (tB_run q) fun _ _ _ _ h => h⟩
/-- a test that is a value, a bool -/
theorem rt_val {e : Expr} {f : EvE} (h : RE X W e f) (he : ∀ whole, isTrue e X.env whole = (do let v ← whole; standAt e.pos; holding [v] (truthy v)) := by intro _; rfl) : RT X W e (tOf f) :=
  ⟨PT.imp (pt_val h.run he) fun σ H Q ⟨c, T, ε, s, q⟩ => ⟨c, T, ε, s, tB_run q⟩⟩
end

/-! ### truth of a value -/
def truD : D → Option Bool
  | .non => some false
  | .bl b => some b
  | .int i => some (i != 0)
  | .str s => if s.length ≤ sizeLine then some (s.length != 0) else none
  | .lst ds => some (!ds.isEmpty)
  | .tup ds => some (!ds.isEmpty)
  | _ => none
/-- the same with a dict that is one's own -/
def truR : Rv → Option Bool
  | (.con _, .dic ks _) => some (!ks.isEmpty)
  | (_, d) => truD d
theorem isEmpty_repL {M : Wd} {H : Hp} {ds : List D} {vs : List V} (h : RepL M H ds vs) : vs.isEmpty = ds.isEmpty := by
  cases ds with
  | nil => have e : vs = [] := h; rw [e]; rfl
  | cons d ds => obtain ⟨v, r, e, _⟩ := h; rw [e]; rfl
theorem truV_of {M : Wd} {H : Hp} {d : D} {v : V} {k : Bool} (r : Rep M H d v) (e : truD d = some k) : TruV M.K v H k := by
  cases d with
  | non => cases r; cases e; rfl
  | bl b => cases r; cases e; rfl
  | int i => cases r; cases e; rfl
  | str s =>
    cases r
    simp only [truD] at e
    split at e
    · rename_i hs
      cases e
      refine ⟨hs, ?_⟩
      cases h : s.length <;> simp
      omega
    · cases e
  | lst ds =>
    obtain ⟨a, vs, rfl, hs, hr⟩ := r
    cases e
    exact .inl ⟨vs, hs, by rw [isEmpty_repL hr]⟩
  | tup ds =>
    obtain ⟨a, vs, rfl, hs, hr⟩ := r
    cases e
    exact .inr (.inl ⟨vs, hs.sq, by rw [isEmpty_repL hr]⟩)
  | pr _ => cases e
  | dic _ _ => cases e
  | obj _ _ => cases e
def tTru (f : EvO) : EvT := fun ε => (f ε).bind fun o ε => opt (res o ε) fun r => opt (truR r) fun b => .ok b ε
section
variable {X : Cx} {W : WX} {pos : Pos} {a b c : Expr} {f g h : EvO}
theorem Sta.ownDict {M : Wd} {c : Ctx} {T : List Ow} {σ : St} {H : Hp} {ε : En} {v : V} {s : Sh} {ks : List Key} {ds : List D} (st : Sta M c (.val v (.con s) (.dic ks ds) :: T) σ H ε) :
    ∃ a vs, v = .ref a ∧ ks.length = vs.length ∧ ds.length = vs.length ∧ H a = some (.dK (ks.zip vs)) := by
  obtain ⟨a, vs, e, h1, h2, ok⟩ := OK.openD (L := T ++ slots σ ε) st.ok
  exact ⟨a, vs, e, h1, h2, ok.cell⟩
theorem Sta.valO {M : Wd} {c : Ctx} {T : List Ow} {σ : St} {H : Hp} {ε : En} {o : Opd} {v : V} {r : Rv} (st : Sta M c (opw σ o v :: T) σ H ε) (h : res o ε = some r) : ∃ T' ε', Sta M c (.val v r.1 r.2 :: T') σ H ε' := by
  cases o with
  | tmp q => cases h; exact ⟨T, ε, st⟩
  | slot i =>
    have hv : σ[i]? = some (some v) := st.ok.pinned
    exact ⟨_, _, Sta.take st (join_some h) hv⟩
theorem truR_of {M : Wd} {c : Ctx} {T : List Ow} {σ : St} {H : Hp} {ε : En} {o : Opd} {v : V} {r : Rv} {k : Bool} (st : Sta M c (opw σ o v :: T) σ H ε) (h : res o ε = some r) (e : truR r = some k) : TruV M.K v H k := by
  obtain ⟨sh, d⟩ := r
  unfold truR at e
  split at e
  · rename_i s ks ds q
    cases q
    obtain ⟨T', ε', st'⟩ := st.valO h
    obtain ⟨a, vs, rfl, l, _, hd⟩ := st'.ownDict
    cases e
    refine .inr (.inr ⟨_, hd, ?_⟩)
    cases ks with
    | nil => rfl
    | cons x ks =>
      cases vs with
      | nil => cases l
      | cons y vs => rfl
  · rename_i q
    cases q
    exact truV_of (st.readO h) e
theorem rt_tru {e : Expr} {f : EvO} (h : RO X W e f) (he : ∀ whole, isTrue e X.env whole = (do let v ← whole; standAt e.pos; holding [v] (truthy v)) := by intro _; rfl) : RT X W e (tTru f) :=
  ⟨PT.imp (pt_truth h.run he) fun σ H Q ⟨c, T, ε, s, q⟩ => ⟨c, T, ε, s, pst_mono (fun o ε q v H s => by
    obtain ⟨r, e1, q⟩ := pst_opt q
    obtain ⟨k, e2, q⟩ := pst_opt q
    exact ⟨k, truR_of s e1 e2, q H s.drop⟩) (pst_bind q)⟩⟩
/-! ### and, or, not, if else -/
def tAnd' (f g : EvT) : EvT := fun ε => (f ε).bind fun b ε => if b = true then g ε else .ok false ε
def tOr' (f g : EvT) : EvT := fun ε => (f ε).bind fun b ε => if b = true then .ok true ε else g ε
def tNot' (f : EvT) : EvT := fun ε => (f ε).bind fun b ε => .ok (!b) ε
variable {rest : List Expr} {s t : EvT}
theorem rw_and1 (ha : RT X W a s) : RW X W (.BoolOp .And [a] pos) s := ⟨pw_and1 ha.run⟩
theorem rw_or1 (ha : RT X W a s) : RW X W (.BoolOp .Or [a] pos) s := ⟨pw_or1 ha.run⟩
theorem rw_and (ha : RT X W a s) (hb : RW X W (.BoolOp .And (b :: rest) pos) t) : RW X W (.BoolOp .And (a :: b :: rest) pos) (tAnd' s t) :=
  ⟨PW.imp (pw_and ha.run hb.run) fun σ H Q ⟨c, T, ε, st, q⟩ => ⟨c, T, ε, st, pst_mono (fun k ε q H st => by
    cases k with
    | true => exact ⟨c, T, ε, st, q⟩
    | false => exact q H st) (pst_bind q)⟩⟩
theorem rw_or (ha : RT X W a s) (hb : RW X W (.BoolOp .Or (b :: rest) pos) t) : RW X W (.BoolOp .Or (a :: b :: rest) pos) (tOr' s t) :=
  ⟨PW.imp (pw_or ha.run hb.run) fun σ H Q ⟨c, T, ε, st, q⟩ => ⟨c, T, ε, st, pst_mono (fun k ε q H st => by
    cases k with
    | true => exact q H st
    | false => exact ⟨c, T, ε, st, q⟩) (pst_bind q)⟩⟩
theorem rt_w {e : Expr} (h : RW X W e s) : RT X W e s := ⟨h.run.pt⟩
theorem rt_not (ha : RT X W a s) : RT X W (.UnaryOp .Not a pos) (tNot' s) :=
  ⟨PT.imp (pt_not ha.run) fun σ H Q ⟨c, T, ε, st, q⟩ => ⟨c, T, ε, st, pst_mono (fun k ε q => q) (pst_bind q)⟩⟩
def sIf (t : EvT) (f g : EvE) : EvE := fun ε => (t ε).bind fun b ε => if b = true then f ε else g ε
theorem re_if {x y : EvE} (hc : RT X W c s) (ha : RE X W a x) (hb : RE X W b y) : RE X W (.IfExp c a b pos) (sIf s x y) :=
  ⟨PE.imp (pe_ifExp hc.run ha.run hb.run) fun σ H Q ⟨c, T, ε, st, q⟩ => ⟨c, T, ε, st, pst_mono (fun k ε q H st => by
    cases k with
    | true => exact ⟨c, T, ε, st, q⟩
    | false => exact ⟨c, T, ε, st, q⟩) (pst_bind q)⟩⟩
/-- as values: bools -/
def eAnd (f g : EvE) : EvE := fun ε => (f ε).bind fun r ε => opt (bOf r.2) fun b => if b = true then g ε else .ok (.fro, .bl false) ε
def eOr (f g : EvE) : EvE := fun ε => (f ε).bind fun r ε => opt (bOf r.2) fun b => if b = true then .ok (.fro, .bl true) ε else g ε
def eNot (f : EvE) : EvE := fun ε => (f ε).bind fun r ε => opt (bOf r.2) fun b => .ok (.fro, .bl (!b)) ε
theorem re_one {op} {x : EvE} (h : RE X W a x) : RE X W (.BoolOp op [a] pos) x := ⟨pe_one h.run⟩
theorem bOf_rep {M : Wd} {H : Hp} {d : D} {b : Bool} {v : V} (e : bOf d = some b) (r : Rep M H d v) : v = .bl b := by
  cases d <;> simp only [bOf, Option.some.injEq, reduceCtorEq] at e
  subst e; exact r
theorem re_and {x y : EvE} (ha : RE X W a x) (hb : RE X W (.BoolOp .And (b :: rest) pos) y) : RE X W (.BoolOp .And (a :: b :: rest) pos) (eAnd x y) :=
  ⟨PE.imp (pe_and ha.run hb.run) fun σ H Q ⟨c, T, ε, st, q⟩ => ⟨c, T, ε, st, pst_mono (fun r ε q v H st => by
    obtain ⟨k, e, q⟩ := pst_opt q
    refine ⟨k, bOf_rep e st.read, ?_⟩
    cases k with
    | true => exact ⟨c, T, ε, st.drop, q⟩
    | false => exact q _ H (st.drop.lit fun _ => rfl)) (pst_bind q)⟩⟩
theorem re_or {x y : EvE} (ha : RE X W a x) (hb : RE X W (.BoolOp .Or (b :: rest) pos) y) : RE X W (.BoolOp .Or (a :: b :: rest) pos) (eOr x y) :=
  ⟨PE.imp (pe_or ha.run hb.run) fun σ H Q ⟨c, T, ε, st, q⟩ => ⟨c, T, ε, st, pst_mono (fun r ε q v H st => by
    obtain ⟨k, e, q⟩ := pst_opt q
    refine ⟨k, bOf_rep e st.read, ?_⟩
    cases k with
    | true => exact q _ H (st.drop.lit fun _ => rfl)
    | false => exact ⟨c, T, ε, st.drop, q⟩) (pst_bind q)⟩⟩
theorem re_not {x : EvE} (ha : RE X W a x) : RE X W (.UnaryOp .Not a pos) (eNot x) :=
  ⟨PE.imp (pe_not ha.run) fun σ H Q ⟨c, T, ε, st, q⟩ => ⟨c, T, ε, st, pst_mono (fun r ε q v H st => by
    obtain ⟨k, e, q⟩ := pst_opt q
    exact ⟨k, bOf_rep e st.read, q _ H (st.drop.lit fun _ => rfl)⟩) (pst_bind q)⟩⟩
/-! ### statements -/
def sSeq (f g : EvS) : EvS := fun ε => (f ε).bind fun fl ε => match fl with
  | .nx => g ε
  | fl => .ok fl ε
def sNx : EvS := fun ε => .ok .nx ε
variable {st : Stmt} {sts : List Stmt} {u w : EvS}
theorem seq_run {M : Wd} {c : Ctx} {T : List Ow} {D : Ends} {ε : En} (q : postS M W c T D (sSeq u w ε)) : postS M W c T { D with nx := fun σ H => tS M W w D σ H } (u ε) := by
  refine pstS_mono (fun fl ε q => ?_) (pstS_bind q)
  cases fl with
  | nx => exact fun σ H s => ⟨c, T, ε, s, q⟩
  | bk => exact q
  | ct => exact q
  | rt r => exact q
theorem rs_nil : RSs X W [] sNx := ⟨PSs.imp pss_nil fun D σ H ⟨c, T, ε, s, q⟩ => q σ H s⟩
theorem rs_cons (h1 : RS X W st u) (h2 : RSs X W sts w) : RSs X W (st :: sts) (sSeq u w) :=
  ⟨PSs.imp (pss_cons h1.run h2.run) fun D σ H ⟨c, T, ε, s, q⟩ => ⟨c, T, ε, s, seq_run q⟩⟩
theorem rs_one (h1 : RS X W st u) : RSs X W [st] u := ⟨pss_one h1.run⟩
theorem rs_pass : RS X W (.Pass pos) sNx := ⟨PS.imp ps_pass fun D σ H ⟨c, T, ε, s, q⟩ => q σ H s⟩
theorem rs_break : RS X W (.Break pos) (fun ε => .ok .bk ε) := ⟨PS.imp ps_break fun D σ H ⟨c, T, ε, s, q⟩ => q σ H s⟩
theorem rs_continue : RS X W (.Continue pos) (fun ε => .ok .ct ε) := ⟨PS.imp ps_continue fun D σ H ⟨c, T, ε, s, q⟩ => q σ H s⟩
theorem rs_doc {x j pos'} : RS X W (.Expr (.Constant (.str x) j pos) pos') sNx := ⟨PS.imp ps_doc fun D σ H ⟨c, T, ε, s, q⟩ => q σ H s⟩
def sDrop (f : EvE) : EvS := fun ε => (f ε).bind fun _ ε => .ok .nx ε
theorem rs_expr {e : Expr} {x : EvE} (h : RE X W e x) (hs : swapsWith e none pos.line X.env = pure false := by rfl) : RS X W (.Expr e pos) (sDrop x) :=
  ⟨PS.imp (ps_expr h.run hs) fun D σ H ⟨c, T, ε, s, q⟩ => ⟨c, T, ε, s, pst_of_S (pstS_mono (fun r ε q v H s => q σ H s.drop) (pstS_bind q))⟩⟩
def sRet (f : EvE) : EvS := fun ε => (f ε).bind fun r ε => .ok (.rt r) ε
theorem rs_ret {e : Expr} {x : EvE} (h : RE X W e x) : RS X W (.Return (some e) pos) (sRet x) :=
  ⟨PS.imp (ps_ret h.run) fun D σ H ⟨c, T, ε, s, q⟩ => ⟨c, T, ε, s, pst_of_S (pstS_mono (fun r ε q v H s => q v σ H s) (pstS_bind q))⟩⟩
theorem rs_retN : RS X W (.Return none pos) (fun ε => .ok (.rt (.fro, .non)) ε) := ⟨PS.imp ps_retN fun D σ H ⟨c, T, ε, s, q⟩ => q .non σ H (s.lit fun _ => rfl)⟩
def sIfS (t : EvT) (f g : EvS) : EvS := fun ε => (t ε).bind fun b ε => if b = true then f ε else g ε
theorem rs_if {x y : List Stmt} (hc : RT X W c s) (ha : RSs X W x u) (hb : RSs X W y w) : RS X W (.If c x y pos) (sIfS s u w) :=
  ⟨PS.imp (ps_if hc.run ha.run hb.run) fun D σ H ⟨c, T, ε, st, q⟩ => ⟨c, T, ε, st, pst_of_S (pstS_mono (fun k ε q H st => by
    cases k with
    | true => exact ⟨c, T, ε, st, q⟩
    | false => exact ⟨c, T, ε, st, q⟩) (pstS_bind q))⟩⟩
def sSet (i : Nat) (f : EvE) : EvS := fun ε => (f ε).bind fun r ε => .ok .nx (ε.set i (some r))
theorem rs_set {i : Nat} {x : Str} {e : Expr} {y : EvE} {pos' : Pos} (hN : X.N.Nodup) (hi : X.N[i]? = some x) (hx : Loc X.env.scope x) (he : RE X W e y) (hlen : i < X.N.length := by exact Nat.le_of_ble_eq_true rfl)
    (hs : swapsWith e (some (.Name x pos')) pos.line X.env = pure false := by rfl) (hf : X.fn x = true ∨ X.env.scope.names.lookup x = some .local := by first | exact .inl rfl | exact .inr rfl | assumption) :
    RS X W (.Assign [.Name x pos'] e pos) (sSet i y) := by
  refine ⟨⟨fun pins s σ H D I h => (ps_set hN hi hx he.run hs hf).run pins s σ H D I ?_⟩⟩
  obtain ⟨c, T, ε, st, q⟩ := h
  refine ⟨c, T, ε, st, pst_of_S (pstS_mono (fun r ε q v H st => q _ H (st.store (by rw [I.len]; exact hlen))) (pstS_bind q))⟩
end
end R
set_option Elab.async false
set_option linter.all false
set_option autoImplicit false
/-! R4: a def's promise by its function over data; calls. -/
namespace R
open PySem PySem.Spec PyProof.Rows L2
/-- what a def comes to -/
inductive FR where
  | ok (r : Rv) | exc (x : Exn) | bad
abbrev Fn := List Rv → FR
def argw : List V → List Rv → List Ow
  | v :: vs, r :: rs => .val v r.1 r.2 :: argw vs rs
  | _, _ => []
def spOf (M : Wd) (n : Nat) (F : Fn) : Sp := fun vs H Q E => ∃ (c : Ctx) (rs : List Rv), vs.length = n ∧ rs.length = n ∧ OK M c H (argw vs rs) ∧
  match F rs with
  | .ok r => ∀ v H', OK M c H' [.val v r.1 r.2] → Q v H'
  | .exc x => ∀ cls d H', OK M c H' [.pin (ExcR M x cls d)] → E cls d H'
  | .bad => False
/-- a flat tree of one's own: it may be lent -/
def Sh.flatOwn : Sh → Bool
  | .lnt => true
  | .con .fro => true
  | .obj ss => ss.all fun s => match s with
    | .fro => true
    | _ => false
  | .slf _ ss => ss.all fun s => match s with
    | .fro => true
    | _ => false
  | _ => false
section
variable {M : Wd}
theorem all3_fro {U : Addr → Prop} {G H : Hp} : ∀ {ds : List D} {vs : List V} {Fs : List (List Addr)}, All3 (fun d v F => Own M U G H .fro d v F) ds vs Fs → RepL M G ds vs ∧ Fs.flatten = []
  | _, _, _, .nil => ⟨rfl, rfl⟩
  | _, _, _, .cons h t => by
    obtain ⟨a, b⟩ := all3_fro t
    refine ⟨⟨_, _, rfl, h.2, a⟩, ?_⟩
    rw [List.flatten_cons, h.1, b]; rfl
theorem ownS_fro {U : Addr → Prop} {G H : Hp} : ∀ {ss : List Sh} {ds : List D} {vs : List V} {Fs : List (List Addr)}, (ss.all fun s => match s with | .fro => true | _ => false) = true → OwnS M U G H ss ds vs Fs → RepL M G ds vs ∧ Fs.flatten = []
  | [], _, _, _, _, ⟨e1, e2, e3⟩ => by subst e1; subst e2; subst e3; exact ⟨rfl, rfl⟩
  | s :: ss, _, _, _, e, ⟨d, dr, v, vr, F, Fr, e1, e2, e3, h1, h2⟩ => by
    subst e1; subst e2; subst e3
    rw [List.all_cons, Bool.and_eq_true] at e
    obtain ⟨a, b⟩ := ownS_fro e.2 h2
    cases s with
    | fro => exact ⟨⟨_, _, rfl, h1.2, a⟩, by rw [List.flatten_cons, h1.1, b]; rfl⟩
    | lnt => exact absurd e.1 (by simp)
    | con s => exact absurd e.1 (by simp)
    | obj s => exact absurd e.1 (by simp)
    | slf _ s => exact absurd e.1 (by simp)
/-- a flat tree is lent -/
theorem Own.lent {U U' : Addr → Prop} {G H : Hp} {s : Sh} {d : D} {v : V} {F : List Addr} (hs : s.flatOwn = true) (hU : ∀ a ∈ F, U' a) (hUU : ∀ a, U a → U' a) (h : Own M U G H s d v F) : Own M U' G H .lnt d v [] := by
  cases s with
  | fro => cases hs
  | lnt =>
    obtain ⟨e, a, ev, ua, h⟩ := h
    exact ⟨rfl, a, ev, hUU a ua, h⟩
  | con s =>
    cases s with
    | fro =>
      obtain ⟨a, Fs, rfl, rfl, h⟩ := h
      refine ⟨rfl, a, rfl, hU a List.mem_cons_self, ?_⟩
      rcases h with ⟨ds, vs, e, h, r⟩ | ⟨ks, ds, vs, e, l, h, r⟩
      · exact .inl ⟨ds, vs, e, h, (all3_fro r).1⟩
      · exact .inr (.inl ⟨ks, ds, vs, e, l, h, (all3_fro r).1⟩)
    | lnt => cases hs
    | con _ => cases hs
    | obj _ => cases hs
    | slf _ _ => cases hs
  | obj ss =>
    obtain ⟨a, Fs, k, ds, C, dx, vs, rfl, rfl, e, l, m, h, r⟩ := h
    exact ⟨rfl, a, rfl, hU a List.mem_cons_self, .inr (.inr ⟨k, ds, C, dx, vs, e, l, m, h, (ownS_fro hs r).1⟩)⟩
  | slf a0 ss =>
    obtain ⟨_, a, Fs, k, ds, C, dx, vs, rfl, rfl, e, l, m, h, r⟩ := h
    exact ⟨rfl, a, rfl, hU a List.mem_cons_self, .inr (.inr ⟨k, ds, C, dx, vs, e, l, m, h, (ownS_fro hs r).1⟩)⟩
theorem paired_mem {α β : Type} {P : α → β → Prop} : ∀ {L : List α} {Fs : List β} {w : α}, Paired P L Fs → w ∈ L → ∃ F ∈ Fs, P w F
  | _, _, _, .nil, h => by cases h
  | _, _, w, .cons p t, h => by
    rcases List.mem_cons.mp h with rfl | h
    · exact ⟨_, List.mem_cons_self, p⟩
    · obtain ⟨F, hF, q⟩ := paired_mem t h
      exact ⟨F, List.mem_cons_of_mem _ hF, q⟩
def LentOf (L : List Ow) (w : Ow) : Prop := ∃ v s d, w = .val v .lnt d ∧ Ow.val v s d ∈ L ∧ s.flatOwn = true
theorem lent_all {c : Ctx} {U : Addr → Prop} {G H : Hp} {L : List Ow} {Fs : List (List Addr)} (own : Paired (Fp M c.U G H) L Fs) (hU : ∀ a ∈ Fs.flatten, U a) (hUU : ∀ a, c.U a → U a) : ∀ {Ll : List Ow}, (∀ w ∈ Ll, LentOf L w) → ∃ Fl, Paired (Fp M U G H) Ll Fl ∧ Fl.flatten = []
  | [], _ => ⟨[], .nil, rfl⟩
  | w :: Ll, h => by
    obtain ⟨Fl, p, e⟩ := lent_all own hU hUU (Ll := Ll) fun w hw => h w (List.mem_cons_of_mem _ hw)
    obtain ⟨v, s, d, rfl, hm, hs⟩ := h w List.mem_cons_self
    obtain ⟨F, hF, q⟩ := paired_mem own hm
    exact ⟨[] :: Fl, .cons (Own.lent hs (fun a ha => hU a (mem_flat_of hF ha)) hUU q) p, e⟩
/-- THE CALL: the arguments La go to the callee, Ll are lent, L stays -/
theorem OK.call {c : Ctx} {H : Hp} {L La Ll : List Ow} (h : OK M c H (La ++ L)) (hl : ∀ w ∈ Ll, LentOf L w) :
    ∃ c', OK M c' H (Ll ++ La) ∧ (∀ H' v s d, s.solid → OK M c' H' [.val v s d] → OK M c H' (.val v s d :: L)) ∧ ∀ H' φ, OK M c' H' [.pin φ] → OK M c H' (.pin φ :: L) := by
  obtain ⟨G, Fs, x⟩ := h
  obtain ⟨g0, gh, un, own, nd, ap⟩ := x
  obtain ⟨Fa, Fr, rfl, pa, pr⟩ := Paired.split own
  rw [List.flatten_append] at nd ap
  obtain ⟨n1, n2, n3⟩ := List.nodup_append.mp nd
  have there : ∀ a ∈ Fr.flatten, ∃ o, H a = some o := fun a ha => by
    obtain ⟨F, hF, ha⟩ := List.mem_flatten.mp ha
    have : ∀ {L : List Ow} {Fs : List (List Addr)}, Paired (Fp M c.U G H) L Fs → F ∈ Fs → ∃ o, H a = some o := by
      intro L Fs q
      induction q with
      | nil => intro z; cases z
      | cons h1 _ ih =>
        intro z
        rcases List.mem_cons.mp z with rfl | z
        · exact h1.there a ha
        · exact ih z
    exact this pr hF
  let U' : Addr → Prop := fun a => c.U a ∨ a ∈ Fr.flatten
  obtain ⟨Fl, pl, el⟩ := lent_all (U := U') pr (fun a ha => .inr ha) (fun a u => .inl u) hl
  have un' : ∀ a, U' a → G a = none ∧ H a = H a ∧ ∃ o, H a = some o := fun a u => by
    rcases u with u | u
    · obtain ⟨h1, h2, h3⟩ := un a u
      exact ⟨h1, rfl, by rw [h2]; exact h3⟩
    · exact ⟨(ap a (List.mem_append_right _ u)).1, rfl, there a u⟩
  refine ⟨⟨G, U', H⟩, ⟨G, Fl ++ Fa, Ext.refl G, gh, un', Paired.join pl (pr_impM pa fun w F hF q => q.keep (Ext.refl G) (fun a u => ⟨.inl u, rfl⟩) fun _ _ => rfl), ?_, ?_⟩, ?_, ?_⟩
  · rw [List.flatten_append, el]; exact n1
  · rw [List.flatten_append, el]
    intro a ha
    have ha : a ∈ Fa.flatten := ha
    obtain ⟨h1, h2⟩ := ap a (List.mem_append_left _ ha)
    exact ⟨h1, fun u => u.elim h2 fun u => n3 a ha a u rfl⟩
  · intro H' v s d hs ok
    obtain ⟨G', Fs', y⟩ := ok
    obtain ⟨g0', gh', un2, own', nd', ap'⟩ := y
    cases own' with
    | cons h1 h2 =>
      cases h2
      rename_i F
      rw [List.flatten_cons, List.flatten_nil, List.append_nil] at nd' ap'
      have kp : ∀ a, U' a → H' a = H a := fun a u => (un2 a u).2.1
      refine ⟨G', F :: Fr, g0.trans g0', gh', fun a u => ⟨(un2 a (.inl u)).1, (kp a (.inl u)).trans (un a u).2.1, (un a u).2.2⟩,
        .cons (Own.keepS (Ext.refl G') s hs (fun _ _ => rfl) h1) (pr_impM pr fun w F' hF q => q.keep g0' (fun a u => ⟨u, kp a (.inl u)⟩) fun a ha => kp a (.inr (mem_flat_of hF ha))), ?_, ?_⟩
      · rw [List.flatten_cons]
        exact List.nodup_append.mpr ⟨nd', n2, fun a ha b hb e => (ap' a ha).2 (.inr (e ▸ hb))⟩
      · intro a ha
        rw [List.flatten_cons] at ha
        rcases List.mem_append.mp ha with ha | ha
        · exact ⟨(ap' a ha).1, fun u => (ap' a ha).2 (.inl u)⟩
        · exact ⟨(un2 a (.inr ha)).1, (ap a (List.mem_append_right _ ha)).2⟩
  · intro H' φ ok
    obtain ⟨G', Fs', y⟩ := ok
    obtain ⟨g0', gh', un2, own', nd', ap'⟩ := y
    cases own' with
    | cons h1 h2 =>
      cases h2
      obtain ⟨rfl, h1⟩ := h1
      have kp : ∀ a, U' a → H' a = H a := fun a u => (un2 a u).2.1
      refine ⟨G', [] :: Fr, g0.trans g0', gh', fun a u => ⟨(un2 a (.inl u)).1, (kp a (.inl u)).trans (un a u).2.1, (un a u).2.2⟩,
        .cons ⟨rfl, h1⟩ (pr_impM pr fun w F' hF q => q.keep g0' (fun a u => ⟨u, kp a (.inl u)⟩) fun a ha => kp a (.inr (mem_flat_of hF ha))), by rw [List.flatten_cons]; exact n2, fun a ha => ?_⟩
      rw [List.flatten_cons] at ha
      have ha : a ∈ Fr.flatten := ha
      exact ⟨(un2 a (.inr ha)).1, (ap a (List.mem_append_right _ ha)).2⟩
end

/-! ### a def from its body -/
def env0 (n : Nat) (rs : List Rv) : En := rs.map some ++ List.replicate (n - rs.length) none
def runF (n : Nat) (f : EvS) : Fn := fun rs => match f (env0 n rs) with
  | .ok (.rt r) _ => .ok r
  | .ok .nx _ => .ok (.fro, .non)
  | .ok .bk _ => .bad
  | .ok .ct _ => .bad
  | .exc x _ => .exc x
  | .bad => .bad
theorem slots_none' : ∀ (k : Nat) (σ : St), slots σ (List.replicate k none) = []
  | 0, σ => by cases σ <;> simp [slots]
  | k + 1, [] => by simp [slots]
  | k + 1, x :: σ => by
    rw [List.replicate_succ]
    cases x <;> simp only [slots, slots_none' k σ]
theorem slots_start : ∀ (vs : List V) (rs : List Rv) (a b : List (Option V)) (k : Nat), vs.length = rs.length → slots (vs.map some ++ a) (rs.map some ++ List.replicate k none) = argw vs rs
  | [], [], a, b, k, _ => by simp [argw, slots_none']
  | v :: vs, r :: rs, a, b, k, h => by
    simp only [List.map_cons, List.cons_append, slots, argw]
    rw [slots_start vs rs a b k (Nat.succ.inj h)]
theorem sta_start {M : Wd} {c : Ctx} {H : Hp} {vs : List V} {rs : List Rv} {N : List Str} (h : OK M c H (argw vs rs)) (hl : vs.length = rs.length) : Sta M c [] (L2.start N vs) H (env0 N.length rs) := by
  refine ⟨?_, ⟨?_, fun i r e => ?_⟩⟩
  · show OK M c H ([] ++ slots (vs.map some ++ List.replicate (N.length - vs.length) none) (rs.map some ++ List.replicate (N.length - rs.length) none))
    rw [List.nil_append, slots_start vs rs _ [] _ hl]
    exact h
  · simp [env0, L2.start, hl]
  · have hi : i < rs.length := by
      by_cases hi : i < rs.length
      · exact hi
      · unfold env0 at e
        rw [List.getElem?_append_right (by simpa using hi), List.getElem?_replicate] at e
        split at e <;> cases e
    refine ⟨vs[i]'(by omega), ?_⟩
    unfold L2.start
    rw [List.getElem?_append_left (by simp; omega), List.getElem?_map, List.getElem?_eq_getElem (by omega)]
    rfl
/-- the wish of a def's body about exceptions -/
abbrev wE (E : XK) : WX := fun cls d _ H => E cls d H
section
variable {P : Program} {w : World} {K : PySem.W.Frag} {mg : Str → Option Value} {base : Heap}
theorem Fun.okR {x qual : Str} {st : Stmt} {f : Addr} {fd : FuncData} {N ps : List Str} {k : Nat} {u : EvS} (F : L2.Fun K x qual st f fd) (S : FnScope N ps (defScope st))
    (hbody : ∀ (cdv : Value) (A : Around) (outer : List Env) (s : Shared) (H : Hp) (E : XK), Room k (A.deeper (envOfC qual (defScope st) s.heap.objs.size f cdv)) →
      RSs (cxOf (L2.CX P w) P w K mg base N qual (defScope st) f cdv A outer s H E) (wE E) (defBody st) u) : FnOk P w K mg base (L2.CX P w) (k + 1) f fd ps (spOf ⟨K, mg⟩ ps.length (runF N.length u)) := by
  refine F.okX S (fun vs H Q E h => ?_) (fun cdv A outer s H vs Q E hr h => ⟨_, (hbody cdv A outer s H E hr).run, ?_⟩)
  · obtain ⟨c, rs, h1, _⟩ := h
    exact h1
  · obtain ⟨c, rs, h1, h2, ok, q⟩ := h
    refine ⟨c, [], env0 N.length rs, sta_start ok (h1.trans h2.symm), ?_⟩
    show pstS _ _ _ _ _ _
    simp only [runF] at q
    cases e : u (env0 N.length rs) with
    | bad => rw [e] at q; exact q
    | exc x ε => rw [e] at q; exact fun cls d σ H st => q cls d H ((st.ok.perm (List.perm_append_comm (l₁ := [_]) (l₂ := slots σ ε))).drops)
    | ok fl ε =>
      rw [e] at q
      cases fl with
      | nx => exact fun σ H st => q .non H ((st.ok.lit (d := .non) (v := .non) fun _ => rfl).perm (List.perm_append_comm (l₁ := [_]) (l₂ := slots σ ε))).drops
      | bk => exact q.elim
      | ct => exact q.elim
      | rt r => exact fun v σ H st => q v H ((st.ok.perm (List.perm_append_comm (l₁ := [_]) (l₂ := slots σ ε))).drops)
end
/-- a plainer function in the place of the body's -/
def FLe (F B : Fn) : Prop := ∀ rs, F rs = .bad ∨ B rs = F rs
theorem spOf_le {M : Wd} {n : Nat} {F B : Fn} (h : FLe F B) : ∀ vs H Q E, spOf M n F vs H Q E → spOf M n B vs H Q E := by
  rintro vs H Q E ⟨c, rs, h1, h2, ok, q⟩
  refine ⟨c, rs, h1, h2, ok, ?_⟩
  rcases h rs with e | e
  · rw [e] at q; exact q.elim
  · rw [e]; exact q
end R
set_option Elab.async false
set_option linter.all false
set_option autoImplicit false
/-! R5: arguments, calls of defs and methods, displays. -/
namespace R
open PySem PySem.Spec PyProof.Rows L2
inductive Arg where
  | cap (r : Rv) | len (i : Nat)
def argo (σ : St) : Arg → V → Ow
  | .cap r, v => .val v r.1 r.2
  | .len i, v => .pin fun _ => σ[i]? = some (some v)
def argos (σ : St) : List Arg → List V → List Ow
  | a :: as, v :: vs => argo σ a v :: argos σ as vs
  | _, _ => []
def argRv : Arg → En → Option Rv
  | .cap r, _ => some r
  | .len i, ε => match (ε[i]?).join with
    | some (.fro, d) => some (.fro, d)
    | some (s, d) => if s.flatOwn = true then some (.lnt, d) else none
    | none => none
def argRvs : List Arg → En → Option (List Rv)
  | [], _ => some []
  | a :: as, ε => match argRv a ε, argRvs as ε with
    | some r, some rs => some (r :: rs)
    | _, _ => none
abbrev EvG := En → Out (List Arg)
abbrev postG (M : Wd) (W : WX) (c : Ctx) (T : List Ow) (σ : St) (Q : List V → Hp → Prop) : Out (List Arg) → Prop := pst M W c T σ fun as ε => ∀ vs H, as.length = vs.length → Sta M c (argos σ as vs ++ T) σ H ε → Q vs H
def tG (M : Wd) (W : WX) (f : EvG) : TA := fun σ H Q => ∃ c T ε, Sta M c T σ H ε ∧ postG M W c T σ Q (f ε)
structure RG (X : Cx) (W : WX) (es : List Expr) (f : EvG) : Prop where
  run : PA X es (tG (wd X) W f)
/-- one argument -/
abbrev Ev1 := En → Out Arg
abbrev post1 (M : Wd) (W : WX) (c : Ctx) (T : List Ow) (σ : St) (Q : VK) : Out Arg → Prop := pst M W c T σ fun a ε => ∀ v H, Sta M c (argo σ a v :: T) σ H ε → Q v H
def t1 (M : Wd) (W : WX) (f : Ev1) : TE := fun σ H Q => ∃ c T ε, Sta M c T σ H ε ∧ post1 M W c T σ Q (f ε)
structure R1g (X : Cx) (W : WX) (e : Expr) (f : Ev1) : Prop where
  run : PE X e (t1 (wd X) W f)
/-- frozen -/
def aFro (f : EvE) : Ev1 := fun ε => (f ε).bind fun r ε => if r.1.sol = true then .ok (.cap (.fro, r.2)) ε else .bad
/-- handed on as it is -/
def aOwn (f : EvE) : Ev1 := fun ε => (f ε).bind fun r ε => .ok (.cap r) ε
/-- a name, lent -/
def aLen (i : Nat) : Ev1 := fun ε => match (ε[i]?).join with
  | some _ => .ok (.len i) ε
  | none => .bad
def gNl : EvG := fun ε => .ok [] ε
def gCn (f : Ev1) (g : EvG) : EvG := fun ε => (f ε).bind fun a ε => (g ε).bind fun as ε => .ok (a :: as) ε
section
variable {X : Cx} {W : WX} {pos : Pos} {e : Expr} {es : List Expr} {f : EvE} {h : Ev1} {g : EvG}
theorem r1_fro (he : RE X W e f) : R1g X W e (aFro f) :=
  ⟨PE.imp he.run fun σ H Q ⟨c, T, ε, s, q⟩ => ⟨c, T, ε, s, pst_mono (fun r ε q v H s => by
    split at q
    · rename_i hs
      exact q v H (s.freeze (Sh.sol_solid _ hs))
    · exact q.elim) (pst_bind q)⟩⟩
theorem r1_own (he : RE X W e f) : R1g X W e (aOwn f) :=
  ⟨PE.imp he.run fun σ H Q ⟨c, T, ε, s, q⟩ => ⟨c, T, ε, s, pst_bind q⟩⟩
theorem r1_len (i : Nat) {x : Str} (hN : X.N[i]? = some x := by rfl) (hv : Vis X.env.scope x := by first | exact Or.inl rfl | exact Or.inr (Or.inl rfl) | exact Or.inr (Or.inr rfl)) (hd : (x == ("__debug__" : Str)) = false := by decide)
    (hcd : (x == ("__classdict__" : Str)) = false := by decide) : R1g X W (.Name x pos) (aLen i) :=
  ⟨PE.imp (pv i hN hv hd hcd) fun σ H Q ⟨c, T, ε, s, p⟩ => by
    unfold aLen at p
    split at p
    · rename_i r e
      obtain ⟨v, hv⟩ := s.fit.has _ _ (join_some e)
      exact ⟨v, hv, p v H ⟨s.ok.pin fun _ => hv, s.fit⟩⟩
    · exact p.elim⟩
theorem rg_nil : RG X W [] gNl := ⟨PA.imp pa_nil fun σ H Q ⟨c, T, ε, s, q⟩ => q [] H rfl s⟩
theorem rg_cons (h1 : R1g X W e h) (h2 : RG X W es g) (hs : starEach (e :: es) X.env = (false, eval e X.env) :: starEach es X.env := by rfl) : RG X W (e :: es) (gCn h g) :=
  ⟨PA.imp (pa_cons h1.run h2.run hs) fun σ H Q ⟨c, T, ε, s, q⟩ => ⟨c, T, ε, s, pst_mono (fun a ε q v H s => ⟨c, _, ε, s, pst_mono (fun as ε q vs H hl s => by
    refine q (v :: vs) H (by rw [List.length_cons, List.length_cons, hl]) (s.perm ?_)
    exact List.perm_middle) (pst_push (pst_bind q))⟩) (pst_bind q)⟩⟩
end
theorem slots_mem : ∀ {σ : St} {ε : En} {i : Nat} {v : V} {r : Rv}, σ[i]? = some (some v) → ε[i]? = some (some r) → Ow.val v r.1 r.2 ∈ slots σ ε := fun h h' => ((slots_get h h').mem_iff).mpr List.mem_cons_self
theorem args_split {M : Wd} {c : Ctx} {σ : St} {H : Hp} {ε : En} : ∀ (as : List Arg) {vs : List V} {rs : List Rv} {Acc T : List Ow}, Sta M c (argos σ as vs ++ (Acc ++ T)) σ H ε → as.length = vs.length → argRvs as ε = some rs →
    ∃ La Ll, Sta M c (La ++ (Acc ++ T)) σ H ε ∧ (∀ w ∈ Ll, LentOf (T ++ slots σ ε) w) ∧ (Ll ++ La).Perm (argw vs rs) ∧ rs.length = vs.length
  | [], [], _, _, _, s, _, e => by cases e; exact ⟨[], [], s, fun _ h => (by cases h), .refl _, rfl⟩
  | a :: as, v :: vs, rs, Acc, T, s, hl, e => by
    simp only [argRvs] at e
    split at e
    · rename_i r rs' e1 e2
      cases e
      cases a with
      | cap q =>
        cases e1
        have s1 : Sta M c (argos σ as vs ++ ((.val v r.1 r.2 :: Acc) ++ T)) σ H ε := s.perm List.perm_middle.symm
        obtain ⟨La, Ll, s2, h2, p2, l2⟩ := args_split as s1 (Nat.succ.inj hl) e2
        refine ⟨.val v r.1 r.2 :: La, Ll, s2.perm ?_, h2, ?_, by rw [List.length_cons, List.length_cons, l2]⟩
        · exact List.perm_middle
        · exact List.perm_middle.trans (p2.cons _)
      | len i =>
        have hv : σ[i]? = some (some v) := s.ok.pinned
        have s0 : Sta M c (argos σ as vs ++ (Acc ++ T)) σ H ε := s.drop
        simp only [argRv] at e1
        split at e1
        · rename_i d e3
          cases e1
          have e3 := join_some e3
          have s1 := s0.lend e3 hv trivial
          rw [set_same e3] at s1
          have s1 : Sta M c (argos σ as vs ++ ((.val v .fro d :: Acc) ++ T)) σ H ε := s1.perm List.perm_middle.symm
          obtain ⟨La, Ll, s2, h2, p2, l2⟩ := args_split as s1 (Nat.succ.inj hl) e2
          refine ⟨.val v .fro d :: La, Ll, s2.perm ?_, h2, ?_, by rw [List.length_cons, List.length_cons, l2]⟩
          · exact List.perm_middle
          · exact List.perm_middle.trans (p2.cons _)
        · rename_i sh d _ e3
          split at e1
          · rename_i hs
            cases e1
            obtain ⟨La, Ll, s2, h2, p2, l2⟩ := args_split as s0 (Nat.succ.inj hl) e2
            refine ⟨La, .val v .lnt d :: Ll, s2, fun w hw => ?_, p2.cons _, by rw [List.length_cons, List.length_cons, l2]⟩
            rcases List.mem_cons.mp hw with rfl | hw
            · exact ⟨v, sh, d, rfl, List.mem_append_right _ (slots_mem hv (join_some e3)), hs⟩
            · exact h2 w hw
          · cases e1
        · cases e1
    · cases e
/-- a def is called -/
def frOut (q : FR) (ε : En) : Out Rv := match q with
  | .ok r => if r.1.sol = true then .ok r ε else .bad
  | .exc x => .exc x ε
  | .bad => .bad
@[simp] theorem frOut_ok (r : Rv) (ε : En) : frOut (.ok r) ε = if r.1.sol = true then .ok r ε else .bad := rfl
@[simp] theorem frOut_exc (x : Exn) (ε : En) : frOut (.exc x) ε = .exc x ε := rfl
@[simp] theorem frOut_bad (ε : En) : frOut .bad ε = .bad := rfl
def sCall (F : Fn) (g : EvG) : EvE := fun ε => (g ε).bind fun as ε => opt (argRvs as ε) fun rs => frOut (F rs) ε
theorem call_run {M : Wd} {W : WX} {c : Ctx} {T : List Ow} {σ : St} {H : Hp} {ε : En} {Q : VK} {F : Fn} {as : List Arg} {vs : List V} {rs : List Rv} {n : Nat} (hn : as.length = n) (s : Sta M c (argos σ as vs ++ T) σ H ε) (hl : as.length = vs.length)
    (e : argRvs as ε = some rs) (q : postE M W c T σ Q (frOut (F rs) ε)) : spOf M n F vs H Q (WE W σ) := by
  obtain ⟨La, Ll, s1, h1, p1, l1⟩ := args_split as (Acc := []) (T := T) s hl e
  have ok : OK M c H (La ++ (T ++ slots σ ε)) := by
    have := s1.ok
    rw [List.nil_append, List.append_assoc] at this
    exact this
  obtain ⟨c', o1, o2, o3⟩ := ok.call h1
  refine ⟨c', rs, hl ▸ hn, l1.trans (hl ▸ hn), o1.perm p1, ?_⟩
  cases e1 : F rs with
  | ok r =>
    rw [e1] at q
    intro v H' okr
    simp only [frOut_ok] at q
    split at q
    · rename_i hs
      exact q v H' ⟨o2 H' v r.1 r.2 (Sh.sol_solid _ hs) okr, s.fit⟩
    · exact q.elim
  | exc x =>
    rw [e1] at q
    intro cls d H' okr
    exact q cls d H' ⟨o3 H' _ okr, s.fit⟩
  | bad => rw [e1] at q; exact q
section
variable {X : Cx} {W : WX} {pos p : Pos} {e : Expr} {es : List Expr} {f : EvE} {h : Ev1} {g : EvG} {k : Nat} {fa : Addr} {fd : FuncData} {ps : List Str} {F : Fn} {x : Str}
theorem re_call (G : FnOk X.prog X.w X.K X.mg X.base (L2.CX X.prog X.w) k fa fd ps (spOf (wd X) ps.length F)) (hr : Room k X.A) (hg : Gl X x) (hm : X.mg x = some (.ref fa)) (hk : PySem.W.keepIn X.K (.ref fa) = true) (hb : Binds X.K fd ps [])
    (tk : Takes X W) (ha : RG X W (e :: es) g) (hlen : ∀ ε as ε', g ε = .ok as ε' → as.length = ps.length) (hdb : (x == ("__debug__" : Str)) = false := by decide) (he : starEach (e :: es) X.env = (false, eval e X.env) :: starEach es X.env := by rfl)
    (hpl : (backTo pos (starEach es X.env)).any (·.1) = false := by rfl) : RE X W (.Call (.Name x p) (e :: es) [] pos) (sCall F g) :=
  ⟨PE.imp (pe_callS G hr hg hm hk hb (fun σ => passAt tk σ) ha.run hdb he hpl) fun σ H Q ⟨c, T, ε, s, q⟩ => ⟨c, T, ε, s, by
    have q := pst_bind q
    cases eg : g ε with
    | bad => rw [eg] at q; exact q
    | exc x ε => rw [eg] at q; exact q
    | ok as ε1 =>
      rw [eg] at q
      intro vs H1 hl s1
      obtain ⟨rs, e1, q⟩ := pst_opt q
      exact call_run (hlen _ _ _ eg) s1 hl e1 q⟩⟩
end
theorem glen_nil {n : Nat} (h : n = 0) : ∀ ε as ε', gNl ε = .ok as ε' → as.length = n := fun ε as ε' e => by cases e; exact h.symm
theorem glen_cons {f : Ev1} {g : EvG} {n : Nat} (h : ∀ ε as ε', g ε = .ok as ε' → as.length = n) : ∀ ε as ε', gCn f g ε = .ok as ε' → as.length = n + 1 := fun ε as ε' e => by
  unfold gCn at e
  cases e1 : f ε with
  | bad => rw [e1] at e; cases e
  | exc x ε => rw [e1] at e; cases e
  | ok a ε1 =>
    rw [e1, bind_ok] at e
    cases e2 : g ε1 with
    | bad => rw [e2] at e; cases e
    | exc x ε => rw [e2] at e; cases e
    | ok as ε2 =>
      rw [e2] at e
      cases e
      rw [List.length_cons, h _ _ _ e2]

/-! ### captured values: displays -/
def cNl : EvC := fun ε => .ok [] ε
def cCn (f : EvE) (g : EvC) : EvC := fun ε => (f ε).bind fun r ε => if r.1.sol = true then (g ε).bind fun ds ε => .ok (r.2 :: ds) ε else .bad
def eTup (g : EvC) : EvE := fun ε => (g ε).bind fun ds ε => if ds.length ≤ sizeLine then .ok (.fro, .tup ds) ε else .bad
def eLst (g : EvC) : EvE := fun ε => (g ε).bind fun ds ε => if ds.length ≤ sizeLine then .ok (.con .fro, .lst ds) ε else .bad
section
variable {X : Cx} {W : WX} {pos : Pos} {e : Expr} {es : List Expr} {f : EvE} {g : EvC}
theorem rc_nil : RC X W [] cNl := ⟨PA.imp pa_nil fun σ H Q ⟨c, T, ε, s, q⟩ => q [] H rfl s⟩
theorem rc_cons (h1 : RE X W e f) (h2 : RC X W es g) (hs : starEach (e :: es) X.env = (false, eval e X.env) :: starEach es X.env := by rfl) : RC X W (e :: es) (cCn f g) :=
  ⟨PA.imp (pa_cons h1.run h2.run hs) fun σ H Q ⟨c, T, ε, s, q⟩ => ⟨c, T, ε, s, pst_mono (fun r ε q v H s => by
    split at q
    · rename_i hs
      exact ⟨c, _, ε, s.freeze (Sh.sol_solid _ hs), pst_mono (fun ds ε q vs H hl s => q (v :: vs) H (by rw [List.length_cons, List.length_cons, hl]) (s.perm List.perm_middle)) (pst_push (pst_bind q))⟩
    · exact q.elim) (pst_bind q)⟩⟩
theorem re_tup {x1} (h : RC X W es g) : RE X W (.Tuple es x1 pos) (eTup g) :=
  ⟨PE.imp (pe_tupB h.run) fun σ H Q ⟨c, T, ε, s, q⟩ => ⟨c, T, ε, s, pst_mono (fun ds ε q vs H hl s => by
    split at q
    · rename_i hz
      refine ⟨hl ▸ hz, fun p ob hp hd => q (.ref p) _ ⟨OK.froT (vs := vs) hd hl ?_, s.fit⟩⟩
      have := (s.ok.new (o := tupC ob vs) hp)
      rw [List.append_assoc] at this
      exact this
    · exact q.elim) (pst_bind q)⟩⟩
theorem re_lst (h : RC X W es g) : RE X W (.List es pos) (eLst g) :=
  ⟨PE.imp (pe_lst h.run) fun σ H Q ⟨c, T, ε, s, q⟩ => ⟨c, T, ε, s, pst_mono (fun ds ε q vs H hl s => by
    split at q
    · rename_i hz
      refine ⟨hl ▸ hz, fun p hp => q (.ref p) _ ⟨OK.closeL (vs := vs) hl ?_, s.fit⟩⟩
      have := (s.ok.new (o := .lst vs) hp)
      rw [List.append_assoc] at this
      exact this
    · exact q.elim) (pst_bind q)⟩⟩
/-- {} -/
def eDicN : EvE := fun ε => .ok (.con .fro, .dic [] []) ε
theorem re_dicN : RE X W (.Dict [] [] pos) eDicN :=
  ⟨PE.imp pe_dnewK fun σ H Q ⟨c, T, ε, s, q⟩ p hp => q (.ref p) _ ⟨OK.closeD (ks := []) (ds := []) (vs := []) rfl rfl (s.ok.new (o := .dK []) hp), s.fit⟩⟩
end
end R
set_option Elab.async false
set_option linter.all false
set_option autoImplicit false
/-! R6: what is known of an operand; targets; what is walked; for, while. -/
namespace R
open PySem PySem.Spec PyProof.Rows L2
/-- an object's items -/
def kids : D → List D
  | .lst ds => ds | .tup ds => ds | .pr ds => ds | .dic _ ds => ds | .obj _ ds => ds
  | _ => []
/-- the top of what stands at v, vs its items -/
def Top (M : Wd) (H : Hp) : D → V → List V → Prop
  | .lst ds, v, vs => ∃ a, v = .ref a ∧ SqL M.K H a vs
  | .tup ds, v, vs => ∃ a, v = .ref a ∧ SqT M.K H a vs
  | .pr ds, v, vs => ∃ a, v = .ref a ∧ SqT M.K H a vs
  | .dic ks ds, v, vs => ks.length = vs.length ∧ ∃ a, v = .ref a ∧ Rd H a (.dK (ks.zip vs))
  | .obj k ds, v, vs => vs.length ≤ (cFlds k).length ∧ ∃ a C dx, v = .ref a ∧ M.mg (cName k) = some (.ref C) ∧ H a = some (.ins C dx ((cFlds k).zip vs))
  | .non, v, vs => v = .non ∧ vs = []
  | .bl b, v, vs => v = .bl b ∧ vs = []
  | .int i, v, vs => v = .int i ∧ vs = []
  | .str s, v, vs => v = .str s ∧ vs = []
/-- frozen, lent, or flat: the items are frozen -/
def Sh.flat : Sh → Bool
  | .fro => true
  | s => s.flatOwn
section
variable {M : Wd} {c : Ctx} {H : Hp} {L T : List Ow} {σ : St} {ε : En}
theorem OK.learn {ι : Type} {w : Ow} {P : ι → Prop} {φ : ι → Hp → Prop} (h : OK M c H (w :: L)) (f : ∀ G F, Ext G H → Fp M c.U G H w F → ∃ i, P i ∧ φ i G) (mono : ∀ i G G', Ext G G' → φ i G → φ i G') : ∃ i, P i ∧ OK M c H (.pin (φ i) :: w :: L) := by
  obtain ⟨G, Fs, x⟩ := h
  obtain ⟨g0, gh, un, own, nd, ap⟩ := x
  cases own with
  | cons h1 h2 =>
    obtain ⟨i, p, q⟩ := f _ _ gh h1
    exact ⟨i, p, G, [] :: _, g0, gh, un, .cons ⟨rfl, fun G' x => mono i G G' x q⟩ (.cons h1 h2), nd, ap⟩
theorem rep_top {G : Hp} (x : Ext G H) : ∀ {d : D} {v : V}, Rep M G d v → ∃ vs, Top M H d v vs ∧ RepL M G (kids d) vs
  | .non, _, h => ⟨[], ⟨h, rfl⟩, rfl⟩
  | .bl _, _, h => ⟨[], ⟨h, rfl⟩, rfl⟩
  | .int _, _, h => ⟨[], ⟨h, rfl⟩, rfl⟩
  | .str _, _, h => ⟨[], ⟨h, rfl⟩, rfl⟩
  | .lst _, _, ⟨a, vs, e, s, r⟩ => ⟨vs, ⟨a, e, sqL_ext x s⟩, r⟩
  | .tup _, _, ⟨a, vs, e, s, r⟩ => ⟨vs, ⟨a, e, sqT_ext x s.sq⟩, r⟩
  | .pr _, _, ⟨a, vs, e, s, r⟩ => ⟨vs, ⟨a, e, sqT_ext x s⟩, r⟩
  | .dic _ _, _, ⟨a, vs, e, l, s, r⟩ => ⟨vs, ⟨l, a, e, rd_ext x s⟩, r⟩
  | .obj _ _, _, ⟨a, C, dx, vs, e, l, m, s, r⟩ => ⟨vs, ⟨l, a, C, dx, e, m, x _ _ s⟩, r⟩
theorem own_top {U : Addr → Prop} {G : Hp} (x : Ext G H) {s : Sh} (hs : s.flat = true) {d : D} {v : V} {F : List Addr} (h : Own M U G H s d v F) : ∃ vs, Top M H d v vs ∧ RepL M G (kids d) vs := by
  cases s with
  | fro => exact rep_top x h.2
  | lnt =>
    obtain ⟨_, a, e, _, h⟩ := h
    subst e
    rcases h with ⟨ds, vs, rfl, h, r⟩ | ⟨ks, ds, vs, rfl, l, h, r⟩ | ⟨k, ds, C, dx, vs, rfl, l, m, h, r⟩
    · exact ⟨vs, ⟨a, rfl, .inl (.inl h)⟩, r⟩
    · exact ⟨vs, ⟨l, a, rfl, .inl h⟩, r⟩
    · exact ⟨vs, ⟨l, a, C, dx, rfl, m, h⟩, r⟩
  | con s =>
    cases s with
    | fro =>
      obtain ⟨a, Fs, e, _, h⟩ := h
      subst e
      rcases h with ⟨ds, vs, rfl, h, r⟩ | ⟨ks, ds, vs, rfl, l, h, r⟩
      · exact ⟨vs, ⟨a, rfl, .inl (.inl h)⟩, (all3_fro r).1⟩
      · exact ⟨vs, ⟨l, a, rfl, .inl h⟩, (all3_fro r).1⟩
    | lnt => cases hs
    | con _ => cases hs
    | obj _ => cases hs
    | slf _ _ => cases hs
  | obj ss =>
    obtain ⟨a, Fs, k, ds, C, dx, vs, e, _, rfl, l, m, h, r⟩ := h
    subst e
    exact ⟨vs, ⟨l, a, C, dx, rfl, m, h⟩, (ownS_fro hs r).1⟩
  | slf a0 ss =>
    obtain ⟨_, a, Fs, k, ds, C, dx, vs, e, _, rfl, l, m, h, r⟩ := h
    subst e
    exact ⟨vs, ⟨l, a, C, dx, rfl, m, h⟩, (ownS_fro hs r).1⟩
theorem OK.know {v : V} {s : Sh} {d : D} (h : OK M c H (.val v s d :: L)) (hs : s.flat = true) : ∃ vs, Top M H d v vs ∧ OK M c H (.pin (fun G => RepL M G (kids d) vs) :: .val v s d :: L) :=
  h.learn (P := fun vs => Top M H d v vs) (φ := fun vs G => RepL M G (kids d) vs) (fun G F x q => own_top x hs q) fun _ _ _ x q => q.mono x
theorem Sta.know {o : Opd} {v : V} {r : Rv} (s : Sta M c (opw σ o v :: T) σ H ε) (h : res o ε = some r) (hs : r.1.flat = true) :
    ∃ vs, Top M H r.2 v vs ∧ Sta M c (.pin (fun G => RepL M G (kids r.2) vs) :: opw σ o v :: T) σ H ε := by
  cases o with
  | tmp q =>
    cases h
    obtain ⟨vs, t, k⟩ := s.ok.know hs
    exact ⟨vs, t, k, s.fit⟩
  | slot i =>
    have hv : σ[i]? = some (some v) := s.ok.pinned
    have e := join_some h
    have s1 := Sta.take s e hv
    obtain ⟨vs, t, k⟩ := s1.ok.know hs
    refine ⟨vs, t, ?_⟩
    have s2 : Sta M c (.val v r.1 r.2 :: .pin (fun G => RepL M G (kids r.2) vs) :: opw σ (.slot i) v :: T) σ H (ε.set i none) := ⟨k.perm (List.Perm.swap _ _ _), s1.fit⟩
    have s3 := Sta.put (r := r) s2 (lt_of_slot e) hv
    rw [set_same e] at s3
    exact s3
theorem RepL.get {G : Hp} : ∀ {ds : List D} {vs : List V} {j : Nat} {d : D}, RepL M G ds vs → ds[j]? = some d → ∃ v, vs[j]? = some v ∧ Rep M G d v
  | [], _, _, _, _, e => by simp at e
  | _ :: _, _, 0, d, ⟨v, r, e, h1, _⟩, e2 => by
    simp at e2; subst e2; subst e
    exact ⟨v, rfl, h1⟩
  | _ :: _, _, j + 1, d, ⟨v, r, e, _, h2⟩, e2 => by
    subst e
    obtain ⟨v', a, b⟩ := RepL.get h2 (by simpa using e2)
    exact ⟨v', by simpa using a, b⟩
theorem RepL.get' {G : Hp} : ∀ {ds : List D} {vs : List V} {j : Nat} {v : V}, RepL M G ds vs → vs[j]? = some v → ∃ d, ds[j]? = some d ∧ Rep M G d v := fun {ds vs j v} h e => by
  have hl := h.length
  have hj : j < ds.length := by rw [← hl]; exact (List.getElem?_eq_some_iff.mp e).1
  obtain ⟨v', a, b⟩ := h.get (List.getElem?_eq_getElem hj)
  rw [e] at a; cases a
  exact ⟨_, List.getElem?_eq_getElem hj, b⟩
/-- an item is taken from what is known -/
theorem Sta.item {ds : List D} {vs : List V} {j : Nat} {d : D} {v : V} (s : Sta M c (.pin (fun G => RepL M G ds vs) :: T) σ H ε) (e : ds[j]? = some d) (ev : vs[j]? = some v) : Sta M c (.val v .fro d :: T) σ H ε :=
  ⟨(s.ok.pinMap (ψ := fun G => Rep M G d v) fun G q => by
    obtain ⟨v', a, b⟩ := q.get e
    rw [ev] at a; cases a
    exact b).ofPin, s.fit⟩
theorem Sta.pinDup {φ : Hp → Prop} (s : Sta M c (.pin φ :: T) σ H ε) : Sta M c (.pin φ :: .pin φ :: T) σ H ε := ⟨s.ok.pinDup, s.fit⟩
theorem Sta.pinMap {φ ψ : Hp → Prop} (s : Sta M c (.pin φ :: T) σ H ε) (f : ∀ G, φ G → ψ G) : Sta M c (.pin ψ :: T) σ H ε := ⟨s.ok.pinMap f, s.fit⟩
end

/-! ### targets -/
abbrev EvTg := Rv → En → Option En
/-- the slots but those at ix are as they were -/
def Agr (ix : List Nat) (σ σ' : St) : Prop := σ'.length = σ.length ∧ ∀ i, i ∉ ix → σ'[i]? = σ[i]?
def tTg (M : Wd) (g : EvTg) (ix : List Nat) : TG := fun v σ H Q => ∃ c T ε r, Sta M c (.val v r.1 r.2 :: T) σ H ε ∧ ∃ ε', g r ε = some ε' ∧ ∀ σ', Agr ix σ σ' → Sta M c T σ' H ε' → Q σ' H
abbrev EvTgs := List D → En → Option En
def tTgs (M : Wd) (g : EvTgs) (ix : List Nat) : TGs := fun vs σ H Q => ∃ c T ε ds, ds.length = vs.length ∧ Sta M c (itc .fro ds vs ++ T) σ H ε ∧ ∃ ε', g ds ε = some ε' ∧ ∀ σ', Agr ix σ σ' → Sta M c T σ' H ε' → Q σ' H
def gNm (i : Nat) : EvTg := fun r ε => some (ε.set i (some r))
def gTp (g : EvTgs) (n : Nat) : EvTg := fun r ε => match r with
  | (.fro, .tup ds) => if ds.length = n then g ds ε else none
  | (.fro, .pr ds) => if ds.length = n then g ds ε else none
  | _ => none
def gN0 : EvTgs := fun ds ε => match ds with
  | [] => some ε
  | _ => none
def gC1 (g : EvTg) (h : EvTgs) : EvTgs := fun ds ε => match ds with
  | d :: ds => (g (.fro, d) ε).bind fun ε => h ds ε
  | [] => none
structure RTg (X : Cx) (tg : Expr) (g : EvTg) (ix : List Nat) : Prop where
  run : PG X tg (tTg (wd X) g ix)
structure RTgs (X : Cx) (tgs : List Expr) (g : EvTgs) (ix : List Nat) : Prop where
  run : PGs X tgs (tTgs (wd X) g ix)
theorem PG.imp {X : Cx} {e : Expr} {t t' : TG} (h : PG X e t) (i : ∀ v σ H Q, t' v σ H Q → t v σ H Q) : PG X e t' := ⟨fun pins s σ H v u Q I r q => h.run pins s σ H v u Q I r (i v σ H Q q)⟩
theorem PGs.imp {X : Cx} {e : List Expr} {t t' : TGs} (h : PGs X e t) (i : ∀ v σ H Q, t' v σ H Q → t v σ H Q) : PGs X e t' := ⟨fun pins s σ H v u Q I r q => h.run pins s σ H v u Q I r (i v σ H Q q)⟩
section
variable {X : Cx} {pos : Pos} {e : Expr} {es : List Expr} {g : EvTg} {h : EvTgs} {ix jx : List Nat}
theorem rtg_name {i : Nat} {x : Str} (hN : X.N.Nodup) (hi : X.N[i]? = some x) (hx : Loc X.env.scope x) (hlen : i < X.N.length := by exact Nat.le_of_ble_eq_true rfl)
    (hf : X.fn x = true ∨ X.env.scope.names.lookup x = some .local := by first | exact .inl rfl | exact .inr rfl | assumption) : RTg X (.Name x pos) (gNm i) [i] :=
  ⟨⟨fun pins s σ H v u Q I r q => (pg_name hN hi hx hf).run pins s σ H v u Q I r (by
    obtain ⟨c, T, ε, r, st, ε', e, q⟩ := q
    cases e
    exact q _ ⟨List.length_set .., fun j hj => List.getElem?_set_ne (fun z => hj (by simp [z]))⟩ (st.store (by rw [I.len]; exact hlen)))⟩⟩
theorem rtgs_nil : RTgs X [] gN0 [] := ⟨PGs.imp pgs_nil fun vs σ H Q ⟨c, T, ε, ds, hl, st, ε', e, q⟩ => by
  cases ds with
  | cons d ds => cases e
  | nil =>
    cases vs with
    | cons v vs => cases hl
    | nil => cases e; exact ⟨rfl, q σ ⟨rfl, fun _ _ => rfl⟩ st⟩⟩
theorem rtgs_cons (h1 : RTg X e g ix) (h2 : RTgs X es h jx) (hs : (assignEach (e :: es) X.env).map (·.2) = assign e X.env :: (assignEach es X.env).map (·.2) := by rfl) : RTgs X (e :: es) (gC1 g h) (ix ++ jx) :=
  ⟨PGs.imp (pgs_cons h1.run h2.run hs) fun vs σ H Q ⟨c, T, ε, ds, hl, st, ε', e, q⟩ => by
    cases ds with
    | nil => cases e
    | cons d ds =>
      cases vs with
      | nil => cases hl
      | cons v vs =>
        simp only [gC1, Option.bind_eq_some_iff] at e
        obtain ⟨ε1, e1, e2⟩ := e
        exact ⟨v, vs, rfl, c, itc .fro ds vs ++ T, ε, (.fro, d), st, ε1, e1, fun σ' a1 st' => ⟨c, T, ε1, ds, Nat.succ.inj hl, st', ε', e2, fun σ'' a2 st'' => q σ'' ⟨a2.1.trans a1.1, fun i hi => (a2.2 i fun z => hi (List.mem_append_right _ z)).trans (a1.2 i fun z => hi (List.mem_append_left _ z))⟩ st''⟩⟩⟩
theorem rtg_tup {k n : Nat} (hc : X.calm = true) (h1 : RTgs X es h jx) (hn : (assignEach es X.env).length = n := by rfl) (hst : (assignEach es X.env).findIdx? (·.1) = none := by rfl) : RTg X (.Tuple es k pos) (gTp h n) jx :=
  ⟨PG.imp (pg_tup hc h1.run hn hst) fun v σ H Q ⟨c, T, ε, r, st, ε', e, q⟩ => by
    have go : ∀ {d : D} {vs : List V} {ds : List R.D} {a : Addr}, v = .ref a → SqT X.K H a vs → OK (wd X) c H (.pin (fun G => RepL (wd X) G ds vs) :: .val v .fro d :: (T ++ slots σ ε)) → ds.length = n → h ds ε = some ε' → gTup X.K n (tTgs (wd X) h jx) v σ H Q := by
      intro d vs ds a ev ht ok hl e
      have ok2 : OK (wd X) c H (.pin (fun G => RepL (wd X) G ds vs) :: (T ++ slots σ ε)) := (ok.perm (List.Perm.swap _ _ _)).drop
      have l2 : ds.length = vs.length := (ok2.pinned).length.symm
      refine ⟨a, vs, ev, ht, l2.symm.trans hl, c, T, ε, ds, l2, ⟨?_, st.fit⟩, ε', e, q⟩
      rw [List.append_assoc]
      exact ok2.itemsPin
    unfold gTp at e
    split at e
    · rename_i ds
      split at e
      · rename_i hl
        obtain ⟨vs, ⟨a, ev, ht⟩, ok⟩ := OK.know (L := T ++ slots σ ε) st.ok rfl
        exact go ev ht ok hl e
      · cases e
    · rename_i ds
      split at e
      · rename_i hl
        obtain ⟨vs, ⟨a, ev, ht⟩, ok⟩ := OK.know (L := T ++ slots σ ε) st.ok rfl
        exact go ev ht ok hl e
      · cases e
    · cases e⟩
end

/-! ### what is walked -/
/-- the walk J gives the items ds; S: what is held meanwhile -/
def Src (M : Wd) (J : It) (ds : List D) (S : List Ow) : Prop := ∃ (G : Hp → Prop) (Y : Nat → Hp → V → Hp → Prop), Walk J ds.length G Y ∧
  (∀ c T σ H ε, Sta M c (S ++ T) σ H ε → G H) ∧ ∀ c T σ H ε i x H' d, Sta M c (S ++ T) σ H ε → Y i H x H' → ds[i]? = some d → Sta M c (.val x .fro d :: (S ++ T)) σ H' ε
abbrev EvI := En → Out (List D)
abbrev postI (M : Wd) (W : WX) (c : Ctx) (T : List Ow) (σ : St) (R : It → Hp → Prop) : Out (List D) → Prop := pst M W c T σ fun ds ε => ∀ J S H, Src M J ds S → Sta M c (S ++ T) σ H ε → R J H
def tI (M : Wd) (W : WX) (f : EvI) : TI := fun σ H R => ∃ c T ε, Sta M c T σ H ε ∧ postI M W c T σ R (f ε)
structure RI (X : Cx) (W : WX) (tg iter : Expr) (f : EvI) : Prop where
  run : PI X tg iter (tI (wd X) W f)
theorem PI.imp {X : Cx} {tg e : Expr} {t t' : TI} (h : PI X tg e t) (i : ∀ σ H Q, t' σ H Q → t σ H Q) : PI X tg e t' := ⟨fun pins s σ H Q I q => h.run pins s σ H Q I (i σ H Q q)⟩
section
variable {M : Wd}
theorem src_list {a : Addr} {vs : List V} {ds : List D} (hl : ds.length = vs.length) : Src M (Itl M.K a) ds [.pin fun G => SqL M.K G a vs ∧ RepL M G ds vs] := by
  refine ⟨fun H => SqL M.K H a vs, YAt vs, hl ▸ walk_list, fun c T σ H ε s => (s.ok.pinned).1, fun c T σ H ε i x H' d s y e => ?_⟩
  obtain ⟨rfl, y⟩ := y
  exact Sta.item (s.pinDup.pinMap fun G q => q.2) e y
theorem src_tup {a : Addr} {vs : List V} {ds : List D} (hl : ds.length = vs.length) : Src M (Itt M.K a) ds [.pin fun G => SqT M.K G a vs ∧ RepL M G ds vs] := by
  refine ⟨fun H => SqT M.K H a vs, YAt vs, hl ▸ walk_tup, fun c T σ H ε s => (s.ok.pinned).1, fun c T σ H ε i x H' d s y e => ?_⟩
  obtain ⟨rfl, y⟩ := y
  exact Sta.item (s.pinDup.pinMap fun G q => q.2) e y
/-- 0, 1, .. -/
def rngD (lo : Int) (n : Nat) : List D := (List.range n).map fun i => .int (lo + (i : Nat))
theorem src_range {lo : Int} {n : Nat} : Src M (Itr lo n) (rngD lo n) [] := by
  refine ⟨fun _ => True, YFn fun i => .int (lo + i), by simp only [rngD, List.length_map, List.length_range]; exact walk_range, fun _ _ _ _ _ _ => trivial, fun c T σ H ε i x H' d s y e => ?_⟩
  obtain ⟨rfl, rfl⟩ := y
  simp only [rngD, List.getElem?_map, Option.map_eq_some_iff] at e
  obtain ⟨j, ej, e⟩ := e
  rw [List.getElem?_eq_some_iff] at ej
  obtain ⟨h1, h2⟩ := ej
  rw [List.getElem_range] at h2
  subst h2
  subst e
  exact s.lit fun _ => rfl
def sgnD (z : Str) : List D := z.cps.toList.map fun c => .str ⟨#[c]⟩
theorem src_str {z : Str} : Src M (Its z) (sgnD z) [] := by
  refine ⟨fun _ => True, fun i H v H' => H' = H ∧ ∃ c, z.cps[i]? = some c ∧ v = .str ⟨#[c]⟩, by simp only [sgnD, List.length_map, Array.length_toList]; exact walk_str, fun _ _ _ _ _ _ => trivial, fun c T σ H ε i x H' d s y e => ?_⟩
  obtain ⟨rfl, k, ek, rfl⟩ := y
  simp only [sgnD, List.getElem?_map, Array.getElem?_toList, ek, Option.map_some, Option.some.injEq] at e
  subst e
  exact s.lit fun _ => rfl
/-- a new pair at each turn -/
theorem src_pair {J : It} {n : Nat} {G : Hp → Prop} {xs ys : Nat → Option V} {S : List Ow} {ds : List D} (w : Walk J n G (YPair xs ys)) (hn : ds.length = n) (hG : ∀ c T σ H ε, Sta M c (S ++ T) σ H ε → G H)
    (hi : ∀ c T σ H ε i x y d, Sta M c (S ++ T) σ H ε → xs i = some x → ys i = some y → ds[i]? = some d → ∃ d1 d2, d = .pr [d1, d2] ∧ Sta M c (.val x .fro d1 :: .val y .fro d2 :: (S ++ T)) σ H ε) : Src M J ds S := by
  refine ⟨G, YPair xs ys, hn ▸ w, hG, fun c T σ H ε i v H' d s y e => ?_⟩
  obtain ⟨Ta, x, y', rfl, hT, rfl, ex, ey⟩ := y
  obtain ⟨d1, d2, rfl, s1⟩ := hi c T σ H ε i x y' d s ex ey e
  exact ⟨OK.froP (ds := [d1, d2]) (vs := [x, y']) rfl (s1.ok.new hT), s1.fit⟩
end
/-! ### for -/
/-- what a turn's end leads to; k: the next turns -/
def flK (k : EvS) : Fl → EvS
  | .nx, ε => k ε
  | .ct, ε => k ε
  | .bk, ε => .ok .nx ε
  | .rt r, ε => .ok (.rt r) ε
@[simp] theorem flK_nx (k : EvS) (ε : En) : flK k .nx ε = k ε := rfl
@[simp] theorem flK_ct (k : EvS) (ε : En) : flK k .ct ε = k ε := rfl
@[simp] theorem flK_bk (k : EvS) (ε : En) : flK k .bk ε = .ok .nx ε := rfl
@[simp] theorem flK_rt (k : EvS) (r : Rv) (ε : En) : flK k (.rt r) ε = .ok (.rt r) ε := rfl
def loopF (tg : EvTg) (body : EvS) : List D → EvS
  | [] => fun ε => .ok .nx ε
  | d :: ds => fun ε => opt (tg (.fro, d) ε) fun ε => (body ε).bind (flK (loopF tg body ds))
def sFor (f : EvI) (tg : EvTg) (body : EvS) : EvS := fun ε => (f ε).bind fun ds ε => loopF tg body ds ε
theorem loop_run {M : Wd} {W : WX} {c : Ctx} {T S : List Ow} {σ : St} {H : Hp} {ε : En} {D' : Ends} {J : It} {ds : List D} {tg : EvTg} {ix : List Nat} {body : EvS} (hs : Src M J ds S) (s : Sta M c (S ++ T) σ H ε) (q : postS M W c (S ++ T) D' (loopF tg body ds ε)) :
    ∃ Wd : Nat → Nat → St → Hp → Prop, (∃ m, Wd 0 m σ H) ∧ ∀ i m σ H, Wd i m σ H →
      (J.stop i H ∧ D'.nx σ H) ∨ (J.go i H ∧ ∃ N : St → Hp → Prop, (∀ σ' H', N σ' H' → ∃ m', m' < m ∧ Wd (i + 1) m' σ' H') ∧ ∀ x H', J.yld i H x H' → tTg M tg ix x σ H' fun σ2 H2 => tS M W body { D' with nx := N, ct := N, bk := D'.nx } σ2 H2) := by
  obtain ⟨G, Y, w, hG, hY⟩ := hs
  refine for_it w (fun i σ H => ∃ ε, Sta M c (S ++ T) σ H ε ∧ postS M W c (S ++ T) D' (loopF tg body (ds.drop i) ε)) ⟨ε, s, by rw [List.drop_zero]; exact q⟩ (fun i σ H hi ⟨ε, s, _⟩ => hG c T σ H ε s) (fun i x σ H H' hi ⟨ε, s, q⟩ y => ?_) (fun σ H ⟨ε, s, q⟩ => ?_)
  · rw [List.drop_eq_getElem_cons hi] at q
    have s1 := hY c T σ H ε i x H' _ s y (List.getElem?_eq_getElem hi)
    change pstS _ _ _ _ _ (opt (tg (.fro, ds[i]) ε) fun ε => (body ε).bind (flK (loopF tg body (ds.drop (i + 1))))) at q
    cases e : tg (.fro, ds[i]) ε with
    | none => rw [e] at q; exact q.elim
    | some ε1 =>
      rw [e] at q
      refine ⟨c, S ++ T, ε, (.fro, ds[i]), s1, ε1, e, fun σ2 _ s2 => ⟨c, S ++ T, ε1, s2, pstS_mono (fun fl ε q => ?_) (pstS_bind q)⟩⟩
      cases fl with
      | nx => exact fun σ H s => ⟨ε, s, q⟩
      | ct => exact fun σ H s => ⟨ε, s, q⟩
      | bk => exact q
      | rt r => exact q
  · rw [List.drop_length] at q
    exact q σ H s
theorem postS_drop {M : Wd} {W : WX} {c : Ctx} {T S : List Ow} {D' : Ends} {f : Out Fl} (q : postS M W c T D' f) : postS M W c (S ++ T) D' f := by
  cases f with
  | bad => exact q
  | exc x ε => exact fun cls d σ H s => q cls d σ H (Sta.drops (T1 := S) (s.perm List.perm_middle.symm |>.perm (by
      exact List.Perm.refl _)))
  | ok fl ε =>
    cases fl with
    | nx => exact fun σ H s => q σ H s.drops
    | ct => exact fun σ H s => q σ H s.drops
    | bk => exact fun σ H s => q σ H s.drops
    | rt r => exact fun v σ H s => q v σ H (Sta.drops (T1 := S) (s.perm List.perm_middle.symm))
section
variable {X : Cx} {W : WX} {pos : Pos} {tg iter : Expr} {body : List Stmt} {f : EvI} {g : EvTg} {ix : List Nat} {u : EvS}
theorem rs_for (hp : PassesOwn (model X.prog X.w) X.A X.env X.xe) (hc : X.calm = true) (hi : RI X W tg iter f) (hg : RTg X tg g ix) (hb : RSs X W body u)
    (hs : ∀ x, foldedSetIterable iter X.env x = pure x := by intro _; rfl) : RS X W (.For tg iter body [] pos) (sFor f g u) :=
  ⟨PS.imp (ps_for hp hc hi.run hg.run hb.run hs) fun D σ H ⟨c, T, ε, s, q⟩ => ⟨c, T, ε, s, pst_of_S (pstS_mono (fun ds ε q J S H hsrc s => loop_run hsrc s (postS_drop q)) (pstS_bind q))⟩⟩
end
end R
set_option Elab.async false
set_option linter.all false
set_option autoImplicit false
/-! R7: the sources of loops; comprehensions; while. -/
namespace R
open PySem PySem.Spec PyProof.Rows L2
/-- a list, a tuple, a text -/
def iSeq (f : EvE) : EvI := fun ε => (f ε).bind fun r ε => if r.1.sol = true then (match r.2 with
  | .lst ds => .ok ds ε
  | .tup ds => .ok ds ε
  | .str z => .ok (sgnD z) ε
  | _ => .bad) else .bad
section
variable {X : Cx} {W : WX} {pos p : Pos} {tg e : Expr} {f : EvE} {g : EvG}
theorem Sta.pinL {M : Wd} {c : Ctx} {T : List Ow} {σ : St} {H : Hp} {ε : En} {v : V} {ds : List D} (s : Sta M c (.val v .fro (.lst ds) :: T) σ H ε) :
    ∃ a vs, v = .ref a ∧ ds.length = vs.length ∧ SqL M.K H a vs ∧ Sta M c (.pin (fun G => SqL M.K G a vs ∧ RepL M G ds vs) :: T) σ H ε := by
  obtain ⟨⟨a, vs⟩, ⟨h1, h2⟩, ok⟩ := s.ok.learn (ι := Addr × List V) (P := fun i => v = .ref i.1 ∧ ds.length = i.2.length) (φ := fun i G => SqL M.K G i.1 i.2 ∧ RepL M G ds i.2)
    (fun G F x q => by
      obtain ⟨_, a, vs, e, h, r⟩ := q
      exact ⟨(a, vs), ⟨e, r.length.symm⟩, h, r⟩) (fun i G G' x q => ⟨sqL_ext x q.1, q.2.mono x⟩)
  exact ⟨a, vs, h1, h2, ok.pinned.1, (ok.perm (List.Perm.swap _ _ _)).drop, s.fit⟩
theorem Sta.pinT {M : Wd} {c : Ctx} {T : List Ow} {σ : St} {H : Hp} {ε : En} {v : V} {ds : List D} (s : Sta M c (.val v .fro (.tup ds) :: T) σ H ε) :
    ∃ a vs, v = .ref a ∧ ds.length = vs.length ∧ SqT M.K H a vs ∧ Sta M c (.pin (fun G => SqT M.K G a vs ∧ RepL M G ds vs) :: T) σ H ε := by
  obtain ⟨⟨a, vs⟩, ⟨h1, h2⟩, ok⟩ := s.ok.learn (ι := Addr × List V) (P := fun i => v = .ref i.1 ∧ ds.length = i.2.length) (φ := fun i G => SqT M.K G i.1 i.2 ∧ RepL M G ds i.2)
    (fun G F x q => by
      obtain ⟨_, a, vs, e, h, r⟩ := q
      exact ⟨(a, vs), ⟨e, r.length.symm⟩, h.sq, r⟩) (fun i G G' x q => ⟨sqT_ext x q.1, q.2.mono x⟩)
  exact ⟨a, vs, h1, h2, ok.pinned.1, (ok.perm (List.Perm.swap _ _ _)).drop, s.fit⟩
theorem ri_seq (he : RE X W e f) : RI X W tg e (iSeq f) := by
  refine ⟨⟨fun pins s σ H R I q => ?_⟩⟩
  obtain ⟨c, T, ε, st, q⟩ := q
  have q := pst_bind q
  cases hf : f ε with
  | bad => rw [hf] at q; exact q.elim
  | exc x ε1 =>
    rw [hf] at q
    exact (pi_list he.run).run pins s σ H R I ⟨c, T, ε, st, by rw [hf]; exact q⟩
  | ok r ε1 =>
    rw [hf] at q
    change pst _ _ _ _ _ _ (if r.1.sol = true then _ else _) at q
    split at q
    · rename_i hs
      obtain ⟨sh, d⟩ := r
      cases d with
      | lst ds =>
        refine (pi_list he.run).run pins s σ H R I ⟨c, T, ε, st, ?_⟩
        rw [hf]
        intro v H1 s1
        obtain ⟨a, vs, rfl, hl, h1, s2⟩ := (s1.freeze (Sh.sol_solid _ hs)).pinL
        exact ⟨a, rfl, ⟨vs, h1⟩, q _ _ _ (src_list hl) s2⟩
      | tup ds =>
        refine (pi_tup he.run).run pins s σ H R I ⟨c, T, ε, st, ?_⟩
        rw [hf]
        intro v H1 s1
        obtain ⟨a, vs, rfl, hl, h1, s2⟩ := (s1.freeze (Sh.sol_solid _ hs)).pinT
        exact ⟨a, rfl, ⟨vs, h1⟩, q _ _ _ (src_tup hl) s2⟩
      | str z =>
        refine (pi_str he.run).run pins s σ H R I ⟨c, T, ε, st, ?_⟩
        rw [hf]
        intro v H1 s1
        have e : v = .str z := s1.read
        exact ⟨z, e, q _ _ _ src_str s1.drop⟩
      | _ => exact q.elim
    · exact q.elim
/-- a range's bound that is covered -/
structure RngOk (n : Int) : Prop where
  lo : -(2 ^ 62) ≤ n
  hi : n < 2 ^ 62
noncomputable instance (n : Int) : Decidable (RngOk n) := Classical.propDecidable _
theorem rngOk_of {n : Int} (h0 : -1000000000 ≤ n) (h1 : n ≤ 1000000000) : RngOk n := ⟨by omega, by omega⟩
theorem rngOk_nat {n : Nat} (h1 : n ≤ 1000000000) : RngOk (n : Int) := rngOk_of (by omega) (by omega)
/-- range(n) -/
noncomputable def iRng (f : EvE) : EvI := fun ε => (f ε).bind fun r ε => match r.2 with
  | .int n => if RngOk n then .ok (rngD 0 n.toNat) ε else .bad
  | _ => .bad
theorem pa_one {e : Expr} {te : TE} (h : PE X e te) (hs : starEach [e] X.env = [(false, eval e X.env)] := by rfl) : PA X [e] (tCons te tNil) := pa_cons h pa_nil (by rw [hs]; rfl)
theorem ri_range (hg : Gl X "range") (hm : X.mg "range" = none) (he : RE X W e f) (hs : starEach [e] X.env = [(false, eval e X.env)] := by rfl) : RI X W tg (.Call (.Name "range" p) [e] [] pos) (iRng f) :=
  ⟨PI.imp (pi_range1 hg hm (pa_one he.run hs) hs) fun σ H R ⟨c, T, ε, s, q⟩ => ⟨c, T, ε, s, pst_mono (fun r ε q v H s => by
    obtain ⟨sh, d⟩ := r
    cases d with
    | int n =>
      simp only at q
      split at q
      · rename_i hb
        have e : v = .int n := s.read
        exact ⟨n, by rw [e], hb.lo, hb.hi, q _ _ _ src_range s.drop⟩
      · exact q.elim
    | _ => exact q.elim) (pst_bind q)⟩⟩
/-- range(a, b) -/
noncomputable def iRng2' (f g : EvE) : EvI := fun ε => (f ε).bind fun r ε => (g ε).bind fun r2 ε => match r.2, r2.2 with
  | .int i, .int n => if RngOk i ∧ RngOk n then .ok (rngD i (n - i).toNat) ε else .bad
  | _, _ => .bad
theorem ri_range2 {a b : Expr} {f1 f2 : EvE} (hg : Gl X "range") (hm : X.mg "range" = none) (ha : RE X W a f1) (hb : RE X W b f2) (hs : starEach [a, b] X.env = [(false, eval a X.env), (false, eval b X.env)] := by rfl) (hs2 : starEach [b] X.env = [(false, eval b X.env)] := by rfl) :
    RI X W tg (.Call (.Name "range" p) [a, b] [] pos) (iRng2' f1 f2) :=
  ⟨PI.imp (pi_range2 hg hm (pa_cons ha.run (pa_one hb.run hs2) (by rw [hs, hs2])) hs hs2) fun σ H R ⟨c, T, ε, s, q⟩ => ⟨c, T, ε, s, pst_mono (fun r ε q v H s => ⟨c, _, ε, s, pst_mono (fun r2 ε q w H s => by
    obtain ⟨sh, d⟩ := r
    obtain ⟨sh2, d2⟩ := r2
    cases d with
    | int i =>
      cases d2 with
      | int n =>
        simp only at q
        split at q
        · rename_i hb
          have e : w = .int n := s.read
          have e2 : v = .int i := s.drop.read
          exact ⟨i, n, by rw [e, e2], ⟨hb.1.lo, hb.1.hi, hb.2.lo, hb.2.hi⟩, q _ _ _ src_range s.drop.drop⟩
        · exact q.elim
      | _ => exact q.elim
    | _ => exact q.elim) (pst_push (pst_bind q))⟩) (pst_bind q)⟩⟩
end

/-! ### while -/
def whStep (k : EvS) (t : EvT) (b : EvS) : EvS := fun ε => (t ε).bind fun c ε => if c = true then (b ε).bind (flK k) else .ok .nx ε
def whileN : Nat → EvT → EvS → EvS
  | 0, _, _ => fun _ => .bad
  | n + 1, t, b => whStep (whileN n t b) t b
theorem whStep_congr {k k' : EvS} (hk : ∀ ε, k ε ≠ .bad → k' ε = k ε) {t : EvT} {b : EvS} {ε : En} (h : whStep k t b ε ≠ .bad) : whStep k' t b ε = whStep k t b ε := by
  unfold whStep at h ⊢
  cases e1 : t ε with
  | bad => rfl
  | exc x ε => rfl
  | ok c ε1 =>
    rw [e1] at h
    simp only [bind_ok] at h ⊢
    cases c with
    | false => rfl
    | true =>
      simp only [if_true] at h ⊢
      cases e2 : b ε1 with
      | bad => rfl
      | exc x ε => rfl
      | ok fl ε2 =>
        rw [e2] at h
        simp only [bind_ok] at h ⊢
        cases fl with
        | nx => exact hk _ h
        | ct => exact hk _ h
        | bk => rfl
        | rt r => rfl
theorem whileN_mono : ∀ {n : Nat} {t : EvT} {b : EvS} {ε : En}, whileN n t b ε ≠ .bad → whileN (n + 1) t b ε = whileN n t b ε
  | 0, _, _, _, h => absurd rfl h
  | _ + 1, _, _, _, h => whStep_congr (fun _ h => whileN_mono h) h
theorem whileN_le {n m : Nat} {t : EvT} {b : EvS} {ε : En} (h : whileN n t b ε ≠ .bad) (hm : n ≤ m) : whileN m t b ε = whileN n t b ε := by
  induction hm with
  | refl => rfl
  | step hm ih => rw [← ih]; exact whileN_mono (by rw [ih]; exact h)
open Classical in
noncomputable def sWhile (t : EvT) (b : EvS) : EvS := fun ε => if h : ∃ n, whileN n t b ε ≠ .bad then whileN (Classical.choose h) t b ε else .bad
theorem sWhile_eq {n : Nat} {t : EvT} {b : EvS} {ε : En} (h : whileN n t b ε ≠ .bad) : sWhile t b ε = whileN n t b ε := by
  unfold sWhile
  have hx : ∃ n, whileN n t b ε ≠ .bad := ⟨n, h⟩
  rw [dif_pos hx]
  have h2 := Classical.choose_spec hx
  by_cases q : n ≤ Classical.choose hx
  · exact whileN_le h q
  · exact (whileN_le h2 (Nat.le_of_lt (Nat.lt_of_not_le q))).symm
section
variable {X : Cx} {W : WX} {pos : Pos} {c' : Expr} {body : List Stmt} {t : EvT} {u : EvS}
theorem while_run {M : Wd} {c : Ctx} {T : List Ow} {σ : St} {H : Hp} {ε : En} {D' : Ends} {n : Nat} (s : Sta M c T σ H ε) (q : postS M W c T D' (whileN n t u ε)) : tWhile (tT M W t) (tS M W u) D' σ H := by
  refine ⟨fun m σ H => ∃ ε, Sta M c T σ H ε ∧ postS M W c T D' (whileN m t u ε), ⟨n, ε, s, q⟩, ?_⟩
  rintro m σ H ⟨ε, s, q⟩
  cases m with
  | zero => exact q.elim
  | succ m =>
    change postS M W c T D' (whStep (whileN m t u) t u ε) at q
    unfold whStep at q
    refine ⟨c, T, ε, s, pst_of_S (pstS_mono (fun k ε q H s => ?_) (pstS_bind q))⟩
    cases k with
    | false => exact q σ H s
    | true =>
      refine ⟨fun σ' H' => ∃ ε, Sta M c T σ' H' ε ∧ postS M W c T D' (whileN m t u ε), fun σ' H' q => ⟨m, Nat.lt_succ_self m, q⟩, c, T, ε, s, pstS_mono (fun fl ε q => ?_) (pstS_bind q)⟩
      cases fl with
      | nx => exact fun σ H s => ⟨ε, s, q⟩
      | ct => exact fun σ H s => ⟨ε, s, q⟩
      | bk => exact q
      | rt r => exact q
theorem rs_while (hp : PassesOwn (model X.prog X.w) X.A X.env X.xe) (hc : RT X W c' t) (hb : RSs X W body u) : RS X W (.While c' body [] pos) (sWhile t u) :=
  ⟨PS.imp (ps_while hp hc.run hb.run) fun D σ H ⟨c, T, ε, s, q⟩ => by
    unfold sWhile at q
    split at q
    · exact while_run s q
    · exact q.elim⟩
end

/-! ### comprehensions -/
def clr : List Nat → En → En
  | [], ε => ε
  | i :: own, ε => (clr own ε).set i none
def rst : List Nat → En → En → En
  | [], _, ε => ε
  | i :: own, ε0, ε => rst own ε0 (ε.set i ((clr own ε0)[i]?).join)
section
variable {M : Wd} {c : Ctx} {T : List Ow} {σ : St} {H : Hp} {ε : En}
theorem Sta.wipe1 {i : Nat} (s : Sta M c T σ H (ε.set i none)) : Sta M c T (σ.set i none) H (ε.set i none) := by
  refine ⟨by rw [slots_none]; exact s.ok, ⟨by rw [s.fit.len, List.length_set], fun j r e => ?_⟩⟩
  obtain ⟨v, hv⟩ := s.fit.has j r e
  by_cases hj : i = j
  · subst hj
    by_cases hi : i < ε.length
    · rw [List.getElem?_set_self hi] at e; cases e
    · rw [List.getElem?_eq_none (by rw [List.length_set]; omega)] at e; cases e
  · exact ⟨v, by rw [List.getElem?_set_ne hj]; exact hv⟩
theorem Sta.unwipe1 {i : Nat} (s : Sta M c T (σ.set i none) H (ε.set i none)) : Sta M c T σ H (ε.set i none) := by
  refine ⟨by have := s.ok; rw [slots_none] at this; exact this, ⟨by have := s.fit.len; rw [List.length_set (as := σ)] at this; exact this, fun j r e => ?_⟩⟩
  obtain ⟨v, hv⟩ := s.fit.has j r e
  by_cases hj : i = j
  · subst hj
    by_cases hi : i < ε.length
    · rw [List.getElem?_set_self hi] at e; cases e
    · rw [List.getElem?_eq_none (by rw [List.length_set]; omega)] at e; cases e
  · exact ⟨v, by rw [List.getElem?_set_ne hj] at hv; exact hv⟩
theorem set_none_of {i : Nat} (h : (ε[i]?).join = none) : ε.set i none = ε := by
  apply List.ext_getElem?
  intro j
  by_cases hj : i = j
  · subst hj
    by_cases hi : i < ε.length
    · rw [List.getElem?_set_self hi]
      rw [List.getElem?_eq_getElem hi] at h ⊢
      simp at h
      rw [h]
    · rw [List.getElem?_eq_none (by rw [List.length_set]; omega), List.getElem?_eq_none (by omega)]
  · rw [List.getElem?_set_ne hj]
theorem clr_none : ∀ {own : List Nat} {ε : En} {i : Nat}, i ∈ own → ((clr own ε)[i]?).join = none
  | j :: own, ε, i, h => by
    unfold clr
    by_cases hj : j = i
    · subst hj
      by_cases hi : j < (clr own ε).length
      · rw [List.getElem?_set_self hi]; rfl
      · rw [List.getElem?_eq_none (by rw [List.length_set]; omega)]; rfl
    · rw [List.getElem?_set_ne hj]
      exact clr_none ((List.mem_cons.mp h).resolve_left fun z => hj z.symm)
/-- a block's own names are put aside, and come back -/
theorem Sta.aside : ∀ {own : List Nat}, own.Nodup → Sta M c T σ H ε → ∃ S, Sta M c (S ++ T) (wipe σ own) H (clr own ε) ∧
    ∀ T' ε' H', (∀ i ∈ own, (ε'[i]?).join = none) → Sta M c (S ++ T') (wipe σ own) H' ε' → Sta M c T' σ H' (rst own ε ε')
  | [], _, s => ⟨[], s, fun T' ε' H' _ s' => s'⟩
  | i :: own, nd, s => by
    obtain ⟨n1, n2⟩ := List.nodup_cons.mp nd
    obtain ⟨S, s1, back⟩ := Sta.aside n2 s
    cases e : ((clr own ε)[i]?).join with
    | none =>
      have s2 : Sta M c (S ++ T) (wipe σ own) H ((clr own ε).set i none) := by rw [set_none_of e]; exact s1
      refine ⟨S, s2.wipe1, fun T' ε' H' hn s' => ?_⟩
      have z : ε'.set i none = ε' := set_none_of (hn i List.mem_cons_self)
      have s3 : Sta M c (S ++ T') (wipe σ own) H' (ε'.set i none) := Sta.unwipe1 (by rw [z]; exact s')
      unfold rst
      rw [e]
      exact back T' _ H' (fun j hj => by rw [z]; exact hn j (List.mem_cons_of_mem _ hj)) s3
    | some r =>
      have e := join_some e
      obtain ⟨v, hv⟩ := s1.fit.has _ _ e
      have s2 := Sta.take s1 e hv
      refine ⟨.val v r.1 r.2 :: S, s2.wipe1, fun T' ε' H' hn s' => ?_⟩
      have z : ε'.set i none = ε' := set_none_of (hn i List.mem_cons_self)
      have s3 : Sta M c (.val v r.1 r.2 :: (S ++ T')) (wipe σ own) H' (ε'.set i none) := Sta.unwipe1 (by rw [z]; exact s')
      have l : i < ε'.length := by
        have h1 := s'.fit.len
        have h2 := s1.fit.len
        have h3 := lt_of_slot e
        have h4 : (wipe σ (i :: own)).length = (wipe σ own).length := by rw [wipe_length, wipe_length]
        omega
      have s4 := Sta.put s3 l hv
      unfold rst
      rw [show ((clr own ε)[i]?).join = some r by rw [e]; rfl]
      refine back T' _ H' (fun j hj => ?_) s4
      have hij : i ≠ j := fun z => n1 (z ▸ hj)
      rw [List.getElem?_set_ne hij]
      exact hn j (List.mem_cons_of_mem _ hj)
theorem wipe_get : ∀ (own : List Nat) (σ : St) (i : Nat), (wipe σ own)[i]? = if i ∈ own ∧ i < σ.length then some none else σ[i]?
  | [], σ, i => by simp [wipe]
  | v :: vs, σ, i => by
    unfold wipe
    by_cases hv : v = i
    · subst hv
      by_cases hi : v < σ.length
      · rw [List.getElem?_set_self (by rw [wipe_length]; exact hi), if_pos ⟨List.mem_cons_self, hi⟩]
      · rw [List.getElem?_eq_none (by rw [List.length_set, wipe_length]; omega), if_neg (fun z => hi z.2), List.getElem?_eq_none (by omega)]
    · rw [List.getElem?_set_ne hv, wipe_get vs]
      by_cases hm : i ∈ vs ∧ i < σ.length
      · rw [if_pos hm, if_pos ⟨List.mem_cons_of_mem _ hm.1, hm.2⟩]
      · rw [if_neg hm, if_neg (fun z => hm ⟨(List.mem_cons.mp z.1).resolve_left (fun q => hv q.symm), z.2⟩)]
theorem wipe_of_out {σ2 σ1 : St} {ix own : List Nat} (hs : ∀ i ∈ ix, i ∈ own) (a : Agr ix (wipe σ1 own) σ2) : wipe σ2 own = wipe σ1 own := by
  have a1 := a.1
  rw [wipe_length] at a1
  apply List.ext_getElem?
  intro i
  rw [wipe_get, a1]
  by_cases hm : i ∈ own ∧ i < σ1.length
  · rw [if_pos hm, wipe_get, if_pos hm]
  · rw [if_neg hm]
    by_cases hi : i < σ1.length
    · exact a.2 i fun z => hm ⟨hs i z, hi⟩
    · rw [List.getElem?_eq_none (by omega), List.getElem?_eq_none (by rw [wipe_length]; omega)]
end
/-- nothing is raised within -/
def nox {α : Type} : Out α → Out α
  | .exc _ _ => .bad
  | o => o
@[simp] theorem nox_ok {α : Type} (a : α) (ε : En) : nox (.ok a ε) = .ok a ε := rfl
@[simp] theorem nox_exc {α : Type} (x : Exn) (ε : En) : nox (.exc x ε : Out α) = .bad := rfl
@[simp] theorem nox_bad {α : Type} : nox (.bad : Out α) = .bad := rfl
/-- no wish for exceptions -/
abbrev w0 : WX := fun _ _ _ _ => False
theorem pst_nox {M : Wd} {W W' : WX} {c : Ctx} {T T' : List Ow} {σ σ' : St} {α : Type} {P : α → En → Prop} {o : Out α} (h : pst M W c T σ P (nox o)) : pst M W' c T' σ' P o := by
  cases o with
  | ok a ε => exact h
  | exc x ε => exact h.elim
  | bad => exact h
/-- [elt for target in .. if test] -/
def lcLoop (tg : EvTg) (test : EvT) (elt : EvE) (own : List Nat) : List D → List D → En → Out (List D)
  | [], acc, ε => .ok acc ε
  | d :: ds, acc, ε => opt (tg (.fro, d) ε) fun ε => (nox (test ε)).bind fun b ε => if b = true then (nox (elt ε)).bind fun r ε =>
      if r.1.sol = true ∧ acc.length < sizeLine then lcLoop tg test elt own ds (acc ++ [r.2]) (clr own ε) else .bad
    else lcLoop tg test elt own ds acc (clr own ε)
def sLc (f : EvI) (tg : EvTg) (test : EvT) (elt : EvE) (own : List Nat) : EvE := fun ε => (f ε).bind fun ds ε => (lcLoop tg test elt own ds [] (clr own ε)).bind fun acc ε' => .ok (.con .fro, .lst acc) (rst own ε ε')
def tYes' : EvT := fun ε => .ok true ε
section
variable {M : Wd} {W : WX} {c : Ctx} {T S Sa : List Ow} {σ : St} {H1 : Hp} {ε0 : En}
theorem itc_snoc (s : Sh) : ∀ {ds : List D} {vs : List V} (d : D) (v : V), ds.length = vs.length → itc s (ds ++ [d]) (vs ++ [v]) = itc s ds vs ++ [.val v s d]
  | [], [], d, v, _ => rfl
  | x :: ds, y :: vs, d, v, h => by
    show Ow.val y s x :: itc s (ds ++ [d]) (vs ++ [v]) = _
    rw [itc_snoc s d v (Nat.succ.inj h)]
    rfl
theorem lc_run {D0 : Addr} {J : It} {ds : List D} {tg : EvTg} {ix own : List Nat} {test : EvT} {elt : EvE} {Q : VK} (hD : H1 D0 = none) (nd : own.Nodup) (hix : ∀ i ∈ ix, i ∈ own) (hsrc : Src M J ds S) (s0 : Sta M c (S ++ T) σ H1 ε0)
    (q : pst M W c T σ (fun acc ε' => ∀ v H, Sta M c (.val v (.con .fro) (.lst acc) :: T) σ H (rst own ε0 ε') → Q v H) (lcLoop tg test elt own ds [] (clr own ε0))) :
    ∃ Wd : Nat → Nat → Hp → Prop, (∃ m, Wd 0 m (upd H1 D0 (.lst []))) ∧ ∀ i m H, Wd i m H →
      (J.stop i H ∧ Q (.ref D0) H) ∨ (J.go i H ∧ ∃ Nx : Hp → Prop, (∀ H', Nx H' → ∃ m', m' < m ∧ Wd (i + 1) m' H') ∧ ∀ x H', J.yld i H x H' → tTg M tg ix x (wipe σ own) H' fun σ2 H2 => wipe σ2 own = wipe σ own ∧ tT M w0 test σ2 H2 fun b H3 =>
        if b = true then tE M w0 elt σ2 H3 fun y H4 => ∃ acc, H4 D0 = some (.lst acc) ∧ acc.length < sizeLine ∧ Nx (upd H4 D0 (.lst (acc ++ [y]))) else Nx H3) := by
  obtain ⟨G, Y, w, hG, hY⟩ := hsrc
  obtain ⟨Sa, s1, back⟩ := Sta.aside nd s0
  let P : List D → En → Prop := fun acc ε' => ∀ v H, Sta M c (.val v (.con .fro) (.lst acc) :: T) σ H (rst own ε0 ε') → Q v H
  let Pv : Nat → Hp → Prop := fun i H => ∃ ε aD aV, aD.length = aV.length ∧ Sta M c (S ++ (.cel D0 (.lst aV) :: (itc .fro aD aV ++ (Sa ++ T)))) (wipe σ own) H ε ∧ (∀ i ∈ own, (ε[i]?).join = none) ∧
    pst M W c T σ P (lcLoop tg test elt own (ds.drop i) aD ε)
  have next : ∀ (i : Nat) (σ2 : St) (H : Hp) (ε : En) (aD : List D) (aV : List V), aD.length = aV.length → wipe σ2 own = wipe σ own → Sta M c (S ++ (.cel D0 (.lst aV) :: (itc .fro aD aV ++ (Sa ++ T)))) σ2 H ε →
      pst M W c T σ P (lcLoop tg test elt own (ds.drop (i + 1)) aD (clr own ε)) → Pv (i + 1) H := fun i σ2 H ε aD aV hl ew s q => by
    obtain ⟨Sb, s2, _⟩ := Sta.aside nd s
    rw [ew] at s2
    exact ⟨_, aD, aV, hl, s2.drops, fun i hi => clr_none hi, q⟩
  refine lc_it w Pv ⟨clr own ε0, [], [], rfl, ?_, fun i hi => clr_none hi, by rw [List.drop_zero]; exact q⟩ (fun i H _ ⟨ε, aD, aV, _, s, _⟩ => hG c _ _ H ε s) (fun i x H H' hi ⟨ε, aD, aV, hl, s, hn, q⟩ y => ?_) (fun H ⟨ε, aD, aV, hl, s, hn, q⟩ => ?_)
  · have s2 : Sta M c (.cel D0 (.lst []) :: (Sa ++ (S ++ T))) (wipe σ own) (upd H1 D0 (.lst [])) (clr own ε0) := ⟨s1.ok.new hD, s1.fit⟩
    refine s2.perm ?_
    show (Ow.cel D0 (.lst []) :: (Sa ++ (S ++ T))).Perm (S ++ (Ow.cel D0 (.lst []) :: ([] ++ (Sa ++ T))))
    rw [List.nil_append]
    refine List.Perm.trans ?_ List.perm_middle.symm
    refine List.Perm.cons _ ?_
    rw [← List.append_assoc, ← List.append_assoc]
    exact List.Perm.append_right _ List.perm_append_comm
  · rw [List.drop_eq_getElem_cons hi] at q
    have s2 := hY c _ _ H ε i x H' _ s y (List.getElem?_eq_getElem hi)
    change pst _ _ _ _ _ _ (opt (tg (.fro, ds[i]) ε) fun ε => (nox (test ε)).bind fun b ε => if b = true then (nox (elt ε)).bind fun r ε =>
      if r.1.sol = true ∧ aD.length < sizeLine then lcLoop tg test elt own (ds.drop (i + 1)) (aD ++ [r.2]) (clr own ε) else .bad
      else lcLoop tg test elt own (ds.drop (i + 1)) aD (clr own ε)) at q
    obtain ⟨ε1, e1, q⟩ := pst_opt q
    refine ⟨c, _, ε, (.fro, ds[i]), s2, ε1, e1, fun σ2 ag s3 => ?_⟩
    have ew : wipe σ2 own = wipe σ own := wipe_of_out hix ag
    refine ⟨ew, c, _, ε1, s3, pst_nox (W := W) (T := T) (σ := σ) (pst_mono (fun b ε2 q H3 s4 => ?_) (pst_bind q))⟩
    cases b with
    | false => exact next i σ2 H3 ε2 aD aV hl ew s4 q
    | true =>
      refine ⟨c, _, ε2, s4, pst_nox (W := W) (T := T) (σ := σ) (pst_mono (fun r ε3 q yv H4 s5 => ?_) (pst_bind q))⟩
      split at q
      · rename_i hb
        have s6 := s5.freeze (Sh.sol_solid _ hb.1)
        have s7 : Sta M c (.cel D0 (.lst aV) :: (.val yv .fro r.2 :: (S ++ (itc .fro aD aV ++ (Sa ++ T))))) σ2 H4 ε3 := s6.perm ((List.Perm.cons _ List.perm_middle).trans (List.Perm.swap _ _ _))
        refine ⟨aV, s7.ok.cell, hl ▸ hb.2, ?_⟩
        have s8 : Sta M c (.cel D0 (.lst (aV ++ [yv])) :: (.val yv .fro r.2 :: (S ++ (itc .fro aD aV ++ (Sa ++ T))))) σ2 (upd H4 D0 (.lst (aV ++ [yv]))) ε3 := ⟨s7.ok.upd, s7.fit⟩
        refine next i σ2 _ ε3 (aD ++ [r.2]) (aV ++ [yv]) (by rw [List.length_append, List.length_append, hl]; rfl) ew (s8.perm ?_) q
        rw [itc_snoc _ _ _ hl]
        refine List.Perm.trans ?_ List.perm_middle.symm
        refine List.Perm.cons _ ?_
        refine (List.perm_middle (l₁ := S)).symm.trans (List.Perm.append_left S ?_)
        rw [List.append_assoc]
        exact List.perm_middle.symm
      · exact q.elim
  · rw [List.drop_length] at q
    have s2 : Sta M c (.cel D0 (.lst aV) :: (itc .fro aD aV ++ (Sa ++ T))) (wipe σ own) H ε := s.drops
    have s3 : Sta M c (.val (.ref D0) (.con .fro) (.lst aD) :: (Sa ++ T)) (wipe σ own) H ε := ⟨OK.closeL (L := (Sa ++ T) ++ slots (wipe σ own) ε) hl (by have := s2.ok; rw [List.cons_append, List.append_assoc] at this; exact this), s2.fit⟩
    exact q _ H (back (.val (.ref D0) (.con .fro) (.lst aD) :: T) ε H hn (s3.perm List.perm_middle.symm))
end
structure RTs (X : Cx) (W : WX) (ifs : List Expr) (f : EvT) : Prop where
  run : PTs X ifs (tT (wd X) W f)
theorem rts_nil {X : Cx} {W : WX} : RTs X W [] tYes' := ⟨⟨fun pins s σ H Q I q => pts_nil.run pins s σ H Q I (by
  obtain ⟨c, T, ε, st, q⟩ := q
  exact q H st)⟩⟩
theorem rts_one {X : Cx} {W : WX} {e : Expr} {f : EvT} (h : RT X W e f) : RTs X W [e] f := ⟨pts_one h.run⟩
section
variable {X : Cx} {W : WX} {elt tg iter : Expr} {ifs : List Expr} {scope : Scope} {own : List (Str × Nat)} {ix : List Nat} {pos : Pos} {f : EvI} {g : EvTg} {t : EvT} {x : EvE}
theorem re_lc (hc : X.calm = true) (hN : X.N.Nodup) (hi : RI X W tg iter f) (ok : BlkOk X.N X.env.scope scope own)
    (hg : ∀ (s : Shared) (H : Hp) (C : Addr) (cl : List (Str × Addr)) (fp : List Addr), RTg (X.blk s H scope (compEnvC scope cl C X.env) fp) tg g ix)
    (ht : ∀ (s : Shared) (H : Hp) (C : Addr) (cl : List (Str × Addr)) (fp : List Addr), RTs (X.blk s H scope (compEnvC scope cl C X.env) fp) w0 ifs t)
    (he : ∀ (s : Shared) (H : Hp) (C : Addr) (cl : List (Str × Addr)) (fp : List Addr), RE (X.blk s H scope (compEnvC scope cl C X.env) fp) w0 elt x)
    (hix : ∀ i ∈ ix, i ∈ own.map (·.2) := by decide) (hnd : (own.map (·.2)).Nodup := by decide) (hs : ∀ x, foldedSetIterable iter X.env x = pure x := by intro _; rfl) :
    RE X W (.ListComp elt [⟨tg, iter, ifs, 0⟩] scope pos) (sLc f g t x (own.map (·.2))) :=
  ⟨PE.imp (pe_lc hc hN hi.run ok (fun s H C cl fp => (hg s H C cl fp).run) (fun s H C cl fp => (ht s H C cl fp).run) (fun s H C cl fp => (he s H C cl fp).run) hs) fun σ H Q ⟨c, T, ε, s, q⟩ => ⟨c, T, ε, s, pst_mono (fun ds ε q J S H1 hsrc s D0 hD => by
    exact lc_run hD hnd hix hsrc s (pst_bind q)) (pst_bind q)⟩⟩
theorem rs_setLc {i : Nat} {y : Str} {py spos : Pos} (hc : X.calm = true) (hN : X.N.Nodup) (hy : X.N[i]? = some y) (hyl : X.env.scope.names.lookup y = some .local)
    (hsw : swapsWith (.ListComp elt [⟨tg, iter, ifs, 0⟩] scope pos) (some (.Name y py)) spos.line X.env = pure true) (hi : RI X W tg iter f) (ok : BlkOk X.N X.env.scope scope own)
    (hg : ∀ (s : Shared) (H : Hp) (C : Addr) (cl : List (Str × Addr)) (fp : List Addr), RTg (X.blk s H scope (compEnvC scope cl C X.env) fp) tg g ix)
    (ht : ∀ (s : Shared) (H : Hp) (C : Addr) (cl : List (Str × Addr)) (fp : List Addr), RTs (X.blk s H scope (compEnvC scope cl C X.env) fp) w0 ifs t)
    (he : ∀ (s : Shared) (H : Hp) (C : Addr) (cl : List (Str × Addr)) (fp : List Addr), RE (X.blk s H scope (compEnvC scope cl C X.env) fp) w0 elt x)
    (hlen : i < X.N.length := by exact Nat.le_of_ble_eq_true rfl) (hix : ∀ i ∈ ix, i ∈ own.map (·.2) := by decide) (hnd : (own.map (·.2)).Nodup := by decide) (hs : ∀ x, foldedSetIterable iter X.env x = pure x := by intro _; rfl) :
    RS X W (.Assign [.Name y py] (.ListComp elt [⟨tg, iter, ifs, 0⟩] scope pos) spos) (sSet i (sLc f g t x (own.map (·.2)))) := by
  refine ⟨⟨fun pins s σ H D I h => (ps_setLc (wi := tI (wd X) W f) (g := tTg (wd X) g ix) (tt := tT (wd X) w0 t) (te := tE (wd X) w0 x) hc hN hy hyl hsw hi.run ok (fun s H C cl fp => (hg s H C cl fp).run) (fun s H C cl fp => (ht s H C cl fp).run) (fun s H C cl fp => (he s H C cl fp).run) hs).run pins s σ H D I ?_⟩⟩
  obtain ⟨c, T, ε, st, q⟩ := h
  have q := pst_of_S (σ := σ) (pstS_mono (fun r ε q v H (st : Sta (wd X) c (.val v r.1 r.2 :: T) σ H ε) => q _ H (st.store (by rw [I.len]; exact hlen))) (pstS_bind q))
  refine ⟨c, T, ε, st, pst_mono (fun ds ε q J S H1 hsrc s D0 hD => lc_run hD hnd hix hsrc s (Q := fun v H => gName i v σ H D.nx) (pst_bind q)) (pst_bind q)⟩
end
end R
set_option Elab.async false
set_option linter.all false
set_option autoImplicit false
/-! R8: == of data. -/
namespace R
open PySem PySem.Spec PyProof.Rows L2
/-- plain data of a depth below n: no dict -/
def okP : Nat → PyData → Bool
  | 0, .list _ => false
  | 0, .tuple _ => false
  | _, .dict _ => false
  | n + 1, .list xs => xs.all (okP n)
  | n + 1, .tuple xs => xs.all (okP n)
  | _, _ => true
theorem eqv_self : ∀ (n : Nat) (d : PyData), okP n d = true → PyData.eqv d d = true := by
  intro n
  induction n with
  | zero =>
    intro d h
    cases d with
    | list _ => exact Bool.noConfusion h
    | tuple _ => exact Bool.noConfusion h
    | dict _ => exact Bool.noConfusion h
    | _ => simp [PyData.eqv]
  | succ n ih =>
    have all : ∀ xs : List PyData, xs.all (okP n) = true → PyData.eqvAll xs xs = true := by
      intro xs
      induction xs with
      | nil => intro _; simp [PyData.eqvAll]
      | cons x xs ihx =>
        intro h
        rw [List.all_cons, Bool.and_eq_true] at h
        simp [PyData.eqvAll, ih x h.1, ihx h.2]
    intro d h
    cases d with
    | list xs => simp only [PyData.eqv]; exact all xs h
    | tuple xs => simp only [PyData.eqv]; exact all xs h
    | dict _ => simp [okP] at h
    | _ => simp [PyData.eqv]
theorem readsAll_at {h : Heap} : ∀ {vs : List Value} {ds : List PyData} {as : List Addr}, ReadsAll h vs ds as → ∀ (j : Nat) (h1 : j < vs.length) (h2 : j < ds.length), ∃ bs, Reads h vs[j] ds[j] bs
  | _, _, _, .nil, j, h1, _ => absurd h1 (Nat.not_lt_zero _)
  | _, _, _, .cons r t, 0, _, _ => ⟨_, r⟩
  | _, _, _, .cons r t, j + 1, h1, h2 => readsAll_at t j (Nat.lt_of_succ_lt_succ h1) (Nat.lt_of_succ_lt_succ h2)
theorem readsAll_len {h : Heap} : ∀ {vs : List Value} {ds : List PyData} {as : List Addr}, ReadsAll h vs ds as → vs.length = ds.length
  | _, _, _, .nil => rfl
  | _, _, _, .cons _ t => by rw [List.length_cons, List.length_cons, readsAll_len t]
/-- two things of which not both are lists or tuples -/
def crossP : PyData → PyData → Bool
  | .list _, .list _ => false
  | .tuple _, .tuple _ => false
  | .dict _, _ => false
  | _, .dict _ => false
  | _, _ => true
theorem eqAtX {da db : PyData} {A : Around} {s : Shared} {a b : Value} {as bs : List Addr} (x : crossP da db = true) (ra : Reads s.heap a da as) (rb : Reads s.heap b db bs) (hu : A.units < cLine) : SeqAt.EqAt A s a b (PyData.eqv da db) := by
  cases ra with
  | none =>
    cases rb with
    | none => exact SeqAt.EqAt.same _
    | bool q1 => exact SeqAt.EqAt.none_bool q1
    | int q1 q2 => exact SeqAt.EqAt.none_int q1 q2
    | str q1 q2 => exact SeqAt.EqAt.none_str q1 q2
    | list q1 q2 q3 q4 => exact SeqAt.EqAt.none_list ⟨_, q1, q2, _, q3⟩ hu
    | tuple q1 q2 q3 q4 => exact SeqAt.EqAt.none_tuple ⟨_, q1, q2, _, q3⟩ hu
    | dict => exact Bool.noConfusion x
  | bool p1 =>
    cases rb with
    | none => exact SeqAt.EqAt.bool_none p1
    | bool q1 => exact SeqAt.EqAt.bool_bool p1 q1
    | int q1 q2 => exact SeqAt.EqAt.bool_int p1 q1 q2
    | str q1 q2 => exact SeqAt.EqAt.bool_str p1 q1 q2
    | list q1 q2 q3 q4 => exact SeqAt.EqAt.bool_list p1 ⟨_, q1, q2, _, q3⟩ hu
    | tuple q1 q2 q3 q4 => exact SeqAt.EqAt.bool_tuple p1 ⟨_, q1, q2, _, q3⟩ hu
    | dict => exact Bool.noConfusion x
  | int p1 p2 =>
    cases rb with
    | none => exact SeqAt.EqAt.int_none p1 p2
    | bool q1 => exact SeqAt.EqAt.int_bool p1 p2 q1
    | int q1 q2 => exact SeqAt.EqAt.int_int p1 p2 q1 q2
    | str q1 q2 => exact SeqAt.EqAt.int_str p1 p2 q1 q2
    | list q1 q2 q3 q4 => exact SeqAt.EqAt.int_list p1 p2 ⟨_, q1, q2, _, q3⟩ hu
    | tuple q1 q2 q3 q4 => exact SeqAt.EqAt.int_tuple p1 p2 ⟨_, q1, q2, _, q3⟩ hu
    | dict => exact Bool.noConfusion x
  | str p1 p2 =>
    cases rb with
    | none => exact SeqAt.EqAt.str_none p1 p2
    | bool q1 => exact SeqAt.EqAt.str_bool p1 p2 q1
    | int q1 q2 => exact SeqAt.EqAt.str_int p1 p2 q1 q2
    | str q1 q2 => exact SeqAt.EqAt.str_str p1 p2 q1 q2
    | list q1 q2 q3 q4 => exact SeqAt.EqAt.str_list p1 p2 ⟨_, q1, q2, _, q3⟩ hu
    | tuple q1 q2 q3 q4 => exact SeqAt.EqAt.str_tuple p1 p2 ⟨_, q1, q2, _, q3⟩ hu
    | dict => exact Bool.noConfusion x
  | list p1 p2 p3 p4 =>
    cases rb with
    | none => exact SeqAt.EqAt.list_none ⟨_, p1, p2, _, p3⟩ hu
    | bool q1 => exact SeqAt.EqAt.list_bool q1 ⟨_, p1, p2, _, p3⟩ hu
    | int q1 q2 => exact SeqAt.EqAt.list_int q1 q2 ⟨_, p1, p2, _, p3⟩ hu
    | str q1 q2 => exact SeqAt.EqAt.list_str q1 q2 ⟨_, p1, p2, _, p3⟩ hu
    | list q1 q2 q3 q4 => exact Bool.noConfusion x
    | tuple q1 q2 q3 q4 => exact SeqAt.EqAt.list_tuple ⟨_, p1, p2, _, p3⟩ ⟨_, q1, q2, _, q3⟩ hu
    | dict => exact Bool.noConfusion x
  | tuple p1 p2 p3 p4 =>
    cases rb with
    | none => exact SeqAt.EqAt.tuple_none ⟨_, p1, p2, _, p3⟩ hu
    | bool q1 => exact SeqAt.EqAt.tuple_bool q1 ⟨_, p1, p2, _, p3⟩ hu
    | int q1 q2 => exact SeqAt.EqAt.tuple_int q1 q2 ⟨_, p1, p2, _, p3⟩ hu
    | str q1 q2 => exact SeqAt.EqAt.tuple_str q1 q2 ⟨_, p1, p2, _, p3⟩ hu
    | list q1 q2 q3 q4 => exact SeqAt.EqAt.tuple_list ⟨_, p1, p2, _, p3⟩ ⟨_, q1, q2, _, q3⟩ hu
    | tuple q1 q2 q3 q4 => exact Bool.noConfusion x
    | dict => exact Bool.noConfusion x
  | dict => cases db <;> exact Bool.noConfusion x
theorem eqAtN : ∀ (n : Nat) (da db : PyData) (A : Around) (s : Shared) (a b : Value) (as bs : List Addr), okP n da = true → okP n db = true → Reads s.heap a da as → Reads s.heap b db bs → A.units + n < cLine →
    SeqAt.EqAt A s a b (PyData.eqv da db) := by
  intro n
  induction n with
  | zero =>
    intro da db A s a b as bs oa ob ra rb hu
    refine eqAtX ?_ ra rb hu
    cases da <;> cases db <;> first | rfl | exact oa | exact ob
  | succ n ih =>
    intro da db A s a b as bs oa ob ra rb hu
    have hu0 : A.units < cLine := by omega
    by_cases hx : crossP da db = true
    · exact eqAtX hx ra rb hu0
    have each : ∀ (xs ys : List PyData) (vs ws : Array Value) (as bs : List Addr), xs.all (okP n) = true → ys.all (okP n) = true → ReadsAll s.heap vs.toList xs as → ReadsAll s.heap ws.toList ys bs →
        ∀ j (h1 : j < vs.size) (h2 : j < ws.size), SeqAt.EqAt A.in1 s vs[j] ws[j] (SeqAt.pairEq xs ys j) := by
      intro xs ys vs ws as bs ox oy rx ry j h1 h2
      have l1 := readsAll_len rx
      have l2 := readsAll_len ry
      have j1 : j < xs.length := by rw [← l1]; simpa using h1
      have j2 : j < ys.length := by rw [← l2]; simpa using h2
      obtain ⟨_, r1⟩ := readsAll_at rx j (by simpa using h1) j1
      obtain ⟨_, r2⟩ := readsAll_at ry j (by simpa using h2) j2
      have e : SeqAt.pairEq xs ys j = PyData.eqv xs[j] ys[j] := by
        simp [SeqAt.pairEq, List.getElem?_eq_getElem j1, List.getElem?_eq_getElem j2]
      rw [e]
      have q := ih xs[j] ys[j] A.in1 s _ _ _ _ (List.all_eq_true.mp ox _ (List.getElem_mem j1)) (List.all_eq_true.mp oy _ (List.getElem_mem j2)) r1 r2 (by show A.units + 1 + n < cLine; omega)
      simpa using q
    cases da with
    | none => exact absurd (by cases db <;> first | rfl | exact ob) hx
    | bool _ => exact absurd (by cases db <;> first | rfl | exact ob) hx
    | int _ => exact absurd (by cases db <;> first | rfl | exact ob) hx
    | str _ => exact absurd (by cases db <;> first | rfl | exact ob) hx
    | dict _ => exact Bool.noConfusion oa
    | list xs =>
      cases db with
      | list ys =>
        cases ra with
        | @list l o vs m _ as₁ h1 h2 h3 h4 =>
          cases rb with
          | @list l' o' ws m' _ bs₁ k1 k2 k3 k4 =>
            have hl : s.heap.IsList l vs := ⟨_, h1, h2, _, h3⟩
            have hl' : s.heap.IsList l' ws := ⟨_, k1, k2, _, k3⟩
            have n1 : vs.size = xs.length := by simpa using readsAll_len h4
            have n2 : ws.size = ys.length := by simpa using readsAll_len k4
            by_cases e : l = l'
            · subst e
              have u := ((Reads.list h1 h2 h3 h4).unique _ _ (Reads.list k1 k2 k3 k4)).1
              rw [← u, eqv_self (n + 1) (.list xs) oa]
              exact SeqAt.EqAt.same _
            · show SeqAt.EqAt A s (.ref l) (.ref l') (PyData.eqvAll xs ys)
              by_cases hs : vs.size = ws.size
              · have z := SeqAt.eqvAll_same_length (show xs.length = ys.length by omega)
                rw [← z, ← n1]
                exact SeqAt.EqAt.of_refs e (SeqAt.RcAt.lists hl hl' hs hu0 (each xs ys vs ws _ _ oa ob h4 k4))
              · have z := SeqAt.eqvAll_other_length (show xs.length ≠ ys.length by omega)
                rw [z]
                exact SeqAt.EqAt.of_refs e (SeqAt.RcAt.lists_lengths hl hl' (by simpa using hs) hu0)
      | dict _ => exact Bool.noConfusion ob
      | _ => exact absurd rfl hx
    | tuple xs =>
      cases db with
      | tuple ys =>
        cases ra with
        | @tuple l o vs m _ as₁ h1 h2 h3 h4 =>
          cases rb with
          | @tuple l' o' ws m' _ bs₁ k1 k2 k3 k4 =>
            have hl : s.heap.IsTuple l vs := ⟨_, h1, h2, _, h3⟩
            have hl' : s.heap.IsTuple l' ws := ⟨_, k1, k2, _, k3⟩
            have n1 : vs.size = xs.length := by simpa using readsAll_len h4
            have n2 : ws.size = ys.length := by simpa using readsAll_len k4
            by_cases e : l = l'
            · subst e
              have u := ((Reads.tuple h1 h2 h3 h4).unique _ _ (Reads.tuple k1 k2 k3 k4)).1
              rw [← u, eqv_self (n + 1) (.tuple xs) oa]
              exact SeqAt.EqAt.same _
            · show SeqAt.EqAt A s (.ref l) (.ref l') (PyData.eqvAll xs ys)
              rw [← SeqAt.eqvAll_eq xs ys, ← n1, ← n2]
              exact SeqAt.EqAt.of_refs e (SeqAt.RcAt.tuples hl hl' hu0 (each xs ys vs ws _ _ oa ob h4 k4))
      | dict _ => exact Bool.noConfusion ob
      | _ => exact absurd rfl hx
theorem eachAt {n : Nat} {A : Around} {s : Shared} (hu : A.units + (n + 1) < cLine) : ∀ (xs ys : List PyData) (vs ws : Array Value) (as bs : List Addr), xs.all (okP n) = true → ys.all (okP n) = true → ReadsAll s.heap vs.toList xs as → ReadsAll s.heap ws.toList ys bs →
    ∀ j (h1 : j < vs.size) (h2 : j < ws.size), SeqAt.EqAt A.in1 s vs[j] ws[j] (SeqAt.pairEq xs ys j) := by
  intro xs ys vs ws as bs ox oy rx ry j h1 h2
  have l1 := readsAll_len rx
  have l2 := readsAll_len ry
  have j1 : j < xs.length := by rw [← l1]; simpa using h1
  have j2 : j < ys.length := by rw [← l2]; simpa using h2
  obtain ⟨_, r1⟩ := readsAll_at rx j (by simpa using h1) j1
  obtain ⟨_, r2⟩ := readsAll_at ry j (by simpa using h2) j2
  have e : SeqAt.pairEq xs ys j = PyData.eqv xs[j] ys[j] := by
    simp [SeqAt.pairEq, List.getElem?_eq_getElem j1, List.getElem?_eq_getElem j2]
  rw [e]
  have q := eqAtN n xs[j] ys[j] A.in1 s _ _ _ _ (List.all_eq_true.mp ox _ (List.getElem_mem j1)) (List.all_eq_true.mp oy _ (List.getElem_mem j2)) r1 r2 (by show A.units + 1 + n < cLine; omega)
  simpa using q
theorem rcAtN {n : Nat} {da db : PyData} {A : Around} {s : Shared} {a b : Value} {as bs : List Addr} (oa : okP (n + 1) da = true) (ob : okP (n + 1) db = true) (ra : Reads s.heap a da as) (rb : Reads s.heap b db bs) (hn : A.units + (n + 1) < cLine) :
    SeqAt.RcAt A s a b (PyData.eqv da db) := by
  have hu : A.units < cLine := by omega
  cases ra with
  | none =>
    cases rb with
    | none => exact SeqAt.RcAt.none_none
    | bool q1 => exact SeqAt.RcAt.none_bool q1
    | int q1 q2 => exact SeqAt.RcAt.none_int q1 q2
    | str q1 q2 => exact SeqAt.RcAt.none_str q1 q2
    | list q1 q2 q3 q4 => exact SeqAt.RcAt.none_list ⟨_, q1, q2, _, q3⟩ hu
    | tuple q1 q2 q3 q4 => exact SeqAt.RcAt.none_tuple ⟨_, q1, q2, _, q3⟩ hu
    | dict => exact Bool.noConfusion ob
  | bool p1 =>
    cases rb with
    | none => exact SeqAt.RcAt.bool_none p1
    | bool q1 => exact SeqAt.RcAt.bool_bool p1 q1
    | int q1 q2 => exact SeqAt.RcAt.bool_int p1 q1 q2
    | str q1 q2 => exact SeqAt.RcAt.bool_str p1 q1 q2
    | list q1 q2 q3 q4 => exact SeqAt.RcAt.bool_list p1 ⟨_, q1, q2, _, q3⟩ hu
    | tuple q1 q2 q3 q4 => exact SeqAt.RcAt.bool_tuple p1 ⟨_, q1, q2, _, q3⟩ hu
    | dict => exact Bool.noConfusion ob
  | int p1 p2 =>
    cases rb with
    | none => exact SeqAt.RcAt.int_none p1 p2
    | bool q1 => exact SeqAt.RcAt.int_bool p1 p2 q1
    | int q1 q2 => exact SeqAt.RcAt.int_int p1 p2 q1 q2
    | str q1 q2 => exact SeqAt.RcAt.int_str p1 p2 q1 q2
    | list q1 q2 q3 q4 => exact SeqAt.RcAt.int_list p1 p2 ⟨_, q1, q2, _, q3⟩ hu
    | tuple q1 q2 q3 q4 => exact SeqAt.RcAt.int_tuple p1 p2 ⟨_, q1, q2, _, q3⟩ hu
    | dict => exact Bool.noConfusion ob
  | str p1 p2 =>
    cases rb with
    | none => exact SeqAt.RcAt.str_none p1 p2
    | bool q1 => exact SeqAt.RcAt.str_bool p1 p2 q1
    | int q1 q2 => exact SeqAt.RcAt.str_int p1 p2 q1 q2
    | str q1 q2 => exact SeqAt.RcAt.str_str p1 p2 q1 q2
    | list q1 q2 q3 q4 => exact SeqAt.RcAt.str_list p1 p2 ⟨_, q1, q2, _, q3⟩ hu
    | tuple q1 q2 q3 q4 => exact SeqAt.RcAt.str_tuple p1 p2 ⟨_, q1, q2, _, q3⟩ hu
    | dict => exact Bool.noConfusion ob
  | list p1 p2 p3 p4 =>
    cases rb with
    | none => exact SeqAt.RcAt.list_none ⟨_, p1, p2, _, p3⟩ hu
    | bool q1 => exact SeqAt.RcAt.list_bool q1 ⟨_, p1, p2, _, p3⟩ hu
    | int q1 q2 => exact SeqAt.RcAt.list_int q1 q2 ⟨_, p1, p2, _, p3⟩ hu
    | str q1 q2 => exact SeqAt.RcAt.list_str q1 q2 ⟨_, p1, p2, _, p3⟩ hu
    | list q1 q2 q3 q4 =>
      rename_i l1 o1 v1 m1 xs as1 l2 o2 v2 m2 ys bs2
      have n1 : v1.size = xs.length := by simpa using readsAll_len p4
      have n2 : v2.size = ys.length := by simpa using readsAll_len q4
      show SeqAt.RcAt A s (.ref _) (.ref _) (PyData.eqvAll xs ys)
      by_cases hs : v1.size = v2.size
      · have z := SeqAt.eqvAll_same_length (show xs.length = ys.length by omega)
        rw [← z, ← n1]
        exact SeqAt.RcAt.lists ⟨_, p1, p2, _, p3⟩ ⟨_, q1, q2, _, q3⟩ hs hu (eachAt hn xs ys v1 v2 _ _ oa ob p4 q4)
      · have z := SeqAt.eqvAll_other_length (show xs.length ≠ ys.length by omega)
        rw [z]
        exact SeqAt.RcAt.lists_lengths ⟨_, p1, p2, _, p3⟩ ⟨_, q1, q2, _, q3⟩ (by simpa using hs) hu
    | tuple q1 q2 q3 q4 => exact SeqAt.RcAt.list_tuple ⟨_, p1, p2, _, p3⟩ ⟨_, q1, q2, _, q3⟩ hu
    | dict => exact Bool.noConfusion ob
  | tuple p1 p2 p3 p4 =>
    cases rb with
    | none => exact SeqAt.RcAt.tuple_none ⟨_, p1, p2, _, p3⟩ hu
    | bool q1 => exact SeqAt.RcAt.tuple_bool q1 ⟨_, p1, p2, _, p3⟩ hu
    | int q1 q2 => exact SeqAt.RcAt.tuple_int q1 q2 ⟨_, p1, p2, _, p3⟩ hu
    | str q1 q2 => exact SeqAt.RcAt.tuple_str q1 q2 ⟨_, p1, p2, _, p3⟩ hu
    | list q1 q2 q3 q4 => exact SeqAt.RcAt.tuple_list ⟨_, p1, p2, _, p3⟩ ⟨_, q1, q2, _, q3⟩ hu
    | tuple q1 q2 q3 q4 =>
      rename_i l1 o1 v1 m1 xs l2 o2 v2 m2 ys
      have n1 : v1.size = xs.length := by simpa using readsAll_len p4
      have n2 : v2.size = ys.length := by simpa using readsAll_len q4
      show SeqAt.RcAt A s (.ref _) (.ref _) (PyData.eqvAll xs ys)
      rw [← SeqAt.eqvAll_eq xs ys, ← n1, ← n2]
      exact SeqAt.RcAt.tuples ⟨_, p1, p2, _, p3⟩ ⟨_, q1, q2, _, q3⟩ hu (eachAt hn xs ys v1 v2 _ _ oa ob p4 q4)
    | dict => exact Bool.noConfusion ob
  | dict => exact Bool.noConfusion oa
theorem neAtN {n : Nat} {da db : PyData} {A : Around} {s : Shared} {a b : Value} {as bs : List Addr} (oa : okP (n + 1) da = true) (ob : okP (n + 1) db = true) (ra : Reads s.heap a da as) (rb : Reads s.heap b db bs) (hn : A.units + (n + 1) < cLine) :
    SeqAt.RcNeAt A s a b (!PyData.eqv da db) := by
  have hu : A.units < cLine := by omega
  cases ra with
  | none =>
    cases rb with
    | none => exact SeqAt.RcNeAt.none_none
    | bool q1 => exact SeqAt.RcNeAt.none_bool q1
    | int q1 q2 => exact SeqAt.RcNeAt.none_int q1 q2
    | str q1 q2 => exact SeqAt.RcNeAt.none_str q1 q2
    | list q1 q2 q3 q4 => exact SeqAt.RcNeAt.none_list ⟨_, q1, q2, _, q3⟩ hu
    | tuple q1 q2 q3 q4 => exact SeqAt.RcNeAt.none_tuple ⟨_, q1, q2, _, q3⟩ hu
    | dict => exact Bool.noConfusion ob
  | bool p1 =>
    cases rb with
    | none => exact SeqAt.RcNeAt.bool_none p1
    | bool q1 => exact SeqAt.RcNeAt.bool_bool p1 q1
    | int q1 q2 => exact SeqAt.RcNeAt.bool_int p1 q1 q2
    | str q1 q2 => exact SeqAt.RcNeAt.bool_str p1 q1 q2
    | list q1 q2 q3 q4 => exact SeqAt.RcNeAt.bool_list p1 ⟨_, q1, q2, _, q3⟩ hu
    | tuple q1 q2 q3 q4 => exact SeqAt.RcNeAt.bool_tuple p1 ⟨_, q1, q2, _, q3⟩ hu
    | dict => exact Bool.noConfusion ob
  | int p1 p2 =>
    cases rb with
    | none => exact SeqAt.RcNeAt.int_none p1 p2
    | bool q1 => exact SeqAt.RcNeAt.int_bool p1 p2 q1
    | int q1 q2 => exact SeqAt.RcNeAt.int_int p1 p2 q1 q2
    | str q1 q2 => exact SeqAt.RcNeAt.int_str p1 p2 q1 q2
    | list q1 q2 q3 q4 => exact SeqAt.RcNeAt.int_list p1 p2 ⟨_, q1, q2, _, q3⟩ hu
    | tuple q1 q2 q3 q4 => exact SeqAt.RcNeAt.int_tuple p1 p2 ⟨_, q1, q2, _, q3⟩ hu
    | dict => exact Bool.noConfusion ob
  | str p1 p2 =>
    cases rb with
    | none => exact SeqAt.RcNeAt.str_none p1 p2
    | bool q1 => exact SeqAt.RcNeAt.str_bool p1 p2 q1
    | int q1 q2 => exact SeqAt.RcNeAt.str_int p1 p2 q1 q2
    | str q1 q2 => exact SeqAt.RcNeAt.str_str p1 p2 q1 q2
    | list q1 q2 q3 q4 => exact SeqAt.RcNeAt.str_list p1 p2 ⟨_, q1, q2, _, q3⟩ hu
    | tuple q1 q2 q3 q4 => exact SeqAt.RcNeAt.str_tuple p1 p2 ⟨_, q1, q2, _, q3⟩ hu
    | dict => exact Bool.noConfusion ob
  | list p1 p2 p3 p4 =>
    cases rb with
    | none => exact SeqAt.RcNeAt.list_none ⟨_, p1, p2, _, p3⟩ hu
    | bool q1 => exact SeqAt.RcNeAt.list_bool q1 ⟨_, p1, p2, _, p3⟩ hu
    | int q1 q2 => exact SeqAt.RcNeAt.list_int q1 q2 ⟨_, p1, p2, _, p3⟩ hu
    | str q1 q2 => exact SeqAt.RcNeAt.list_str q1 q2 ⟨_, p1, p2, _, p3⟩ hu
    | list q1 q2 q3 q4 =>
      rename_i l1 o1 v1 m1 xs as1 l2 o2 v2 m2 ys bs2
      have n1 : v1.size = xs.length := by simpa using readsAll_len p4
      have n2 : v2.size = ys.length := by simpa using readsAll_len q4
      show SeqAt.RcNeAt A s (.ref _) (.ref _) (!PyData.eqvAll xs ys)
      by_cases hs : v1.size = v2.size
      · have z := SeqAt.eqvAll_same_length (show xs.length = ys.length by omega)
        rw [← z, ← n1]
        exact SeqAt.RcNeAt.lists ⟨_, p1, p2, _, p3⟩ ⟨_, q1, q2, _, q3⟩ hs hu (eachAt hn xs ys v1 v2 _ _ oa ob p4 q4)
      · have z := SeqAt.eqvAll_other_length (show xs.length ≠ ys.length by omega)
        rw [z]
        exact SeqAt.RcNeAt.lists_lengths ⟨_, p1, p2, _, p3⟩ ⟨_, q1, q2, _, q3⟩ (by simpa using hs) hu
    | tuple q1 q2 q3 q4 => exact SeqAt.RcNeAt.list_tuple ⟨_, p1, p2, _, p3⟩ ⟨_, q1, q2, _, q3⟩ hu
    | dict => exact Bool.noConfusion ob
  | tuple p1 p2 p3 p4 =>
    cases rb with
    | none => exact SeqAt.RcNeAt.tuple_none ⟨_, p1, p2, _, p3⟩ hu
    | bool q1 => exact SeqAt.RcNeAt.tuple_bool q1 ⟨_, p1, p2, _, p3⟩ hu
    | int q1 q2 => exact SeqAt.RcNeAt.tuple_int q1 q2 ⟨_, p1, p2, _, p3⟩ hu
    | str q1 q2 => exact SeqAt.RcNeAt.tuple_str q1 q2 ⟨_, p1, p2, _, p3⟩ hu
    | list q1 q2 q3 q4 => exact SeqAt.RcNeAt.tuple_list ⟨_, p1, p2, _, p3⟩ ⟨_, q1, q2, _, q3⟩ hu
    | tuple q1 q2 q3 q4 =>
      rename_i l1 o1 v1 m1 xs l2 o2 v2 m2 ys
      have n1 : v1.size = xs.length := by simpa using readsAll_len p4
      have n2 : v2.size = ys.length := by simpa using readsAll_len q4
      show SeqAt.RcNeAt A s (.ref _) (.ref _) (!PyData.eqvAll xs ys)
      rw [← SeqAt.eqvAll_eq xs ys, ← n1, ← n2]
      exact SeqAt.RcNeAt.tuples ⟨_, p1, p2, _, p3⟩ ⟨_, q1, q2, _, q3⟩ hu (eachAt hn xs ys v1 v2 _ _ oa ob p4 q4)
    | dict => exact Bool.noConfusion ob
  | dict => exact Bool.noConfusion oa
end R
set_option Elab.async false
set_option linter.all false
set_option autoImplicit false
/-! R9: operators over data. -/
namespace R
open PySem PySem.Spec PyProof.Rows L2
mutual
def toP : D → PyData
  | .non => .none
  | .bl b => .bool b
  | .int i => .int i
  | .str s => .str s
  | .lst xs => .list (toPs xs)
  | .tup xs => .tuple (toPs xs)
  | .pr _ => .dict []
  | .dic _ _ => .dict []
  | .obj _ _ => .dict []
def toPs : List D → List PyData
  | [] => []
  | x :: xs => toP x :: toPs xs
end
theorem toPs_eq : ∀ xs : List D, toPs xs = xs.map toP
  | [] => rfl
  | x :: xs => by rw [toPs, List.map_cons, toPs_eq xs]
def okD : Nat → D → Bool
  | 0, .lst _ => false
  | 0, .tup _ => false
  | _, .pr _ => false
  | _, .dic _ _ => false
  | _, .obj _ _ => false
  | n + 1, .lst xs => xs.all (okD n)
  | n + 1, .tup xs => xs.all (okD n)
  | _, _ => true
theorem okD_okP : ∀ (n : Nat) (d : D), okD n d = true → okP n (toP d) = true
  | 0, d, h => by cases d <;> first | rfl | exact h
  | n + 1, d, h => by
    cases d with
    | lst xs =>
      simp only [okD, List.all_eq_true] at h
      simp only [toP, okP, toPs_eq, List.all_map, List.all_eq_true]
      exact fun x hx => okD_okP n x (h x hx)
    | tup xs =>
      simp only [okD, List.all_eq_true] at h
      simp only [toP, okP, toPs_eq, List.all_map, List.all_eq_true]
      exact fun x hx => okD_okP n x (h x hx)
    | pr _ => exact h
    | dic _ _ => exact h
    | obj _ _ => exact h
    | _ => rfl
/-- equality of data -/
def eqD (a b : D) : Bool := PyData.eqv (toP a) (toP b)
section
variable {M : Wd} {H : Hp}
mutual
theorem Rep.dp : ∀ {d : D} {v : V} (n : Nat), okD n d = true → Rep M H d v → Dp M.K H v (toP d)
  | .non, _, _, _, h => by cases h; exact .non
  | .bl b, _, _, _, h => by cases h; exact .bl b
  | .int i, _, _, _, h => by cases h; exact .int i
  | .str s, _, _, _, h => by cases h; exact .str s
  | .lst xs, _, n, o, ⟨a, vs, e, s, r⟩ => by
    subst e
    cases n with
    | zero => exact Bool.noConfusion o
    | succ n => simp only [toP]; exact .lst s (RepL.dp n o r)
  | .tup xs, _, n, o, ⟨a, vs, e, s, r⟩ => by
    subst e
    cases n with
    | zero => exact Bool.noConfusion o
    | succ n => simp only [toP]; exact .tup s.sq (RepL.dp n o r)
  | .pr _, _, n, o, _ => by cases n <;> exact Bool.noConfusion o
  | .dic _ _, _, n, o, _ => by cases n <;> exact Bool.noConfusion o
  | .obj _ _, _, n, o, _ => by cases n <;> exact Bool.noConfusion o
theorem RepL.dp : ∀ {ds : List D} {vs : List V} (n : Nat), ds.all (okD n) = true → RepL M H ds vs → DpAll M.K H vs (toPs ds)
  | [], _, _, _, h => by cases h; exact .nil
  | d :: ds, _, n, o, ⟨v, r, e, h1, h2⟩ => by
    subst e
    rw [List.all_cons, Bool.and_eq_true] at o
    exact .cons (Rep.dp n o.1 h1) (RepL.dp n o.2 h2)
end
end
/-! ### pure operators -/
def pSub : D → D → Option D
  | .int a, .int b => some (.int (a - b))
  | _, _ => none
/-- products, quotients, powers that are covered -/
structure MulOk (a b : Int) : Prop where
  ok : (-(2 ^ 64) < a ∧ a < 2 ^ 64) ∨ (-(2 ^ 64) < b ∧ b < 2 ^ 64)
structure DivOk (b : Int) : Prop where
  lo : 0 < b
  hi : b < 1073741824
structure PowOk (a b : Int) : Prop where
  ok : 0 ≤ b ∧ b ≤ 1000000 ∧ a.natAbs < 2 ^ 64
noncomputable instance (a b : Int) : Decidable (MulOk a b) := Classical.propDecidable _
noncomputable instance (b : Int) : Decidable (DivOk b) := Classical.propDecidable _
noncomputable instance (a b : Int) : Decidable (PowOk a b) := Classical.propDecidable _
theorem mulOkL {a b : Int} (h0 : -18446744073709551616 < a) (h1 : a < 18446744073709551616) : MulOk a b := ⟨.inl ⟨by omega, by omega⟩⟩
theorem mulOkR {a b : Int} (h0 : -18446744073709551616 < b) (h1 : b < 18446744073709551616) : MulOk a b := ⟨.inr ⟨by omega, by omega⟩⟩
noncomputable def pMul : D → D → Option D
  | .int a, .int b => if MulOk a b then some (.int (a * b)) else none
  | _, _ => none
def pMod : D → D → Option D
  | .int a, .int b => if 0 < b then some (.int (a % b)) else none
  | _, _ => none
noncomputable def pDiv : D → D → Option D
  | .int a, .int b => if DivOk b then some (.int (a / b)) else none
  | _, _ => none
noncomputable def pPow : D → D → Option D
  | .int a, .int b => if PowOk a b then some (.int (a ^ b.toNat)) else none
  | _, _ => none
def pEq (a b : D) : Option D := if okD 60 a = true ∧ okD 60 b = true then some (.bl (eqD a b)) else none
def pNe (a b : D) : Option D := if okD 60 a = true ∧ okD 60 b = true then some (.bl (!eqD a b)) else none
def pLt : D → D → Option D
  | .int a, .int b => some (.bl (decide (a < b)))
  | _, _ => none
def pLe : D → D → Option D
  | .int a, .int b => some (.bl (decide (a ≤ b)))
  | _, _ => none
def pGt : D → D → Option D
  | .int a, .int b => some (.bl (decide (b < a)))
  | _, _ => none
def pGe : D → D → Option D
  | .int a, .int b => some (.bl (decide (b ≤ a)))
  | _, _ => none
def isNon : D → Bool
  | .non => true
  | _ => false
def pIs (a b : D) : Option D := if isNon b = true then some (.bl (isNon a)) else none
def pIsN (a b : D) : Option D := if isNon b = true then some (.bl (!isNon a)) else none
/-- a dict's key -/
def keyD : D → Option Key
  | .int i => some (.inl i)
  | .str s => some (.inr s)
  | _ => none
/-- the value of a key -/
def dGet (ks : List Key) (ds : List D) (k : Key) : Option D := ((ks.zip ds).find? fun kv => decide (kv.1 = k)).map (·.2)
/-- in: a list, a tuple; a text in a text; a key in a dict -/
def inD (a b : D) : Option Bool := match b with
  | .lst ds => if okD 60 a = true ∧ ds.all (okD 60) = true then some (ds.any fun d => eqD d a) else none
  | .tup ds => if okD 60 a = true ∧ ds.all (okD 60) = true then some (ds.any fun d => eqD d a) else none
  | .str t => match a with
    | .str s => some (!(Builtin.Str.occurrences t s 0 t.length 1).isEmpty)
    | _ => none
  | .dic ks ds => match keyD a with
    | some k => some (dGet ks ds k).isSome
    | none => none
  | _ => none
def pIn (a b : D) : Option D := (inD a b).map .bl
def pNotIn (a b : D) : Option D := (inD a b).map fun k => .bl (!k)
section
variable {X : Cx}
theorem OpR.imp {F : Value → Value → Sem Value} {r r' : R2} (h : OpR X F r) (i : ∀ x y H Q, r' x y H Q → r x y H Q) : OpR X F r' := fun pins s σ H x y v u Q I rx ry q => h pins s σ H x y v u Q I rx ry (i x y H Q q)
theorem o_int {F : Value → Value → Sem Value} {C : Int → Int → Prop} {g : Int → Int → V} {p : D → D → Option D} (h : OpR X F (rI C g)) (hp : ∀ d1 d2 d, p d1 d2 = some d → ∃ i j, d1 = .int i ∧ d2 = .int j ∧ C i j ∧ ∀ G, Rep (wd X) G d (g i j)) : Op2 X F p :=
  OpR.imp h fun x y H Q ⟨d1, d2, d, r1, r2, e, k⟩ => by
    obtain ⟨i, j, rfl, rfl, c, hg⟩ := hp d1 d2 d e
    exact ⟨i, j, r1, r2, c, k _ hg⟩
theorem o_int0 {F : Value → Value → Sem Value} {g : Int → Int → V} {p : D → D → Option D} (h : OpR X F (rI0 g)) (hp : ∀ d1 d2 d, p d1 d2 = some d → ∃ i j, d1 = .int i ∧ d2 = .int j ∧ ∀ G, Rep (wd X) G d (g i j)) : Op2 X F p :=
  OpR.imp h fun x y H Q ⟨d1, d2, d, r1, r2, e, k⟩ => by
    obtain ⟨i, j, rfl, rfl, hg⟩ := hp d1 d2 d e
    exact ⟨i, j, r1, r2, k _ hg⟩
theorem o_sub : Op2 X (binaryOp .Sub) pSub := o_int0 op_sub fun d1 d2 d e => by
  cases d1 <;> cases d2 <;> simp only [pSub, reduceCtorEq, Option.some.injEq] at e
  subst e; exact ⟨_, _, rfl, rfl, fun _ => rfl⟩
theorem o_mul : Op2 X (binaryOp .Mult) pMul := o_int op_mul fun d1 d2 d e => by
  cases d1 <;> cases d2 <;> simp only [pMul, reduceCtorEq] at e
  split at e
  · rename_i h; cases e; exact ⟨_, _, rfl, rfl, h.ok, fun _ => rfl⟩
  · cases e
theorem o_mod : Op2 X (binaryOp .Mod) pMod := o_int op_mod fun d1 d2 d e => by
  cases d1 <;> cases d2 <;> simp only [pMod, reduceCtorEq] at e
  split at e
  · rename_i h; cases e; exact ⟨_, _, rfl, rfl, h, fun _ => rfl⟩
  · cases e
theorem o_div : Op2 X (binaryOp .FloorDiv) pDiv := o_int op_fdiv fun d1 d2 d e => by
  cases d1 <;> cases d2 <;> simp only [pDiv, reduceCtorEq] at e
  split at e
  · rename_i h; cases e; exact ⟨_, _, rfl, rfl, ⟨h.lo, h.hi⟩, fun _ => rfl⟩
  · cases e
theorem o_pow : Op2 X (binaryOp .Pow) pPow := o_int op_pow fun d1 d2 d e => by
  cases d1 <;> cases d2 <;> simp only [pPow, reduceCtorEq] at e
  split at e
  · rename_i h; cases e; exact ⟨_, _, rfl, rfl, h.ok, fun _ => rfl⟩
  · cases e
theorem o_lt : Op2 X (compareOp .Lt) pLt := o_int0 op_lt fun d1 d2 d e => by
  cases d1 <;> cases d2 <;> simp only [pLt, reduceCtorEq, Option.some.injEq] at e
  subst e; exact ⟨_, _, rfl, rfl, fun _ => rfl⟩
theorem o_le : Op2 X (compareOp .LtE) pLe := o_int0 op_le fun d1 d2 d e => by
  cases d1 <;> cases d2 <;> simp only [pLe, reduceCtorEq, Option.some.injEq] at e
  subst e; exact ⟨_, _, rfl, rfl, fun _ => rfl⟩
theorem o_gt : Op2 X (compareOp .Gt) pGt := o_int0 op_gt fun d1 d2 d e => by
  cases d1 <;> cases d2 <;> simp only [pGt, reduceCtorEq, Option.some.injEq] at e
  subst e; exact ⟨_, _, rfl, rfl, fun _ => rfl⟩
theorem o_ge : Op2 X (compareOp .GtE) pGe := o_int0 op_ge fun d1 d2 d e => by
  cases d1 <;> cases d2 <;> simp only [pGe, reduceCtorEq, Option.some.injEq] at e
  subst e; exact ⟨_, _, rfl, rfl, fun _ => rfl⟩
theorem rep_isNon {M : Wd} {H : Hp} {d : D} {v : V} (r : Rep M H d v) : decide (v = .non) = isNon d := by
  cases d with
  | non => cases r; rfl
  | bl _ => cases r; rfl
  | int _ => cases r; rfl
  | str _ => cases r; rfl
  | lst _ => obtain ⟨a, vs, rfl, _⟩ := r; rfl
  | tup _ => obtain ⟨a, vs, rfl, _⟩ := r; rfl
  | pr _ => obtain ⟨a, vs, rfl, _⟩ := r; rfl
  | dic _ _ => obtain ⟨a, vs, rfl, _⟩ := r; rfl
  | obj _ _ => obtain ⟨a, C, dx, vs, rfl, _⟩ := r; rfl
theorem isNon_eq {d : D} (h : isNon d = true) : d = .non := by cases d <;> first | rfl | exact Bool.noConfusion h
theorem o_is : Op2 X (compareOp .Is) pIs := OpR.imp op_isN fun x y H Q ⟨d1, d2, d, r1, r2, e, k⟩ => by
  unfold pIs at e
  split at e
  · rename_i h
    cases e
    have := isNon_eq h
    subst this
    exact ⟨r2, k _ fun G => by rw [rep_isNon r1]; rfl⟩
  · cases e
theorem o_isN : Op2 X (compareOp .IsNot) pIsN := OpR.imp op_notN fun x y H Q ⟨d1, d2, d, r1, r2, e, k⟩ => by
  unfold pIsN at e
  split at e
  · rename_i h
    cases e
    have := isNon_eq h
    subst this
    exact ⟨r2, k _ fun G => by rw [rep_isNon r1]; rfl⟩
  · cases e
theorem o_eq (hu : X.A.units + 64 < cLine) : Op2 X (compareOp .Eq) pEq := by
  intro pins s σ H x y v u Q I rx ry ⟨d1, d2, d, r1, r2, e, k⟩
  unfold pEq at e
  split at e
  · rename_i h
    cases e
    obtain ⟨as, q1⟩ := Dp.reads I _ x v (r1.dp 60 h.1) rx
    obtain ⟨bs, q2⟩ := Dp.reads I _ y u (r2.dp 60 h.2) ry
    exact rcAtN (okD_okP 60 _ h.1) (okD_okP 60 _ h.2) q1 q2 (by omega) _ _ _ _ ⟨.bl _, H, I, rfl, k _ fun _ => rfl⟩
  · cases e
theorem o_ne (hu : X.A.units + 64 < cLine) : Op2 X (compareOp .NotEq) pNe := by
  intro pins s σ H x y v u Q I rx ry ⟨d1, d2, d, r1, r2, e, k⟩
  unfold pNe at e
  split at e
  · rename_i h
    cases e
    obtain ⟨as, q1⟩ := Dp.reads I _ x v (r1.dp 60 h.1) rx
    obtain ⟨bs, q2⟩ := Dp.reads I _ y u (r2.dp 60 h.2) ry
    exact neAtN (okD_okP 60 _ h.1) (okD_okP 60 _ h.2) q1 q2 (by omega) _ _ _ _ ⟨.bl _, H, I, rfl, k _ fun _ => rfl⟩
  · cases e
/-- the truth «y is the data d» of a value, by what it reads as -/
noncomputable def eqVal (h : Heap) (a : PyData) (y : Value) : Bool := by
  classical exact if q : ∃ d : PyData, okP 60 d = true ∧ ∃ bs, Reads h y d bs then PyData.eqv (Classical.choose q) a else false
theorem eqVal_of {h : Heap} {a d : PyData} {y : Value} {bs : List Addr} (o : okP 60 d = true) (r : Reads h y d bs) : eqVal h a y = PyData.eqv d a := by
  classical
  unfold eqVal
  have q : ∃ d : PyData, okP 60 d = true ∧ ∃ bs, Reads h y d bs := ⟨d, o, bs, r⟩
  rw [dif_pos q]
  obtain ⟨_, bs', r'⟩ := Classical.choose_spec q
  rw [(r'.unique _ _ r).1]
theorem any_eqVal {h : Heap} {a : PyData} : ∀ {us : List Value} {ds : List PyData} {as : List Addr}, ReadsAll h us ds as → ds.all (okP 60) = true → us.any (eqVal h a) = ds.any fun d => PyData.eqv d a
  | _, _, _, .nil, _ => rfl
  | _, _, _, .cons r t, o => by
    rw [List.all_cons, Bool.and_eq_true] at o
    rw [List.any_cons, List.any_cons, eqVal_of o.1 r, any_eqVal t o.2]
theorem eqAt_all {s : Shared} {A : Around} {a : PyData} {v : Value} {as0 : List Addr} (oa : okP 60 a = true) (ra : Reads s.heap v a as0) (hu : A.units + 1 + 60 < cLine) : ∀ {us : List Value} {ds : List PyData} {as : List Addr}, ReadsAll s.heap us ds as → ds.all (okP 60) = true → ∀ u ∈ us, SeqAt.EqAt A.in1 s u v (eqVal s.heap a u)
  | _, _, _, .nil, _, u, hu' => by cases hu'
  | _, _, _, .cons r t, o, u, hu' => by
    rw [List.all_cons, Bool.and_eq_true] at o
    rcases List.mem_cons.mp hu' with rfl | hu'
    · rw [eqVal_of o.1 r]
      exact eqAtN 60 _ _ A.in1 s _ _ _ _ o.1 oa r ra hu
    · exact eqAt_all oa ra hu t o.2 u hu'
theorem all_okP {ds : List D} (h : ds.all (okD 60) = true) : (toPs ds).all (okP 60) = true := by
  rw [toPs_eq, List.all_map, List.all_eq_true]
  exact fun d hd => okD_okP 60 d (List.all_eq_true.mp h d hd)
theorem any_eqD (ds : List D) (a : D) : ((toPs ds).any fun d => PyData.eqv d (toP a)) = ds.any fun d => eqD d a := by
  rw [toPs_eq, List.any_map]; rfl
theorem dGet_rel {M : Wd} {G : Hp} : ∀ {ks : List Key} {ds : List D} {vs : List V} (k : Key), ks.length = vs.length → RepL M G ds vs → match dGet ks ds k with
    | some d => ∃ v, valV (ks.zip vs) k = some v ∧ Rep M G d v
    | none => valV (ks.zip vs) k = none
  | [], ds, vs, k, _, r => by simp [dGet, valV]
  | x :: ks, [], vs, k, l, r => by
    have e : vs = [] := r
    subst e; cases l
  | x :: ks, d :: ds, _, k, l, ⟨v, r, e, h1, h2⟩ => by
    subst e
    have ih := dGet_rel (ks := ks) (ds := ds) (vs := r) k (Nat.succ.inj l) h2
    by_cases hx : x = k
    · have e1 : dGet (x :: ks) (d :: ds) k = some d := by simp [dGet, hx]
      rw [e1]
      exact ⟨v, by rw [List.zip_cons_cons, valV_pos hx], h1⟩
    · have e1 : dGet (x :: ks) (d :: ds) k = dGet ks ds k := by simp [dGet, hx]
      rw [e1, List.zip_cons_cons, valV_neg (p := (x, v)) hx]
      exact ih
theorem key_rep {M : Wd} {H : Hp} {d : D} {k : Key} {v : V} (e : keyD d = some k) (r : Rep M H d v) : v = kV k := by
  cases d <;> simp only [keyD, reduceCtorEq, Option.some.injEq] at e
  · subst e; exact r
  · subst e; exact r
theorem o_inG (hu : X.A.units + 64 < cLine) (neg : Bool) (op : CmpOp) (hop : op = if neg then .NotIn else .In) : Op2 X (compareOp op) (if neg then pNotIn else pIn) := by
  intro pins s σ H x y v u Q I rx ry ⟨d1, d2, d, r1, r2, e, k⟩
  have hu1 : X.A.units + 1 < cLine := by omega
  have key : ∃ b, inD d1 d2 = some b ∧ d = .bl (if neg then !b else b) := by
    cases neg with
    | true => simp only [pNotIn, if_true, Option.map_eq_some_iff] at e; obtain ⟨b, h1, h2⟩ := e; exact ⟨b, h1, h2.symm⟩
    | false => simp only [pIn, Bool.false_eq_true, if_false, Option.map_eq_some_iff] at e; obtain ⟨b, h1, h2⟩ := e; exact ⟨b, h1, h2.symm⟩
  clear e
  obtain ⟨b, e, hd0⟩ := key
  subst hd0
  have seq : ∀ (ds : List D) (us : List Value), okD 60 d1 = true → ds.all (okD 60) = true → (∃ as, ReadsAll s.heap us (toPs ds) as) → b = (ds.any fun d => eqD d d1) → ∃ e : Value → Bool, (∀ w ∈ us, SeqAt.EqAt X.A.in1 s w v (e w)) ∧ us.any e = b := by
    intro ds us o1 o2 ⟨as, ra⟩ eb
    obtain ⟨as1, q1⟩ := Dp.reads I _ x v (r1.dp 60 o1) rx
    refine ⟨eqVal s.heap (toP d1), eqAt_all (okD_okP 60 _ o1) q1 (by omega) ra (all_okP o2), ?_⟩
    rw [any_eqVal ra (all_okP o2), any_eqD, eb]
  have fin : ∀ kk : Bool, kk = b → EP X pins σ Q (.bool (if neg then !kk else kk)) s := fun kk e => ⟨.bl _, H, I, rfl, by subst e; exact k _ fun _ => rfl⟩
  cases d2 with
  | lst ds =>
    simp only [inD] at e
    split at e
    · rename_i h
      obtain ⟨a, vs, rfl, hs, hr⟩ := r2
      cases ry
      obtain ⟨its, r, pl, hz⟩ := I.list hs
      obtain ⟨as, ra⟩ := Dp.readsAll I _ _ its (RepL.dp 60 h.2 hr) r
      obtain ⟨e', h1, h2⟩ := seq ds its h.1 h.2 ⟨as, ra⟩ (Option.some.inj e).symm
      have h3 : its.toArray.any e' = b := by simpa using h2
      cases neg with
      | true => subst hop; exact SeqAt.notIn_listAt e' pl.isList (fun w hw => h1 w (by simpa using hw)) (fin _ h3)
      | false => subst hop; exact SeqAt.in_listAt e' pl.isList (fun w hw => h1 w (by simpa using hw)) (fin _ h3)
    · cases e
  | tup ds =>
    simp only [inD] at e
    split at e
    · rename_i h
      obtain ⟨a, vs, rfl, hs, hr⟩ := r2
      cases ry
      obtain ⟨its, r, pl, hz⟩ := I.tuple hs.sq
      obtain ⟨as, ra⟩ := Dp.readsAll I _ _ its (RepL.dp 60 h.2 hr) r
      obtain ⟨e', h1, h2⟩ := seq ds its h.1 h.2 ⟨as, ra⟩ (Option.some.inj e).symm
      have h3 : its.toArray.any e' = b := by simpa using h2
      cases neg with
      | true => subst hop; exact SeqAt.notIn_tupleAt e' pl (fun w hw => h1 w (by simpa using hw)) (fin _ h3)
      | false => subst hop; exact SeqAt.in_tupleAt e' pl (fun w hw => h1 w (by simpa using hw)) (fin _ h3)
    · cases e
  | str t =>
    simp only [inD] at e
    split at e
    · rename_i z
      have r1' : x = .str z := r1
      have r2' : y = .str t := r2
      have eb := (Option.some.inj e).symm
      cases neg with
      | true => subst hop; exact op_notin_str pins s σ H x y v u Q I rx ry ⟨z, t, r1', r2', k _ fun _ => by rw [eb]; rfl⟩
      | false => subst hop; exact op_in_str pins s σ H x y v u Q I rx ry ⟨z, t, r1', r2', k _ fun _ => by rw [eb]; rfl⟩
    · cases e
  | dic ks ds =>
    simp only [inD] at e
    split at e
    · rename_i kk ek
      obtain ⟨a, vs, rfl, l, hd, hr⟩ := r2
      cases ry
      have ex := key_rep ek r1
      subst ex
      have g : DGet H a (kV kk) (valV (ks.zip vs) kk) := .inl ⟨_, kk, hd, rfl, rfl⟩
      have hb : (valV (ks.zip vs) kk).isSome = b := by
        have := dGet_rel kk l hr
        rw [← Option.some.inj e]
        cases q : dGet ks ds kk with
        | none => rw [q] at this; rw [this]; rfl
        | some d => rw [q] at this; obtain ⟨w', h1, _⟩ := this; rw [h1]; rfl
      cases neg with
      | true => subst hop; exact d_notIn hu1 I g rx fun s' I' => ⟨.bl _, H, I', rfl, by rw [hb]; exact k _ fun _ => rfl⟩
      | false => subst hop; exact d_in hu1 I g rx fun s' I' => ⟨.bl _, H, I', rfl, by rw [hb]; exact k _ fun _ => rfl⟩
    · cases e
  | _ => exact absurd e (by simp [inD])
theorem o_in (hu : X.A.units + 64 < cLine) : Op2 X (compareOp .In) pIn := o_inG hu false .In rfl
theorem o_notIn (hu : X.A.units + 64 < cLine) : Op2 X (compareOp .NotIn) pNotIn := o_inG hu true .NotIn rfl
end
end R
set_option Elab.async false
set_option linter.all false
set_option autoImplicit false
/-! R10: +, subscripts, slices, built-ins, texts. -/
namespace R
open PySem PySem.Spec PyProof.Rows L2
/-! ### + -/
inductive Rk where
  | sc (d : D) | nl (ds : List D) | tp (ds : List D)
def rkOut : Rk → Rv
  | .sc d => (.fro, d)
  | .nl ds => (.con .fro, .lst ds)
  | .tp ds => (.fro, .tup ds)
@[simp] theorem rkOut_sc (d : D) : rkOut (.sc d) = (.fro, d) := rfl
@[simp] theorem rkOut_nl (ds : List D) : rkOut (.nl ds) = (.con .fro, .lst ds) := rfl
@[simp] theorem rkOut_tp (ds : List D) : rkOut (.tp ds) = (.fro, .tup ds) := rfl
def pAdd (a b : Rv) : Option Rk := match a.2, b.2 with
  | .int i, .int j => some (.sc (.int (i + j)))
  | .str x, .str y => if x.length + y.length ≤ sizeLine then some (.sc (.str (x ++ y))) else none
  | .lst xs, .lst ys => if a.1.flat = true ∧ b.1.flat = true ∧ xs.length + ys.length ≤ sizeLine then some (.nl (xs ++ ys)) else none
  | .tup xs, .tup ys => if a.1.flat = true ∧ b.1.flat = true ∧ xs.length + ys.length ≤ sizeLine then some (.tp (xs ++ ys)) else none
  | _, _ => none
def sAdd (f g : EvO) : EvE := fun ε => (f ε).bind fun o1 ε => (g ε).bind fun o2 ε => opt (res o1 ε) fun r1 => opt (res o2 ε) fun r2 => opt (pAdd r1 r2) fun k => .ok (rkOut k) ε
section
variable {X : Cx} {W : WX} {pos : Pos} {a b c' : Expr} {f g : EvO}
theorem op_catL : OpR X (binaryOp .Add) (fun x y H Q => ∃ l b xs zs, x = .ref l ∧ y = .ref b ∧ SqL X.K H l xs ∧ SqL X.K H b zs ∧ xs.length + zs.length ≤ sizeLine ∧ ∀ p, H p = none → Q (.ref p) (upd H p (.lst (xs ++ zs)))) := by
  intro pins s σ H x y v u Q I rx ry h
  obtain ⟨l, b, xs, zs, rfl, rfl, hx, hy, hz, q⟩ := h
  cases rx
  cases ry
  obtain ⟨i1, r1, ⟨⟨c1, e1, d1, w1⟩, n1, g1, k1, j1, m1⟩, z1⟩ := I.list hx
  obtain ⟨i2, r2, ⟨⟨c2, e2, d2, w2⟩, n2, g2, k2, j2, m2⟩, z2⟩ := I.list hy
  simp only at k1 j1 m1 k2 j2 m2
  subst k1 j1 m1 k2 j2 m2
  have l1 := r1.length
  have l2 := r2.length
  have hsz : i1.toArray.size + i2.toArray.size ≤ sizeLine := by simp only [List.size_toArray]; omega
  refine concat_meets ⟨_, g1, rfl⟩ ⟨_, g2, rfl⟩ noFill_list_add seq_list_add PySem.F.slot_list_add PySem.F.entry_list_add (PySem.F.args_list_add_2 _ _) (PyProof.Rows.list_addW l b i1.toArray i2.toArray n1 n2 _ _ w1 w2 hsz) ⟨g1, g2, ?_⟩
  have e : i1.toArray ++ i2.toArray = (i1 ++ i2).toArray := by simp
  rw [e]
  exact ⟨.ref _, _, I.lnew (t' := s.toks) (r1.append r2) (by rw [List.length_append]; omega), rfl, q _ I.fresh⟩
theorem RepL.append {M : Wd} {G : Hp} : ∀ {xs ys : List D} {us ws : List V}, RepL M G xs us → RepL M G ys ws → RepL M G (xs ++ ys) (us ++ ws)
  | [], _, us, _, h, k => by have e : us = [] := h; subst e; exact k
  | x :: xs, _, _, _, ⟨v, r, e, h1, h2⟩, k => by subst e; exact ⟨v, r ++ _, rfl, h1, RepL.append h2 k⟩
theorem RepL.drop {M : Wd} {G : Hp} : ∀ (n : Nat) {xs : List D} {us : List V}, RepL M G xs us → RepL M G (xs.drop n) (us.drop n)
  | 0, _, _, h => h
  | _ + 1, [], us, h => by have e : us = [] := h; subst e; exact rfl
  | n + 1, x :: xs, _, ⟨v, r, e, h1, h2⟩ => by subst e; exact RepL.drop n h2
theorem RepL.take {M : Wd} {G : Hp} : ∀ (n : Nat) {xs : List D} {us : List V}, RepL M G xs us → RepL M G (xs.take n) (us.take n)
  | 0, _, _, h => rfl
  | _ + 1, [], us, h => by have e : us = [] := h; subst e; exact rfl
  | n + 1, x :: xs, _, ⟨v, r, e, h1, h2⟩ => by subst e; exact ⟨v, r.take n, rfl, h1, RepL.take n h2⟩
theorem RepL.reverse {M : Wd} {G : Hp} : ∀ {xs : List D} {us : List V}, RepL M G xs us → RepL M G xs.reverse us.reverse
  | [], us, h => by have e : us = [] := h; subst e; exact rfl
  | x :: xs, _, ⟨v, r, e, h1, h2⟩ => by
    subst e
    rw [List.reverse_cons, List.reverse_cons]
    exact RepL.append (RepL.reverse h2) ⟨v, [], rfl, h1, rfl⟩
/-- a new list of frozen items -/
theorem Sta.newL {M : Wd} {c : Ctx} {T : List Ow} {σ : St} {H : Hp} {ε : En} {ds : List D} {vs : List V} {p : Addr} (s : Sta M c (.pin (fun G => RepL M G ds vs) :: T) σ H ε) (hp : H p = none) :
    Sta M c (.val (.ref p) (.con .fro) (.lst ds) :: T) σ (upd H p (.lst vs)) ε := by
  have hl : ds.length = vs.length := (s.ok.pinned).length.symm
  exact ⟨OK.closeL hl (s.ok.itemsPin.new hp), s.fit⟩
theorem Sta.newT {M : Wd} {c : Ctx} {T : List Ow} {σ : St} {H : Hp} {ε : En} {ds : List D} {vs : List V} {p : Addr} {ob : Obj} (hd : ob.dict = none) (s : Sta M c (.pin (fun G => RepL M G ds vs) :: T) σ H ε) (hp : H p = none) :
    Sta M c (.val (.ref p) .fro (.tup ds) :: T) σ (upd H p (tupC ob vs)) ε := by
  have hl : ds.length = vs.length := (s.ok.pinned).length.symm
  exact ⟨OK.froT hd hl (s.ok.itemsPin.new hp), s.fit⟩
theorem Sta.pinAnd {M : Wd} {c : Ctx} {T : List Ow} {σ : St} {H : Hp} {ε : En} {φ ψ : Hp → Prop} (s : Sta M c (.pin φ :: .pin ψ :: T) σ H ε) : Sta M c (.pin (fun G => φ G ∧ ψ G) :: T) σ H ε := ⟨s.ok.pinAnd, s.fit⟩
/-- what is known of two operands -/
theorem Sta.know2 {M : Wd} {c : Ctx} {T : List Ow} {σ : St} {H : Hp} {ε : En} {o1 o2 : Opd} {v1 v2 : V} {r1 r2 : Rv} (s : Sta M c (opw σ o2 v2 :: opw σ o1 v1 :: T) σ H ε) (e1 : res o1 ε = some r1) (e2 : res o2 ε = some r2) (f1 : r1.1.flat = true) (f2 : r2.1.flat = true) :
    ∃ vs1 vs2, Top M H r1.2 v1 vs1 ∧ Top M H r2.2 v2 vs2 ∧ Sta M c (.pin (fun G => RepL M G (kids r1.2) vs1 ∧ RepL M G (kids r2.2) vs2) :: T) σ H ε := by
  obtain ⟨vs2, t2, s2⟩ := s.know e2 f2
  have s3 : Sta M c (opw σ o1 v1 :: .pin (fun G => RepL M G (kids r2.2) vs2) :: opw σ o2 v2 :: T) σ H ε := s2.perm ((List.Perm.cons _ (List.Perm.swap _ _ _)).trans (List.Perm.swap _ _ _))
  obtain ⟨vs1, t1, s4⟩ := s3.know e1 f1
  refine ⟨vs1, vs2, t1, t2, Sta.pinAnd (T := T) ?_⟩
  have s5 : Sta M c (opw σ o1 v1 :: opw σ o2 v2 :: (.pin (fun G => RepL M G (kids r1.2) vs1) :: .pin (fun G => RepL M G (kids r2.2) vs2) :: T)) σ H ε := s4.perm (by
    refine (List.Perm.swap _ _ _).trans (List.Perm.cons _ ?_)
    refine (List.Perm.cons _ (List.Perm.swap _ _ _)).trans (List.Perm.swap _ _ _))
  exact s5.drop.drop
theorem own_tup {M : Wd} {U : Addr → Prop} {G H : Hp} {sh : Sh} {ds : List D} {v : V} {F : List Addr} (h : Own M U G H sh (.tup ds) v F) : sh = .fro := by
  cases sh with
  | fro => rfl
  | lnt =>
    obtain ⟨_, a, _, _, h⟩ := h
    rcases h with ⟨_, _, e, _⟩ | ⟨_, _, _, e, _⟩ | ⟨_, _, _, _, _, e, _⟩ <;> cases e
  | con s =>
    obtain ⟨a, Fs, _, _, h⟩ := h
    rcases h with ⟨_, _, e, _⟩ | ⟨_, _, _, e, _⟩ <;> cases e
  | obj ss =>
    obtain ⟨a, Fs, k, ds', C, dx, vs, _, _, e, _⟩ := h
    cases e
  | slf a0 ss =>
    obtain ⟨_, a, Fs, k, ds', C, dx, vs, _, _, e, _⟩ := h
    cases e
theorem Sta.tupSh {M : Wd} {c : Ctx} {T : List Ow} {σ : St} {H : Hp} {ε : En} {v : V} {sh : Sh} {ds : List D} (s : Sta M c (.val v sh (.tup ds) :: T) σ H ε) : sh = .fro := by
  obtain ⟨G, Fs, x⟩ := s.ok
  obtain ⟨g0, gh, un, own, nd, ap⟩ := x
  cases own with
  | cons h1 h2 => exact own_tup h1
/-- an operand that is a tuple, as a value -/
theorem Sta.tupV {M : Wd} {c : Ctx} {T : List Ow} {σ : St} {H : Hp} {ε : En} {o : Opd} {v : V} {sh : Sh} {ds : List D} (s : Sta M c (opw σ o v :: T) σ H ε) (e : res o ε = some (sh, .tup ds)) : Sta M c (.val v .fro (.tup ds) :: T) σ H ε := by
  cases o with
  | tmp q =>
    cases e
    have := Sta.tupSh s
    subst this
    exact s
  | slot i =>
    have hv : σ[i]? = some (some v) := s.ok.pinned
    have e := join_some e
    have := (Sta.take s e hv).tupSh
    subst this
    have q := s.drop.lend e hv trivial
    rw [set_same e] at q
    exact q
theorem add_run {M : Wd} {c : Ctx} {T : List Ow} {σ : St} {H : Hp} {ε : En} {Q : VK} (hM : M = wd X) (s : Sta M c T σ H ε) (q : postE M W c T σ Q (sAdd f g ε)) {r : R2}
    (hr : ∀ x y H Q, ((∃ i j, x = .int i ∧ y = .int j ∧ Q (.int (i + j)) H) ∨ (∃ i j, x = .str i ∧ y = .str j ∧ i.length + j.length ≤ sizeLine ∧ Q (.str (i ++ j)) H) ∨
      (∃ l b xs zs, x = .ref l ∧ y = .ref b ∧ SqL M.K H l xs ∧ SqL M.K H b zs ∧ xs.length + zs.length ≤ sizeLine ∧ ∀ p, H p = none → Q (.ref p) (upd H p (.lst (xs ++ zs)))) ∨ rCatB M.K x y H Q) → r x y H Q) : tOp r (tO M W f) (tO M W g) σ H Q := by
  refine ⟨c, T, ε, s, pst_mono (fun o1 ε1 q v1 H1 s1 => ⟨c, _, ε1, s1, pst_mono (fun o2 ε2 q v2 H2 s2 => ?_) (pst_push (pst_bind q))⟩) (pst_bind q)⟩
  obtain ⟨r1, e1, q⟩ := pst_opt q
  obtain ⟨r2, e2, q⟩ := pst_opt q
  obtain ⟨k, e3, q⟩ := pst_opt q
  refine hr _ _ _ _ ?_
  obtain ⟨sh1, d1⟩ := r1
  obtain ⟨sh2, d2⟩ := r2
  unfold pAdd at e3
  have p1 := s2.readO2 e1
  have p2 := s2.readO e2
  cases d1 with
  | int i =>
    cases d2 with
    | int j => cases e3; exact .inl ⟨i, j, p1, p2, q _ H2 (s2.drop.drop.lit fun _ => rfl)⟩
    | _ => cases e3
  | str x =>
    cases d2 with
    | str y =>
      simp only at e3
      split at e3
      · rename_i hz
        cases e3
        exact .inr (.inl ⟨x, y, p1, p2, hz, q _ H2 (s2.drop.drop.lit fun _ => rfl)⟩)
      · cases e3
    | _ => cases e3
  | lst xs =>
    cases d2 with
    | lst ys =>
      simp only at e3
      split at e3
      · rename_i hz
        cases e3
        obtain ⟨vs1, vs2, ⟨a1, rfl, t1⟩, ⟨a2, rfl, t2⟩, s3⟩ := s2.know2 e1 e2 hz.1 hz.2.1
        have l1 := s3.ok.pinned.1.length
        have l2 := s3.ok.pinned.2.length
        refine .inr (.inr (.inl ⟨a1, a2, vs1, vs2, rfl, rfl, t1, t2, ?_, fun p hp => q _ _ (Sta.newL (s3.pinMap fun G z => z.1.append z.2) hp)⟩))
        simp only [kids] at l1 l2
        omega
      · cases e3
    | _ => cases e3
  | tup xs =>
    cases d2 with
    | tup ys =>
      simp only at e3
      split at e3
      · rename_i hz
        cases e3
        obtain ⟨vs1, vs2, ⟨a1, rfl, t1⟩, ⟨a2, rfl, t2⟩, s3⟩ := s2.know2 e1 e2 hz.1 hz.2.1
        have l1 := s3.ok.pinned.1.length
        have l2 := s3.ok.pinned.2.length
        simp only [kids] at l1 l2
        refine .inr (.inr (.inr ⟨a1, a2, vs1, vs2, rfl, rfl, t1, t2, by omega, fun e => ?_, fun n1 e => ?_, fun n1 n2 p ob hp hd => q _ _ (Sta.newT hd (s3.pinMap fun G z => z.1.append z.2) hp)⟩))
        · subst e
          have ex : xs = [] := by cases xs with
            | nil => rfl
            | cons _ _ => simp at l1
          subst ex
          refine q _ H2 ?_
          exact (s2.perm (List.Perm.swap _ _ _)).drop.tupV e2
        · subst e
          have ey : ys = [] := by cases ys with
            | nil => rfl
            | cons _ _ => simp at l2
          subst ey
          rw [List.append_nil] at q
          refine q _ H2 ?_
          exact s2.drop.tupV e1
      · cases e3
    | _ => cases e3
  | _ => cases e3
theorem re_add (ha : RO X W a f) (hb : RO X W b g) : RE X W (.BinOp a .Add b pos) (sAdd f g) := by
  have ho : OpR X (binaryOp .Add) (fun x y H Q => (∃ i j, x = .int i ∧ y = .int j ∧ Q (.int (i + j)) H) ∨ (∃ i j, x = .str i ∧ y = .str j ∧ i.length + j.length ≤ sizeLine ∧ Q (.str (i ++ j)) H) ∨
      (∃ l b xs zs, x = .ref l ∧ y = .ref b ∧ SqL X.K H l xs ∧ SqL X.K H b zs ∧ xs.length + zs.length ≤ sizeLine ∧ ∀ p, H p = none → Q (.ref p) (upd H p (.lst (xs ++ zs)))) ∨ rCatB X.K x y H Q) := by
    intro pins s σ H x y v u Q I rx ry h
    rcases h with h | h | h | h
    · exact op_add pins s σ H x y v u Q I rx ry h
    · exact op_add_str pins s σ H x y v u Q I rx ry h
    · exact op_catL pins s σ H x y v u Q I rx ry h
    · exact op_catB pins s σ H x y v u Q I rx ry h
  exact ⟨PE.imp (pe_op ho ha.run hb.run) fun σ H Q ⟨c, T, ε, s, q⟩ => add_run (X := X) rfl s q fun _ _ _ _ h => h⟩
/-! ### subscripts -/
def ixD (r1 r2 : Rv) : Option D := match r1.2, r2.2 with
  | .lst ds, .int i => if r1.1.flat = true then atI ds i else none
  | .tup ds, .int i => atI ds i
  | .str z, .int i => if z.length ≤ sizeLine then (atI z.cps.toList i).map fun c => .str ⟨#[c]⟩ else none
  | .dic ks ds, d => if r1.1.flat = true then (keyD d).bind (dGet ks ds) else none
  | _, _ => none
def sIx (f g : EvO) : EvE := fun ε => (f ε).bind fun o1 ε => (g ε).bind fun o2 ε => opt (res o1 ε) fun r1 => opt (res o2 ε) fun r2 => opt (ixD r1 r2) fun d => .ok (.fro, d) ε
theorem ix_dict (hu : X.A.units + 1 < cLine) : IxR X (fun x y H Q => ∃ a v, x = .ref a ∧ DGet H a y (some v) ∧ Q v H) := by
  intro value slice pins s σ H x y v u Q I rx ry h hs
  obtain ⟨a, w, rfl, g, q⟩ := h
  cases rx
  have hT := dict_typeIs I g
  have hg : wpAny (model X.prog X.w) X.A (getItem (.ref a) u) (EP X pins σ Q) X.xe s := d_getItem hu I g ry fun w' s' I' r' => ⟨w, H, I', r', q⟩
  unfold subscriptTail
  refine wpAny_bind ?_
  rw [getitemInPython_of_ne hT.not_modules]
  refine wpAny_bind (wpAny_specialOf hT PySem.F.slot_dict_getitem.lookup ?_)
  have fin : wpAny (model X.prog X.w) X.A (subscripted slice false (.ref a) u) (fun r s3 => wpAny (model X.prog X.w) X.A (letTemporaryGo value (.ref a) r >>= fun _ => pure r) (EP X pins σ Q) X.xe s3) X.xe s := by
    rw [hs]
    exact wpAny_operating (thn hg fun r s3 h3 => wpAny_bind (wpAny_letTemporaryGo (wpAny_pure h3)))
  first
    | (exact wpAny_pure (wpAny_bind fin))
    | (exact wpAny_bind (wpAny_pure (wpAny_bind fin)))
    | (exact wpAny_bind fin)
theorem atI_of {α β : Type} {R : α → β → Prop} {xs : List α} {ys : List β} (hl : ys.length = xs.length) (hg : ∀ (j : Nat) (x : α), xs[j]? = some x → ∃ y, ys[j]? = some y ∧ R x y) {i : Int} {x : α} (e : atI xs i = some x) : ∃ (j : Nat) (y : β), xs[j]? = some x ∧ ys[j]? = some y ∧ atI ys i = some y ∧ R x y := by
  unfold atI at e ⊢
  rw [hl]
  cases q : ixN xs.length i with
  | none => rw [q] at e; cases e
  | some j =>
    rw [q] at e
    have e : xs[j]? = some x := e
    obtain ⟨y, h1, h2⟩ := hg j x e
    exact ⟨j, y, e, h1, h1, h2⟩
theorem re_ix (hu : X.A.units + 64 < cLine) (ha : RO X W a f) (hb : RO X W b g) (hs : PlainIx b := by exact fun _ _ => rfl) : RE X W (.Subscript a b pos) (sIx f g) := by
  refine ⟨PE.imp (pe_ix (IxR.or ix_seq (ix_dict (by omega))) ha.run hb.run hs) fun σ H Q ⟨c, T, ε, s, q⟩ => ?_⟩
  refine ⟨c, T, ε, s, pst_mono (fun o1 ε1 q9 v1 H1 s1 => ⟨c, _, ε1, s1, pst_mono (fun o2 ε2 q v2 H2 s2 => ?_) (pst_push (pst_bind q9))⟩) (pst_bind q)⟩
  obtain ⟨r1, e1, q0⟩ := pst_opt q
  clear q
  obtain ⟨r2, e2, q1⟩ := pst_opt q0
  clear q0
  obtain ⟨d, e3, q⟩ := pst_opt q1
  clear q1
  have p2 := s2.readO e2
  have p1 := s2.readO2 e1
  obtain ⟨sh1, d1⟩ := r1
  obtain ⟨sh2, d2⟩ := r2
  unfold ixD at e3
  cases d1 with
  | lst ds =>
    cases d2 with
    | int i =>
      simp only at e3
      split at e3
      · rename_i hf
        obtain ⟨vs, ⟨a0, rfl, t1⟩, s3⟩ := s2.drop.know e1 hf
        have hl := (s3.ok.pinned).length
        obtain ⟨j, y, h1, h2, h3, _⟩ := atI_of (R := fun _ _ => True) hl (fun j x e => by
          obtain ⟨v, h, _⟩ := RepL.get (s3.ok.pinned) e
          exact ⟨v, h, trivial⟩) e3
        exact .inl (.inl ⟨a0, vs, i, y, rfl, p2, t1, h3, q _ _ (Sta.item (T := T) (s3.perm (List.Perm.swap _ _ _)).drop h1 h2)⟩)
      · cases e3
    | _ => cases e3
  | tup ds =>
    cases d2 with
    | int i =>
      simp only at e3
      obtain ⟨a0, vs, rfl, hl, t1, s3⟩ := (s2.drop.tupV e1).pinT
      obtain ⟨j, y, h1, h2, h3, _⟩ := atI_of (R := fun _ _ => True) hl.symm (fun j x e => by
        obtain ⟨v, h, _⟩ := RepL.get (s3.ok.pinned).2 e
        exact ⟨v, h, trivial⟩) e3
      exact .inl (.inr (.inl ⟨a0, vs, i, y, rfl, p2, t1, h3, q _ _ (Sta.item (s3.pinMap fun _ z => z.2) h1 h2)⟩))
    | _ => cases e3
  | str z =>
    cases d2 with
    | int i =>
      simp only at e3
      split at e3
      · rename_i hz
        rw [Option.map_eq_some_iff] at e3
        obtain ⟨ch, e3, rfl⟩ := e3
        exact .inl (.inr (.inr ⟨z, i, ch, p1, p2, hz, e3, q _ _ (s2.drop.drop.lit fun _ => rfl)⟩))
      · cases e3
    | _ => cases e3
  | dic ks ds =>
    have e3' : (if sh1.flat = true then (keyD d2).bind (dGet ks ds) else none) = some d := by
      cases d2 <;> exact e3
    split at e3'
    · rename_i hf
      rw [Option.bind_eq_some_iff] at e3'
      obtain ⟨k, ek, e4⟩ := e3'
      have ex := key_rep ek p2
      obtain ⟨vs, ⟨hk, a0, rfl, t1⟩, s3⟩ := s2.drop.know e1 hf
      have hr := s3.ok.pinned
      have g := dGet_rel (ks := ks) (ds := ds) k hk hr
      rw [e4] at g
      obtain ⟨w, h1, _⟩ := g
      refine .inr ⟨a0, w, rfl, .inl ⟨_, k, t1, ex, h1.symm⟩, q _ _ ?_⟩
      have s4 := (s3.perm (List.Perm.swap _ _ _)).drop
      exact ⟨(s4.ok.pinMap (ψ := fun G => Rep (wd X) G d w) fun G z => by
        have g := dGet_rel (ks := ks) (ds := ds) k hk z
        rw [e4] at g
        obtain ⟨w', h2, h3⟩ := g
        rw [h1] at h2; cases h2
        exact h3).ofPin, s4.fit⟩
    · cases e3'
  | _ => cases d2 <;> cases e3
/-! ### slices -/
abbrev EvP := En → Out (Option Int)
def tPo (M : Wd) (W : WX) (f : EvP) : TO := fun σ H Q => ∃ c T ε, Sta M c T σ H ε ∧ pst M W c T σ (fun o ε => ∀ H, Sta M c T σ H ε → Q o H) (f ε)
structure RP (X : Cx) (W : WX) (e : Option Expr) (f : EvP) : Prop where
  run : PO X e (tPo (wd X) W f)
theorem PO.imp {X : Cx} {e : Option Expr} {t t' : TO} (h : PO X e t) (i : ∀ σ H Q, t' σ H Q → t σ H Q) : PO X e t' := ⟨fun pins s σ H Q I q => h.run pins s σ H Q I (i σ H Q q)⟩
def pNo : EvP := fun ε => .ok none ε
def pSo (f : EvE) : EvP := fun ε => (f ε).bind fun r ε => match r.2 with
  | .int i => .ok (some i) ε
  | _ => .bad
theorem rp_none : RP X W none pNo := ⟨PO.imp po_none fun σ H Q ⟨c, T, ε, s, q⟩ => q H s⟩
theorem rp_some {e : Expr} {h : EvE} (he : RE X W e h) : RP X W (some e) (pSo h) := ⟨PO.imp (po_some he.run) fun σ H Q ⟨c, T, ε, s, q⟩ => ⟨c, T, ε, s, pst_mono (fun r ε q v H s => by
  obtain ⟨sh, d⟩ := r
  cases d with
  | int i => exact ⟨i, s.read, q H s.drop⟩
  | _ => exact q.elim) (pst_bind q)⟩⟩
def cutL {α : Type} (xs : List α) (lo hi : Option Int) : List α := (xs.drop (HT.sIx xs.length 0 lo)).take (HT.sIx xs.length xs.length hi - HT.sIx xs.length 0 lo)
theorem cutL_rep {M : Wd} {G : Hp} {ds : List D} {vs : List V} (lo hi : Option Int) (h : RepL M G ds vs) : RepL M G (cutL ds lo hi) (cutV vs lo hi) := by
  unfold cutL cutV
  rw [h.length]
  exact (h.drop _).take _
def slD (r : Rv) (lo hi : Option Int) : Option Rk := match r.2 with
  | .lst ds => if r.1.flat = true then some (.nl (cutL ds lo hi)) else none
  | .tup ds => some (.tp (cutL ds lo hi))
  | .str z => if z.length ≤ sizeLine then some (.sc (.str (cutS z lo hi))) else none
  | _ => none
def sSl (f : EvO) (l h : EvP) : EvE := fun ε => (f ε).bind fun o ε => (l ε).bind fun lo ε => (h ε).bind fun hi ε => opt (res o ε) fun r => opt (slD r lo hi) fun k => .ok (rkOut k) ε
theorem re_sl {lo hi : Option Expr} {l h : EvP} {p2 : Pos} (ha : RO X W a f) (hl : RP X W lo l) (hh : RP X W hi h) : RE X W (.Subscript a (.Slice lo hi none p2) pos) (sSl f l h) := by
  refine ⟨PE.imp (pe_slice (SlR.or sl_list (SlR.or sl_tupB sl_str)) ha.run hl.run hh.run) fun σ H Q ⟨c, T, ε, s, q⟩ => ?_⟩
  refine ⟨c, T, ε, s, pst_mono (fun o ε1 q v H1 s1 => ⟨c, _, ε1, s1, pst_mono (fun l0 ε2 q H2 s2 => ⟨c, _, ε2, s2, pst_mono (fun h0 ε3 q H3 s3 => ?_) (pst_push (pst_bind q))⟩) (pst_push (pst_bind q))⟩) (pst_bind q)⟩
  obtain ⟨r, e1, q⟩ := pst_opt q
  obtain ⟨k, e2, q⟩ := pst_opt q
  have p1 := s3.readO e1
  obtain ⟨sh, d⟩ := r
  unfold slD at e2
  cases d with
  | lst ds =>
    simp only at e2
    split at e2
    · rename_i hf
      cases e2
      obtain ⟨vs, ⟨a0, rfl, t1⟩, s4⟩ := s3.know e1 hf
      exact .inl ⟨a0, vs, rfl, t1, fun p hp => q _ _ (Sta.newL (((s4.perm (List.Perm.swap _ _ _)).drop).pinMap fun G z => cutL_rep l0 h0 z) hp)⟩
    · cases e2
  | tup ds =>
    cases e2
    have st := s3.tupV e1
    obtain ⟨a0, vs, rfl, hl, t1, s4⟩ := st.pinT
    refine .inr (.inl ⟨a0, vs, rfl, t1, fun e => ?_, fun _ p ob hp hd => q _ _ (Sta.newT hd (s4.pinMap fun G z => cutL_rep l0 h0 z.2) hp)⟩)
    have ec : cutL ds l0 h0 = ds := by
      unfold cutL
      rw [hl, e.1, e.2, List.drop_zero, Nat.sub_zero, ← hl, List.take_length]
    rw [ec] at q
    exact q _ _ st
  | str z =>
    simp only at e2
    split at e2
    · rename_i hz
      cases e2
      exact .inr (.inr ⟨z, p1, hz, q _ _ (s3.drop.lit fun _ => rfl)⟩)
    · cases e2
  | _ => cases e2
end
end R
set_option Elab.async false
set_option linter.all false
set_option autoImplicit false
/-! R11: built-ins, texts, lists; assignments to patterns. -/
namespace R
open PySem PySem.Spec PyProof.Rows L2
def ress : List Opd → En → Option (List Rv)
  | [], _ => some []
  | o :: os, ε => match res o ε, ress os ε with
    | some r, some rs => some (r :: rs)
    | _, _ => none
def aNl : EvA := fun ε => .ok [] ε
def aCn (f : EvO) (g : EvA) : EvA := fun ε => (f ε).bind fun o ε => (g ε).bind fun os ε => .ok (o :: os) ε
abbrev Bi (X : Cx) (F : Value) (p : List D → Option D) : Prop :=
  CallR X F fun xs H Q => ∃ ds d, RepL (wd X) H ds xs ∧ p ds = some d ∧ ∀ v, (∀ G, Rep (wd X) G d v) → Q v H
def sBi (p : List D → Option D) (g : EvA) : EvE := fun ε => (g ε).bind fun os ε => opt (ress os ε) fun rs => opt (p (rs.map (·.2))) fun d => .ok (.fro, d) ε
section
variable {X : Cx} {W : WX} {pos p : Pos} {e : Expr} {es : List Expr} {f : EvO} {g : EvA} {x : Str} {id : String} {q : List D → Option D}
theorem ra_nil : RA X W [] aNl := ⟨PA.imp pa_nil fun σ H Q ⟨c, T, ε, s, q⟩ => q [] H rfl s⟩
theorem ra_cons (h1 : RO X W e f) (h2 : RA X W es g) (hs : starEach (e :: es) X.env = (false, eval e X.env) :: starEach es X.env := by rfl) : RA X W (e :: es) (aCn f g) :=
  ⟨PA.imp (pa_cons h1.run h2.run hs) fun σ H Q ⟨c, T, ε, s, q⟩ => ⟨c, T, ε, s, pst_mono (fun o ε q v H s => ⟨c, _, ε, s, pst_mono (fun os ε q vs H hl s => by
    refine q (v :: vs) H (by rw [List.length_cons, List.length_cons, hl]) (s.perm ?_)
    exact List.perm_middle) (pst_push (pst_bind q))⟩) (pst_bind q)⟩⟩
theorem Sta.reads {M : Wd} {c : Ctx} {σ : St} {H : Hp} {ε : En} : ∀ (os : List Opd) {vs : List V} {rs : List Rv} {T : List Ow}, Sta M c (opws σ os vs ++ T) σ H ε → os.length = vs.length → ress os ε = some rs → RepL M H (rs.map (·.2)) vs
  | [], [], _, _, _, _, e => by cases e; rfl
  | o :: os, v :: vs, rs, T, s, hl, e => by
    simp only [ress] at e
    split at e
    · rename_i r rs' e1 e2
      cases e
      exact ⟨v, vs, rfl, Sta.readO (T := opws σ os vs ++ T) s e1, Sta.reads os (T := T) (Sta.drop (w := opw σ o v) s) (Nat.succ.inj hl) e2⟩
    · cases e
theorem bi_run {M : Wd} {c : Ctx} {T : List Ow} {σ : St} {H : Hp} {ε : En} {Q : VK} (s : Sta M c T σ H ε) (k : postE M W c T σ Q (sBi q g ε)) : tAr M W g σ H (fun xs H => ∃ ds d, RepL M H ds xs ∧ q ds = some d ∧ ∀ v, (∀ G, Rep M G d v) → Q v H) := by
  refine ⟨c, T, ε, s, pst_mono (fun os ε k vs H hl s => ?_) (pst_bind k)⟩
  obtain ⟨rs, e1, k⟩ := pst_opt k
  obtain ⟨d, e2, k⟩ := pst_opt k
  exact ⟨_, d, Sta.reads os s hl e1, e2, fun v hv => k v H (s.drops.lit hv)⟩
theorem re_bi (hc : Bi X (.builtin id) q) (hg : Gl X x) (hm : X.mg x = none) (hv : bootBuiltins x = some (.builtin id)) (ha : RA X W (e :: es) g) (hn : x ≠ "__name__" := by decide) (hdb : (x == ("__debug__" : Str)) = false := by decide)
    (he : starEach (e :: es) X.env = (false, eval e X.env) :: starEach es X.env := by rfl) (hpl : (backTo pos (starEach es X.env)).any (·.1) = false := by rfl) : RE X W (.Call (.Name x p) (e :: es) [] pos) (sBi q g) :=
  ⟨PE.imp (pe_callB hc hg hm hv ha.run hn hdb he hpl) fun σ H Q ⟨c, T, ε, s, k⟩ => bi_run s k⟩
theorem re_bty (hc : Bi X (.type id) q) (hg : Gl X x) (hm : X.mg x = none) (hv : bootBuiltins x = some (.type id)) (ha : RA X W (e :: es) g) (hn : x ≠ "__name__" := by decide) (hdb : (x == ("__debug__" : Str)) = false := by decide)
    (he : starEach (e :: es) X.env = (false, eval e X.env) :: starEach es X.env := by rfl) (hpl : (backTo pos (starEach es X.env)).any (·.1) = false := by rfl) : RE X W (.Call (.Name x p) (e :: es) [] pos) (sBi q g) :=
  ⟨PE.imp (pe_callTy hc hg hm hv ha.run hn hdb he hpl) fun σ H Q ⟨c, T, ε, s, k⟩ => bi_run s k⟩
end
/-! the functions -/
/-- a number's text -/
def numS (i : Int) : Str := Str.ofString (toString i)
structure NumOk (i : Int) : Prop where
  ok : i.natAbs.log2 < 1920
noncomputable instance (i : Int) : Decidable (NumOk i) := Classical.propDecidable _
def pLen : List D → Option D
  | [.str s] => if s.length ≤ sizeLine then some (.int s.length) else none
  | [.lst ds] => some (.int ds.length)
  | [.tup ds] => some (.int ds.length)
  | [.dic ks _] => some (.int ks.length)
  | _ => none
def pAbs : List D → Option D
  | [.int i] => some (.int (if i < 0 then -i else i))
  | _ => none
def pMax2 : List D → Option D
  | [.int i, .int j] => some (.int (if j > i then j else i))
  | _ => none
def pMin2 : List D → Option D
  | [.int i, .int j] => some (.int (if j < i then j else i))
  | _ => none
def pInt : List D → Option D
  | [.int i] => some (.int i)
  | [.str s] => if s.length ≤ 640 then (PySem.intText? s).map .int else none
  | [.bl b] => some (.int (if b = true then 1 else 0))
  | _ => none
noncomputable def pStr : List D → Option D
  | [.int i] => if NumOk i then some (.str (numS i)) else none
  | _ => none
def bls : List D → Option (List Bool)
  | [] => some []
  | .bl b :: ds => (bls ds).map (b :: ·)
  | _ => none
def pAll : List D → Option D
  | [.lst ds] => (bls ds).map fun bs => .bl (bs.all id)
  | _ => none
def pAny : List D → Option D
  | [.lst ds] => (bls ds).map fun bs => .bl (bs.any id)
  | _ => none
section
variable {X : Cx}
theorem CallR.imp {F : Value} {r r' : List V → Hp → VK → Prop} (h : CallR X F r) (i : ∀ xs H Q, r' xs H Q → r xs H Q) : CallR X F r' := fun pins s σ H xs us Q I rx q => h pins s σ H xs us Q I rx (i xs H Q q)
theorem repL1 {M : Wd} {H : Hp} {d : D} {vs : List V} (h : RepL M H [d] vs) : ∃ v, vs = [v] ∧ Rep M H d v := by
  obtain ⟨v, r, rfl, h1, h2⟩ := h
  have e : r = [] := h2
  subst e
  exact ⟨v, rfl, h1⟩
theorem repL2 {M : Wd} {H : Hp} {d e : D} {vs : List V} (h : RepL M H [d, e] vs) : ∃ v w, vs = [v, w] ∧ Rep M H d v ∧ Rep M H e w := by
  obtain ⟨v, r, rfl, h1, h2⟩ := h
  obtain ⟨w, rfl, h3⟩ := repL1 h2
  exact ⟨v, w, rfl, h1, h3⟩
theorem b_len : Bi X (.builtin "len") pLen := by
  intro pins s σ H xs us Q I rx ⟨ds, d, r, e, k⟩
  unfold pLen at e
  split at e
  · split at e
    · rename_i z hz
      cases e
      obtain ⟨v, rfl, r0⟩ := repL1 r
      have r0 : v = .str z := r0
      subst r0
      exact call_len pins s σ H _ us Q I rx ⟨.str z, _, rfl, ⟨hz, rfl⟩, k _ fun _ => rfl⟩
    · cases e
  · cases e
    obtain ⟨v, rfl, a, vs, rfl, hs, hr⟩ := repL1 r
    have hl := hr.length
    exact call_len pins s σ H _ us Q I rx ⟨.ref a, _, rfl, .inl ⟨vs, hs, rfl⟩, k _ fun _ => by rw [hl]; rfl⟩
  · cases e
    obtain ⟨v, rfl, a, vs, rfl, hs, hr⟩ := repL1 r
    have hl := hr.length
    exact call_len pins s σ H _ us Q I rx ⟨.ref a, _, rfl, .inr ⟨vs, hs.sq, rfl⟩, k _ fun _ => by rw [hl]; rfl⟩
  · cases e
    obtain ⟨v, rfl, a, vs, rfl, hl, hd, hr⟩ := repL1 r
    obtain ⟨u, rfl, ru⟩ := vals1 rx
    cases ru
    exact d_len I hd fun t s' I' => ⟨.int _, H, I', ⟨t, rfl⟩, k _ fun _ => by rw [List.length_zip, ← hl, Nat.min_self]; rfl⟩
  · cases e
theorem b_abs : Bi X (.builtin "abs") pAbs := CallR.imp call_abs fun xs H Q ⟨ds, d, r, e, k⟩ => by
  unfold pAbs at e
  split at e
  · cases e
    obtain ⟨v, rfl, r0⟩ := repL1 r
    exact ⟨_, congrArg (fun z => [z]) r0, k _ fun _ => rfl⟩
  · cases e
theorem b_max2 (hc : X.calm = true) : Bi X (.builtin "max") pMax2 := CallR.imp (call_max2 hc) fun xs H Q ⟨ds, d, r, e, k⟩ => by
  unfold pMax2 at e
  split at e
  · cases e
    obtain ⟨v, w, rfl, r1, r2⟩ := repL2 r
    exact ⟨_, _, by rw [show v = _ from r1, show w = _ from r2], k _ fun _ => rfl⟩
  · cases e
theorem b_min2 (hc : X.calm = true) : Bi X (.builtin "min") pMin2 := CallR.imp (call_min2 hc) fun xs H Q ⟨ds, d, r, e, k⟩ => by
  unfold pMin2 at e
  split at e
  · cases e
    obtain ⟨v, w, rfl, r1, r2⟩ := repL2 r
    exact ⟨_, _, by rw [show v = _ from r1, show w = _ from r2], k _ fun _ => rfl⟩
  · cases e
theorem b_int : Bi X (.type "int") pInt := by
  intro pins s σ H xs us Q I rx ⟨ds, d, r, e, k⟩
  unfold pInt at e
  split at e
  · cases e
    obtain ⟨v, rfl, r0⟩ := repL1 r
    exact call_int1 pins s σ H _ us Q I rx (.inl ⟨_, congrArg (fun z => [z]) r0, k _ fun _ => rfl⟩)
  · split at e
    · rename_i z hz
      rw [Option.map_eq_some_iff] at e
      obtain ⟨n, e, rfl⟩ := e
      obtain ⟨v, rfl, r0⟩ := repL1 r
      exact call_int_str pins s σ H _ us Q I rx ⟨z, n, congrArg (fun z => [z]) r0, e, hz, k _ fun _ => rfl⟩
    · cases e
  · cases e
    obtain ⟨v, rfl, r0⟩ := repL1 r
    exact call_int1 pins s σ H _ us Q I rx (.inr ⟨_, congrArg (fun z => [z]) r0, k _ fun _ => rfl⟩)
  · cases e
theorem b_str : Bi X (.type "str") pStr := CallR.imp call_str_int fun xs H Q ⟨ds, d, r, e, k⟩ => by
  unfold pStr at e
  split at e
  · split at e
    · rename_i hz
      cases e
      obtain ⟨v, rfl, r0⟩ := repL1 r
      exact ⟨_, congrArg (fun z => [z]) r0, hz.ok, k _ fun _ => rfl⟩
    · cases e
  · cases e
theorem bls_rep {M : Wd} {H : Hp} : ∀ {ds : List D} {bs : List Bool} {vs : List V}, bls ds = some bs → RepL M H ds vs → vs = bs.map V.bl
  | [], _, _, e, r => by cases e; exact r
  | d :: ds, bs, _, e, ⟨v, r, ev, h1, h2⟩ => by
    subst ev
    cases d <;> simp only [bls, reduceCtorEq, Option.map_eq_some_iff] at e
    obtain ⟨bs', e, rfl⟩ := e
    rw [List.map_cons, ← bls_rep e h2]
    rw [show v = _ from h1]
theorem b_all (hc : X.calm = true) : Bi X (.builtin "all") pAll := CallR.imp (cr_all hc) fun xs H Q ⟨ds, d, r, e, k⟩ => by
  unfold pAll at e
  split at e
  · rw [Option.map_eq_some_iff] at e
    obtain ⟨bs, e, rfl⟩ := e
    obtain ⟨v, rfl, a, vs, rfl, hs, hr⟩ := repL1 r
    have ev := bls_rep e hr
    subst ev
    exact ⟨a, bs, rfl, hs, k _ fun _ => rfl⟩
  · cases e
theorem b_any (hc : X.calm = true) : Bi X (.builtin "any") pAny := CallR.imp (cr_any hc) fun xs H Q ⟨ds, d, r, e, k⟩ => by
  unfold pAny at e
  split at e
  · rw [Option.map_eq_some_iff] at e
    obtain ⟨bs, e, rfl⟩ := e
    obtain ⟨v, rfl, a, vs, rfl, hs, hr⟩ := repL1 r
    have ev := bls_rep e hr
    subst ev
    exact ⟨a, bs, rfl, hs, k _ fun _ => rfl⟩
  · cases e
end
/-! list(x), tuple(x) -/
def keyV : Key → D
  | .inl i => .int i
  | .inr s => .str s
def pList (r : Rv) : Option Rk := match r.2 with
  | .lst ds => if r.1.flat = true then some (.nl ds) else none
  | .tup ds => some (.nl ds)
  | _ => none
def pTuple (r : Rv) : Option Rk := match r.2 with
  | .lst ds => if r.1.flat = true then some (.tp ds) else none
  | .tup ds => some (.tp ds)
  | _ => none
def sK1 (p : Rv → Option Rk) (f : EvO) : EvE := fun ε => (f ε).bind fun o ε => opt (res o ε) fun r => opt (p r) fun k => .ok (rkOut k) ε
section
variable {X : Cx} {W : WX} {pos p : Pos} {e o : Expr} {f : EvO}
theorem re_list (hg : Gl X "list") (hm : X.mg "list" = none) (ha : RO X W e f) (hs : starEach [e] X.env = [(false, eval e X.env)] := by rfl) : RE X W (.Call (.Name "list" p) [e] [] pos) (sK1 pList f) := by
  refine ⟨PE.imp (pe_callTy call_list_of hg hm (by decide +kernel) (pa_one ha.run hs) (by decide) (by decide) (by rw [hs]; rfl) rfl) fun σ H Q ⟨c, T, ε, s, q⟩ => ⟨c, T, ε, s, pst_mono (fun o ε q v H s => ?_) (pst_bind q)⟩⟩
  obtain ⟨r, e1, q0⟩ := pst_opt q
  clear q
  obtain ⟨k, e2, q⟩ := pst_opt q0
  clear q0
  obtain ⟨sh, d⟩ := r
  unfold pList at e2
  cases d with
  | lst ds =>
    simp only at e2
    split at e2
    · rename_i hf
      cases e2
      obtain ⟨vs, ⟨a, rfl, t1⟩, s4⟩ := s.know e1 hf
      exact ⟨a, vs, rfl, .inl t1, fun p hp => q _ _ (Sta.newL (s4.perm (List.Perm.swap _ _ _)).drop hp)⟩
    · cases e2
  | tup ds =>
    cases e2
    obtain ⟨a, vs, rfl, hl, t1, s4⟩ := (s.tupV e1).pinT
    exact ⟨a, vs, rfl, .inr t1, fun p hp => q _ _ (Sta.newL (s4.pinMap fun _ z => z.2) hp)⟩
  | _ => cases e2
theorem re_tuple (hg : Gl X "tuple") (hm : X.mg "tuple" = none) (ha : RO X W e f) (hs : starEach [e] X.env = [(false, eval e X.env)] := by rfl) : RE X W (.Call (.Name "tuple" p) [e] [] pos) (sK1 pTuple f) := by
  refine ⟨PE.imp (pe_callTy call_tupB hg hm (by decide +kernel) (pa_one ha.run hs) (by decide) (by decide) (by rw [hs]; rfl) rfl) fun σ H Q ⟨c, T, ε, s, q⟩ => ⟨c, T, ε, s, pst_mono (fun o ε q v H s => ?_) (pst_bind q)⟩⟩
  obtain ⟨r, e1, q0⟩ := pst_opt q
  clear q
  obtain ⟨k, e2, q⟩ := pst_opt q0
  clear q0
  obtain ⟨sh, d⟩ := r
  unfold pTuple at e2
  cases d with
  | lst ds =>
    simp only at e2
    split at e2
    · rename_i hf
      cases e2
      obtain ⟨vs, ⟨a, rfl, t1⟩, s4⟩ := s.know e1 hf
      exact ⟨a, vs, rfl, .inl ⟨t1, fun p ob hp hd => q _ _ (Sta.newT hd (s4.perm (List.Perm.swap _ _ _)).drop hp)⟩⟩
    · cases e2
  | tup ds =>
    cases e2
    have st := s.tupV e1
    obtain ⟨a, vs, rfl, hl, t1, s4⟩ := st.pinT
    exact ⟨a, vs, rfl, .inr ⟨t1, q _ _ st⟩⟩
  | _ => cases e2
/-! texts -/
noncomputable def eFmt (f : EvE) : EvE := fun ε => (f ε).bind fun r ε => match r.2 with
  | .str y => if y.length ≤ sizeLine then .ok (.fro, .str y) ε else .bad
  | .int i => if NumOk i then .ok (.fro, .str (numS i)) ε else .bad
  | _ => .bad
theorem re_fmt {h : EvE} (he : RE X W e h) : RE X W (.FormattedValue e (-1) none pos) (eFmt h) :=
  ⟨PE.imp (pe_fmt he.run) fun σ H Q ⟨c, T, ε, s, q⟩ => ⟨c, T, ε, s, pst_mono (fun r ε q v H s => by
    obtain ⟨sh, d⟩ := r
    have r1 := s.read
    cases d with
    | str y =>
      simp only at q
      split at q
      · rename_i hz
        exact .inl ⟨y, r1, hz, q _ H (s.drop.lit fun _ => rfl)⟩
      · exact q.elim
    | int i =>
      simp only at q
      split at q
      · rename_i hz
        exact .inr ⟨i, r1, hz.ok, q _ H (s.drop.lit fun _ => rfl)⟩
      · exact q.elim
    | _ => exact q.elim) (pst_bind q)⟩⟩
inductive RJ (X : Cx) (W : WX) : List Expr → List EvE → Prop where
  | nil : RJ X W [] []
  | cons {e : Expr} {f : EvE} {es : List Expr} {fs : List EvE} (h : RE X W e f) (r : RJ X W es fs) : RJ X W (e :: es) (f :: fs)
theorem RJ.pj {es : List Expr} {fs : List EvE} (h : RJ X W es fs) : PJ X es (fs.map (tE (wd X) W)) := by
  induction h with
  | nil => exact .nil
  | cons h _ ih => exact .cons h.run ih
def joinF : List EvE → Str → EvE
  | [], acc => fun ε => .ok (.fro, .str acc) ε
  | f :: fs, acc => fun ε => (f ε).bind fun r ε => match r.2 with
    | .str y => if (acc ++ y).length ≤ sizeLine then joinF fs (acc ++ y) ε else .bad
    | _ => .bad
theorem joinF_run {M : Wd} {c : Ctx} {T : List Ow} {σ : St} : ∀ (fs : List EvE) (acc : Str) {H : Hp} {ε : En} {Q : VK}, Sta M c T σ H ε → postE M W c T σ Q (joinF fs acc ε) → tJs (fs.map (tE M W)) acc σ H fun out H1 => Q (.str out) H1
  | [], acc, H, ε, Q, s, q => q _ H (s.lit fun _ => rfl)
  | f :: fs, acc, H, ε, Q, s, q => by
    refine ⟨c, T, ε, s, pst_mono (fun r ε q v H s => ?_) (pst_bind q)⟩
    obtain ⟨sh, d⟩ := r
    have r1 := s.read
    cases d with
    | str y =>
      simp only at q
      split at q
      · rename_i hz
        exact ⟨y, r1, hz, joinF_run fs (acc ++ y) s.drop q⟩
      · exact q.elim
    | _ => exact q.elim
theorem re_fstr {v1 v2 : Expr} {rest : List Expr} {fs : List EvE} (h : RJ X W (v1 :: v2 :: rest) fs) : RE X W (.JoinedStr (v1 :: v2 :: rest) pos) (joinF fs Str.empty) :=
  ⟨PE.imp (pe_joined h.pj) fun σ H Q ⟨c, T, ε, s, q⟩ => joinF_run fs Str.empty s q⟩
/-- s.split(sep) -/
def strO (o : Opd) (ε : En) : Option Str := (res o ε).bind fun r => match r.2 with
  | .str s => some s
  | _ => none
def sSplit (f g : EvO) : EvE := fun ε => (f ε).bind fun o1 ε => opt (strO o1 ε) fun a => (g ε).bind fun o2 ε => opt (strO o2 ε) fun b =>
  if (b.length == 0) = false ∧ a.length + 2 ≤ sizeLine then .ok (.con .fro, .lst ((Txt.split a b).map .str)) ε else .bad
theorem Sta.strO {M : Wd} {c : Ctx} {T : List Ow} {σ : St} {H : Hp} {ε : En} {o : Opd} {v : V} {z : Str} (s : Sta M c (opw σ o v :: T) σ H ε) (e : strO o ε = some z) : v = .str z := by
  unfold R.strO at e
  rw [Option.bind_eq_some_iff] at e
  obtain ⟨r, e1, e2⟩ := e
  have := s.readO e1
  obtain ⟨sh, d⟩ := r
  cases d <;> simp only [reduceCtorEq, Option.some.injEq] at e2
  subst e2
  exact this
/-- the texts of a list -/
def strsD : List D → Option (List Str)
  | [] => some []
  | .str s :: ds => (strsD ds).map (s :: ·)
  | _ => none
theorem strsD_map : ∀ ys : List Str, strsD (ys.map .str) = some ys
  | [] => rfl
  | y :: ys => by simp only [List.map_cons, strsD, strsD_map ys, Option.map_some]
theorem strsD_eq : ∀ {ds : List D} {ys : List Str}, strsD ds = some ys → ds = ys.map .str
  | [], ys, e => by cases e; rfl
  | d :: ds, ys, e => by
    cases d <;> simp only [strsD, reduceCtorEq, Option.map_eq_some_iff] at e
    obtain ⟨zs, e, rfl⟩ := e
    rw [strsD_eq e]; rfl
theorem repL_strs' {M : Wd} {G : Hp} : ∀ {ys : List Str} {vs : List V}, RepL M G (ys.map .str) vs → vs = ys.map V.str
  | [], _, h => h
  | y :: ys, _, ⟨v, r, e, h1, h2⟩ => by
    subst e
    rw [repL_strs' h2, show v = .str y from h1]; rfl
theorem repL_strs {M : Wd} {G : Hp} : ∀ ys : List Str, RepL M G (ys.map .str) (ys.map V.str)
  | [] => rfl
  | y :: ys => ⟨.str y, _, rfl, rfl, repL_strs ys⟩
/-- sep.join(xs) -/
def sJoin (f g : EvO) : EvE := fun ε => (f ε).bind fun o1 ε => opt (strO o1 ε) fun a => (g ε).bind fun o2 ε => opt (res o2 ε) fun r => opt (match r.2 with
    | .lst ds => if r.1.flat = true then strsD ds else none
    | .tup ds => strsD ds
    | _ => none) fun ys => if (ys.map (·.length)).sum + ys.length * a.length ≤ 16777216 then .ok (.fro, .str (Txt.join a ys)) ε else .bad
end
end R
set_option Elab.async false
set_option linter.all false
set_option autoImplicit false
/-! R12: methods of lists and texts; enumerate, zip; patterns; op=. -/
namespace R
open PySem PySem.Spec PyProof.Rows L2
section
variable {X : Cx} {W : WX} {pos apos p : Pos} {e o : Expr} {f g : EvO} {h : EvE}
/-! ### x.append(e), x a list of one's own -/
def sApp (i : Nat) (f : EvE) : EvE := fun ε0 => match (ε0[i]?).join with
  | some (.con .fro, .lst _) => (f ε0).bind fun r ε => match (ε[i]?).join with
    | some (.con .fro, .lst ds) => if r.1.sol = true ∧ ds.length < sizeLine then .ok (.fro, .non) (ε.set i (some (.con .fro, .lst (ds ++ [r.2])))) else .bad
    | _ => .bad
  | _ => .bad
theorem Sta.ownL {M : Wd} {c : Ctx} {T : List Ow} {σ : St} {H : Hp} {ε : En} {i : Nat} {v : V} {s : Sh} {ds : List D} (st : Sta M c T σ H ε) (h : ε[i]? = some (some (.con s, .lst ds))) (hv : σ[i]? = some (some v)) :
    ∃ a vs, v = .ref a ∧ ds.length = vs.length ∧ H a = some (.lst vs) ∧ Sta M c (.cel a (.lst vs) :: (itc s ds vs ++ T)) σ H (ε.set i none) := by
  have s1 := st.take h hv
  obtain ⟨a, vs, e, hl, ok⟩ := OK.openL (L := T ++ slots σ (ε.set i none)) s1.ok
  exact ⟨a, vs, e, hl, ok.cell, by rw [← List.append_assoc] at ok; exact ⟨ok, s1.fit⟩⟩
theorem re_app {i : Nat} {x : Str} (he : RE X W e h) (hN : X.N[i]? = some x := by rfl) (hv : Vis X.env.scope x := by first | exact Or.inl rfl | exact Or.inr (Or.inl rfl) | exact Or.inr (Or.inr rfl)) (hd : (x == ("__debug__" : Str)) = false := by decide)
    (hcd : (x == ("__classdict__" : Str)) = false := by decide) (hs : starEach [e] X.env = [(false, eval e X.env)] := by rfl) (hline : (apos.endLine == pos.line) = true := by rfl)
    (hbase : attributeBase (.Name x p) "append" X.env (eval (.Name x p) X.env) = eval (.Name x p) X.env := by rfl)
    (hfew : ((backTo pos (starEach [e] X.env)).all (fun x => !x.1) && (backToKw pos (keywordEach [] X.env)).all (fun x => x.1.isSome)
      && decide ([e].length + ([] : List Keyword).length + (if ([] : List Keyword).isEmpty then 0 else 1) < 30)) = true := by rfl) : RE X W (.Call (.Attribute (.Name x p) "append" apos) [e] [] pos) (sApp i h) := by
  refine ⟨PE.imp (pe_bm PySem.F.plainAttrs_list PySem.F.slot_list_append PySem.F.type_list_append mt_append (pv i hN hv hd hcd) (pa_one he.run hs) hbase hfew hline (by rw [hs]; rfl) rfl) fun σ H Q ⟨c, T, ε, s, q⟩ => ?_⟩
  unfold sApp at q
  split at q
  · rename_i ds0 e0
    have e0 := join_some e0
    obtain ⟨v, hv0⟩ := s.fit.has _ _ e0
    obtain ⟨a, vs, rfl, _, ha, _⟩ := s.ownL e0 hv0
    refine ⟨.ref a, hv0, .inl ⟨rfl, vs, .inl (.inl ha)⟩, c, T, ε, s, pst_mono (fun r ε1 q y H1 s1 => ?_) (pst_bind q)⟩
    split at q
    · rename_i ds e1
      have e1 := join_some e1
      split at q
      · rename_i hb
        have s2 := s1.freeze (Sh.sol_solid _ hb.1)
        obtain ⟨b, us, eb, hl, hb1, s3⟩ := s2.ownL e1 hv0
        cases eb
        refine ⟨a, us, y, rfl, rfl, hb1, hl ▸ hb.2, ?_⟩
        have s4 : Sta (wd X) c (.cel a (.lst (us ++ [y])) :: (itc .fro ds us ++ (.val y .fro r.2 :: T))) σ (upd H1 a (.lst (us ++ [y]))) (ε1.set i none) := ⟨s3.ok.upd, s3.fit⟩
        have s5 : Sta (wd X) c (.val (.ref a) (.con .fro) (.lst (ds ++ [r.2])) :: T) σ (upd H1 a (.lst (us ++ [y]))) (ε1.set i none) := by
          refine ⟨OK.closeL (vs := us ++ [y]) (by rw [List.length_append, List.length_append, hl]; rfl) (L := T ++ slots σ (ε1.set i none)) ?_, s4.fit⟩
          have k := s4.ok
          rw [itc_snoc _ _ _ hl]
          simpa [List.append_assoc] using k
        have s6 := Sta.put (r := (.con .fro, .lst (ds ++ [r.2]))) s5 (lt_of_slot e1) hv0
        exact q _ _ (s6.lit fun _ => rfl)
      · exact q.elim
    · exact q.elim
  · exact q.elim
/-! ### texts -/
theorem re_split (ho : RO X W o f) (he : RO X W e g) (hs : starEach [e] X.env = [(false, eval e X.env)] := by rfl) (hbase : attributeBase o "split" X.env (eval o X.env) = eval o X.env := by rfl) (hline : (apos.endLine == pos.line) = true := by rfl) :
    RE X W (.Call (.Attribute o "split" apos) [e] [] pos) (sSplit f g) := by
  refine ⟨PE.imp (pe_split ho.run he.run hs hbase hline) fun σ H Q ⟨c, T, ε, s, q⟩ => ⟨c, T, ε, s, pst_mono (fun o1 ε1 q9 v1 H1 s1 => ?_) (pst_bind q)⟩⟩
  obtain ⟨a, ea, q8⟩ := pst_opt q9
  clear q9
  have hv1 := s1.strO ea
  subst hv1
  refine ⟨⟨a, rfl⟩, c, _, ε1, s1, pst_mono (fun o2 ε2 q7 v2 H2 s2 => ?_) (pst_push (pst_bind q8))⟩
  obtain ⟨b, eb, q6⟩ := pst_opt q7
  clear q7
  have hv2 := s2.strO eb
  subst hv2
  split at q6
  · rename_i hz
    refine ⟨a, b, rfl, rfl, hz.1, hz.2, fun p hp => q6 _ _ (Sta.newL (ds := (Txt.split a b).map .str) ⟨s2.drop.drop.ok.pin fun G => repL_strs _, s2.fit⟩ hp)⟩
  · exact q6.elim
theorem re_join (ho : RO X W o f) (he : RO X W e g) (hs : starEach [e] X.env = [(false, eval e X.env)] := by rfl) (hbase : attributeBase o "join" X.env (eval o X.env) = eval o X.env := by rfl) (hline : (apos.endLine == pos.line) = true := by rfl) :
    RE X W (.Call (.Attribute o "join" apos) [e] [] pos) (sJoin f g) := by
  refine ⟨PE.imp (pe_join ho.run he.run hs hbase hline) fun σ H Q ⟨c, T, ε, s, q⟩ => ⟨c, T, ε, s, pst_mono (fun o1 ε1 q9 v1 H1 s1 => ?_) (pst_bind q)⟩⟩
  obtain ⟨a, ea, q8⟩ := pst_opt q9
  clear q9
  have hv1 := s1.strO ea
  subst hv1
  refine ⟨⟨a, rfl⟩, c, _, ε1, s1, pst_mono (fun o2 ε2 q7 v2 H2 s2 => ?_) (pst_push (pst_bind q8))⟩
  obtain ⟨r, er, q6⟩ := pst_opt q7
  clear q7
  obtain ⟨ys, ey, q5⟩ := pst_opt q6
  clear q6
  split at q5
  · rename_i hz
    obtain ⟨sh, d⟩ := r
    have fin := q5 _ H2 (s2.drop.drop.lit fun _ => rfl)
    cases d with
    | lst ds =>
      simp only at ey
      split at ey
      · rename_i hf
        obtain ⟨vs, ⟨b, rfl, t1⟩, s3⟩ := s2.know er hf
        have ev := s3.ok.pinned
        have ed := strsD_eq ey
        subst ed
        have e2 := repL_strs' ev
        subst e2
        exact ⟨a, b, ys, rfl, rfl, .inl t1, hz, fin⟩
      · cases ey
    | tup ds =>
      simp only at ey
      obtain ⟨b, vs, rfl, hl, t1, s3⟩ := (s2.tupV er).pinT
      have ev := (s3.ok.pinned).2
      have ed := strsD_eq ey
      subst ed
      have e2 := repL_strs' ev
      subst e2
      exact ⟨a, b, ys, rfl, rfl, .inr t1, hz, fin⟩
    | _ => cases ey
  · exact q5.elim
/-! ### patterns -/
def sPat (f : EvE) (g : EvTg) : EvS := fun ε => (f ε).bind fun r ε => opt (g r ε) fun ε => .ok .nx ε
theorem rs_pat {tg : Expr} {y : EvE} {g : EvTg} {ix : List Nat} (he : RE X W e y) (hg : RTg X tg g ix) (hs : swapsWithSole [tg] e pos.line X.env = pure false := by rfl) (hw : swappedStores [tg] e X.env = pure none := by rfl)
    (h1 : (assignEach [tg] X.env).map (·.2) = [assign tg X.env] := by rfl) : RS X W (.Assign [tg] e pos) (sPat y g) :=
  ⟨PS.imp (ps_asg he.run hg.run hs hw h1) fun D σ H ⟨c, T, ε, s, q⟩ => ⟨c, T, ε, s, pst_of_S (pstS_mono (fun r ε q v H s => by
    cases e1 : g r ε with
    | none => rw [e1] at q; exact q.elim
    | some ε' =>
      rw [e1] at q
      exact ⟨c, T, ε, r, s, ε', e1, fun σ' _ s' => q σ' H s'⟩) (pstS_bind q))⟩⟩
/-! ### enumerate, zip over lists -/
def enumD (k : Int) : List D → List D
  | [] => []
  | d :: ds => .pr [.int k, d] :: enumD (k + 1) ds
theorem enumD_length : ∀ (k : Int) (ds : List D), (enumD k ds).length = ds.length
  | _, [] => rfl
  | k, d :: ds => by rw [enumD, List.length_cons, List.length_cons, enumD_length]
theorem enumD_get : ∀ (k : Int) {ds : List D} {i : Nat} {x : D}, (enumD k ds)[i]? = some x → ∃ d, ds[i]? = some d ∧ x = .pr [.int (k + i), d]
  | _, [], i, x, h => by simp [enumD] at h
  | k, d :: ds, 0, x, h => by
    simp [enumD] at h
    exact ⟨d, rfl, by rw [← h]; simp⟩
  | k, d :: ds, i + 1, x, h => by
    rw [enumD, List.getElem?_cons_succ] at h
    obtain ⟨d', h1, h2⟩ := enumD_get (k + 1) h
    refine ⟨d', by simpa using h1, ?_⟩
    rw [h2]
    congr 2
    congr 1
    push_cast
    omega
end
end R
set_option Elab.async false
set_option linter.all false
set_option autoImplicit false
/-! R13: chains of comparisons, negation, constants of the module, op=. -/
namespace R
open PySem PySem.Spec PyProof.Rows L2
/-- a constant of the module -/
def GC (M : Wd) (x : Str) (d : D) : Prop := ∃ v u, M.mg x = some u ∧ RelV v u ∧ ∀ G, Rep M G d v
def eNeg (f : EvE) : EvE := fun ε => (f ε).bind fun r ε => match r.2 with
  | .int i => .ok (.fro, .int (-i)) ε
  | _ => .bad
/-- a op b op' c -/
def sCh2 (p q : D → D → Option D) (f g h : EvO) : EvE := fun ε => (f ε).bind fun o1 ε => (g ε).bind fun o2 ε => opt (res o1 ε) fun r1 => opt (res o2 ε) fun r2 => opt ((p r1.2 r2.2).bind bOf) fun b =>
  if b = true then (h ε).bind fun o3 ε => opt (res o2 ε) fun r2 => opt (res o3 ε) fun r3 => opt (q r2.2 r3.2) fun d => .ok (.fro, d) ε else .ok (.fro, .bl false) ε
/-- a op b op' c op'' d -/
def sCh3 (p q w : D → D → Option D) (f g h k : EvO) : EvE := fun ε => (f ε).bind fun o1 ε => (g ε).bind fun o2 ε => opt (res o1 ε) fun r1 => opt (res o2 ε) fun r2 => opt ((p r1.2 r2.2).bind bOf) fun b =>
  if b = true then (h ε).bind fun o3 ε => opt (res o2 ε) fun r2 => opt (res o3 ε) fun r3 => opt ((q r2.2 r3.2).bind bOf) fun b =>
    if b = true then (k ε).bind fun o4 ε => opt (res o3 ε) fun r3 => opt (res o4 ε) fun r4 => opt (w r3.2 r4.2) fun d => .ok (.fro, d) ε else .ok (.fro, .bl false) ε
  else .ok (.fro, .bl false) ε
section
variable {X : Cx} {W : WX} {pos : Pos} {a b c d e : Expr} {f g h k : EvO} {op op' op'' : CmpOp} {p q w : D → D → Option D}
theorem re_gc {x : Str} {d : D} (hg : Gl X x) (hx : GC (wd X) x d) (hdb : (x == ("__debug__" : Str)) = false := by decide) : RE X W (.Name x pos) (eLit d) := by
  obtain ⟨v, u, hm, r, hd⟩ := hx
  exact re_glob hg hm r hd hdb
theorem re_neg {y : EvE} (he : RE X W e y) : RE X W (.UnaryOp .USub e pos) (eNeg y) :=
  ⟨PE.imp (pe_un un_neg he.run) fun σ H Q ⟨c, T, ε, s, q⟩ => ⟨c, T, ε, s, pst_mono (fun r ε q v H s => by
    obtain ⟨sh, d⟩ := r
    cases d with
    | int i => exact ⟨i, s.read, q _ H (s.drop.lit fun _ => rfl)⟩
    | _ => exact q.elim) (pst_bind q)⟩⟩
abbrev rOp2 (X : Cx) (p : D → D → Option D) : R2 := fun x y H Q => ∃ d1 d2 d, Rep (wd X) H d1 x ∧ Rep (wd X) H d2 y ∧ p d1 d2 = some d ∧ ∀ v, (∀ G, Rep (wd X) G d v) → Q v H
theorem bOf_opt {d1 d2 : D} {b : Bool} (e : (p d1 d2).bind bOf = some b) : p d1 d2 = some (.bl b) := by
  rw [Option.bind_eq_some_iff] at e
  obtain ⟨d, e1, e2⟩ := e
  cases d <;> simp only [bOf, reduceCtorEq, Option.some.injEq] at e2
  subst e2; exact e1
theorem ch2_run {M : Wd} {cx : Ctx} {T : List Ow} {σ : St} {H : Hp} {ε : En} {Q : VK} (hM : M = wd X) (s : Sta M cx T σ H ε) (z : postE M W cx T σ Q (sCh2 p q f g h ε)) : tChain (rOp2 X p) (rOp2 X q) (tO M W f) (tO M W g) (tO M W h) σ H Q := by
  subst hM
  refine ⟨cx, T, ε, s, pst_mono (fun o1 ε1 z v1 H1 s1 => ⟨cx, _, ε1, s1, pst_mono (fun o2 ε2 z v2 H2 s2 => ?_) (pst_push (pst_bind z))⟩) (pst_bind z)⟩
  obtain ⟨r1, e1, z⟩ := pst_opt z
  obtain ⟨r2, e2, z⟩ := pst_opt z
  obtain ⟨b, e3, z⟩ := pst_opt z
  refine ⟨r1.2, r2.2, .bl b, s2.readO2 e1, s2.readO e2, bOf_opt e3, fun v hv => ⟨b, hv H2, ?_⟩⟩
  cases b with
  | false => exact z _ H2 (s2.drop.drop.lit fun _ => rfl)
  | true =>
    refine ⟨cx, _, ε2, s2, pst_mono (fun o3 ε3 z v3 H3 s3 => ?_) (pst_push (pst_push (pst_bind z)))⟩
    obtain ⟨r2', e4, z⟩ := pst_opt z
    obtain ⟨r3, e5, z⟩ := pst_opt z
    obtain ⟨d, e6, z⟩ := pst_opt z
    exact ⟨r2'.2, r3.2, d, s3.readO2 e4, s3.readO e5, e6, fun v hv => z v H3 (s3.drop.drop.drop.lit hv)⟩
theorem re_ch2 (ho : Op2 X (compareOp op) p) (ho' : Op2 X (compareOp op') q) (ha : RO X W a f) (hb : RO X W b g) (hc : RO X W c h) (hm : lastMarks [op, op'] [b, c] = false := by with_unfolding_all rfl) : RE X W (.Compare a [op, op'] [b, c] pos) (sCh2 p q f g h) :=
  ⟨PE.imp (pe_chain ho ho' ha.run hb.run hc.run hm) fun σ H Q ⟨cx, T, ε, s, z⟩ => ch2_run rfl s z⟩
theorem rt_ch2 (ho : Op2 X (compareOp op) p) (ho' : Op2 X (compareOp op') q) (ha : RO X W a f) (hb : RO X W b g) (hc : RO X W c h) (hm : lastMarks [op, op'] [b, c] = false := by with_unfolding_all rfl) : RT X W (.Compare a [op, op'] [b, c] pos) (tOf (sCh2 p q f g h)) :=
  ⟨PT.imp (pt_chain ho ho' ha.run hb.run hc.run hm) fun σ H Q ⟨cx, T, ε, s, z⟩ => ch2_run rfl s (tB_run z)⟩
/-- three comparisons in a row -/
def tCh3 (r r' r'' : R2) (ta tb tc td : TE) : TE := fun σ H Q => ta σ H fun x H1 => tb σ H1 fun y H2 => r x y H2 fun z H3 => ∃ k, z = .bl k ∧
  (if k = true then tc σ H3 fun x3 H4 => r' y x3 H4 fun z H5 => ∃ k, z = .bl k ∧ (if k = true then td σ H5 fun x4 H6 => r'' x3 x4 H6 Q else Q (.bl false) H5) else Q (.bl false) H3)
theorem pt_ch3 {r r' r'' : R2} {ta tb tc td : TE} (ho : OpR X (compareOp op) r) (ho' : OpR X (compareOp op') r') (ho'' : OpR X (compareOp op'') r'') (ha : PE X a ta) (hb : PE X b tb) (hc : PE X c tc) (hd : PE X d td)
    (hm : lastMarks [op, op', op''] [b, c, d] = false := by with_unfolding_all rfl) : PT X (.Compare a [op, op', op''] [b, c, d] pos) (tTest (tCh3 r r' r'' ta tb tc td)) := by
  refine ⟨fun pins s σ H Q I hw => ?_⟩
  refine isTrue_chain (thn (ha.run pins s σ H _ I hw) fun v s1 ⟨x, H1, I1, r1, q1⟩ => test_link (thn (hb.run pins s1 σ H1 _ I1 q1) fun u s2 ⟨y, H2, I2, r2, q2⟩ => thn (ho pins s2 σ H2 x y v u _ I2 r1 r2 q2) fun dv s3 ⟨z3, H3, I3, r3, kb, e3, q3⟩ => ?_)) hm
  subst e3
  cases r3
  refine wpAny_truthy_bool ?_
  cases kb with
  | false =>
    obtain ⟨k', e', q'⟩ := q3
    cases e'
    exact ite_ff ⟨H3, I3, q'⟩
  | true =>
    refine ite_tt (test_link (thn (hc.run pins s3 σ H3 _ I3 q3) fun u4 s4 ⟨y4, H4, I4, r4, q4⟩ => thn (ho' pins s4 σ H4 y y4 u u4 _ I4 r2 r4 q4) fun dv5 s5 ⟨z5, H5, I5, r5, kb5, e5, q5⟩ => ?_))
    subst e5
    cases r5
    refine wpAny_truthy_bool ?_
    cases kb5 with
    | false =>
      obtain ⟨k', e', q'⟩ := q5
      cases e'
      exact ite_ff ⟨H5, I5, q'⟩
    | true =>
      refine ite_tt (test_last (thn (hd.run pins s5 σ H5 _ I5 q5) fun u6 s6 ⟨y6, H6, I6, r6, q6⟩ => thn (ho'' pins s6 σ H6 y4 y6 u4 u6 _ I6 r4 r6 q6) fun dv7 s7 ⟨z7, H7, I7, r7, kb7, e7, q7⟩ => ?_))
      subst e7
      cases r7
      exact wpAny_truthy_bool ⟨H7, I7, q7⟩
theorem pe_ch3 {r r' r'' : R2} {ta tb tc td : TE} (ho : OpR X (compareOp op) r) (ho' : OpR X (compareOp op') r') (ho'' : OpR X (compareOp op'') r'') (ha : PE X a ta) (hb : PE X b tb) (hc : PE X c tc) (hd : PE X d td)
    (hm : lastMarks [op, op', op''] [b, c, d] = false := by with_unfolding_all rfl) : PE X (.Compare a [op, op', op''] [b, c, d] pos) (tCh3 r r' r'' ta tb tc td) := by
  refine ⟨fun pins s σ H Q I hw => ?_⟩
  refine Compare_chain (thn (ha.run pins s σ H _ I hw) fun v s1 ⟨x, H1, I1, r1, q1⟩ => chain_link (thn (hb.run pins s1 σ H1 _ I1 q1) fun u s2 ⟨y, H2, I2, r2, q2⟩ => thn (ho pins s2 σ H2 x y v u _ I2 r1 r2 q2) fun dv s3 ⟨z3, H3, I3, r3, kb, e3, q3⟩ => ?_)) hm
  subst e3
  cases r3
  refine wpAny_truthy_bool ?_
  cases kb with
  | false => exact ite_ff ⟨.bl false, H3, I3, rfl, q3⟩
  | true =>
    refine ite_tt (chain_link (thn (hc.run pins s3 σ H3 _ I3 q3) fun u4 s4 ⟨y4, H4, I4, r4, q4⟩ => thn (ho' pins s4 σ H4 y y4 u u4 _ I4 r2 r4 q4) fun dv5 s5 ⟨z5, H5, I5, r5, kb5, e5, q5⟩ => ?_))
    subst e5
    cases r5
    refine wpAny_truthy_bool ?_
    cases kb5 with
    | false => exact ite_ff ⟨.bl false, H5, I5, rfl, q5⟩
    | true => exact ite_tt (chain_last (thn (hd.run pins s5 σ H5 _ I5 q5) fun u6 s6 ⟨y6, H6, I6, r6, q6⟩ => ho'' pins s6 σ H6 y4 y6 u4 u6 Q I6 r4 r6 q6))
theorem ch3_run {M : Wd} {cx : Ctx} {T : List Ow} {σ : St} {H : Hp} {ε : En} {Q : VK} (hM : M = wd X) (s : Sta M cx T σ H ε) (z : postE M W cx T σ Q (sCh3 p q w f g h k ε)) :
    tCh3 (rOp2 X p) (rOp2 X q) (rOp2 X w) (tO M W f) (tO M W g) (tO M W h) (tO M W k) σ H Q := by
  subst hM
  refine ⟨cx, T, ε, s, pst_mono (fun o1 ε1 z v1 H1 s1 => ⟨cx, _, ε1, s1, pst_mono (fun o2 ε2 z v2 H2 s2 => ?_) (pst_push (pst_bind z))⟩) (pst_bind z)⟩
  obtain ⟨r1, e1, z⟩ := pst_opt z
  obtain ⟨r2, e2, z⟩ := pst_opt z
  obtain ⟨b, e3, z⟩ := pst_opt z
  refine ⟨r1.2, r2.2, .bl b, s2.readO2 e1, s2.readO e2, bOf_opt e3, fun v hv => ⟨b, hv H2, ?_⟩⟩
  cases b with
  | false => exact z _ H2 (s2.drop.drop.lit fun _ => rfl)
  | true =>
    refine ⟨cx, _, ε2, s2, pst_mono (fun o3 ε3 z v3 H3 s3 => ?_) (pst_push (pst_push (pst_bind z)))⟩
    obtain ⟨r2', e4, z⟩ := pst_opt z
    obtain ⟨r3, e5, z⟩ := pst_opt z
    obtain ⟨b', e6, z⟩ := pst_opt z
    refine ⟨r2'.2, r3.2, .bl b', s3.readO2 e4, s3.readO e5, bOf_opt e6, fun v hv => ⟨b', hv H3, ?_⟩⟩
    cases b' with
    | false => exact z _ H3 (s3.drop.drop.drop.lit fun _ => rfl)
    | true =>
      refine ⟨cx, _, ε3, s3, pst_mono (fun o4 ε4 z v4 H4 s4 => ?_) (pst_push (pst_push (pst_push (pst_bind z))))⟩
      obtain ⟨r3', e7, z⟩ := pst_opt z
      obtain ⟨r4, e8, z⟩ := pst_opt z
      obtain ⟨d, e9, z⟩ := pst_opt z
      exact ⟨r3'.2, r4.2, d, s4.readO2 e7, s4.readO e8, e9, fun v hv => z v H4 (s4.drop.drop.drop.drop.lit hv)⟩
theorem rt_ch3 (ho : Op2 X (compareOp op) p) (ho' : Op2 X (compareOp op') q) (ho'' : Op2 X (compareOp op'') w) (ha : RO X W a f) (hb : RO X W b g) (hc : RO X W c h) (hd : RO X W d k)
    (hm : lastMarks [op, op', op''] [b, c, d] = false := by with_unfolding_all rfl) : RT X W (.Compare a [op, op', op''] [b, c, d] pos) (tOf (sCh3 p q w f g h k)) :=
  ⟨PT.imp (pt_ch3 ho ho' ho'' ha.run hb.run hc.run hd.run hm) fun σ H Q ⟨cx, T, ε, s, z⟩ => ch3_run rfl s (tB_run z)⟩
theorem re_ch3 (ho : Op2 X (compareOp op) p) (ho' : Op2 X (compareOp op') q) (ho'' : Op2 X (compareOp op'') w) (ha : RO X W a f) (hb : RO X W b g) (hc : RO X W c h) (hd : RO X W d k)
    (hm : lastMarks [op, op', op''] [b, c, d] = false := by with_unfolding_all rfl) : RE X W (.Compare a [op, op', op''] [b, c, d] pos) (sCh3 p q w f g h k) :=
  ⟨PE.imp (pe_ch3 ho ho' ho'' ha.run hb.run hc.run hd.run hm) fun σ H Q ⟨cx, T, ε, s, z⟩ => ch3_run rfl s z⟩
end
end R
set_option Elab.async false
set_option linter.all false
set_option autoImplicit false
/-! R14: what is never reached; places within one's own data (lvalues); enumerate from any number. -/
namespace R
open PySem PySem.Spec PyProof.Rows L2
section
variable {X : Cx} {W : WX}
theorem rs_never (st : Stmt) : RS X W st (fun _ => .bad) := ⟨⟨fun pins s σ H D I h => by obtain ⟨c, T, ε, st, q⟩ := h; exact q.elim⟩⟩
theorem re_never (e : Expr) : RE X W e (fun _ => .bad) := ⟨⟨fun pins s σ H D I h => by obtain ⟨c, T, ε, st, q⟩ := h; exact q.elim⟩⟩
theorem rt_never (e : Expr) : RT X W e (fun _ => .bad) := ⟨⟨fun pins s σ H D I h => by obtain ⟨c, T, ε, st, q⟩ := h; exact q.elim⟩⟩
end
/-! ### shapes compared -/
mutual
def Sh.eqb : Sh → Sh → Bool
  | .fro, .fro => true
  | .lnt, .lnt => true
  | .con s, .con t => Sh.eqb s t
  | .obj ss, .obj ts => Sh.eqbs ss ts
  | _, _ => false
def Sh.eqbs : List Sh → List Sh → Bool
  | [], [] => true
  | s :: ss, t :: ts => Sh.eqb s t && Sh.eqbs ss ts
  | _, _ => false
end
mutual
theorem Sh.eqb_eq : ∀ {s t : Sh}, Sh.eqb s t = true → s = t
  | .fro, .fro, _ => rfl
  | .lnt, .lnt, _ => rfl
  | .con s, .con t, h => by simp only [Sh.eqb] at h; rw [Sh.eqb_eq h]
  | .obj ss, .obj ts, h => by simp only [Sh.eqb] at h; rw [Sh.eqbs_eq h]
  | .fro, .lnt, h => by simp [Sh.eqb] at h
  | .fro, .con _, h => by simp [Sh.eqb] at h
  | .fro, .obj _, h => by simp [Sh.eqb] at h
  | .lnt, .fro, h => by simp [Sh.eqb] at h
  | .lnt, .con _, h => by simp [Sh.eqb] at h
  | .lnt, .obj _, h => by simp [Sh.eqb] at h
  | .con _, .fro, h => by simp [Sh.eqb] at h
  | .con _, .lnt, h => by simp [Sh.eqb] at h
  | .con _, .obj _, h => by simp [Sh.eqb] at h
  | .obj _, .fro, h => by simp [Sh.eqb] at h
  | .obj _, .lnt, h => by simp [Sh.eqb] at h
  | .obj _, .con _, h => by simp [Sh.eqb] at h
  | .fro, .slf _ _, h => by simp [Sh.eqb] at h
  | .lnt, .slf _ _, h => by simp [Sh.eqb] at h
  | .con _, .slf _ _, h => by simp [Sh.eqb] at h
  | .obj _, .slf _ _, h => by simp [Sh.eqb] at h
  | .slf _ _, .slf _ _, h => by simp [Sh.eqb] at h
  | .slf _ _, .fro, h => by simp [Sh.eqb] at h
  | .slf _ _, .lnt, h => by simp [Sh.eqb] at h
  | .slf _ _, .con _, h => by simp [Sh.eqb] at h
  | .slf _ _, .obj _, h => by simp [Sh.eqb] at h
theorem Sh.eqbs_eq : ∀ {s t : List Sh}, Sh.eqbs s t = true → s = t
  | [], [], _ => rfl
  | s :: ss, t :: ts, h => by
    simp only [Sh.eqbs, Bool.and_eq_true] at h
    rw [Sh.eqb_eq h.1, Sh.eqbs_eq h.2]
  | [], _ :: _, h => by simp [Sh.eqbs] at h
  | _ :: _, [], h => by simp [Sh.eqbs] at h
end
/-- what a new item's shape comes to; own: it stays one's own; emp: there is no other item -/
def stow (own : Bool) (s : Sh) (emp : Bool) (r : Rv) : Option Sh :=
  if own = true then (if r.1.eqb s = true ∨ emp = true then some r.1 else none)
  else if r.1.sol = true ∧ (s.eqb .fro = true ∨ emp = true) then some .fro else none
theorem Sta.stow {M : Wd} {c : Ctx} {T : List Ow} {σ : St} {H : Hp} {ε : En} {own emp : Bool} {s s' : Sh} {r : Rv} {v : V} (st : Sta M c (.val v r.1 r.2 :: T) σ H ε) (e : stow own s emp r = some s') : Sta M c (.val v s' r.2 :: T) σ H ε ∧ (s' = s ∨ emp = true) := by
  unfold R.stow at e
  split at e
  · split at e
    · rename_i h
      cases e
      exact ⟨st, h.imp Sh.eqb_eq id⟩
    · cases e
  · split at e
    · rename_i h
      cases e
      exact ⟨st.freeze (Sh.sol_solid _ h.1), h.2.imp (fun z => (Sh.eqb_eq z).symm) id⟩
    · cases e

/-! ### places -/
structure Lv where
  i : Nat
  /-- the slot's shape -/
  s0 : Sh
  s : Sh
  d : D
  /-- the slot's data, with other data at the place -/
  rb : D → D
  /-- the place is the slot itself -/
  top : Bool
abbrev EvL := En → Out Lv
structure Opened (M : Wd) (σ : St) (l : Lv) (v : V) (Fl : List Ow) : Prop where
  get : ∃ v0, σ[l.i]? = some (some v0) ∧ (l.top = true → v = v0 ∧ Fl = []) ∧ ∀ c L H d, OK M c H (.val v l.s d :: (Fl ++ L)) → OK M c H (.val v0 l.s0 (l.rb d) :: L)
def tL (M : Wd) (W : WX) (f : EvL) : TE := fun σ H Q => ∃ c T ε, Sta M c T σ H ε ∧ pst M W c T σ (fun l ε => ∀ v Fl H, Opened M σ l v Fl → Sta M c (.val v l.s l.d :: (Fl ++ T)) σ H ε → Q v H) (f ε)
structure RL (X : Cx) (W : WX) (e : Expr) (f : EvL) : Prop where
  run : PE X e (tL (wd X) W f)
def lVar (i : Nat) : EvL := fun ε => match (ε[i]?).join with
  | some r => .ok ⟨i, r.1, r.1, r.2, id, true⟩ (ε.set i none)
  | none => .bad
/-- back into its slot, of the shape s at the place -/
def lBack {α : Type} (l : Lv) (s : Sh) (d : D) (ε : En) (k : En → Out α) : Out α := if (ε[l.i]?).join.isNone = true ∧ l.i < ε.length then
    (if l.top = true then k (ε.set l.i (some (s, d))) else if s.eqb l.s = true then k (ε.set l.i (some (l.s0, l.rb d))) else .bad) else .bad
theorem lBack_run {M : Wd} {W : WX} {c : Ctx} {T Fl : List Ow} {σ : St} {H : Hp} {ε : En} {α : Type} {P : α → En → Prop} {l : Lv} {v : V} {sh : Sh} {d : D} {k : En → Out α} (o : Opened M σ l v Fl) (s : Sta M c (.val v sh d :: (Fl ++ T)) σ H ε)
    (q : pst M W c T σ P (lBack l sh d ε k)) : ∃ ε', Sta M c T σ H ε' ∧ pst M W c T σ P (k ε') := by
  unfold lBack at q
  split at q
  · rename_i h
    obtain ⟨v0, e0, tp, back⟩ := o.get
    have z : ε.set l.i none = ε := set_none_of (by simpa using h.1)
    split at q
    · rename_i ht
      obtain ⟨rfl, rfl⟩ := tp ht
      have s1 : Sta M c (.val v sh d :: T) σ H (ε.set l.i none) := by rw [z]; exact s
      exact ⟨_, Sta.put (r := (sh, d)) s1 h.2 e0, q⟩
    · split at q
      · rename_i hs
        have hs := Sh.eqb_eq hs
        subst hs
        have s1 : Sta M c (.val v0 l.s0 (l.rb d) :: T) σ H (ε.set l.i none) := by
          rw [z]
          exact ⟨back _ (T ++ slots σ ε) _ _ (by have := s.ok; rw [List.cons_append, List.append_assoc] at this; exact this), s.fit⟩
        exact ⟨_, Sta.put (r := (l.s0, l.rb d)) s1 h.2 e0, q⟩
      · exact q.elim
  · exact q.elim
theorem rl_var {X : Cx} {W : WX} {pos : Pos} (i : Nat) {x : Str} (hN : X.N[i]? = some x := by rfl) (hv : Vis X.env.scope x := by first | exact Or.inl rfl | exact Or.inr (Or.inl rfl) | exact Or.inr (Or.inr rfl)) (hd : (x == ("__debug__" : Str)) = false := by decide)
    (hcd : (x == ("__classdict__" : Str)) = false := by decide) : RL X W (.Name x pos) (lVar i) :=
  ⟨PE.imp (pv i hN hv hd hcd) fun σ H Q ⟨c, T, ε, s, p⟩ => by
    unfold lVar at p
    split at p
    · rename_i r e
      have e := join_some e
      obtain ⟨v, hv⟩ := s.fit.has _ _ e
      exact ⟨v, hv, p v [] H ⟨v, hv, fun _ => ⟨rfl, rfl⟩, fun c L H d h => h⟩ (s.take e hv)⟩
    · exact p.elim⟩
theorem itc_split (s : Sh) : ∀ {ds : List D} {vs : List V} {j : Nat} {d : D}, ds.length = vs.length → ds[j]? = some d → ∃ v rest, vs[j]? = some v ∧ ∀ d', (itc s (ds.set j d') vs).Perm (.val v s d' :: rest)
  | [], _, _, _, _, h => by simp at h
  | x :: ds, y :: vs, 0, d, hl, h => ⟨y, itc s ds vs, rfl, fun d' => .refl _⟩
  | x :: ds, y :: vs, j + 1, d, hl, h => by
    obtain ⟨v, rest, h1, h2⟩ := itc_split s (ds := ds) (vs := vs) (j := j) (d := d) (Nat.succ.inj hl) (by simpa using h)
    exact ⟨v, .val y s x :: rest, by simpa using h1, fun d' => ((h2 d').cons _).trans (.swap _ _ _)⟩
  | _ :: _, [], _, _, hl, _ => by cases hl
theorem set_get_same {α : Type} {ds : List α} {j : Nat} {d : α} (h : ds[j]? = some d) : ds.set j d = ds := by
  apply List.ext_getElem?
  intro i
  by_cases hj : j = i
  · subst hj; rw [List.getElem?_set_self (List.getElem?_eq_some_iff.mp h).1, h]
  · rw [List.getElem?_set_ne hj]
/-- the place of an index or a key -/
def kPos (ks : List Key) (k : Key) : Option Nat := ks.findIdx? fun x => decide (x = k)
/-- within: an item of a list or a dict -/
def lSub (l : Lv) (d : D) : Option Lv := match l.s, l.d with
  | .con s, .lst ds => match d with
    | .int i => (ixN ds.length i).bind fun j => (ds[j]?).map fun x => ⟨l.i, l.s0, s, x, fun y => l.rb (.lst (ds.set j y)), false⟩
    | _ => none
  | .con s, .dic ks ds => (keyD d).bind fun k => (kPos ks k).bind fun j => (ds[j]?).map fun x => ⟨l.i, l.s0, s, x, fun y => l.rb (.dic ks (ds.set j y)), false⟩
  | _, _ => none
def lIx (f : EvL) (g : EvO) : EvL := fun ε => (f ε).bind fun l ε => (g ε).bind fun o ε => opt (res o ε) fun r => opt (lSub l r.2) fun l => .ok l ε
end R
set_option Elab.async false
set_option linter.all false
set_option autoImplicit false
/-! R15: places: an item of a place; its value; append, stores. -/
namespace R
open PySem PySem.Spec PyProof.Rows L2
theorem kPos_get {ds : List V} : ∀ {ks : List Key} {k : Key} {j : Nat} {ds : List V} {v : V}, kPos ks k = some j → ds[j]? = some v → ks.length = ds.length → valV (ks.zip ds) k = some v
  | [], k, j, ds, v, h, _, _ => by simp [kPos] at h
  | x :: ks, k, j, d :: ds, v, h, hv, hl => by
    unfold kPos at h
    rw [List.findIdx?_cons] at h
    rw [List.zip_cons_cons]
    split at h
    · rename_i hx
      have hx := of_decide_eq_true hx
      cases h
      have hv : d = v := by simpa using hv
      subst hv
      exact valV_pos (p := (x, d)) hx
    · rename_i hx
      have hx : ¬ x = k := by simpa using hx
      rw [valV_neg (p := (x, d)) hx]
      rw [Option.map_eq_some_iff] at h
      obtain ⟨i, h1, rfl⟩ := h
      exact kPos_get (ds := ds) (ks := ks) (k := k) (j := i) h1 (by simpa using hv) (Nat.succ.inj hl)
  | _ :: _, _, _, [], _, _, hv, _ => by simp at hv
/-- one step within -/
theorem lSub_run {M : Wd} {c : Ctx} {T Fl : List Ow} {σ : St} {H : Hp} {ε : En} {l l' : Lv} {v : V} {d : D} (o : Opened M σ l v Fl) (s : Sta M c (.val v l.s l.d :: (Fl ++ T)) σ H ε) (e : lSub l d = some l') :
    ∃ a w Fl', v = .ref a ∧ Opened M σ l' w Fl' ∧ Sta M c (.val w l'.s l'.d :: (Fl' ++ T)) σ H ε ∧
      ((∃ xs i, SqL M.K H a xs ∧ d = .int i ∧ atI xs i = some w) ∨ ∃ k, keyD d = some k ∧ DGet H a (kV k) (some w)) := by
  obtain ⟨v0, e0, tp, back⟩ := o.get
  obtain ⟨li, s0, ls, ld, rb, top⟩ := l
  unfold lSub at e
  simp only at e s back tp
  split at e
  · rename_i s1 ds
    split at e
    · rename_i i
      rw [Option.bind_eq_some_iff] at e
      obtain ⟨j, ej, e⟩ := e
      rw [Option.map_eq_some_iff] at e
      obtain ⟨x, ex, rfl⟩ := e
      obtain ⟨a, vs, rfl, hl, ok⟩ := OK.openL (L := (Fl ++ T) ++ slots σ ε) s.ok
      obtain ⟨w, rest, ew, hp⟩ := itc_split s1 hl ex
      refine ⟨a, w, .cel a (.lst vs) :: (rest ++ Fl), rfl, ⟨v0, e0, fun z => (by cases z), fun c L H y h => ?_⟩, ⟨?_, s.fit⟩, .inl ⟨vs, i, .inl (.inl ok.cell), rfl, ?_⟩⟩
      · refine back c L H _ (OK.closeL (vs := vs) (by rw [List.length_set]; exact hl) (h.perm ?_))
        show (Ow.val w s1 y :: Ow.cel a (.lst vs) :: ((rest ++ Fl) ++ L)).Perm _
        refine (List.Perm.swap _ _ _).trans (.cons _ ?_)
        rw [List.append_assoc]
        exact (List.Perm.append_right (Fl ++ L) (hp y)).symm
      · refine ok.perm ?_
        show (Ow.cel a (.lst vs) :: (itc s1 ds vs ++ ((Fl ++ T) ++ slots σ ε))).Perm (Ow.val w s1 x :: Ow.cel a (.lst vs) :: ((((rest ++ Fl) ++ T)) ++ slots σ ε))
        refine List.Perm.trans (.cons _ ?_) (List.Perm.swap _ _ _)
        have q := hp x
        rw [set_get_same ex] at q
        rw [List.append_assoc, List.append_assoc, List.append_assoc, ← List.append_assoc Fl]
        exact (List.Perm.append_right (Fl ++ T ++ slots σ ε) q)
      · unfold atI
        rw [← hl, ej]
        exact ew
    · cases e
  · rename_i s1 ks ds
    rw [Option.bind_eq_some_iff] at e
    obtain ⟨k, ek, e⟩ := e
    rw [Option.bind_eq_some_iff] at e
    obtain ⟨j, ej, e⟩ := e
    rw [Option.map_eq_some_iff] at e
    obtain ⟨x, ex, rfl⟩ := e
    obtain ⟨a, vs, rfl, hk, hl, ok⟩ := OK.openD (L := (Fl ++ T) ++ slots σ ε) s.ok
    obtain ⟨w, rest, ew, hp⟩ := itc_split s1 hl ex
    refine ⟨a, w, .cel a (.dK (ks.zip vs)) :: (rest ++ Fl), rfl, ⟨v0, e0, fun z => (by cases z), fun c L H y h => ?_⟩, ⟨?_, s.fit⟩, .inr ⟨k, ek, .inl ⟨_, k, .inl ok.cell, rfl, (kPos_get (ds := vs) ej ew hk).symm⟩⟩⟩
    · refine back c L H _ (OK.closeD (vs := vs) hk (by rw [List.length_set]; exact hl) (h.perm ?_))
      show (Ow.val w s1 y :: Ow.cel a (.dK (ks.zip vs)) :: ((rest ++ Fl) ++ L)).Perm _
      refine (List.Perm.swap _ _ _).trans (.cons _ ?_)
      rw [List.append_assoc]
      exact (List.Perm.append_right (Fl ++ L) (hp y)).symm
    · refine ok.perm ?_
      show (Ow.cel a (.dK (ks.zip vs)) :: (itc s1 ds vs ++ ((Fl ++ T) ++ slots σ ε))).Perm (Ow.val w s1 x :: Ow.cel a (.dK (ks.zip vs)) :: ((((rest ++ Fl) ++ T)) ++ slots σ ε))
      refine List.Perm.trans (.cons _ ?_) (List.Perm.swap _ _ _)
      have q := hp x
      rw [set_get_same ex] at q
      rw [List.append_assoc, List.append_assoc, List.append_assoc, ← List.append_assoc Fl]
      exact (List.Perm.append_right (Fl ++ T ++ slots σ ε) q)
  · cases e
section
variable {X : Cx} {W : WX} {pos apos p : Pos} {a b e : Expr} {f : EvL} {g : EvO} {h : EvE}
theorem rl_ix (hu : X.A.units + 64 < cLine) (ha : RL X W a f) (hb : RO X W b g) (hs : PlainIx b := by exact fun _ _ => rfl) : RL X W (.Subscript a b pos) (lIx f g) := by
  refine ⟨PE.imp (pe_ix (IxR.or ix_seq (ix_dict (by omega))) ha.run hb.run hs) fun σ H Q ⟨c, T, ε, s, q⟩ => ?_⟩
  refine ⟨c, T, ε, s, pst_mono (fun l ε1 q9 v Fl H1 o s1 => ⟨c, _, ε1, s1, pst_mono (fun o2 ε2 q v2 H2 s2 => ?_) (pst_push (pst_pushes (pst_bind q9)))⟩) (pst_bind q)⟩
  obtain ⟨r, er, q0⟩ := pst_opt q
  clear q
  obtain ⟨l', el, q1⟩ := pst_opt q0
  have rv := s2.readO er
  obtain ⟨b1, w, Fl', rfl, o', s3, z⟩ := lSub_run o s2.drop el
  have fin := q1 w Fl' H2 o' s3
  rcases z with ⟨xs, i, z1, z2, z3⟩ | ⟨k, z1, z2⟩
  · rw [z2] at rv
    exact .inl (.inl ⟨b1, xs, i, w, rfl, rv, z1, z3, fin⟩)
  · exact .inr ⟨b1, w, rfl, by rw [key_rep z1 rv]; exact z2, fin⟩
/-- the value at a place, frozen -/
def sPeek (f : EvL) : EvE := fun ε => (f ε).bind fun l ε => if l.s.eqb .fro = true then lBack l l.s l.d ε fun ε => .ok (.fro, l.d) ε else .bad
theorem re_peek (ha : RL X W a f) : RE X W a (sPeek f) :=
  ⟨PE.imp ha.run fun σ H Q ⟨c, T, ε, s, q⟩ => ⟨c, T, ε, s, pst_mono (fun l ε1 q v Fl H1 o s1 => by
    split at q
    · rename_i hf
      have hf := Sh.eqb_eq hf
      have s2 : Sta (wd X) c (.val v l.s l.d :: (Fl ++ (.val v .fro l.d :: T))) σ H1 ε1 := by
        have s3 : Sta (wd X) c (.val v .fro l.d :: (Fl ++ T)) σ H1 ε1 := by rw [← hf]; exact s1
        rw [hf]
        exact s3.dup.perm (.cons _ List.perm_middle.symm)
      obtain ⟨ε2, s4, q⟩ := lBack_run (T := .val v .fro l.d :: T) o s2 (pst_push q)
      exact q v H1 s4
    · exact q.elim) (pst_bind q)⟩⟩
/-- place.append(item) -/
def sLapp (own : Bool) (f : EvL) (h : EvE) : EvE := fun ε => (f ε).bind fun l ε => match l.s, l.d with
  | .con s, .lst ds => (h ε).bind fun r ε => opt (stow own s ds.isEmpty r) fun s' => if ds.length < sizeLine then lBack l (.con s') (.lst (ds ++ [r.2])) ε fun ε => .ok (.fro, .non) ε else .bad
  | _, _ => .bad
theorem re_lapp (own : Bool) (ho : RL X W a f) (he : RE X W e h) (hs : starEach [e] X.env = [(false, eval e X.env)] := by rfl) (hline : (apos.endLine == pos.line) = true := by rfl)
    (hbase : attributeBase a "append" X.env (eval a X.env) = eval a X.env := by rfl)
    (hfew : ((backTo pos (starEach [e] X.env)).all (fun x => !x.1) && (backToKw pos (keywordEach [] X.env)).all (fun x => x.1.isSome)
      && decide ([e].length + ([] : List Keyword).length + (if ([] : List Keyword).isEmpty then 0 else 1) < 30)) = true := by rfl) : RE X W (.Call (.Attribute a "append" apos) [e] [] pos) (sLapp own f h) := by
  refine ⟨PE.imp (pe_bm PySem.F.plainAttrs_list PySem.F.slot_list_append PySem.F.type_list_append mt_append ho.run (pa_one he.run hs) hbase hfew hline (by rw [hs]; rfl) rfl) fun σ H Q ⟨c, T, ε, s, q⟩ => ⟨c, T, ε, s, pst_mono (fun l ε1 q9 v Fl H1 o s1 => ?_) (pst_bind q)⟩⟩
  split at q9
  · rename_i s0 ds es ed
    rw [es, ed] at s1
    obtain ⟨a1, vs, rfl, hl, ok⟩ := OK.openL (L := (Fl ++ T) ++ slots σ ε1) s1.ok
    refine ⟨.inl ⟨rfl, vs, .inl (.inl ok.cell)⟩, c, _, ε1, s1, pst_mono (fun r ε2 q8 y H2 s2 => ?_) (pst_push (pst_pushes (pst_bind q9)))⟩
    obtain ⟨s', e1, q7⟩ := pst_opt q8
    split at q7
    · rename_i hb
      obtain ⟨s3, hsh⟩ := s2.stow e1
      have s4 : Sta (wd X) c (.val (.ref a1) (.con s0) (.lst ds) :: (.val y s' r.2 :: (Fl ++ T))) σ H2 ε2 := s3.perm (List.Perm.swap _ _ _)
      obtain ⟨b1, us, eb, hl2, ok2⟩ := OK.openL (L := (.val y s' r.2 :: (Fl ++ T)) ++ slots σ ε2) s4.ok
      cases eb
      refine ⟨a1, us, y, rfl, rfl, ok2.cell, hl2 ▸ hb, ?_⟩
      have s5 : Sta (wd X) c (.val (.ref a1) (.con s') (.lst (ds ++ [r.2])) :: (Fl ++ T)) σ (upd H2 a1 (.lst (us ++ [y]))) ε2 := by
        refine ⟨OK.closeL (vs := us ++ [y]) (by rw [List.length_append, List.length_append, hl2]; rfl) (L := (Fl ++ T) ++ slots σ ε2) ?_, s4.fit⟩
        have k : OK (wd X) c (upd H2 a1 (.lst (us ++ [y]))) (.cel a1 (.lst (us ++ [y])) :: (itc s0 ds us ++ ((.val y s' r.2 :: (Fl ++ T)) ++ slots σ ε2))) := ok2.upd
        have es' : itc s0 ds us = itc s' ds us := by
          rcases hsh with z | z
          · rw [z]
          · cases ds with
            | nil => rfl
            | cons _ _ => cases z
        rw [es'] at k
        rw [itc_snoc _ _ _ hl2]
        simpa [List.append_assoc] using k
      obtain ⟨ε3, s6, q6⟩ := lBack_run o s5 q7
      exact q6 _ _ (s6.lit fun _ => rfl)
    · exact q7.elim
  · exact q9.elim
end
end R
set_option Elab.async false
set_option linter.all false
set_option autoImplicit false
/-! R16: enumerate from any number, over lists and tuples. -/
namespace R
open PySem PySem.Spec PyProof.Rows L2
/-- a list or (tp) a tuple -/
def SqB (K : PySem.W.Frag) (tp : Bool) (H : Hp) (a : Addr) (xs : List V) : Prop := if tp = true then SqT K H a xs else SqL K H a xs
def IsB (tp : Bool) (h : Heap) (a : Addr) (its : Array Value) : Prop := if tp = true then h.IsTuple a its else h.IsList a its
def ItB (tp : Bool) (h : Heap) (it a : Addr) (i : Nat) : Prop := if tp = true then IsTupIter h it a i else h.IsListIter it a i
def objB (tp : Bool) (a : Addr) : Obj := if tp = true then { cls := .type "tuple_iterator", data := .fields #[.ref a, .int 0 0] } else { cls := .type "list_iterator", data := .fields #[.ref a, .int 0 0] }
theorem beginsB (tp : Bool) (a : Addr) (its : Array Value) : Begins (.ref a) (objB tp a) fun h => IsB tp h a its := by
  cases tp
  · exact begins_list a its
  · exact begins_tuple a its
theorem drawsB {prog : Program} {w : World} {A : Around} (hh : A.handled = none) (tp : Bool) (it l : Addr) (hne : l ≠ it) (its : Array Value) :
    Draws prog w A it [it, l] its.size (fun i v => its[i]? = some v) (fun i h => ItB tp h it l i ∧ IsB tp h l its) := by
  cases tp
  · exact Draws.list hh it l hne its
  · exact Draws.tuple hh it l hne its
section
variable {X : Cx} {pins : List (Addr × Obj)} {σ : St} {H : Hp} {s : Shared} {a : Addr} {xs ys : List V} {tp : Bool}
theorem invB (I : Inv X pins σ H s) (h : SqB X.K tp H a xs) : ∃ its : List Value, Vals xs its ∧ IsB tp s.heap a its.toArray := by
  cases tp
  · obtain ⟨its, r, p, _⟩ := I.list h
    exact ⟨its, r, p.isList⟩
  · obtain ⟨its, r, p, _⟩ := I.tuple h
    exact ⟨its, r, p⟩
theorem injB (I : Inv X pins σ H s) (h : SqB X.K tp H a xs) (h' : SqB X.K tp H a ys) : xs = ys := by
  cases tp
  · exact I.list_inj h h'
  · exact I.tuple_inj h h'
end
theorem itB_get {tp : Bool} {h : Heap} {it a : Addr} {i : Nat} (q : ItB tp h it a i) : ∃ o : Obj, h.get? it = some o ∧ o.data = .fields #[.ref a, .int i 0] := by
  cases tp
  · obtain ⟨o, h1, _, h2⟩ := q; exact ⟨o, h1, h2⟩
  · obtain ⟨o, h1, _, h2⟩ := q; exact ⟨o, h1, h2⟩
theorem itB_keep {tp : Bool} {h h' : Heap} {it a : Addr} {i : Nat} (q : ItB tp h it a i) (k : ∀ o, h.get? it = some o → h'.get? it = some o) : ItB tp h' it a i := by
  cases tp
  · obtain ⟨o, h1, h2⟩ := q; exact ⟨o, k o h1, h2⟩
  · obtain ⟨o, h1, h2⟩ := q; exact ⟨o, k o h1, h2⟩
/-- the pairs of a count from k on and the items of the sequence at a, as it stands at each turn -/
def Itec (K : PySem.W.Frag) (tp : Bool) (a : Addr) (k : Int) : It where
  go i H := ∃ (xs : List V) (x : V), SqB K tp H a xs ∧ xs[i]? = some x
  yld i H v H' := ∃ T x, v = .ref T ∧ H T = none ∧ H' = upd H T (.tup [.int (k + (i : Nat)), x]) ∧ ∀ xs, SqB K tp H a xs → xs[i]? = some x
  stop i H := ∃ xs : List V, SqB K tp H a xs ∧ xs.length = i
theorem turn_ec {P : Program} {w : World} {K : PySem.W.Frag} {elts : List Expr} {kk : Nat} {tpos : Pos} {k : Int} (tp : Bool) (a e it : Addr) (hai : a ≠ it) (hae : a ≠ e) :
    Turn P w K (.Tuple elts kk tpos) (Itec K tp a k) [e, it] e (fun i h => (∃ old, IsEnum h e it (k + (i : Nat)) old) ∧ ItB tp h it a i ∧ e ≠ it) where
  mem := by simp
  obj := fun i h st b hb => by
    obtain ⟨⟨old, he⟩, hit, _⟩ := st
    obtain ⟨ob, h1, h2⟩ := itB_get hit
    rcases List.mem_cons.mp hb with z | z
    · subst z; exact ⟨_, he, fun v q => nomatch q⟩
    · have z := List.mem_singleton.mp z
      subst z; exact ⟨ob, h1, fun v q => by rw [h2] at q; cases q⟩
  keep := fun i h h' st kp => by
    obtain ⟨⟨old, he⟩, hit, hne⟩ := st
    exact ⟨⟨old, kp e (by simp) _ he⟩, itB_keep hit fun o q => kp it (by simp) o q, hne⟩
  item := by
    intro X hP hw hK hc i pins s σ H E I hf st hg
    cases hP; cases hw; cases hK
    obtain ⟨⟨old, he⟩, hit, hne⟩ := st
    obtain ⟨xs, x, hq, hx⟩ := hg
    obtain ⟨its, rv, hsq⟩ := invB I hq
    obtain ⟨u, hu, ru⟩ := rv.get hx
    have le : e < s.heap.objs.size := Heap.lt_size he
    have li : it < s.heap.objs.size := by
      obtain ⟨_, q, _⟩ := itB_get hit
      exact Heap.lt_size q
    have hlt : i < its.toArray.size := by
      have := (List.getElem?_eq_some_iff.mp hu).1
      simpa using this
    refine wpAny_pyNext_enum_itemC (drawsB (A := X.A.in1) (I.ok.hd hc) tp it a hai its.toArray) he ⟨hit, hsq⟩ hlt hne (by
      intro z
      rcases List.mem_cons.mp z with z | z
      · exact hne z
      · exact hae (List.mem_singleton.mp z).symm) fun y h' tk hy ho hst hT hsz kp => ?_
    have ey : y = u := by
      have h1 : its.toArray[i]? = some u := by simpa using hu
      rw [h1] at hy; cases hy; rfl
    subst ey
    refine ⟨_, rfl, wpAny_letOwnedTupleGo_enum (s := { s with heap := h', toks := tk + 1 }) ho fun h2 he2 sb => ?_⟩
    have hT2 : h2.get? s.heap.objs.size = some { cls := .type "tuple", data := .seq #[.int (k + (i : Nat)) tk, y] } := (sb.2 _ (Nat.ne_of_gt le)).trans hT
    have nw : ObjOk X.prog X.w (upd H s.heap.objs.size (.tup [.int (k + (i : Nat)), x])) h2 s.heap.objs.size (.tup [.int (k + (i : Nat)), x]) :=
      ⟨by show 2 ≤ sizeLine; decide, [.int (k + (i : Nat)) tk, y], .cons ⟨_, rfl⟩ (.cons ru .nil), ⟨_, hT2, rfl, _, rfl⟩⟩
    have keep2 : ∀ b ob, b ≠ e → b ≠ it → s.heap.get? b = some ob → h2.get? b = some ob := fun b ob n1 n2 q => (sb.2 b n1).trans (kp b ob n1 n2 q)
    have I1 : Inv X pins σ (upd H s.heap.objs.size (.tup [.int (k + (i : Nat)), x])) { s with heap := h2, toks := tk + 1 } :=
      I.turnedNew (ch := [e, it]) (fun b ob hb q => keep2 b ob (fun z => hb (by simp [z])) (fun z => hb (by simp [z])) q) hf (Nat.le_refl _) nw
    refine ⟨.ref s.heap.objs.size, _, I1, rfl, ⟨_, x, rfl, I.hok.fresh (Nat.le_refl _), rfl, fun ys hy => by rw [injB I hy hq]; exact hx⟩, ⟨⟨y, ?_⟩, itB_keep hst.1 fun o q => (sb.2 it (Ne.symm hne)).trans q, hne⟩, fun b hb => ?_⟩
    · have e1 : k + ((i + 1 : Nat) : Int) = k + (i : Nat) + 1 := by omega
      rw [e1]; exact he2
    · have lb : b < s.heap.objs.size := by
        rcases List.mem_cons.mp hb with z | z
        · rw [z]; exact le
        · rw [List.mem_singleton.mp z]; exact li
      rw [upd_ne (Nat.ne_of_lt lb)]
      exact (hf b hb).1
  done := by
    intro X hP hw hK hc i pins s σ H E I hf st hg
    cases hP; cases hw; cases hK
    obtain ⟨⟨old, he⟩, hit, hne⟩ := st
    obtain ⟨xs, hq, hle⟩ := hg
    obtain ⟨its, rv, hsq⟩ := invB I hq
    have hl := rv.length
    obtain ⟨f0, f1, f2, f3, f4, f5⟩ := hf it (by simp)
    have es : i = its.toArray.size := by simp; omega
    subst es
    refine wpAny_pyNext_enum_endD (drawsB (A := X.A.in1) (I.ok.hd hc) tp it a hai its.toArray) he ⟨hit, hsq⟩ fun h' eb => ⟨rfl, I.turned (t' := s.toks) (fun b o hb q => eb b o hb q) f0 f1 f3 f4 f5⟩
  self := fun A i s Q E st h => let ⟨⟨_, he⟩, _⟩ := st; wpAny_pyIter_enum he h
end R
set_option Elab.async false
set_option linter.all false
set_option autoImplicit false
/-! R17: enumerate as a source; displays that stay one's own; name += e; lists unpacked; index in a written tuple; isinstance. -/
namespace R
open PySem PySem.Spec PyProof.Rows L2
section
variable {M : Wd}
theorem src_ec {tp : Bool} {a : Addr} {k : Int} {vs : List V} {ds : List D} (hl : ds.length = vs.length) : Src M (Itec M.K tp a k) (enumD k ds) [.pin fun G => SqB M.K tp G a vs ∧ RepL M G ds vs] := by
  refine src_pair (n := ds.length) (G := fun H => SqB M.K tp H a vs) (xs := fun i => some (.int (k + (i : Nat)))) (ys := fun i => vs[i]?) ⟨fun i H hi q => ⟨vs, vs[i]'(by omega), q, by simp [show i < vs.length by omega]⟩, fun H q => ⟨vs, q, hl.symm⟩, fun i H v H' _ q y => ?_⟩
    (enumD_length k ds) (fun c T σ H ε s => (s.ok.pinned).1) fun c T σ H ε i x y d s hx hy hd => ?_
  · obtain ⟨T, x, h1, h2, h3, h4⟩ := y
    exact ⟨T, _, x, h1, h2, h3, rfl, h4 vs q⟩
  · obtain ⟨d0, e0, rfl⟩ := enumD_get k hd
    simp only [Option.some.injEq] at hx
    subst hx
    refine ⟨_, d0, rfl, ?_⟩
    have s1 : Sta M c (.val y .fro d0 :: ([.pin fun G => SqB M.K tp G a vs ∧ RepL M G ds vs] ++ T)) σ H ε := Sta.item (s.pinDup.pinMap fun G q => q.2) e0 hy
    exact s1.lit fun _ => rfl
end
section
variable {X : Cx} {W : WX} {e : Expr} {p pos tpos p2 : Pos} {elts : List Expr} {kk j : Nat} {f : EvE} {k : Int}
theorem iter_ec {tp : Bool} {pins : List (Addr × Obj)} {s : Shared} {σ : St} {H : Hp} {R : It → Hp → Prop} {a : Addr} {xs : List V} {t : Tok} (I : Inv X pins σ H s) (hq : SqB X.K tp H a xs) (hk : -(2 ^ 63) ≤ k ∧ k < 2 ^ 63) (q : R (Itec X.K tp a k) H) :
    wpAny (model X.prog X.w) X.A (call (.type "enumerate") [.ref a, .int k t]) (fun u s1 => wpAny (model X.prog X.w) X.A (pyIter u) (PIE X pins σ (.Tuple elts kk tpos) R) X.xe s1) X.xe s := by
  obtain ⟨its, rv, hb⟩ := invB I hq
  have la : a < s.heap.objs.size := by
    cases tp
    · obtain ⟨o, q, _⟩ := hb; exact Heap.lt_size q
    · obtain ⟨o, q, _⟩ := hb; exact Heap.lt_size q
  refine enum_begins (beginsB tp a its.toArray) hb hk.1 hk.2 fun h' he hit hsz hkp => wpAny_pyIter_enum he ?_
  have I2 : Inv X pins σ H { s with heap := h' } := I.kept (t' := s.toks) hkp
  refine ⟨s.heap.objs.size + 1, [s.heap.objs.size + 1, s.heap.objs.size], _, _, H, rfl, I2, turn_ec tp a (s.heap.objs.size + 1) s.heap.objs.size (Nat.ne_of_lt la) (Nat.ne_of_lt (Nat.lt_succ_of_lt la)), ⟨⟨.none, by simpa using he⟩, ?_, Nat.succ_ne_self _⟩, fun b hb => ?_, q⟩
  · cases tp
    · exact ⟨_, hit, rfl, rfl⟩
    · exact ⟨_, hit, rfl, rfl⟩
  · have z : s.heap.objs.size ≤ b := by
      rcases List.mem_cons.mp hb with z | z
      · rw [z]; exact Nat.le_succ _
      · rw [List.mem_singleton.mp z]; exact Nat.le_refl _
    exact I.fpOk z (I.hok.fresh z)
def iEnK (f : EvE) (k : Int) : EvI := fun ε => (f ε).bind fun r ε => if r.1.sol = true ∧ -(2 ^ 63) ≤ k ∧ k < 2 ^ 63 then (match r.2 with
  | .lst ds => .ok (enumD k ds) ε
  | .tup ds => .ok (enumD k ds) ε
  | _ => .bad) else .bad
theorem ri_enK (hg : Gl X "enumerate") (hm : X.mg "enumerate" = none) (he : RE X W e f) (hs : starEach [e, .Constant (.int k) j p2] X.env = (false, eval e X.env) :: starEach [.Constant (.int k) j p2] X.env := by rfl) :
    RI X W (.Tuple elts kk tpos) (.Call (.Name "enumerate" p) [e, .Constant (.int k) j p2] [] pos) (iEnK f k) := by
  refine ⟨⟨fun pins s σ H R I q => ?_⟩⟩
  obtain ⟨c, T, ε, st, q⟩ := q
  have q := pst_bind q
  have ha : PA X [e, .Constant (.int k) j p2] (tCons (tE (wd X) W f) (tCons (tC (.int k)) tNil)) := pa_cons he.run (pa_cons pe_int pa_nil) hs
  refine Call_ (ld_blt I hg hm boot_enumerate (PyProof.Rows.callWith_type1 (thn (ha.run pos pins s σ H (fun vs H1 => ∃ tp a xs, vs = [.ref a, .int k] ∧ SqB X.K tp H1 a xs ∧ (-(2 ^ 63) ≤ k ∧ k < 2 ^ 63) ∧ R (Itec X.K tp a k) H1) I ⟨c, T, ε, st, pst_mono (fun r ε1 q v H1 s1 => ?_) q⟩) fun us s1 ⟨vs, H1, I1, r1, q1⟩ => ?_) hs rfl))
  · split at q
    · rename_i hb
      have s2 := s1.freeze (Sh.sol_solid _ hb.1)
      obtain ⟨sh, d⟩ := r
      show ∃ tp a xs, [v, V.int k] = [V.ref a, V.int k] ∧ SqB X.K tp H1 a xs ∧ (-(2 ^ 63) ≤ k ∧ k < 2 ^ 63) ∧ R (Itec X.K tp a k) H1
      cases d with
      | lst ds =>
        obtain ⟨a, vs, rfl, hl, h1, s3⟩ := s2.pinL
        exact ⟨false, a, vs, rfl, h1, hb.2, q _ _ _ (src_ec (tp := false) hl) s3⟩
      | tup ds =>
        obtain ⟨a, vs, rfl, hl, h1, s3⟩ := s2.pinT
        exact ⟨true, a, vs, rfl, h1, hb.2, q _ _ _ (src_ec (tp := true) hl) s3⟩
      | _ => exact q.elim
    · exact q.elim
  · obtain ⟨tp, a, xs, rfl, hq, hk, q⟩ := q1
    obtain ⟨u1, u2, rfl, r2, r3⟩ := vals2 r1
    cases r2
    obtain ⟨t, rfl⟩ := r3
    exact iter_ec I1 hq hk q
end
end R
set_option Elab.async false
set_option linter.all false
set_option autoImplicit false
/-! R18: isinstance; a written tuple's index; lists unpacked; name += e; displays that stay one's own. -/
namespace R
open PySem PySem.Spec PyProof.Rows L2
/-! ### isinstance -/
def tyN : D → Option String
  | .non => some "NoneType" | .bl _ => some "bool" | .int _ => some "int" | .str _ => some "str" | .lst _ => some "list" | .tup _ => some "tuple" | .pr _ => none | .dic _ _ => some "dict" | .obj _ _ => none
theorem tyX_of {M : Wd} {H : Hp} {d : D} {v : V} {T : String} (r : Rep M H d v) (e : tyN d = some T) : TyX M.K H v (.type T) := by
  cases d with
  | non => cases r; cases e; exact .base .non
  | bl b => cases r; cases e; exact .base (.bl b)
  | int i => cases r; cases e; exact .base (.int i)
  | str s => cases r; cases e; exact .base (.str s)
  | lst ds =>
    obtain ⟨a, vs, rfl, h, _⟩ := r
    cases e
    rcases h with (h | ⟨o, h⟩) | ⟨o, its, n, h, hc, _⟩
    · exact .base (.lst h)
    · exact .base (.frz h)
    · exact .kList h hc
  | tup ds =>
    obtain ⟨a, vs, rfl, h, _⟩ := r
    cases e
    rcases h with ⟨o, _, h⟩ | ⟨o, its, n, h, _, hc, _⟩
    · exact .fTuple h
    · exact .kTuple h hc
  | dic ks ds =>
    obtain ⟨a, vs, rfl, _, h, _⟩ := r
    cases e
    rcases h with h | ⟨o, h⟩
    · exact .base (.dK h)
    · exact .fDict h
  | pr ds => cases e
  | obj k ds => cases e
def sIsi (T : String) (f : EvO) : EvE := fun ε => (f ε).bind fun o ε => opt (res o ε) fun r => opt (tyN r.2) fun t => opt (kitB t T) fun b => .ok (.fro, .bl b) ε
section
variable {X : Cx} {W : WX} {e e2 : Expr} {p p2 pos : Pos} {f : EvO} {x : Str} {T : String}
theorem re_isi (T : String) (he : RO X W e f) (hg : Gl X "isinstance") (hm : X.mg "isinstance" = none) (hg2 : Gl X x) (hm2 : X.mg x = none) (hv : bootBuiltins x = some (.type T)) (hn : x ≠ "__name__" := by decide) (hdb : (x == ("__debug__" : Str)) = false := by decide)
    (hs : starEach [e, .Name x p2] X.env = (false, eval e X.env) :: starEach [.Name x p2] X.env := by rfl) : RE X W (.Call (.Name "isinstance" p) [e, .Name x p2] [] pos) (sIsi T f) :=
  ⟨PE.imp (pe_callB call_isi hg hm PyProof.Rows.boot_isinstance (pa_cons he.run (pa_cons (pe_bltn (v := .ty T) hg2 hm2 hv rfl hn hdb) pa_nil) hs) (by decide) (by decide) hs rfl) fun σ H Q ⟨c, Tt, ε, s, q⟩ => ⟨c, Tt, ε, s, pst_mono (fun o ε1 q v H1 s1 => by
    obtain ⟨r, e1, q0⟩ := pst_opt q
    obtain ⟨t, e2, q1⟩ := pst_opt q0
    obtain ⟨b, e3, q2⟩ := pst_opt q1
    exact ⟨v, .ty T, .type t, .type T, b, rfl, .ty T, tyX_of (s1.readO e1) e2, kit_ty e3, q2 _ H1 (s1.drop.lit fun _ => rfl)⟩) (pst_bind q)⟩⟩
end
/-! ### a written tuple of texts: index -/
/-- the module's constant x is a tuple of the texts ys -/
def GT (M : Wd) (x : Str) (ys : List Str) : Prop := ∃ (a : Addr) (o : Obj), M.mg x = some (.ref a) ∧ M.K.lookup a = some o ∧ o.cls = .type "tuple" ∧ o.dict = none ∧ ∀ H, SqT M.K H a (ys.map .str)
def ixS (ys : List Str) (z : Str) : Option Nat := ys.findIdx? (· == z)
theorem ixS_get : ∀ {ys : List Str} {z : Str} {j : Nat}, ixS ys z = some j → ys[j]? = some z ∧ ∀ m, m < j → ys[m]? ≠ some z
  | [], z, j, h => by simp [ixS] at h
  | y :: ys, z, j, h => by
    unfold ixS at h
    rw [List.findIdx?_cons] at h
    split at h
    · rename_i hy
      cases h
      exact ⟨by simpa using hy, fun m hm => by omega⟩
    · rename_i hy
      rw [Option.map_eq_some_iff] at h
      obtain ⟨i, h1, rfl⟩ := h
      obtain ⟨a, b⟩ := ixS_get (ys := ys) (z := z) (j := i) h1
      refine ⟨by simpa using a, fun m hm => ?_⟩
      cases m with
      | zero => simpa using hy
      | succ m => simpa using b m (by omega)
def sIndG (ys : List Str) (f : EvO) : EvE := fun ε => (f ε).bind fun o ε => opt (strO o ε) fun z => opt (ixS ys z) fun j => .ok (.fro, .int (j : Nat)) ε
section
variable {X : Cx} {W : WX} {e : Expr} {p apos pos : Pos} {f : EvO} {x : Str} {ys : List Str}
theorem re_indG (hg : Gl X x) (hx : GT (wd X) x ys) (he : RO X W e f) (hdb : (x == ("__debug__" : Str)) = false := by decide) (hs : starEach [e] X.env = [(false, eval e X.env)] := by rfl) (hline : (apos.endLine == pos.line) = true := by rfl)
    (hbase : attributeBase (.Name x p) "index" X.env (eval (.Name x p) X.env) = eval (.Name x p) X.env := by rfl)
    (hfew : ((backTo pos (starEach [e] X.env)).all (fun x => !x.1) && (backToKw pos (keywordEach [] X.env)).all (fun x => x.1.isSome)
      && decide ([e].length + ([] : List Keyword).length + (if ([] : List Keyword).isEmpty then 0 else 1) < 30)) = true := by rfl) : RE X W (.Call (.Attribute (.Name x p) "index" apos) [e] [] pos) (sIndG ys f) := by
  obtain ⟨a, o, hm, hk, hc, hd, hq⟩ := hx
  refine ⟨PE.imp (pe_bm PySem.F.plainAttrs_tuple PySem.F.slot_tuple_index PySem.F.type_tuple_index mt_tup_index (pe_glob (v := .ref a) hg hm rfl hdb) (pa_one he.run hs) hbase hfew hline (by rw [hs]; rfl) rfl) fun σ H Q ⟨c, T, ε, s, q⟩ => ⟨.inr (.inl ⟨rfl, o, hk, hc, hd⟩), c, T, ε, s, pst_mono (fun o ε1 q v H1 s1 => ?_) (pst_bind q)⟩⟩
  obtain ⟨z, e1, q0⟩ := pst_opt q
  obtain ⟨j, e2, q1⟩ := pst_opt q0
  have hv := s1.strO e1
  subst hv
  obtain ⟨h1, h2⟩ := ixS_get e2
  exact ⟨a, ys, z, j, rfl, rfl, hq H1, h1, h2, q1 _ H1 (s1.drop.lit fun _ => rfl)⟩
end
/-! ### a list unpacked -/
def gLs (g : EvTgs) (n : Nat) : EvTg := fun r ε => match r with
  | (s, .lst ds) => if s.sol = true ∧ ds.length = n then g ds ε else none
  | _ => none
section
variable {X : Cx} {es : List Expr} {pos : Pos} {h : EvTgs} {jx : List Nat}
theorem rtg_lst {k n : Nat} (hc : X.calm = true) (h1 : RTgs X es h jx) (hn : (assignEach es X.env).length = n := by rfl) (hst : (assignEach es X.env).findIdx? (·.1) = none := by rfl) : RTg X (.Tuple es k pos) (gLs h n) jx :=
  ⟨PG.imp (pg_lst hc h1.run hn hst) fun v σ H Q ⟨c, T, ε, r, st, ε', e, q⟩ => by
    unfold gLs at e
    split at e
    · rename_i s ds
      split at e
      · rename_i hb
        obtain ⟨a, vs, rfl, hl, h2, s2⟩ := (Sta.freeze st (Sh.sol_solid _ hb.1)).pinL
        refine ⟨a, vs, rfl, h2, hl.symm.trans hb.2, c, T, ε, ds, hl, ⟨?_, st.fit⟩, ε', e, q⟩
        rw [List.append_assoc]
        exact (s2.pinMap fun G z => z.2).ok.itemsPin
      · cases e
    · cases e⟩
end
/-! ### name += e -/
def pIadd (op : Operator) : D → D → Option D
  | .int i, .int j => match op with
    | .Add => some (.int (i + j))
    | .Sub => some (.int (i - j))
    | _ => none
  | .str x, .str y => match op with
    | .Add => if x.length + y.length ≤ sizeLine then some (.str (x ++ y)) else none
    | _ => none
  | _, _ => none
/-- numbers and texts -/
def sAug (op : Operator) (i : Nat) (f : EvO) : EvS := fun ε0 => match (ε0[i]?).join with
  | some (.fro, a) => (f ε0).bind fun o ε => opt (res o ε) fun r => opt (pIadd op a r.2) fun d => .ok .nx (ε.set i (some (.fro, d)))
  | _ => .bad
/-- a list of one's own: e's items are put behind it -/
def sAugL (i : Nat) (f : EvE) : EvS := fun ε0 => match (ε0[i]?).join with
  | some (.con .fro, .lst _) => (f ε0).bind fun r ε => match (ε[i]?).join, r with
    | some (.con .fro, .lst xs), (.con .fro, .lst ys) => if xs.length + ys.length ≤ sizeLine then .ok .nx (ε.set i (some (.con .fro, .lst (xs ++ ys)))) else .bad
    | _, _ => .bad
  | _ => .bad
section
variable {X : Cx} {W : WX} {e : Expr} {p pos : Pos} {f : EvO} {g : EvE}
theorem rs_aug {op : Operator} (hop : op = .Add ∨ op = .Sub) {i : Nat} {x : Str} (hN : X.N.Nodup) (hi : X.N[i]? = some x) (hx : Loc X.env.scope x) (he : RO X W e f) (hlen : i < X.N.length := by exact Nat.le_of_ble_eq_true rfl)
    (hf : X.fn x = true ∨ X.env.scope.names.lookup x = some .local := by first | exact .inl rfl | exact .inr rfl | assumption) : RS X W (.AugAssign (.Name x p) op e pos) (sAug op i f) := by
  have h1 : PIp X op (fun x y H Q => (∃ i j, x = .int i ∧ y = .int j ∧ ((op = .Add ∧ Q (.int (i + j)) H) ∨ (op = .Sub ∧ Q (.int (i - j)) H))) ∨ (op = .Add ∧ ∃ i j, x = .str i ∧ y = .str j ∧ i.length + j.length ≤ sizeLine ∧ Q (.str (i ++ j)) H)) := by
    intro pins s σ H x y v u Q I r1 r2 h
    rcases h with ⟨i, j, rfl, rfl, ⟨rfl, q⟩ | ⟨rfl, q⟩⟩ | ⟨rfl, i, j, rfl, rfl, hz, q⟩
    · exact iop_add pins s σ H _ _ v u Q I r1 r2 ⟨i, j, rfl, rfl, q⟩
    · exact iop_sub pins s σ H _ _ v u Q I r1 r2 ⟨i, j, rfl, rfl, q⟩
    · exact iop_add_str pins s σ H _ _ v u Q I r1 r2 ⟨i, j, rfl, rfl, hz, q⟩
  refine ⟨⟨fun pins s σ H D I h => (ps_aug hN hi hx he.run h1 hf).run pins s σ H D I ?_⟩⟩
  obtain ⟨c, T, ε, st, q⟩ := h
  unfold sAug at q
  split at q
  · rename_i a e0
    have e0 := join_some e0
    obtain ⟨v0, hv0⟩ := st.fit.has _ _ e0
    have s0 : Sta (wd X) c (.val v0 .fro a :: T) σ H ε := by
      have := st.lend e0 hv0 trivial
      rw [set_same e0] at this
      exact this
    refine ⟨v0, hv0, c, _, ε, s0, pst_mono (fun o ε1 q v H1 s1 => ?_) (pst_push (pst_of_S (pstS_bind q)))⟩
    obtain ⟨r, e1, q1⟩ := pst_opt (W := W) (c := c) (T := T) (σ := σ) (M := wd X) (P := flP (wd X) c T D) (pst_of_S q)
    obtain ⟨d, e2, q2⟩ := pst_opt q1
    have r1 := s1.readO e1
    have r0 := s1.drop.read
    have fin : ∀ w, (∀ G, Rep (wd X) G d w) → D.nx (σ.set i (some w)) H1 := fun w hw => q2 _ _ (((s1.drop.drop.lit hw).store (r := (.fro, d)) (i := i) (by rw [I.len]; exact hlen)))
    obtain ⟨sh, d1⟩ := r
    cases a <;> cases d1 <;> simp only [pIadd, reduceCtorEq] at e2
    · cases op <;> simp only [Option.some.injEq, reduceCtorEq] at e2
      · subst e2; exact .inl ⟨_, _, r0, r1, .inl ⟨rfl, fin _ fun _ => rfl⟩⟩
      · subst e2; exact .inl ⟨_, _, r0, r1, .inr ⟨rfl, fin _ fun _ => rfl⟩⟩
    · cases op <;> simp only [reduceCtorEq] at e2
      split at e2
      · rename_i hz
        cases e2
        exact .inr ⟨rfl, _, _, r0, r1, hz, fin _ fun _ => rfl⟩
      · cases e2
  · exact q.elim
theorem rs_augL {i : Nat} {x : Str} (hN : X.N.Nodup) (hi : X.N[i]? = some x) (hx : Loc X.env.scope x) (he : RE X W e g) (hlen : i < X.N.length := by exact Nat.le_of_ble_eq_true rfl)
    (hf : X.fn x = true ∨ X.env.scope.names.lookup x = some .local := by first | exact .inl rfl | exact .inr rfl | assumption) : RS X W (.AugAssign (.Name x p) .Add e pos) (sAugL i g) := by
  refine ⟨⟨fun pins s σ H D I h => (ps_aug hN hi hx he.run iop_ext hf).run pins s σ H D I ?_⟩⟩
  obtain ⟨c, T, ε, st, q⟩ := h
  unfold sAugL at q
  split at q
  · rename_i ds0 e0
    have e0 := join_some e0
    obtain ⟨v0, hv0⟩ := st.fit.has _ _ e0
    refine ⟨v0, hv0, c, T, ε, st, pst_mono (fun r ε1 q v H1 s1 => ?_) (pst_of_S (pstS_bind q))⟩
    split at q
    · rename_i xs ys e1
      split at q
      · rename_i hz
        have e1 := join_some e1
        obtain ⟨a, us, rfl, hl, ha, s2⟩ := s1.ownL e1 hv0
        have s3 : Sta (wd X) c (.val v (.con .fro) (.lst ys) :: (.cel a (.lst us) :: (itc .fro xs us ++ T))) σ H1 (ε1.set i none) := s2.perm (by
          refine List.Perm.trans (.cons _ List.perm_middle) (.swap _ _ _))
        obtain ⟨b, ws, rfl, hl2, ok⟩ := OK.openL (L := (.cel a (.lst us) :: (itc .fro xs us ++ T)) ++ slots σ (ε1.set i none)) s3.ok
        have hb := ok.cell
        refine ⟨a, b, us, ws, rfl, rfl, ha, hb, hl ▸ hl2 ▸ hz, ?_⟩
        have ok2 : OK (wd X) c H1 (.cel a (.lst us) :: (itc .fro ys ws ++ (itc .fro xs us ++ (T ++ slots σ (ε1.set i none))))) := by
          have k := ok.drop
          refine k.perm ?_
          refine List.Perm.trans List.perm_middle (.cons _ (List.Perm.append_left _ ?_))
          exact List.Perm.of_eq (List.append_assoc _ _ _)
        have ok3 : OK (wd X) c (upd H1 a (.lst (us ++ ws))) (.cel a (.lst (us ++ ws)) :: (itc .fro (xs ++ ys) (us ++ ws) ++ (T ++ slots σ (ε1.set i none)))) := by
          have k := ok2.upd (o' := .lst (us ++ ws))
          refine k.perm (.cons _ ?_)
          have ap : ∀ {xs : List R.D} {us : List V}, xs.length = us.length → itc .fro (xs ++ ys) (us ++ ws) = itc .fro xs us ++ itc .fro ys ws := by
            intro xs
            induction xs with
            | nil => intro us h; cases us with
              | nil => rfl
              | cons _ _ => cases h
            | cons x xs ih => intro us h; cases us with
              | nil => cases h
              | cons y us =>
                show Ow.val y .fro x :: itc .fro (xs ++ ys) (us ++ ws) = _
                rw [ih (Nat.succ.inj h)]
                rfl
          rw [ap hl, ← List.append_assoc, ← List.append_assoc, ← List.append_assoc]
          exact List.Perm.append_right _ (List.Perm.append_right _ List.perm_append_comm)
        have s4 : Sta (wd X) c (.val (.ref a) (.con .fro) (.lst (xs ++ ys)) :: T) σ (upd H1 a (.lst (us ++ ws))) (ε1.set i none) := ⟨OK.closeL (L := T ++ slots σ (ε1.set i none)) (vs := us ++ ws) (by rw [List.length_append, List.length_append, hl, hl2]) ok3, s2.fit⟩
        have s5 := s4.store (r := (.con .fro, .lst (xs ++ ys))) (i := i) (by rw [I.len]; exact hlen)
        rw [List.set_set] at s5
        exact q _ _ s5
      · exact q.elim
    · exact q.elim
  · exact q.elim
end
/-! ### displays that stay one's own -/
abbrev EvK := En → Out (List Rv)
def tKs (M : Wd) (W : WX) (f : EvK) : TA := fun σ H Q => ∃ c T ε, Sta M c T σ H ε ∧ pst M W c T σ (fun rs ε => ∀ vs H, rs.length = vs.length → Sta M c (argw vs rs ++ T) σ H ε → Q vs H) (f ε)
structure RK (X : Cx) (W : WX) (es : List Expr) (f : EvK) : Prop where
  run : PA X es (tKs (wd X) W f)
def kNl : EvK := fun ε => .ok [] ε
def kCn (f : EvE) (g : EvK) : EvK := fun ε => (f ε).bind fun r ε => (g ε).bind fun rs ε => .ok (r :: rs) ε
def sameSh : List Rv → Option Sh
  | [] => some .fro
  | r :: rs => if (rs.all fun q => q.1.eqb r.1) = true then some r.1 else none
def eLso (g : EvK) : EvE := fun ε => (g ε).bind fun rs ε => opt (sameSh rs) fun s => if rs.length ≤ sizeLine then .ok (.con s, .lst (rs.map (·.2))) ε else .bad
theorem argw_itc {s : Sh} : ∀ {rs : List Rv} {vs : List V}, (∀ r ∈ rs, r.1 = s) → argw vs rs = itc s (rs.map (·.2)) vs
  | [], [], _ => rfl
  | [], _ :: _, _ => rfl
  | _ :: _, [], _ => rfl
  | r :: rs, v :: vs, h => by
    show Ow.val v r.1 r.2 :: argw vs rs = Ow.val v s r.2 :: itc s (rs.map (·.2)) vs
    rw [h r List.mem_cons_self, argw_itc fun q hq => h q (List.mem_cons_of_mem _ hq)]
section
variable {X : Cx} {W : WX} {e : Expr} {es : List Expr} {pos : Pos} {f : EvE} {g : EvK}
theorem rk_nil : RK X W [] kNl := ⟨PA.imp pa_nil fun σ H Q ⟨c, T, ε, s, q⟩ => q [] H rfl s⟩
theorem rk_cons (h1 : RE X W e f) (h2 : RK X W es g) (hs : starEach (e :: es) X.env = (false, eval e X.env) :: starEach es X.env := by rfl) : RK X W (e :: es) (kCn f g) :=
  ⟨PA.imp (pa_cons h1.run h2.run hs) fun σ H Q ⟨c, T, ε, s, q⟩ => ⟨c, T, ε, s, pst_mono (fun r ε q v H s => ⟨c, _, ε, s, pst_mono (fun rs ε q vs H hl s => q (v :: vs) H (by rw [List.length_cons, List.length_cons, hl]) (s.perm List.perm_middle)) (pst_push (pst_bind q))⟩) (pst_bind q)⟩⟩
theorem re_lso (h : RK X W es g) : RE X W (.List es pos) (eLso g) :=
  ⟨PE.imp (pe_lst h.run) fun σ H Q ⟨c, T, ε, s, q⟩ => ⟨c, T, ε, s, pst_mono (fun rs ε q vs H hl s => by
    obtain ⟨sh, e1, q⟩ := pst_opt q
    split at q
    · rename_i hz
      have hall : ∀ r ∈ rs, r.1 = sh := by
        unfold sameSh at e1
        split at e1
        · intro r hr; cases hr
        · split at e1
          · rename_i r0 rs0 ha
            cases e1
            intro r hr
            rcases List.mem_cons.mp hr with rfl | hr
            · rfl
            · exact Sh.eqb_eq (List.all_eq_true.mp ha r hr)
          · cases e1
      rw [argw_itc hall] at s
      refine ⟨hl ▸ hz, fun p hp => q (.ref p) _ ⟨OK.closeL (vs := vs) (by rw [List.length_map]; exact hl) ?_, s.fit⟩⟩
      have := (s.ok.new (o := .lst vs) hp)
      rw [List.append_assoc] at this
      exact this
    · exact q.elim) (pst_bind q)⟩⟩
end
end R
set_option Elab.async false
set_option linter.all false
set_option autoImplicit false
/-! R19: a def as its callers see it; the law's end. -/
namespace R
open PySem PySem.Spec PyProof.Rows L2
section
variable {P : Program} {w : World} {K : PySem.W.Frag} {mg : Str → Option Value} {base : Heap}
/-- the def x of n arguments answers as F -/
def Callee (P : Program) (w : World) (K : PySem.W.Frag) (mg : Str → Option Value) (base : Heap) (k : Nat) (x : Str) (n : Nat) (F : Fn) : Prop :=
  ∃ fa fd ps, ps.length = n ∧ FnOk P w K mg base (L2.CX P w) k fa fd ps (spOf ⟨K, mg⟩ n F) ∧ mg x = some (.ref fa) ∧ PySem.W.keepIn K (.ref fa) = true ∧ Binds K fd ps []
theorem Callee.le {k : Nat} {x : Str} {n : Nat} {F B : Fn} (h : Callee P w K mg base k x n B) (e : FLe F B) : Callee P w K mg base k x n F := by
  obtain ⟨fa, fd, ps, h1, h2, h3, h4, h5⟩ := h
  exact ⟨fa, fd, ps, h1, h2.imp (spOf_le e), h3, h4, h5⟩
theorem Callee.mk {x qual : Str} {st : Stmt} {fa : Addr} {fd : FuncData} {ps : List Str} {k : Nat} {F : Fn} (G : FnOk P w K mg base (L2.CX P w) k fa fd ps (spOf ⟨K, mg⟩ ps.length F)) (hm : mg x = some (.ref fa)) (hk : PySem.W.keepIn K (.ref fa) = true) (hb : Binds K fd ps []) :
    Callee P w K mg base k x ps.length F := ⟨fa, fd, ps, rfl, G, hm, hk, hb⟩
end
section
variable {X : Cx} {W : WX} {pos p : Pos} {e : Expr} {es : List Expr} {g : EvG} {k n : Nat} {F : Fn} {x : Str}
theorem re_fn (C : Callee X.prog X.w X.K X.mg X.base k x n F) (hr : Room k X.A) (hg : Gl X x) (tk : Takes X W) (ha : RG X W (e :: es) g) (hlen : ∀ ε as ε', g ε = .ok as ε' → as.length = n) (hdb : (x == ("__debug__" : Str)) = false := by decide)
    (he : starEach (e :: es) X.env = (false, eval e X.env) :: starEach es X.env := by rfl) (hpl : (backTo pos (starEach es X.env)).any (·.1) = false := by rfl) : RE X W (.Call (.Name x p) (e :: es) [] pos) (sCall F g) := by
  obtain ⟨fa, fd, ps, hp, G, hm, hk, hb⟩ := C
  subst hp
  exact re_call G hr hg hm hk hb tk ha hlen hdb he hpl
end
/-- no wish for exceptions is always met -/
theorem tk0 {X : Cx} : Takes X w0 := fun _ _ x => by
  obtain ⟨_, _, _, _, _, _, _, _, _, _, _, _, _, _, _, _, z⟩ := x
  exact z.elim
/-- what a script is -/
def scr (ns : List Int) : Rv := (.fro, .lst (ns.map .int))
theorem repL_ints {M : Wd} {G : Hp} : ∀ ns : List Int, RepL M G (ns.map .int) (ns.map V.int)
  | [] => rfl
  | n :: ns => ⟨.int n, _, rfl, rfl, repL_ints ns⟩
/-- the law's promise, from its function -/
theorem sp_law {K : PySem.W.Frag} {mg : Str → Option Value} {F : Fn} {H : Hp} {a : Addr} {ns : List Int} (hS : SqL K H a (ns.map V.int)) (h : ∃ s, F [scr ns] = .ok (s, .bl true)) : spOf ⟨K, mg⟩ 1 F [.ref a] H (fun v _ => v = .bl true) fun _ _ _ => False := by
  obtain ⟨s, h⟩ := h
  refine ⟨⟨H, fun _ => False, H⟩, [scr ns], rfl, rfl, ⟨H, [[]], Ext.refl H, Ext.refl H, fun a z => z.elim, .cons ⟨rfl, a, _, rfl, hS, repL_ints ns⟩ .nil, by simp, by simp⟩, ?_⟩
  rw [h]
  intro v H' ok
  exact ok.read
end R
set_option Elab.async false
set_option linter.all false
set_option autoImplicit false
/-! R20: constants, from what the program's top has written. -/
namespace R
open PySem PySem.Spec PyProof.Rows L2
section
variable {K : PySem.W.Frag} {mg : Str → Option Value} {h : Heap} {x : Str}
theorem gc_int (X : K.In h) (G : h.Ns mainGlobals mg) {i : Int} {t : Tok} (a : PySem.W.nsIn K mainGlobals x = some (some (.int i t))) : GC ⟨K, mg⟩ x (.int i) :=
  ⟨.int i, .int i t, PySem.W.mg_of X G a, ⟨t, rfl⟩, fun _ => rfl⟩
theorem gc_str (X : K.In h) (G : h.Ns mainGlobals mg) {s : Str} {t : Tok} (a : PySem.W.nsIn K mainGlobals x = some (some (.str s t))) : GC ⟨K, mg⟩ x (.str s) :=
  ⟨.str s, .str s t, PySem.W.mg_of X G a, ⟨t, rfl⟩, fun _ => rfl⟩
theorem sqT_k {p : Addr} {vs : List V} {its : Array Value} {n : Nat} {sl : Array (Option Value)} (l : K.lookup p = some ⟨.type "tuple", none, .seq its n, sl⟩) (hz : its.size ≤ sizeLine) (hv : Vals vs its.toList) (H : Hp) : TqT K H p vs :=
  .inr ⟨_, its, n, l, rfl, rfl, rfl, hz, hv⟩
theorem gc_tup (X : K.In h) (G : h.Ns mainGlobals mg) {p : Addr} {ds : List D} {vs : List V} (a : PySem.W.nsIn K mainGlobals x = some (some (.ref p))) (hq : ∀ H, TqT K H p vs) (hr : ∀ H, RepL ⟨K, mg⟩ H ds vs) : GC ⟨K, mg⟩ x (.tup ds) :=
  ⟨.ref p, .ref p, PySem.W.mg_of X G a, rfl, fun H => ⟨p, vs, rfl, hq H, hr H⟩⟩
theorem gt_of (X : K.In h) (G : h.Ns mainGlobals mg) {p : Addr} {ys : List Str} {its : Array Value} {n : Nat} {sl : Array (Option Value)} (a : PySem.W.nsIn K mainGlobals x = some (some (.ref p))) (l : K.lookup p = some ⟨.type "tuple", none, .seq its n, sl⟩)
    (hz : its.size ≤ sizeLine) (hv : Vals (ys.map .str) its.toList) : GT ⟨K, mg⟩ x ys := ⟨p, _, PySem.W.mg_of X G a, l, rfl, rfl, fun H => (sqT_k l hz hv H).sq⟩
theorem callee_mk {P : Program} {w : World} {base : Heap} {fa : Addr} {fd : FuncData} {ps : List Str} {k n : Nat} {F B : Fn} (X : K.In h) (G : h.Ns mainGlobals mg) (a : PySem.W.nsIn K mainGlobals x = some (some (.ref fa))) (hk : PySem.W.keepIn K (.ref fa) = true)
    (hb : Binds K fd ps []) (hn : ps.length = n) (ok : FnOk P w K mg base (L2.CX P w) k fa fd ps (spOf ⟨K, mg⟩ n B)) (le : FLe F B) : Callee P w K mg base k x n F :=
  ⟨fa, fd, ps, hn, ok.imp (spOf_le le), PySem.W.mg_of X G a, hk, hb⟩
theorem le_rfl' {F : Fn} : FLe F F := fun _ => .inr rfl
end
theorem cx_end {P : Program} {w : World} {H : Hp} {s : Shared} {e : Value} {s' : Shared} (h : L2.CX P w [] H s (fun _ _ _ => False) e s') : False := by
  obtain ⟨_, _, _, _, _, _, _, _, _, _, _, _, z⟩ := h
  exact z.elim
def spLaw (K : PySem.W.Frag) : Sp := fun vs H Q _ => ∃ (a : Addr) (ns : List Int), vs = [.ref a] ∧ SqL K H a (ns.map V.int) ∧ ns.length ≤ 63 ∧ ∀ H', Q (.bl true) H'
theorem spLaw_to {K : PySem.W.Frag} {mg : Str → Option Value} {F : Fn} (law : ∀ ns : List Int, ns.length ≤ 63 → ∃ s, F [scr ns] = .ok (s, .bl true)) : ∀ vs H Q E, spLaw K vs H Q E → spOf ⟨K, mg⟩ 1 F vs H Q E := by
  rintro vs H Q E ⟨a, ns, rfl, hS, hl, q⟩
  obtain ⟨s, h⟩ := law ns hl
  refine ⟨⟨H, fun _ => False, H⟩, [scr ns], rfl, rfl, ⟨H, [[]], Ext.refl H, Ext.refl H, fun a z => z.elim, .cons ⟨rfl, a, _, rfl, hS, repL_ints ns⟩ .nil, by simp, by simp⟩, ?_⟩
  rw [h]
  intro v H' ok
  have e : v = .bl true := ok.read
  rw [e]; exact q H'
theorem walk_R {l : PySem.W.OpenLaw} {k : Nat} {q : Program} {loose : List Str} {XP : (Str → Option Value) → Heap → Prop} {YP : World → Heap → Prop} {d : DefRec} {K : Params → PySem.W.Frag} {x : Str} {F : Fn}
    (hn : l.most = some 63) (hn2 : 63 ≤ sizeLine) (hdf : d.params.defaults = []) (hr : Room k callerA) (hY : ∀ (w : World) (h : Heap), YP w h → (K w.params).In h)
    (G : ∀ (w : World) (mg : Str → Option Value) (fa : Addr) (h : Heap), (K w.params).In h → h.Ns mainGlobals mg → mg d.name = some (.ref fa) →
      ∃ fd : FuncData, (∀ (s : Shared) (u : Value), BindsTo s fd ⟨[u], []⟩ [(x, u)]) ∧ ∀ base : Heap, (K w.params).In base → base.Ns mainGlobals mg → FnOk l.prog w (K w.params) mg base (L2.CX l.prog w) k fa fd [x] (spOf ⟨K w.params, mg⟩ 1 F))
    (law : ∀ ns : List Int, ns.length ≤ 63 → ∃ s, F [scr ns] = .ok (s, .bl true)) : PySem.W.WalkO q loose XP YP l.row.toRowW d [] (fun f vs => PySem.call f vs) :=
  L2.walk_of (n := 63) (k := k) (x := x) (CX := fun w => L2.CX l.prog w) (sp := fun w => spLaw (K w.params)) hn hn2 hdf hr hY (fun w mg fa h a b c => by
    obtain ⟨fd, h1, h2⟩ := G w mg fa h a b c
    exact ⟨fd, h1, fun base h3 h4 => (h2 base h3 h4).imp (spLaw_to law)⟩) (fun w H a ns hl _ hS => ⟨a, ns, rfl, hS, hl, fun _ => rfl⟩) fun _ _ _ _ _ z => cx_end z
end R
set_option Elab.async false
set_option linter.all false
set_option autoImplicit false
/-! R21: index in lists and tuples of texts. -/
namespace R
open PySem PySem.Spec PyProof.Rows L2
/-- a list, or a tuple that is known to have no dict -/
def tyB (K : PySem.W.Frag) (T : String) (x : V) (H : Hp) : Prop := ∃ p xs, x = .ref p ∧ ((T = "list" ∧ SqL K H p xs) ∨ (T = "tuple" ∧ TqT K H p xs))
theorem tyB_is {X : Cx} {pins : List (Addr × Obj)} {σ : L2.St} {H : Hp} {s : Shared} {T : String} {x : V} {v : Value} (I : Inv X pins σ H s) (r : RelV x v) (ty : tyB X.K T x H) :
    s.TypeIs v T ∧ ∀ a, v = .ref a → ∃ ob, s.heap.get? a = some ob ∧ ob.dict = none := by
  obtain ⟨p, xs, rfl, h⟩ := ty
  rcases h with ⟨rfl, h⟩ | ⟨rfl, h⟩
  · exact tyV_is I r (.inl ⟨rfl, xs, h⟩)
  · cases r
    rcases h with ⟨ob, hd, h⟩ | ⟨ob, us, n, h1, h2, h3, _⟩
    · obtain ⟨g, _, its, _, ob2, g2, hc, _⟩ := I.hok p _ h
      rw [g] at g2
      cases g2
      exact ⟨⟨ob, g, hc⟩, fun a e => by cases e; exact ⟨ob, g, hd⟩⟩
    · exact ⟨⟨ob, I.kIn p ob h1, h3⟩, fun a e => by cases e; exact ⟨ob, I.kIn _ ob h1, h2⟩⟩
section
variable {X : Cx} {o e : Expr} {to te : TE} {apos cpos : Pos}
def tIndex (K : PySem.W.Frag) (to te : TE) (r1 r2 : V → List V → Hp → VK → Prop) : TE := fun σ H Q => to σ H fun x H1 =>
  (tyB K "list" x H1 ∧ te σ H1 fun y H2 => r1 x [y] H2 Q) ∨ (tyB K "tuple" x H1 ∧ te σ H1 fun y H2 => r2 x [y] H2 Q)
theorem pe_index {r1 r2 : V → List V → Hp → VK → Prop} (m1 : MtR X "list.index" r1) (m2 : MtR X "tuple.index" r2) (ho : PE X o to) (he : PE X e te) (hs : starEach [e] X.env = [(false, eval e X.env)] := by rfl)
    (hbase : attributeBase o "index" X.env (eval o X.env) = eval o X.env := by rfl)
    (hfew : ((backTo cpos (starEach [e] X.env)).all (fun x => !x.1) && (backToKw cpos (keywordEach [] X.env)).all (fun x => x.1.isSome)
      && decide ([e].length + ([] : List Keyword).length + (if ([] : List Keyword).isEmpty then 0 else 1) < 30)) = true := by rfl)
    (hline : (apos.endLine == cpos.line) = true := by rfl) : PE X (.Call (.Attribute o "index" apos) [e] [] cpos) (tIndex X.K to te r1 r2) := by
  refine ⟨fun pins s σ H Q I h => wpAny_Call_method_late hbase hfew hline rfl (thn (ho.run pins s σ H _ I h) fun v s1 z => ?_)⟩
  obtain ⟨x, H1, I1, rx, q⟩ := z
  have ha : ∀ {t : TA}, PA X [e] t → _ := fun {t} h => h
  have pl : (backTo cpos (starEach ([] : List Expr) X.env)).any (·.1) = false := rfl
  rcases q with ⟨ty, q⟩ | ⟨ty, q⟩
  · obtain ⟨h1, h2⟩ := tyB_is I1 rx ty
    refine ⟨"list", "list.index", PySem.F.plainAttrs_list, PySem.F.slot_list_index, PySem.F.type_list_index, h1, h2, ?_⟩
    have go := (pa_one he hs).run cpos pins s1 σ H1 (fun xs H2 => r1 x xs H2 Q) I1 q
    rw [hs] at go ⊢
    exact Calls.callWith_builtin rfl (Calls.evalArgs_plain (thn go fun us s2 y => by
      obtain ⟨vs, H2, I2, r2', q2⟩ := y
      exact m1 pins s2 σ H2 x vs v us Q I2 rx r2' q2))
  · obtain ⟨h1, h2⟩ := tyB_is I1 rx ty
    refine ⟨"tuple", "tuple.index", PySem.F.plainAttrs_tuple, PySem.F.slot_tuple_index, PySem.F.type_tuple_index, h1, h2, ?_⟩
    have go := (pa_one he hs).run cpos pins s1 σ H1 (fun xs H2 => r2 x xs H2 Q) I1 q
    rw [hs] at go ⊢
    exact Calls.callWith_builtin rfl (Calls.evalArgs_plain (thn go fun us s2 y => by
      obtain ⟨vs, H2, I2, r2', q2⟩ := y
      exact m2 pins s2 σ H2 x vs v us Q I2 rx r2' q2))
end
/-- x.index(z), texts -/
def strsR (r : Rv) : Option (Bool × List Str) := match r.2 with
  | .lst ds => if r.1.flat = true then (strsD ds).map fun ys => (false, ys) else none
  | .tup ds => (strsD ds).map fun ys => (true, ys)
  | _ => none
def sInd (f g : EvO) : EvE := fun ε => (f ε).bind fun o1 ε => opt ((res o1 ε).bind strsR) fun k => (g ε).bind fun o2 ε => opt ((res o1 ε).bind strsR) fun l => if l.1 = k.1 then opt (strO o2 ε) fun z => opt (ixS l.2 z) fun j => .ok (.fro, .int (j : Nat)) ε else .bad
theorem Sta.strsR {M : Wd} {c : Ctx} {T : List Ow} {σ : L2.St} {H : Hp} {ε : En} {o : Opd} {v : V} {r : Rv} {k : Bool} {ys : List Str} (s : Sta M c (opw σ o v :: T) σ H ε) (e : res o ε = some r) (h : strsR r = some (k, ys)) :
    ∃ p, v = .ref p ∧ if k = true then TqT M.K H p (ys.map V.str) else SqL M.K H p (ys.map V.str) := by
  obtain ⟨sh, d⟩ := r
  have rp := s.readO e
  cases d with
  | lst ds =>
    simp only [R.strsR] at h
    split at h
    · rw [Option.map_eq_some_iff] at h
      obtain ⟨zs, h, e2⟩ := h
      cases e2
      obtain ⟨p, vs, rfl, hq, hr⟩ := rp
      have := strsD_eq h
      subst this
      rw [repL_strs' hr] at hq
      exact ⟨p, rfl, hq⟩
    · cases h
  | tup ds =>
    simp only [R.strsR] at h
    rw [Option.map_eq_some_iff] at h
    obtain ⟨zs, h, e2⟩ := h
    cases e2
    obtain ⟨p, vs, rfl, hq, hr⟩ := rp
    have := strsD_eq h
    subst this
    rw [repL_strs' hr] at hq
    exact ⟨p, rfl, hq⟩
  | _ => cases h
theorem strs_eqV {ys : List Str} {z : Str} {m : Nat} {w : V} (h : (ys.map V.str)[m]? = some w) : ∃ y, w = .str y ∧ ys[m]? = some y := by
  rw [List.getElem?_map, Option.map_eq_some_iff] at h
  obtain ⟨y, h1, h2⟩ := h
  exact ⟨y, h2.symm, h1⟩
section
variable {X : Cx} {W : WX} {a b : Expr} {f g : EvO} {apos pos : Pos}
theorem re_ind (ha : RO X W a f) (hb : RO X W b g) (hs : starEach [b] X.env = [(false, eval b X.env)] := by rfl)
    (hbase : attributeBase a "index" X.env (eval a X.env) = eval a X.env := by rfl)
    (hfew : ((backTo pos (starEach [b] X.env)).all (fun x => !x.1) && (backToKw pos (keywordEach [] X.env)).all (fun x => x.1.isSome)
      && decide ([b].length + ([] : List Keyword).length + (if ([] : List Keyword).isEmpty then 0 else 1) < 30)) = true := by rfl)
    (hline : (apos.endLine == pos.line) = true := by rfl) : RE X W (.Call (.Attribute a "index" apos) [b] [] pos) (sInd f g) := by
  refine ⟨PE.imp (pe_index mt_index mt_tup_index ha.run hb.run hs hbase hfew hline) fun σ H Q ⟨c, T, ε, s, q⟩ => ⟨c, T, ε, s, pst_mono (fun o1 ε1 q v1 H1 s1 => ?_) (pst_bind q)⟩⟩
  obtain ⟨⟨k, ys0⟩, e0, q1⟩ := pst_opt q
  obtain ⟨r0, e00, e01⟩ := Option.bind_eq_some_iff.mp e0
  obtain ⟨p, rfl, hp⟩ := s1.strsR e00 e01
  have go : ∀ {P : V → Hp → Prop}, (∀ (ys : List Str) (z : Str) (j : Nat) (H2 : Hp), (if k = true then TqT X.K H2 p (ys.map V.str) else SqL X.K H2 p (ys.map V.str)) → ys[j]? = some z → (∀ m, m < j → ys[m]? ≠ some z) → Q (.int (j : Nat)) H2 → P (.str z) H2) → tO (wd X) W g σ H1 P := by
    intro P hP
    refine ⟨c, _, ε1, s1, pst_mono (fun o2 ε2 q2 y H2 s2 => ?_) (pst_push (pst_bind q1))⟩
    obtain ⟨⟨k2, ys⟩, e1, q3⟩ := pst_opt q2
    obtain ⟨r, e2, e3⟩ := Option.bind_eq_some_iff.mp e1
    split at q3
    · rename_i hk
      have hk : k2 = k := hk
      subst hk
      obtain ⟨z, e4, q4⟩ := pst_opt q3
      obtain ⟨j, e5, q5⟩ := pst_opt q4
      have hy := s2.strO e4
      subst hy
      obtain ⟨i1, i2⟩ := ixS_get e5
      obtain ⟨p', ep, hp'⟩ := (s2.drop).strsR e2 e3
      cases ep
      exact hP ys z j H2 hp' i1 i2 (q5 _ H2 (s2.drop.drop.lit fun _ => rfl))
    · exact q3.elim
  cases k with
  | true =>
    refine .inr ⟨⟨p, _, rfl, .inr ⟨rfl, hp⟩⟩, go fun ys z j H2 h i1 i2 qq => ?_⟩
    exact ⟨p, ys, z, j, rfl, rfl, TqT.sq h, i1, i2, qq⟩
  | false =>
    refine .inl ⟨⟨p, _, rfl, .inl ⟨rfl, hp⟩⟩, go fun ys z j H2 h i1 i2 qq => ?_⟩
    refine ⟨p, ys.map V.str, .str z, j, .str z, rfl, rfl, h, rfl, flat_strs ys, by rw [List.getElem?_map, i1]; rfl, beq_self_eq_true z, fun m w hm hw => ?_, qq⟩
    obtain ⟨y, rfl, h2⟩ := strs_eqV (z := z) hw
    show (y == z) = false
    exact beq_eq_false_iff_ne.mpr fun e => i2 m hm (e ▸ h2)
end
end R
set_option Elab.async false
set_option linter.all false
set_option autoImplicit false
/-! R22: fields of instances. -/
namespace R
open PySem PySem.Spec PyProof.Rows L2
/-- the class k as the program's top has written it -/
def ClsOk (M : Wd) (k : Nat) : Prop := ∀ C, M.mg (cName k) = some (.ref C) → Cls M.K C ∧ ∀ f ∈ cFlds k, NoAttr M.K C f
theorem cFlds_nodup : ∀ k : Nat, (cFlds k).Nodup
  | 0 => by decide +kernel
  | 1 => by decide +kernel
  | 2 => by decide +kernel
  | 3 => by decide +kernel
  | 4 => by decide +kernel
  | 5 => by decide +kernel
  | 6 => by decide +kernel
  | 7 => by decide +kernel
  | 8 => by decide +kernel
  | 9 => by decide +kernel
  | _ + 10 => by
    show (["book", "block"] : List Str).Nodup
    decide +kernel
theorem lookup_zip : ∀ {ns : List Str} {vs : List V} {n : Nat} {x : Str} {v : V}, ns.Nodup → ns[n]? = some x → vs[n]? = some v → (ns.zip vs).lookup x = some v
  | [], _, _, _, _, _, h, _ => by simp at h
  | _ :: _, [], _, _, _, _, _, h => by simp at h
  | y :: ns, w :: vs, 0, x, v, nd, h, hv => by
    simp at h hv
    subst h; subst hv
    simp [List.lookup]
  | y :: ns, w :: vs, n + 1, x, v, nd, h, hv => by
    simp only [List.getElem?_cons_succ] at h hv
    obtain ⟨h1, h2⟩ := List.nodup_cons.mp nd
    have ne : (x == y) = false := beq_eq_false_iff_ne.mpr fun e => h1 (e ▸ List.mem_of_getElem? h)
    rw [List.zip_cons_cons, List.lookup_cons, ne]
    exact lookup_zip h2 h hv
/-- a field's place -/
def fPos (k : Nat) (x : Str) : Option Nat := (cFlds k).findIdx? (· == x)
theorem fPos_get {k : Nat} {x : Str} {n : Nat} (h : fPos k x = some n) : (cFlds k)[n]? = some x := by
  have go : ∀ {ns : List Str} {n : Nat}, ns.findIdx? (· == x) = some n → ns[n]? = some x := by
    intro ns
    induction ns with
    | nil => intro n h; simp at h
    | cons y ns ih =>
      intro n h
      rw [List.findIdx?_cons] at h
      split at h
      · rename_i hy
        cases h
        simpa using hy
      · rw [Option.map_eq_some_iff] at h
        obtain ⟨m, h1, rfl⟩ := h
        simpa using ih h1
  exact go h
/-- the field x, of an instance of one of the classes ks -/
def fldD (ks : List Nat) (x : Str) (r : Rv) : Option D := match r.2 with
  | .obj k ds => if k ∈ ks ∧ r.1.flat = true then (fPos k x).bind fun n => ds[n]? else none
  | _ => none
def sFld (ks : List Nat) (x : Str) (f : EvO) : EvE := fun ε => (f ε).bind fun o ε => opt ((res o ε).bind (fldD ks x)) fun d => .ok (.fro, d) ε
section
variable {X : Cx} {W : WX} {e : Expr} {f : EvO} {pos : Pos} {ks : List Nat} {x : Str}
theorem re_fld (hk : ∀ k ∈ ks, ClsOk (wd X) k) (he : RO X W e f) (hb : attributeBase e x X.env (eval e X.env) = eval e X.env := by rfl) : RE X W (.Attribute e x pos) (sFld ks x f) :=
  ⟨PE.imp (pe_fld he.run hb) fun σ H Q ⟨c, T, ε, s, q⟩ => ⟨c, T, ε, s, pst_mono (fun o ε1 q v H1 s1 => by
    obtain ⟨d, e1, q1⟩ := pst_opt q
    obtain ⟨r, e2, e3⟩ := Option.bind_eq_some_iff.mp e1
    obtain ⟨sh, dd⟩ := r
    cases dd with
    | obj k ds =>
      simp only [fldD] at e3
      split at e3
      · rename_i hb2
        obtain ⟨n, e4, e5⟩ := Option.bind_eq_some_iff.mp e3
        obtain ⟨vs, ⟨hl, a, C, dx, rfl, hm, ha⟩, s2⟩ := s1.know e2 hb2.2
        obtain ⟨cl, na⟩ := hk k hb2.1 C hm
        obtain ⟨w, hw, _⟩ := (s2.ok.pinned).get (j := n) (d := d) e5
        have hx := fPos_get e4
        exact ⟨a, C, dx, _, w, rfl, ha, cl, na x (List.mem_of_getElem? hx), lookup_zip (cFlds_nodup k) hx hw, q1 w H1 (Sta.item (T := T) ((s2.perm (List.Perm.swap _ _ _)).drop) e5 hw)⟩
      · cases e3
    | _ => cases e3) (pst_bind q)⟩⟩
theorem cls_one {M : Wd} {k : Nat} (h : ClsOk M k) : ∀ j ∈ [k], ClsOk M j := fun j hj => by rw [List.mem_singleton.mp hj]; exact h
end
end R
set_option Elab.async false
set_option linter.all false
set_option autoImplicit false
/-! R23: errors of the program's own that are raised: classes without an own __init__. -/
namespace R
open PySem PySem.Spec PyProof.Rows L2
/-- the error class k, as the program's top has written it, ready to be made by its base's __init__ -/
def ErrOk (M : Wd) (k : Nat) : Prop := ∃ C, M.mg (eName k) = some (.ref C) ∧ PySem.W.keepIn M.K (.ref C) = true ∧ PySem.W.excIn M.K C [.type "ValueError", .type "Exception", .type "BaseException", .type "object"] "ValueError.__new__" = true ∧
  PySem.W.subIn M.K (.ref C) (.type "BaseException") = some true ∧ PySem.W.typeIn M.K (.ref C) = some (.type "type")
def sRaise (k : Nat) : EvS := fun ε => .exc ⟨k, none⟩ ε
theorem raise_exc {M : Wd} {W : WX} {c : Ctx} {T : List Ow} {σ : L2.St} {H : Hp} {ε : En} {D : Ends} {k : Nat} {C : Addr} (s : Sta M c T σ H ε) (q : postS M W c T D (.exc ⟨k, none⟩ ε)) (hm : M.mg (eName k) = some (.ref C)) : W (.ref C) none σ H := by
  refine q (.ref C) none σ H ⟨s.ok.pin fun G => ?_, s.fit⟩
  exact ⟨C, hm, rfl, rfl⟩
section
variable {X : Cx} {W : WX} {p p2 pos rpos : Pos} {x m : Str} {j k : Nat}
theorem rs_raise (k : Nat) (he : ErrOk (wd X) k) (hc : X.calm = true) (tk : Takes X W) (hg : Gl X x) (hx : eName k = x := by rfl) (hdb : (x == ("__debug__" : Str)) = false := by decide) :
    RS X W (.Raise (some (.Call (.Name x p) [.Constant (.str m) j p2] [] pos)) none rpos) (sRaise k) := by
  obtain ⟨C, gC, kC, q, h1, h2⟩ := he
  refine ⟨PS.imp (ps_raise hc tk (pmk_own PySem.F.excBase_ValueError q (hx ▸ gC) kC (raises_own h1 h2) hg hdb)) fun D σ H ⟨c, T, ε, s, z⟩ => ?_⟩
  exact raise_exc s z gC
end
end R
set_option Elab.async false
set_option linter.all false
set_option autoImplicit false
set_option maxRecDepth 100000
/-! R24: enumerate(xs), of a list or a tuple. -/
namespace R
open PySem PySem.Spec PyProof.Rows L2
open Sem (wp)
set_option maxHeartbeats 1000000 in
theorem meets_enum1 {v : Value} {o : Obj} {H : Heap → Prop} (B : Begins v o H) :
    Meets (Builtin.«enumerate.__new__» ⟨[.type "enumerate", v], []⟩) (fun _ Z s => H s.heap ∧
      Z (.ok (.ret (.ref (s.heap.push o).objs.size))) { s with heap := (s.heap.push o).push { cls := .type "enumerate", data := .fields #[.none, .bool false, .ref s.heap.objs.size, rawInt 0, .none, .none] } }) :=
  .of_wp fun prog w A Z s h => by
    obtain ⟨hp, g, d, tk, os⟩ := s
    obtain ⟨h1, h⟩ := h
    have hsub := sub_enumerate
    have start : ∀ {A' : Around} {E : Value → Shared → Prop} {Q : Value → Shared → Prop}, Q (.ref hp.objs.size) ⟨hp.push o, g, d, tk, os⟩ → wpAny (model prog w) A' (pyIter v) Q E ⟨hp, g, d, tk, os⟩ :=
      fun z => B.iter prog w _ _ ⟨hp, g, d, tk, os⟩ _ h1 z
    wp_walk using start
    refine wpAny_stack_any fun st => wpAny_pure ?_
    split
    · rename_i c _ _ _ _ _
      cases (c == Value.type "enumerate")
      · wp_walk using start
        exact ⟨_, rfl, h⟩
      · wp_walk using start
        exact ⟨_, rfl, h⟩
    · wp_walk using start
      exact ⟨_, rfl, h⟩
section
variable {prog : Program} {w : World} {A : Around} {E : Value → Shared → Prop} {s : Shared}
theorem enum_new1 {v : Value} {o : Obj} {H : Heap → Prop} {Q : Value → Shared → Prop} (B : Begins v o H) (h1 : H s.heap)
    (h : ∀ h', IsEnum h' (s.heap.objs.size + 1) s.heap.objs.size 0 .none → h'.get? s.heap.objs.size = some o → (∀ b u, s.heap.get? b = some u → h'.get? b = some u) → Q (.ref (s.heap.objs.size + 1)) { s with heap := h' }) :
    wpAny (model prog w) A (call (.type "enumerate") [v]) Q E s := by
  refine callType_new F.called_enumerate (by decide) (F.typeCall_enumerate_1 _) (F.newCall_enumerate_1 _) (fun obj => F.args_object_init_2 obj _) F.entry_enumerate_new (meets_enum1 B) ⟨h1, ?_⟩
  have hz : (s.heap.push o).objs.size = s.heap.objs.size + 1 := Heap.size_push ..
  show _ ∧ _
  rw [hz]
  have he : IsEnum ((s.heap.push o).push { cls := .type "enumerate", data := .fields #[.none, .bool false, .ref s.heap.objs.size, rawInt 0, .none, .none] }) (s.heap.objs.size + 1) s.heap.objs.size 0 .none := by
    have z := Heap.get?_push_size (s.heap.push o) (o := { cls := .type "enumerate", data := .fields #[.none, .bool false, .ref s.heap.objs.size, rawInt 0, .none, .none] }) rfl
    rw [hz] at z
    exact z
  exact ⟨⟨_, he, rfl⟩, h _ he (Heap.get?_push_of_some _ (Heap.get?_push_size _ B.free)) fun b u x => Heap.get?_push_of_some _ (Heap.get?_push_of_some _ x)⟩
end
section
variable {X : Cx} {W : WX} {e : Expr} {p pos tpos : Pos} {elts : List Expr} {kk : Nat} {f : EvE}
def iEn (f : EvE) : EvI := fun ε => (f ε).bind fun r ε => if r.1.sol = true then (match r.2 with
  | .lst ds => .ok (enumD 0 ds) ε
  | .tup ds => .ok (enumD 0 ds) ε
  | _ => .bad) else .bad
theorem ri_en (hg : Gl X "enumerate") (hm : X.mg "enumerate" = none) (he : RE X W e f) (hs : starEach [e] X.env = [(false, eval e X.env)] := by rfl) : RI X W (.Tuple elts kk tpos) (.Call (.Name "enumerate" p) [e] [] pos) (iEn f) := by
  refine ⟨⟨fun pins s σ H R I q => ?_⟩⟩
  obtain ⟨c, T, ε, st, q⟩ := q
  have q := pst_bind q
  refine Call_ (ld_blt I hg hm boot_enumerate (PyProof.Rows.callWith_type1 (thn ((pa_one he.run hs).run pos pins s σ H (fun vs H1 => ∃ tp a xs, vs = [.ref a] ∧ SqB X.K tp H1 a xs ∧ R (Itec X.K tp a 0) H1) I ⟨c, T, ε, st, pst_mono (fun r ε1 q v H1 s1 => ?_) q⟩) fun us s1 ⟨vs, H1, I1, r1, q1⟩ => ?_) hs rfl))
  · split at q
    · rename_i hb
      have s2 := s1.freeze (Sh.sol_solid _ hb)
      obtain ⟨sh, d⟩ := r
      show ∃ tp a xs, [v] = [V.ref a] ∧ SqB X.K tp H1 a xs ∧ R (Itec X.K tp a 0) H1
      cases d with
      | lst ds =>
        obtain ⟨a, vs, rfl, hl, h1, s3⟩ := s2.pinL
        exact ⟨false, a, vs, rfl, h1, q _ _ _ (src_ec (tp := false) hl) s3⟩
      | tup ds =>
        obtain ⟨a, vs, rfl, hl, h1, s3⟩ := s2.pinT
        exact ⟨true, a, vs, rfl, h1, q _ _ _ (src_ec (tp := true) hl) s3⟩
      | _ => exact q.elim
    · exact q.elim
  · obtain ⟨tp, a, xs, rfl, hq, q⟩ := q1
    obtain ⟨u1, rfl, r2⟩ := vals1 r1
    cases r2
    obtain ⟨its, rv, hb⟩ := invB I1 hq
    have la : a < s1.heap.objs.size := by
      cases tp
      · obtain ⟨o, z, _⟩ := hb; exact Heap.lt_size z
      · obtain ⟨o, z, _⟩ := hb; exact Heap.lt_size z
    refine enum_new1 (beginsB tp a its.toArray) hb fun h' he hit hkp => wpAny_pyIter_enum he ?_
    have I2 : Inv X pins σ H1 { s1 with heap := h' } := I1.kept (t' := s1.toks) hkp
    refine ⟨s1.heap.objs.size + 1, [s1.heap.objs.size + 1, s1.heap.objs.size], _, _, H1, rfl, I2, turn_ec tp a (s1.heap.objs.size + 1) s1.heap.objs.size (Nat.ne_of_lt la) (Nat.ne_of_lt (Nat.lt_succ_of_lt la)), ⟨⟨.none, by simpa using he⟩, ?_, Nat.succ_ne_self _⟩, fun b hb => ?_, q⟩
    · cases tp
      · exact ⟨_, hit, rfl, rfl⟩
      · exact ⟨_, hit, rfl, rfl⟩
    · have z : s1.heap.objs.size ≤ b := by
        rcases List.mem_cons.mp hb with z | z
        · rw [z]; exact Nat.le_succ _
        · rw [List.mem_singleton.mp z]; exact Nat.le_refl _
      exact I1.fpOk z (I1.hok.fresh z)
end
end R
set_option Elab.async false
set_option linter.all false
set_option autoImplicit false
/-! R25: methods of the program's own classes; calls without arguments. -/
namespace R
open PySem PySem.Spec PyProof.Rows L2
section
variable {X : Cx} {W : WX} {k : Nat} {f C : Addr} {fd : FuncData} {ps : List Str} {sp : Sp} {x m : Str} {p pos apos : Pos} {e o : Expr} {es : List Expr} {ta : TE} {t : TA}
def tMeS (C : Addr) (m : Str) (sp : Sp) (W : WX) (ta : TE) (t : TA) : TE := fun σ H Q => ta σ H fun y H1 => ∃ a dx fs, y = .ref a ∧ H1 a = some (.ins C dx fs) ∧ fs.lookup m = none ∧ t σ H1 fun vs H2 => sp (.ref a :: vs) H2 Q (WE W σ)
theorem pe_meS {pl : Sem Bool} (ho : PE X o ta) (cl : Cls X.K C) (hm : Meth X.K C m f) (G : FnOk X.prog X.w X.K X.mg X.base (L2.CX X.prog X.w) k f fd ps sp) (hr : Room k X.A) (hb : Binds X.K fd ps []) (tk : Takes X W) (ha : PA X (e :: es) t)
    (hst : starEach (e :: es) X.env = (false, eval e X.env) :: starEach es X.env := by rfl) (hpl : (backTo pos (starEach es X.env)).any (·.1) = false := by rfl)
    (ht : eval (.Call (.Attribute o m apos) (e :: es) [] pos) X.env = (do
      let r ← eval o X.env
      standAt apos.atName
      let (g, first) ← holding [r] (getMethod r m pl)
      callWith pos g first (backTo pos (starEach (e :: es) X.env)) (backToKw pos (keywordEach [] X.env))) := by rfl) : PE X (.Call (.Attribute o m apos) (e :: es) [] pos) (tMeS C m sp W ta t) := by
  refine ⟨fun pins s σ H Q I h => PySem.W.methodCall_KW (pl := pl) (thn (ho.run pins s σ H _ I h) fun u s1 z => ?_) ht⟩
  obtain ⟨y, H1, I1, ry, a, dx, fs, rfl, ea, hl, q⟩ := z
  cases (show u = Value.ref a from ry)
  refine getmeth_ok I1 ea cl hm hl (PySem.W.callWith_K (first := [.ref a]) (h₀ := X.base) I.ok.mod.kin hm.kp (thn (ha.run pos pins s1 σ H1 _ I1 q) fun us s2 z => ?_) hst hpl)
  obtain ⟨vs, H2, I2, rv, q2⟩ := z
  exact ⟨I2.kIn, run_fnS (us := .ref a :: us) (vs := .ref a :: vs) G hr hb (passAt tk σ) I2 (.cons rfl rv) q2⟩
theorem pe_meS0 {pl : Sem Bool} (ho : PE X o ta) (cl : Cls X.K C) (hm : Meth X.K C m f) (G : FnOk X.prog X.w X.K X.mg X.base (L2.CX X.prog X.w) k f fd ps sp) (hr : Room k X.A) (hb : Binds X.K fd ps []) (tk : Takes X W)
    (ht : eval (.Call (.Attribute o m apos) [] [] pos) X.env = (do
      let r ← eval o X.env
      standAt apos.atName
      let (g, first) ← holding [r] (getMethod r m pl)
      callWith pos g first (backTo pos (starEach [] X.env)) (backToKw pos (keywordEach [] X.env))) := by rfl) : PE X (.Call (.Attribute o m apos) [] [] pos) (tMeS C m sp W ta tNil) := by
  refine ⟨fun pins s σ H Q I h => PySem.W.methodCall_KW (pl := pl) (thn (ho.run pins s σ H _ I h) fun u s1 z => ?_) ht⟩
  obtain ⟨y, H1, I1, ry, a, dx, fs, rfl, ea, hl, q⟩ := z
  cases (show u = Value.ref a from ry)
  exact getmeth_ok I1 ea cl hm hl (PySem.W.callWith_K0 (first := [.ref a]) I1.kIn hm.kp (run_fnS (us := [.ref a]) (vs := [.ref a]) G hr hb (passAt tk σ) I1 (.cons rfl .nil) q))
theorem pe_fn0S (G : FnOk X.prog X.w X.K X.mg X.base (L2.CX X.prog X.w) k f fd ps sp) (hr : Room k X.A) (hg : Gl X x) (hm : X.mg x = some (.ref f)) (hk : PySem.W.keepIn X.K (.ref f) = true) (hb : Binds X.K fd ps []) (tk : Takes X W)
    (hdb : (x == ("__debug__" : Str)) = false := by decide) : PE X (.Call (.Name x p) [] [] pos) (fun σ H Q => sp [] H Q (WE W σ)) :=
  ⟨fun pins s σ H Q I h => wpAny_Call_Name_kw (ld_glob I hg hm (PySem.W.callWith_K0 I.kIn hk (run_fnS (us := []) G hr hb (passAt tk σ) I .nil h)) hdb)⟩
end
/-! ### as the generator uses them -/
section
variable {P : Program} {w : World} {K : PySem.W.Frag} {mg : Str → Option Value} {base : Heap}
/-- the method m of the class c, of n arguments behind the instance, answers as F -/
def CalleeM (P : Program) (w : World) (K : PySem.W.Frag) (mg : Str → Option Value) (base : Heap) (k : Nat) (c : Nat) (m : Str) (n : Nat) (F : Fn) : Prop :=
  ∃ C fa fd ps, mg (cName c) = some (.ref C) ∧ Cls K C ∧ Meth K C m fa ∧ ps.length = n + 1 ∧ FnOk P w K mg base (L2.CX P w) k fa fd ps (spOf ⟨K, mg⟩ (n + 1) F) ∧ Binds K fd ps []
theorem CalleeM.le {k c n : Nat} {m : Str} {F B : Fn} (h : CalleeM P w K mg base k c m n B) (e : FLe F B) : CalleeM P w K mg base k c m n F := by
  obtain ⟨C, fa, fd, ps, h0, h1, h2, h3, h4, h5⟩ := h
  exact ⟨C, fa, fd, ps, h0, h1, h2, h3, h4.imp (spOf_le e), h5⟩
end
/-- o.m(..), o an instance of the class c -/
def sMe (c : Nat) (F : Fn) (f : EvE) (g : EvG) : EvE := fun ε => (f ε).bind fun r ε => if r.1.sol = true then (match r.2 with
  | .obj k ds => if k = c then (g ε).bind fun as ε => opt (argRvs as ε) fun rs => frOut (F ((.fro, .obj k ds) :: rs)) ε else .bad
  | _ => .bad) else .bad
theorem lookup_none {ns : List Str} {vs : List V} {m : Str} (h : m ∉ ns) : (ns.zip vs).lookup m = none := by
  induction ns generalizing vs with
  | nil => simp
  | cons y ns ih =>
    cases vs with
    | nil => simp
    | cons w vs =>
      rw [List.zip_cons_cons, List.lookup_cons]
      have hy : (m == y) = false := beq_eq_false_iff_ne.mpr fun e => h (e ▸ List.mem_cons_self)
      rw [hy]
      exact ih fun z => h (List.mem_cons_of_mem _ z)
/-- the receiver, frozen: its cell is told, it is the first argument -/
theorem Sta.recv {M : Wd} {c : Ctx} {T : List Ow} {σ : L2.St} {H : Hp} {ε : En} {v : V} {k : Nat} {ds : List D} (s : Sta M c (.val v .fro (.obj k ds) :: T) σ H ε) :
    ∃ a C dx vs, v = .ref a ∧ M.mg (cName k) = some (.ref C) ∧ H a = some (.ins C dx ((cFlds k).zip vs)) := by
  obtain ⟨a, C, dx, vs, e, _, hm, ha, _⟩ := s.read
  exact ⟨a, C, dx, vs, e, hm, ha⟩
section
variable {X : Cx} {W : WX} {o e : Expr} {es : List Expr} {f : EvE} {g : EvG} {k c n : Nat} {F : Fn} {m : Str} {apos pos : Pos}
theorem me_run {M : Wd} {cx : Ctx} {T : List Ow} {σ : L2.St} {H : Hp} {ε : En} {Q : VK} {as : List Arg} {vs : List V} {rs : List Rv} {v : V} {d : D} (hn : as.length = n) (s : Sta M cx (argos σ as vs ++ (.val v .fro d :: T)) σ H ε) (hl : as.length = vs.length)
    (e1 : argRvs as ε = some rs) (q : postE M W cx T σ Q (frOut (F ((.fro, d) :: rs)) ε)) : spOf M (n + 1) F (v :: vs) H Q (WE W σ) := by
  have s2 : Sta M cx (argos σ (.cap (.fro, d) :: as) (v :: vs) ++ T) σ H ε := s.perm List.perm_middle
  exact call_run (as := .cap (.fro, d) :: as) (vs := v :: vs) (rs := (.fro, d) :: rs) (by rw [List.length_cons, hn]) s2 (by rw [List.length_cons, List.length_cons, hl]) (by simp only [argRvs, argRv, e1]) q
theorem re_me (G : CalleeM X.prog X.w X.K X.mg X.base k c m n F) (hr : Room k X.A) (tk : Takes X W) (ho : RE X W o f) (ha : RG X W (e :: es) g) (hlen : ∀ ε as ε', g ε = .ok as ε' → as.length = n) (hm : m ∉ cFlds c)
    (hst : starEach (e :: es) X.env = (false, eval e X.env) :: starEach es X.env := by rfl) (hpl : (backTo pos (starEach es X.env)).any (·.1) = false := by rfl) {pl : Sem Bool}
    (ht : eval (.Call (.Attribute o m apos) (e :: es) [] pos) X.env = (do
      let r ← eval o X.env
      standAt apos.atName
      let (g, first) ← holding [r] (getMethod r m pl)
      callWith pos g first (backTo pos (starEach (e :: es) X.env)) (backToKw pos (keywordEach [] X.env))) := by rfl) : RE X W (.Call (.Attribute o m apos) (e :: es) [] pos) (sMe c F f g) := by
  obtain ⟨C, fa, fd, ps, hC, cl, hM, hp, hF, hb⟩ := G
  refine ⟨PE.imp (pe_meS ho.run cl hM hF hr hb tk ha.run hst hpl ht) fun σ H Q ⟨cx, T, ε, s, q⟩ => ⟨cx, T, ε, s, pst_mono (fun r ε1 q9 v H1 s1 => ?_) (pst_bind q)⟩⟩
  clear q
  split at q9
  · rename_i hs
    have s2 := s1.freeze (Sh.sol_solid _ hs)
    obtain ⟨sh, d⟩ := r
    cases d with
    | obj k1 ds =>
      simp only at q9
      split at q9
      · rename_i hk
        subst hk
        obtain ⟨a, C', dx, vs, rfl, hm', ea⟩ := s2.recv
        have hm' := Eq.trans hC.symm hm'
        cases hm'
        refine ⟨a, dx, _, rfl, ea, lookup_none hm, cx, _, ε1, s2, ?_⟩
        have q8 := pst_bind q9
        cases eg : g ε1 with
        | bad => rw [eg] at q8; exact q8
        | exc x ε => rw [eg] at q8; exact pst_push q8
        | ok as ε2 =>
          rw [eg] at q8
          intro vs2 H2 hl s3
          obtain ⟨rs, e1, q7⟩ := pst_opt q8
          exact me_run (hlen _ _ _ eg) s3 hl e1 q7
      · exact q9.elim
    | _ => exact q9.elim
  · exact q9.elim
theorem re_me0 (G : CalleeM X.prog X.w X.K X.mg X.base k c m 0 F) (hr : Room k X.A) (tk : Takes X W) (ho : RE X W o f) (hm : m ∉ cFlds c) {pl : Sem Bool}
    (ht : eval (.Call (.Attribute o m apos) [] [] pos) X.env = (do
      let r ← eval o X.env
      standAt apos.atName
      let (g, first) ← holding [r] (getMethod r m pl)
      callWith pos g first (backTo pos (starEach [] X.env)) (backToKw pos (keywordEach [] X.env))) := by rfl) : RE X W (.Call (.Attribute o m apos) [] [] pos) (sMe c F f gNl) := by
  obtain ⟨C, fa, fd, ps, hC, cl, hM, hp, hF, hb⟩ := G
  refine ⟨PE.imp (pe_meS0 ho.run cl hM hF hr hb tk ht) fun σ H Q ⟨cx, T, ε, s, q⟩ => ⟨cx, T, ε, s, pst_mono (fun r ε1 q9 v H1 s1 => ?_) (pst_bind q)⟩⟩
  clear q
  split at q9
  · rename_i hs
    have s2 := s1.freeze (Sh.sol_solid _ hs)
    obtain ⟨sh, d⟩ := r
    cases d with
    | obj k1 ds =>
      simp only at q9
      split at q9
      · rename_i hk
        subst hk
        obtain ⟨a, C', dx, vs, rfl, hm', ea⟩ := s2.recv
        have hm' := Eq.trans hC.symm hm'
        cases hm'
        refine ⟨a, dx, _, rfl, ea, lookup_none hm, ?_⟩
        have q8 := pst_bind q9
        obtain ⟨rs, e1, q7⟩ := pst_opt q8
        exact me_run (as := []) (vs := []) rfl s2 rfl e1 q7
      · exact q9.elim
    | _ => exact q9.elim
  · exact q9.elim
/-- x(): a def without arguments -/
def sCall0 (F : Fn) : EvE := fun ε => frOut (F []) ε
theorem re_fn0 {x : Str} {p : Pos} (G : Callee X.prog X.w X.K X.mg X.base k x 0 F) (hr : Room k X.A) (hg : Gl X x) (tk : Takes X W) (hdb : (x == ("__debug__" : Str)) = false := by decide) : RE X W (.Call (.Name x p) [] [] pos) (sCall0 F) := by
  obtain ⟨fa, fd, ps, hp, hF, hm, hk, hb⟩ := G
  exact ⟨PE.imp (pe_fn0S hF hr hg hm hk hb tk hdb) fun σ H Q ⟨cx, T, ε, s, q⟩ => call_run (as := []) (vs := []) rfl s rfl rfl q⟩
end
end R
set_option Elab.async false
set_option linter.all false
set_option autoImplicit false
/-! R26: fields stored; __init__; instances made. -/
namespace R
open PySem PySem.Spec PyProof.Rows L2
/-! ### the field of an instance of one's own is stored -/
theorem putF_new : ∀ {ns : List Str} {vs : List V} {x : Str} {v : V}, ns.Nodup → ns[vs.length]? = some x → putF x v (ns.zip vs) = ns.zip (vs ++ [v])
  | [], vs, x, v, _, h => by simp at h
  | y :: ns, [], x, v, _, h => by
    simp at h
    subst h
    simp [putF]
  | y :: ns, w :: vs, x, v, nd, h => by
    obtain ⟨h1, h2⟩ := List.nodup_cons.mp nd
    simp only [List.length_cons, List.getElem?_cons_succ] at h
    have ne : ¬ y = x := fun e => h1 (e ▸ List.mem_of_getElem? h)
    rw [List.zip_cons_cons]
    show (if y = x then _ else (y, w) :: putF x v (ns.zip vs)) = _
    rw [if_neg ne, putF_new h2 h]
    rfl
theorem putF_old : ∀ {ns : List Str} {vs : List V} {x : Str} {v : V} {n : Nat}, ns.Nodup → ns[n]? = some x → n < vs.length → putF x v (ns.zip vs) = ns.zip (vs.set n v)
  | [], vs, x, v, _, _, h, _ => by simp at h
  | y :: ns, [], x, v, _, _, h, hl => by simp at hl
  | y :: ns, w :: vs, x, v, 0, nd, h, _ => by
    simp at h
    subst h
    rw [List.zip_cons_cons]
    show (if y = y then _ else _) = _
    rw [if_pos rfl]
    rfl
  | y :: ns, w :: vs, x, v, n + 1, nd, h, hl => by
    obtain ⟨h1, h2⟩ := List.nodup_cons.mp nd
    simp only [List.getElem?_cons_succ] at h
    have ne : ¬ y = x := fun e => h1 (e ▸ List.mem_of_getElem? h)
    rw [List.zip_cons_cons]
    show (if y = x then _ else (y, w) :: putF x v (ns.zip vs)) = _
    rw [if_neg ne, putF_old h2 h (by simpa using hl)]
    rfl
theorem its_snoc : ∀ {ss : List Sh} {ds : List D} {vs : List V} (s : Sh) (d : D) (v : V), ss.length = ds.length → ds.length = vs.length → its (ss ++ [s]) (ds ++ [d]) (vs ++ [v]) = its ss ds vs ++ [.val v s d]
  | [], [], [], _, _, _, _, _ => rfl
  | a :: ss, b :: ds, e :: vs, s, d, v, h1, h2 => by
    show Ow.val e a b :: its (ss ++ [s]) (ds ++ [d]) (vs ++ [v]) = _
    rw [its_snoc s d v (Nat.succ.inj h1) (Nat.succ.inj h2)]
    rfl
theorem its_set : ∀ {ss : List Sh} {ds : List D} {vs : List V} {n : Nat} (s : Sh) (d : D) (v : V), ss.length = ds.length → ds.length = vs.length → n < vs.length → ∃ w, (Ow.val v s d :: its ss ds vs).Perm (w :: its (ss.set n s) (ds.set n d) (vs.set n v))
  | [], [], [], _, _, _, _, _, _, h => by simp at h
  | a :: ss, b :: ds, e :: vs, 0, s, d, v, h1, h2, _ => ⟨.val e a b, .swap _ _ _⟩
  | a :: ss, b :: ds, e :: vs, n + 1, s, d, v, h1, h2, h => by
    obtain ⟨w, hp⟩ := its_set (n := n) s d v (Nat.succ.inj h1) (Nat.succ.inj h2) (by simpa using h)
    exact ⟨w, (List.Perm.swap _ _ _).trans ((hp.cons _).trans (.swap _ _ _))⟩
/-- the fields with one stored -/
def putO (k : Nat) (x : Str) (ss : List Sh) (ds : List D) (q : Rv) : Option (List Sh × List D) :=
  (fPos k x).bind fun n => if n = ds.length then some (ss ++ [q.1], ds ++ [q.2]) else if n < ds.length then some (ss.set n q.1, ds.set n q.2) else none
/-- the instance with a field stored -/
def putD (x : Str) (r q : Rv) : Option Rv := match r with
  | (.obj ss, .obj k ds) => (putO k x ss ds q).map fun z => (.obj z.1, .obj k z.2)
  | (.slf a ss, .obj k ds) => (putO k x ss ds q).map fun z => (.slf a z.1, .obj k z.2)
  | _ => none
def kOf : D → Nat
  | .obj k _ => k
  | _ => 0
theorem cFlds_len (k : Nat) : (cFlds k).length < 1000 := by
  have : ∀ k, (cFlds k).length ≤ 7 := fun k => by
    match k with
    | 0 | 1 | 2 | 3 | 4 | 5 | 6 | 7 | 8 | 9 => decide
    | _ + 10 => show (2 : Nat) ≤ 7; decide
  exact Nat.lt_of_le_of_lt (this k) (by decide)
theorem OK.putFld {M : Wd} {c : Ctx} {H : Hp} {L : List Ow} {w v : V} {k : Nat} {x : Str} {ss ss' : List Sh} {ds ds' : List D} {q : Rv} (ok : OK M c H (.val w (.obj ss) (.obj k ds) :: .val v q.1 q.2 :: L)) (e : putO k x ss ds q = some (ss', ds')) :
    ∃ a C dx fs, w = .ref a ∧ M.mg (cName k) = some (.ref C) ∧ H a = some (.ins C dx fs) ∧ x ∈ cFlds k ∧ fs.length < 1000 ∧ OK M c (L2.upd H a (.ins C dx (putF x v fs))) (.val w (.obj ss') (.obj k ds') :: L) := by
  unfold putO at e
  obtain ⟨n, e2, e3⟩ := Option.bind_eq_some_iff.mp e
  have hx := fPos_get e2
  obtain ⟨a, C, dx, vs, rfl, hC, lv, l1, l2, ok1⟩ := OK.openO ok
  refine ⟨a, C, dx, _, rfl, hC, ok1.cell, List.mem_of_getElem? hx, Nat.lt_of_le_of_lt (by rw [List.length_zip]; exact Nat.min_le_left _ _) (cFlds_len k), ?_⟩
  split at e3
  · rename_i hn
    cases e3
    subst hn
    rw [l2] at hx
    rw [putF_new (cFlds_nodup k) hx]
    have lv2 : (vs ++ [v]).length ≤ (cFlds k).length := by
      rw [List.length_append, List.length_singleton]
      exact (List.getElem?_eq_some_iff.mp hx).1
    have ok2 : OK M c (L2.upd H a (.ins C dx ((cFlds k).zip (vs ++ [v])))) (.cel a (.ins C dx ((cFlds k).zip (vs ++ [v]))) :: (its (ss ++ [q.1]) (ds ++ [q.2]) (vs ++ [v]) ++ L)) := by
      refine ok1.upd.perm (.cons _ ?_)
      rw [its_snoc _ _ _ l1 l2, List.append_assoc]
      rfl
    exact OK.closeO hC lv2 (by rw [List.length_append, List.length_append, l1]; rfl) (by rw [List.length_append, List.length_append, l2]; rfl) ok2
  · split at e3
    · rename_i hn2
      cases e3
      have hn3 : n < vs.length := l2 ▸ hn2
      rw [putF_old (cFlds_nodup k) hx hn3]
      obtain ⟨w0, hp⟩ := its_set q.1 q.2 v l1 l2 hn3
      have ok2 : OK M c (L2.upd H a (.ins C dx ((cFlds k).zip (vs.set n v)))) (.cel a (.ins C dx ((cFlds k).zip (vs.set n v))) :: (its (ss.set n q.1) (ds.set n q.2) (vs.set n v) ++ L)) := by
        have o1 : OK M c (L2.upd H a (.ins C dx ((cFlds k).zip (vs.set n v)))) (w0 :: .cel a (.ins C dx ((cFlds k).zip (vs.set n v))) :: (its (ss.set n q.1) (ds.set n q.2) (vs.set n v) ++ L)) := by
          refine ok1.upd.perm ?_
          refine List.Perm.trans (.cons _ ?_) (List.Perm.swap _ _ _)
          exact List.Perm.trans (List.perm_middle (a := Ow.val v q.1 q.2) (l₁ := its ss ds vs) (l₂ := L)) (List.Perm.append_right L hp)
        exact o1.drop
      exact OK.closeO hC (by rw [List.length_set]; exact lv) (by rw [List.length_set, List.length_set]; exact l1) (by rw [List.length_set, List.length_set]; exact l2) ok2
    · cases e3
/-- an instance whose address is told -/
theorem OK.slfO {M : Wd} {c : Ctx} {H : Hp} {L : List Ow} {w : V} {a : Addr} {ss : List Sh} {d : D} (ok : OK M c H (.val w (.slf a ss) d :: L)) : w = .ref a ∧ OK M c H (.val w (.obj ss) d :: L) := by
  have ⟨G, Fs, x⟩ := ok
  refine ⟨?_, ok.map1 fun G F _ q => q.2⟩
  obtain ⟨g0, gh, un, own, nd, ap⟩ := x
  cases own with
  | cons h1 h2 => exact h1.1
theorem OK.oSlf {M : Wd} {c : Ctx} {H : Hp} {L : List Ow} {a : Addr} {ss : List Sh} {d : D} (ok : OK M c H (.val (.ref a) (.obj ss) d :: L)) : OK M c H (.val (.ref a) (.slf a ss) d :: L) := ok.map1 fun G F _ q => ⟨rfl, q⟩
/-- name.x = value -/
def sFst (ks : List Nat) (x : Str) (i : Nat) (f : EvE) : EvS := fun ε => (f ε).bind fun q ε => opt ((ε[i]?).join) fun r => if kOf r.2 ∈ ks then opt (putD x r q) fun r' => .ok .nx (ε.set i (some r')) else .bad
section
variable {X : Cx} {W : WX} {e : Expr} {f : EvE} {p apos pos : Pos} {ks : List Nat} {x y : Str}
theorem rs_fst (hk : ∀ k ∈ ks, ClsOk (wd X) k) (he : RE X W e f) {i : Nat} (hN : X.N[i]? = some y := by rfl) (hv : Vis X.env.scope y := by first | exact Or.inl rfl | exact Or.inr (Or.inl rfl) | exact Or.inr (Or.inr rfl)) (hd : (y == ("__debug__" : Str)) = false := by decide)
    (hcd : (y == ("__classdict__" : Str)) = false := by decide) (hs : swapsWith e (some (.Attribute (.Name y p) x apos)) pos.line X.env = pure false := by rfl) : RS X W (.Assign [.Attribute (.Name y p) x apos] e pos) (sFst ks x i f) :=
  ⟨PS.imp (ps_fld (pv i hN hv hd hcd) he.run hs) fun D' σ H ⟨c, T, ε, s, q⟩ => ⟨c, T, ε, s, pst_of_S (pstS_mono (fun q1 ε1 q9 v H1 s1 => by
    cases e0 : (ε1[i]?).join with
    | none => rw [e0] at q9; exact q9.elim
    | some r =>
      rw [e0, opt_some] at q9
      split at q9
      · rename_i hks
        cases e1 : putD x r q1 with
        | none => rw [e1] at q9; exact q9.elim
        | some r' =>
          rw [e1, opt_some] at q9
          have e0 := join_some e0
          obtain ⟨w, hw⟩ := s1.fit.has _ _ e0
          refine ⟨w, hw, ?_⟩
          obtain ⟨sh, d⟩ := r
          have s2 : Sta (wd X) c (.val w sh d :: .val v q1.1 q1.2 :: T) σ H1 (ε1.set i none) := Sta.take s1 e0 hw
          unfold putD at e1
          split at e1
          · rename_i ss k ds eq
            cases eq
            obtain ⟨⟨ss', ds'⟩, e2, rfl⟩ := Option.map_eq_some_iff.mp e1
            obtain ⟨a, C, dx, fs, rfl, hC', hc, hm, hl, ok⟩ := OK.putFld (L := T ++ slots σ (ε1.set i none)) s2.ok e2
            obtain ⟨cl, na⟩ := hk k hks _ hC'
            exact ⟨a, _, dx, fs, rfl, hc, cl, na x hm, hl, q9 _ _ (Sta.put (r := (.obj ss', .obj k ds')) (T := T) ⟨ok, s2.fit⟩ (lt_of_slot e0) hw)⟩
          · rename_i a0 ss k ds eq
            cases eq
            obtain ⟨⟨ss', ds'⟩, e2, rfl⟩ := Option.map_eq_some_iff.mp e1
            obtain ⟨ew, ok0⟩ := OK.slfO (L := (.val v q1.1 q1.2 :: T) ++ slots σ (ε1.set i none)) s2.ok
            obtain ⟨a, C, dx, fs, rfl, hC', hc, hm, hl, ok⟩ := OK.putFld (L := T ++ slots σ (ε1.set i none)) ok0 e2
            cases ew
            obtain ⟨cl, na⟩ := hk k hks _ hC'
            exact ⟨_, _, dx, fs, rfl, hc, cl, na x hm, hl, q9 _ _ (Sta.put (r := (.slf _ ss', .obj k ds')) (T := T) ⟨OK.oSlf ok, s2.fit⟩ (lt_of_slot e0) hw)⟩
          · cases e1
      · exact q9.elim) (pstS_bind q))⟩⟩
end
end R
set_option Elab.async false
set_option linter.all false
set_option autoImplicit false
/-! R27: __init__; instances made by keywords. -/
namespace R
open PySem PySem.Spec PyProof.Rows L2
/-- what is handed to a callee, and what comes back -/
theorem call_args {M : Wd} {c : Ctx} {T : List Ow} {σ : L2.St} {H : Hp} {ε : En} {as : List Arg} {vs : List V} {rs : List Rv} (s : Sta M c (argos σ as vs ++ T) σ H ε) (hl : as.length = vs.length) (e : argRvs as ε = some rs) :
    ∃ c', OK M c' H (argw vs rs) ∧ rs.length = vs.length ∧ (∀ H' v sh d, sh.solid → OK M c' H' [.val v sh d] → Sta M c (.val v sh d :: T) σ H' ε) ∧ ∀ H' φ, OK M c' H' [.pin φ] → Sta M c (.pin φ :: T) σ H' ε := by
  obtain ⟨La, Ll, s1, h1, p1, l1⟩ := args_split as (Acc := []) (T := T) s hl e
  have ok : OK M c H (La ++ (T ++ slots σ ε)) := by
    have z := s1.ok
    rw [List.nil_append, List.append_assoc] at z
    exact z
  obtain ⟨c', o1, o2, o3⟩ := ok.call h1
  exact ⟨c', o1.perm p1, l1, fun H' v sh d hs z => ⟨o2 H' v sh d hs z, s.fit⟩, fun H' φ z => ⟨o3 H' φ z, s.fit⟩⟩
/-! ### the promise of an __init__ -/
abbrev FnI := Addr → Fn
def spIni (M : Wd) (k n : Nat) (F : FnI) : Sp := fun vs H Q E => ∃ (c : Ctx) (a : Addr) (ws : List V) (rs : List Rv), vs = .ref a :: ws ∧ ws.length = n ∧ rs.length = n ∧ OK M c H (.val (.ref a) (.slf a []) (.obj k []) :: argw ws rs) ∧
  match F a rs with
  | .ok r => ∀ H', OK M c H' [.val (.ref a) r.1 r.2] → Q .non H'
  | .exc x => ∀ cls d H', OK M c H' [.pin (ExcR M x cls d)] → E cls d H'
  | .bad => False
def runI (N k : Nat) (f : EvS) : FnI := fun a rs => match f (env0 N ((.slf a [], .obj k []) :: rs)) with
  | .ok .nx ε => match (ε[0]?).join with
    | some r => (match r.1 with
      | .slf b ss => if b = a then .ok (.obj ss, r.2) else .bad
      | _ => .bad)
    | none => .bad
  | .ok _ _ => .bad
  | .exc x _ => .exc x
  | .bad => .bad
theorem ini_start {M : Wd} {P : L2.St → Prop} {W : WX} {c : Ctx} {H : Hp} {a : Addr} {ws : List V} {rs : List Rv} {N : List Str} {k n : Nat} {u : EvS} {Q : VK} {E : XK} (h1 : ws.length = n) (h2 : rs.length = n) (ok : OK M c H (.val (.ref a) (.slf a []) (.obj k []) :: argw ws rs))
    (q : match runI N.length k u a rs with
      | .ok r => ∀ H', OK M c H' [.val (.ref a) r.1 r.2] → Q .non H'
      | .exc x => ∀ cls d H', OK M c H' [.pin (ExcR M x cls d)] → E cls d H'
      | .bad => False) : tS M (wE E) u { nx := fun _ H' => Q .non H', rt := Q } (L2.start N (.ref a :: ws)) H := by
  refine ⟨c, [], env0 N.length ((.slf a [], .obj k []) :: rs), sta_start ok (by rw [List.length_cons, List.length_cons, h1, h2]), ?_⟩
  show pstS _ _ _ _ _ _
  simp only [runI] at q
  cases e : u (env0 N.length ((.slf a [], .obj k []) :: rs)) with
  | bad => rw [e] at q; exact q
  | exc x ε => rw [e] at q; exact fun cls d σ H st => q cls d H ((st.ok.perm (List.perm_append_comm (l₁ := [_]) (l₂ := slots σ ε))).drops)
  | ok fl ε =>
    rw [e] at q
    cases fl with
    | nx =>
      simp only at q
      intro σ H st
      cases e2 : (ε[0]?).join with
      | none => rw [e2] at q; exact q.elim
      | some r =>
        rw [e2] at q
        obtain ⟨sh, d⟩ := r
        cases sh with
        | slf b ss =>
          simp only at q
          by_cases hb : b = a
          · rw [if_pos hb] at q
            subst hb
            have e2 := join_some e2
            obtain ⟨v, hv⟩ := st.fit.has _ _ e2
            have s2 := Sta.take st e2 hv
            obtain ⟨ev, ok2⟩ := OK.slfO (L := [] ++ slots σ (ε.set 0 none)) s2.ok
            subst ev
            exact q H ((ok2.perm (List.perm_append_comm (l₁ := [_]) (l₂ := [] ++ slots σ (ε.set 0 none)))).drops)
          · rw [if_neg hb] at q
            exact q.elim
        | _ => exact q.elim
    | bk => exact q.elim
    | ct => exact q.elim
    | rt r => exact q.elim
section
variable {P : Program} {w : World} {K : PySem.W.Frag} {mg : Str → Option Value} {base : Heap}
theorem FunD.okI {x qual : Str} {params : Arguments} {body : List Stmt} {scope : Scope} {kws : List (Str × V)} {f : Addr} {fd : FuncData} {N ps : List Str} {k n c : Nat} {u : EvS} (F : FunD K x qual params body scope [] kws f fd) (S : FnScope N ps scope) (hn : ps.length = n + 1)
    (hbody : ∀ (cdv : Value) (A : Around) (outer : List Env) (s : Shared) (H : Hp) (E : XK), Room k (A.deeper (envOfC qual scope s.heap.objs.size f cdv)) →
      RSs (cxOf (L2.CX P w) P w K mg base N qual scope f cdv A outer s H E) (wE E) body u) : FnOk P w K mg base (L2.CX P w) (k + 1) f fd ps (spIni ⟨K, mg⟩ c n (runI N.length c u)) := by
  refine F.ok S (fun vs H Q E h => ?_) (fun cdv A outer s H vs Q E hr h => ⟨_, (hbody cdv A outer s H E hr).run, ?_⟩)
  · obtain ⟨_, a, ws, rs, rfl, h1, _⟩ := h
    rw [List.length_cons, h1, hn]
  · obtain ⟨cx, a, ws, rs, rfl, h1, h2, ok, q⟩ := h
    exact ini_start (P := fun _ => True) (W := wE E) h1 h2 ok q
theorem Fun.okI {x qual : Str} {st : Stmt} {f : Addr} {fd : FuncData} {N ps : List Str} {k n c : Nat} {u : EvS} (F : L2.Fun K x qual st f fd) (S : FnScope N ps (defScope st)) (hn : ps.length = n + 1)
    (hbody : ∀ (cdv : Value) (A : Around) (outer : List Env) (s : Shared) (H : Hp) (E : XK), Room k (A.deeper (envOfC qual (defScope st) s.heap.objs.size f cdv)) →
      RSs (cxOf (L2.CX P w) P w K mg base N qual (defScope st) f cdv A outer s H E) (wE E) (defBody st) u) : FnOk P w K mg base (L2.CX P w) (k + 1) f fd ps (spIni ⟨K, mg⟩ c n (runI N.length c u)) := by
  refine F.okX S (fun vs H Q E h => ?_) (fun cdv A outer s H vs Q E hr h => ⟨_, (hbody cdv A outer s H E hr).run, ?_⟩)
  · obtain ⟨_, a, ws, rs, rfl, h1, _⟩ := h
    rw [List.length_cons, h1, hn]
  · obtain ⟨cx, a, ws, rs, rfl, h1, h2, ok, q⟩ := h
    exact ini_start (P := fun _ => True) (W := wE E) h1 h2 ok q
end
/-- a plain function in the place of an __init__'s -/
def FLeI (F : Fn) (B : FnI) : Prop := ∀ a rs, F rs = .bad ∨ B a rs = F rs
theorem spIni_le {M : Wd} {k n : Nat} {F : Fn} {B : FnI} (h : FLeI F B) : ∀ vs H Q E, spIni M k n (fun _ => F) vs H Q E → spIni M k n B vs H Q E := by
  rintro vs H Q E ⟨c, a, ws, rs, h0, h1, h2, ok, q⟩
  refine ⟨c, a, ws, rs, h0, h1, h2, ok, ?_⟩
  simp only at q
  rcases h a rs with e | e
  · rw [e] at q; exact q.elim
  · rw [e]; exact q
end R
set_option Elab.async false
set_option linter.all false
set_option autoImplicit false
/-! R28: C(k = v, ..). -/
namespace R
open PySem PySem.Spec PyProof.Rows L2
section
variable {X : Cx} {W : WX} {k : Nat} {f C : Addr} {fd : FuncData} {ps ks : List Str} {sp : Sp} {x : Str} {p pos : Pos} {kws : List Keyword} {tk : TA} {g : List Value → List Value → List Value} {gV : List V → List V → List V}
def tMkS (C : Addr) (m : Nat) (sp : Sp) (gV : List V → List V → List V) (W : WX) (tk : TA) : TE := fun σ H Q => tk σ H fun zs H2 => zs.length = m ∧ ∀ y dy, H2 y = none → H2 dy = none → dy ≠ y →
  sp (gV [.ref y] zs) (L2.upd (L2.upd H2 dy (.own y)) y (.ins C dy [])) (fun v H3 => v = .non ∧ Q (.ref y) H3) (WE W σ)
theorem pe_mkS0 (M : Mk X.K C f) (G : FnOk X.prog X.w X.K X.mg X.base (L2.CX X.prog X.w) k f fd ps sp) (hr : Room (k + 1) X.A) (hg : Gl X x) (hm : X.mg x = some (.ref C)) (hb : KBn X.K fd ps 1 ks g gV) (tkx : Takes X W) (hkw : PK X kws tk)
    (hall : (backToKw pos (keywordEach kws X.env)).all (·.1.isSome) = true := by rfl) (hks : (backToKw pos (keywordEach kws X.env)).filterMap (·.1) = ks := by rfl) (hdb : (x == ("__debug__" : Str)) = false := by decide)
    (hpl : ((backTo pos (starEach [] X.env)).any (·.1) || (backToKw pos (keywordEach kws X.env)).any (·.1.isNone)) = false := by rfl) : PE X (.Call (.Name x p) [] kws pos) (tMkS C ks.length sp gV W tk) := by
  refine ⟨fun pins s0 σ H0 Q I0 h0 => wpAny_Call_Name_kw (ld_glob I0 hg hm (PySem.W.callWith_KW0 (h₀ := X.base) I0.ok.mod.kin M.kp hall (thn (hkw.run pos pins s0 σ H0 _ I0 h0) fun ws s z => ?_) hpl) hdb)⟩
  obtain ⟨zs, H, I, rz, lz, h⟩ := z
  refine ⟨I.kIn, ?_⟩
  rw [hks]
  have hq := h (s.heap.objs.size + 1) s.heap.objs.size (I.hok.fresh (Nat.le_succ _)) (I.hok.fresh (Nat.le_refl _)) (Nat.ne_of_lt (Nat.lt_succ_self _))
  have I2 := Inv.made (C := C) I
  have r2 := hb.rel (vs := [V.ref (s.heap.objs.size + 1)]) (us := [Value.ref (s.heap.objs.size + 1)]) (.cons rfl .nil) rz
  refine wpAny_call (make_map (f := f) I.kIn M.makes M.init (beq_iff_eq.mp M.fn) (codeAny_mono (G.run _ X.stack _ _ ⟨[Value.ref (s.heap.objs.size + 1)], ks.zip ws⟩ (g [Value.ref (s.heap.objs.size + 1)] ws) _ _ (WE W σ) (hr.make C [] (ks.zip ws))
    (I2.env0.make C [] (ks.zip ws)) (hb.to _ [Value.ref (s.heap.objs.size + 1)] ws I2.kIn rfl (rz.length.symm.trans lz)) r2 hq) fun r s' hq' => ?_))
  cases r with
  | error e => exact passAt tkx σ pins _ _ e s' I2 hq'
  | ok fl =>
    cases fl with
    | ret u =>
      obtain ⟨v, H', I3, rv, ev, q3⟩ := I2.after hq'
      subst ev
      exact ⟨rv, ⟨V.ref (s.heap.objs.size + 1), H', I3, rfl, q3⟩⟩
    | next => exact False.elim hq'
    | brk => exact False.elim hq'
    | cont => exact False.elim hq'
end
/-! ### keyword arguments -/
structure RGk (X : Cx) (W : WX) (kws : List Keyword) (f : EvG) : Prop where
  run : PK X kws (tG (wd X) W f)
theorem PK.imp {X : Cx} {kws : List Keyword} {t t' : TA} (h : PK X kws t) (i : ∀ σ H Q, t' σ H Q → t σ H Q) : PK X kws t' := ⟨fun pos pins s σ H Q I q => h.run pos pins s σ H Q I (i σ H Q q)⟩
section
variable {X : Cx} {W : WX} {e : Expr} {kws : List Keyword} {h : Ev1} {g : EvG} {nm : Option Str} {kp : Pos}
theorem rgk_nil : RGk X W [] gNl := ⟨PK.imp pk_nil fun σ H Q ⟨c, T, ε, s, q⟩ => q [] H rfl s⟩
theorem rgk_cons (h1 : R1g X W e h) (h2 : RGk X W kws g) : RGk X W (⟨nm, e, kp⟩ :: kws) (gCn h g) :=
  ⟨PK.imp (pk_cons h1.run h2.run) fun σ H Q ⟨c, T, ε, s, q⟩ => ⟨c, T, ε, s, pst_mono (fun a ε q v H s => ⟨c, _, ε, s, pst_mono (fun as ε q vs H hl s => by
    refine q (v :: vs) H (by rw [List.length_cons, List.length_cons, hl]) (s.perm ?_)
    exact List.perm_middle) (pst_push (pst_bind q))⟩) (pst_bind q)⟩⟩
end
/-- the written keywords' values in their places, defaults for the others -/
structure Arr (M : Wd) (n : Nat) (m : Nat) (aV : List V → List V) (aR : List Rv → List Rv) : Prop where
  lenV : ∀ zs : List V, zs.length = m → (aV zs).length = n
  lenR : ∀ rs : List Rv, rs.length = m → (aR rs).length = n
  ok : ∀ (c : Ctx) (H : Hp) (L : List Ow) (zs : List V) (rs : List Rv), zs.length = m → rs.length = m → OK M c H (argw zs rs ++ L) → OK M c H (argw (aV zs) (aR rs) ++ L)
theorem Arr.id (M : Wd) (n : Nat) : Arr M n n id id := ⟨fun _ h => h, fun _ h => h, fun _ _ _ _ _ _ _ h => h⟩
/-- the class c is made by the keywords ks; the result as F tells -/
def MakeK (P : Program) (w : World) (K : PySem.W.Frag) (mg : Str → Option Value) (base : Heap) (k c n : Nat) (ks : List Str) (aR : List Rv → List Rv) (F : Fn) : Prop :=
  ∃ C f fd ps g aV gV, mg (cName c) = some (.ref C) ∧ Mk K C f ∧ FnOk P w K mg base (L2.CX P w) k f fd ps (spIni ⟨K, mg⟩ c n fun _ => F) ∧ KBn K fd ps 1 ks g gV ∧ (∀ v zs, gV [v] zs = v :: aV zs) ∧ Arr ⟨K, mg⟩ n ks.length aV aR
def sMk (aR : List Rv → List Rv) (F : Fn) (g : EvG) : EvE := fun ε => (g ε).bind fun as ε => opt (argRvs as ε) fun rs => frOut (F (aR rs)) ε
theorem mk_run {M : Wd} {W : WX} {c : Ctx} {T : List Ow} {σ : L2.St} {H : Hp} {ε : En} {Q : VK} {F : Fn} {as : List Arg} {vs : List V} {rs : List Rv} {n m k : Nat} {aV : List V → List V} {aR : List Rv → List Rv} (A : Arr M n m aV aR) (hn : as.length = m)
    (s : Sta M c (argos σ as vs ++ T) σ H ε) (hl : as.length = vs.length) (e : argRvs as ε = some rs) {y dy C : Addr} (hC : M.mg (cName k) = some (.ref C)) (hy : H y = none) (hdy : H dy = none) (ne : dy ≠ y) (q : postE M W c T σ Q (frOut (F (aR rs)) ε)) :
    spIni M k n (fun _ => F) (.ref y :: aV vs) (L2.upd (L2.upd H dy (.own y)) y (.ins C dy [])) (fun v H3 => v = .non ∧ Q (.ref y) H3) (WE W σ) := by
  have s1 := (s.new (p := dy) (o := .own y) hdy).drop
  have hy2 : L2.upd H dy (.own y) y = none := by rw [upd_ne ne.symm]; exact hy
  have s2 := s1.new (p := y) (o := .ins C dy []) hy2
  have o3 := OK.closeO (ss := []) (ds := []) (vs := []) (k := k) (L := (argos σ as vs ++ T) ++ slots σ ε) hC (Nat.zero_le _) rfl rfl (by rw [List.zip_nil_right]; exact s2.ok)
  have s3 : Sta M c (argos σ (.cap (.slf y [], .obj k []) :: as) (.ref y :: vs) ++ T) σ (L2.upd (L2.upd H dy (.own y)) y (.ins C dy [])) ε := ⟨OK.oSlf o3, s2.fit⟩
  obtain ⟨c', o1, l1, o2, o3'⟩ := call_args (as := .cap (.slf y [], .obj k []) :: as) (vs := .ref y :: vs) (rs := (.slf y [], .obj k []) :: rs) s3 (by rw [List.length_cons, List.length_cons, hl]) (by simp only [argRvs, argRv, e])
  have lr : rs.length = vs.length := by simpa using l1
  have lm : vs.length = m := hl ▸ hn
  have ok : OK M c' (L2.upd (L2.upd H dy (.own y)) y (.ins C dy [])) (.val (.ref y) (.slf y []) (.obj k []) :: argw (aV vs) (aR rs)) := by
    have z : OK M c' _ (argw vs rs ++ [.val (.ref y) (.slf y []) (.obj k [])]) := o1.perm (List.perm_append_comm (l₁ := [_]) (l₂ := argw vs rs))
    exact (A.ok _ _ _ _ _ lm (lr.trans lm) z).perm (List.perm_append_comm (l₁ := argw (aV vs) (aR rs)) (l₂ := [_]))
  refine ⟨c', y, aV vs, aR rs, rfl, A.lenV _ lm, A.lenR _ (lr.trans lm), ok, ?_⟩
  dsimp only
  cases e1 : F (aR rs) with
  | ok r =>
    rw [e1] at q
    intro H' okr
    simp only [frOut_ok] at q
    split at q
    · rename_i hs
      exact ⟨rfl, q _ H' (o2 H' _ r.1 r.2 (Sh.sol_solid _ hs) okr)⟩
    · exact q.elim
  | exc x =>
    rw [e1] at q
    exact fun cls d H' okr => q cls d H' (o3' H' _ okr)
  | bad => rw [e1] at q; exact q.elim
section
variable {X : Cx} {W : WX} {k c n : Nat} {x : Str} {p pos : Pos} {kws : List Keyword} {g : EvG} {ks : List Str} {F : Fn} {aR : List Rv → List Rv}
theorem re_mk (G : MakeK X.prog X.w X.K X.mg X.base k c n ks aR F) (hr : Room (k + 1) X.A) (hg : Gl X x) (hx : cName c = x) (tk : Takes X W) (hkw : RGk X W kws g) (hlen : ∀ ε as ε', g ε = .ok as ε' → as.length = ks.length)
    (hall : (backToKw pos (keywordEach kws X.env)).all (·.1.isSome) = true := by rfl) (hks : (backToKw pos (keywordEach kws X.env)).filterMap (·.1) = ks := by rfl) (hdb : (x == ("__debug__" : Str)) = false := by decide)
    (hpl : ((backTo pos (starEach [] X.env)).any (·.1) || (backToKw pos (keywordEach kws X.env)).any (·.1.isNone)) = false := by rfl) : RE X W (.Call (.Name x p) [] kws pos) (sMk aR F g) := by
  obtain ⟨C, f, fd, ps, gg, aV, gV, hC, M, hF, hb, hv, A⟩ := G
  refine ⟨PE.imp (pe_mkS0 M hF hr hg (hx ▸ hC) hb tk hkw.run hall hks hdb hpl) fun σ H Q ⟨cx, T, ε, s, q⟩ => ⟨cx, T, ε, s, ?_⟩⟩
  have q1 := pst_bind q
  cases eg : g ε with
  | bad => rw [eg] at q1; exact q1
  | exc x ε => rw [eg] at q1; exact q1
  | ok as ε1 =>
    rw [eg] at q1
    intro vs H1 hl s1
    obtain ⟨rs, e1, q2⟩ := pst_opt q1
    refine ⟨hl ▸ hlen _ _ _ eg, fun y dy hy hdy ne => ?_⟩
    rw [hv]
    exact mk_run A (hlen _ _ _ eg) s1 hl e1 hC hy hdy ne q2
end
end R
set_option Elab.async false
set_option linter.all false
set_option autoImplicit false
/-! R29: methods and properties, the receiver frozen or lent. -/
namespace R
open PySem PySem.Spec PyProof.Rows L2
theorem Sta.recvA {M : Wd} {c : Ctx} {T : List Ow} {σ : L2.St} {H : Hp} {ε : En} {a : Arg} {v : V} {r : Rv} {k : Nat} {ds : List D} (s : Sta M c (argo σ a v :: T) σ H ε) (e : argRv a ε = some r) (hr : r.2 = .obj k ds) :
    ∃ p C dx vs, v = .ref p ∧ M.mg (cName k) = some (.ref C) ∧ H p = some (.ins C dx ((cFlds k).zip vs)) := by
  have rd : Rep M H r.2 v := by
    cases a with
    | cap q => cases e; exact s.read
    | len i =>
      have hv : σ[i]? = some (some v) := s.ok.pinned
      simp only [argRv] at e
      split at e
      · rename_i d e3
        cases e
        exact (Sta.take s (join_some e3) hv).read
      · rename_i sh d _ e3
        split at e
        · cases e
          exact (Sta.take s (join_some e3) hv).read
        · cases e
      · cases e
  rw [hr] at rd
  obtain ⟨p, C, dx, vs, e, _, hm, ha, _⟩ := rd
  exact ⟨p, C, dx, vs, e, hm, ha⟩
def clsOf : D → Option Nat
  | .obj k _ => some k
  | _ => none
theorem clsOf_eq {d : D} {k : Nat} (h : clsOf d = some k) : ∃ ds, d = .obj k ds := by
  cases d <;> simp only [clsOf, reduceCtorEq, Option.some.injEq] at h
  subst h
  exact ⟨_, rfl⟩
/-- o.m(..) -/
def sMeA (c : Nat) (F : Fn) (h : Ev1) (g : EvG) : EvE := fun ε => (h ε).bind fun a ε => opt (argRv a ε) fun r => if clsOf r.2 = some c then (g ε).bind fun as ε => opt (argRvs (a :: as) ε) fun rs => frOut (F rs) ε else .bad
section
variable {X : Cx} {W : WX} {o e : Expr} {es : List Expr} {h : Ev1} {g : EvG} {k c n : Nat} {F : Fn} {m : Str} {apos pos : Pos}
theorem re_meA (G : CalleeM X.prog X.w X.K X.mg X.base k c m n F) (hr : Room k X.A) (tk : Takes X W) (ho : R1g X W o h) (ha : RG X W (e :: es) g) (hlen : ∀ ε as ε', g ε = .ok as ε' → as.length = n) (hm : m ∉ cFlds c)
    (hst : starEach (e :: es) X.env = (false, eval e X.env) :: starEach es X.env := by rfl) (hpl : (backTo pos (starEach es X.env)).any (·.1) = false := by rfl) {pl : Sem Bool}
    (ht : eval (.Call (.Attribute o m apos) (e :: es) [] pos) X.env = (do
      let r ← eval o X.env
      standAt apos.atName
      let (g, first) ← holding [r] (getMethod r m pl)
      callWith pos g first (backTo pos (starEach (e :: es) X.env)) (backToKw pos (keywordEach [] X.env))) := by rfl) : RE X W (.Call (.Attribute o m apos) (e :: es) [] pos) (sMeA c F h g) := by
  obtain ⟨C, fa, fd, ps, hC, cl, hM, hp, hF, hb⟩ := G
  refine ⟨PE.imp (pe_meS ho.run cl hM hF hr hb tk ha.run hst hpl ht) fun σ H Q ⟨cx, T, ε, s, q⟩ => ⟨cx, T, ε, s, pst_mono (fun a ε1 q9 v H1 s1 => ?_) (pst_bind q)⟩⟩
  clear q
  obtain ⟨r, e1, q8⟩ := pst_opt q9
  split at q8
  · rename_i hc
    obtain ⟨ds, hd⟩ := clsOf_eq hc
    obtain ⟨p, C', dx, vs, rfl, hm', ea⟩ := s1.recvA e1 hd
    cases Eq.trans hC.symm hm'
    refine ⟨p, dx, _, rfl, ea, lookup_none hm, cx, _, ε1, s1, ?_⟩
    have q7 := pst_bind q8
    cases eg : g ε1 with
    | bad => rw [eg] at q7; exact q7
    | exc x ε => rw [eg] at q7; exact pst_push q7
    | ok as ε2 =>
      rw [eg] at q7
      intro vs2 H2 hl s3
      obtain ⟨rs, e2, q6⟩ := pst_opt q7
      exact call_run (as := a :: as) (vs := .ref p :: vs2) (by rw [List.length_cons, hlen _ _ _ eg]) (s3.perm List.perm_middle) (by rw [List.length_cons, List.length_cons, hl]) e2 q6
  · exact q8.elim
theorem re_meA0 (G : CalleeM X.prog X.w X.K X.mg X.base k c m 0 F) (hr : Room k X.A) (tk : Takes X W) (ho : R1g X W o h) (hm : m ∉ cFlds c) {pl : Sem Bool}
    (ht : eval (.Call (.Attribute o m apos) [] [] pos) X.env = (do
      let r ← eval o X.env
      standAt apos.atName
      let (g, first) ← holding [r] (getMethod r m pl)
      callWith pos g first (backTo pos (starEach [] X.env)) (backToKw pos (keywordEach [] X.env))) := by rfl) : RE X W (.Call (.Attribute o m apos) [] [] pos) (sMeA c F h gNl) := by
  obtain ⟨C, fa, fd, ps, hC, cl, hM, hp, hF, hb⟩ := G
  refine ⟨PE.imp (pe_meS0 ho.run cl hM hF hr hb tk ht) fun σ H Q ⟨cx, T, ε, s, q⟩ => ⟨cx, T, ε, s, pst_mono (fun a ε1 q9 v H1 s1 => ?_) (pst_bind q)⟩⟩
  clear q
  obtain ⟨r, e1, q8⟩ := pst_opt q9
  split at q8
  · rename_i hc
    obtain ⟨ds, hd⟩ := clsOf_eq hc
    obtain ⟨p, C', dx, vs, rfl, hm', ea⟩ := s1.recvA e1 hd
    cases Eq.trans hC.symm hm'
    refine ⟨p, dx, _, rfl, ea, lookup_none hm, ?_⟩
    have q7 := pst_bind q8
    obtain ⟨rs, e2, q6⟩ := pst_opt q7
    exact call_run (as := [a]) (vs := [.ref p]) rfl s1 rfl e2 q6
  · exact q8.elim
end
/-! ### properties -/
def CalleeP (P : Program) (w : World) (K : PySem.W.Frag) (mg : Str → Option Value) (base : Heap) (k : Nat) (c : Nat) (x : Str) (F : Fn) : Prop :=
  ∃ C p g fd ps, mg (cName c) = some (.ref C) ∧ Cls K C ∧ PropOf K C x p g ∧ FnOk P w K mg base (L2.CX P w) k g fd ps (spOf ⟨K, mg⟩ 1 F) ∧ Binds K fd ps []
/-- o.x, x a property -/
def sPrA (c : Nat) (F : Fn) (h : Ev1) : EvE := fun ε => (h ε).bind fun a ε => opt (argRv a ε) fun r => if clsOf r.2 = some c then opt (argRvs [a] ε) fun rs => nox (frOut (F rs) ε) else .bad
section
variable {X : Cx} {W : WX} {o : Expr} {h : Ev1} {k c : Nat} {F : Fn} {x : Str} {pos : Pos}
theorem passN {X : Cx} : Passes (L2.CX X.prog X.w) X.nox (fun _ _ _ => False) := fun _ _ _ _ _ _ _ h => by
  obtain ⟨_, _, _, _, _, _, _, _, _, _, _, _, z⟩ := h
  exact z.elim
theorem re_prA (G : CalleeP X.prog X.w X.K X.mg X.base k c x F) (hr : Room (k + 1) X.A) (ho : R1g X W o h) (hab : attributeBase o x X.env (eval o X.env) = eval o X.env := by rfl) : RE X W (.Attribute o x pos) (sPrA c F h) := by
  obtain ⟨C, p, g, fd, ps, hC, cl, hp, hF, hb⟩ := G
  refine ⟨PE.imp (pe_prop (dvs := []) (E := fun _ _ _ => False) ho.run cl hp hF hr hb .nil passN hab) fun σ H Q ⟨cx, T, ε, s, q⟩ => ⟨cx, T, ε, s, pst_mono (fun a ε1 q9 v H1 s1 => ?_) (pst_bind q)⟩⟩
  clear q
  obtain ⟨r, e1, q8⟩ := pst_opt q9
  split at q8
  · rename_i hc
    obtain ⟨ds, hd⟩ := clsOf_eq hc
    obtain ⟨b, C', dx, vs, rfl, hm', ea⟩ := s1.recvA e1 hd
    cases Eq.trans hC.symm hm'
    obtain ⟨rs, e2, q6⟩ := pst_opt q8
    exact ⟨b, dx, _, rfl, ea, call_run (W := w0) (as := [a]) (vs := [.ref b]) rfl s1 rfl e2 (pst_nox q6)⟩
  · exact q8.elim
end
end R
set_option Elab.async false
set_option linter.all false
set_option autoImplicit false
/-! R30: zip of two, lists or tuples. -/
namespace R
open PySem PySem.Spec PyProof.Rows L2
def Itzb (K : PySem.W.Frag) (t1 t2 : Bool) (a b : Addr) : It where
  go i H := ∃ (xs ys : List V) (x y : V), SqB K t1 H a xs ∧ SqB K t2 H b ys ∧ xs[i]? = some x ∧ ys[i]? = some y
  yld i H v H' := ∃ T x y, v = .ref T ∧ H T = none ∧ H' = L2.upd H T (.tup [x, y]) ∧ (∀ xs, SqB K t1 H a xs → xs[i]? = some x) ∧ ∀ ys, SqB K t2 H b ys → ys[i]? = some y
  stop i H := ∃ xs ys : List V, SqB K t1 H a xs ∧ SqB K t2 H b ys ∧ min xs.length ys.length = i
/-- the cells of a zip, apart -/
structure ZApart (z TI TO i1 i2 a b : Addr) : Prop where
  sep : ZipSep2 z TI TO i1 i2 [i1, a] [i2, b]
  a1 : a ≠ i1
  b2 : b ≠ i2
def zSt (t1 t2 : Bool) (z TI TO i1 i2 a b : Addr) (i : Nat) (h : Heap) : Prop := IsZip h z TI TO .none ∧ IsTupOf2 h TI (.ref i1) (.ref i2) ∧ (∃ x y, IsTupOf2 h TO x y) ∧ ItB t1 h i1 a i ∧ ItB t2 h i2 b i
theorem turn_zb {P : Program} {w : World} {K : PySem.W.Frag} {elts : List Expr} {kk : Nat} {tpos : Pos} {t1 t2 : Bool} {z TI TO i1 i2 a b : Addr} (D : ZApart z TI TO i1 i2 a b) :
    Turn P w K (.Tuple elts kk tpos) (Itzb K t1 t2 a b) [z, TI, TO, i1, i2] z (zSt t1 t2 z TI TO i1 i2 a b) where
  mem := by simp
  obj := fun i h st q hq => by
    obtain ⟨s1, s2, ⟨x, y, s3⟩, s4, s5⟩ := st
    obtain ⟨o4, g4, d4⟩ := itB_get s4
    obtain ⟨o5, g5, d5⟩ := itB_get s5
    have e : q = z ∨ q = TI ∨ q = TO ∨ q = i1 ∨ q = i2 := by simpa using hq
    rcases e with e | e | e | e | e <;> subst e
    · exact ⟨_, s1, fun v n => nomatch n⟩
    · exact ⟨_, s2, fun v n => nomatch n⟩
    · exact ⟨_, s3, fun v n => nomatch n⟩
    · exact ⟨_, g4, fun v n => by rw [d4] at n; cases n⟩
    · exact ⟨_, g5, fun v n => by rw [d5] at n; cases n⟩
  keep := fun i h h' st kp => by
    obtain ⟨s1, s2, ⟨x, y, s3⟩, s4, s5⟩ := st
    exact ⟨kp z (by simp) _ s1, kp TI (by simp) _ s2, ⟨x, y, kp TO (by simp) _ s3⟩, itB_keep s4 fun o q => kp i1 (by simp) o q, itB_keep s5 fun o q => kp i2 (by simp) o q⟩
  item := by
    intro X hP hw hK hc i pins s σ H E I hf st hg
    cases hP; cases hw; cases hK
    obtain ⟨s1, s2, s3, s4, s5⟩ := st
    obtain ⟨xs, ys, x, y, hq1, hq2, hx, hy⟩ := hg
    obtain ⟨us, rv1, b1⟩ := invB I hq1
    obtain ⟨ws, rv2, b2⟩ := invB I hq2
    obtain ⟨u, hu, ru⟩ := rv1.get hx
    obtain ⟨u', hu', ru'⟩ := rv2.get hy
    have l1 : i < us.toArray.size := by simpa using (List.getElem?_eq_some_iff.mp hu).1
    have l2 : i < ws.toArray.size := by simpa using (List.getElem?_eq_some_iff.mp hu').1
    have W := WalksT.zipD2 (A := X.A) D.sep (drawsB (prog := X.prog) (w := X.w) (A := X.A.in1) (I.ok.hd hc) t1 i1 a D.a1 us.toArray) (drawsB (prog := X.prog) (w := X.w) (A := X.A.in1) (I.ok.hd hc) t2 i2 b D.b2 ws.toArray)
    refine W.item i s _ E (by omega) ⟨s1, s2, s3, ⟨s4, b1⟩, s5, b2⟩ fun T vals h' tk pt le hT mid kp => ?_
    obtain ⟨x1, x2, p1, p2, rfl⟩ := pt
    have e1 : x1 = u := by
      have q : us.toArray[i]? = some u := by simpa using hu
      rw [q] at p1; cases p1; rfl
    have e2 : x2 = u' := by
      have q : ws.toArray[i]? = some u' := by simpa using hu'
      rw [q] at p2; cases p2; rfl
    subst e1; subst e2
    have nT := W.apart i T h' mid
    refine ⟨_, rfl, W.go elts kk tpos i T { s with heap := h', toks := tk } _ E mid fun h2 st2 kp2 => ?_⟩
    obtain ⟨r1, r2, r3, r4, r5⟩ := st2
    have kp3 : ∀ q o, q ∉ [z, TI, TO, i1, i2] → s.heap.get? q = some o → h2.get? q = some o := fun q o hq g => by
      have nq : q ∉ [z, TO, i1, i2] := fun n => hq (by simp at n ⊢; rcases n with n | n | n | n <;> simp [n])
      exact kp2 q o nq (kp q o nq g)
    obtain ⟨oT, gT, cT, nn, dT⟩ := hT
    have nw : ObjOk X.prog X.w (L2.upd H T (.tup [x, y])) h2 T (.tup [x, y]) := ⟨by show 2 ≤ sizeLine; decide, [x1, x2], .cons ru (.cons ru' .nil), oT, kp2 T oT nT gT, cT, nn, dT⟩
    have I1 : Inv X pins σ (L2.upd H T (.tup [x, y])) { s with heap := h2, toks := tk } := I.turnedNew (ch := [z, TI, TO, i1, i2]) kp3 hf le nw
    refine ⟨.ref T, _, I1, rfl, ⟨T, x, y, rfl, I.hok.fresh le, rfl, fun zs hz => by rw [injB I hz hq1]; exact hx, fun zs hz => by rw [injB I hz hq2]; exact hy⟩, ⟨r1, r2, r3, r4.1, r5.1⟩, fun q hq => ?_⟩
    have f := hf q hq
    have nq : q ≠ T := by
      obtain ⟨o, go, _⟩ : ∃ o, s.heap.get? q = some o ∧ True := by
        obtain ⟨o4, g4, d4⟩ := itB_get s4
        obtain ⟨o5, g5, d5⟩ := itB_get s5
        obtain ⟨vx, vy, s3'⟩ := s3
        have e : q = z ∨ q = TI ∨ q = TO ∨ q = i1 ∨ q = i2 := by simpa using hq
        rcases e with e | e | e | e | e <;> subst e
        · exact ⟨_, s1, trivial⟩
        · exact ⟨_, s2, trivial⟩
        · exact ⟨_, s3', trivial⟩
        · exact ⟨_, g4, trivial⟩
        · exact ⟨_, g5, trivial⟩
      exact Nat.ne_of_lt (Nat.lt_of_lt_of_le (Heap.lt_size go) le)
    rw [upd_ne nq]
    exact f.1
  done := by
    intro X hP hw hK hc i pins s σ H E I hf st hg
    cases hP; cases hw; cases hK
    obtain ⟨s1, s2, s3, s4, s5⟩ := st
    obtain ⟨xs, ys, hq1, hq2, hm⟩ := hg
    obtain ⟨us, rv1, b1⟩ := invB I hq1
    obtain ⟨ws, rv2, b2⟩ := invB I hq2
    have l1 := rv1.length
    have l2 := rv2.length
    have W := WalksT.zipD2 (A := X.A) D.sep (drawsB (prog := X.prog) (w := X.w) (A := X.A.in1) (I.ok.hd hc) t1 i1 a D.a1 us.toArray) (drawsB (prog := X.prog) (w := X.w) (A := X.A.in1) (I.ok.hd hc) t2 i2 b D.b2 ws.toArray)
    have en : i = min us.toArray.size ws.toArray.size := by simp; omega
    subst en
    refine W.done s _ E ⟨s1, s2, s3, ⟨s4, b1⟩, s5, b2⟩ fun h' tk kp => ⟨rfl, I.turnedL (ch := [z, TI, TO, i1, i2]) (fun q o hq g => kp q o (fun n => hq (by simp at n ⊢; rcases n with n | n | n | n <;> simp [n])) g) hf⟩
  self := fun A i s Q E st h => wpAny_pyIter_zip st.1 h
section
variable {M : Wd}
def zipD : List D → List D → List D
  | d :: ds, e :: es => .pr [d, e] :: zipD ds es
  | _, _ => []
theorem zipD_length : ∀ ds es : List D, (zipD ds es).length = min ds.length es.length
  | [], _ => by simp [zipD]
  | _ :: _, [] => by simp [zipD]
  | d :: ds, e :: es => by simp only [zipD, List.length_cons, zipD_length ds es]; omega
theorem zipD_get : ∀ {ds es : List D} {i : Nat} {x : D}, (zipD ds es)[i]? = some x → ∃ d e, ds[i]? = some d ∧ es[i]? = some e ∧ x = .pr [d, e]
  | [], _, _, _, h => by simp [zipD] at h
  | _ :: _, [], _, _, h => by simp [zipD] at h
  | d :: ds, e :: es, 0, x, h => by
    simp [zipD] at h
    exact ⟨d, e, rfl, rfl, h.symm⟩
  | d :: ds, e :: es, i + 1, x, h => by
    simp only [zipD, List.getElem?_cons_succ] at h
    obtain ⟨d', e', h1, h2, h3⟩ := zipD_get h
    exact ⟨d', e', by simpa using h1, by simpa using h2, h3⟩
theorem src_zb {t1 t2 : Bool} {a b : Addr} {vs ws : List V} {ds es : List D} (h1 : ds.length = vs.length) (h2 : es.length = ws.length) :
    Src M (Itzb M.K t1 t2 a b) (zipD ds es) [.pin fun G => SqB M.K t1 G a vs ∧ RepL M G ds vs, .pin fun G => SqB M.K t2 G b ws ∧ RepL M G es ws] := by
  refine src_pair (n := min vs.length ws.length) (G := fun H => SqB M.K t1 H a vs ∧ SqB M.K t2 H b ws) (xs := fun i => vs[i]?) (ys := fun i => ws[i]?) ⟨fun i H hi q => ⟨vs, ws, vs[i]'(by omega), ws[i]'(by omega), q.1, q.2, by simp [show i < vs.length by omega], by simp [show i < ws.length by omega]⟩, fun H q => ⟨vs, ws, q.1, q.2, rfl⟩, fun i H v H' _ q y => ?_⟩
    (by rw [zipD_length, h1, h2]) (fun c T σ H ε s => ⟨(s.ok.pinned).1, (s.drop.ok.pinned).1⟩) fun c T σ H ε i x y d s hx hy hd => ?_
  · obtain ⟨T, x, y', e1, e2, e3, e4, e5⟩ := y
    exact ⟨T, x, y', e1, e2, e3, e4 vs q.1, e5 ws q.2⟩
  · obtain ⟨d1, d2, g1, g2, rfl⟩ := zipD_get hd
    refine ⟨d1, d2, rfl, ?_⟩
    have s1 : Sta M c (.val x .fro d1 :: ([.pin fun G => SqB M.K t1 G a vs ∧ RepL M G ds vs, .pin fun G => SqB M.K t2 G b ws ∧ RepL M G es ws] ++ T)) σ H ε := Sta.item (s.pinDup.pinMap fun G q => q.2) g1 hx
    have s2 : Sta M c (.pin (fun G => SqB M.K t2 G b ws ∧ RepL M G es ws) :: (.val x .fro d1 :: .pin (fun G => SqB M.K t1 G a vs ∧ RepL M G ds vs) :: T)) σ H ε := s1.perm (by
      refine List.Perm.trans (.cons _ (List.Perm.swap _ _ _)) (List.Perm.swap _ _ _))
    have s3 : Sta M c (.val y .fro d2 :: .pin (fun G => SqB M.K t2 G b ws ∧ RepL M G es ws) :: (.val x .fro d1 :: .pin (fun G => SqB M.K t1 G a vs ∧ RepL M G ds vs) :: T)) σ H ε := Sta.item (s2.pinDup.pinMap fun G q => q.2) g2 hy
    refine s3.perm ?_
    refine List.Perm.trans (.cons _ (List.Perm.swap _ _ _)) (List.Perm.trans (List.Perm.swap _ _ _) (.cons _ (.cons _ (List.Perm.swap _ _ _))))
end
end R
set_option Elab.async false
set_option linter.all false
set_option autoImplicit false
/-! R31: zip as a source. -/
namespace R
open PySem PySem.Spec PyProof.Rows L2
/-- a list's or a tuple's items -/
def seqD : D → Option (Bool × List D)
  | .lst ds => some (false, ds)
  | .tup ds => some (true, ds)
  | _ => none
theorem seqD_pin {M : Wd} {c : Ctx} {T : List Ow} {σ : L2.St} {H : Hp} {ε : En} {v : V} {d : D} {tp : Bool} {ds : List D} (s : Sta M c (.val v .fro d :: T) σ H ε) (e : seqD d = some (tp, ds)) :
    ∃ a vs, v = .ref a ∧ ds.length = vs.length ∧ SqB M.K tp H a vs ∧ Sta M c (.pin (fun G => SqB M.K tp G a vs ∧ RepL M G ds vs) :: T) σ H ε := by
  cases d <;> simp only [seqD, reduceCtorEq, Option.some.injEq, Prod.mk.injEq] at e
  · obtain ⟨rfl, rfl⟩ := e
    exact s.pinL
  · obtain ⟨rfl, rfl⟩ := e
    exact s.pinT
def iZip (f g : EvE) : EvI := fun ε => (f ε).bind fun r ε => (g ε).bind fun q ε => if r.1.sol = true ∧ q.1.sol = true then opt (seqD r.2) fun x => opt (seqD q.2) fun y => .ok (zipD x.2 y.2) ε else .bad
section
variable {X : Cx} {W : WX} {e1 e2 : Expr} {p pos tpos : Pos} {elts : List Expr} {kk : Nat} {f g : EvE}
theorem ri_zip (hg : Gl X "zip") (hm : X.mg "zip" = none) (h1 : RE X W e1 f) (h2 : RE X W e2 g) (hs : starEach [e1, e2] X.env = (false, eval e1 X.env) :: starEach [e2] X.env := by rfl) (hs2 : starEach [e2] X.env = [(false, eval e2 X.env)] := by rfl) :
    RI X W (.Tuple elts kk tpos) (.Call (.Name "zip" p) [e1, e2] [] pos) (iZip f g) := by
  refine ⟨⟨fun pins s σ H R I q => ?_⟩⟩
  obtain ⟨c, T, ε, st, q⟩ := q
  have q := pst_bind q
  have ha : PA X [e1, e2] (tCons (tE (wd X) W f) (tCons (tE (wd X) W g) tNil)) := pa_cons h1.run (pa_one h2.run hs2) hs
  refine Call_ (ld_blt I hg hm boot_zip (PyProof.Rows.callWith_type1 (thn (ha.run pos pins s σ H (fun vs H1 => ∃ t1 t2 a b xs ys, vs = [.ref a, .ref b] ∧ SqB X.K t1 H1 a xs ∧ SqB X.K t2 H1 b ys ∧ R (Itzb X.K t1 t2 a b) H1) I ⟨c, T, ε, st, pst_mono (fun r ε1 q v H1 s1 => ?_) q⟩) fun us s1 ⟨vs, H1, I1, r1, q1⟩ => ?_) hs (by rw [hs2]; rfl)))
  · refine ⟨c, _, ε1, s1, pst_mono (fun r2 ε2 q3 v2 H2 s2 => ?_) (pst_push (pst_bind q))⟩
    show ∃ t1 t2 a b xs ys, [v, v2] = [V.ref a, V.ref b] ∧ SqB X.K t1 H2 a xs ∧ SqB X.K t2 H2 b ys ∧ R (Itzb X.K t1 t2 a b) H2
    split at q3
    · rename_i hb
      obtain ⟨⟨t1, xs⟩, e3, q4⟩ := pst_opt q3
      obtain ⟨⟨t2, ys⟩, e4, q5⟩ := pst_opt q4
      have s3 := (s2.freeze (Sh.sol_solid _ hb.2)).perm (List.Perm.swap _ _ _)
      have s4 := s3.freeze (Sh.sol_solid _ hb.1)
      obtain ⟨a, vs, rfl, l1, k1, s5⟩ := seqD_pin s4 e3
      obtain ⟨b, ws, rfl, l2, k2, s6⟩ := seqD_pin (s5.perm (List.Perm.swap _ _ _)) e4
      exact ⟨t1, t2, a, b, vs, ws, rfl, k1, k2, q5 _ _ _ (src_zb l1 l2) (s6.perm (List.Perm.swap _ _ _))⟩
    · exact q3.elim
  · obtain ⟨t1, t2, a, b, xs, ys, rfl, k1, k2, q⟩ := q1
    obtain ⟨u1, u2, rfl, r2, r3⟩ := vals2 r1
    cases r2
    cases r3
    obtain ⟨us, rv1, b1⟩ := invB I1 k1
    obtain ⟨ws, rv2, b2⟩ := invB I1 k2
    have la : a < s1.heap.objs.size := by
      cases t1
      · obtain ⟨o, z, _⟩ := b1; exact Heap.lt_size z
      · obtain ⟨o, z, _⟩ := b1; exact Heap.lt_size z
    have lb : b < s1.heap.objs.size := by
      cases t2
      · obtain ⟨o, z, _⟩ := b2; exact Heap.lt_size z
      · obtain ⟨o, z, _⟩ := b2; exact Heap.lt_size z
    refine zip_begins2 (beginsB t1 a us.toArray) (beginsB t2 b ws.toArray) b1 b2 fun h' hz hT hO g1 g2 hsz hkp => wpAny_pyIter_zip hz ?_
    have I2 : Inv X pins σ H1 { s1 with heap := h' } := I1.kept (t' := s1.toks) hkp
    have sep := zip_sep2 (N := s1.heap.objs.size) (fp1 := [a]) (fp2 := [b]) (fun q hq => by rw [List.mem_singleton.mp hq]; exact la) (fun q hq => by rw [List.mem_singleton.mp hq]; exact lb)
    refine ⟨s1.heap.objs.size + 4, [s1.heap.objs.size + 4, s1.heap.objs.size + 2, s1.heap.objs.size + 3, s1.heap.objs.size, s1.heap.objs.size + 1], _, _, H1, rfl, I2, turn_zb ⟨sep, Nat.ne_of_lt la, Nat.ne_of_lt (Nat.lt_succ_of_lt lb)⟩, ⟨hz, hT, ⟨_, _, hO⟩, ?_, ?_⟩, fun q hq => ?_, q⟩
    · cases t1
      · exact ⟨_, g1, rfl, rfl⟩
      · exact ⟨_, g1, rfl, rfl⟩
    · cases t2
      · exact ⟨_, g2, rfl, rfl⟩
      · exact ⟨_, g2, rfl, rfl⟩
    · have z : s1.heap.objs.size ≤ q := by
        have e : q = s1.heap.objs.size + 4 ∨ q = s1.heap.objs.size + 2 ∨ q = s1.heap.objs.size + 3 ∨ q = s1.heap.objs.size ∨ q = s1.heap.objs.size + 1 := by simpa using hq
        rcases e with e | e | e | e | e <;> rw [e] <;> first | exact Nat.le_refl _ | exact Nat.le_add_right _ _
      exact I1.fpOk z (I1.hok.fresh z)
end
end R
set_option Elab.async false
set_option linter.all false
set_option autoImplicit false
/-! R32: place[k] = v. -/
namespace R
open PySem PySem.Spec PyProof.Rows L2
theorem putK_zip : ∀ {ks : List Key} {vs : List V} {k : Key} {y : V}, ks.Nodup → ks.length = vs.length → putK (ks.zip vs) k y = match kPos ks k with
    | some j => ks.zip (vs.set j y)
    | none => (ks ++ [k]).zip (vs ++ [y]) := by
  intro ks vs k y nd hl
  unfold putK
  have go : ∀ {ks : List Key} {vs : List V}, ks.Nodup → ks.length = vs.length → ((ks.zip vs).any fun kv => decide (kv.1 = k)) = (kPos ks k).isSome ∧ ∀ j, kPos ks k = some j → (ks.zip vs).map (fun kv => if kv.1 = k then (kv.1, y) else kv) = ks.zip (vs.set j y) := by
    intro ks
    induction ks with
    | nil => intro vs _ _; exact ⟨rfl, fun j h => by simp [kPos] at h⟩
    | cons x ks ih =>
      intro vs nd hl
      cases vs with
      | nil => cases hl
      | cons v vs =>
        obtain ⟨n1, n2⟩ := List.nodup_cons.mp nd
        obtain ⟨i1, i2⟩ := ih n2 (Nat.succ.inj hl)
        unfold kPos at i1 i2 ⊢
        rw [List.findIdx?_cons]
        by_cases hx : x = k
        · subst hx
          refine ⟨by simp, fun j hj => ?_⟩
          simp at hj
          subst hj
          have same : (ks.zip vs).map (fun kv => if kv.1 = x then (kv.1, y) else kv) = ks.zip vs := by
            conv => rhs; rw [← List.map_id (ks.zip vs)]
            refine List.map_congr_left fun kv hkv => ?_
            have : kv.1 ≠ x := fun e => n1 (e ▸ (List.of_mem_zip hkv).1)
            simp [this]
          simp [same]
        · refine ⟨by simp [hx]; simpa using i1, fun j hj => ?_⟩
          simp [hx] at hj
          obtain ⟨m, hm, rfl⟩ := hj
          have := i2 m hm
          simp [hx]
          simpa using this
  obtain ⟨h1, h2⟩ := go nd hl
  rw [h1]
  cases e : kPos ks k with
  | some j =>
    rw [e] at h1
    simp only [Option.isSome_some, if_true]
    exact h2 j e
  | none =>
    simp only [Option.isSome_none, Bool.false_eq_true, if_false]
    rw [List.zip_append hl]
    rfl
/-- place[k] = v, by what is known of the place -/
def setD (own : Bool) (l : Lv) (d : D) (r : Rv) : Option (Sh × D) := match l.s, l.d with
  | .con s, .lst ds => match d with
    | .int i => (ixN ds.length i).bind fun j => (stow own s false r).map fun s' => (.con s', .lst (ds.set j r.2))
    | _ => none
  | .con s, .dic ks ds => if ks.Nodup ∧ ks.length < sizeLine then (keyD d).bind fun k => match kPos ks k with
      | some j => (stow own s false r).map fun s' => (.con s', .dic ks (ds.set j r.2))
      | none => (stow own s ds.isEmpty r).map fun s' => (.con s', .dic (ks ++ [k]) (ds ++ [r.2]))
    else none
  | _, _ => none
theorem itc_set {s : Sh} : ∀ {ds : List D} {vs : List V} {j : Nat} {d : D} {y : V}, ds.length = vs.length → j < ds.length → ∃ w, (Ow.val y s d :: itc s ds vs).Perm (w :: itc s (ds.set j d) (vs.set j y))
  | x :: ds, v :: vs, 0, d, y, _, _ => ⟨.val v s x, .swap _ _ _⟩
  | x :: ds, v :: vs, j + 1, d, y, hl, hj => by
    obtain ⟨w, hp⟩ := itc_set (s := s) (ds := ds) (vs := vs) (j := j) (d := d) (y := y) (Nat.succ.inj hl) (by simpa using hj)
    exact ⟨w, (List.Perm.swap _ _ _).trans ((hp.cons _).trans (.swap _ _ _))⟩
  | [], _, _, _, _, _, hj => by simp at hj
  | _ :: _, [], _, _, _, hl, _ => by cases hl
theorem stow_same {s s' : Sh} {own : Bool} {r : Rv} {M : Wd} {c : Ctx} {T : List Ow} {σ : L2.St} {H : Hp} {ε : En} {v : V} (st : Sta M c (.val v r.1 r.2 :: T) σ H ε) (e : stow own s false r = some s') : s' = s ∧ Sta M c (.val v s r.2 :: T) σ H ε := by
  obtain ⟨h1, h2⟩ := st.stow e
  rcases h2 with rfl | h
  · exact ⟨rfl, h1⟩
  · cases h
/-- the store at an opened place -/
theorem setD_run {M : Wd} {c : Ctx} {T Fl : List Ow} {σ : L2.St} {H : Hp} {ε : En} {own : Bool} {l : Lv} {v y : V} {d : D} {r : Rv} {s' : Sh} {d' : D} (s : Sta M c (.val v l.s l.d :: .val y r.1 r.2 :: (Fl ++ T)) σ H ε) (e : setD own l d r = some (s', d')) :
    ∃ a, v = .ref a ∧ ((∃ vs i j, d = .int i ∧ H a = some (.lst vs) ∧ ixN vs.length i = some j ∧ Sta M c (.val v s' d' :: (Fl ++ T)) σ (L2.upd H a (.lst (vs.set j y))) ε) ∨
      ∃ kvs k, keyD d = some k ∧ H a = some (.dK kvs) ∧ kvs.length < sizeLine ∧ Sta M c (.val v s' d' :: (Fl ++ T)) σ (L2.upd H a (.dK (putK kvs k y))) ε) := by
  obtain ⟨li, s0, ls, ld, rb, top⟩ := l
  unfold setD at e
  simp only at e s
  split at e
  · rename_i s1 ds
    split at e
    · rename_i i
      obtain ⟨j, ej, e2⟩ := Option.bind_eq_some_iff.mp e
      obtain ⟨s2, es, e3⟩ := Option.map_eq_some_iff.mp e2
      cases e3
      obtain ⟨rfl, st⟩ := stow_same (s.perm (List.Perm.swap _ _ _)) es
      have st := st.perm (List.Perm.swap _ _ _)
      obtain ⟨a, vs, rfl, hl, ok⟩ := OK.openL (L := (.val y s2 r.2 :: (Fl ++ T)) ++ slots σ ε) st.ok
      have hj : j < ds.length := by
        unfold ixN at ej
        split at ej
        · split at ej
          · cases ej; omega
          · cases ej
        · split at ej
          · cases ej; omega
          · cases ej
      refine ⟨a, rfl, .inl ⟨vs, i, j, rfl, ok.cell, hl ▸ ej, ?_⟩⟩
      obtain ⟨w, hp⟩ := itc_set (s := s2) (d := r.2) (y := y) hl hj
      have o1 : OK M c (L2.upd H a (.lst (vs.set j y))) (w :: .cel a (.lst (vs.set j y)) :: (itc s2 (ds.set j r.2) (vs.set j y) ++ ((Fl ++ T) ++ slots σ ε))) := by
        refine ok.upd.perm ?_
        refine List.Perm.trans (.cons _ ?_) (List.Perm.swap _ _ _)
        exact List.Perm.trans (List.perm_middle (a := Ow.val y s2 r.2) (l₁ := itc s2 ds vs) (l₂ := (Fl ++ T) ++ slots σ ε)) (List.Perm.append_right _ hp)
      exact ⟨OK.closeL (by rw [List.length_set, List.length_set]; exact hl) o1.drop, st.fit⟩
    · cases e
  · rename_i s1 ks ds
    split at e
    · rename_i hb
      obtain ⟨k, ek, e2⟩ := Option.bind_eq_some_iff.mp e
      cases ep : kPos ks k with
      | some j =>
        rw [ep] at e2
        obtain ⟨s2, es, e3⟩ := Option.map_eq_some_iff.mp e2
        cases e3
        obtain ⟨rfl, st⟩ := stow_same (s.perm (List.Perm.swap _ _ _)) es
        have st := st.perm (List.Perm.swap _ _ _)
        obtain ⟨a, vs, rfl, hk, hl, ok⟩ := OK.openD (L := (.val y s2 r.2 :: (Fl ++ T)) ++ slots σ ε) st.ok
        have hj : j < ds.length := by
          have := (List.findIdx?_eq_some_iff_getElem.mp ep).1
          omega
        refine ⟨a, rfl, .inr ⟨_, k, ek, ok.cell, by rw [List.length_zip]; omega, ?_⟩⟩
        have pz := putK_zip (y := y) (k := k) hb.1 hk
        rw [ep] at pz
        simp only at pz
        rw [pz]
        obtain ⟨w, hp⟩ := itc_set (s := s2) (d := r.2) (y := y) hl hj
        have o1 : OK M c (L2.upd H a (.dK (ks.zip (vs.set j y)))) (w :: .cel a (.dK (ks.zip (vs.set j y))) :: (itc s2 (ds.set j r.2) (vs.set j y) ++ ((Fl ++ T) ++ slots σ ε))) := by
          refine ok.upd.perm ?_
          refine List.Perm.trans (.cons _ ?_) (List.Perm.swap _ _ _)
          exact List.Perm.trans (List.perm_middle (a := Ow.val y s2 r.2) (l₁ := itc s2 ds vs) (l₂ := (Fl ++ T) ++ slots σ ε)) (List.Perm.append_right _ hp)
        exact ⟨OK.closeD (by rw [List.length_set]; exact hk) (by rw [List.length_set, List.length_set]; exact hl) o1.drop, st.fit⟩
      | none =>
        rw [ep] at e2
        obtain ⟨s2, es, e3⟩ := Option.map_eq_some_iff.mp e2
        cases e3
        obtain ⟨st, hsh⟩ := (s.perm (List.Perm.swap _ _ _)).stow es
        have st := st.perm (List.Perm.swap _ _ _)
        obtain ⟨a, vs, rfl, hk, hl, ok⟩ := OK.openD (L := (.val y s2 r.2 :: (Fl ++ T)) ++ slots σ ε) st.ok
        refine ⟨a, rfl, .inr ⟨_, k, ek, ok.cell, by rw [List.length_zip]; omega, ?_⟩⟩
        have pz := putK_zip (y := y) (k := k) hb.1 hk
        rw [ep] at pz
        simp only at pz
        rw [pz]
        have es' : itc s1 ds vs = itc s2 ds vs := by
          rcases hsh with z | z
          · rw [z]
          · cases ds with
            | nil => rfl
            | cons _ _ => cases z
        have o1 : OK M c (L2.upd H a (.dK ((ks ++ [k]).zip (vs ++ [y])))) (.cel a (.dK ((ks ++ [k]).zip (vs ++ [y]))) :: (itc s2 (ds ++ [r.2]) (vs ++ [y]) ++ ((Fl ++ T) ++ slots σ ε))) := by
          refine ok.upd.perm (.cons _ ?_)
          rw [es', itc_snoc _ _ _ hl, List.append_assoc]
          rfl
        exact ⟨OK.closeD (by rw [List.length_append, List.length_append, hk]; rfl) (by rw [List.length_append, List.length_append, hl]; rfl) o1, st.fit⟩
    · cases e
  · cases e
theorem PSet.or {X : Cx} {t u : TSet} (h : PSet X t) (h' : PSet X u) : PSet X (fun o i v H Q => t o i v H Q ∨ u o i v H Q) := fun pins s σ H o i v ov iv w Q I r1 r2 r3 q => q.elim (h pins s σ H o i v ov iv w Q I r1 r2 r3) (h' pins s σ H o i v ov iv w Q I r1 r2 r3)
def sLset (own : Bool) (f : EvE) (g : EvL) (h : EvO) : EvS := fun ε => (f ε).bind fun r ε => (g ε).bind fun l ε => (h ε).bind fun o ε => opt (res o ε) fun k => opt (setD own l k.2 r) fun z => lBack l z.1 z.2 ε fun ε => .ok .nx ε
section
variable {X : Cx} {W : WX} {a b e : Expr} {pos tp : Pos} {f : EvE} {g : EvL} {h : EvO}
theorem rs_lset (own : Bool) (hu : X.A.units + 64 < cLine) (he : RE X W e f) (ha : RL X W a g) (hb : RO X W b h)
    (hs : swapsWithSole [.Subscript a b tp] e pos.line X.env = pure false := by rfl) (hw : swappedStores [.Subscript a b tp] e X.env = pure none := by rfl)
    (hq : ∀ v, assign (.Subscript a b tp) X.env v = (do
      let p ← holding [v] (eval a X.env)
      let q ← holding [v, p] (eval b X.env)
      standAt tp
      holding [v, p, q] (setItem p q v)
      release [v, p, q] []) := by intro _; rfl)
    (h1 : (assignEach [.Subscript a b tp] X.env).map (·.2) = [assign (.Subscript a b tp) X.env] := by rfl) : RS X W (.Assign [.Subscript a b tp] e pos) (sLset own f g h) := by
  refine ⟨PS.imp (ps_asg he.run (pg_sub ha.run hb.run (PSet.or set_list (set_dict (by omega))) hq) hs hw h1) fun D' σ H ⟨c, T, ε, s, q⟩ => ⟨c, T, ε, s, pst_mono (fun r ε1 q9 y H1 s1 => ?_) (pst_of_S (pstS_bind q))⟩⟩
  refine ⟨c, _, ε1, s1, pst_mono (fun l ε2 q8 v Fl H2 o s2 => ?_) (pst_push (pst_of_S (pstS_bind q9)))⟩
  refine ⟨c, _, ε2, s2, pst_mono (fun ko ε3 q7 x H3 s3 => ?_) (pst_push (pst_pushes (pst_push (pst_of_S (pstS_bind q8)))))⟩
  obtain ⟨k, e1, q6⟩ := pst_opt (W := W) (c := c) (T := T) (σ := σ) (M := wd X) (P := flP (wd X) c T D') (pst_of_S q7)
  obtain ⟨z, e2, q5⟩ := pst_opt q6
  obtain ⟨s', d'⟩ := z
  have rx := s3.readO e1
  have s4 : Sta (wd X) c (.val v l.s l.d :: .val y r.1 r.2 :: (Fl ++ T)) σ H3 ε3 := s3.drop.perm (.cons _ List.perm_middle)
  obtain ⟨p, rfl, hh⟩ := setD_run s4 e2
  have fin : ∀ H4, Sta (wd X) c (.val (.ref p) s' d' :: (Fl ++ T)) σ H4 ε3 → D'.nx σ H4 := fun H4 s5 => by
    obtain ⟨ε4, s6, q4⟩ := lBack_run o s5 q5
    exact q4 σ H4 s6
  rcases hh with ⟨vs, i, j, hd, hp, hj, s5⟩ | ⟨kvs, kk, hd, hp, hz, s5⟩
  · rw [hd] at rx
    exact .inl ⟨p, vs, i, j, rfl, rx, hp, hj, fin _ s5⟩
  · exact .inr ⟨p, _, rfl, .inl ⟨kvs, kk, hp, key_rep hd rx, hz, rfl⟩, fin _ s5⟩
end
end R
set_option Elab.async false
set_option linter.all false
set_option autoImplicit false
/-! R33: d.get(k) and d.get(k, x) of a frozen dict. -/
namespace R
open PySem PySem.Spec PyProof.Rows L2
def isDicR (r : Rv) : Option Unit := match r.2 with
  | .dic _ _ => if r.1.flat = true then some () else none
  | _ => none
/-- none: no dict, or no key; some o: what the key finds -/
def gtD (r1 r2 : Rv) : Option (Option D) := match r1.2 with
  | .dic ks ds => if r1.1.flat = true then (keyD r2.2).map (dGet ks ds) else none
  | _ => none
def sGet1 (f g : EvO) : EvE := fun ε => (f ε).bind fun o1 ε => opt ((res o1 ε).bind isDicR) fun _ => (g ε).bind fun o2 ε => opt (res o1 ε) fun r1 => opt (res o2 ε) fun r2 => opt (gtD r1 r2) fun d => .ok (.fro, d.getD .non) ε
theorem Sta.isDic {M : Wd} {c : Ctx} {T : List Ow} {σ : L2.St} {H : Hp} {ε : En} {o : Opd} {v : V} {u : Unit} (s : Sta M c (opw σ o v :: T) σ H ε) (e : (res o ε).bind isDicR = some u) : ∃ a, v = .ref a ∧ IsD H a := by
  rw [Option.bind_eq_some_iff] at e
  obtain ⟨⟨sh, d⟩, e1, e2⟩ := e
  unfold isDicR at e2
  cases d with
  | dic ks ds =>
    simp only at e2
    split at e2
    · rename_i hf
      obtain ⟨vs, ⟨hk, a0, rfl, t1⟩, s3⟩ := s.know e1 hf
      exact ⟨a0, rfl, .inl ⟨_, t1⟩⟩
    · cases e2
  | _ => cases e2
/-- what a key finds in a frozen dict that is an operand -/
theorem Sta.dget {M : Wd} {c : Ctx} {T : List Ow} {σ : L2.St} {H : Hp} {ε : En} {o : Opd} {v y : V} {r1 r2 : Rv} {od : Option D} (s : Sta M c (opw σ o v :: T) σ H ε) (e1 : res o ε = some r1) (p2 : Rep M H r2.2 y) (e3 : gtD r1 r2 = some od) :
    ∃ a ow, v = .ref a ∧ DGet H a y ow ∧ (match od, ow with
      | some d, some w => Sta M c (.val w .fro d :: T) σ H ε
      | none, none => True
      | _, _ => False) := by
  obtain ⟨sh1, d1⟩ := r1
  unfold gtD at e3
  cases d1 with
  | dic ks ds =>
    simp only at e3
    split at e3
    · rename_i hf
      rw [Option.map_eq_some_iff] at e3
      obtain ⟨k, ek, e4⟩ := e3
      have ex := key_rep ek p2
      obtain ⟨vs, ⟨hk, a0, rfl, t1⟩, s3⟩ := s.know e1 hf
      have hr := s3.ok.pinned
      have g := dGet_rel (ks := ks) (ds := ds) k hk hr
      rw [e4] at g
      cases od with
      | some d =>
        obtain ⟨w, h1, _⟩ := g
        refine ⟨a0, some w, rfl, .inl ⟨_, k, t1, ex, h1.symm⟩, ?_⟩
        have s4 := (s3.perm (List.Perm.swap _ _ _)).drop
        exact ⟨(s4.ok.pinMap (ψ := fun G => Rep M G d w) fun G z => by
          have g := dGet_rel (ks := ks) (ds := ds) k hk z
          rw [e4] at g
          obtain ⟨w', h2, h3⟩ := g
          rw [h1] at h2; cases h2
          exact h3).ofPin, s4.fit⟩
      | none => exact ⟨a0, none, rfl, .inl ⟨_, k, t1, ex, g.symm⟩, trivial⟩
    · cases e3
  | _ => cases e3
section
variable {X : Cx} {W : WX} {pos apos : Pos} {a b e : Expr} {f g : EvO} {h : EvE}
theorem re_get1 (hu : X.A.units + 64 < cLine) (ha : RO X W a f) (hb : RO X W b g) (hs : starEach [b] X.env = [(false, eval b X.env)] := by rfl) (m : M1 X a "get" apos b pos := by exact ⟨rfl, rfl, rfl, rfl⟩) :
    RE X W (.Call (.Attribute a "get" apos) [b] [] pos) (sGet1 f g) := by
  refine ⟨PE.imp (pe_dget1 (by omega) ha.run hb.run m) fun σ H Q ⟨c, T, ε, s, q⟩ => ?_⟩
  refine ⟨c, T, ε, s, pst_mono (fun o1 ε1 q9 v1 H1 s1 => ?_) (pst_bind q)⟩
  obtain ⟨u, e0, q8⟩ := pst_opt q9
  obtain ⟨a0, rfl, hd⟩ := s1.isDic e0
  refine ⟨a0, rfl, hd, c, _, ε1, s1, pst_mono (fun o2 ε2 q7 v2 H2 s2 => ?_) (pst_push (pst_bind q8))⟩
  obtain ⟨r1, e1, q6⟩ := pst_opt q7
  obtain ⟨r2, e2, q5⟩ := pst_opt q6
  obtain ⟨od, e3, q4⟩ := pst_opt q5
  have p2 := s2.readO e2
  obtain ⟨a1, ow, h0, g0, z⟩ := s2.drop.dget e1 p2 e3
  cases h0
  refine ⟨ow, g0, ?_⟩
  cases od with
  | some d =>
    cases ow with
    | some w => exact q4 _ _ z
    | none => exact z.elim
  | none =>
    cases ow with
    | some w => exact z.elim
    | none => exact q4 _ _ (s2.drop.drop.lit fun _ => rfl)
/-- d.get(k, x): x is frozen -/
def sGet2 (f g : EvO) (h : EvE) : EvE := fun ε => (f ε).bind fun o1 ε => opt ((res o1 ε).bind isDicR) fun _ => (g ε).bind fun o2 ε => (h ε).bind fun r3 ε => if r3.1.eqb .fro = true then
  opt (res o1 ε) fun r1 => opt (res o2 ε) fun r2 => opt (gtD r1 r2) fun d => .ok (.fro, d.getD r3.2) ε else .bad
theorem re_get2 (hu : X.A.units + 64 < cLine) (ha : RO X W a f) (hb : RO X W b g) (he : RE X W e h) (m : M2 X a "get" apos b e pos := by exact ⟨rfl, rfl, rfl, rfl⟩) :
    RE X W (.Call (.Attribute a "get" apos) [b, e] [] pos) (sGet2 f g h) := by
  refine ⟨PE.imp (pe_dget2 (by omega) ha.run hb.run he.run m) fun σ H Q ⟨c, T, ε, s, q⟩ => ?_⟩
  refine ⟨c, T, ε, s, pst_mono (fun o1 ε1 q9 v1 H1 s1 => ?_) (pst_bind q)⟩
  obtain ⟨u, e0, q8⟩ := pst_opt q9
  obtain ⟨a0, rfl, hd⟩ := s1.isDic e0
  refine ⟨a0, rfl, hd, c, _, ε1, s1, pst_mono (fun o2 ε2 q7 v2 H2 s2 => ?_) (pst_push (pst_bind q8))⟩
  refine ⟨c, _, ε2, s2, pst_mono (fun r3 ε3 q6 v3 H3 s3 => ?_) (pst_push (pst_push (pst_bind q7)))⟩
  split at q6
  · rename_i hf
    have hf := Sh.eqb_eq hf
    obtain ⟨r1, e1, q5⟩ := pst_opt q6
    clear q6
    obtain ⟨r2, e2, q4⟩ := pst_opt q5
    clear q5
    obtain ⟨od, e3, q3⟩ := pst_opt q4
    clear q4
    have p2 := s3.drop.readO e2
    obtain ⟨a1, ow, h0, g0, z⟩ := (s3.drop.drop).dget e1 p2 e3
    cases h0
    refine ⟨ow, g0, ?_⟩
    cases od with
    | some d =>
      cases ow with
      | some w => exact q3 _ _ z
      | none => exact z.elim
    | none =>
      cases ow with
      | some w => exact z.elim
      | none =>
        rw [hf] at s3
        exact q3 _ _ (s3.perm ((List.Perm.cons _ (List.Perm.swap _ _ _)).trans ((List.Perm.swap _ _ _).trans (.cons _ (List.Perm.swap _ _ _))))).drop.drop
  · exact q6.elim
end
end R
set_option Elab.async false
set_option linter.all false
set_option autoImplicit false
/-! R34: place.pop(k) of a dict that is one's own. -/
namespace R
open PySem PySem.Spec PyProof.Rows L2
theorem dropK_zip : ∀ {ks : List Key} {vs : List V} {k : Key} {j : Nat}, ks.Nodup → ks.length = vs.length → kPos ks k = some j → dropK (ks.zip vs) k = (ks.eraseIdx j).zip (vs.eraseIdx j)
  | [], vs, k, j, _, _, e => by simp [kPos] at e
  | x :: ks, [], k, j, _, hl, e => by cases hl
  | x :: ks, v :: vs, k, j, nd, hl, e => by
    obtain ⟨n1, n2⟩ := List.nodup_cons.mp nd
    unfold kPos at e
    rw [List.findIdx?_cons] at e
    by_cases hx : x = k
    · subst hx
      simp at e
      subst e
      have : (ks.zip vs).filter (fun kv => decide (kv.1 ≠ x)) = ks.zip vs := by
        rw [List.filter_eq_self]
        intro kv hkv
        have : kv.1 ≠ x := fun e => n1 (e ▸ (List.of_mem_zip hkv).1)
        simp [this]
      simp only [dropK, List.zip_cons_cons, List.filter_cons, List.eraseIdx_cons_zero]
      rw [this]
      simp
    · simp [hx] at e
      obtain ⟨m, hm, rfl⟩ := e
      have ih := dropK_zip (k := k) n2 (Nat.succ.inj hl) (show kPos ks k = some m by unfold kPos; exact hm)
      simp only [dropK, List.zip_cons_cons, List.filter_cons, List.eraseIdx_cons_succ] at ih ⊢
      rw [ih]
      simp [hx]
theorem itc_erase {s : Sh} : ∀ {ds : List D} {vs : List V} {j : Nat} {x : D}, ds.length = vs.length → ds[j]? = some x → ∃ w, vs[j]? = some w ∧ (itc s ds vs).Perm (.val w s x :: itc s (ds.eraseIdx j) (vs.eraseIdx j))
  | y :: ds, v :: vs, 0, x, _, e => by
    simp at e; subst e
    exact ⟨v, rfl, .refl _⟩
  | y :: ds, v :: vs, j + 1, x, hl, e => by
    obtain ⟨w, h1, h2⟩ := itc_erase (s := s) (ds := ds) (vs := vs) (j := j) (x := x) (Nat.succ.inj hl) (by simpa using e)
    exact ⟨w, by simpa using h1, (h2.cons _).trans (.swap _ _ _)⟩
  | [], _, _, _, _, e => by simp at e
  | _ :: _, [], _, _, hl, _ => by cases hl
def popD (l : Lv) (k : D) : Option (Rv × Sh × D) := match l.s, l.d with
  | .con s, .dic ks ds => if ks.Nodup then (keyD k).bind fun k => (kPos ks k).bind fun j => (ds[j]?).map fun x => ((s, x), .con s, .dic (ks.eraseIdx j) (ds.eraseIdx j)) else none
  | _, _ => none
def isDicL (l : Lv) : Option Unit := match l.s, l.d with
  | .con _, .dic _ _ => some ()
  | _, _ => none
theorem Sta.isDicL {M : Wd} {c : Ctx} {T : List Ow} {σ : L2.St} {H : Hp} {ε : En} {l : Lv} {v : V} {u : Unit} (s : Sta M c (.val v l.s l.d :: T) σ H ε) (e : isDicL l = some u) : ∃ a, v = .ref a ∧ IsD H a := by
  obtain ⟨li, s0, ls, ld, rb, top⟩ := l
  unfold R.isDicL at e
  simp only at e s
  split at e
  · obtain ⟨a, vs, rfl, hk, hl, ok⟩ := OK.openD (L := T ++ slots σ ε) s.ok
    exact ⟨a, rfl, .inl ⟨_, .inl ok.cell⟩⟩
  · cases e
theorem popD_run {M : Wd} {c : Ctx} {T : List Ow} {σ : L2.St} {H : Hp} {ε : En} {l : Lv} {v : V} {d : D} {r : Rv} {s' : Sh} {d' : D} (s : Sta M c (.val v l.s l.d :: T) σ H ε) (e : popD l d = some (r, s', d')) :
    ∃ a kvs k w, v = .ref a ∧ keyD d = some k ∧ H a = some (.dK kvs) ∧ valV kvs k = some w ∧ Sta M c (.val v s' d' :: .val w r.1 r.2 :: T) σ (L2.upd H a (.dK (dropK kvs k))) ε := by
  obtain ⟨li, s0, ls, ld, rb, top⟩ := l
  unfold popD at e
  simp only at e s
  split at e
  · rename_i s1 ks ds
    split at e
    · rename_i nd
      obtain ⟨k, ek, e2⟩ := Option.bind_eq_some_iff.mp e
      obtain ⟨j, ej, e3⟩ := Option.bind_eq_some_iff.mp e2
      obtain ⟨x, ex, e4⟩ := Option.map_eq_some_iff.mp e3
      cases e4
      obtain ⟨a, vs, rfl, hk, hl, ok⟩ := OK.openD (L := T ++ slots σ ε) s.ok
      obtain ⟨w, ew, hp⟩ := itc_erase (s := s1) hl ex
      refine ⟨a, _, k, w, rfl, ek, ok.cell, kPos_get (ds := vs) ej ew hk, ?_⟩
      rw [dropK_zip nd hk ej]
      have hj : j < ds.length := (List.getElem?_eq_some_iff.mp ex).1
      have hjv : j < vs.length := by omega
      have hjk : j < ks.length := by omega
      refine ⟨OK.closeD (L := .val w s1 x :: T ++ slots σ ε) (by rw [List.length_eraseIdx_of_lt hjk, List.length_eraseIdx_of_lt hjv, hk]) (by rw [List.length_eraseIdx_of_lt hj, List.length_eraseIdx_of_lt hjv, hl]) ?_, s.fit⟩
      refine ok.upd.perm (.cons _ ?_)
      exact (List.Perm.append_right _ hp).trans (List.perm_middle (l₁ := itc s1 (ds.eraseIdx j) (vs.eraseIdx j))).symm
    · cases e
  · cases e
/-- place.pop(k) -/
def sPop1 (f : EvL) (g : EvO) : EvE := fun ε => (f ε).bind fun l ε => opt (isDicL l) fun _ => (g ε).bind fun o ε => opt (res o ε) fun k => opt (popD l k.2) fun z => lBack l z.2.1 z.2.2 ε fun ε => .ok z.1 ε
section
variable {X : Cx} {W : WX} {a b : Expr} {pos apos : Pos} {f : EvL} {g : EvO}
theorem re_pop1 (ha : RL X W a f) (hb : RO X W b g) (m : M1 X a "pop" apos b pos := by exact ⟨rfl, rfl, rfl, rfl⟩) : RE X W (.Call (.Attribute a "pop" apos) [b] [] pos) (sPop1 f g) := by
  refine ⟨PE.imp (pe_dpop1 ha.run hb.run m) fun σ H Q ⟨c, T, ε, s, q⟩ => ⟨c, T, ε, s, pst_mono (fun l ε1 q9 v Fl H1 o s1 => ?_) (pst_bind q)⟩⟩
  obtain ⟨u, e0, q8⟩ := pst_opt q9
  obtain ⟨a0, rfl, hd⟩ := s1.isDicL e0
  refine ⟨a0, rfl, hd, c, _, ε1, s1, pst_mono (fun ko ε2 q7 y H2 s2 => ?_) (pst_push (pst_pushes (pst_bind q8)))⟩
  obtain ⟨k, e1, q6⟩ := pst_opt q7
  obtain ⟨z, e2, q5⟩ := pst_opt q6
  obtain ⟨r, s', d'⟩ := z
  have rx := s2.readO e1
  obtain ⟨a1, kvs, kk, w, h0, hk, hc, hv, s3⟩ := popD_run s2.drop e2
  cases h0
  refine ⟨kvs, kk, w, hc, key_rep hk rx, hv, ?_⟩
  have s4 : Sta (wd X) c (.val (.ref a0) s' d' :: (Fl ++ (.val w r.1 r.2 :: T))) σ (L2.upd H2 a0 (.dK (dropK kvs kk))) ε2 := s3.perm (.cons _ List.perm_middle.symm)
  obtain ⟨ε4, s6, q4⟩ := lBack_run (T := .val w r.1 r.2 :: T) o s4 (pst_push q5)
  exact q4 _ _ s6
end
end R
set_option Elab.async false
set_option linter.all false
set_option autoImplicit false
/-! R35: a comprehension whose element may raise: the exception leaves the block. -/
namespace R
open PySem PySem.Spec PyProof.Rows L2
section
variable {M : Model} {A : Around} {E : Value → Shared → Prop} {s : Shared} {env env' : Env} {outer : List Env} {B : Heap} {a L C : Addr} {Z : Obj → Prop}
theorem note_env (h : env'.frame = env.frame) (x : Value) : noteFrame x env' = noteFrame x env := by
  unfold noteFrame PySem.frameOf
  rw [h]
/-- noted elsewhere: noted here too -/
theorem note_moved {Q : Unit → Shared → Prop} (hZ : HandSPX.Steady Z) (hfr : A.frames = some (env :: outer)) (hf : env.frame = some L) (hC : rawInt C ≠ rawInt L) (hh : HandSPX.HeldZ B (env :: outer) a Z C s.heap)
    (hQ : ∀ h', HandSPX.HeldZ B (env :: outer) a Z L h' → s.heap.UpToSlots h' → Q () { s with heap := h' }) : wpAny M A (noteFrame (.ref a) env) Q E s := by
  obtain ⟨p1, p2, p3, oe, vs, T, oT, ts, p4, p5, p6, p7, p8, p9, p10, p11, p12⟩ := hh
  have keepT : ∀ b o, s.heap.get? b = some o → (∀ vs, o.data ≠ .fields vs) → b ≠ T := by
    rintro b o hb hnf rfl
    exact hnf ts (by rw [hb] at p10; cases p10; exact p11)
  have apart : ∀ b, b ≠ T → (s.heap.update T (Obj.mapFields (·.setIfInBounds 3 Value.none))).get? b = s.heap.get? b := fun b hb => Heap.get?_update_other _ _ (Ne.symm hb)
  unfold noteFrame
  simp only [hf]
  refine wpAny_bind (wpAny_field p4 p6 p7 ?_)
  rw [if_pos (by simp)]
  refine wpAny_bind (wpAny_field p10 p11 p12 ?_)
  rw [if_neg (by simpa using hC)]
  refine wpAny_bind (wpAny_setField p10 p11 (Array.getElem?_eq_some_iff.mp p12).1 ?_)
  refine HandSPX.wpAny_entryZ hZ hfr (p3.of_keeps fun b o hb hnf => ⟨o, (apart b (keepT b o hb hnf)).trans hb, rfl⟩) hf ((apart a (Ne.symm p9)).trans p4)
    (fun b o hbo => (apart b (by rintro rfl; rw [p8] at hbo; cases hbo)).trans (p1 b o hbo)) p2 p6 (Array.getElem?_eq_some_iff.mp p7).1 p5 fun h' N => ?_
  exact hQ h' ⟨N.1, p2, N.2.1, N.2.2.1⟩ fun b o hb hnf => N.2.2.2 b o ((apart b (keepT b o hb hnf)).trans hb) hnf
/-- whatever is in the air of a block is noted at the def's frame -/
theorem sky_note {Q : Unit → Shared → Prop} (hZ : HandSPX.Steady Z) (hfr : A.frames = some (env :: outer)) (hf : env.frame = some L) (hC : rawInt C ≠ rawInt L) (hb : env'.frame = env.frame) (x : Sky B (env :: outer) a Z C s.heap)
    (hQ : ∀ h', HandSPX.HeldZ B (env :: outer) a Z L h' → s.heap.UpToSlots h' → Q () { s with heap := h' }) : wpAny M A (noteFrame (.ref a) env') Q E s := by
  rw [note_env hb]
  rcases x with ⟨q1, q2, q3, oe, vs, q4, q5, q6, q7⟩ | q | q
  · exact HandSPX.look_newZ hZ hfr q3 hf q4 q1 q2 q6 q7 q5 hQ
  · exact HandSPX.looks_onZ hZ hfr hf q hQ
  · exact note_moved hZ hfr hf hC q hQ
/-- and goes on -/
theorem held_on {α : Type} {Q : α → Shared → Prop} {what : String} (hf : env'.frame = some L) (x : HandSPX.HeldZ B (env :: outer) a Z L s.heap)
    (hQ : ∀ h', HandSPX.HeldZ B (env :: outer) a Z L h' → s.heap.UpToSlots h' → E (.ref a) { s with heap := h' }) : wpAny M A (PySem.passOn what (.ref a) env' : Sem α) Q E s := by
  obtain ⟨p1, p2, p3, p⟩ := x
  have p' := p
  obtain ⟨oe, vs, T, oT, ts, p4, p5, p6, p7, p8, p9, p10, p11, p12⟩ := p
  unfold PySem.passOn
  refine wpAny_bind (wpAny_field p4 p6 p7 ?_)
  rw [if_neg (by simp)]
  have fin : wpAny M A (setFlight (.ref a) env'.frame) (fun _ s4 => wpAny M A (throw (.ref a) : Sem α) Q E s4) E s := by
    rw [hf]
    exact HandSPX.setFlight_onZ ⟨p1, p2, p3, p'⟩ fun h' x up => wpAny_throw (hQ h' x up)
  first
    | exact wpAny_bind fin
    | exact wpAny_bind (wpAny_bind fin)
    | exact wpAny_bind (wpAny_pure (wpAny_bind fin))
end
/-- frames that are not C -/
theorem frames_but {B h h' : Heap} {C : Addr} (k : ∀ b, b ≠ C → h'.get? b = h.get? b) : ∀ {l : List Env}, C ∉ frs l → h.FunFrames B l → h'.FunFrames (PySem.W.hideAll B [C]) l
  | [], _, _ => trivial
  | env :: l, hC, ⟨q1, ⟨L, o, q2, q3, q4, q5⟩, q6⟩ => by
    have e : frs (env :: l) = L :: frs l := by unfold frs; rw [List.filterMap_cons, q2]
    rw [e] at hC
    obtain ⟨n1, n2⟩ := not_or.mp (fun h => hC (List.mem_cons.mpr h))
    refine ⟨q1, ⟨L, o, q2, ?_, (k L (fun h => n1 h.symm)).trans q4, q5⟩, frames_but k n2 q6⟩
    cases z : (PySem.W.hideAll B [C]).get? L with
    | none => rfl
    | some o2 => rw [PySem.W.of_hideAll _ z] at q3; cases q3
/-- the exception stays in the air while the block's names at C are let go -/
theorem held_but {B h h' : Heap} {l : List Env} {a L C : Addr} {Z : Obj → Prop} {m : Str → Option Value} (hn : h.Ns C m) (k : ∀ b, b ≠ C → h'.get? b = h.get? b) (hC : C ∉ frs l) (x : HandSPX.HeldZ B l a Z L h) : HandSPX.HeldZ (PySem.W.hideAll B [C]) l a Z L h' := by
  obtain ⟨q1, q2, q3, oe, vs, T, oT, ts, q4, q5, q6, q7, q8, q9, q10, q11, q12⟩ := x
  have hid : ∀ b, B.get? b = none → (PySem.W.hideAll B [C]).get? b = none := fun b e => by
    cases z : (PySem.W.hideAll B [C]).get? b with
    | none => rfl
    | some o2 => rw [PySem.W.of_hideAll _ z] at e; cases e
  have fld : ∀ b o vs, h.get? b = some o → o.data = .fields vs → b ≠ C := by
    rintro b o vs e1 e2 rfl
    obtain ⟨ob, es, ep, g1, g2, _⟩ := hn
    rw [e1] at g1; cases g1
    rw [e2] at g2; cases g2
  refine ⟨fun b o e => ?_, hid _ q2, frames_but k hC q3, oe, vs, T, oT, ts, (k a (fld a _ _ q4 q6)).trans q4, q5, q6, q7, hid _ q8, q9, (k T (fld T _ _ q10 q11)).trans q10, q11, q12⟩
  by_cases hb : b = C
  · subst hb
    rw [PySem.W.hideAll_none _ (by simp)] at e; cases e
  · exact (k b hb).trans (q1 b o (PySem.W.of_hideAll _ e))
end R
set_option Elab.async false
set_option linter.all false
set_option autoImplicit false
/-! R36: what a comprehension's block lets out is the def's to take. -/
namespace R
open PySem PySem.Spec PyProof.Rows L2
/-- the block of a comprehension whose exceptions go on in the def -/
def blkE (X : Cx) (s : Shared) (H : Hp) (scope : Scope) (ce : Env) (fp : List Addr) : Cx :=
  { X.blk s H scope ce fp with xe := notedBy (model X.prog X.w) X.A ce (CompFails (model X.prog X.w) X.A X.xe ce) }
theorem takes_blk {X : Cx} {W : WX} {pins : List (Addr × Obj)} {σ : L2.St} {H3 : Hp} {s3 : Shared} {scope : Scope} {ce : Env} {fp : List Addr} (tk : Takes X W) (hs : X.stack = X.env :: X.outer) (hf : X.env.frame = some X.env.locals)
    (I3 : Inv X pins σ H3 s3) (hl : ce.locals = s3.heap.objs.size) (hcf : ce.frame = X.env.frame) (f3 : ∀ b ∈ fp, FpOk X pins H3 b) : Takes (blkE X s3 H3 scope ce fp) (fun cls d _ H => W cls d σ H) := by
  rintro u s' ⟨a, B, sI, pins', σ', H', cls, d, rfl, I6, nb, up, sky, na, os, ag, w⟩
  have hfr : X.A.frames = some (X.env :: X.outer) := by rw [I3.ok.frames, hs]
  have hlt : X.env.locals < s3.heap.objs.size := I3.lt
  have hne : ce.locals ≠ X.env.locals := by rw [hl]; exact Nat.ne_of_gt hlt
  have hC : rawInt ce.locals ≠ rawInt X.env.locals := fun e => hne (by have e := e; simp [rawInt] at e; exact_mod_cast e)
  have sky' : Sky B (X.env :: X.outer) a (Zc cls d) ce.locals s'.heap := hs ▸ sky
  have I7 : Inv X pins σ H' sI := I3.call' (ch := fp) I6.os I6.base I6.hok I6.bare fun b hb => ⟨(f3 b hb).2.2.2.1, (f3 b hb).2.1, (f3 b hb).2.2.2.2.1, (f3 b hb).2.2.2.2.2⟩
  have nC : H' ce.locals = none := I6.free
  have fC : FpOk X pins H' ce.locals := I3.fpOk (Nat.le_of_eq hl.symm) nC
  have hCf : ce.locals ∉ frs X.stack := fun hm => by
    rcases List.mem_cons.mp (I3.stkSub _ hm) with z | z
    · exact hne z
    · exact fC.2.2.1 z
  obtain ⟨m, hn, _⟩ := I6.loc
  show wpAny (model X.prog X.w) X.A (noteFrame (.ref a) ce) (fun _ s'' => CompFails (model X.prog X.w) X.A X.xe ce (.ref a) s'') _ s'
  refine sky_note Zc.steady hfr hf hC hcf sky' fun h1 held up1 => ?_
  have hn1 : h1.Ns ce.locals m := (up.trans up1).ns hn
  refine ⟨m, hn1, fun h' m' hn' sb => ?_⟩
  refine held_on (hcf.trans hf) (held_but (h' := h') hn1 sb.2 (hs ▸ hCf) held) fun h2 held2 up2 => tk _ _ ?_
  obtain ⟨f0, f1, f2, f3', f4, f5⟩ := fC
  have hid : ∀ {h : Heap} {b : Addr} {o : Obj}, (PySem.W.hideAll h [ce.locals]).get? b = some o → b ≠ ce.locals ∧ h.get? b = some o := fun {h b o} e => by
    refine ⟨fun z => ?_, PySem.W.of_hideAll _ e⟩
    subst z
    rw [PySem.W.hideAll_none _ (by simp)] at e; cases e
  refine ⟨a, PySem.W.hideAll B [ce.locals], { sI with heap := PySem.W.hideAll sI.heap [ce.locals] }, pins, σ, H', cls, d, rfl,
    I7.turned (t' := sI.toks) (fun b o hb e => PySem.W.hideAll_get _ e (by simpa using hb)) f0 f1 f3' f4 f5, fun b o e hb => ?_, fun b o e hnf => ?_, .inr (.inr (by rw [hs]; exact held2)), na, os, ag, w⟩
  · obtain ⟨z1, z2⟩ := hid e
    exact PySem.W.hideAll_get _ (nb b o z2 hb) (by simpa using z1)
  · obtain ⟨z1, z2⟩ := hid e
    obtain ⟨sl, e1⟩ := (up.trans up1) b o z2 hnf
    have e2 : h'.get? b = some { o with slots := sl } := (sb.2 b z1).trans e1
    obtain ⟨sl2, e3⟩ := up2 b _ e2 hnf
    exact ⟨sl2, e3⟩
end R
set_option Elab.async false
set_option linter.all false
set_option autoImplicit false
/-! R37: list comprehensions whose element may raise. -/
namespace R
open PySem PySem.Spec PyProof.Rows L2
section
variable {X : Cx} {pins : List (Addr × Obj)} {σ : L2.St} {H H3 : Hp} {s s3 : Shared} {scope : Scope} {ce : Env} {fp : List Addr}
theorem to_blkE (i : Inv (X.blk s3 H3 scope ce fp) pins σ H s) : Inv (blkE X s3 H3 scope ce fp) pins σ H s := by
  obtain ⟨⟨a1, a2, a3, a4, a5, a6, a7, a8, a9, a10, a11, a12, a13, a14, a15, a16, a17, a18⟩, b1, b2, b3, b4, b5, b6, b7, b8, b9, b10⟩ := i
  exact ⟨⟨a1, a2, a3, a4, a5, a6, a7, a8, a9, a10, a11, a12, a13, a14, a15, a16, a17, a18⟩, b1, b2, b3, b4, b5, b6, b7, b8, b9, b10⟩
theorem of_blkE (i : Inv (blkE X s3 H3 scope ce fp) pins σ H s) : Inv (X.blk s3 H3 scope ce fp) pins σ H s := by
  obtain ⟨⟨a1, a2, a3, a4, a5, a6, a7, a8, a9, a10, a11, a12, a13, a14, a15, a16, a17, a18⟩, b1, b2, b3, b4, b5, b6, b7, b8, b9, b10⟩ := i
  exact ⟨⟨a1, a2, a3, a4, a5, a6, a7, a8, a9, a10, a11, a12, a13, a14, a15, a16, a17, a18⟩, b1, b2, b3, b4, b5, b6, b7, b8, b9, b10⟩
end
section
variable {X : Cx}
/-- the whole of a comprehension: use tells what becomes of the list -/
theorem lce_core {pins : List (Addr × Obj)} {s : Shared} {σ : L2.St} {H : Hp} {Q : VK} {elt tg iter : Expr} {ifs : List Expr} {scope : Scope} {own : List (Str × Nat)} {pos pos' : Pos} {wi : TI} {g : TG} {tt : TT} {te : TE} {use : Option (Value → Sem Unit)} {Qf : Value → Shared → Prop} {W : WX}
    (calm : X.calm = true) (nd : X.N.Nodup) (inv : Inv X pins σ H s) (src : PI X tg iter wi) (blk : BlkOk X.N X.env.scope scope own) (tk : Takes X W) (stk : X.stack = X.env :: X.outer) (frm : X.env.frame = some X.env.locals)
    (pg : ∀ (a : Shared) (G : Hp) (C : Addr) (cl : List (Str × Addr)) (fs : List Addr), PG (X.blk a G scope (compEnvC scope cl C X.env) fs) tg g)
    (pt : ∀ (a : Shared) (G : Hp) (C : Addr) (cl : List (Str × Addr)) (fs : List Addr), PTs (X.blk a G scope (compEnvC scope cl C X.env) fs) ifs tt)
    (pe : ∀ (a : Shared) (G : Hp) (C : Addr) (cl : List (Str × Addr)) (fs : List Addr), Takes (blkE X a G scope (compEnvC scope cl C X.env) fs) (fun cls d _ G' => W cls d σ G') → PE (blkE X a G scope (compEnvC scope cl C X.env) fs) elt te)
    (fold : ∀ x, foldedSetIterable iter X.env x = pure x) (w : tLc wi g tt te (own.map (·.2)) σ H Q)
    (out : ∀ (D : Addr) (ce : Env) (t : Shared) (m : Str → Option Value) (G : Hp), Inv X pins σ G t → Q (.ref D) G → t.heap.Ns ce.locals m → FpOk X pins G ce.locals → compEnds (model X.prog X.w) X.A X.xe use Qf (.ref D) ce (.ok .next) t) :
    wpAny (model X.prog X.w) X.A (comprehension (.ListComp elt [⟨tg, iter, ifs, 0⟩] scope pos) scope X.env pos' (newList []) false (eval iter X.env) use) Qf X.xe s := by
  have caught : ∀ y ∈ scope.names, y.2 = .free → ∃ c, X.env.cells.lookup y.1 = some c := fun y my fy => (blk.free y my fy).elim (fun z => inv.ok.has _ (.inl z)) fun z => inv.ok.has _ (.inr z)
  refine comprehension_at (use := use) rfl fold (closure_ok caught) blk.kind (fun y my ly => ly ▸ blk.uniq y my) (thn (src.run pins s σ H _ inv w) fun xv s1 at1 => thn at1 fun itv s2 at2 => ?_)
  obtain ⟨it, fs, tn, J, H2, rfl, inv2, turn, st2, ok2, next⟩ := at2
  refine wpAny_newObj_type (newEnv_comp ?_) (Nat.zero_le _)
  obtain ⟨D, eD⟩ : ∃ D, s2.heap.objs.size = D := ⟨_, rfl⟩
  rw [eD]
  obtain ⟨Ms, ⟨n0, start⟩, walk⟩ := next D (inv2.hok.fresh (Nat.le_of_eq eD))
  obtain ⟨s3, e3⟩ : ∃ t : Shared, { s2 with heap := s2.heap.push { cls := .type "list", data := .seq ([] : List Value).toArray } } = t := ⟨_, rfl⟩
  obtain ⟨G3, eG⟩ : ∃ G : Hp, upd H2 D (.lst []) = G := ⟨_, rfl⟩
  have h3 : s3.heap = s2.heap.push { cls := .type "list", data := .seq ([] : List Value).toArray } := by subst e3; rfl
  have inv3 : Inv X pins σ G3 s3 := by
    subst eG e3 eD
    exact inv2.laid (t' := s2.toks) (fun b o e => Heap.get?_push_of_some _ e) (Nat.le_refl _) ⟨Nat.zero_le _, [], 0, .nil, Heap.get?_push_size _ rfl⟩
  have low : ∀ b ∈ fs, b < s2.heap.objs.size := fun b mb => (turn.obj _ _ st2 b mb).elim fun o z => Heap.lt_size z.1
  have ok3 : ∀ b ∈ fs, FpOk X pins G3 b ∧ b < s3.heap.objs.size := fun b mb => by
    refine ⟨⟨?_, (ok2 b mb).2⟩, by rw [h3, Heap.size_push]; exact Nat.lt_succ_of_lt (low b mb)⟩
    rw [← eG, upd_ne (eD ▸ Nat.ne_of_lt (low b mb))]
    exact (ok2 b mb).1
  have inv4 := block_start inv3 blk nd ok3
  have pg := pg s3 G3 s3.heap.objs.size (cellsFrom (s3.heap.objs.size + 1) scope.names (cloFrom X.env.cells scope.names [])) fs
  have pt := pt s3 G3 s3.heap.objs.size (cellsFrom (s3.heap.objs.size + 1) scope.names (cloFrom X.env.cells scope.names [])) fs
  have pe := pe s3 G3 s3.heap.objs.size (cellsFrom (s3.heap.objs.size + 1) scope.names (cloFrom X.env.cells scope.names [])) fs
  rw [eG] at start
  rw [e3]
  show codeAny _ _ (.compStart (.ListComp elt [⟨tg, iter, ifs, 0⟩] scope pos) 0 (.ref it) (.ref D) (compEnvC scope (cellsFrom (s3.heap.objs.size + 1) scope.names (cloFrom X.env.cells scope.names [])) s3.heap.objs.size X.env)) (compEnds (model X.prog X.w) X.A X.xe use Qf (.ref D) (compEnvC scope (cellsFrom (s3.heap.objs.size + 1) scope.names (cloFrom X.env.cells scope.names [])) s3.heap.objs.size X.env)) { s3 with heap := pushCells (s3.heap.push { cls := .type "dict", data := .dict #[] }) scope.names }
  obtain ⟨ce, ece⟩ : ∃ ce, compEnvC scope (cellsFrom (s3.heap.objs.size + 1) scope.names (cloFrom X.env.cells scope.names [])) s3.heap.objs.size X.env = ce := ⟨_, rfl⟩
  rw [ece] at inv4 pg pt pe ⊢
  have loc : ce.locals = s3.heap.objs.size := ece ▸ rfl
  have frc : ce.frame = X.env.frame := ece ▸ rfl
  have pe := pe (takes_blk tk stk frm inv3 loc frc fun b mb => (ok3 b mb).1)
  obtain ⟨s4, e4⟩ : ∃ t : Shared, ({ s3 with heap := pushCells (s3.heap.push { cls := .type "dict", data := .dict #[] }) scope.names } : Shared) = t := ⟨_, rfl⟩
  rw [e4] at inv4 ⊢
  have st4 : tn 0 s4.heap := turn.keep _ _ _ st2 fun b _ o e => by
    subst e4
    exact pushCells_keeps _ _ _ _ (Heap.get?_push_of_some _ (by rw [h3]; exact Heap.get?_push_of_some _ e))
  have fit : ∀ {τ : L2.St} {G : Hp} {t : Shared}, Inv (X.blk s3 G3 scope ce fs) [] τ G t → (∀ b ∈ fs, G b = none) → ∀ b ∈ fs, FpOk (X.blk s3 G3 scope ce fs) [] G b := fun {τ G t} i z b mb =>
    ⟨z b mb, (i.ok.exf b mb).1, i.ok.exfs b mb, .inl mb, fun y c e => (i.ok.exf b mb).2 y c e, fun p hp => nomatch (show p ∈ ([] : List (Addr × Obj)) from hp)⟩
  have err : (fun e t => compEnds (model X.prog X.w) X.A X.xe use Qf (.ref D) ce (.error e) t) = CompFails (model X.prog X.w) X.A X.xe ce := by
    funext e t; cases use <;> rfl
  have loop : codeAny (model X.prog X.w) X.A (.compLoop (.ListComp elt [⟨tg, iter, ifs, 0⟩] scope pos) 0 (.ref it) (.ref D) ce) (compEnds (model X.prog X.w) X.A X.xe use Qf (.ref D) ce) s4 := by
    refine compLoop_any (fun k t => ∃ i G, Inv (X.blk s3 G3 scope ce fs) [] (wipe σ (own.map (·.2))) G t ∧ tn i t.heap ∧ (∀ b ∈ fs, G b = none) ∧ Ms i k G) ?_ n0 ⟨0, G3, inv4, st4, fun b mb => (ok3 b mb).1.1, start⟩
    rw [err]
    rintro k s5 ⟨i, G5, inv5, st5, no5, m5⟩
    rcases walk i k G5 m5 with ⟨halt, fine⟩ | ⟨go, Nx, less, step⟩
    · refine thnF (turn.done (X.blk s3 G3 scope ce fs) rfl rfl rfl calm i [] s5 _ G5 (fun _ _ => False) inv5 (fit inv5 no5) st5 halt) ?_
      rintro r s6 ⟨rfl, inv6⟩
      have none6 : G5 ce.locals = none := inv6.free
      obtain ⟨m, names, _⟩ := inv6.loc
      refine out D ce s6 m G5 (inv3.call' (ch := fs) inv6.os inv6.base inv6.hok inv6.bare fun b mb => ?_) fine names (inv3.fpOk (Nat.le_of_eq loc.symm) none6)
      obtain ⟨_, z1, z2, z3, z4, z5⟩ := (ok3 b mb).1
      exact ⟨z3, z1, z4, z5⟩
    · refine thnF (turn.item (X.blk s3 G3 scope ce fs) rfl rfl rfl calm i [] s5 _ G5 (fun _ _ => False) inv5 (fit inv5 no5) st5 go) ?_
      rintro r s6 ⟨u, rfl, at6⟩
      refine thnF at6 fun _ s7 ⟨x, G7, inv7, rel7, y7, st7, no7⟩ => ?_
      refine thnF (pg.run _ s7 _ G7 x u _ (inv7.pinned (fit inv7 no7) (turn.obj _ _ st7)) rel7 (step x G7 y7)) fun _ s8 ⟨τ, G8, inv8, same, at8⟩ => ?_
      have close : ∀ {t : Shared} {G : Hp}, Inv (X.blk s3 G3 scope ce fs) ([] ++ pinsAt fs s7.heap) τ G t → Nx G → ∃ k', k' < k ∧ ∃ i G, Inv (X.blk s3 G3 scope ce fs) [] (wipe σ (own.map (·.2))) G t ∧ tn i t.heap ∧ (∀ b ∈ fs, G b = none) ∧ Ms i k' G := fun {t G} inv' nx => by
        obtain ⟨k', lt, ms⟩ := less G nx
        have held : ∀ b ∈ fs, ∀ o, s7.heap.get? b = some o → t.heap.get? b = some o ∧ G b = none := fun b mb o e =>
          (inv'.pin (b, o) (List.mem_append_right _ (List.mem_append_right _ (mem_pinsAt mb e)))).imp_right And.left
        refine ⟨k', lt, i + 1, G, (inv'.unpinned (pins := [])).weak (by rw [← same, wipe_length]) (fun j v e => (wipe_some (same ▸ e)).1), turn.keep _ _ _ st7 fun b mb o e => (held b mb o e).1, fun b mb => ?_, ms⟩
        obtain ⟨o, e, _⟩ := turn.obj _ _ st7 b mb
        exact (held b mb o e).2
      refine thnF (pt.run _ s8 τ G8 _ inv8 at8) fun b s9 ⟨G9, inv9, at9⟩ => ?_
      cases b
      · exact close inv9 at9
      · refine wpAny_mono (pe.run _ s9 τ G9 _ (to_blkE inv9) at9) (fun z s10 ⟨yv, G10, inv10, rel10, acc, hD, room, nx⟩ => ?_) fun _ _ z => z
        exact app_ok (X := X.blk s3 G3 scope ce fs) (of_blkE inv10) hD room rel10 fun s11 inv11 => close inv11 nx
  exact codeAny_compStart_list loop (turn.self X.A 0 _ _ _ st4 loop)
end
end R
set_option Elab.async false
set_option linter.all false
set_option autoImplicit false
/-! R38: the rules for comprehensions whose element may raise. -/
namespace R
open PySem PySem.Spec PyProof.Rows L2
def lcLoopE (tg : EvTg) (test : EvT) (elt : EvE) (own : List Nat) : List D → List D → En → Out (List D)
  | [], acc, ε => .ok acc ε
  | d :: ds, acc, ε => opt (tg (.fro, d) ε) fun ε => (nox (test ε)).bind fun b ε => if b = true then (elt ε).bind fun r ε =>
      if r.1.sol = true ∧ acc.length < sizeLine then lcLoopE tg test elt own ds (acc ++ [r.2]) (clr own ε) else .bad
    else lcLoopE tg test elt own ds acc (clr own ε)
/-- back in the def's names -/
def lcEnd (own : List Nat) (ε : En) : Out (List D) → Out Rv
  | .ok acc ε' => .ok (.con .fro, .lst acc) (rst own ε ε')
  | .exc x ε' => .exc x (rst own ε (clr own ε'))
  | .bad => .bad
@[simp] theorem lcEnd_ok (own : List Nat) (ε ε' : En) (acc : List D) : lcEnd own ε (.ok acc ε') = .ok (.con .fro, .lst acc) (rst own ε ε') := rfl
@[simp] theorem lcEnd_exc (own : List Nat) (ε ε' : En) (x : Exn) : lcEnd own ε (.exc x ε') = .exc x (rst own ε (clr own ε')) := rfl
@[simp] theorem lcEnd_bad (own : List Nat) (ε : En) : lcEnd own ε .bad = .bad := rfl
def sLcE (f : EvI) (tg : EvTg) (test : EvT) (elt : EvE) (own : List Nat) : EvE := fun ε => (f ε).bind fun ds ε => lcEnd own ε (lcLoopE tg test elt own ds [] (clr own ε))
/-- what the comprehension's end owes -/
def pstL (M : Wd) (W : WX) (c : Ctx) (T : List Ow) (σ : L2.St) (own : List Nat) (ε0 : En) (P : List D → En → Prop) : Out (List D) → Prop
  | .ok acc ε' => P acc ε'
  | .exc x ε' => ∀ cls d H, Sta M c (.pin (ExcR M x cls d) :: T) σ H (rst own ε0 (clr own ε')) → W cls d σ H
  | .bad => False
section
variable {M : Wd} {W : WX} {c : Ctx} {T S Sa : List Ow} {σ : L2.St} {H1 : Hp} {ε0 : En}
theorem pstL_end {own : List Nat} {o : Out (List D)} {P : Rv → En → Prop} (q : pst M W c T σ P (lcEnd own ε0 o)) : pstL M W c T σ own ε0 (fun acc ε' => P (.con .fro, .lst acc) (rst own ε0 ε')) o := by
  cases o with
  | ok acc ε => exact q
  | exc x ε => exact q
  | bad => exact q
theorem pstL_opt {α : Type} {own : List Nat} {P : List D → En → Prop} {o : Option α} {k : α → Out (List D)} (h : pstL M W c T σ own ε0 P (opt o k)) : ∃ a, o = some a ∧ pstL M W c T σ own ε0 P (k a) := by
  cases o with
  | none => exact h.elim
  | some a => exact ⟨a, rfl, h⟩
/-- a test raises nothing -/
theorem pstL_test {α : Type} {own : List Nat} {P : List D → En → Prop} {o : Out α} {k : α → En → Out (List D)} {c' : Ctx} {T' : List Ow} {σ' : L2.St} {W' : WX} (h : pstL M W c T σ own ε0 P ((nox o).bind k)) : pst M W' c' T' σ' (fun a ε => pstL M W c T σ own ε0 P (k a ε)) o := by
  cases o with
  | ok a ε => exact h
  | exc x ε => exact h.elim
  | bad => exact h.elim
theorem lc_runE {D0 : Addr} {J : It} {ds : List D} {tg : EvTg} {ix own : List Nat} {test : EvT} {elt : EvE} {Q : VK} (hD : H1 D0 = none) (nd : own.Nodup) (hix : ∀ i ∈ ix, i ∈ own) (hsrc : Src M J ds S) (s0 : Sta M c (S ++ T) σ H1 ε0)
    (q : pstL M W c T σ own ε0 (fun acc ε' => ∀ v H, Sta M c (.val v (.con .fro) (.lst acc) :: T) σ H (rst own ε0 ε') → Q v H) (lcLoopE tg test elt own ds [] (clr own ε0))) :
    ∃ Wd : Nat → Nat → Hp → Prop, (∃ m, Wd 0 m (upd H1 D0 (.lst []))) ∧ ∀ i m H, Wd i m H →
      (J.stop i H ∧ Q (.ref D0) H) ∨ (J.go i H ∧ ∃ Nx : Hp → Prop, (∀ H', Nx H' → ∃ m', m' < m ∧ Wd (i + 1) m' H') ∧ ∀ x H', J.yld i H x H' → tTg M tg ix x (wipe σ own) H' fun σ2 H2 => wipe σ2 own = wipe σ own ∧ tT M w0 test σ2 H2 fun b H3 =>
        if b = true then tE M (fun cls d _ G => W cls d σ G) elt σ2 H3 fun y H4 => ∃ acc, H4 D0 = some (.lst acc) ∧ acc.length < sizeLine ∧ Nx (upd H4 D0 (.lst (acc ++ [y]))) else Nx H3) := by
  obtain ⟨Gd, Y, walk, hG, hY⟩ := hsrc
  obtain ⟨Sa, s1, back⟩ := Sta.aside nd s0
  let P : List D → En → Prop := fun acc ε' => ∀ v H, Sta M c (.val v (.con .fro) (.lst acc) :: T) σ H (rst own ε0 ε') → Q v H
  let Pv : Nat → Hp → Prop := fun i H => ∃ ε aD aV, aD.length = aV.length ∧ Sta M c (S ++ (.cel D0 (.lst aV) :: (itc .fro aD aV ++ (Sa ++ T)))) (wipe σ own) H ε ∧ (∀ i ∈ own, (ε[i]?).join = none) ∧
    pstL M W c T σ own ε0 P (lcLoopE tg test elt own (ds.drop i) aD ε)
  have next : ∀ (i : Nat) (σ2 : L2.St) (H : Hp) (ε : En) (aD : List D) (aV : List V), aD.length = aV.length → wipe σ2 own = wipe σ own → Sta M c (S ++ (.cel D0 (.lst aV) :: (itc .fro aD aV ++ (Sa ++ T)))) σ2 H ε →
      pstL M W c T σ own ε0 P (lcLoopE tg test elt own (ds.drop (i + 1)) aD (clr own ε)) → Pv (i + 1) H := fun i σ2 H ε aD aV hl ew s q => by
    obtain ⟨Sb, s2, _⟩ := Sta.aside nd s
    rw [ew] at s2
    exact ⟨_, aD, aV, hl, s2.drops, fun i hi => clr_none hi, q⟩
  refine lc_it walk Pv ⟨clr own ε0, [], [], rfl, ?_, fun i hi => clr_none hi, by rw [List.drop_zero]; exact q⟩ (fun i H _ ⟨ε, aD, aV, _, s, _⟩ => hG c _ _ H ε s) (fun i x H H' hi ⟨ε, aD, aV, hl, s, hn, q⟩ y => ?_) (fun H ⟨ε, aD, aV, hl, s, hn, q⟩ => ?_)
  · have s2 : Sta M c (.cel D0 (.lst []) :: (Sa ++ (S ++ T))) (wipe σ own) (upd H1 D0 (.lst [])) (clr own ε0) := ⟨s1.ok.new hD, s1.fit⟩
    refine s2.perm (List.Perm.trans ?_ List.perm_middle.symm)
    refine List.Perm.cons _ ?_
    rw [← List.append_assoc]
    exact (List.Perm.append_right T List.perm_append_comm).trans (List.Perm.of_eq (List.append_assoc S Sa T))
  · rw [List.drop_eq_getElem_cons hi] at q
    have s2 := hY c _ _ H ε i x H' _ s y (List.getElem?_eq_getElem hi)
    obtain ⟨ε1, e1, q9⟩ := pstL_opt q
    refine ⟨c, _, ε, (.fro, ds[i]), s2, ε1, e1, fun σ2 ag s3 => ?_⟩
    have ew : wipe σ2 own = wipe σ own := wipe_of_out hix ag
    refine ⟨ew, c, _, ε1, s3, pst_mono (fun b ε2 q H3 s4 => ?_) (pstL_test q9)⟩
    cases b with
    | false => exact next i σ2 H3 ε2 aD aV hl ew s4 q
    | true =>
      refine ⟨c, _, ε2, s4, ?_⟩
      simp only [if_true] at q
      cases ee : elt ε2 with
      | bad => rw [ee] at q; exact q.elim
      | exc x ε3 =>
        rw [ee] at q
        intro cls d G s5
        refine q cls d G (back _ _ _ (fun i hi => clr_none hi) ?_)
        obtain ⟨Sb, s6, _⟩ := Sta.aside nd s5
        rw [ew] at s6
        have s7 := s6.drops
        have s8 : Sta M c ((S ++ (.cel D0 (.lst aV) :: itc .fro aD aV)) ++ (.pin (ExcR M x cls d) :: (Sa ++ T))) (wipe σ own) G (clr own ε3) := s7.perm (by
          refine List.Perm.trans ?_ List.perm_middle.symm
          refine List.Perm.cons _ (List.Perm.of_eq ?_)
          rw [List.append_assoc, List.cons_append])
        exact s8.drops.perm List.perm_middle.symm
      | ok r ε3 =>
        rw [ee, bind_ok] at q
        intro yv H4 s5
        split at q
        · rename_i hb
          have s6 := s5.freeze (Sh.sol_solid _ hb.1)
          have s7 : Sta M c (.cel D0 (.lst aV) :: (.val yv .fro r.2 :: (S ++ (itc .fro aD aV ++ (Sa ++ T))))) σ2 H4 ε3 := s6.perm ((List.Perm.cons _ List.perm_middle).trans (List.Perm.swap _ _ _))
          refine ⟨aV, s7.ok.cell, hl ▸ hb.2, ?_⟩
          have s8 : Sta M c (.cel D0 (.lst (aV ++ [yv])) :: (.val yv .fro r.2 :: (S ++ (itc .fro aD aV ++ (Sa ++ T))))) σ2 (upd H4 D0 (.lst (aV ++ [yv]))) ε3 := ⟨s7.ok.upd, s7.fit⟩
          refine next i σ2 _ ε3 (aD ++ [r.2]) (aV ++ [yv]) (by simp [hl]) ew (s8.perm ?_) q
          rw [itc_snoc _ _ _ hl, List.append_assoc]
          exact (List.Perm.cons _ ((List.perm_middle (l₁ := S)).symm.trans (List.Perm.append_left S List.perm_middle.symm))).trans List.perm_middle.symm
        · exact q.elim
  · rw [List.drop_length] at q
    have s2 : Sta M c (.cel D0 (.lst aV) :: (itc .fro aD aV ++ (Sa ++ T))) (wipe σ own) H ε := s.drops
    have s3 : Sta M c (.val (.ref D0) (.con .fro) (.lst aD) :: (Sa ++ T)) (wipe σ own) H ε := ⟨OK.closeL (L := (Sa ++ T) ++ slots (wipe σ own) ε) hl (by have := s2.ok; rw [List.cons_append, List.append_assoc] at this; exact this), s2.fit⟩
    exact q _ H (back (.val (.ref D0) (.con .fro) (.lst aD) :: T) ε H hn (s3.perm List.perm_middle.symm))
end
section
variable {X : Cx} {W : WX} {elt tg iter : Expr} {ifs : List Expr} {scope : Scope} {own : List (Str × Nat)} {ix : List Nat} {pos : Pos} {f : EvI} {g : EvTg} {t : EvT} {x : EvE}
theorem re_lcE (hc : X.calm = true) (hN : X.N.Nodup) (hi : RI X W tg iter f) (tk : Takes X W) (stk : X.stack = X.env :: X.outer) (frm : X.env.frame = some X.env.locals) (ok : BlkOk X.N X.env.scope scope own)
    (hg : ∀ (s : Shared) (H : Hp) (C : Addr) (cl : List (Str × Addr)) (fp : List Addr), RTg (X.blk s H scope (compEnvC scope cl C X.env) fp) tg g ix)
    (ht : ∀ (s : Shared) (H : Hp) (C : Addr) (cl : List (Str × Addr)) (fp : List Addr), RTs (X.blk s H scope (compEnvC scope cl C X.env) fp) w0 ifs t)
    (he : ∀ (s : Shared) (H : Hp) (C : Addr) (cl : List (Str × Addr)) (fp : List Addr) (V : WX), Takes (blkE X s H scope (compEnvC scope cl C X.env) fp) V → RE (blkE X s H scope (compEnvC scope cl C X.env) fp) V elt x)
    (hix : ∀ i ∈ ix, i ∈ own.map (·.2) := by decide) (hnd : (own.map (·.2)).Nodup := by decide) (hs : ∀ x, foldedSetIterable iter X.env x = pure x := by intro _; rfl) :
    RE X W (.ListComp elt [⟨tg, iter, ifs, 0⟩] scope pos) (sLcE f g t x (own.map (·.2))) := by
  refine ⟨⟨fun pins s σ H Q I ⟨c, T, ε, st, q⟩ => ?_⟩⟩
  rw [eval_ListComp]
  refine lce_core (use := none) (Q := Q) (tt := tT (wd X) w0 t) (te := tE (wd X) (fun cls d _ G => W cls d σ G) x) hc hN I hi.run ok tk stk frm (fun s H C cl fp => (hg s H C cl fp).run) (fun s H C cl fp => (ht s H C cl fp).run) (fun s H C cl fp tk => (he s H C cl fp _ tk).run) hs
    ⟨c, T, ε, st, pst_mono (fun ds ε1 q J S H1 hsrc s D0 hD => lc_runE hD hnd hix hsrc s (pstL_end q)) (pst_bind q)⟩ fun D ce t m G IG qG hn fp => ⟨m, hn, fun h' sb => ?_⟩
  obtain ⟨f0, f1, f2, f3, f4, f5⟩ := fp
  exact ⟨.ref D, G, IG.turned (t' := t.toks) (fun b o hb e => (sb.2 b hb).trans e) f0 f1 f3 f4 f5, rfl, qG⟩
theorem rs_setLcE {i : Nat} {y : Str} {py spos : Pos} (hc : X.calm = true) (hN : X.N.Nodup) (hy : X.N[i]? = some y) (hyl : X.env.scope.names.lookup y = some .local)
    (hsw : swapsWith (.ListComp elt [⟨tg, iter, ifs, 0⟩] scope pos) (some (.Name y py)) spos.line X.env = pure true) (hi : RI X W tg iter f) (tk : Takes X W) (stk : X.stack = X.env :: X.outer) (frm : X.env.frame = some X.env.locals) (ok : BlkOk X.N X.env.scope scope own)
    (hg : ∀ (s : Shared) (H : Hp) (C : Addr) (cl : List (Str × Addr)) (fp : List Addr), RTg (X.blk s H scope (compEnvC scope cl C X.env) fp) tg g ix)
    (ht : ∀ (s : Shared) (H : Hp) (C : Addr) (cl : List (Str × Addr)) (fp : List Addr), RTs (X.blk s H scope (compEnvC scope cl C X.env) fp) w0 ifs t)
    (he : ∀ (s : Shared) (H : Hp) (C : Addr) (cl : List (Str × Addr)) (fp : List Addr) (V : WX), Takes (blkE X s H scope (compEnvC scope cl C X.env) fp) V → RE (blkE X s H scope (compEnvC scope cl C X.env) fp) V elt x)
    (hlen : i < X.N.length := by exact Nat.le_of_ble_eq_true rfl) (hix : ∀ i ∈ ix, i ∈ own.map (·.2) := by decide) (hnd : (own.map (·.2)).Nodup := by decide) (hs : ∀ x, foldedSetIterable iter X.env x = pure x := by intro _; rfl) :
    RS X W (.Assign [.Name y py] (.ListComp elt [⟨tg, iter, ifs, 0⟩] scope pos) spos) (sSet i (sLcE f g t x (own.map (·.2)))) := by
  refine ⟨⟨fun pins s σ H D I h => ?_⟩⟩
  obtain ⟨c, T, ε, st, q⟩ := h
  have q := pst_of_S (σ := σ) (pstS_mono (fun r ε q v H (st : Sta (wd X) c (.val v r.1 r.2 :: T) σ H ε) => q _ H (st.store (by rw [I.len]; exact hlen))) (pstS_bind q))
  rw [exec_Assign_Name_used _ _ _ _ hsw]
  refine wpAny_bind (wpAny_standAt (wpAny_bind ?_))
  show wpAny _ X.A (do let _ ← comprehension (.ListComp elt [⟨tg, iter, ifs, 0⟩] scope pos) scope X.env (firstIterPos [⟨tg, iter, ifs, 0⟩] pos) (newList []) false (eval iter X.env) (some (assign (.Name y py) X.env))) _ _ s
  refine wpAny_bind (thn (lce_core (Qf := fun _ t => SP X pins D .next t) (Q := fun v H => gName i v σ H D.nx) (tt := tT (wd X) w0 t) (te := tE (wd X) (fun cls d _ G => W cls d σ G) x) hc hN I hi.run ok tk stk frm (fun s H C cl fp => (hg s H C cl fp).run) (fun s H C cl fp => (ht s H C cl fp).run) (fun s H C cl fp tk => (he s H C cl fp _ tk).run) hs
    ⟨c, T, ε, st, pst_mono (fun ds ε1 q J S H1 hsrc s D0 hD => lc_runE hD hnd hix hsrc s (pstL_end q)) (pst_bind q)⟩ fun L ce t m G IG qG hn fp => ?_) fun _ t hq => wpAny_pure (wpAny_pure hq))
  show wpAny _ _ (assign (.Name y py) X.env (.ref L)) _ _ _
  refine wpAny_assign_Name (store_ok2 (v := V.ref L) IG hN hy (.inl hyl) rfl (fun s2 I2 ⟨b, sb, hb⟩ => ?_) (.inr hyl))
  obtain ⟨f0, f1, f2, f3, f4, f5⟩ := fp
  have ne : ce.locals ≠ b := hb.elim (fun z => z ▸ f1) fun z e => f4 y b z e.symm
  exact ⟨m, hn.sameBut sb ne, fun h3 sb3 => ⟨_, G, I2.turned (t' := s2.toks) (fun b o hb e => (sb3.2 b hb).trans e) f0 f1 f3 f4 f5, qG⟩⟩
end
end R
set_option Elab.async false
set_option linter.all false
set_option autoImplicit false
/-! R39: sorted(..) of texts, of a list or a tuple. -/
namespace R
open PySem PySem.Spec PyProof.Rows L2
/-! ### the order -/
def leS (x y : Str) : Bool := !ltCps y.cps.toList x.cps.toList
theorem leS_iff {x y : Str} : leS x y = true ↔ ¬ y.cps.toList < x.cps.toList := by
  unfold leS
  rw [ltCps_eq]
  simp
theorem leS_total (x y : Str) : leS x y = true ∨ leS y x = true := by
  rw [leS_iff, leS_iff]
  by_cases h : y.cps.toList < x.cps.toList
  · exact .inr (List.lt_asymm h)
  · exact .inl h
theorem leS_trans {x y z : Str} (h1 : leS x y = true) (h2 : leS y z = true) : leS x z = true := by
  rw [leS_iff] at *
  exact fun h => by
    have a : x.cps.toList ≤ y.cps.toList := List.not_lt.mp h1
    have b : y.cps.toList ≤ z.cps.toList := List.not_lt.mp h2
    exact List.not_lt.mpr (List.le_trans a b) h
theorem leS_anti {x y : Str} (h1 : leS x y = true) (h2 : leS y x = true) : x = y := by
  rw [leS_iff] at *
  have e := List.le_antisymm (List.not_lt.mp h1) (List.not_lt.mp h2)
  have e2 : x.cps = y.cps := by simpa using congrArg List.toArray e
  obtain ⟨u⟩ := x; obtain ⟨v⟩ := y; exact congrArg Str.mk e2
def insS (x : Str) : List Str → List Str
  | [] => [x]
  | y :: r => if leS x y = true then x :: y :: r else y :: insS x r
def sortS : List Str → List Str
  | [] => []
  | x :: r => insS x (sortS r)
theorem insS_perm (x : Str) : ∀ l : List Str, (insS x l).Perm (x :: l)
  | [] => .refl _
  | y :: r => by
    unfold insS
    split
    · exact .refl _
    · exact ((insS_perm x r).cons y).trans (.swap x y r)
theorem sortS_perm : ∀ l : List Str, (sortS l).Perm l
  | [] => .refl _
  | x :: r => (insS_perm x _).trans ((sortS_perm r).cons x)
theorem insS_pw (x : Str) : ∀ {l : List Str}, l.Pairwise (leS · · = true) → (insS x l).Pairwise (leS · · = true)
  | [], _ => List.pairwise_singleton _ _
  | y :: r, h => by
    obtain ⟨h1, h2⟩ := List.pairwise_cons.mp h
    unfold insS
    split
    · rename_i hx
      refine List.pairwise_cons.mpr ⟨fun z hz => ?_, h⟩
      rcases List.mem_cons.mp hz with rfl | hz
      · exact hx
      · exact leS_trans hx (h1 z hz)
    · rename_i hx
      refine List.pairwise_cons.mpr ⟨fun z hz => ?_, insS_pw x h2⟩
      rcases List.mem_cons.mp ((insS_perm x r).mem_iff.mp hz) with rfl | hz
      · exact (leS_total y z).resolve_right hx
      · exact h1 z hz
theorem sortS_pw : ∀ l : List Str, (sortS l).Pairwise (leS · · = true)
  | [] => .nil
  | x :: r => insS_pw x (sortS_pw r)
theorem pw_perm_eq : ∀ {l m : List Str}, l.Perm m → l.Pairwise (leS · · = true) → m.Pairwise (leS · · = true) → l = m
  | [], m, h, _, _ => (List.Perm.nil_eq h)
  | a :: l, [], h, _, _ => absurd h.length_eq (by simp)
  | a :: l, b :: m, h, p, q => by
    obtain ⟨p1, p2⟩ := List.pairwise_cons.mp p
    obtain ⟨q1, q2⟩ := List.pairwise_cons.mp q
    have e : a = b := by
      rcases List.mem_cons.mp (h.mem_iff.mp List.mem_cons_self) with e | e
      · exact e
      · rcases List.mem_cons.mp (h.mem_iff.mpr List.mem_cons_self) with e' | e'
        · exact e'.symm
        · exact leS_anti (p1 b e') (q1 a e)
    subst e
    rw [pw_perm_eq (List.Perm.cons_inv h) p2 q2]
theorem sortedS_pw : ∀ {l : List Str}, sortedS l = true → l.Pairwise (leS · · = true)
  | [], _ => .nil
  | [x], _ => List.pairwise_singleton _ _
  | x :: y :: r, h => by
    have h : (!ltCps y.cps.toList x.cps.toList && risingS y r) = true := h
    rw [Bool.and_eq_true] at h
    have ih := sortedS_pw (l := y :: r) h.2
    refine List.pairwise_cons.mpr ⟨fun z hz => ?_, ih⟩
    rcases List.mem_cons.mp hz with rfl | hz
    · exact h.1
    · exact leS_trans (show leS x y = true from h.1) ((List.pairwise_cons.mp ih).1 z hz)
theorem sortS_of {l m : List Str} (p : m.Perm l) (h : sortedS m = true) : m = sortS l := pw_perm_eq (p.trans (sortS_perm l).symm) (sortedS_pw h) (sortS_pw l)
/-! ### the call -/
section
variable {prog : Program} {w : World} {A : Around} {E : Value → Shared → Prop} {s : Shared}
theorem collect_seq {l : Addr} {o : Obj} {vs : List Value} {n : Nat} {Q : List Value → Shared → Prop} (at_ : s.heap.get? l = some o) (cl : o.cls = .type "list" ∨ o.cls = .type "tuple") (dt : o.data = .seq vs.toArray n) (small : vs.length ≤ sizeLine)
    (q : Q vs { s with heap := (s.heap.push (seqObj "list" #[] 0)).update s.heap.objs.size (Obj.mapSeq (· ++ vs.toArray)) }) : wpAny (model prog w) A (collect (.ref l)) Q E s := by
  unfold collect
  refine wpAny_bind (wpAny_runValue (codeAny_builtin entry_proto_collect' ?_))
  show wpAny _ _ (newList [] >>= fun z => again (.builtin "list.__iadd__" ⟨[z, .ref l], []⟩)) _ _ s
  refine wpAny_bind (wpAny_newList (wpAny_pure ⟨Code.quiet_builtin _ (by decide +kernel), codeAny_builtin entry_list_iadd' ?_⟩))
  have there : (s.heap.push (seqObj "list" #[] 0)).get? l = some o := Heap.get?_push_of_some _ at_
  have mine : (s.heap.push (seqObj "list" #[] 0)).get? s.heap.objs.size = some (seqObj "list" #[] 0) := Heap.get?_push_size _ rfl
  have go : ∀ {T : String} {P : Fin → Shared → Prop}, o.cls = .type T → (Value.type T == Value.type "list" || Value.type T == Value.type "tuple") = true →
      P (.done (.ret (.ref s.heap.objs.size))) { s with heap := (s.heap.push (seqObj "list" #[] 0)).update s.heap.objs.size (Obj.mapSeq (· ++ vs.toArray)) } →
      wpAny (model prog w) A.in1 (Builtin.List.listExtendWith (.ref s.heap.objs.size) (.ref l) (.ref s.heap.objs.size)) P E { s with heap := s.heap.push (seqObj "list" #[] 0) } := fun {T P} ty ok fin => by
    unfold Builtin.List.listExtendWith
    refine wpAny_bind (wpAny_typeOf (T := T) ⟨o, there, ty⟩ ?_)
    rw [if_pos (by rw [Bool.or_assoc, ok]; simp)]
    refine wpAny_bind (listItems_at there dt (wpAny_bind (listItems_at (xs := #[]) (n := 0) mine rfl ?_)))
    rw [if_neg (by simp)]
    exact wpAny_bind (listUpdate_at (xs := #[]) (n := 0) mine rfl (wpAny_pure fin) (Nat.zero_le _) (by simp; omega))
  have fin : wpAny (model prog w) A (load s.heap.objs.size >>= fun o => match o.data with
      | .seq xs _ => pure xs.toList
      | _ => unsupported "internal:collect") Q E { s with heap := (s.heap.push (seqObj "list" #[] 0)).update s.heap.objs.size (Obj.mapSeq (· ++ vs.toArray)) } := by
    refine wpAny_bind (wpAny_load (get?_update_seq mine _) ?_)
    show wpAny _ _ (pure ((#[] : Array Value) ++ vs.toArray).toList) Q E _
    rw [show ((#[] : Array Value) ++ vs.toArray).toList = vs by simp]
    exact wpAny_pure q
  rcases cl with ty | ty
  · exact go ty (by decide) fin
  · exact go ty (by decide) fin
theorem sorted_txt {l : Addr} {o : Obj} {vs : List Value} {n : Nat} {ss : List Str} {Q : Value → Shared → Prop} (at_ : s.heap.get? l = some o) (cl : o.cls = .type "list" ∨ o.cls = .type "tuple") (dt : o.data = .seq vs.toArray n) (ts : StrsAre vs ss) (few : vs.length < 64)
    (q : ∀ out : Array Value, StrsAre out.toList (sortS ss) → Q (.ref (s.heap.objs.size + 1)) { s with heap := sortedAll s.heap vs out }) : wpAny (model prog w) A (call (.builtin "sorted") [.ref l]) Q E s := by
  refine Calls.call_function_entry kind_sorted plain_sorted entry_sorted (args_sorted1 _) ?_
  unfold Builtin.«sorted»
  refine wpAny_bind (m := checkCount "sorted" 1 1 _) (wpAny_pure (wpAny_bind (collect_seq at_ cl dt (by rw [sizeLine_eq]; omega) (wpAny_bind (wpAny_newList ?_ (by rw [sizeLine_eq]; omega))))))
  have size1 : ((s.heap.push (seqObj "list" #[] 0)).update s.heap.objs.size (Obj.mapSeq (· ++ vs.toArray))).objs.size = s.heap.objs.size + 1 := by rw [Heap.size_update, size_push']
  have copy : (((s.heap.push (seqObj "list" #[] 0)).update s.heap.objs.size (Obj.mapSeq (· ++ vs.toArray))).push (seqObj "list" vs.toArray 0)).get? (s.heap.objs.size + 1) = some (seqObj "list" vs.toArray 0) := size1 ▸ Heap.get?_push_size _ rfl
  show wpAny _ _ _ _ _ { s with heap := ((s.heap.push (seqObj "list" #[] 0)).update s.heap.objs.size (Obj.mapSeq (· ++ vs.toArray))).push (seqObj "list" vs.toArray 0) }
  rw [size1]
  refine wpAny_bind (wpAny_holding (wpAny_call_entry slot_list_sort ⟨_, copy, rfl⟩ entry_list_sort (list_sort_treeK strKind_oneLt copy ts.keysOf (fun v₁ v₂ rest e => keyKind_strs (e ▸ ts)) few fun st' hp hs => ⟨_, rfl, wpAny_pure ⟨_, rfl, ?_⟩⟩) (args_list_sort _)))
  obtain ⟨zs, h1, h2, h3⟩ := sorted_out_str ts hp hs
  exact q _ (sortS_of h2 h3 ▸ h1)
end
def rSortT (K : PySem.W.Frag) : List V → Hp → VK → Prop := fun vs H Q => ∃ (a : Addr) (ys : List Str), vs = [V.ref a] ∧ (SqL K H a (ys.map V.str) ∨ SqT K H a (ys.map V.str)) ∧ ys.length < 64 ∧ ∀ p, H p = none → Q (.ref p) (upd H p (.lst ((sortS ys).map V.str)))
theorem cr_sortT {X : Cx} : CallR X (.builtin "sorted") (rSortT X.K) := by
  intro pins s σ H vs us Q I r h
  obtain ⟨a, ys, rfl, hs, few, q⟩ := h
  rw [Vals.ref1 r]
  have fin : ∀ {its : List Value} {out : Array Value}, StrsAre out.toList (sortS ys) → EP X pins σ Q (.ref (s.heap.objs.size + 1)) { s with heap := sortedAll s.heap its out } := fun {its out} h1 => by
    obtain ⟨ep, e⟩ := sortedAll_at s.heap its out
    have hl : ((sortS ys).map V.str).length ≤ sizeLine := by rw [List.length_map, (sortS_perm ys).length_eq, sizeLine_eq]; omega
    exact ⟨.ref _, upd H (s.heap.objs.size + 1) (.lst ((sortS ys).map V.str)), I.laid (t' := s.toks) (fun _ _ => sortedAll_old) (Nat.le_succ _) ⟨hl, out.toList, ep, vals_of_strs h1, e⟩, rfl, q _ (I.hok.fresh (Nat.le_succ _))⟩
  rcases hs with hs | hs
  · obtain ⟨its, rv, ⟨o, n, e1, e2, e3, e4⟩, _⟩ := I.list hs
    have ln := rv.length
    rw [List.length_map] at ln
    exact sorted_txt e1 (.inl e2) e4 rv.strs (ln ▸ few) fun out h1 => fin h1
  · obtain ⟨its, rv, ht, _⟩ := I.tuple hs
    obtain ⟨o, e1, e2, n, e3⟩ := ht
    have ln := rv.length
    rw [List.length_map] at ln
    exact sorted_txt e1 (.inr e2) e3 rv.strs (ln ▸ few) fun out h1 => fin h1
def sSorted (f : EvO) : EvE := fun ε => (f ε).bind fun o ε => opt ((res o ε).bind strsR) fun k => if k.2.length < 64 then .ok (.con .fro, .lst ((sortS k.2).map .str)) ε else .bad
section
variable {X : Cx} {W : WX} {e : Expr} {f : EvO} {p pos : Pos}
theorem re_sorted (hg : Gl X "sorted") (hm : X.mg "sorted" = none) (ha : RO X W e f) (hs : starEach [e] X.env = [(false, eval e X.env)] := by rfl) : RE X W (.Call (.Name "sorted" p) [e] [] pos) (sSorted f) := by
  refine ⟨PE.imp (pe_callB cr_sortT hg hm (by decide +kernel) (pa_one ha.run hs) (by decide) (by decide) (by rw [hs]; rfl) rfl) fun σ H Q ⟨c, T, ε, s, q⟩ => ⟨c, T, ε, s, pst_mono (fun o ε q v H s => ?_) (pst_bind q)⟩⟩
  obtain ⟨⟨k, ys⟩, e1, q1⟩ := pst_opt q
  obtain ⟨r, e2, e3⟩ := Option.bind_eq_some_iff.mp e1
  obtain ⟨a, rfl, hq⟩ := s.strsR e2 e3
  split at q1
  · rename_i few
    refine ⟨a, ys, rfl, ?_, few, fun p hp => q1 _ _ ?_⟩
    · cases k
      · exact .inl (by simpa using hq)
      · exact .inr (TqT.sq (by simpa using hq))
    · refine Sta.newL (ds := (sortS ys).map .str) ⟨s.drop.ok.pin fun G => ?_, s.fit⟩ hp
      exact repL_strs _
  · exact q1.elim
end
end R
set_option Elab.async false
set_option linter.all false
set_option autoImplicit false
/-! R40: try, except (no names). -/
namespace R
open PySem PySem.Spec PyProof.Rows L2
abbrev Hdl := List (Nat × Bool) × EvS
/-- the suite of the first clause that takes the error k -/
def hFind : List Hdl → Nat → Option (Option EvS)
  | [], _ => some none
  | (t, g) :: r, k => match t.lookup k with
    | some true => some (some g)
    | some false => hFind r k
    | none => none
def sTry (f : EvS) (hs : List Hdl) : EvS := fun ε => match f ε with
  | .exc x ε' => match hFind hs x.k with
    | some (some g) => nox (g ε')
    | some none => .exc x ε'
    | none => .bad
  | o => o
/-- which errors a clause of c takes -/
def ExTab (M : Wd) (c : Value) (t : List (Nat × Bool)) : Prop := ∀ k C b, t.lookup k = some b → M.mg (eName k) = some (.ref C) → PySem.W.exmOne M.K (.ref C) c = some b
theorem ExTab.nil {M : Wd} {c : Value} : ExTab M c [] := fun _ _ _ h => by cases h
theorem ExTab.cons {M : Wd} {c : Value} {t : List (Nat × Bool)} {k : Nat} {C : Addr} {b : Bool} (hm : M.mg (eName k) = some (.ref C)) (h : PySem.W.exmOne M.K (.ref C) c = some b) (r : ExTab M c t) : ExTab M c ((k, b) :: t) := fun j D b' e hD => by
  rw [List.lookup_cons] at e
  split at e
  · rename_i hj
    have hj : j = k := by simpa using hj
    subst hj
    cases e
    cases hm.symm.trans hD
    exact h
  · exact r j D b' e hD
inductive HdR (X : Cx) : List ExceptHandler → List Hdl → Prop
  | nil : HdR X [] []
  | cons {x : Str} {c : Value} {t : List (Nat × Bool)} {g : EvS} {b : Stmt} {suite : List Stmt} {np pos : Pos} {hds : List ExceptHandler} {hs : List Hdl} (nm : Names X x c) (tab : ExTab (wd X) c t)
      (run : ∀ (a : Addr) (oe : Obj) (pn : List (Addr × Obj)), RSs (X.suite a ((a, oe) :: pn)) w0 (b :: suite) g) (r : HdR X hds hs) : HdR X (.ExceptHandler (some (.Name x np)) none (b :: suite) pos :: hds) ((t, g) :: hs)
inductive HdL (M : Wd) : List Hdl → List (Value × (Addr → Value → Option Addr → TS)) → Prop
  | nil : HdL M [] []
  | cons {c : Value} {t : List (Nat × Bool)} {g : EvS} {hs : List Hdl} {l : List (Value × (Addr → Value → Option Addr → TS))} (tab : ExTab M c t) (r : HdL M hs l) : HdL M ((t, g) :: hs) ((c, fun _ _ _ => tS M w0 g) :: l)
theorem HdR.l {X : Cx} : ∀ {hds : List ExceptHandler} {hs : List Hdl}, HdR X hds hs → ∃ l, HdsOk X hds l ∧ HdL (wd X) hs l
  | _, _, .nil => ⟨[], .nil, .nil⟩
  | _, _, .cons nm tab run r => by
    obtain ⟨l, h1, h2⟩ := HdR.l r
    exact ⟨_, .cons nm (fun a oe cls d pn _ _ => (run a oe pn).run) h1, .cons tab h2⟩
theorem pstS_nox {M : Wd} {W W' : WX} {c c' : Ctx} {T T' : List Ow} {α : Type} {P : α → En → Prop} {o : Out α} (h : pstS M W c T P (nox o)) : pstS M W' c' T' P o := by
  cases o with
  | ok a ε => exact h
  | exc x ε => exact h.elim
  | bad => exact h
theorem try_find {M : Wd} {W : WX} {D : Ends} {x : Exn} {ε : En} {c : Ctx} {T : List Ow} {cls : Value} {d : Option Addr} {σ : L2.St} {H : Hp} (st : Sta M c (.pin (ExcR M x cls d) :: T) σ H ε) :
    ∀ {hs : List Hdl} {l : List (Value × (Addr → Value → Option Addr → TS))}, HdL M hs l →
      postS M W c T D (match hFind hs x.k with | some (some g) => nox (g ε) | some none => .exc x ε | none => .bad) → wMany M.K W D l cls d σ H
  | _, _, .nil, q => q cls d σ H st
  | _, _, @HdL.cons _ v t g hs l tab r, q => by
    obtain ⟨C, hm, rfl, _⟩ : ExcR M x cls d H := st.ok.pinned
    unfold hFind at q
    cases ht : t.lookup x.k with
    | none => rw [ht] at q; exact q.elim
    | some b =>
      rw [ht] at q
      refine ⟨b, tab _ _ _ ht hm, fun hb _ _ => ?_, fun hb => ?_⟩
      · subst hb
        exact ⟨c, T, ε, st.drop, pstS_nox (W := W) (c := c) (T := T) q⟩
      · subst hb
        exact try_find st r q
section
variable {X : Cx} {W : WX} {body : List Stmt} {f : EvS} {h₀ : ExceptHandler} {hds : List ExceptHandler} {hs : List Hdl} {pos : Pos}
theorem rs_try (stk : X.stack = X.env :: X.outer) (frm : X.env.frame = some X.env.locals) (tk : Takes X W)
    (hb : ∀ (V : WX) (pn : List (Addr × Obj)) (xe : Value → Shared → Prop), Takes (X.tr pn xe) V → PassesOwn (model X.prog X.w) X.A X.env xe → RSs (X.tr pn xe) V body f) (hh : HdR X (h₀ :: hds) hs) :
    RS X W (.Try body (h₀ :: hds) [] [] pos) (sTry f hs) := by
  obtain ⟨l, h1, h2⟩ := hh.l
  refine ⟨PS.imp (ps_try_many (tb := fun V => tS (wd X) V f) stk frm tk (fun V pn xe t p => (hb V pn xe t p).run) h1) fun D σ H ⟨c, T, ε, st, q⟩ => ⟨c, T, ε, st, ?_⟩⟩
  unfold sTry at q
  cases e : f ε with
  | ok a ε1 => rw [e] at q; exact q
  | bad => rw [e] at q; exact q
  | exc x ε1 =>
    rw [e] at q
    exact fun cls d σ1 H1 s1 => try_find s1 h2 q
end
end R
set_option Elab.async false
set_option linter.all false
set_option autoImplicit false
/-! R41: C(e, ..), C(): instances made of positional arguments; an __init__ that raises nothing. -/
namespace R
open PySem PySem.Spec PyProof.Rows L2
theorem passF {X : Cx} : Passes (L2.CX X.prog X.w) X (fun _ _ _ => False) := fun _ _ _ _ _ _ _ h => by
  obtain ⟨_, _, _, _, _, _, _, _, _, _, _, _, z⟩ := h
  exact z.elim
/-- the class c is made of n positional arguments; the result as F tells -/
def MakeP (P : Program) (w : World) (K : PySem.W.Frag) (mg : Str → Option Value) (base : Heap) (k c n : Nat) (F : Fn) : Prop :=
  ∃ C f fd ps, mg (cName c) = some (.ref C) ∧ Mk K C f ∧ FnOk P w K mg base (L2.CX P w) k f fd ps (spIni ⟨K, mg⟩ c n fun _ => F) ∧ Binds K fd ps []
def sMkP (F : Fn) (g : EvG) : EvE := fun ε => (g ε).bind fun as ε => opt (argRvs as ε) fun rs => nox (frOut (F rs) ε)
section
variable {X : Cx} {W : WX} {k c n : Nat} {x : Str} {p pos : Pos} {e : Expr} {es : List Expr} {g : EvG} {F : Fn}
theorem re_mkP (G : MakeP X.prog X.w X.K X.mg X.base k c n F) (hr : Room (k + 1) X.A) (hg : Gl X x) (hx : cName c = x) (ha : RG X W (e :: es) g) (hlen : ∀ ε as ε', g ε = .ok as ε' → as.length = n)
    (hdb : (x == ("__debug__" : Str)) = false := by decide) (hst : starEach (e :: es) X.env = (false, eval e X.env) :: starEach es X.env := by rfl) (hpl : (backTo pos (starEach es X.env)).any (·.1) = false := by rfl) :
    RE X W (.Call (.Name x p) (e :: es) [] pos) (sMkP F g) := by
  obtain ⟨C, f, fd, ps, hC, M, hF, hb⟩ := G
  refine ⟨PE.imp (pe_make (dvs := []) M hF hr hg (hx ▸ hC) hb .nil passF ha.run hdb hst hpl) fun σ H Q ⟨cx, T, ε, s, q⟩ => ⟨cx, T, ε, s, ?_⟩⟩
  have q1 := pst_bind q
  cases eg : g ε with
  | bad => rw [eg] at q1; exact q1
  | exc x ε => rw [eg] at q1; exact q1
  | ok as ε1 =>
    rw [eg] at q1
    intro vs H1 hl s1
    obtain ⟨rs, e1, q2⟩ := pst_opt q1
    intro y dy hy hdy ne
    rw [List.append_nil]
    exact mk_run (W := w0) (Arr.id _ n) (hlen _ _ _ eg) s1 hl e1 hC hy hdy ne (pst_nox q2)
theorem re_mkP0 (G : MakeP X.prog X.w X.K X.mg X.base k c 0 F) (hr : Room (k + 1) X.A) (hg : Gl X x) (hx : cName c = x) (hdb : (x == ("__debug__" : Str)) = false := by decide) : RE X W (.Call (.Name x p) [] [] pos) (sMkP F gNl) := by
  obtain ⟨C, f, fd, ps, hC, M, hF, hb⟩ := G
  refine ⟨PE.imp (pe_make0 (dvs := []) M hF hr hg (hx ▸ hC) hb .nil passF hdb) fun σ H Q ⟨cx, T, ε, s, q⟩ => ?_⟩
  have q1 : postE (wd X) W cx T σ Q (opt (argRvs [] ε) fun rs => nox (frOut (F rs) ε)) := q
  obtain ⟨rs, e1, q2⟩ := pst_opt q1
  intro y dy hy hdy ne
  exact mk_run (W := w0) (as := []) (vs := []) (Arr.id _ 0) rfl s rfl e1 hC hy hdy ne (pst_nox q2)
end
end R
set_option Elab.async false
set_option linter.all false
set_option autoImplicit false
/-! R42: isinstance of own classes; class facts for several classes. -/
namespace R
open PySem PySem.Spec PyProof.Rows L2
def IsiOk (M : Wd) (k : Nat) : Prop := ∃ C, M.mg (cName k) = some (.ref C) ∧ Cls M.K C ∧ PySem.W.findIn M.K (.ref C) "__class__" = some (some (.builtin "object.__class__")) ∧
  PySem.W.specialIn M.K (.builtin "object.__class__") "__get__" = some (some (.builtin "getset_descriptor.__get__")) ∧ PySem.W.takesIn M.K (.builtin "object.__class__") = some true ∧ PySem.W.mroIn M.K C (.type "object") = some true
/-- isinstance(e, C), where e is an instance of C -/
def sIsiC (k : Nat) (f : EvO) : EvE := fun ε => (f ε).bind fun o ε => opt (res o ε) fun r => if clsOf r.2 = some k then .ok (.fro, .bl true) ε else .bad
theorem Sta.objO {M : Wd} {c : Ctx} {T : List Ow} {σ : L2.St} {H : Hp} {ε : En} {o : Opd} {v : V} {r : Rv} {k : Nat} (s : Sta M c (opw σ o v :: T) σ H ε) (e : res o ε = some r) (h : clsOf r.2 = some k) :
    ∃ a C dx fs, v = .ref a ∧ M.mg (cName k) = some (.ref C) ∧ H a = some (.ins C dx fs) := by
  obtain ⟨ds, hd⟩ := clsOf_eq h
  have rp := s.readO e
  rw [hd] at rp
  obtain ⟨a, C, dx, vs, e1, _, hm, ha, _⟩ := rp
  exact ⟨a, C, dx, _, e1, hm, ha⟩
def rIsC (K : PySem.W.Frag) : List V → Hp → VK → Prop := fun xs H Q => ∃ (a C dx : Addr) (fs : List (Str × V)), xs = [.ref a, .ref C] ∧ H a = some (.ins C dx fs) ∧ Cls K C ∧ PySem.W.findIn K (.ref C) "__class__" = some (some (.builtin "object.__class__")) ∧
  PySem.W.specialIn K (.builtin "object.__class__") "__get__" = some (some (.builtin "getset_descriptor.__get__")) ∧ PySem.W.takesIn K (.builtin "object.__class__") = some true ∧ PySem.W.mroIn K C (.type "object") = some true ∧ Q (.bl true) H
theorem call_isC {X : Cx} : CallR X (.builtin "isinstance") (rIsC X.K) := by
  rintro pins s σ H vs us Q I r ⟨a, C, dx, fs, rfl, ea, cl, h1, h2, h3, h4, q⟩
  cases r with
  | cons r1 r2 =>
    cases r2 with
    | cons r2 r3 =>
      cases r3
      cases r2
      exact isinst_ok I r1 (.ins ea cl h1 h2 h3 h4) (by show (if (Value.ref C == Value.ref C) = true then _ else _) = _; rw [if_pos (by simp)]) fun tk => ⟨.bl true, H, I.tok tk, rfl, q⟩
section
variable {X : Cx} {W : WX} {e : Expr} {p p2 pos : Pos} {f : EvO} {x : Str} {k : Nat}
theorem re_isiC (k : Nat) (hk : IsiOk (wd X) k) (he : RO X W e f) (hg : Gl X "isinstance") (hm : X.mg "isinstance" = none) (hg2 : Gl X x) (hx : cName k = x := by rfl) (hdb : (x == ("__debug__" : Str)) = false := by decide)
    (hs : starEach [e, .Name x p2] X.env = (false, eval e X.env) :: starEach [.Name x p2] X.env := by rfl) : RE X W (.Call (.Name "isinstance" p) [e, .Name x p2] [] pos) (sIsiC k f) := by
  obtain ⟨C, hC, cl, h1, h2, h3, h4⟩ := hk
  refine ⟨PE.imp (pe_callB call_isC hg hm PyProof.Rows.boot_isinstance (pa_cons he.run (pa_cons (pe_glob (v := .ref C) hg2 (hx ▸ hC) rfl hdb) pa_nil) hs) (by decide) (by decide) hs rfl) fun σ H Q ⟨c, Tt, ε, s, q⟩ => ⟨c, Tt, ε, s, pst_mono (fun o ε1 q v H1 s1 => ?_) (pst_bind q)⟩⟩
  obtain ⟨r, e1, q0⟩ := pst_opt q
  split at q0
  · rename_i hc
    obtain ⟨a, C', dx, fs, rfl, hm', ea⟩ := s1.objO e1 hc
    cases Eq.trans hC.symm hm'
    exact ⟨a, _, dx, fs, rfl, ea, cl, h1, h2, h3, h4, q0 _ H1 (s1.drop.lit fun _ => rfl)⟩
  · exact q0.elim
end
theorem cls_nil {M : Wd} : ∀ j ∈ ([] : List Nat), ClsOk M j := fun _ h => nomatch h
theorem cls_cons {M : Wd} {k : Nat} {ks : List Nat} (h : ClsOk M k) (r : ∀ j ∈ ks, ClsOk M j) : ∀ j ∈ k :: ks, ClsOk M j := fun j hj => by
  rcases List.mem_cons.mp hj with rfl | hj
  · exact h
  · exact r j hj
/-! ### clauses of own errors -/
/-- the error class named x takes as t tells -/
def ExcN (M : Wd) (x : Str) (t : List (Nat × Bool)) : Prop := ∃ c, M.mg x = some c ∧ ExTab M c t
theorem hdr_own {X : Cx} {x : Str} {t : List (Nat × Bool)} {g : EvS} {b : Stmt} {suite : List Stmt} {np pos : Pos} {hds : List ExceptHandler} {hs : List Hdl} (hg : Gl X x) (h : ExcN (wd X) x t)
    (run : ∀ (a : Addr) (oe : Obj) (pn : List (Addr × Obj)), RSs (X.suite a ((a, oe) :: pn)) w0 (b :: suite) g) (r : HdR X hds hs) (hdb : (x == ("__debug__" : Str)) = false := by decide) : HdR X (.ExceptHandler (some (.Name x np)) none (b :: suite) pos :: hds) ((t, g) :: hs) := by
  obtain ⟨c, h1, h2⟩ := h
  exact .cons ⟨hg, hdb, .inl h1⟩ h2 run r
end R
set_option Elab.async false
set_option linter.all false
set_option autoImplicit false
/-! R43: what the printed ends need. -/
namespace R
open PySem PySem.Spec PyProof.Rows L2
/-- the j-th statement of a class -/
def clsBody (s : Stmt) (j : Nat) : Stmt := match s with
  | .ClassDef _ _ _ b _ _ _ _ _ _ _ => b.getD j (.Pass ⟨0, 0, 0, 0⟩)
  | s => s
open Classical in
/-- an __init__ that answers alike wherever the instance lies -/
noncomputable def unI (G : FnI) : Fn := fun rs => if ∀ a, G a rs = G 0 rs then G 0 rs else .bad
theorem unI_le (G : FnI) : FLeI (unI G) G := fun a rs => by
  unfold unI
  split
  · rename_i h; exact .inr (h a)
  · exact .inl rfl
theorem unI_eq {G : FnI} {rs : List Rv} {r : FR} (h : ∀ a, G a rs = r) : unI G rs = r := by
  unfold unI
  rw [if_pos fun a => (h a).trans (h 0).symm, h 0]
theorem noattr_nil {K : PySem.W.Frag} {C : Addr} : ∀ f ∈ ([] : List Str), NoAttr K C f := fun _ h => nomatch h
theorem noattr_cons {K : PySem.W.Frag} {C : Addr} {f : Str} {fs : List Str} (h : PySem.W.findIn K (.ref C) f = some none) (r : ∀ f ∈ fs, NoAttr K C f) : ∀ g ∈ f :: fs, NoAttr K C g := fun g hg => by
  rcases List.mem_cons.mp hg with rfl | hg
  · exact h
  · exact r g hg
theorem kw_nil {K : PySem.W.Frag} {D : Addr} : ∀ q ∈ ([] : List (Str × V)), ∃ u, PySem.W.nsIn K D q.1 = some (some u) ∧ RelV q.2 u := fun _ h => nomatch h
theorem kw_cons {K : PySem.W.Frag} {D T : Addr} {x : Str} {r : List (Str × V)} (h : PySem.W.nsIn K D x = some (some (.ref T))) (i : ∀ q ∈ r, ∃ u, PySem.W.nsIn K D q.1 = some (some u) ∧ RelV q.2 u) : ∀ q ∈ (x, V.ref T) :: r, ∃ u, PySem.W.nsIn K D q.1 = some (some u) ∧ RelV q.2 u := fun q hq => by
  rcases List.mem_cons.mp hq with rfl | hq
  · exact ⟨_, h, rfl⟩
  · exact i q hq
def pick {α : Type} (i : Nat) (l : List α) : List α := (l.drop i).take 1
theorem vals_take {vs : List V} {us : List Value} (n : Nat) (h : Vals vs us) : Vals (vs.take n) (us.take n) := by
  induction n generalizing vs us with
  | zero => exact .nil
  | succ n ih => cases h with
    | nil => exact .nil
    | cons a b => exact .cons a (ih b)
theorem vals_pick {vs : List V} {us : List Value} (i : Nat) (h : Vals vs us) : Vals (pick i vs) (pick i us) := vals_take 1 (h.drop i)
theorem rep_unit {K : PySem.W.Frag} {mg : Str → Option Value} {T : Addr} {n : Nat} {sl : Array (Option Value)} (l : K.lookup T = some ⟨.type "tuple", none, .seq #[] n, sl⟩) (H : Hp) : Rep ⟨K, mg⟩ H (.tup []) (.ref T) :=
  ⟨T, [], rfl, .inr ⟨_, #[], n, l, rfl, rfl, rfl, by simp [sizeLine], .nil⟩, rfl⟩
theorem perm_at {α : Type} {x : α} {l m : List α} (n : Nat) (h : m = l.take n ++ x :: l.drop n) : (x :: l).Perm m := by
  subst h
  refine List.Perm.trans (List.Perm.cons _ (List.Perm.of_eq (List.take_append_drop n l).symm)) List.perm_middle.symm
theorem OK.litv {M : Wd} {c : Ctx} {H : Hp} {L : List Ow} (v : V) (d : D) (ok : OK M c H L) (hd : ∀ G, Rep M G d v) : OK M c H (.val v .fro d :: L) := ok.lit hd
section
variable {X : Cx} {W : WX} {e : Expr} {f : EvE} {p apos pos : Pos} {x y : Str}
theorem rs_stf (i : Nat) (ks : List Nat) (hk : ∀ k ∈ ks, ClsOk (wd X) k) (he : RE X W e f) (hN : X.N[i]? = some y := by rfl) (hv : Vis X.env.scope y := by first | exact Or.inl rfl | exact Or.inr (Or.inl rfl) | exact Or.inr (Or.inr rfl)) (hd : (y == ("__debug__" : Str)) = false := by decide)
    (hcd : (y == ("__classdict__" : Str)) = false := by decide) (hs : swapsWith e (some (.Attribute (.Name y p) x apos)) pos.line X.env = pure false := by rfl) : RS X W (.Assign [.Attribute (.Name y p) x apos] e pos) (sFst ks x i f) :=
  rs_fst hk he (i := i) hN hv hd hcd hs
end
section
variable {K : PySem.W.Frag} {h : Heap} {mg : Str → Option Value} {k : Nat} {C : Addr}
theorem cls_mk (m : mg (cName k) = some (.ref C)) (cl : Cls K C) (na : ∀ f ∈ cFlds k, NoAttr K C f) : ClsOk ⟨K, mg⟩ k := fun D hD => by
  cases (m.symm.trans hD : some (Value.ref C) = some (.ref D))
  exact ⟨cl, na⟩
theorem cls_no (m : mg (cName k) = none) : ClsOk ⟨K, mg⟩ k := fun D hD => by
  cases (m.symm.trans hD : none = some (Value.ref D))
theorem ExTab.skip {M : Wd} {c : Value} {t : List (Nat × Bool)} {b : Bool} (hm : M.mg (eName k) = none) (r : ExTab M c t) : ExTab M c ((k, b) :: t) := fun j D b' e hD => by
  rw [List.lookup_cons] at e
  split at e
  · rename_i hj
    have hj : j = k := by simpa using hj
    subst hj
    cases hm.symm.trans hD
  · exact r j D b' e hD
end
end R
set_option Elab.async false
set_option linter.all false
set_option autoImplicit false
/-! R44: a tuple of targets takes tuples and lists. -/
namespace R
open PySem PySem.Spec PyProof.Rows L2
def gAny (g : EvTgs) (n : Nat) : EvTg := fun r ε => match r.2 with
  | .lst _ => gLs g n r ε
  | _ => gTp g n r ε
section
variable {X : Cx} {es : List Expr} {pos : Pos} {h : EvTgs} {jx : List Nat}
theorem rtg_any {k n : Nat} (hc : X.calm = true) (h1 : RTgs X es h jx) (hn : (assignEach es X.env).length = n := by rfl) (hst : (assignEach es X.env).findIdx? (·.1) = none := by rfl) : RTg X (.Tuple es k pos) (gAny h n) jx :=
  ⟨⟨fun pins s σ H v u Q I r z => by
    obtain ⟨c, T, ε, r0, st, ε', e, q⟩ := z
    by_cases hl : ∃ ds, r0.2 = .lst ds
    · obtain ⟨ds, hl⟩ := hl
      refine (rtg_lst hc h1 hn hst).run.run pins s σ H v u Q I r ⟨c, T, ε, r0, st, ε', ?_, q⟩
      unfold gAny at e
      rw [hl] at e
      exact e
    · refine (rtg_tup hc h1 hn hst).run.run pins s σ H v u Q I r ⟨c, T, ε, r0, st, ε', ?_, q⟩
      unfold gAny at e
      split at e
      · rename_i ds h9
        exact absurd ⟨ds, h9⟩ hl
      · exact e⟩⟩
end
@[simp] theorem gAny_lst (g : EvTgs) (n : Nat) (s : Sh) (ds : List D) (ε : En) : gAny g n (s, .lst ds) ε = if s.sol = true ∧ ds.length = n then g ds ε else none := id rfl
@[simp] theorem gAny_tup (g : EvTgs) (n : Nat) (ds : List D) (ε : En) : gAny g n (.fro, .tup ds) ε = if ds.length = n then g ds ε else none := id rfl
@[simp] theorem gAny_pr (g : EvTgs) (n : Nat) (ds : List D) (ε : En) : gAny g n (.fro, .pr ds) ε = if ds.length = n then g ds ε else none := id rfl
end R
set_option Elab.async false
set_option linter.all false
set_option autoImplicit false
/-! R45: a, b = e1, e2. -/
namespace R
open PySem PySem.Spec PyProof.Rows L2
def sPar (i j : Nat) (g : EvC) : EvS := fun ε => (g ε).bind fun ds ε => match ds with
  | [d1, d2] => .ok .nx ((ε.set i (some (.fro, d1))).set j (some (.fro, d2)))
  | _ => .bad
section
variable {X : Cx} {W : WX} {a b : Expr} {g : EvC} {x y : Str} {px py pt pos : Pos} {kt k2 pt2}
theorem rs_par (i j : Nat) (hc : X.calm = true) (hN : X.N.Nodup) (ha : RC X W [a, b] g) (hij : i ≠ j := by decide) (hi : X.N[i]? = some x := by rfl) (hj : X.N[j]? = some y := by rfl)
    (hx : X.env.scope.names.lookup x = some .local := by rfl) (hy : X.env.scope.names.lookup y = some .local := by rfl) (hw : swappedStores [.Tuple [.Name x px, .Name y py] kt pt] (.Tuple [a, b] k2 pt2) X.env = pure (some [x, y]) := by rfl)
    (hs : swapsWithSole [.Tuple [.Name x px, .Name y py] kt pt] (.Tuple [a, b] k2 pt2) pos.line X.env = pure false := by rfl) (li : i < X.N.length := by exact Nat.le_of_ble_eq_true rfl) (lj : j < X.N.length := by exact Nat.le_of_ble_eq_true rfl) :
    RS X W (.Assign [.Tuple [.Name x px, .Name y py] kt pt] (.Tuple [a, b] k2 pt2) pos) (sPar i j g) := by
  refine ⟨⟨fun pins s σ H D I ⟨c, T, ε, st, q⟩ => (ps_par hc hN hi hj hij hx hy ha.run hw hs).run pins s σ H D I ⟨c, T, ε, st, pst_of_S (pstS_mono (fun ds ε1 q vs H1 hl s1 => ?_) (pstS_bind q))⟩⟩⟩
  match ds, vs, hl, q, s1 with
  | [d1, d2], [v1, v2], _, q, s1 =>
    refine ⟨v1, v2, rfl, q _ _ ?_⟩
    have s2 : Sta (wd X) c (.val v2 .fro d2 :: T) (σ.set i (some v1)) H1 (ε1.set i (some (.fro, d1))) := Sta.store (r := (.fro, d1)) (T := .val v2 .fro d2 :: T) s1 (by rw [I.len]; exact li)
    exact Sta.store (r := (.fro, d2)) s2 (by rw [List.length_set, I.len]; exact lj)
  | [], _, _, q, _ => exact q.elim
  | [_], _, _, q, _ => exact q.elim
  | _ :: _ :: _ :: _, _, _, q, _ => exact q.elim
end
@[simp] theorem sPar_def (i j : Nat) (g : EvC) (ε : En) : sPar i j g ε = (fun ε => (g ε).bind fun ds ε => match ds with
  | [d1, d2] => .ok .nx ((ε.set i (some (.fro, d1))).set j (some (.fro, d2)))
  | _ => .bad) ε := id rfl
end R
set_option Elab.async false
set_option linter.all false
set_option autoImplicit false
/-! R46: place.clear(). -/
namespace R
open PySem PySem.Spec PyProof.Rows L2
def sLclr (f : EvL) : EvE := fun ε => (f ε).bind fun l ε => match l.s, l.d with
  | .con s, .lst _ => lBack l (.con s) (.lst []) ε fun ε => .ok (.fro, .non) ε
  | _, _ => .bad
section
variable {X : Cx} {W : WX} {a : Expr} {f : EvL} {apos pos : Pos}
theorem re_lclr (ho : RL X W a f) (hbase : attributeBase a "clear" X.env (eval a X.env) = eval a X.env := by rfl) (hline : (apos.endLine == pos.line) = true := by rfl) : RE X W (.Call (.Attribute a "clear" apos) [] [] pos) (sLclr f) := by
  refine ⟨PE.imp (pe_bm0 PySem.F.plainAttrs_list PySem.F.slot_list_clear PySem.F.type_list_clear mt_clear ho.run hbase hline) fun σ H Q ⟨c, T, ε, s, q⟩ => ⟨c, T, ε, s, pst_mono (fun l ε1 q9 v Fl H1 o s1 => ?_) (pst_bind q)⟩⟩
  split at q9
  · rename_i s0 ds es ed
    rw [es, ed] at s1
    obtain ⟨a1, vs, rfl, hl, ok⟩ := OK.openL (L := (Fl ++ T) ++ slots σ ε1) s1.ok
    refine ⟨.inl ⟨rfl, vs, .inl (.inl ok.cell)⟩, a1, vs, rfl, rfl, ok.cell, ?_⟩
    have s5 : Sta (wd X) c (.val (.ref a1) (.con s0) (.lst []) :: (Fl ++ T)) σ (L2.upd H1 a1 (.lst [])) ε1 := by
      refine ⟨OK.closeL (vs := []) rfl (L := (Fl ++ T) ++ slots σ ε1) ?_, s1.fit⟩
      have k : OK (wd X) c (L2.upd H1 a1 (.lst [])) (.cel a1 (.lst []) :: (itc s0 ds vs ++ ((Fl ++ T) ++ slots σ ε1))) := ok.upd
      exact OK.perm (OK.drops (L1 := itc s0 ds vs) (k.perm List.perm_middle.symm)) (.refl _)
    obtain ⟨ε3, s6, q6⟩ := lBack_run o s5 q9
    exact q6 _ _ (s6.lit fun _ => rfl)
  · exact q9.elim
end
@[simp] theorem sLclr_def (f : EvL) (ε : En) : sLclr f ε = (fun ε => (f ε).bind fun l ε => match l.s, l.d with
  | .con s, .lst _ => lBack l (.con s) (.lst []) ε fun ε => .ok (.fro, .non) ε
  | _, _ => .bad) ε := id rfl
theorem perm_sel {α : Type} {l : List α} (x : α) (l' : List α) (j : Nat) (h : l = l'.take j ++ x :: l'.drop j) : l.Perm (x :: l') := by
  subst h
  exact List.perm_middle.trans (.cons _ (List.Perm.of_eq (List.take_append_drop j l')))
end R
set_option Elab.async false
set_option linter.all false
set_option autoImplicit false
/-! R47: starred items in list displays. -/
namespace R
open PySem PySem.Spec PyProof.Rows L2
theorem itc_append {s : Sh} : ∀ {a b : List D} {v w : List V}, a.length = v.length → itc s (a ++ b) (v ++ w) = itc s a v ++ itc s b w
  | [], _, [], _, _ => rfl
  | _ :: a, _, _ :: v, _, h => by
    show _ :: itc s (a ++ _) (v ++ _) = _ :: (itc s a v ++ _)
    rw [itc_append (Nat.succ.inj h)]
/-- *e ahead of other items -/
def cSt (f : EvE) (g : EvC) : EvC := fun ε => (f ε).bind fun r ε => if r.1.sol = true then opt (seqD r.2) fun x => (g ε).bind fun ds ε => .ok (x.2 ++ ds) ε else .bad
theorem SqB.or {K : PySem.W.Frag} {H : Hp} {a : Addr} {xs : List V} : ∀ {tp : Bool}, SqB K tp H a xs → SqT K H a xs ∨ SqL K H a xs
  | true, h => .inl h
  | false, h => .inr h
section
variable {X : Cx} {W : WX} {p : Pos} {e : Expr} {es : List Expr} {f : EvE} {g : EvC}
theorem rc_star (h1 : RE X W e f) (h2 : RC X W es g) (hs : starEach (.Starred e p :: es) X.env = (true, eval e X.env) :: starEach es X.env := by rfl) : RC X W (.Starred e p :: es) (cSt f g) :=
  ⟨PA.imp (StX.pa_star h1.run h2.run hs) fun σ H Q ⟨c, T, ε, s, q⟩ => ⟨c, T, ε, s, pst_mono (fun r ε q v H s => by
    split at q
    · rename_i hs
      obtain ⟨⟨tp, ds⟩, e1, q⟩ := pst_opt q
      obtain ⟨a, vs, rfl, l1, k1, s2⟩ := seqD_pin (s.freeze (Sh.sol_solid _ hs)) e1
      have s3 : Sta (wd X) c (itc .fro ds vs ++ T) σ H ε := ⟨by rw [List.append_assoc]; exact (s2.pinMap fun G z => z.2).ok.itemsPin, s2.fit⟩
      refine ⟨a, vs, rfl, k1.or, c, _, ε, s3, pst_mono (fun ds2 ε q vs2 H hl s => q (vs ++ vs2) H (by rw [List.length_append, List.length_append, hl, l1]) ?_) (pst_pushes (pst_bind q))⟩
      rw [itc_append l1]
      refine s.perm ?_
      rw [← List.append_assoc]
      exact List.Perm.append_right _ List.perm_append_comm
    · exact q.elim) (pst_bind q)⟩⟩
end
end R
set_option Elab.async false
set_option linter.all false
set_option autoImplicit false
/-! R48: methods called by keywords alone. -/
namespace R
open PySem PySem.Spec PyProof.Rows L2
section
variable {X : Cx} {W : WX} {CX : CXT} {k n : Nat} {f C : Addr} {fd : FuncData} {ps ks : List Str} {sp : Sp} {m : Str} {pos apos : Pos} {o : Expr} {kws : List Keyword} {ta : TE} {tk : TA} {g : List Value → List Value → List Value} {gV : List V → List V → List V}
theorem run_fnNS {E : L2.St → XK} {pins : List (Addr × Obj)} {σ : L2.St} {H : Hp} {s : Shared} {Q : VK} {us ws : List Value} {vs zs : List V} (G : FnOk X.prog X.w X.K X.mg X.base CX k f fd ps sp) (hr : Room k X.A) (hb : KBn X.K fd ps n ks g gV)
    (tkx : PassesAt CX X σ (E σ)) (I : L2.Inv X pins σ H s) (rv : Vals vs us) (rz : Vals zs ws) (lv : vs.length = n) (lz : zs.length = ks.length) (q : sp (gV vs zs) H Q (E σ)) :
    wpAny (model X.prog X.w) X.A (call (.ref f) us (ks.zip ws)) (EP X pins σ Q) X.xe s := by
  refine wpAny_call (codeAny_mono (G.run _ X.stack _ _ ⟨us, ks.zip ws⟩ (g us ws) _ _ (E σ) hr I.env0 (hb.to _ us ws I.kIn (rv.length.symm.trans lv) (rz.length.symm.trans lz)) (hb.rel rv rz) q) fun r s' hq' => ?_)
  cases r with
  | error e => exact tkx pins _ _ e s' I hq'
  | ok fl =>
    cases fl with
    | ret u =>
      obtain ⟨v, H', I3, rv, q3⟩ := I.after hq'
      exact ⟨v, H', I3, rv, q3⟩
    | next => exact False.elim hq'
    | brk => exact False.elim hq'
    | cont => exact False.elim hq'
def tMeK (C : Addr) (m : Str) (n : Nat) (sp : Sp) (gV : List V → List V → List V) (W : WX) (ta : TE) (t : TA) : TE := fun σ H Q => ta σ H fun y H1 => ∃ a dx fs, y = .ref a ∧ H1 a = some (.ins C dx fs) ∧ fs.lookup m = none ∧ t σ H1 fun zs H2 => zs.length = n ∧ sp (gV [.ref a] zs) H2 Q (WE W σ)
theorem pe_meK {pl : Sem Bool} (ho : PE X o ta) (cl : Cls X.K C) (hm : Meth X.K C m f) (G : FnOk X.prog X.w X.K X.mg X.base (L2.CX X.prog X.w) k f fd ps sp) (hr : Room k X.A) (hb : KBn X.K fd ps 1 ks g gV) (tkx : Takes X W) (hkw : PK X kws tk)
    (hall : (backToKw pos (keywordEach kws X.env)).all (·.1.isSome) = true := by rfl) (hks : (backToKw pos (keywordEach kws X.env)).filterMap (·.1) = ks := by rfl)
    (hpl : ((backTo pos (starEach [] X.env)).any (·.1) || (backToKw pos (keywordEach kws X.env)).any (·.1.isNone)) = false := by rfl)
    (ht : eval (.Call (.Attribute o m apos) [] kws pos) X.env = (do
      let r ← eval o X.env
      standAt apos.atName
      let (g, first) ← holding [r] (getMethod r m pl)
      callWith pos g first (backTo pos (starEach [] X.env)) (backToKw pos (keywordEach kws X.env))) := by rfl) : PE X (.Call (.Attribute o m apos) [] kws pos) (tMeK C m ks.length sp gV W ta tk) := by
  refine ⟨fun pins s σ H Q I h => PySem.W.methodCall_KW (pl := pl) (thn (ho.run pins s σ H _ I h) fun u s1 z => ?_) ht⟩
  obtain ⟨y, H1, I1, ry, a, dx, fs, rfl, ea, hl, q⟩ := z
  cases (show u = Value.ref a from ry)
  refine getmeth_ok I1 ea cl hm hl (PySem.W.callWith_KW0 (first := [.ref a]) (h₀ := X.base) I.ok.mod.kin hm.kp hall (thn (hkw.run pos pins s1 σ H1 _ I1 q) fun ws s2 z => ?_) hpl)
  obtain ⟨zs, H2, I2, rz, lz, q2⟩ := z
  refine ⟨I2.kIn, ?_⟩
  rw [hks]
  exact run_fnNS (us := [.ref a]) (vs := [.ref a]) (E := WE W) G hr hb (passAt tkx σ) I2 (.cons rfl .nil) rz rfl lz q2
end
/-- the method m of the class c, called by the keywords ks alone -/
def CalleeMK (P : Program) (w : World) (K : PySem.W.Frag) (mg : Str → Option Value) (base : Heap) (k c n : Nat) (m : Str) (ks : List Str) (aR : List Rv → List Rv) (F : Fn) : Prop :=
  ∃ C fa fd ps g aV gV, mg (cName c) = some (.ref C) ∧ Cls K C ∧ Meth K C m fa ∧ FnOk P w K mg base (L2.CX P w) k fa fd ps (spOf ⟨K, mg⟩ (n + 1) F) ∧ KBn K fd ps 1 ks g gV ∧ (∀ v zs, gV [v] zs = v :: aV zs) ∧ Arr ⟨K, mg⟩ n ks.length aV aR
def sMeK (c : Nat) (aR : List Rv → List Rv) (F : Fn) (h : Ev1) (g : EvG) : EvE := fun ε => (h ε).bind fun a ε => opt (argRv a ε) fun r => if clsOf r.2 = some c then (g ε).bind fun as ε => opt (argRv a ε) fun r => opt (argRvs as ε) fun rs => frOut (F (r :: aR rs)) ε else .bad
theorem mek_run {M : Wd} {W : WX} {c : Ctx} {T : List Ow} {σ : L2.St} {H : Hp} {ε : En} {Q : VK} {F : Fn} {a : Arg} {as : List Arg} {v : V} {vs : List V} {r : Rv} {rs : List Rv} {n m : Nat} {aV : List V → List V} {aR : List Rv → List Rv} (A : Arr M n m aV aR) (hn : as.length = m)
    (s : Sta M c (argos σ (a :: as) (v :: vs) ++ T) σ H ε) (hl : as.length = vs.length) (e0 : argRv a ε = some r) (e : argRvs as ε = some rs) (q : postE M W c T σ Q (frOut (F (r :: aR rs)) ε)) : spOf M (n + 1) F (v :: aV vs) H Q (WE W σ) := by
  obtain ⟨c', o1, l1, o2, o3⟩ := call_args (as := a :: as) (vs := v :: vs) (rs := r :: rs) s (by rw [List.length_cons, List.length_cons, hl]) (by simp only [argRvs, e0, e])
  have lr : rs.length = vs.length := by simpa using l1
  have lm : vs.length = m := hl ▸ hn
  have ok : OK M c' H (.val v r.1 r.2 :: argw (aV vs) (aR rs)) := by
    have z : OK M c' _ (argw vs rs ++ [.val v r.1 r.2]) := o1.perm (List.perm_append_comm (l₁ := [_]) (l₂ := argw vs rs))
    exact (A.ok _ _ _ _ _ lm (lr.trans lm) z).perm (List.perm_append_comm (l₁ := argw (aV vs) (aR rs)) (l₂ := [_]))
  refine ⟨c', r :: aR rs, by rw [List.length_cons, A.lenV _ lm], by rw [List.length_cons, A.lenR _ (lr.trans lm)], ok, ?_⟩
  cases e1 : F (r :: aR rs) with
  | ok r =>
    rw [e1] at q
    intro v H' okr
    simp only [frOut_ok] at q
    split at q
    · rename_i hs
      exact q v H' (o2 H' v r.1 r.2 (Sh.sol_solid _ hs) okr)
    · exact q.elim
  | exc x =>
    rw [e1] at q
    exact fun cls d H' okr => q cls d H' (o3 H' _ okr)
  | bad => rw [e1] at q; exact q
section
variable {X : Cx} {W : WX} {o : Expr} {kws : List Keyword} {h : Ev1} {g : EvG} {k c n : Nat} {F : Fn} {m : Str} {ks : List Str} {aR : List Rv → List Rv} {apos pos : Pos}
theorem re_meK (G : CalleeMK X.prog X.w X.K X.mg X.base k c n m ks aR F) (hr : Room k X.A) (tk : Takes X W) (ho : R1g X W o h) (hkw : RGk X W kws g) (hlen : ∀ ε as ε', g ε = .ok as ε' → as.length = ks.length) (hm : m ∉ cFlds c)
    (hall : (backToKw pos (keywordEach kws X.env)).all (·.1.isSome) = true := by rfl) (hks : (backToKw pos (keywordEach kws X.env)).filterMap (·.1) = ks := by rfl)
    (hpl : ((backTo pos (starEach [] X.env)).any (·.1) || (backToKw pos (keywordEach kws X.env)).any (·.1.isNone)) = false := by rfl) {pl : Sem Bool}
    (ht : eval (.Call (.Attribute o m apos) [] kws pos) X.env = (do
      let r ← eval o X.env
      standAt apos.atName
      let (g, first) ← holding [r] (getMethod r m pl)
      callWith pos g first (backTo pos (starEach [] X.env)) (backToKw pos (keywordEach kws X.env))) := by rfl) : RE X W (.Call (.Attribute o m apos) [] kws pos) (sMeK c aR F h g) := by
  obtain ⟨C, fa, fd, ps, gg, aV, gV, hC, cl, hM, hF, hb, hv, A⟩ := G
  refine ⟨PE.imp (pe_meK ho.run cl hM hF hr hb tk hkw.run hall hks hpl ht) fun σ H Q ⟨cx, T, ε, s, q⟩ => ⟨cx, T, ε, s, pst_mono (fun a ε1 q9 v H1 s1 => ?_) (pst_bind q)⟩⟩
  clear q
  obtain ⟨r, e1, q8⟩ := pst_opt q9
  split at q8
  · rename_i hc
    obtain ⟨ds, hd⟩ := clsOf_eq hc
    obtain ⟨p, C', dx, vs, rfl, hm', ea⟩ := s1.recvA e1 hd
    cases Eq.trans hC.symm hm'
    refine ⟨p, dx, _, rfl, ea, lookup_none hm, cx, _, ε1, s1, ?_⟩
    have q7 := pst_bind q8
    cases eg : g ε1 with
    | bad => rw [eg] at q7; exact q7
    | exc x ε => rw [eg] at q7; exact pst_push q7
    | ok as ε2 =>
      rw [eg] at q7
      intro vs2 H2 hl s3
      obtain ⟨r', e0, q6⟩ := pst_opt q7
      obtain ⟨rs, e2, q5⟩ := pst_opt q6
      refine ⟨hl ▸ hlen _ _ _ eg, ?_⟩
      rw [hv]
      exact mek_run A (hlen _ _ _ eg) (s3.perm List.perm_middle) hl e0 e2 q5
  · exact q8.elim
end
section
variable {P : Program} {w : World} {K : PySem.W.Frag} {mg : Str → Option Value} {base : Heap}
theorem FunD.okR {x qual : Str} {params : Arguments} {body : List Stmt} {scope : Scope} {dvs : List V} {kws : List (Str × V)} {f : Addr} {fd : FuncData} {N ps : List Str} {k : Nat} {u : EvS} (F : FunD K x qual params body scope dvs kws f fd) (S : FnScope N ps scope)
    (hbody : ∀ (cdv : Value) (A : Around) (outer : List Env) (s : Shared) (H : Hp) (E : XK), Room k (A.deeper (envOfC qual scope s.heap.objs.size f cdv)) →
      RSs (cxOf (L2.CX P w) P w K mg base N qual scope f cdv A outer s H E) (wE E) body u) : FnOk P w K mg base (L2.CX P w) (k + 1) f fd ps (spOf ⟨K, mg⟩ ps.length (runF N.length u)) := by
  refine F.ok S (fun vs H Q E h => ?_) (fun cdv A outer s H vs Q E hr h => ⟨_, (hbody cdv A outer s H E hr).run, ?_⟩)
  · obtain ⟨c, rs, h1, _⟩ := h
    exact h1
  · obtain ⟨c, rs, h1, h2, ok, q⟩ := h
    refine ⟨c, [], env0 N.length rs, sta_start ok (h1.trans h2.symm), ?_⟩
    show pstS _ _ _ _ _ _
    simp only [runF] at q
    cases e : u (env0 N.length rs) with
    | bad => rw [e] at q; exact q
    | exc x ε => rw [e] at q; exact fun cls d σ H st => q cls d H ((st.ok.perm (List.perm_append_comm (l₁ := [_]) (l₂ := slots σ ε))).drops)
    | ok fl ε =>
      rw [e] at q
      cases fl with
      | nx => exact fun σ H st => q .non H ((st.ok.lit (d := .non) (v := .non) fun _ => rfl).perm (List.perm_append_comm (l₁ := [_]) (l₂ := slots σ ε))).drops
      | bk => exact q.elim
      | ct => exact q.elim
      | rt r => exact fun v σ H st => q v H ((st.ok.perm (List.perm_append_comm (l₁ := [_]) (l₂ := slots σ ε))).drops)
end
theorem kw_non {K : PySem.W.Frag} {D : Addr} {x : Str} {r : List (Str × V)} (h : PySem.W.nsIn K D x = some (some .none)) (i : ∀ q ∈ r, ∃ u, PySem.W.nsIn K D q.1 = some (some u) ∧ RelV q.2 u) : ∀ q ∈ (x, V.non) :: r, ∃ u, PySem.W.nsIn K D q.1 = some (some u) ∧ RelV q.2 u := fun q hq => by
  rcases List.mem_cons.mp hq with rfl | hq
  · exact ⟨_, h, rfl⟩
  · exact i q hq
theorem rep_non {M : Wd} (H : Hp) : Rep M H .non .non := rfl
end R
set_option autoImplicit true
set_option maxRecDepth 100000
namespace S
open PySem PySem.Spec PyProof.Rows L2 R
def c_MOST_NAME_CHARS : R.D := .int 12
def c_NAME_CHARS : R.D := .str "abcdefghijklmnopqrstuvwxyz0123456789"
def c_MOST_WINDS : R.D := .int 4
def c_MOST_PLACES : R.D := .int 24
def c_MOST_LINKS : R.D := .int 60
def c_MOST_MINUTES : R.D := .int 1000
def c_MOST_PATHS : R.D := .int 60
def c_SHUT : R.D := .str "-"
def c_MOST_DIGITS : R.D := .int 6
def c_DIGITS : R.D := .str "0123456789"
def x_EveryfireError : List (Nat × Bool) := [(0, true), (1, true), (2, true), (3, true), (4, true), (5, true), (6, true), (7, true), (8, true), (9, true), (10, true), (11, true)]
def x_InvalidLand : List (Nat × Bool) := [(0, false), (1, true), (2, false), (3, false), (4, false), (5, false), (6, false), (7, false), (8, false), (9, false), (10, false), (11, false)]
def x_UnknownName : List (Nat × Bool) := [(0, false), (1, false), (2, true), (3, false), (4, false), (5, false), (6, false), (7, false), (8, false), (9, false), (10, false), (11, false)]
def x_InvalidWeather : List (Nat × Bool) := [(0, false), (1, false), (2, false), (3, true), (4, false), (5, false), (6, false), (7, false), (8, false), (9, false), (10, false), (11, false)]
def x_InvalidPlan : List (Nat × Bool) := [(0, false), (1, false), (2, false), (3, false), (4, true), (5, false), (6, false), (7, false), (8, false), (9, false), (10, false), (11, false)]
def x_InvalidNotation : List (Nat × Bool) := [(0, false), (1, false), (2, false), (3, false), (4, false), (5, true), (6, false), (7, false), (8, false), (9, false), (10, false), (11, false)]
def x_InvalidPaper : List (Nat × Bool) := [(0, false), (1, false), (2, false), (3, false), (4, false), (5, false), (6, true), (7, false), (8, false), (9, false), (10, false), (11, false)]
def x_InvalidQuestion : List (Nat × Bool) := [(0, false), (1, false), (2, false), (3, false), (4, false), (5, false), (6, false), (7, true), (8, false), (9, false), (10, false), (11, false)]
def x_NameInUse : List (Nat × Bool) := [(0, false), (1, false), (2, false), (3, false), (4, false), (5, false), (6, false), (7, false), (8, true), (9, false), (10, false), (11, false)]
def x_NothingToUndo : List (Nat × Bool) := [(0, false), (1, false), (2, false), (3, false), (4, false), (5, false), (6, false), (7, false), (8, false), (9, true), (10, false), (11, false)]
def x_NothingToRedo : List (Nat × Bool) := [(0, false), (1, false), (2, false), (3, false), (4, false), (5, false), (6, false), (7, false), (8, false), (9, false), (10, true), (11, false)]
def x_NoCut : List (Nat × Bool) := [(0, false), (1, false), (2, false), (3, false), (4, false), (5, false), (6, false), (7, false), (8, false), (9, false), (10, false), (11, true)]
noncomputable def b__law_row_L1 : EvS :=
 (sSeq (sSet 4 (sOp2 pMod (oOf (sBi pInt (aCn (oOf (sAdd (oOf (sOp2 pMul (oVar 4) (oOf (eLit (.int 16807))))) (oOf (sOp2 pMul (oOf (eLit (.int 271))) (oOf (sAdd (oVar 5) (oOf (eLit (.int 3))))))))) aNl))) (oOf (eLit (.int 2147483629)))))
 (sIfS (tOf (sOp2 pGe (oOf (sBi pAbs (aCn (oVar 0) aNl))) (oOf (sOp2 pPow (oOf (eLit (.int 10))) (oOf (eLit (.int 18))))))) (sSeq (sDrop (sLapp false (lVar 2) (sOp2 pMod (oOf (sBi pInt (aCn (oVar 3) aNl))) (oOf (eLit (.int 1009))))))
 (sSet 3 (sOp2 pDiv (oVar 3) (oOf (eLit (.int 1009)))))) (sDrop (sLapp false (lVar 2) (sOp2 pMod (oOf (sBi pInt (aCn (oOf (sOp2 pDiv (oVar 4) (oOf (eLit (.int 7))))) aNl))) (oOf (eLit (.int 1009))))))))
noncomputable def b__law_row : EvS :=
 (sSeq (sSet 2 (eLst cNl))
 (sSeq (sSet 3 (sBi pAbs (aCn (oVar 0) aNl)))
 (sSeq (sSet 4 (sOp2 pMod (oOf (sBi pInt (aCn (oOf (sAdd (oOf (sOp2 pMul (oVar 3) (oOf (eLit (.int 48271))))) (oOf (eLit (.int 69621))))) aNl))) (oOf (eLit (.int 2147483647)))))
 (sSeq (sFor (iRng (eVar 1)) (gNm 5) b__law_row_L1)
 (sRet (eMove 2))))))
noncomputable def M__law_row : Fn := runF 6 (b__law_row)
theorem le__law_row : FLe M__law_row (runF 6 (b__law_row)) := le_rfl'
noncomputable def b__law_numbers_L1 : EvS :=
 (sDrop (sLapp false (lVar 4) (eVar 6)))
noncomputable def b__law_numbers_L2 (F__law_row : Fn) : EvS :=
 (sFor (iSeq (sCall F__law_row (gCn (aFro (eVar 5)) (gCn (aFro (eVar 3)) gNl)))) (gNm 6) b__law_numbers_L1)
noncomputable def b__law_numbers_W3 : EvT :=
 (tOf (sOp2 pLt (oOf (sBi pLen (aCn (oVar 4) aNl))) (oVar 1)))
noncomputable def b__law_numbers_L4 : EvS :=
 (sDrop (sLapp false (lVar 4) (eLit (.int 0))))
noncomputable def b__law_numbers (F__law_row : Fn) : EvS :=
 (sSeq (sSet 2 (sSl (oVar 0) pNo (pSo (eLit (.int 63)))))
 (sSeq (sSet 3 (sAdd (oOf (eLit (.int 1))) (oOf (sOp2 pDiv (oVar 1) (oOf (sBi pMax2 (aCn (oOf (eLit (.int 1))) (aCn (oOf (sBi pLen (aCn (oVar 2) aNl))) aNl))))))))
 (sSeq (sSet 4 (eLst cNl))
 (sSeq (sFor (iSeq (eVar 2)) (gNm 5) (b__law_numbers_L2 F__law_row))
 (sSeq (sWhile b__law_numbers_W3 b__law_numbers_L4)
 (sRet (sSl (oVar 4) pNo (pSo (eVar 1)))))))))
noncomputable def M__law_numbers : Fn := runF 7 (b__law_numbers M__law_row)
theorem le__law_numbers : FLe M__law_numbers (runF 7 (b__law_numbers M__law_row)) := le_rfl'
noncomputable def b_is_name_X1 : EvE :=
 (sOp2 pIn (oVar 1) (oOf (eLit c_NAME_CHARS)))
noncomputable def b_is_name : EvS :=
 (sSeq (sIfS (tOr' (tNot' (tOf (sCh2 pLe pLe (oOf (eLit (.int 1))) (oOf (sBi pLen (aCn (oVar 0) aNl))) (oOf (eLit c_MOST_NAME_CHARS))))) (tOf (sOp2 pIn (oOf (sIx (oVar 0) (oOf (eLit (.int 0))))) (oOf (eLit (.str "0123456789")))))) (sRet (eLit (.bl false))) sNx)
 (sRet (sBi pAll (aCn (oOf (sLc (iSeq (eVar 0)) (gNm 1) tYes' b_is_name_X1 [1])) aNl))))
noncomputable def M_is_name : Fn := runF 2 (b_is_name)
theorem le_is_name : FLe M_is_name (runF 2 (b_is_name)) := le_rfl'
noncomputable def b_require : EvS :=
 (sIfS (tNot' (tTru (oVar 0))) (sRaise 1) sNx)
noncomputable def M_require : Fn := runF 1 (b_require)
theorem le_require : FLe M_require (runF 1 (b_require)) := le_rfl'
noncomputable def b_are_different_L1 : EvS :=
 (sIfS (tOf (sOp2 pIn (oVar 2) (oOf (sSl (oVar 0) pNo (pSo (eVar 1)))))) (sRet (eLit (.bl false))) sNx)
noncomputable def b_are_different : EvS :=
 (sSeq (sFor (iEn (eVar 0)) (gAny (gC1 (gNm 1) (gC1 (gNm 2) gN0)) 2) b_are_different_L1)
 (sRet (eLit (.bl true))))
noncomputable def M_are_different : Fn := runF 3 (b_are_different)
theorem le_are_different : FLe M_are_different (runF 3 (b_are_different)) := le_rfl'
noncomputable def b_Land_are_ends : EvS :=
 (sRet (eAnd (sOp2 pIn (oVar 1) (oOf (sFld [0, 2, 5] "places" (oVar 0)))) (eAnd (sOp2 pIn (oVar 2) (oOf (sFld [0, 2, 5] "places" (oVar 0)))) (sOp2 pNe (oVar 1) (oVar 2)))))
noncomputable def M_Land_are_ends : Fn := runF 3 (b_Land_are_ends)
theorem le_Land_are_ends : FLe M_Land_are_ends (runF 3 (b_Land_are_ends)) := le_rfl'
noncomputable def b_checked_times_L1 (F_require : Fn) : EvS :=
 (sSeq (sIfS (tOf (sOp2 pIsN (oVar 3) (oOf (eLit .non)))) (sSeq (sDrop (sCall F_require (gCn (aFro (eAnd (sOp2 pEq (oOf (sBi pLen (aCn (oVar 3) aNl))) (oOf (eLit (.int 2)))) (sCh3 pLe pLe pLe (oOf (eLit (.int 1))) (oOf (sIx (oVar 3) (oOf (eLit (.int 0))))) (oOf (sIx (oVar 3) (oOf (eLit (.int 1))))) (oOf (eLit c_MOST_MINUTES))))) gNl)))
 (sSet 3 (sK1 pTuple (oVar 3)))) sNx)
 (sDrop (sLapp false (lVar 2) (eVar 3))))
noncomputable def b_checked_times (F_require : Fn) : EvS :=
 (sSeq (sDrop (sCall F_require (gCn (aFro (sOp2 pEq (oOf (sBi pLen (aCn (oVar 0) aNl))) (oVar 1))) gNl)))
 (sSeq (sSet 2 (eLst cNl))
 (sSeq (sFor (iSeq (eVar 0)) (gNm 3) (b_checked_times_L1 F_require))
 (sRet (sK1 pTuple (oVar 2))))))
noncomputable def M_checked_times : Fn := runF 4 (b_checked_times M_require)
theorem le_checked_times : FLe M_checked_times (runF 4 (b_checked_times M_require)) := le_rfl'
noncomputable def b_Land_checked_link (F_require : Fn) (F_is_name : Fn) (F_Land_are_ends : Fn) (F_checked_times : Fn) : EvS :=
 (sSeq (sDrop (sCall F_require (gCn (aFro (sOp2 pEq (oOf (sBi pLen (aCn (oVar 1) aNl))) (oOf (eLit (.int 4))))) gNl)))
 (sSeq (sPat (eVar 1) (gAny (gC1 (gNm 2) (gC1 (gNm 3) (gC1 (gNm 4) (gC1 (gNm 5) gN0)))) 4))
 (sSeq (sDrop (sCall F_require (gCn (aFro (eAnd (sCall F_is_name (gCn (aFro (eVar 2)) gNl)) (sMeA 0 F_Land_are_ends (aLen 0) (gCn (aFro (eVar 3)) (gCn (aFro (eVar 4)) gNl))))) gNl)))
 (sRet (eTup (cCn (eVar 2) (cCn (eVar 3) (cCn (eVar 4) (cCn (sCall F_checked_times (gCn (aFro (eVar 5)) (gCn (aFro (sBi pLen (aCn (oOf (sFld [0] "winds" (oVar 0))) aNl))) gNl))) cNl)))))))))
noncomputable def M_Land_checked_link : Fn := runF 6 (b_Land_checked_link M_require M_is_name M_Land_are_ends M_checked_times)
theorem le_Land_checked_link : FLe M_Land_checked_link (runF 6 (b_Land_checked_link M_require M_is_name M_Land_are_ends M_checked_times)) := le_rfl'
noncomputable def b_Land_link_names_X1 : EvE :=
 (sIx (oVar 1) (oOf (eLit (.int 0))))
noncomputable def b_Land_link_names : EvS :=
 (sRet (sK1 pTuple (oOf (sLc (iSeq (sFld [0] "links" (oVar 0))) (gNm 1) tYes' b_Land_link_names_X1 [1]))))
noncomputable def M_Land_link_names : Fn := runF 2 (b_Land_link_names)
theorem le_Land_link_names : FLe M_Land_link_names (runF 2 (b_Land_link_names)) := le_rfl'
noncomputable def b_Land_checked_path (F_require : Fn) (F_Land_are_ends : Fn) : EvS :=
 (sSeq (sDrop (sCall F_require (gCn (aFro (sOp2 pEq (oOf (sBi pLen (aCn (oVar 1) aNl))) (oOf (eLit (.int 3))))) gNl)))
 (sSeq (sPat (eVar 1) (gAny (gC1 (gNm 2) (gC1 (gNm 3) (gC1 (gNm 4) gN0))) 3))
 (sSeq (sDrop (sCall F_require (gCn (aFro (eAnd (sMeA 0 F_Land_are_ends (aLen 0) (gCn (aFro (eVar 2)) (gCn (aFro (eVar 3)) gNl))) (sCh2 pLe pLe (oOf (eLit (.int 1))) (oVar 4) (oOf (eLit c_MOST_MINUTES))))) gNl)))
 (sRet (eTup (cCn (eVar 2) (cCn (eVar 3) (cCn (eVar 4) cNl))))))))
noncomputable def M_Land_checked_path : Fn := runF 5 (b_Land_checked_path M_require M_Land_are_ends)
theorem le_Land_checked_path : FLe M_Land_checked_path (runF 5 (b_Land_checked_path M_require M_Land_are_ends)) := le_rfl'
noncomputable def b_Land_init_X1 (F_is_name : Fn) : EvE :=
 (sCall F_is_name (gCn (aFro (eVar 5)) gNl))
noncomputable def b_Land_init_X2 (F_is_name : Fn) : EvE :=
 (sCall F_is_name (gCn (aFro (eVar 6)) gNl))
noncomputable def b_Land_init_X3 (F_Land_checked_link : Fn) : EvE :=
 (sMeA 0 F_Land_checked_link (aLen 0) (gCn (aFro (eVar 7)) gNl))
noncomputable def b_Land_init_X4 (F_Land_checked_path : Fn) : EvE :=
 (sMeA 0 F_Land_checked_path (aLen 0) (gCn (aFro (eVar 8)) gNl))
noncomputable def b_Land_init_X5 : EvE :=
 (sK1 pTuple (oOf (sSorted (oOf (sSl (oVar 8) pNo (pSo (eLit (.int 2))))))))
noncomputable def b_Land_init (F_require : Fn) (F_is_name : Fn) (F_are_different : Fn) (F_Land_checked_link : Fn) (F_Land_link_names : Fn) (F_Land_checked_path : Fn) : EvS :=
 (sSeq (sDrop (sCall F_require (gCn (aFro (eAnd (sCh2 pLe pLe (oOf (eLit (.int 1))) (oOf (sBi pLen (aCn (oVar 1) aNl))) (oOf (eLit c_MOST_WINDS))) (eAnd (sBi pAll (aCn (oOf (sLc (iSeq (eVar 1)) (gNm 5) tYes' (b_Land_init_X1 F_is_name) [5])) aNl)) (sCall F_are_different (gCn (aLen 1) gNl))))) gNl)))
 (sSeq (sDrop (sCall F_require (gCn (aFro (eAnd (sCh2 pLe pLe (oOf (eLit (.int 1))) (oOf (sBi pLen (aCn (oVar 2) aNl))) (oOf (eLit c_MOST_PLACES))) (sBi pAll (aCn (oOf (sLc (iSeq (eVar 2)) (gNm 6) tYes' (b_Land_init_X2 F_is_name) [6])) aNl)))) gNl)))
 (sSeq (sDrop (sCall F_require (gCn (aFro (sCall F_are_different (gCn (aLen 2) gNl))) gNl)))
 (sSeq (sFst [0] "winds" 0 (sK1 pTuple (oVar 1)))
 (sSeq (sFst [0] "places" 0 (sK1 pTuple (oVar 2)))
 (sSeq (sDrop (sCall F_require (gCn (aFro (sOp2 pLe (oOf (sBi pLen (aCn (oVar 3) aNl))) (oOf (eLit c_MOST_LINKS)))) gNl)))
 (sSeq (sFst [0] "links" 0 (sK1 pTuple (oOf (sLcE (iSeq (eVar 3)) (gNm 7) tYes' (b_Land_init_X3 F_Land_checked_link) [7]))))
 (sSeq (sDrop (sCall F_require (gCn (aFro (sCall F_are_different (gCn (aFro (sPrA 0 F_Land_link_names (aLen 0))) gNl))) gNl)))
 (sSeq (sDrop (sCall F_require (gCn (aFro (sOp2 pLe (oOf (sBi pLen (aCn (oVar 4) aNl))) (oOf (eLit c_MOST_PATHS)))) gNl)))
 (sSeq (sFst [0] "paths" 0 (sK1 pTuple (oOf (sLcE (iSeq (eVar 4)) (gNm 8) tYes' (b_Land_init_X4 F_Land_checked_path) [8]))))
 (sDrop (sCall F_require (gCn (aFro (sCall F_are_different (gCn (aFro (sLc (iSeq (sFld [0] "paths" (oVar 0))) (gNm 8) tYes' b_Land_init_X5 [8])) gNl))) gNl)))))))))))))
noncomputable def M_Land_init : Fn := unI (runI 9 0 (b_Land_init M_require M_is_name M_are_different M_Land_checked_link M_Land_link_names M_Land_checked_path))
theorem le_Land_init : FLeI M_Land_init (runI 9 0 (b_Land_init M_require M_is_name M_are_different M_Land_checked_link M_Land_link_names M_Land_checked_path)) := unI_le _
noncomputable def b__law_names_L1 : EvS :=
 (sSet 4 (sAdd (oVar 4) (oOf (sIx (oVar 3) (oOf (sOp2 pMod (oOf (sBi pInt (aCn (oOf (sAdd (oOf (sIx (oVar 0) (oOf (sAdd (oVar 1) (oOf (eLit (.int 2))))))) (oOf (sOp2 pMul (oVar 5) (oOf (sIx (oVar 0) (oOf (sAdd (oVar 1) (oOf (eLit (.int 3))))))))))) aNl))) (oOf (eLit (.int 36)))))))))
noncomputable def b__law_names_L2 : EvS :=
 (sSeq (sSet 9 (sIx (oOf (eLst (cCn (eLit (.str "")) (cCn (eLit (.str "q")) cNl)))) (oOf (sBi pInt (aCn (oOf (sOp2 pGe (oVar 5) (oOf (eLit (.int 36))))) aNl)))))
 (sDrop (sLapp false (lVar 8) (sAdd (oOf (sAdd (oOf (sAdd (oOf (sSl (oVar 4) pNo (pSo (eVar 6)))) (oOf (sIx (oVar 3) (oOf (sOp2 pMod (oOf (sBi pInt (aCn (oOf (sAdd (oVar 7) (oOf (sOp2 pMul (oOf (eLit (.int 5))) (oVar 5))))) aNl))) (oOf (eLit (.int 36))))))))) (oVar 9))) (oOf (sSl (oVar 4) (pSo (eVar 6)) pNo))))))
noncomputable def b__law_names : EvS :=
 (sSeq (sIfS (tOf (sOp2 pEq (oOf (sOp2 pMod (oOf (sBi pInt (aCn (oOf (sIx (oVar 0) (oOf (eLit (.int 1))))) aNl))) (oOf (eLit (.int 5))))) (oOf (eLit (.int 1))))) (sSet 1 (eLit (.int 2))) sNx)
 (sSeq (sSet 3 (eLit (.str "abcdefghijklmnopqrstuvwxyz0123456789")))
 (sSeq (sSet 4 (sIx (oVar 3) (oOf (sOp2 pMod (oOf (sBi pInt (aCn (oOf (sIx (oVar 0) (oVar 1))) aNl))) (oOf (eLit (.int 26)))))))
 (sSeq (sFor (iRng (sOp2 pMod (oOf (sBi pInt (aCn (oOf (sIx (oVar 0) (oOf (sAdd (oVar 1) (oOf (eLit (.int 1))))))) aNl))) (oOf (eLit (.int 10))))) (gNm 5) b__law_names_L1)
 (sSeq (sSet 6 (sAdd (oOf (eLit (.int 1))) (oOf (sOp2 pMod (oOf (sBi pInt (aCn (oOf (sIx (oVar 0) (oOf (sAdd (oVar 1) (oOf (eLit (.int 4))))))) aNl))) (oOf (sBi pLen (aCn (oVar 4) aNl)))))))
 (sSeq (sSet 7 (sBi pInt (aCn (oOf (sIx (oVar 0) (oOf (sAdd (oVar 1) (oOf (eLit (.int 5))))))) aNl)))
 (sSeq (sSet 8 (eLst cNl))
 (sSeq (sFor (iRng (eVar 2)) (gNm 5) b__law_names_L2)
 (sRet (eMove 8))))))))))
noncomputable def M__law_names : Fn := runF 10 (b__law_names)
theorem le__law_names : FLe M__law_names (runF 10 (b__law_names)) := le_rfl'
noncomputable def b__law_count : EvS :=
 (sSeq (sIfS (tOf (sOp2 pEq (oOf (sOp2 pMod (oOf (sBi pInt (aCn (oVar 0) aNl))) (oOf (eLit (.int 7))))) (oOf (eLit (.int 0))))) (sRet (eMove 1)) sNx)
 (sSeq (sIfS (tOf (sOp2 pEq (oOf (sOp2 pMod (oOf (sBi pInt (aCn (oVar 0) aNl))) (oOf (eLit (.int 7))))) (oOf (eLit (.int 1))))) (sRet (eMove 2)) sNx)
 (sRet (sAdd (oVar 1) (oOf (sOp2 pMod (oOf (sOp2 pDiv (oOf (sBi pInt (aCn (oVar 0) aNl))) (oOf (eLit (.int 7))))) (oOf (sAdd (oOf (sOp2 pSub (oOf (sBi pMin2 (aCn (oVar 2) (aCn (oOf (sAdd (oVar 1) (oOf (eLit (.int 9))))) aNl)))) (oVar 1))) (oOf (eLit (.int 1)))))))))))
noncomputable def M__law_count : Fn := runF 3 (b__law_count)
theorem le__law_count : FLe M__law_count (runF 3 (b__law_count)) := le_rfl'
noncomputable def b__law_pick : EvS :=
 (sRet (sAdd (oOf (sBi pInt (aCn (oOf (sIx (oVar 0) (oOf (sOp2 pMod (oVar 1) (oOf (sBi pLen (aCn (oVar 0) aNl))))))) aNl))) (oOf (sOp2 pMul (oOf (eLit (.int 31))) (oOf (sOp2 pDiv (oVar 1) (oOf (sBi pLen (aCn (oVar 0) aNl)))))))))
noncomputable def M__law_pick : Fn := runF 2 (b__law_pick)
theorem le__law_pick : FLe M__law_pick (runF 2 (b__law_pick)) := le_rfl'
noncomputable def b__law_times_L1 (F__law_pick : Fn) : EvS :=
 (sSeq (sSet 5 (sIx (oOf (eLst (cCn (eLit (.int 1)) (cCn (eLit (.int 1000)) (cCn (sAdd (oOf (eLit (.int 1))) (oOf (sOp2 pMod (oOf (sCall F__law_pick (gCn (aLen 0) (gCn (aFro (sAdd (oVar 1) (oVar 4))) gNl)))) (oOf (eLit (.int 1000)))))) (cCn (sAdd (oOf (eLit (.int 1))) (oOf (sOp2 pMod (oOf (sCall F__law_pick (gCn (aLen 0) (gCn (aFro (sAdd (oVar 1) (oVar 4))) gNl)))) (oOf (eLit (.int 30)))))) cNl)))))) (oOf (sOp2 pMod (oOf (sCall F__law_pick (gCn (aLen 0) (gCn (aFro (sAdd (oOf (sAdd (oVar 1) (oVar 4))) (oOf (eLit (.int 1))))) gNl)))) (oOf (eLit (.int 4)))))))
 (sSeq (sSet 6 (sIx (oOf (eLst (cCn (eVar 5) (cCn (eLit (.int 1000)) (cCn (sAdd (oVar 5) (oOf (sOp2 pMod (oOf (sCall F__law_pick (gCn (aLen 0) (gCn (aFro (sAdd (oOf (sAdd (oVar 1) (oVar 4))) (oOf (eLit (.int 2))))) gNl)))) (oOf (sOp2 pSub (oOf (eLit (.int 1001))) (oVar 5)))))) cNl))))) (oOf (sOp2 pMod (oOf (sCall F__law_pick (gCn (aLen 0) (gCn (aFro (sAdd (oOf (sAdd (oVar 1) (oVar 4))) (oOf (eLit (.int 3))))) gNl)))) (oOf (eLit (.int 3)))))))
 (sDrop (sLapp false (lVar 3) (sIx (oOf (eLst (cCn (eTup (cCn (eVar 5) (cCn (eVar 6) cNl))) (cCn (eTup (cCn (eVar 5) (cCn (eVar 6) cNl))) (cCn (eLit .non) cNl))))) (oOf (sOp2 pMod (oOf (sCall F__law_pick (gCn (aLen 0) (gCn (aFro (sAdd (oOf (sAdd (oVar 1) (oOf (sOp2 pMul (oOf (eLit (.int 2))) (oVar 4))))) (oOf (eLit (.int 4))))) gNl)))) (oOf (eLit (.int 3))))))))))
noncomputable def b__law_times (F__law_pick : Fn) : EvS :=
 (sSeq (sSet 3 (eLst cNl))
 (sSeq (sFor (iRng (eVar 2)) (gNm 4) (b__law_times_L1 F__law_pick))
 (sRet (eMove 3))))
noncomputable def M__law_times : Fn := runF 7 (b__law_times M__law_pick)
theorem le__law_times : FLe M__law_times (runF 7 (b__law_times M__law_pick)) := le_rfl'
noncomputable def b__law_paths_L1 : EvS :=
 (sDrop (sLapp false (lVar 4) (eTup (cCn (sIx (oVar 2) (oVar 5)) (cCn (eVar 6) cNl)))))
noncomputable def b__law_paths_L2 : EvS :=
 (sFor (iSeq (sSl (oVar 2) (pSo (sAdd (oVar 5) (oOf (eLit (.int 1))))) pNo)) (gNm 6) b__law_paths_L1)
noncomputable def b__law_paths_L3 (F__law_pick : Fn) : EvS :=
 (sSeq (sPat (sIx (oVar 4) (oVar 5)) (gAny (gC1 (gNm 9) (gC1 (gNm 6) gN0)) 2))
 (sSeq (sIfS (tOf (sOp2 pEq (oOf (sOp2 pMod (oOf (sCall F__law_pick (gCn (aLen 0) (gCn (aFro (sAdd (oOf (sAdd (oVar 1) (oOf (eLit (.int 1))))) (oVar 5))) gNl)))) (oOf (eLit (.int 2))))) (oOf (eLit (.int 1))))) (sPar 9 6 (cCn (eVar 6) (cCn (eVar 9) cNl))) sNx)
 (sDrop (sLapp false (lVar 8) (eTup (cCn (eVar 9) (cCn (eVar 6) (cCn (sIx (oOf (eLst (cCn (eLit (.int 1)) (cCn (eLit (.int 1000)) (cCn (sAdd (oOf (eLit (.int 1))) (oOf (sOp2 pMod (oOf (sCall F__law_pick (gCn (aLen 0) (gCn (aFro (sAdd (oOf (sAdd (oVar 1) (oOf (eLit (.int 2))))) (oVar 5))) gNl)))) (oOf (eLit (.int 1000)))))) cNl))))) (oOf (sOp2 pMod (oOf (sCall F__law_pick (gCn (aLen 0) (gCn (aFro (sAdd (oOf (sAdd (oVar 1) (oOf (eLit (.int 3))))) (oVar 5))) gNl)))) (oOf (eLit (.int 3)))))) cNl))))))))
noncomputable def b__law_paths (F__law_pick : Fn) : EvS :=
 (sSeq (sSet 4 (eLst cNl))
 (sSeq (sFor (iRng (sBi pLen (aCn (oVar 2) aNl))) (gNm 5) b__law_paths_L2)
 (sSeq (sSet 7 (sOp2 pMod (oOf (sCall F__law_pick (gCn (aLen 0) (gCn (aLen 1) gNl)))) (oOf (sBi pMax2 (aCn (oOf (eLit (.int 1))) (aCn (oOf (sBi pLen (aCn (oVar 4) aNl))) aNl))))))
 (sSeq (sSet 4 (sSl (oOf (sAdd (oOf (sSl (oVar 4) (pSo (eVar 7)) pNo)) (oOf (sSl (oVar 4) pNo (pSo (eVar 7)))))) pNo (pSo (eVar 3))))
 (sSeq (sSet 8 (eLst cNl))
 (sSeq (sFor (iRng (sBi pLen (aCn (oVar 4) aNl))) (gNm 5) (b__law_paths_L3 F__law_pick))
 (sRet (eMove 8))))))))
noncomputable def M__law_paths : Fn := runF 10 (b__law_paths M__law_pick)
theorem le__law_paths : FLe M__law_paths (runF 10 (b__law_paths M__law_pick)) := le_rfl'
noncomputable def b__law_parts_L1 (F__law_pick : Fn) (F__law_times : Fn) : EvS :=
 (sSeq (sSet 6 (sAdd (oOf (eLit (.int 40))) (oOf (sOp2 pMul (oOf (eLit (.int 11))) (oVar 5)))))
 (sSeq (sSet 7 (sOp2 pMod (oOf (sCall F__law_pick (gCn (aLen 0) (gCn (aFro (eVar 6)) gNl)))) (oOf (sBi pLen (aCn (oVar 2) aNl)))))
 (sSeq (sSet 8 (sOp2 pMod (oOf (sBi pInt (aCn (oOf (sAdd (oOf (sAdd (oVar 7) (oOf (eLit (.int 1))))) (oOf (sOp2 pMod (oOf (sCall F__law_pick (gCn (aLen 0) (gCn (aFro (sAdd (oVar 6) (oOf (eLit (.int 1))))) gNl)))) (oOf (sOp2 pSub (oOf (sBi pLen (aCn (oVar 2) aNl))) (oOf (eLit (.int 1))))))))) aNl))) (oOf (sBi pLen (aCn (oVar 2) aNl)))))
 (sDrop (sLapp false (lVar 4) (eTup (cCn (sIx (oVar 3) (oVar 5)) (cCn (sIx (oVar 2) (oVar 7)) (cCn (sIx (oVar 2) (oVar 8)) (cCn (sCall F__law_times (gCn (aLen 0) (gCn (aFro (sAdd (oVar 6) (oOf (eLit (.int 2))))) (gCn (aFro (sBi pLen (aCn (oVar 1) aNl))) gNl)))) cNl))))))))))
noncomputable def b__law_parts (F__law_names : Fn) (F__law_count : Fn) (F__law_pick : Fn) (F__law_times : Fn) (F__law_paths : Fn) : EvS :=
 (sSeq (sSet 1 (sCall F__law_names (gCn (aLen 0) (gCn (aFro (eLit (.int 8))) (gCn (aFro (sAdd (oOf (eLit (.int 1))) (oOf (sOp2 pMod (oOf (sBi pInt (aCn (oOf (sIx (oVar 0) (oOf (eLit (.int 14))))) aNl))) (oOf (eLit (.int 4))))))) gNl)))))
 (sSeq (sSet 2 (sCall F__law_names (gCn (aLen 0) (gCn (aFro (eLit (.int 15))) (gCn (aFro (sCall F__law_count (gCn (aFro (sIx (oVar 0) (oOf (eLit (.int 21))))) (gCn (aFro (eLit (.int 1))) (gCn (aFro (eLit (.int 24))) gNl))))) gNl)))))
 (sSeq (sSet 3 (sCall F__law_names (gCn (aLen 0) (gCn (aFro (eLit (.int 22))) (gCn (aFro (sOp2 pMul (oOf (sCall F__law_count (gCn (aFro (sIx (oVar 0) (oOf (eLit (.int 28))))) (gCn (aFro (eLit (.int 0))) (gCn (aFro (eLit (.int 60))) gNl))))) (oOf (sBi pInt (aCn (oOf (sOp2 pGt (oOf (sBi pLen (aCn (oVar 2) aNl))) (oOf (eLit (.int 1))))) aNl))))) gNl)))))
 (sSeq (sSet 4 (eLst cNl))
 (sSeq (sFor (iRng (sBi pLen (aCn (oVar 3) aNl))) (gNm 5) (b__law_parts_L1 F__law_pick F__law_times))
 (sRet (eLst (cCn (eVar 1) (cCn (eVar 2) (cCn (eVar 4) (cCn (sCall F__law_paths (gCn (aLen 0) (gCn (aFro (eLit (.int 30))) (gCn (aFro (eVar 2)) (gCn (aFro (sCall F__law_count (gCn (aFro (sIx (oVar 0) (oOf (eLit (.int 29))))) (gCn (aFro (eLit (.int 0))) (gCn (aFro (eLit (.int 60))) gNl))))) gNl))))) cNl)))))))))))
noncomputable def M__law_parts : Fn := runF 9 (b__law_parts M__law_names M__law_count M__law_pick M__law_times M__law_paths)
theorem le__law_parts : FLe M__law_parts (runF 9 (b__law_parts M__law_names M__law_count M__law_pick M__law_times M__law_paths)) := le_rfl'
noncomputable def b__law_frozen_L1 : EvS :=
 (sSeq (sIfS (tOf (sOp2 pIsN (oVar 7) (oOf (eLit .non)))) (sSet 7 (sK1 pTuple (oVar 7))) sNx)
 (sDrop (sLapp false (lVar 6) (eVar 7))))
noncomputable def b__law_frozen_L2 : EvS :=
 (sSeq (sSet 6 (eLst cNl))
 (sSeq (sFor (iSeq (eVar 5)) (gNm 7) b__law_frozen_L1)
 (sDrop (sLapp false (lVar 1) (eTup (cCn (eVar 2) (cCn (eVar 3) (cCn (eVar 4) (cCn (sK1 pTuple (oVar 6)) cNl)))))))))
noncomputable def b__law_frozen_X3 : EvE :=
 (sK1 pTuple (oVar 8))
noncomputable def b__law_frozen : EvS :=
 (sSeq (sSet 1 (eLst cNl))
 (sSeq (sFor (iSeq (sIx (oVar 0) (oOf (eLit (.int 2))))) (gAny (gC1 (gNm 2) (gC1 (gNm 3) (gC1 (gNm 4) (gC1 (gNm 5) gN0)))) 4) b__law_frozen_L2)
 (sRet (eTup (cCn (sK1 pTuple (oOf (sIx (oVar 0) (oOf (eLit (.int 0)))))) (cCn (sK1 pTuple (oOf (sIx (oVar 0) (oOf (eLit (.int 1)))))) (cCn (sK1 pTuple (oVar 1)) (cCn (sK1 pTuple (oOf (sLc (iSeq (sIx (oVar 0) (oOf (eLit (.int 3))))) (gNm 8) tYes' b__law_frozen_X3 [8]))) cNl))))))))
noncomputable def M__law_frozen : Fn := runF 9 (b__law_frozen)
theorem le__law_frozen : FLe M__law_frozen (runF 9 (b__law_frozen)) := le_rfl'
def aR_Land_winds_places_links_paths : List Rv → List Rv := id
noncomputable def b__law_made (F_Land_init : Fn) : EvS :=
 (sRet (sMk aR_Land_winds_places_links_paths F_Land_init (gCn (aFro (sK1 pList (oOf (sIx (oVar 0) (oOf (eLit (.int 0))))))) (gCn (aFro (sK1 pList (oOf (sIx (oVar 0) (oOf (eLit (.int 1))))))) (gCn (aFro (sK1 pList (oOf (sIx (oVar 0) (oOf (eLit (.int 2))))))) (gCn (aFro (sK1 pList (oOf (sIx (oVar 0) (oOf (eLit (.int 3))))))) gNl))))))
noncomputable def M__law_made : Fn := runF 1 (b__law_made M_Land_init)
theorem le__law_made : FLe M__law_made (runF 1 (b__law_made M_Land_init)) := le_rfl'
noncomputable def b__law_same : EvS :=
 (sRet (sOp2 pEq (oOf (eTup (cCn (sFld [0] "winds" (oVar 0)) (cCn (sFld [0, 2, 5] "places" (oVar 0)) (cCn (sFld [0] "links" (oVar 0)) (cCn (sFld [0] "paths" (oVar 0)) cNl)))))) (oVar 1)))
noncomputable def M__law_same : Fn := runF 2 (b__law_same)
theorem le__law_same : FLe M__law_same (runF 2 (b__law_same)) := le_rfl'
noncomputable def b__law_lines_L1 : EvS :=
 (sIfS (tOf (sOp2 pIs (oVar 7) (oOf (eLit .non)))) (sSet 6 (sAdd (oVar 6) (oOf (eLit (.str " -"))))) (sSet 6 (sAdd (oOf (sAdd (oOf (sAdd (oOf (sAdd (oVar 6) (oOf (eLit (.str " "))))) (oOf (sBi pStr (aCn (oOf (sIx (oVar 7) (oOf (eLit (.int 0))))) aNl))))) (oOf (eLit (.str "-"))))) (oOf (sBi pStr (aCn (oOf (sIx (oVar 7) (oOf (eLit (.int 1))))) aNl))))))
noncomputable def b__law_lines_L2 : EvS :=
 (sSeq (sSet 6 (sAdd (oOf (sAdd (oOf (sAdd (oOf (sAdd (oOf (sAdd (oOf (eLit (.str "link "))) (oVar 2))) (oOf (eLit (.str " "))))) (oVar 3))) (oOf (eLit (.str " "))))) (oVar 4)))
 (sSeq (sFor (iSeq (eVar 5)) (gNm 7) b__law_lines_L1)
 (sDrop (sLapp false (lVar 1) (eVar 6)))))
noncomputable def b__law_lines_L3 : EvS :=
 (sDrop (sLapp false (lVar 1) (sAdd (oOf (sAdd (oOf (sAdd (oOf (sAdd (oOf (sAdd (oOf (eLit (.str "path "))) (oVar 3))) (oOf (eLit (.str " "))))) (oVar 4))) (oOf (eLit (.str " "))))) (oOf (sBi pStr (aCn (oVar 8) aNl))))))
noncomputable def b__law_lines : EvS :=
 (sSeq (sSet 1 (eLst (cCn (sAdd (oOf (eLit (.str "winds "))) (oOf (sJoin (oOf (eLit (.str " "))) (oOf (sIx (oVar 0) (oOf (eLit (.int 0)))))))) (cCn (sAdd (oOf (eLit (.str "places "))) (oOf (sJoin (oOf (eLit (.str " "))) (oOf (sIx (oVar 0) (oOf (eLit (.int 1)))))))) cNl))))
 (sSeq (sIfS (tOf (sOp2 pEq (oOf (sBi pLen (aCn (oOf (sIx (oVar 0) (oOf (eLit (.int 0))))) aNl))) (oOf (eLit (.int 0))))) (sLset false (eLit (.str "winds")) (lVar 1) (oOf (eLit (.int 0)))) sNx)
 (sSeq (sIfS (tOf (sOp2 pEq (oOf (sBi pLen (aCn (oOf (sIx (oVar 0) (oOf (eLit (.int 1))))) aNl))) (oOf (eLit (.int 0))))) (sLset false (eLit (.str "places")) (lVar 1) (oOf (eLit (.int 1)))) sNx)
 (sSeq (sFor (iSeq (sIx (oVar 0) (oOf (eLit (.int 2))))) (gAny (gC1 (gNm 2) (gC1 (gNm 3) (gC1 (gNm 4) (gC1 (gNm 5) gN0)))) 4) b__law_lines_L2)
 (sSeq (sFor (iSeq (sIx (oVar 0) (oOf (eLit (.int 3))))) (gAny (gC1 (gNm 3) (gC1 (gNm 4) (gC1 (gNm 8) gN0))) 3) b__law_lines_L3)
 (sRet (eMove 1)))))))
noncomputable def M__law_lines : Fn := runF 9 (b__law_lines)
theorem le__law_lines : FLe M__law_lines (runF 9 (b__law_lines)) := le_rfl'
noncomputable def b_times_words_L1 : EvS :=
 (sDrop (sLapp false (lVar 1) (sIf (tOf (sOp2 pIs (oVar 2) (oOf (eLit .non)))) (eLit c_SHUT) (joinF [(eFmt (sIx (oVar 2) (oOf (eLit (.int 0))))), (eLit (.str "-")), (eFmt (sIx (oVar 2) (oOf (eLit (.int 1)))))] Str.empty))))
noncomputable def b_times_words : EvS :=
 (sSeq (sSet 1 (eLst cNl))
 (sSeq (sFor (iSeq (eVar 0)) (gNm 2) b_times_words_L1)
 (sRet (eMove 1))))
noncomputable def M_times_words : Fn := runF 3 (b_times_words)
theorem le_times_words : FLe M_times_words (runF 3 (b_times_words)) := le_rfl'
noncomputable def b_format_land_L1 (F_times_words : Fn) : EvS :=
 (sDrop (sLapp false (lVar 1) (eLst (cCn (eLit (.str "link")) (cCn (eVar 2) (cCn (eVar 3) (cCn (eVar 4) (cSt (sCall F_times_words (gCn (aFro (eVar 5)) gNl)) cNl))))))))
noncomputable def b_format_land_L2 : EvS :=
 (sDrop (sLapp false (lVar 1) (eLst (cCn (eLit (.str "path")) (cCn (eVar 3) (cCn (eVar 4) (cCn (sBi pStr (aCn (oVar 6) aNl)) cNl)))))))
noncomputable def b_format_land_X3 : EvE :=
 (sJoin (oOf (eLit (.str " "))) (oVar 7))
noncomputable def b_format_land (F_times_words : Fn) : EvS :=
 (sSeq (sSet 1 (eLst (cCn (eLst (cCn (eLit (.str "winds")) (cSt (sFld [0] "winds" (oVar 0)) cNl))) (cCn (eLst (cCn (eLit (.str "places")) (cSt (sFld [0, 2, 5] "places" (oVar 0)) cNl))) cNl))))
 (sSeq (sFor (iSeq (sFld [0] "links" (oVar 0))) (gAny (gC1 (gNm 2) (gC1 (gNm 3) (gC1 (gNm 4) (gC1 (gNm 5) gN0)))) 4) (b_format_land_L1 F_times_words))
 (sSeq (sFor (iSeq (sFld [0] "paths" (oVar 0))) (gAny (gC1 (gNm 3) (gC1 (gNm 4) (gC1 (gNm 6) gN0))) 3) b_format_land_L2)
 (sRet (sJoin (oOf (eLit (.str "\n"))) (oOf (sLc (iSeq (eVar 1)) (gNm 7) tYes' b_format_land_X3 [7])))))))
noncomputable def M_format_land : Fn := runF 8 (b_format_land M_times_words)
theorem le_format_land : FLe M_format_land (runF 8 (b_format_land M_times_words)) := le_rfl'
noncomputable def b_Land_link_L1 : EvS :=
 (sIfS (tOf (sOp2 pEq (oOf (sIx (oVar 2) (oOf (eLit (.int 0))))) (oVar 1))) (sRet (eMove 2)) sNx)
noncomputable def b_Land_link : EvS :=
 (sSeq (sFor (iSeq (sFld [0] "links" (oVar 0))) (gNm 2) b_Land_link_L1)
 (fun _ => .bad : EvS))
noncomputable def M_Land_link : Fn := runF 3 (b_Land_link)
theorem le_Land_link : FLe M_Land_link (runF 3 (b_Land_link)) := le_rfl'
noncomputable def b_Land_with_parts (F_Land_init : Fn) : EvS :=
 (sRet (sMk aR_Land_winds_places_links_paths F_Land_init (gCn (aFro (sFld [0] "winds" (oVar 0))) (gCn (aFro (sIf (tOf (sOp2 pIs (oVar 1) (oOf (eLit .non)))) (sFld [0, 2, 5] "places" (oVar 0)) (eVar 1))) (gCn (aFro (sIf (tOf (sOp2 pIs (oVar 2) (oOf (eLit .non)))) (sFld [0] "links" (oVar 0)) (eVar 2))) (gCn (aFro (sIf (tOf (sOp2 pIs (oVar 3) (oOf (eLit .non)))) (sFld [0] "paths" (oVar 0)) (eVar 3))) gNl))))))
noncomputable def M_Land_with_parts : Fn := runF 4 (b_Land_with_parts M_Land_init)
theorem le_Land_with_parts : FLe M_Land_with_parts (runF 4 (b_Land_with_parts M_Land_init)) := le_rfl'
def aR_Land_with_parts_links : List Rv → List Rv := fun rs => match rs with | [r0] => [(.fro, .non), r0, (.fro, .non)] | _ => []
noncomputable def b_Land_without_link_T1 : EvT :=
 (tOf (sOp2 pNe (oOf (sIx (oVar 2) (oOf (eLit (.int 0))))) (oVar 1)))
noncomputable def b_Land_without_link_X2 : EvE :=
 (eVar 2)
noncomputable def b_Land_without_link (F_Land_link : Fn) (F_Land_with_parts : Fn) : EvS :=
 (sSeq (sDrop (sMeA 0 F_Land_link (aLen 0) (gCn (aLen 1) gNl)))
 (sRet (sMeK 0 aR_Land_with_parts_links F_Land_with_parts (aLen 0) (gCn (aFro (sLc (iSeq (sFld [0] "links" (oVar 0))) (gNm 2) b_Land_without_link_T1 b_Land_without_link_X2 [2])) gNl))))
noncomputable def M_Land_without_link : Fn := runF 3 (b_Land_without_link M_Land_link M_Land_with_parts)
theorem le_Land_without_link : FLe M_Land_without_link (runF 3 (b_Land_without_link M_Land_link M_Land_with_parts)) := le_rfl'
noncomputable def b_require_form : EvS :=
 (sIfS (tNot' (tTru (oVar 0))) (fun _ => .bad : EvS) sNx)
noncomputable def M_require_form : Fn := runF 2 (b_require_form)
theorem le_require_form : FLe M_require_form (runF 2 (b_require_form)) := le_rfl'
noncomputable def b_read_names_X1 (F_is_name : Fn) : EvE :=
 (sCall F_is_name (gCn (aFro (eVar 3)) gNl))
noncomputable def b_read_names (F_require_form : Fn) (F_is_name : Fn) : EvS :=
 (sSeq (sDrop (sCall F_require_form (gCn (aFro (eAnd (sOp2 pLt (oVar 1) (oOf (sBi pLen (aCn (oVar 0) aNl)))) (sOp2 pEq (oOf (sIx (oOf (sIx (oVar 0) (oVar 1))) (oOf (eLit (.int 0))))) (oVar 2)))) (gCn (aFro (sAdd (oVar 1) (oOf (eLit (.int 1))))) gNl))))
 (sSeq (sDrop (sCall F_require_form (gCn (aFro (sBi pAll (aCn (oOf (sLc (iSeq (sSl (oOf (sIx (oVar 0) (oVar 1))) (pSo (eLit (.int 1))) pNo)) (gNm 3) tYes' (b_read_names_X1 F_is_name) [3])) aNl))) (gCn (aFro (sAdd (oVar 1) (oOf (eLit (.int 1))))) gNl))))
 (sRet (sSl (oOf (sIx (oVar 0) (oVar 1))) (pSo (eLit (.int 1))) pNo))))
noncomputable def M_read_names : Fn := runF 4 (b_read_names M_require_form M_is_name)
theorem le_read_names : FLe M_read_names (runF 4 (b_read_names M_require_form M_is_name)) := le_rfl'
noncomputable def b_is_number_X1 : EvE :=
 (sOp2 pIn (oVar 1) (oOf (eLit c_DIGITS)))
noncomputable def b_is_number : EvS :=
 (sSeq (sIfS (tOr' (tNot' (tOf (sCh2 pLe pLe (oOf (eLit (.int 1))) (oOf (sBi pLen (aCn (oVar 0) aNl))) (oOf (eLit c_MOST_DIGITS))))) (tNot' (tOf (sBi pAll (aCn (oOf (sLc (iSeq (eVar 0)) (gNm 1) tYes' b_is_number_X1 [1])) aNl))))) (sRet (eLit (.bl false))) sNx)
 (sRet (eOr (sOp2 pEq (oVar 0) (oOf (eLit (.str "0")))) (sOp2 pNe (oOf (sIx (oVar 0) (oOf (eLit (.int 0))))) (oOf (eLit (.str "0")))))))
noncomputable def M_is_number : Fn := runF 2 (b_is_number)
theorem le_is_number : FLe M_is_number (runF 2 (b_is_number)) := le_rfl'
noncomputable def b_read_pair_X1 (F_is_number : Fn) : EvE :=
 (sCall F_is_number (gCn (aFro (eVar 3)) gNl))
noncomputable def b_read_pair (F_require_form : Fn) (F_is_number : Fn) : EvS :=
 (sSeq (sIfS (tOf (sOp2 pEq (oVar 0) (oOf (eLit c_SHUT)))) (sRet (eLit .non)) sNx)
 (sSeq (sSet 2 (sSplit (oVar 0) (oOf (eLit (.str "-")))))
 (sSeq (sDrop (sCall F_require_form (gCn (aFro (eAnd (sOp2 pEq (oOf (sBi pLen (aCn (oVar 2) aNl))) (oOf (eLit (.int 2)))) (sBi pAll (aCn (oOf (sLc (iSeq (eVar 2)) (gNm 3) tYes' (b_read_pair_X1 F_is_number) [3])) aNl)))) (gCn (aLen 1) gNl))))
 (sRet (eTup (cCn (sBi pInt (aCn (oOf (sIx (oVar 2) (oOf (eLit (.int 0))))) aNl)) (cCn (sBi pInt (aCn (oOf (sIx (oVar 2) (oOf (eLit (.int 1))))) aNl)) cNl)))))))
noncomputable def M_read_pair : Fn := runF 4 (b_read_pair M_require_form M_is_number)
theorem le_read_pair : FLe M_read_pair (runF 4 (b_read_pair M_require_form M_is_number)) := le_rfl'
noncomputable def b_read_link_X1 (F_is_name : Fn) : EvE :=
 (sCall F_is_name (gCn (aFro (eVar 2)) gNl))
noncomputable def b_read_link_X2 (F_read_pair : Fn) : EvE :=
 (sCall F_read_pair (gCn (aFro (eVar 2)) (gCn (aLen 1) gNl)))
noncomputable def b_read_link (F_require_form : Fn) (F_is_name : Fn) (F_read_pair : Fn) : EvS :=
 (sSeq (sDrop (sCall F_require_form (gCn (aFro (eAnd (sOp2 pGe (oOf (sBi pLen (aCn (oVar 0) aNl))) (oOf (eLit (.int 4)))) (sBi pAll (aCn (oOf (sLc (iSeq (sSl (oVar 0) (pSo (eLit (.int 1))) (pSo (eLit (.int 4))))) (gNm 2) tYes' (b_read_link_X1 F_is_name) [2])) aNl)))) (gCn (aLen 1) gNl))))
 (sRet (eTup (cCn (sIx (oVar 0) (oOf (eLit (.int 1)))) (cCn (sIx (oVar 0) (oOf (eLit (.int 2)))) (cCn (sIx (oVar 0) (oOf (eLit (.int 3)))) (cCn (sLcE (iSeq (sSl (oVar 0) (pSo (eLit (.int 4))) pNo)) (gNm 2) tYes' (b_read_link_X2 F_read_pair) [2]) cNl)))))))
noncomputable def M_read_link : Fn := runF 3 (b_read_link M_require_form M_is_name M_read_pair)
theorem le_read_link : FLe M_read_link (runF 3 (b_read_link M_require_form M_is_name M_read_pair)) := le_rfl'
noncomputable def b_read_path (F_require_form : Fn) (F_is_name : Fn) (F_is_number : Fn) : EvS :=
 (sSeq (sDrop (sCall F_require_form (gCn (aFro (eAnd (sOp2 pEq (oOf (sBi pLen (aCn (oVar 0) aNl))) (oOf (eLit (.int 4)))) (sOp2 pEq (oOf (sIx (oVar 0) (oOf (eLit (.int 0))))) (oOf (eLit (.str "path")))))) (gCn (aLen 1) gNl))))
 (sSeq (sDrop (sCall F_require_form (gCn (aFro (eAnd (sCall F_is_name (gCn (aFro (sIx (oVar 0) (oOf (eLit (.int 1))))) gNl)) (eAnd (sCall F_is_name (gCn (aFro (sIx (oVar 0) (oOf (eLit (.int 2))))) gNl)) (sCall F_is_number (gCn (aFro (sIx (oVar 0) (oOf (eLit (.int 3))))) gNl))))) (gCn (aLen 1) gNl))))
 (sRet (eTup (cCn (sIx (oVar 0) (oOf (eLit (.int 1)))) (cCn (sIx (oVar 0) (oOf (eLit (.int 2)))) (cCn (sBi pInt (aCn (oOf (sIx (oVar 0) (oOf (eLit (.int 3))))) aNl)) cNl)))))))
noncomputable def M_read_path : Fn := runF 2 (b_read_path M_require_form M_is_name M_is_number)
theorem le_read_path : FLe M_read_path (runF 2 (b_read_path M_require_form M_is_name M_is_number)) := le_rfl'
noncomputable def b_parse_land_X1 : EvE :=
 (sSplit (oVar 6) (oOf (eLit (.str " "))))
noncomputable def b_parse_land_L2 (F_read_link : Fn) (F_read_path : Fn) : EvS :=
 (sIfS (tAnd' (tOf (sOp2 pEq (oOf (sIx (oVar 7) (oOf (eLit (.int 0))))) (oOf (eLit (.str "link"))))) (tOf (sOp2 pEq (oOf (sBi pLen (aCn (oVar 5) aNl))) (oOf (eLit (.int 0)))))) (sDrop (sLapp false (lVar 4) (sCall F_read_link (gCn (aFro (eVar 7)) (gCn (aFro (eVar 6)) gNl))))) (sDrop (sLapp false (lVar 5) (sCall F_read_path (gCn (aFro (eVar 7)) (gCn (aFro (eVar 6)) gNl))))))
noncomputable def b_parse_land (F_read_names : Fn) (F_read_link : Fn) (F_read_path : Fn) (F_Land_init : Fn) : EvS :=
 (sSeq (sSet 1 (sLc (iSeq (sSplit (oVar 0) (oOf (eLit (.str "\n"))))) (gNm 6) tYes' b_parse_land_X1 [6]))
 (sSeq (sSet 2 (sCall F_read_names (gCn (aFro (eVar 1)) (gCn (aFro (eLit (.int 0))) (gCn (aFro (eLit (.str "winds"))) gNl)))))
 (sSeq (sSet 3 (sCall F_read_names (gCn (aFro (eVar 1)) (gCn (aFro (eLit (.int 1))) (gCn (aFro (eLit (.str "places"))) gNl)))))
 (sSeq (sSet 4 (eLst cNl))
 (sSeq (sSet 5 (eLst cNl))
 (sSeq (sFor (iEnK (sSl (oVar 1) (pSo (eLit (.int 2))) pNo) 3) (gAny (gC1 (gNm 6) (gC1 (gNm 7) gN0)) 2) (b_parse_land_L2 F_read_link F_read_path))
 (sRet (sMk aR_Land_winds_places_links_paths F_Land_init (gCn (aFro (eVar 2)) (gCn (aFro (eVar 3)) (gCn (aFro (eVar 4)) (gCn (aFro (eVar 5)) gNl))))))))))))
noncomputable def M_parse_land : Fn := runF 8 (b_parse_land M_read_names M_read_link M_read_path M_Land_init)
theorem le_parse_land : FLe M_parse_land (runF 8 (b_parse_land M_read_names M_read_link M_read_path M_Land_init)) := le_rfl'
noncomputable def b_Land_check_place : EvS :=
 (sIfS (tOf (sOp2 pNotIn (oVar 1) (oOf (sFld [0, 2, 5] "places" (oVar 0))))) (fun _ => .bad : EvS) sNx)
noncomputable def M_Land_check_place : Fn := runF 2 (b_Land_check_place)
theorem le_Land_check_place : FLe M_Land_check_place (runF 2 (b_Land_check_place)) := le_rfl'
noncomputable def b_Land_walks_from_L1 : EvS :=
 (sIfS (tOf (sOp2 pEq (oVar 1) (oVar 3))) (sDrop (sLapp false (lVar 2) (eTup (cCn (eVar 4) (cCn (eVar 5) cNl))))) (sIfS (tOf (sOp2 pEq (oVar 1) (oVar 4))) (sDrop (sLapp false (lVar 2) (eTup (cCn (eVar 3) (cCn (eVar 5) cNl))))) sNx))
noncomputable def b_Land_walks_from (F_Land_check_place : Fn) : EvS :=
 (sSeq (sDrop (sMeA 0 F_Land_check_place (aLen 0) (gCn (aLen 1) gNl)))
 (sSeq (sSet 2 (eLst cNl))
 (sSeq (sFor (iSeq (sFld [0] "paths" (oVar 0))) (gAny (gC1 (gNm 3) (gC1 (gNm 4) (gC1 (gNm 5) gN0))) 3) b_Land_walks_from_L1)
 (sRet (eMove 2)))))
noncomputable def M_Land_walks_from : Fn := runF 6 (b_Land_walks_from M_Land_check_place)
theorem le_Land_walks_from : FLe M_Land_walks_from (runF 6 (b_Land_walks_from M_Land_check_place)) := le_rfl'
noncomputable def b_Land_minutes_between_L1 : EvS :=
 (sIfS (tOf (sOp2 pEq (oVar 3) (oVar 2))) (sRet (eMove 4)) sNx)
noncomputable def b_Land_minutes_between (F_Land_check_place : Fn) (F_Land_walks_from : Fn) : EvS :=
 (sSeq (sDrop (sMeA 0 F_Land_check_place (aLen 0) (gCn (aLen 1) gNl)))
 (sSeq (sDrop (sMeA 0 F_Land_check_place (aLen 0) (gCn (aLen 2) gNl)))
 (sSeq (sFor (iSeq (sMeA 0 F_Land_walks_from (aLen 0) (gCn (aLen 1) gNl))) (gAny (gC1 (gNm 3) (gC1 (gNm 4) gN0)) 2) b_Land_minutes_between_L1)
 (sRet (eLit .non)))))
noncomputable def M_Land_minutes_between : Fn := runF 5 (b_Land_minutes_between M_Land_check_place M_Land_walks_from)
theorem le_Land_minutes_between : FLe M_Land_minutes_between (runF 5 (b_Land_minutes_between M_Land_check_place M_Land_walks_from)) := le_rfl'
noncomputable def b_law_k05_L1 (F_Land_link : Fn) : EvS :=
 (sIfS (tOf (sOp2 pNe (oOf (sMeA 0 F_Land_link (aFro (eVar 6)) (gCn (aFro (sIx (oVar 8) (oOf (eLit (.int 0))))) gNl))) (oVar 8))) (sRet (eLit (.bl false))) sNx)
noncomputable def b_law_k05_L2 (F_Land_minutes_between : Fn) : EvS :=
 (sIfS (tOf (sOp2 pNe (oOf (sMeA 0 F_Land_minutes_between (aFro (eVar 6)) (gCn (aFro (eVar 10)) (gCn (aFro (eVar 9)) gNl)))) (oVar 11))) (sRet (eLit (.bl false))) sNx)
noncomputable def b_law_k05 (F__law_numbers : Fn) (F__law_parts : Fn) (F__law_frozen : Fn) (F__law_made : Fn) (F__law_lines : Fn) (F_parse_land : Fn) (F__law_same : Fn) (F_Land_link : Fn) (F_Land_minutes_between : Fn) (F_format_land : Fn) : EvS :=
 (sSeq (sSet 1 (sCall F__law_numbers (gCn (aLen 0) (gCn (aFro (eLit (.int 150))) gNl))))
 (sSeq (sSet 2 (sCall F__law_parts (gCn (aFro (eVar 1)) gNl)))
 (sSeq (sSet 3 (sCall F__law_frozen (gCn (aFro (eVar 2)) gNl)))
 (sSeq (sSet 4 (sCall F__law_made (gCn (aFro (eVar 2)) gNl)))
 (sSeq (sSet 5 (sJoin (oOf (eLit (.str "\n"))) (oOf (sCall F__law_lines (gCn (aFro (eVar 2)) gNl)))))
 (sSeq (sSet 6 (sCall F_parse_land (gCn (aFro (eVar 5)) gNl)))
 (sSeq (sSet 7 (sCall F_parse_land (gCn (aFro (eLit (.str "winds a\nplaces b"))) gNl)))
 (sSeq (sIfS (tOr' (tNot' (tOf (sCall F__law_same (gCn (aFro (eVar 6)) (gCn (aFro (eVar 3)) gNl))))) (tNot' (tOf (sCall F__law_same (gCn (aFro (eVar 7)) (gCn (aFro (eTup (cCn (eTup (cCn (eLit (.str "a")) cNl)) (cCn (eTup (cCn (eLit (.str "b")) cNl)) (cCn (eTup cNl) (cCn (eTup cNl) cNl)))))) gNl)))))) (sRet (eLit (.bl false))) sNx)
 (sSeq (sFor (iSeq (sIx (oVar 3) (oOf (eLit (.int 2))))) (gNm 8) (b_law_k05_L1 F_Land_link))
 (sSeq (sFor (iSeq (sIx (oVar 3) (oOf (eLit (.int 3))))) (gAny (gC1 (gNm 9) (gC1 (gNm 10) (gC1 (gNm 11) gN0))) 3) (b_law_k05_L2 F_Land_minutes_between))
 (sRet (eAnd (sOp2 pEq (oOf (sCall F_format_land (gCn (aFro (eVar 6)) gNl))) (oVar 5)) (eAnd (sOp2 pEq (oOf (sCall F_format_land (gCn (aFro (eVar 4)) gNl))) (oVar 5)) (sCall F__law_same (gCn (aFro (sCall F_parse_land (gCn (aFro (eVar 5)) gNl))) (gCn (aFro (eVar 3)) gNl))))))))))))))))
end S
set_option autoImplicit false
set_option Elab.async false
set_option linter.all false
set_option autoImplicit false
/-! V0: the semantics as rows for simp; loops by invariants. -/
namespace R
open PySem PySem.Spec PyProof.Rows L2
section
@[simp] theorem eVar_def (i : Nat) (ε : En) : eVar i ε = (fun ε => match (ε[i]?).join with
  | some (.fro, d) => .ok (.fro, d) ε
  | some (s, d) => if s.sol = true then .ok (.fro, d) (ε.set i (some (.fro, d))) else .bad
  | none => .bad) ε := id rfl
@[simp] theorem oVar_def (i : Nat) (ε : En) : oVar i ε = (fun ε => match (ε[i]?).join with
  | some _ => .ok (.slot i) ε
  | none => .bad) ε := id rfl
@[simp] theorem eMove_def (i : Nat) (ε : En) : eMove i ε = (fun ε => match (ε[i]?).join with
  | some (.fro, d) => .ok (.fro, d) ε
  | some r => .ok r (ε.set i none)
  | none => .bad) ε := id rfl
@[simp] theorem eLit_def (d : D) (ε : En) : eLit d ε = (fun ε => .ok (.fro, d) ε) ε := id rfl
@[simp] theorem oOf_def (f : EvE) (ε : En) : oOf f ε = (fun ε => (f ε).bind fun r ε => .ok (.tmp r) ε) ε := id rfl
@[simp] theorem sOp2_def (p : D → D → Option D) (f g : EvO) (ε : En) : sOp2 p f g ε = (fun ε => (f ε).bind fun o1 ε => (g ε).bind fun o2 ε => opt (res o1 ε) fun r1 => opt (res o2 ε) fun r2 => opt (p r1.2 r2.2) fun d => .ok (.fro, d) ε) ε := id rfl
@[simp] theorem tOf_def (f : EvE) (ε : En) : tOf f ε = (fun ε => (f ε).bind fun r ε => opt (bOf r.2) fun b => .ok b ε) ε := id rfl
@[simp] theorem tTru_def (f : EvO) (ε : En) : tTru f ε = (fun ε => (f ε).bind fun o ε => opt (res o ε) fun r => opt (truR r) fun b => .ok b ε) ε := id rfl
@[simp] theorem tAnd__def (f g : EvT) (ε : En) : tAnd' f g ε = (fun ε => (f ε).bind fun b ε => if b = true then g ε else .ok false ε) ε := id rfl
@[simp] theorem tOr__def (f g : EvT) (ε : En) : tOr' f g ε = (fun ε => (f ε).bind fun b ε => if b = true then .ok true ε else g ε) ε := id rfl
@[simp] theorem tNot__def (f : EvT) (ε : En) : tNot' f ε = (fun ε => (f ε).bind fun b ε => .ok (!b) ε) ε := id rfl
@[simp] theorem sIf_def (t : EvT) (f g : EvE) (ε : En) : sIf t f g ε = (fun ε => (t ε).bind fun b ε => if b = true then f ε else g ε) ε := id rfl
@[simp] theorem eAnd_def (f g : EvE) (ε : En) : eAnd f g ε = (fun ε => (f ε).bind fun r ε => opt (bOf r.2) fun b => if b = true then g ε else .ok (.fro, .bl false) ε) ε := id rfl
@[simp] theorem eOr_def (f g : EvE) (ε : En) : eOr f g ε = (fun ε => (f ε).bind fun r ε => opt (bOf r.2) fun b => if b = true then .ok (.fro, .bl true) ε else g ε) ε := id rfl
@[simp] theorem eNot_def (f : EvE) (ε : En) : eNot f ε = (fun ε => (f ε).bind fun r ε => opt (bOf r.2) fun b => .ok (.fro, .bl (!b)) ε) ε := id rfl
@[simp] theorem sSeq_def (f g : EvS) (ε : En) : sSeq f g ε = (fun ε => (f ε).bind fun fl ε => match fl with
  | .nx => g ε
  | fl => .ok fl ε) ε := id rfl
@[simp] theorem sNx_def  (ε : En) : sNx  ε = (fun ε => .ok .nx ε) ε := id rfl
@[simp] theorem sDrop_def (f : EvE) (ε : En) : sDrop f ε = (fun ε => (f ε).bind fun _ ε => .ok .nx ε) ε := id rfl
@[simp] theorem sRet_def (f : EvE) (ε : En) : sRet f ε = (fun ε => (f ε).bind fun r ε => .ok (.rt r) ε) ε := id rfl
@[simp] theorem sIfS_def (t : EvT) (f g : EvS) (ε : En) : sIfS t f g ε = (fun ε => (t ε).bind fun b ε => if b = true then f ε else g ε) ε := id rfl
@[simp] theorem sSet_def (i : Nat) (f : EvE) (ε : En) : sSet i f ε = (fun ε => (f ε).bind fun r ε => .ok .nx (ε.set i (some r))) ε := id rfl
@[simp] theorem aFro_def (f : EvE) (ε : En) : aFro f ε = (fun ε => (f ε).bind fun r ε => if r.1.sol = true then .ok (.cap (.fro, r.2)) ε else .bad) ε := id rfl
@[simp] theorem aOwn_def (f : EvE) (ε : En) : aOwn f ε = (fun ε => (f ε).bind fun r ε => .ok (.cap r) ε) ε := id rfl
@[simp] theorem aLen_def (i : Nat) (ε : En) : aLen i ε = (fun ε => match (ε[i]?).join with
  | some _ => .ok (.len i) ε
  | none => .bad) ε := id rfl
@[simp] theorem gNl_def  (ε : En) : gNl  ε = (fun ε => .ok [] ε) ε := id rfl
@[simp] theorem gCn_def (f : Ev1) (g : EvG) (ε : En) : gCn f g ε = (fun ε => (f ε).bind fun a ε => (g ε).bind fun as ε => .ok (a :: as) ε) ε := id rfl
@[simp] theorem sCall_def (F : Fn) (g : EvG) (ε : En) : sCall F g ε = (fun ε => (g ε).bind fun as ε => opt (argRvs as ε) fun rs => frOut (F rs) ε) ε := id rfl
@[simp] theorem cNl_def  (ε : En) : cNl  ε = (fun ε => .ok [] ε) ε := id rfl
@[simp] theorem cCn_def (f : EvE) (g : EvC) (ε : En) : cCn f g ε = (fun ε => (f ε).bind fun r ε => if r.1.sol = true then (g ε).bind fun ds ε => .ok (r.2 :: ds) ε else .bad) ε := id rfl
@[simp] theorem eTup_def (g : EvC) (ε : En) : eTup g ε = (fun ε => (g ε).bind fun ds ε => if ds.length ≤ sizeLine then .ok (.fro, .tup ds) ε else .bad) ε := id rfl
@[simp] theorem eLst_def (g : EvC) (ε : En) : eLst g ε = (fun ε => (g ε).bind fun ds ε => if ds.length ≤ sizeLine then .ok (.con .fro, .lst ds) ε else .bad) ε := id rfl
@[simp] theorem eDicN_def  (ε : En) : eDicN  ε = (fun ε => .ok (.con .fro, .dic [] []) ε) ε := id rfl
@[simp] theorem sFor_def (f : EvI) (tg : EvTg) (body : EvS) (ε : En) : sFor f tg body ε = (fun ε => (f ε).bind fun ds ε => loopF tg body ds ε) ε := id rfl
def seqW : D → Option (List D)
  | .lst ds => some ds
  | .tup ds => some ds
  | .str z => some (sgnD z)
  | _ => none
@[simp] theorem seqW_lst (ds : List D) : seqW (.lst ds) = some ds := id rfl
@[simp] theorem seqW_tup (ds : List D) : seqW (.tup ds) = some ds := id rfl
@[simp] theorem seqW_str (z : Str) : seqW (.str z) = some (sgnD z) := id rfl
@[simp] theorem iSeq_def (f : EvE) (ε : En) : iSeq f ε = (f ε).bind fun r ε => if r.1.sol = true then opt (seqW r.2) fun ds => .ok ds ε else .bad := by
  show ((f ε).bind fun r ε => if r.1.sol = true then (match r.2 with
  | .lst ds => .ok ds ε
  | .tup ds => .ok ds ε
  | .str z => .ok (sgnD z) ε
  | _ => .bad) else .bad) = _
  congr 1
  funext r ε
  obtain ⟨s, d⟩ := r
  cases d <;> rfl
@[simp] theorem iRng_def (f : EvE) (ε : En) : iRng f ε = (fun ε => (f ε).bind fun r ε => match r.2 with
  | .int n => if RngOk n then .ok (rngD 0 n.toNat) ε else .bad
  | _ => .bad) ε := id rfl
@[simp] theorem iRng2__def (f g : EvE) (ε : En) : iRng2' f g ε = (fun ε => (f ε).bind fun r ε => (g ε).bind fun r2 ε => match r.2, r2.2 with
  | .int i, .int n => if RngOk i ∧ RngOk n then .ok (rngD i (n - i).toNat) ε else .bad
  | _, _ => .bad) ε := id rfl
@[simp] theorem sLc_def (f : EvI) (tg : EvTg) (test : EvT) (elt : EvE) (own : List Nat) (ε : En) : sLc f tg test elt own ε = (fun ε => (f ε).bind fun ds ε => (lcLoop tg test elt own ds [] (clr own ε)).bind fun acc ε' => .ok (.con .fro, .lst acc) (rst own ε ε')) ε := id rfl
@[simp] theorem tYes__def  (ε : En) : tYes'  ε = (fun ε => .ok true ε) ε := id rfl
@[simp] theorem sAdd_def (f g : EvO) (ε : En) : sAdd f g ε = (fun ε => (f ε).bind fun o1 ε => (g ε).bind fun o2 ε => opt (res o1 ε) fun r1 => opt (res o2 ε) fun r2 => opt (pAdd r1 r2) fun k => .ok (rkOut k) ε) ε := id rfl
@[simp] theorem sIx_def (f g : EvO) (ε : En) : sIx f g ε = (fun ε => (f ε).bind fun o1 ε => (g ε).bind fun o2 ε => opt (res o1 ε) fun r1 => opt (res o2 ε) fun r2 => opt (ixD r1 r2) fun d => .ok (.fro, d) ε) ε := id rfl
@[simp] theorem pNo_def  (ε : En) : pNo  ε = (fun ε => .ok none ε) ε := id rfl
@[simp] theorem pSo_def (f : EvE) (ε : En) : pSo f ε = (fun ε => (f ε).bind fun r ε => match r.2 with
  | .int i => .ok (some i) ε
  | _ => .bad) ε := id rfl
@[simp] theorem sSl_def (f : EvO) (l h : EvP) (ε : En) : sSl f l h ε = (fun ε => (f ε).bind fun o ε => (l ε).bind fun lo ε => (h ε).bind fun hi ε => opt (res o ε) fun r => opt (slD r lo hi) fun k => .ok (rkOut k) ε) ε := id rfl
@[simp] theorem aNl_def  (ε : En) : aNl  ε = (fun ε => .ok [] ε) ε := id rfl
@[simp] theorem aCn_def (f : EvO) (g : EvA) (ε : En) : aCn f g ε = (fun ε => (f ε).bind fun o ε => (g ε).bind fun os ε => .ok (o :: os) ε) ε := id rfl
@[simp] theorem sBi_def (p : List D → Option D) (g : EvA) (ε : En) : sBi p g ε = (fun ε => (g ε).bind fun os ε => opt (ress os ε) fun rs => opt (p (rs.map (·.2))) fun d => .ok (.fro, d) ε) ε := id rfl
@[simp] theorem sK1_def (p : Rv → Option Rk) (f : EvO) (ε : En) : sK1 p f ε = (fun ε => (f ε).bind fun o ε => opt (res o ε) fun r => opt (p r) fun k => .ok (rkOut k) ε) ε := id rfl
@[simp] theorem eFmt_def (f : EvE) (ε : En) : eFmt f ε = (fun ε => (f ε).bind fun r ε => match r.2 with
  | .str y => if y.length ≤ sizeLine then .ok (.fro, .str y) ε else .bad
  | .int i => if NumOk i then .ok (.fro, .str (numS i)) ε else .bad
  | _ => .bad) ε := id rfl
@[simp] theorem sSplit_def (f g : EvO) (ε : En) : sSplit f g ε = (fun ε => (f ε).bind fun o1 ε => opt (strO o1 ε) fun a => (g ε).bind fun o2 ε => opt (strO o2 ε) fun b =>
  if (b.length == 0) = false ∧ a.length + 2 ≤ sizeLine then .ok (.con .fro, .lst ((Txt.split a b).map .str)) ε else .bad) ε := id rfl
@[simp] theorem sJoin_def (f g : EvO) (ε : En) : sJoin f g ε = (fun ε => (f ε).bind fun o1 ε => opt (strO o1 ε) fun a => (g ε).bind fun o2 ε => opt (res o2 ε) fun r => opt (match r.2 with
    | .lst ds => if r.1.flat = true then strsD ds else none
    | .tup ds => strsD ds
    | _ => none) fun ys => if (ys.map (·.length)).sum + ys.length * a.length ≤ 16777216 then .ok (.fro, .str (Txt.join a ys)) ε else .bad) ε := id rfl
@[simp] theorem sApp_def (i : Nat) (f : EvE) (ε : En) : sApp i f ε = (fun ε0 => match (ε0[i]?).join with
  | some (.con .fro, .lst _) => (f ε0).bind fun r ε => match (ε[i]?).join with
    | some (.con .fro, .lst ds) => if r.1.sol = true ∧ ds.length < sizeLine then .ok (.fro, .non) (ε.set i (some (.con .fro, .lst (ds ++ [r.2])))) else .bad
    | _ => .bad
  | _ => .bad) ε := id rfl
@[simp] theorem sPat_def (f : EvE) (g : EvTg) (ε : En) : sPat f g ε = (fun ε => (f ε).bind fun r ε => opt (g r ε) fun ε => .ok .nx ε) ε := id rfl
@[simp] theorem eNeg_def (f : EvE) (ε : En) : eNeg f ε = (fun ε => (f ε).bind fun r ε => match r.2 with
  | .int i => .ok (.fro, .int (-i)) ε
  | _ => .bad) ε := id rfl
@[simp] theorem sCh2_def (p q : D → D → Option D) (f g h : EvO) (ε : En) : sCh2 p q f g h ε = (fun ε => (f ε).bind fun o1 ε => (g ε).bind fun o2 ε => opt (res o1 ε) fun r1 => opt (res o2 ε) fun r2 => opt ((p r1.2 r2.2).bind bOf) fun b =>
  if b = true then (h ε).bind fun o3 ε => opt (res o2 ε) fun r2 => opt (res o3 ε) fun r3 => opt (q r2.2 r3.2) fun d => .ok (.fro, d) ε else .ok (.fro, .bl false) ε) ε := id rfl
@[simp] theorem sCh3_def (p q w : D → D → Option D) (f g h k : EvO) (ε : En) : sCh3 p q w f g h k ε = (fun ε => (f ε).bind fun o1 ε => (g ε).bind fun o2 ε => opt (res o1 ε) fun r1 => opt (res o2 ε) fun r2 => opt ((p r1.2 r2.2).bind bOf) fun b =>
  if b = true then (h ε).bind fun o3 ε => opt (res o2 ε) fun r2 => opt (res o3 ε) fun r3 => opt ((q r2.2 r3.2).bind bOf) fun b =>
    if b = true then (k ε).bind fun o4 ε => opt (res o3 ε) fun r3 => opt (res o4 ε) fun r4 => opt (w r3.2 r4.2) fun d => .ok (.fro, d) ε else .ok (.fro, .bl false) ε
  else .ok (.fro, .bl false) ε) ε := id rfl
@[simp] theorem lVar_def (i : Nat) (ε : En) : lVar i ε = (fun ε => match (ε[i]?).join with
  | some r => .ok ⟨i, r.1, r.1, r.2, id, true⟩ (ε.set i none)
  | none => .bad) ε := id rfl
@[simp] theorem lIx_def (f : EvL) (g : EvO) (ε : En) : lIx f g ε = (fun ε => (f ε).bind fun l ε => (g ε).bind fun o ε => opt (res o ε) fun r => opt (lSub l r.2) fun l => .ok l ε) ε := id rfl
@[simp] theorem sPeek_def (f : EvL) (ε : En) : sPeek f ε = (fun ε => (f ε).bind fun l ε => if l.s.eqb .fro = true then lBack l l.s l.d ε fun ε => .ok (.fro, l.d) ε else .bad) ε := id rfl
@[simp] theorem sLapp_def (own : Bool) (f : EvL) (h : EvE) (ε : En) : sLapp own f h ε = (fun ε => (f ε).bind fun l ε => match l.s, l.d with
  | .con s, .lst ds => (h ε).bind fun r ε => opt (stow own s ds.isEmpty r) fun s' => if ds.length < sizeLine then lBack l (.con s') (.lst (ds ++ [r.2])) ε fun ε => .ok (.fro, .non) ε else .bad
  | _, _ => .bad) ε := id rfl
@[simp] theorem iEnK_def (f : EvE) (k : Int) (ε : En) : iEnK f k ε = (fun ε => (f ε).bind fun r ε => if r.1.sol = true ∧ -(2 ^ 63) ≤ k ∧ k < 2 ^ 63 then (match r.2 with
  | .lst ds => .ok (enumD k ds) ε
  | .tup ds => .ok (enumD k ds) ε
  | _ => .bad) else .bad) ε := id rfl
@[simp] theorem sIsi_def (T : String) (f : EvO) (ε : En) : sIsi T f ε = (fun ε => (f ε).bind fun o ε => opt (res o ε) fun r => opt (tyN r.2) fun t => opt (kitB t T) fun b => .ok (.fro, .bl b) ε) ε := id rfl
@[simp] theorem sIndG_def (ys : List Str) (f : EvO) (ε : En) : sIndG ys f ε = (fun ε => (f ε).bind fun o ε => opt (strO o ε) fun z => opt (ixS ys z) fun j => .ok (.fro, .int (j : Nat)) ε) ε := id rfl
@[simp] theorem sAug_def (op : Operator) (i : Nat) (f : EvO) (ε : En) : sAug op i f ε = (fun ε0 => match (ε0[i]?).join with
  | some (.fro, a) => (f ε0).bind fun o ε => opt (res o ε) fun r => opt (pIadd op a r.2) fun d => .ok .nx (ε.set i (some (.fro, d)))
  | _ => .bad) ε := id rfl
@[simp] theorem sAugL_def (i : Nat) (f : EvE) (ε : En) : sAugL i f ε = (fun ε0 => match (ε0[i]?).join with
  | some (.con .fro, .lst _) => (f ε0).bind fun r ε => match (ε[i]?).join, r with
    | some (.con .fro, .lst xs), (.con .fro, .lst ys) => if xs.length + ys.length ≤ sizeLine then .ok .nx (ε.set i (some (.con .fro, .lst (xs ++ ys)))) else .bad
    | _, _ => .bad
  | _ => .bad) ε := id rfl
@[simp] theorem kNl_def  (ε : En) : kNl  ε = (fun ε => .ok [] ε) ε := id rfl
@[simp] theorem kCn_def (f : EvE) (g : EvK) (ε : En) : kCn f g ε = (fun ε => (f ε).bind fun r ε => (g ε).bind fun rs ε => .ok (r :: rs) ε) ε := id rfl
@[simp] theorem eLso_def (g : EvK) (ε : En) : eLso g ε = (fun ε => (g ε).bind fun rs ε => opt (sameSh rs) fun s => if rs.length ≤ sizeLine then .ok (.con s, .lst (rs.map (·.2))) ε else .bad) ε := id rfl
@[simp] theorem eLst_nl (ε : En) : eLst cNl ε = .ok (.con .fro, .lst []) ε := by
  show (if 0 ≤ sizeLine then Out.ok ((.con .fro, .lst []) : Rv) ε else .bad) = _
  exact if_pos (Nat.zero_le _)
@[simp] theorem le_line {n : Nat} (h : n ≤ 1000000) : n ≤ sizeLine := by rw [PySem.sizeLine_eq]; omega
@[simp] theorem lt_line {n : Nat} (h : n ≤ 1000000) : n < sizeLine := by rw [sizeLine_eq]; omega
@[simp] theorem mulL {a b : Int} (h0 : -18446744073709551616 < a) (h1 : a < 18446744073709551616) : MulOk a b := mulOkL h0 h1
@[simp] theorem mulR {a b : Int} (h0 : -18446744073709551616 < b) (h1 : b < 18446744073709551616) : MulOk a b := mulOkR h0 h1
@[simp] theorem divO {b : Int} (h0 : 0 < b) (h1 : b < 1073741824) : DivOk b := ⟨h0, h1⟩
@[simp] theorem powO {a b : Int} (h0 : 0 ≤ b) (h1 : b ≤ 1000000) (h2 : a.natAbs < 18446744073709551616) : PowOk a b := ⟨⟨h0, h1, by omega⟩⟩
@[simp] theorem gNm_def (i : Nat) (r : Rv) (ε : En) : gNm i r ε = some (ε.set i (some r)) := id rfl
@[simp] theorem gTp_def (g : EvTgs) (n : Nat) (ds : List D) (ε : En) : gTp g n (.fro, .tup ds) ε = if ds.length = n then g ds ε else none := id rfl
@[simp] theorem gTp_pr (g : EvTgs) (n : Nat) (ds : List D) (ε : En) : gTp g n (.fro, .pr ds) ε = if ds.length = n then g ds ε else none := id rfl
@[simp] theorem gLs_def (g : EvTgs) (n : Nat) (s : Sh) (ds : List D) (ε : En) : gLs g n (s, .lst ds) ε = if s.sol = true ∧ ds.length = n then g ds ε else none := id rfl
@[simp] theorem gN0_def (ε : En) : gN0 [] ε = some ε := id rfl
@[simp] theorem gC1_def (g : EvTg) (h : EvTgs) (d : D) (ds : List D) (ε : En) : gC1 g h (d :: ds) ε = (g (.fro, d) ε).bind fun ε => h ds ε := id rfl
@[simp] theorem joinF_nil (acc : Str) (ε : En) : joinF [] acc ε = .ok (.fro, .str acc) ε := id rfl
@[simp] theorem joinF_cons (f : EvE) (fs : List EvE) (acc : Str) (ε : En) : joinF (f :: fs) acc ε = (f ε).bind fun r ε => match r.2 with
    | .str y => if (acc ++ y).length ≤ sizeLine then joinF fs (acc ++ y) ε else .bad
    | _ => .bad := id rfl
@[simp] theorem res_tmp (r : Rv) (ε : En) : res (.tmp r) ε = some r := id rfl
@[simp] theorem res_slot (i : Nat) (ε : En) : res (.slot i) ε = (ε[i]?).join := id rfl
@[simp] theorem ress_nil (ε : En) : ress [] ε = some [] := id rfl
@[simp] theorem ress_cons (o : Opd) (os : List Opd) (ε : En) : ress (o :: os) ε = match res o ε, ress os ε with
    | some r, some rs => some (r :: rs)
    | _, _ => none := id rfl
@[simp] theorem argRv_cap (r : Rv) (ε : En) : argRv (.cap r) ε = some r := id rfl
@[simp] theorem argRvs_nil (ε : En) : argRvs [] ε = some [] := id rfl
@[simp] theorem argRvs_cons (a : Arg) (as : List Arg) (ε : En) : argRvs (a :: as) ε = match argRv a ε, argRvs as ε with
    | some r, some rs => some (r :: rs)
    | _, _ => none := id rfl
@[simp] theorem bOf_bl (b : Bool) : bOf (.bl b) = some b := id rfl
@[simp] theorem Sh_sol_fro : Sh.sol .fro = true := id rfl
@[simp] theorem Sh_sol_con (s : Sh) : Sh.sol (.con s) = s.sol := id rfl
@[simp] theorem Sh_flat_fro : Sh.flat .fro = true := id rfl
@[simp] theorem Sh_flat_con : Sh.flat (.con .fro) = true := id rfl
@[simp] theorem Sh_eqb_fro : Sh.eqb .fro .fro = true := id rfl
@[simp] theorem Sh_eqb_con (s t : Sh) : Sh.eqb (.con s) (.con t) = s.eqb t := id rfl
@[simp] theorem Sh_eqb_fc (s : Sh) : Sh.eqb .fro (.con s) = false := id rfl
@[simp] theorem Sh_eqb_cf (s : Sh) : Sh.eqb (.con s) .fro = false := id rfl
@[simp] theorem pSub_int (a b : Int) : pSub (.int a) (.int b) = some (.int (a - b)) := id rfl
@[simp] theorem pMul_int (a b : Int) : pMul (.int a) (.int b) = if MulOk a b then some (.int (a * b)) else none := id rfl
@[simp] theorem pMod_int (a b : Int) : pMod (.int a) (.int b) = if 0 < b then some (.int (a % b)) else none := id rfl
@[simp] theorem pDiv_int (a b : Int) : pDiv (.int a) (.int b) = if DivOk b then some (.int (a / b)) else none := id rfl
@[simp] theorem pPow_int (a b : Int) : pPow (.int a) (.int b) = if PowOk a b then some (.int (a ^ b.toNat)) else none := id rfl
@[simp] theorem pLt_int (a b : Int) : pLt (.int a) (.int b) = some (.bl (decide (a < b))) := id rfl
@[simp] theorem pLe_int (a b : Int) : pLe (.int a) (.int b) = some (.bl (decide (a ≤ b))) := id rfl
@[simp] theorem pGt_int (a b : Int) : pGt (.int a) (.int b) = some (.bl (decide (b < a))) := id rfl
@[simp] theorem pGe_int (a b : Int) : pGe (.int a) (.int b) = some (.bl (decide (b ≤ a))) := id rfl
@[simp] theorem pAdd_int (s t : Sh) (i j : Int) : pAdd (s, .int i) (t, .int j) = some (.sc (.int (i + j))) := id rfl
@[simp] theorem pAdd_str (s t : Sh) (x y : Str) : pAdd (s, .str x) (t, .str y) = if x.length + y.length ≤ sizeLine then some (.sc (.str (x ++ y))) else none := id rfl
@[simp] theorem pAdd_lst (s t : Sh) (xs ys : List D) : pAdd (s, .lst xs) (t, .lst ys) = if s.flat = true ∧ t.flat = true ∧ xs.length + ys.length ≤ sizeLine then some (.nl (xs ++ ys)) else none := id rfl
@[simp] theorem pLen_lst (ds : List D) : pLen [.lst ds] = some (.int ds.length) := id rfl
@[simp] theorem pLen_tup (ds : List D) : pLen [.tup ds] = some (.int ds.length) := id rfl
@[simp] theorem pLen_str (s : Str) : pLen [.str s] = if s.length ≤ sizeLine then some (.int s.length) else none := id rfl
@[simp] theorem pAbs_int (i : Int) : pAbs [.int i] = some (.int (if i < 0 then -i else i)) := id rfl
@[simp] theorem pMax2_int (i j : Int) : pMax2 [.int i, .int j] = some (.int (if j > i then j else i)) := id rfl
@[simp] theorem pMin2_int (i j : Int) : pMin2 [.int i, .int j] = some (.int (if j < i then j else i)) := id rfl
@[simp] theorem pInt_int (i : Int) : pInt [.int i] = some (.int i) := id rfl
@[simp] theorem pInt_str (s : Str) : pInt [.str s] = if s.length ≤ 640 then (PySem.intText? s).map .int else none := id rfl
@[simp] theorem pStr_int (i : Int) : pStr [.int i] = if NumOk i then some (.str (numS i)) else none := id rfl
@[simp] theorem ixD_lst (s t : Sh) (ds : List D) (i : Int) : ixD (s, .lst ds) (t, .int i) = if s.flat = true then atI ds i else none := id rfl
@[simp] theorem ixD_tup (s t : Sh) (ds : List D) (i : Int) : ixD (s, .tup ds) (t, .int i) = atI ds i := id rfl
@[simp] theorem ixD_str (s t : Sh) (z : Str) (i : Int) : ixD (s, .str z) (t, .int i) = if z.length ≤ sizeLine then (atI z.cps.toList i).map fun c => .str ⟨#[c]⟩ else none := id rfl
@[simp] theorem slD_lst (s : Sh) (ds : List D) (lo hi : Option Int) : slD (s, .lst ds) lo hi = if s.flat = true then some (.nl (cutL ds lo hi)) else none := id rfl
@[simp] theorem slD_tup (s : Sh) (ds : List D) (lo hi : Option Int) : slD (s, .tup ds) lo hi = some (.tp (cutL ds lo hi)) := id rfl
@[simp] theorem strO_tmp (s : Sh) (z : Str) (ε : En) : strO (.tmp (s, .str z)) ε = some z := id rfl
@[simp] theorem tyN_str (s : Str) : tyN (.str s) = some "str" := id rfl
@[simp] theorem tyN_lst (s : List D) : tyN (.lst s) = some "list" := id rfl
@[simp] theorem tyN_tup (s : List D) : tyN (.tup s) = some "tuple" := id rfl
@[simp] theorem runF_def (n : Nat) (f : EvS) (rs : List Rv) : runF n f rs = match f (env0 n rs) with
  | .ok (.rt r) _ => .ok r
  | .ok .nx _ => .ok (.fro, .non)
  | .ok .bk _ => .bad
  | .ok .ct _ => .bad
  | .exc x _ => .exc x
  | .bad => .bad := id rfl
end
theorem loop_ind {tg : EvTg} {body : EvS} {P : List D → En → Prop} (step : ∀ d ds ε, P (d :: ds) ε → ∃ ε1, tg (.fro, d) ε = some ε1 ∧ ∃ fl ε2, body ε1 = .ok fl ε2 ∧ (fl = .nx ∨ fl = .ct) ∧ P ds ε2) :
    ∀ (ds : List D) (ε : En), P ds ε → ∃ ε', loopF tg body ds ε = .ok .nx ε' ∧ P [] ε'
  | [], ε, h => ⟨ε, rfl, h⟩
  | d :: ds, ε, h => by
    obtain ⟨ε1, e1, fl, ε2, e2, hf, h2⟩ := step d ds ε h
    obtain ⟨ε', e3, h3⟩ := loop_ind step ds ε2 h2
    refine ⟨ε', ?_, h3⟩
    show opt (tg (.fro, d) ε) (fun ε => (body ε).bind (flK (loopF tg body ds))) = _
    rw [e1, opt_some, e2, bind_ok]
    rcases hf with rfl | rfl
    · exact e3
    · exact e3
theorem while_ind {t : EvT} {b : EvS} {P : Nat → En → Prop} {Q : En → Prop}
    (step : ∀ m ε, P m ε → (∃ ε', t ε = .ok false ε' ∧ Q ε') ∨ ∃ ε1 fl ε2 m', t ε = .ok true ε1 ∧ b ε1 = .ok fl ε2 ∧ (fl = .nx ∨ fl = .ct) ∧ m' < m ∧ P m' ε2) (m : Nat) (ε : En) (h : P m ε) : ∃ ε', sWhile t b ε = .ok .nx ε' ∧ Q ε' := by
  have go : ∀ (n m : Nat) (ε : En), m < n → P m ε → ∃ ε', whileN n t b ε = .ok .nx ε' ∧ Q ε' := by
    intro n
    induction n with
    | zero => intro m ε hm; omega
    | succ n ih =>
      intro m ε hm h
      rcases step m ε h with ⟨ε', e1, q⟩ | ⟨ε1, fl, ε2, m', e1, e2, hf, hlt, h2⟩
      · refine ⟨ε', ?_, q⟩
        show whStep (whileN n t b) t b ε = _
        unfold whStep
        rw [e1]; rfl
      · obtain ⟨ε', e3, q⟩ := ih m' ε2 (by omega) h2
        refine ⟨ε', ?_, q⟩
        show whStep (whileN n t b) t b ε = _
        unfold whStep
        rw [e1, bind_ok, if_pos rfl, e2, bind_ok]
        rcases hf with rfl | rfl
        · exact e3
        · exact e3
  obtain ⟨ε', e, q⟩ := go (m + 1) m ε (Nat.lt_succ_self m) h
  exact ⟨ε', (sWhile_eq (by rw [e]; exact nofun)).trans e, q⟩
/-- a comprehension whose items are told, its own names clear -/
theorem lc_ind {tg : EvTg} {test : EvT} {elt : EvE} {own : List Nat} {P : List D → List D → En → Prop} (step : ∀ d ds acc ε, P (d :: ds) acc ε → ∃ ε1, tg (.fro, d) ε = some ε1 ∧
      ((∃ ε2, test ε1 = .ok false ε2 ∧ P ds acc (clr own ε2)) ∨ ∃ ε2 r ε3, test ε1 = .ok true ε2 ∧ elt ε2 = .ok r ε3 ∧ r.1.sol = true ∧ acc.length < sizeLine ∧ P ds (acc ++ [r.2]) (clr own ε3))) :
    ∀ (ds acc : List D) (ε : En), P ds acc ε → ∃ acc' ε', lcLoop tg test elt own ds acc ε = .ok acc' ε' ∧ P [] acc' ε'
  | [], acc, ε, h => ⟨acc, ε, rfl, h⟩
  | d :: ds, acc, ε, h => by
    obtain ⟨ε1, e1, hr⟩ := step d ds acc ε h
    rcases hr with ⟨ε2, e2, h2⟩ | ⟨ε2, r, ε3, e2, e3, hs, hz, h2⟩
    · obtain ⟨a, ε', e4, h4⟩ := lc_ind step ds acc _ h2
      refine ⟨a, ε', ?_, h4⟩
      unfold lcLoop
      rw [e1, opt_some, e2, nox_ok, bind_ok, if_neg (by simp)]
      exact e4
    · obtain ⟨a, ε', e4, h4⟩ := lc_ind step ds _ _ h2
      refine ⟨a, ε', ?_, h4⟩
      unfold lcLoop
      rw [e1, opt_some, e2, nox_ok, bind_ok, if_pos rfl, e3, nox_ok, bind_ok, if_pos ⟨hs, hz⟩]
      exact e4
/-- .. where each item is a function of the walked one and nothing else changes -/
theorem lc_map {tg : EvTg} {elt : EvE} {own : List Nat} {f : D → D} {ε : En} : ∀ (ds acc : List D), (∀ d ∈ ds, ∃ ε1 r ε3, tg (.fro, d) ε = some ε1 ∧ elt ε1 = .ok r ε3 ∧ r.1.sol = true ∧ r.2 = f d ∧ clr own ε3 = ε) → acc.length + ds.length ≤ sizeLine →
    lcLoop tg tYes' elt own ds acc ε = .ok (acc ++ ds.map f) ε
  | [], acc, _, _ => by rw [List.map_nil, List.append_nil]; rfl
  | d :: ds, acc, h, hz => by
    obtain ⟨ε1, r, ε3, e1, e2, hs, e3, e4⟩ := h d List.mem_cons_self
    rw [List.length_cons] at hz
    unfold lcLoop
    rw [e1, opt_some, show tYes' ε1 = .ok true ε1 from rfl, nox_ok, bind_ok, if_pos rfl, e2, nox_ok, bind_ok, if_pos ⟨hs, by omega⟩, e4, lc_map ds (acc ++ [r.2]) (fun d hd => h d (List.mem_cons_of_mem _ hd)) (by rw [List.length_append, List.length_singleton]; omega), e3]
    simp
/-- .. told by rows of one's own -/
theorem lc_rows {ρ : Type} {tg : EvTg} {elt : EvE} {own : List Nat} {g h : ρ → D} {ε : En} : ∀ (rows : List ρ) (acc : List D), (∀ r ∈ rows, ∃ ε1 x ε3, tg (.fro, g r) ε = some ε1 ∧ elt ε1 = .ok x ε3 ∧ x.1.sol = true ∧ x.2 = h r ∧ clr own ε3 = ε) → acc.length + rows.length ≤ sizeLine →
    lcLoop tg tYes' elt own (rows.map g) acc ε = .ok (acc ++ rows.map h) ε
  | [], acc, _, _ => by rw [List.map_nil, List.map_nil, List.append_nil]; rfl
  | r :: rows, acc, hs, hz => by
    obtain ⟨ε1, x, ε3, e1, e2, so, e3, e4⟩ := hs r List.mem_cons_self
    rw [List.length_cons] at hz
    rw [List.map_cons]
    unfold lcLoop
    rw [e1, opt_some, show tYes' ε1 = .ok true ε1 from rfl, nox_ok, bind_ok, if_pos rfl, e2, nox_ok, bind_ok, if_pos ⟨so, by omega⟩, e4, lc_rows rows (acc ++ [x.2]) (fun d hd => hs d (List.mem_cons_of_mem _ hd)) (by rw [List.length_append, List.length_singleton]; omega), e3]
    simp
theorem lc_rows0 {ρ : Type} {tg : EvTg} {elt : EvE} {own : List Nat} {g h : ρ → D} {ε : En} (rows : List ρ) (hs : ∀ r ∈ rows, ∃ ε1 x ε3, tg (.fro, g r) ε = some ε1 ∧ elt ε1 = .ok x ε3 ∧ x.1.sol = true ∧ x.2 = h r ∧ clr own ε3 = ε) (hz : rows.length ≤ sizeLine) :
    lcLoop tg tYes' elt own (rows.map g) [] ε = .ok (rows.map h) ε := by
  have := lc_rows rows [] hs (by simpa using hz)
  simpa using this
theorem rngD_length (lo : Int) (n : Nat) : (rngD lo n).length = n := by simp [rngD]
theorem rngD_mem {lo : Int} {n : Nat} {d : D} (h : d ∈ rngD lo n) : ∃ i : Nat, i < n ∧ d = .int (lo + i) := by
  simp only [rngD, List.mem_map, List.mem_range] at h
  obtain ⟨i, h1, h2⟩ := h
  exact ⟨i, h1, h2.symm⟩
end R
set_option autoImplicit false
set_option Elab.async false
set_option linter.all false
set_option autoImplicit false
/-! V1: the numbers of a script: the first two defs of every law. -/
namespace R
open PySem PySem.Spec PyProof.Rows L2
noncomputable def u_row_L1 : EvS :=
 (sSeq (sSet 4 (sOp2 pMod (oOf (sBi pInt (aCn (oOf (sAdd (oOf (sOp2 pMul (oVar 4) (oOf (eLit (.int 16807))))) (oOf (sOp2 pMul (oOf (eLit (.int 271))) (oOf (sAdd (oVar 5) (oOf (eLit (.int 3))))))))) aNl))) (oOf (eLit (.int 2147483629)))))
 (sIfS (tOf (sOp2 pGe (oOf (sBi pAbs (aCn (oVar 0) aNl))) (oOf (sOp2 pPow (oOf (eLit (.int 10))) (oOf (eLit (.int 18))))))) (sSeq (sDrop (sLapp false (lVar 2) (sOp2 pMod (oOf (sBi pInt (aCn (oVar 3) aNl))) (oOf (eLit (.int 1009))))))
 (sSet 3 (sOp2 pDiv (oVar 3) (oOf (eLit (.int 1009)))))) (sDrop (sLapp false (lVar 2) (sOp2 pMod (oOf (sBi pInt (aCn (oOf (sOp2 pDiv (oVar 4) (oOf (eLit (.int 7))))) aNl))) (oOf (eLit (.int 1009))))))))
noncomputable def u_row : EvS :=
 (sSeq (sSet 2 (eLst cNl))
 (sSeq (sSet 3 (sBi pAbs (aCn (oVar 0) aNl)))
 (sSeq (sSet 4 (sOp2 pMod (oOf (sBi pInt (aCn (oOf (sAdd (oOf (sOp2 pMul (oVar 3) (oOf (eLit (.int 48271))))) (oOf (eLit (.int 69621))))) aNl))) (oOf (eLit (.int 2147483647)))))
 (sSeq (sFor (iRng (eVar 1)) (gNm 5) u_row_L1)
 (sRet (eMove 2))))))
noncomputable def u_nums_L1 : EvS :=
 (sDrop (sLapp false (lVar 4) (eVar 6)))
noncomputable def u_nums_L2 (F__law_row : Fn) : EvS :=
 (sFor (iSeq (sCall F__law_row (gCn (aFro (eVar 5)) (gCn (aFro (eVar 3)) gNl)))) (gNm 6) u_nums_L1)
noncomputable def u_nums_W3 : EvT :=
 (tOf (sOp2 pLt (oOf (sBi pLen (aCn (oVar 4) aNl))) (oVar 1)))
noncomputable def u_nums_L4 : EvS :=
 (sDrop (sLapp false (lVar 4) (eLit (.int 0))))
noncomputable def u_nums (F__law_row : Fn) : EvS :=
 (sSeq (sSet 2 (sSl (oVar 0) pNo (pSo (eLit (.int 63)))))
 (sSeq (sSet 3 (sAdd (oOf (eLit (.int 1))) (oOf (sOp2 pDiv (oVar 1) (oOf (sBi pMax2 (aCn (oOf (eLit (.int 1))) (aCn (oOf (sBi pLen (aCn (oVar 2) aNl))) aNl))))))))
 (sSeq (sSet 4 (eLst cNl))
 (sSeq (sFor (iSeq (eVar 2)) (gNm 5) (u_nums_L2 F__law_row))
 (sSeq (sWhile u_nums_W3 u_nums_L4)
 (sRet (sSl (oVar 4) pNo (pSo (eVar 1)))))))))
theorem atL {α : Type} {xs : List α} {j : Nat} : atI xs (j : Nat) = xs[j]? := by
  unfold atI ixN
  by_cases h : j < xs.length
  · simp [h]
  · simp [h, List.getElem?_eq_none (Nat.le_of_not_lt h)]
theorem cut_take {α : Type} (xs : List α) (n : Nat) : cutL xs none (some (n : Int)) = xs.take n := by
  unfold cutL HT.sIx
  have h : ¬ ((n : Int) < 0) := by omega
  simp [h]
theorem cut_tail {α : Type} (x : α) (xs : List α) : cutL (x :: xs) (some 1) none = xs := by
  unfold cutL HT.sIx
  simp
theorem row_ok (cell : Int) (many : Nat) (hm : many ≤ 100000) : ∃ xs : List Int, xs.length = many ∧ (∀ x ∈ xs, 0 ≤ x ∧ x < 1009) ∧ runF 6 u_row [(.fro, .int cell), (.fro, .int many)] = .ok (.con .fro, .lst (xs.map .int)) := by
  have loop := loop_ind (tg := gNm 5) (body := u_row_L1)
    (P := fun ds ε => ∃ (xs : List Int) (rest mixed : Int) (k : Option Rv), ε = [some (.fro, .int cell), some (.fro, .int many), some (.con .fro, .lst (xs.map .int)), some (.fro, .int rest), some (.fro, .int mixed), k] ∧
      (∀ x ∈ xs, 0 ≤ x ∧ x < 1009) ∧ xs.length + ds.length = many ∧ ∀ d ∈ ds, ∃ i : Int, d = .int i) (by
      rintro d ds ε ⟨xs, rest, mixed, k, rfl, hx, hl, hd⟩
      obtain ⟨i, rfl⟩ := hd d List.mem_cons_self
      have hz : xs.length < sizeLine := by rw [sizeLine_eq]; simp at hl; omega
      refine ⟨_, rfl, ?_⟩
      have all : ∀ y : Int, ∀ x ∈ xs ++ [y % 1009], 0 ≤ x ∧ x < 1009 := fun y x h => by
        rcases List.mem_append.mp h with h | h
        · exact hx x h
        · rw [List.mem_singleton.mp h]
          exact ⟨Int.emod_nonneg _ (by decide), Int.emod_lt_of_pos _ (by decide)⟩
      by_cases hc : (1000000000000000000 : Int) ≤ (if cell < 0 then -cell else cell)
      · refine ⟨.nx, _, ?_, .inl rfl, xs ++ [rest % 1009], rest / 1009, (mixed * 16807 + 271 * (i + 3)) % 2147483629, some (.fro, .int i), rfl, all _, ?_, fun d h => hd d (List.mem_cons_of_mem _ h)⟩
        · simp [u_row_L1, stow, lBack, hc, hz]
        · simp at hl ⊢; omega
      · refine ⟨.nx, _, ?_, .inl rfl, xs ++ [((mixed * 16807 + 271 * (i + 3)) % 2147483629 / 7) % 1009], rest, (mixed * 16807 + 271 * (i + 3)) % 2147483629, some (.fro, .int i), rfl, all _, ?_, fun d h => hd d (List.mem_cons_of_mem _ h)⟩
        · simp [u_row_L1, stow, lBack, hc, hz]
        · simp at hl ⊢; omega)
  obtain ⟨ε', e1, xs, rest, mixed, k, rfl, hx, hl, _⟩ := loop (rngD 0 many) ([some (.fro, .int cell), some (.fro, .int many), some (.con .fro, .lst (([] : List Int).map .int)), some (.fro, .int (if cell < 0 then -cell else cell)),
    some (.fro, .int (((if cell < 0 then -cell else cell) * 48271 + 69621) % 2147483647)), none]) ⟨[], _, _, none, rfl, by simp, by simp [rngD_length], fun d h => by obtain ⟨i, _, rfl⟩ := rngD_mem h; exact ⟨_, rfl⟩⟩
  refine ⟨xs, by simpa using hl, hx, ?_⟩
  have hr : RngOk (many : Int) := rngOk_nat (by omega)
  simp only [List.map_nil] at e1
  simp [u_row, env0, hr, e1]
/-- many numbers below 1009 -/
def Nums (xs : List Int) (many : Nat) : Prop := xs.length = many ∧ ∀ x ∈ xs, 0 ≤ x ∧ x < 1009
theorem nums_ok {F : Fn} (hF : ∀ (cell : Int) (n : Nat), n ≤ 100000 → ∃ xs : List Int, Nums xs n ∧ F [(.fro, .int cell), (.fro, .int n)] = .ok (.con .fro, .lst (xs.map .int))) (ns : List Int) (many : Nat) (hn : ns.length ≤ 63) (hm : many ≤ 10000) :
    ∃ xs : List Int, Nums xs many ∧ runF 7 (u_nums F) [scr ns, (.fro, .int many)] = .ok (.con .fro, .lst (xs.map .int)) := by
  let each : Nat := 1 + many / max 1 ns.length
  have he : each ≤ 10001 := by
    have : many / max 1 ns.length ≤ many := Nat.div_le_self _ _
    show 1 + many / max 1 ns.length ≤ 10001
    omega
  have inner := fun (s c e a : Option Rv) (L : Nat) (hL : L ≤ 1000000) => loop_ind (tg := gNm 6) (body := u_nums_L1)
    (P := fun ds ε => ∃ (xs : List Int) (b : Option Rv), ε = [s, some (.fro, .int many), c, e, some (.con .fro, .lst (xs.map .int)), a, b] ∧ (∀ x ∈ xs, 0 ≤ x ∧ x < 1009) ∧ xs.length + ds.length = L ∧ (∀ d ∈ ds, ∃ i : Int, d = .int i ∧ 0 ≤ i ∧ i < 1009)) (by
      rintro d ds ε ⟨xs, b, rfl, hx, hl, hd⟩
      obtain ⟨i, rfl, hi⟩ := hd d List.mem_cons_self
      have hz : xs.length < sizeLine := by rw [sizeLine_eq]; simp at hl; omega
      refine ⟨_, rfl, .nx, [s, some (.fro, .int many), c, e, some (.con .fro, .lst ((xs ++ [i]).map .int)), a, some (.fro, .int i)], ?_, .inl rfl, xs ++ [i], some (.fro, .int i), rfl, ?_, ?_, fun d h => hd d (List.mem_cons_of_mem _ h)⟩
      · simp [u_nums_L1, stow, lBack, hz]
      · intro x h
        rcases List.mem_append.mp h with h | h
        · exact hx x h
        · rw [List.mem_singleton.mp h]; exact hi
      · simp at hl ⊢; omega)
  have outer := fun (s c : Option Rv) => loop_ind (tg := gNm 5) (body := u_nums_L2 F)
    (P := fun ds ε => ∃ (xs : List Int) (a b : Option Rv), ε = [s, some (.fro, .int many), c, some (.fro, .int (each : Nat)), some (.con .fro, .lst (xs.map .int)), a, b] ∧ (∀ x ∈ xs, 0 ≤ x ∧ x < 1009) ∧ xs.length + each * ds.length = each * ns.length ∧ (∀ d ∈ ds, ∃ i : Int, d = .int i)) (by
      rintro d ds ε ⟨xs, a, b, rfl, hx, hl, hd⟩
      obtain ⟨i, rfl⟩ := hd d List.mem_cons_self
      obtain ⟨ys, ⟨hy1, hy2⟩, ey⟩ := hF i each (by omega)
      rw [List.length_cons, Nat.mul_add, Nat.mul_one] at hl
      have hb : each * ns.length ≤ 10001 * 63 := Nat.mul_le_mul he hn
      obtain ⟨ε', e1, zs, b', rfl, hz, hzl, _⟩ := inner s c (some (.fro, .int (each : Nat))) (some (.fro, .int i)) (xs.length + each) (by omega) (ys.map .int) [s, some (.fro, .int many), c, some (.fro, .int (each : Nat)), some (.con .fro, .lst (xs.map .int)), some (.fro, .int i), b]
        ⟨xs, b, rfl, hx, by rw [List.length_map, hy1], fun d hd => by
          obtain ⟨j, hj, rfl⟩ := List.mem_map.mp hd
          exact ⟨j, rfl, hy2 j hj⟩⟩
      refine ⟨_, rfl, .nx, _, ?_, .inl rfl, zs, some (.fro, .int i), b', rfl, hz, ?_, fun d h => hd d (List.mem_cons_of_mem _ h)⟩
      · simp [u_nums_L2, ey, e1]
      · simp at hzl; omega)
  have wh := fun (s c e a b : Option Rv) => while_ind (t := u_nums_W3) (b := u_nums_L4)
    (P := fun m ε => ∃ xs : List Int, ε = [s, some (.fro, .int many), c, e, some (.con .fro, .lst (xs.map .int)), a, b] ∧ (∀ x ∈ xs, 0 ≤ x ∧ x < 1009) ∧ m = many - xs.length)
    (Q := fun ε => ∃ xs : List Int, ε = [s, some (.fro, .int many), c, e, some (.con .fro, .lst (xs.map .int)), a, b] ∧ (∀ x ∈ xs, 0 ≤ x ∧ x < 1009) ∧ many ≤ xs.length) (by
      rintro m ε ⟨xs, rfl, hx, hm'⟩
      by_cases h : xs.length < many
      · have hz : xs.length < sizeLine := by rw [sizeLine_eq]; omega
        refine .inr ⟨[s, some (.fro, .int many), c, e, some (.con .fro, .lst (xs.map .int)), a, b], .nx, [s, some (.fro, .int many), c, e, some (.con .fro, .lst ((xs ++ [0]).map .int)), a, b], many - (xs ++ [(0 : Int)]).length, ?_, ?_, .inl rfl, ?_, xs ++ [0], rfl, ?_, rfl⟩
        · simp [u_nums_W3, h]
        · simp [u_nums_L4, stow, lBack, hz]
        · simp; omega
        · intro x hx'
          rcases List.mem_append.mp hx' with hx' | hx'
          · exact hx x hx'
          · rw [List.mem_singleton.mp hx']; exact ⟨by decide, by decide⟩
      · refine .inl ⟨[s, some (.fro, .int many), c, e, some (.con .fro, .lst (xs.map .int)), a, b], ?_, xs, rfl, hx, by omega⟩
        simp [u_nums_W3, h])
  obtain ⟨ε1, e1, xs, a, b, rfl, hx, hl, _⟩ := outer (some (scr ns)) (some (.fro, .lst (ns.map .int))) (ns.map .int) [some (scr ns), some (.fro, .int many), some (.fro, .lst (ns.map .int)), some (.fro, .int (each : Nat)), some (.con .fro, .lst (([] : List Int).map .int)), none, none]
    ⟨[], none, none, rfl, by simp, by simp, fun d hd => by obtain ⟨j, _, rfl⟩ := List.mem_map.mp hd; exact ⟨j, rfl⟩⟩
  obtain ⟨ε2, e2, ys, rfl, hy, hyl⟩ := wh (some (scr ns)) (some (.fro, .lst (ns.map .int))) (some (.fro, .int (each : Nat))) a b _ _ ⟨xs, rfl, hx, rfl⟩
  refine ⟨ys.take many, ⟨by rw [List.length_take]; omega, fun x h => hy x (List.mem_of_mem_take h)⟩, ?_⟩
  simp only [scr, List.map_nil] at e1 e2
  have c63 : cutL (ns.map R.D.int) none (some 63) = ns.map .int := by
    have := cut_take (ns.map R.D.int) 63
    rw [show ((63 : Nat) : Int) = 63 from rfl] at this
    rw [this, List.take_of_length_le (by rw [List.length_map]; exact hn)]
  have emax : (1 : Int) + (many : Int) / (if (1 : Int) < (ns.length : Int) then (ns.length : Int) else 1) = ((each : Nat) : Int) := by
    show _ = ((1 + many / max 1 ns.length : Nat) : Int)
    by_cases h : 1 < ns.length
    · rw [if_pos (by omega), Nat.max_eq_right (by omega)]; simp
    · rw [if_neg (by omega), Nat.max_eq_left (by omega)]; simp
  have dv : DivOk (if (1 : Int) < (ns.length : Int) then (ns.length : Int) else 1) := by
    by_cases h : 1 < ns.length
    · rw [if_pos (by omega)]; exact ⟨by omega, by omega⟩
    · rw [if_neg (by omega)]; exact ⟨by omega, by omega⟩
  simp [u_nums, env0, scr, c63, emax, dv, e1, e2, cut_take, List.map_take]
end R
set_option autoImplicit false
set_option Elab.async false
set_option linter.all false
set_option autoImplicit false
/-! V2: texts: signs, equality, names, numbers. -/
namespace R
open PySem PySem.Spec PyProof.Rows L2
open TL (tl len_tl ext_tl tl_append)
@[simp] theorem strO_slot (i : Nat) (ε : En) : strO (.slot i) ε = ((ε[i]?).join).bind fun r => match r.2 with
  | .str s => some s
  | _ => none := id rfl
theorem pIn_sign (c : Nat) (t : Str) : pIn (.str ⟨#[c]⟩) (.str t) = some (.bl (decide (c ∈ tl t))) := by
  show some (D.bl (!(Builtin.Str.occurrences t ⟨#[c]⟩ 0 t.length 1).isEmpty)) = _
  rw [PySem.StrLaws.found_one]
/-! ### equality -/
@[simp] theorem eqD_str (x y : Str) : eqD (.str x) (.str y) = (x == y) := id rfl
@[simp] theorem eqD_int (x y : Int) : eqD (.int x) (.int y) = (x == y) := id rfl
def eqDs : List D → List D → Bool
  | [], [] => true
  | x :: xs, y :: ys => eqD x y && eqDs xs ys
  | _, _ => false
theorem eqvAll_eq : ∀ xs ys : List D, PyData.eqvAll (toPs xs) (toPs ys) = eqDs xs ys
  | [], [] => rfl
  | x :: xs, y :: ys => by
    show (PyData.eqv (toP x) (toP y) && PyData.eqvAll (toPs xs) (toPs ys)) = _
    rw [eqvAll_eq xs ys]; rfl
  | [], _ :: _ => rfl
  | _ :: _, [] => rfl
theorem eqD_lst (xs ys : List D) : eqD (.lst xs) (.lst ys) = eqDs xs ys := eqvAll_eq xs ys
theorem eqD_tup (xs ys : List D) : eqD (.tup xs) (.tup ys) = eqDs xs ys := eqvAll_eq xs ys
mutual
theorem eqD_self : ∀ (n : Nat) (d : D), okD n d = true → eqD d d = true
  | _, .non, _ => rfl
  | _, .bl b, _ => by show (b == b) = true; simp
  | _, .int i, _ => by show (i == i) = true; simp
  | _, .str s, _ => by show (s == s) = true; exact beq_self_eq_true s
  | n + 1, .lst xs, h => by
    rw [eqD_lst]
    exact eqDs_self n xs h
  | n + 1, .tup xs, h => by
    rw [eqD_tup]
    exact eqDs_self n xs h
  | 0, .lst _, h => by cases h
  | 0, .tup _, h => by cases h
  | n, .pr _, h => by cases n <;> cases h
  | n, .dic _ _, h => by cases n <;> cases h
  | n, .obj _ _, h => by cases n <;> cases h
theorem eqDs_self : ∀ (n : Nat) (xs : List D), xs.all (okD n) = true → eqDs xs xs = true
  | _, [], _ => rfl
  | n, x :: xs, h => by
    rw [List.all_cons, Bool.and_eq_true] at h
    show (eqD x x && eqDs xs xs) = true
    rw [eqD_self n x h.1, eqDs_self n xs h.2]; rfl
end
theorem pEq_self {d : D} (h : okD 60 d = true) : pEq d d = some (.bl true) := by
  unfold pEq
  rw [if_pos ⟨h, h⟩, eqD_self 60 d h]
theorem pNe_self {d : D} (h : okD 60 d = true) : pNe d d = some (.bl false) := by
  unfold pNe
  rw [if_pos ⟨h, h⟩, eqD_self 60 d h]; rfl
@[simp] theorem okD_str (n : Nat) (s : Str) : okD n (.str s) = true := by cases n <;> rfl
@[simp] theorem okD_int (n : Nat) (s : Int) : okD n (.int s) = true := by cases n <;> rfl
@[simp] theorem okD_bl (n : Nat) (s : Bool) : okD n (.bl s) = true := by cases n <;> rfl
@[simp] theorem okD_non (n : Nat) : okD n .non = true := by cases n <;> rfl
@[simp] theorem okD_lst (n : Nat) (xs : List D) : okD (n + 1) (.lst xs) = xs.all (okD n) := id rfl
@[simp] theorem okD_tup (n : Nat) (xs : List D) : okD (n + 1) (.tup xs) = xs.all (okD n) := id rfl
@[simp] theorem pEq_str (x y : Str) : pEq (.str x) (.str y) = some (.bl (x == y)) := by
  unfold pEq
  rw [if_pos ⟨okD_str _ _, okD_str _ _⟩]; rfl
@[simp] theorem pNe_str (x y : Str) : pNe (.str x) (.str y) = some (.bl (!(x == y))) := by
  unfold pNe
  rw [if_pos ⟨okD_str _ _, okD_str _ _⟩]; rfl
@[simp] theorem pEq_int (x y : Int) : pEq (.int x) (.int y) = some (.bl (x == y)) := by
  unfold pEq
  rw [if_pos ⟨okD_int _ _, okD_int _ _⟩]; rfl
@[simp] theorem pNe_int (x y : Int) : pNe (.int x) (.int y) = some (.bl (!(x == y))) := by
  unfold pNe
  rw [if_pos ⟨okD_int _ _, okD_int _ _⟩]; rfl
/-! ### names and numbers -/
def nameL : List Nat := tl "abcdefghijklmnopqrstuvwxyz0123456789"
def digL : List Nat := tl "0123456789"
/-- a name, by its signs -/
def nmL (l : List Nat) : Bool := decide (1 ≤ l.length ∧ l.length ≤ 12) && (!decide (l.headD 0 ∈ digL)) && l.all fun c => decide (c ∈ nameL)
/-- a number, by its signs -/
def nbL (l : List Nat) : Bool := decide (1 ≤ l.length ∧ l.length ≤ 6) && (l.all fun c => decide (c ∈ digL)) && (l == [48] || l.headD 0 != 48)
noncomputable def u_is_name_X1 : EvE := (sOp2 pIn (oVar 1) (oOf (eLit (.str "abcdefghijklmnopqrstuvwxyz0123456789"))))
noncomputable def u_is_name : EvS :=
 (sSeq (sIfS (tOr' (tNot' (tOf (sCh2 pLe pLe (oOf (eLit (.int 1))) (oOf (sBi pLen (aCn (oVar 0) aNl))) (oOf (eLit (.int 12)))))) (tOf (sOp2 pIn (oOf (sIx (oVar 0) (oOf (eLit (.int 0))))) (oOf (eLit (.str "0123456789")))))) (sRet (eLit (.bl false))) sNx)
 (sRet (sBi pAll (aCn (oOf (sLc (iSeq (eVar 0)) (gNm 1) tYes' u_is_name_X1 [1])) aNl))))
noncomputable def u_is_number_X1 : EvE := (sOp2 pIn (oVar 1) (oOf (eLit (.str "0123456789"))))
noncomputable def u_is_number : EvS :=
 (sSeq (sIfS (tOr' (tNot' (tOf (sCh2 pLe pLe (oOf (eLit (.int 1))) (oOf (sBi pLen (aCn (oVar 0) aNl))) (oOf (eLit (.int 6)))))) (tNot' (tOf (sBi pAll (aCn (oOf (sLc (iSeq (eVar 0)) (gNm 1) tYes' u_is_number_X1 [1])) aNl))))) (sRet (eLit (.bl false))) sNx)
 (sRet (eOr (sOp2 pEq (oVar 0) (oOf (eLit (.str "0")))) (sOp2 pNe (oOf (sIx (oVar 0) (oOf (eLit (.int 0))))) (oOf (eLit (.str "0")))))))
def inS (L : List Nat) : D → D
  | .str z => .bl (decide (z.cps.toList.headD 0 ∈ L))
  | _ => .non
theorem bls_in (L : List Nat) : ∀ l : List Nat, bls ((l.map fun c => (D.str ⟨#[c]⟩)).map (inS L)) = some (l.map fun c => decide (c ∈ L))
  | [] => rfl
  | c :: l => by
    rw [List.map_cons, List.map_cons]
    show (bls ((l.map fun c => (D.str ⟨#[c]⟩)).map (inS L))).map (decide (c ∈ L) :: ·) = _
    rw [bls_in L l]; rfl
theorem all_in (L : List Nat) (s : Str) : pAll [.lst ((sgnD s).map (inS L))] = some (.bl ((tl s).all fun c => decide (c ∈ L))) := by
  show (bls ((sgnD s).map (inS L))).map (fun bs => D.bl (bs.all id)) = _
  unfold sgnD
  rw [bls_in L, Option.map_some]
  congr 2
  show (((s.cps.toList).map fun c => decide (c ∈ L)).all id) = ((s.cps.toList).all fun c => decide (c ∈ L))
  induction s.cps.toList with
  | nil => rfl
  | cons c l ih => simp [ih]
theorem sgnD_len (s : Str) : (sgnD s).length = s.length := by simp [sgnD, Str.length]
theorem is_name_ok (s : Str) (hs : s.length ≤ 1000000) : runF 2 u_is_name [(.fro, .str s)] = .ok (.fro, .bl (nmL (tl s))) := by
  have lc : lcLoop (gNm 1) tYes' u_is_name_X1 [1] (sgnD s) [] [some (.fro, .str s), none] = .ok ([] ++ (sgnD s).map (inS nameL)) [some (.fro, .str s), none] := by
    refine lc_map _ _ (fun d hd => ?_) (by rw [sgnD_len]; exact le_line (by simpa using hs))
    simp only [sgnD, List.mem_map] at hd
    obtain ⟨c, _, rfl⟩ := hd
    refine ⟨_, (.fro, .bl (decide (c ∈ nameL))), [some (.fro, .str s), some (.fro, .str ⟨#[c]⟩)], rfl, ?_, rfl, rfl, rfl⟩
    simp [u_is_name_X1, pIn_sign, nameL]
  rw [List.nil_append] at lc
  have hz : s.length ≤ sizeLine := le_line hs
  have hl : s.length = (tl s).length := len_tl s
  by_cases h1 : 1 ≤ s.length ∧ s.length ≤ 12
  · have hc : ∃ c r, tl s = c :: r := by
      cases h : tl s with
      | nil => rw [h] at hl; simp at hl; omega
      | cons c r => exact ⟨c, r, rfl⟩
    obtain ⟨c, r, hc⟩ := hc
    have ea : atI s.cps.toList 0 = some c := by
      have : s.cps.toList = c :: r := hc
      rw [this]; simp [atI, ixN]
    have e1 : ((1 : Int) ≤ (s.length : Int)) := by omega
    have e2 : ((s.length : Int) ≤ (12 : Int)) := by omega
    by_cases hd : c ∈ digL
    · have : nmL (tl s) = false := by
        unfold nmL
        rw [hc]
        simp [hd]
      rw [this]
      have hd' : c ∈ tl (Str.ofString "0123456789") := hd
      simp [u_is_name, env0, hz, e1, e2, ea, pIn_sign, hd']
    · have hd' : ¬ c ∈ tl (Str.ofString "0123456789") := hd
      have : nmL (tl s) = ((tl s).all fun c => decide (c ∈ nameL)) := by
        unfold nmL
        rw [← hl]
        simp [h1, hc, hd]
      rw [this]
      simp [u_is_name, env0, hz, e1, e2, ea, pIn_sign, hd', clr, rst, lc, all_in]
  · have : nmL (tl s) = false := by
      unfold nmL
      rw [← hl]
      simp [h1]
    rw [this]
    by_cases h2 : 1 ≤ s.length
    · have h3 : ¬ (s.length : Int) ≤ 12 := by omega
      have h4 : (1 : Int) ≤ (s.length : Int) := by omega
      simp [u_is_name, env0, hz, h3, h4]
    · have h3 : ¬ (1 : Int) ≤ (s.length : Int) := by omega
      simp [u_is_name, env0, hz, h3]
theorem is_number_ok (s : Str) (hs : s.length ≤ 1000000) : runF 2 u_is_number [(.fro, .str s)] = .ok (.fro, .bl (nbL (tl s))) := by
  have lc : lcLoop (gNm 1) tYes' u_is_number_X1 [1] (sgnD s) [] [some (.fro, .str s), none] = .ok ([] ++ (sgnD s).map (inS digL)) [some (.fro, .str s), none] := by
    refine lc_map _ _ (fun d hd => ?_) (by rw [sgnD_len]; exact le_line (by simpa using hs))
    simp only [sgnD, List.mem_map] at hd
    obtain ⟨c, _, rfl⟩ := hd
    refine ⟨_, (.fro, .bl (decide (c ∈ digL))), [some (.fro, .str s), some (.fro, .str ⟨#[c]⟩)], rfl, ?_, rfl, rfl, rfl⟩
    simp [u_is_number_X1, pIn_sign, digL]
  rw [List.nil_append] at lc
  have hz : s.length ≤ sizeLine := le_line hs
  have hl : s.length = (tl s).length := len_tl s
  by_cases h1 : 1 ≤ s.length ∧ s.length ≤ 6
  · have hc : ∃ c r, tl s = c :: r := by
      cases h : tl s with
      | nil => rw [h] at hl; simp at hl; omega
      | cons c r => exact ⟨c, r, rfl⟩
    obtain ⟨c, r, hc⟩ := hc
    have ea : atI s.cps.toList 0 = some c := by
      have : s.cps.toList = c :: r := hc
      rw [this]; simp [atI, ixN]
    have e1 : ((1 : Int) ≤ (s.length : Int)) := by omega
    have e2 : ((s.length : Int) ≤ (6 : Int)) := by omega
    by_cases hd : ((tl s).all fun c => decide (c ∈ digL)) = true
    · have : nbL (tl s) = (tl s == [48] || (tl s).headD 0 != 48) := by
        unfold nbL
        rw [← hl]
        simp only [h1, hd]; simp
      rw [this]
      have z : (s == Str.ofString "0") = (tl s == [48]) := by
        by_cases h : s = Str.ofString "0"
        · subst h; decide
        · rw [beq_eq_false_iff_ne.mpr h]
          symm
          rw [beq_eq_false_iff_ne]
          exact fun e => h (ext_tl e)
      have z2 : ((⟨#[c]⟩ : Str) == Str.ofString "0") = (c == 48) := by
        by_cases h : c = 48
        · subst h; decide
        · rw [beq_eq_false_iff_ne.mpr h, beq_eq_false_iff_ne]
          intro e
          have := congrArg tl e
          have : [c] = [48] := this
          exact h (by simpa using this)
      by_cases h0 : s = Str.ofString "0"
      · have z3 : (tl s == [48]) = true := by rw [← z, h0]; exact beq_self_eq_true _
        rw [z3]
        simp [u_is_number, env0, hz, e1, e2, ea, clr, rst, lc, all_in, hd, z, z3]
      · have z3 : (tl s == [48]) = false := by rw [← z]; exact beq_eq_false_iff_ne.mpr h0
        rw [z3, hc]
        simp [u_is_number, env0, hz, e1, e2, ea, clr, rst, lc, all_in, hd, z, z3, z2, bne]
    · have : nbL (tl s) = false := by
        unfold nbL
        rw [Bool.not_eq_true] at hd
        rw [hd]; simp
      rw [this]
      rw [Bool.not_eq_true] at hd
      simp [u_is_number, env0, hz, e1, e2, clr, rst, lc, all_in, hd]
  · have : nbL (tl s) = false := by
      unfold nbL
      rw [← hl]
      simp [h1]
    rw [this]
    by_cases h2 : 1 ≤ s.length
    · have h3 : ¬ (s.length : Int) ≤ 6 := by omega
      have h4 : (1 : Int) ≤ (s.length : Int) := by omega
      simp [u_is_number, env0, hz, h3, h4]
    · have h3 : ¬ (1 : Int) ≤ (s.length : Int) := by omega
      simp [u_is_number, env0, hz, h3]
end R
set_option autoImplicit false
set_option Elab.async false
set_option linter.all false
set_option autoImplicit false
/-! V3: the later rules as rows for simp. -/
namespace R
open PySem PySem.Spec PyProof.Rows L2
section
@[simp] theorem sFld_def (ks : List Nat) (x : Str) (f : EvO) (ε : En) : sFld ks x f ε = (fun ε => (f ε).bind fun o ε => opt ((res o ε).bind (fldD ks x)) fun d => .ok (.fro, d) ε) ε := id rfl
@[simp] theorem fldD_obj (ks : List Nat) (x : Str) (s : Sh) (k : Nat) (ds : List D) : fldD ks x (s, .obj k ds) = if k ∈ ks ∧ s.flat = true then (fPos k x).bind fun n => ds[n]? else none := id rfl
@[simp] theorem sMeA_def (c : Nat) (F : Fn) (h : Ev1) (g : EvG) (ε : En) : sMeA c F h g ε = (fun ε => (h ε).bind fun a ε => opt (argRv a ε) fun r => if clsOf r.2 = some c then (g ε).bind fun as ε => opt (argRvs (a :: as) ε) fun rs => frOut (F rs) ε else .bad) ε := id rfl
@[simp] theorem sPrA_def (c : Nat) (F : Fn) (h : Ev1) (ε : En) : sPrA c F h ε = (fun ε => (h ε).bind fun a ε => opt (argRv a ε) fun r => if clsOf r.2 = some c then opt (argRvs [a] ε) fun rs => nox (frOut (F rs) ε) else .bad) ε := id rfl
@[simp] theorem clsOf_obj (k : Nat) (ds : List D) : clsOf (.obj k ds) = some k := id rfl
@[simp] theorem kOf_obj (k : Nat) (ds : List D) : kOf (.obj k ds) = k := id rfl
@[simp] theorem sMkP_def (F : Fn) (g : EvG) (ε : En) : sMkP F g ε = (fun ε => (g ε).bind fun as ε => opt (argRvs as ε) fun rs => nox (frOut (F rs) ε)) ε := id rfl
@[simp] theorem sMk_def (aR : List Rv → List Rv) (F : Fn) (g : EvG) (ε : En) : sMk aR F g ε = (fun ε => (g ε).bind fun as ε => opt (argRvs as ε) fun rs => frOut (F (aR rs)) ε) ε := id rfl
@[simp] theorem sFst_def (ks : List Nat) (x : Str) (i : Nat) (f : EvE) (ε : En) : sFst ks x i f ε = (fun ε => (f ε).bind fun q ε => opt ((ε[i]?).join) fun r => if kOf r.2 ∈ ks then opt (putD x r q) fun r' => .ok .nx (ε.set i (some r')) else .bad) ε := id rfl
@[simp] theorem putD_slf (x : Str) (a : Addr) (ss : List Sh) (k : Nat) (ds : List D) (q : Rv) : putD x (.slf a ss, .obj k ds) q = (putO k x ss ds q).map fun z => (.slf a z.1, .obj k z.2) := id rfl
@[simp] theorem putD_obj (x : Str) (ss : List Sh) (k : Nat) (ds : List D) (q : Rv) : putD x (.obj ss, .obj k ds) q = (putO k x ss ds q).map fun z => (.obj z.1, .obj k z.2) := id rfl
@[simp] theorem putO_def (k : Nat) (x : Str) (ss : List Sh) (ds : List D) (q : Rv) : putO k x ss ds q = (fPos k x).bind fun n => if n = ds.length then some (ss ++ [q.1], ds ++ [q.2]) else if n < ds.length then some (ss.set n q.1, ds.set n q.2) else none := id rfl
@[simp] theorem sRaise_def (k : Nat) (ε : En) : sRaise k ε = .exc ⟨k, none⟩ ε := id rfl
@[simp] theorem sTry_def (f : EvS) (hs : List Hdl) (ε : En) : sTry f hs ε = (fun ε => match f ε with
  | .exc x ε' => match hFind hs x.k with
    | some (some g) => nox (g ε')
    | some none => .exc x ε'
    | none => .bad
  | o => o) ε := id rfl
@[simp] theorem hFind_nil (k : Nat) : hFind [] k = some none := id rfl
@[simp] theorem sGet1_def (f g : EvO) (ε : En) : sGet1 f g ε = (fun ε => (f ε).bind fun o1 ε => opt ((res o1 ε).bind isDicR) fun _ => (g ε).bind fun o2 ε => opt (res o1 ε) fun r1 => opt (res o2 ε) fun r2 => opt (gtD r1 r2) fun d => .ok (.fro, d.getD .non) ε) ε := id rfl
@[simp] theorem sSorted_def (f : EvO) (ε : En) : sSorted f ε = (fun ε => (f ε).bind fun o ε => opt ((res o ε).bind strsR) fun k => if k.2.length < 64 then .ok (.con .fro, .lst ((sortS k.2).map .str)) ε else .bad) ε := id rfl
@[simp] theorem sIsiC_def (k : Nat) (f : EvO) (ε : En) : sIsiC k f ε = (fun ε => (f ε).bind fun o ε => opt (res o ε) fun r => if clsOf r.2 = some k then .ok (.fro, .bl true) ε else .bad) ε := id rfl
@[simp] theorem iEn_def (f : EvE) (ε : En) : iEn f ε = (fun ε => (f ε).bind fun r ε => if r.1.sol = true then (match r.2 with
  | .lst ds => .ok (enumD 0 ds) ε
  | .tup ds => .ok (enumD 0 ds) ε
  | _ => .bad) else .bad) ε := id rfl
@[simp] theorem iZip_def (f g : EvE) (ε : En) : iZip f g ε = (fun ε => (f ε).bind fun r ε => (g ε).bind fun q ε => if r.1.sol = true ∧ q.1.sol = true then opt (seqD r.2) fun x => opt (seqD q.2) fun y => .ok (zipD x.2 y.2) ε else .bad) ε := id rfl
@[simp] theorem seqD_lst (ds : List D) : seqD (.lst ds) = some (false, ds) := id rfl
@[simp] theorem seqD_tup (ds : List D) : seqD (.tup ds) = some (true, ds) := id rfl
@[simp] theorem sInd_def (f g : EvO) (ε : En) : sInd f g ε = (fun ε => (f ε).bind fun o1 ε => opt ((res o1 ε).bind strsR) fun k => (g ε).bind fun o2 ε => opt ((res o1 ε).bind strsR) fun l => if l.1 = k.1 then opt (strO o2 ε) fun z => opt (ixS l.2 z) fun j => .ok (.fro, .int (j : Nat)) ε else .bad) ε := id rfl
@[simp] theorem sLset_def (own : Bool) (f : EvE) (g : EvL) (h : EvO) (ε : En) : sLset own f g h ε = (fun ε => (f ε).bind fun r ε => (g ε).bind fun l ε => (h ε).bind fun o ε => opt (res o ε) fun k => opt (setD own l k.2 r) fun z => lBack l z.1 z.2 ε fun ε => .ok .nx ε) ε := id rfl
@[simp] theorem sLcE_def (f : EvI) (tg : EvTg) (test : EvT) (elt : EvE) (own : List Nat) (ε : En) : sLcE f tg test elt own ε = (fun ε => (f ε).bind fun ds ε => lcEnd own ε (lcLoopE tg test elt own ds [] (clr own ε))) ε := id rfl
@[simp] theorem argRv_len (i : Nat) (ε : En) : argRv (.len i) ε = (match (ε[i]?).join with
  | some (.fro, d) => some (.fro, d)
  | some (s, d) => if s.flatOwn = true then some (.lnt, d) else none
  | none => none) := id rfl
@[simp] theorem isNon_non : isNon .non = true := id rfl
@[simp] theorem isNon_bl (b : Bool) : isNon (.bl b) = false := id rfl
@[simp] theorem isNon_int (b : Int) : isNon (.int b) = false := id rfl
@[simp] theorem isNon_str (b : Str) : isNon (.str b) = false := id rfl
@[simp] theorem isNon_lst (b : List D) : isNon (.lst b) = false := id rfl
@[simp] theorem isNon_tup (b : List D) : isNon (.tup b) = false := id rfl
@[simp] theorem isNon_obj (k : Nat) (b : List D) : isNon (.obj k b) = false := id rfl
@[simp] theorem truD_lst (b : List D) : truD (.lst b) = some (!b.isEmpty) := id rfl
@[simp] theorem truD_bl (b : Bool) : truD (.bl b) = some b := id rfl
@[simp] theorem truR_lst (s : Sh) (b : List D) : truR (s, .lst b) = some (!b.isEmpty) := by cases s <;> rfl
@[simp] theorem truR_tup (s : Sh) (b : List D) : truR (s, .tup b) = some (!b.isEmpty) := by cases s <;> rfl
@[simp] theorem truR_bl (s : Sh) (b : Bool) : truR (s, .bl b) = some b := by cases s <;> rfl
@[simp] theorem truR_int (s : Sh) (i : Int) : truR (s, .int i) = some (i != 0) := by cases s <;> rfl
@[simp] theorem truR_dic (s : Sh) (ks : List Key) (ds : List D) : truR (.con s, .dic ks ds) = some (!ks.isEmpty) := id rfl
@[simp] theorem flatOwn_lnt : Sh.flatOwn .lnt = true := id rfl
@[simp] theorem pTuple_lst (s : Sh) (ds : List D) : pTuple (s, .lst ds) = if s.flat = true then some (.tp ds) else none := id rfl
@[simp] theorem pTuple_tup (s : Sh) (ds : List D) : pTuple (s, .tup ds) = some (.tp ds) := id rfl
@[simp] theorem pList_lst (s : Sh) (ds : List D) : pList (s, .lst ds) = if s.flat = true then some (.nl ds) else none := id rfl
@[simp] theorem pList_tup (s : Sh) (ds : List D) : pList (s, .tup ds) = some (.nl ds) := id rfl
@[simp] theorem flat_lnt : Sh.flat .lnt = true := id rfl
@[simp] theorem flatOwn_slf (a : Addr) (ss : List Sh) : Sh.flatOwn (.slf a ss) = ss.all fun s => match s with | .fro => true | _ => false := id rfl
@[simp] theorem flatOwn_obj (ss : List Sh) : Sh.flatOwn (.obj ss) = ss.all fun s => match s with | .fro => true | _ => false := id rfl
@[simp] theorem flatOwn_con : Sh.flatOwn (.con .fro) = true := id rfl
@[simp] theorem flat_slf (a : Addr) (ss : List Sh) : Sh.flat (.slf a ss) = ss.all fun s => match s with | .fro => true | _ => false := id rfl
@[simp] theorem flat_obj (ss : List Sh) : Sh.flat (.obj ss) = ss.all fun s => match s with | .fro => true | _ => false := id rfl
@[simp] theorem sol_obj (ss : List Sh) : Sh.sol (.obj ss) = Sh.sols ss := id rfl
@[simp] theorem sols_nil : Sh.sols [] = true := id rfl
@[simp] theorem sols_cons (s : Sh) (ss : List Sh) : Sh.sols (s :: ss) = (s.sol && Sh.sols ss) := id rfl
@[simp] theorem fP_00 : fPos 0 "winds" = some 0 := by decide
@[simp] theorem fP_01 : fPos 0 "places" = some 1 := by decide
@[simp] theorem fP_02 : fPos 0 "links" = some 2 := by decide
@[simp] theorem fP_03 : fPos 0 "paths" = some 3 := by decide
@[simp] theorem fP_10 : fPos 1 "word" = some 0 := by decide
@[simp] theorem fP_11 : fPos 1 "labels" = some 1 := by decide
@[simp] theorem fP_12 : fPos 1 "chain" = some 2 := by decide
@[simp] theorem fP_20 : fPos 2 "places" = some 0 := by decide
@[simp] theorem fP_21 : fPos 2 "ways" = some 1 := by decide
@[simp] theorem fP_30 : fPos 3 "free" = some 0 := by decide
@[simp] theorem fP_50 : fPos 5 "places" = some 0 := by decide
@[simp] theorem fP_51 : fPos 5 "minute" = some 1 := by decide
@[simp] theorem runI_def (N k : Nat) (f : EvS) (a : Addr) (rs : List Rv) : runI N k f a rs = (match f (env0 N ((.slf a [], .obj k []) :: rs)) with
  | .ok .nx ε => match (ε[0]?).join with
    | some r => (match r.1 with
      | .slf b ss => if b = a then .ok (.obj ss, r.2) else .bad
      | _ => .bad)
    | none => .bad
  | .ok _ _ => .bad
  | .exc x _ => .exc x
  | .bad => .bad) := id rfl
end
end R
set_option autoImplicit false
set_option Elab.async false
set_option linter.all false
set_option autoImplicit false
/-! V4: numbers and names as texts; lines joined and split; loops over two parts. -/
namespace R
open PySem PySem.Spec PyProof.Rows L2
open TL (tl len_tl ext_tl tl_append)
abbrev num (n : Nat) : Str := numS (n : Int)
theorem tl_num (n : Nat) : tl (num n) = TL.numL n := TL.tl_num n
theorem num_len {n : Nat} (h : n ≤ 999999) : (num n).length ≤ 6 := by
  have : (TL.numL n).length ≤ 6 := TL.numL_len (by decide) (by omega)
  rw [len_tl, tl_num]; exact this
theorem num_log {n : Nat} (h : n ≤ 999999) : NumOk (n : Int) := by
  refine ⟨?_⟩
  show n.log2 < 1920
  by_cases hn : n = 0
  · subst hn; decide
  · refine Nat.lt_of_lt_of_le ((Nat.log2_lt hn (k := 20)).mpr (by omega)) (by decide)
theorem numL_head : ∀ (k n : Nat), n < k → 0 < n → (TL.numL n).headD 0 ≠ 48
  | 0, n, h, _ => by omega
  | k + 1, n, h, h0 => by
    by_cases h10 : n < 10
    · rw [TL.numL_lt h10]
      show 48 + n ≠ 48
      omega
    · rw [TL.numL_step (by omega)]
      have ih := numL_head k (n / 10) (by omega) (by omega)
      cases e : TL.numL (n / 10) with
      | nil => exact absurd e (TL.numL_ne _)
      | cons c r => rw [e] at ih; exact ih
theorem dig_mem {c : Nat} (h0 : 48 ≤ c) (h1 : c ≤ 57) : c ∈ digL := by
  have : c = 48 ∨ c = 49 ∨ c = 50 ∨ c = 51 ∨ c = 52 ∨ c = 53 ∨ c = 54 ∨ c = 55 ∨ c = 56 ∨ c = 57 := by omega
  rcases this with h | h | h | h | h | h | h | h | h | h <;> subst h <;> decide
theorem numL_nb {n : Nat} (h : n ≤ 999999) : nbL (TL.numL n) = true := by
  have h6 : (TL.numL n).length ≤ 6 := TL.numL_len (by decide) (by omega)
  have h1 : 1 ≤ (TL.numL n).length := by
    cases e : TL.numL n with
    | nil => exact absurd e (TL.numL_ne n)
    | cons c r => simp
  have hd : ((TL.numL n).all fun c => decide (c ∈ digL)) = true := List.all_eq_true.mpr fun c hc => decide_eq_true (by
    have := TL.numL_digits n c hc
    exact dig_mem this.1 this.2)
  unfold nbL
  rw [hd]
  by_cases hn : n = 0
  · subst hn; decide
  · have := numL_head (n + 1) n (by omega) (by omega)
    simp only [h1, h6, and_self, decide_true, Bool.true_and, Bool.or_eq_true, bne_iff_ne]
    exact .inr this
theorem num_facts {n : Nat} (h : n ≤ 999999) : nbL (tl (num n)) = true ∧ 32 ∉ tl (num n) ∧ 10 ∉ tl (num n) := by
  rw [tl_num]
  exact ⟨numL_nb h, TL.numL_free (by omega), TL.numL_free (by omega)⟩
theorem num_int {n : Nat} (h : n ≤ 999999) : PySem.intText? (num n) = some (n : Int) := TL.int_num (by
  have : (TL.numL n).length ≤ 6 := TL.numL_len (by decide) (by omega)
  omega)
theorem sum_le : ∀ {ls : List Str} {k : Nat}, (∀ l ∈ ls, l.length ≤ k) → (ls.map (·.length)).sum ≤ ls.length * k
  | [], _, _ => by simp
  | l :: ls, k, h => by
    have := sum_le (ls := ls) (k := k) fun x hx => h x (List.mem_cons_of_mem _ hx)
    have := h l List.mem_cons_self
    simp only [List.map_cons, List.sum_cons, List.length_cons, Nat.add_mul, Nat.one_mul]
    omega
theorem split_w {ws : List Str} (h : ws ≠ [] ∧ ∀ p ∈ ws, 32 ∉ tl p) : Txt.split (Txt.join (Str.ofString " ") ws) (Str.ofString " ") = ws := TL.split_join (s := 32) (S := []) rfl (by decide +kernel) h.1 h.2
theorem split_n {ls : List Str} (h : ls ≠ [] ∧ ∀ p ∈ ls, 10 ∉ tl p) : Txt.split (Txt.join (Str.ofString "\n") ls) (Str.ofString "\n") = ls := TL.split_join (s := 10) (S := []) rfl (by decide +kernel) h.1 h.2
theorem join_len (y : Str) : ∀ ls : List Str, (Txt.join y ls).length ≤ (ls.map (·.length)).sum + ls.length * y.length := by
  intro ls
  rw [TL.join_eq]
  induction ls with
  | nil => simp [Str.join]; rfl
  | cons x ls ih =>
    cases ls with
    | nil => simp [Str.join]
    | cons z r =>
      show (x ++ y ++ Str.join y (z :: r)).length ≤ _
      rw [Str.length_append, Str.length_append]
      simp only [List.map_cons, List.sum_cons, List.length_cons, Nat.add_mul, Nat.one_mul] at ih ⊢
      omega
/-- a loop that runs through: what it knows ahead of each row -/
theorem loop_pre {ρ τ : Type} {tg : EvTg} {body : EvS} {g : ρ → D} (Rl : τ → En → Prop) (f : τ → ρ → τ) : ∀ (rows : List ρ) (s0 : τ) (ε0 : En), Rl s0 ε0 →
    (∀ pre r post ε, rows = pre ++ r :: post → Rl (pre.foldl f s0) ε → ∃ ε1, tg (.fro, g r) ε = some ε1 ∧ ∃ fl ε2, body ε1 = .ok fl ε2 ∧ (fl = .nx ∨ fl = .ct) ∧ Rl (f (pre.foldl f s0) r) ε2) →
    ∃ ε', Rl (rows.foldl f s0) ε' ∧ ∀ rest, loopF tg body (rows.map g ++ rest) ε0 = loopF tg body rest ε'
  | [], s0, ε0, h0, _ => ⟨ε0, h0, fun _ => rfl⟩
  | r :: rows, s0, ε0, h0, step => by
    obtain ⟨ε1, e1, fl, ε2, e2, hfl, h2⟩ := step [] r rows ε0 rfl h0
    obtain ⟨ε', h3, e3⟩ := loop_pre Rl f rows (f s0 r) ε2 h2 fun pre x post ε e h => step (r :: pre) x post ε (by rw [e]; rfl) h
    refine ⟨ε', h3, fun rest => ?_⟩
    show opt (tg (.fro, g r) ε0) (fun ε => (body ε).bind (flK (loopF tg body (rows.map g ++ rest)))) = _
    rw [e1, opt_some, e2, bind_ok]
    rcases hfl with rfl | rfl
    · rw [flK_nx, e3]
    · rw [flK_ct, e3]
theorem at_head {α : Type} (x : α) (l : List α) : atI (x :: l) 0 = some x := by
  have := atL (xs := x :: l) (j := 0)
  simpa using this
theorem enumD_append : ∀ (k : Int) (xs ys : List D), enumD k (xs ++ ys) = enumD k xs ++ enumD (k + xs.length) ys
  | k, [], ys => by simp [enumD]
  | k, x :: xs, ys => by
    simp only [List.cons_append, enumD, List.length_cons]
    rw [enumD_append (k + 1) xs ys]
    congr 3
    omega
end R
set_option autoImplicit false
set_option Elab.async false
set_option linter.all false
set_option autoImplicit false
set_option maxRecDepth 10000
/-! VL: lands. -/
namespace VL
open PySem PySem.Spec PyProof.Rows L2 R S
open TL (tl len_tl ext_tl tl_append)
/-- a list or a tuple -/
def sq (b : Bool) (ds : List R.D) : R.D := if b = true then .tup ds else .lst ds
@[simp] theorem sq_t (ds : List R.D) : sq true ds = .tup ds := rfl
@[simp] theorem sq_f (ds : List R.D) : sq false ds = .lst ds := rfl
@[simp] theorem seqW_sq (b : Bool) (ds : List R.D) : seqW (sq b ds) = some ds := by cases b <;> rfl
@[simp] theorem pLen_sq (b : Bool) (ds : List R.D) : pLen [sq b ds] = some (.int ds.length) := by cases b <;> rfl
@[simp] theorem pTuple_sq (b : Bool) (ds : List R.D) : pTuple (.fro, sq b ds) = some (.tp ds) := by cases b <;> rfl
def isNm (s : Str) : Bool := nmL (tl s)
theorem name_ok (s : Str) (hs : s.length ≤ 1000000) : M_is_name [(.fro, .str s)] = .ok (.fro, .bl (isNm s)) := is_name_ok s hs
theorem require_ok (b : Bool) : M_require [(.fro, .bl b)] = if b = true then .ok (.fro, .non) else .exc ⟨1, none⟩ := by
  cases b <;> simp [M_require, b_require, env0]
/-! ### no part twice -/
theorem any_map {α : Type} [DecidableEq α] (f : α → R.D) (he : ∀ a b, eqD (f a) (f b) = decide (a = b)) (x : α) : ∀ xs : List α, ((xs.map f).any fun d => eqD d (f x)) = decide (x ∈ xs)
  | [] => rfl
  | y :: ys => by
    rw [List.map_cons, List.any_cons, any_map f he x ys, he]
    by_cases h : y = x
    · subst h; simp
    · have : ¬ x = y := fun e => h e.symm
      simp [h, this]
theorem in_map {α : Type} [DecidableEq α] (f : α → R.D) (he : ∀ a b, eqD (f a) (f b) = decide (a = b)) (ho : ∀ a, okD 60 (f a) = true) (b : Bool) (x : α) (xs : List α) : pIn (f x) (sq b (xs.map f)) = some (.bl (decide (x ∈ xs))) := by
  have h1 : (xs.map f).all (okD 60) = true := by
    rw [List.all_eq_true]
    intro d hd
    obtain ⟨y, _, rfl⟩ := List.mem_map.mp hd
    exact ho y
  cases b <;> simp only [sq_t, sq_f, pIn, inD, ho, h1, and_self, if_true, Option.map_some, any_map f he]
theorem diff_loop {α : Type} [DecidableEq α] (f : α → R.D) (he : ∀ a b, eqD (f a) (f b) = decide (a = b)) (ho : ∀ a, okD 60 (f a) = true) (b : Bool) (xs : List α) :
    ∀ (suf pre : List α) (n p : Option Rv), xs = pre ++ suf → pre.Nodup → ∃ ε, loopF (gAny (gC1 (gNm 1) (gC1 (gNm 2) gN0)) 2) b_are_different_L1 (enumD (pre.length : Nat) (suf.map f)) [some (.fro, sq b (xs.map f)), n, p] =
      if xs.Nodup then .ok .nx ε else .ok (.rt (.fro, .bl false)) ε
  | [], pre, n, p, e, h => by
    rw [List.append_nil] at e
    subst e
    exact ⟨_, by rw [if_pos h]; rfl⟩
  | x :: suf, pre, n, p, e, h => by
    have hin := in_map f he ho b x pre
    have body : b_are_different_L1 [some (.fro, sq b (xs.map f)), some (.fro, .int (pre.length : Nat)), some (.fro, f x)] = if x ∈ pre then .ok (.rt (.fro, .bl false)) [some (.fro, sq b (xs.map f)), some (.fro, .int (pre.length : Nat)), some (.fro, f x)] else .ok .nx [some (.fro, sq b (xs.map f)), some (.fro, .int (pre.length : Nat)), some (.fro, f x)] := by
      have cut : cutL (xs.map f) none (some (pre.length : Nat)) = pre.map f := by
        rw [cut_take, e, List.map_append]
        exact List.take_left' (by simp)
      cases b
      · simp only [sq_f] at hin ⊢
        by_cases hx : x ∈ pre <;> simp [b_are_different_L1, cut, hin, hx]
      · simp only [sq_t] at hin ⊢
        by_cases hx : x ∈ pre <;> simp [b_are_different_L1, cut, hin, hx]
    have st : ∀ ε', loopF (gAny (gC1 (gNm 1) (gC1 (gNm 2) gN0)) 2) b_are_different_L1 (enumD (pre.length : Nat) ((x :: suf).map f)) [some (.fro, sq b (xs.map f)), n, p] = ε' ↔
        (b_are_different_L1 [some (.fro, sq b (xs.map f)), some (.fro, .int (pre.length : Nat)), some (.fro, f x)]).bind (flK (loopF (gAny (gC1 (gNm 1) (gC1 (gNm 2) gN0)) 2) b_are_different_L1 (enumD ((pre.length : Nat) + 1) (suf.map f)))) = ε' := fun ε' => Iff.rfl
    by_cases hx : x ∈ pre
    · refine ⟨[some (.fro, sq b (xs.map f)), some (.fro, .int (pre.length : Nat)), some (.fro, f x)], ?_⟩
      have nd : ¬ xs.Nodup := by
        rw [e, List.nodup_append]
        rintro ⟨_, _, d⟩
        exact d x hx x List.mem_cons_self rfl
      rw [st, body, if_pos hx, if_neg nd]
      rfl
    · obtain ⟨ε, h2⟩ := diff_loop f he ho b xs suf (pre ++ [x]) (some (.fro, .int (pre.length : Nat))) (some (.fro, f x)) (by rw [e]; simp) (by
        rw [List.nodup_append]
        exact ⟨h, by simp, fun a ha c hc => by rw [List.mem_singleton.mp hc]; rintro rfl; exact hx ha⟩)
      refine ⟨ε, ?_⟩
      rw [st, body, if_neg hx, bind_ok, flK_nx]
      rw [List.length_append, List.length_singleton] at h2
      exact_mod_cast h2
theorem diff_ok {α : Type} [DecidableEq α] (f : α → R.D) (he : ∀ a b, eqD (f a) (f b) = decide (a = b)) (ho : ∀ a, okD 60 (f a) = true) (b : Bool) (s : Sh) (hs : s.sol = true) (xs : List α) : M_are_different [(s, sq b (xs.map f))] = .ok (.fro, .bl (decide xs.Nodup)) := by
  obtain ⟨ε, h⟩ := diff_loop f he ho b xs xs [] none none rfl .nil
  have e0 : ((([] : List α).length : Nat) : Int) = 0 := rfl
  rw [e0] at h
  have ev : eVar 0 (env0 3 [(s, sq b (xs.map f))]) = .ok (.fro, sq b (xs.map f)) [some (.fro, sq b (xs.map f)), none, none] := by
    cases s with
    | fro => rfl
    | _ => simp [env0, hs]
  cases b
  · simp only [sq_f] at h ev ⊢
    by_cases hx : xs.Nodup
    · rw [if_pos hx] at h
      simp only [M_are_different, runF_def, b_are_different, sSeq_def, sFor_def, iEn_def, ev, bind_ok, h, Sh_sol_fro, if_true]
      simp [hx]
    · rw [if_neg hx] at h
      simp only [M_are_different, runF_def, b_are_different, sSeq_def, sFor_def, iEn_def, ev, bind_ok, h, Sh_sol_fro, if_true]
      simp [hx]
  · simp only [sq_t] at h ev ⊢
    by_cases hx : xs.Nodup
    · rw [if_pos hx] at h
      simp only [M_are_different, runF_def, b_are_different, sSeq_def, sFor_def, iEn_def, ev, bind_ok, h, Sh_sol_fro, if_true]
      simp [hx]
    · rw [if_neg hx] at h
      simp only [M_are_different, runF_def, b_are_different, sSeq_def, sFor_def, iEn_def, ev, bind_ok, h, Sh_sol_fro, if_true]
      simp [hx]
theorem eqD_strs (a b : Str) : eqD (.str a) (.str b) = decide (a = b) := by
  rw [eqD_str]
  by_cases h : a = b <;> simp [h]
theorem diff_strs (b : Bool) (xs : List Str) : M_are_different [(.fro, sq b (xs.map .str))] = .ok (.fro, .bl (decide xs.Nodup)) := diff_ok .str eqD_strs (okD_str 60) b .fro rfl xs
theorem bls_map {ρ : Type} (p : ρ → Bool) : ∀ xs : List ρ, bls (xs.map fun x => R.D.bl (p x)) = some (xs.map p)
  | [] => rfl
  | x :: xs => by
    show (bls (xs.map fun x => R.D.bl (p x))).map (p x :: ·) = _
    rw [bls_map p xs]
    rfl
theorem all_map {ρ : Type} (p : ρ → Bool) (xs : List ρ) : pAll [.lst (xs.map fun x => .bl (p x))] = some (.bl (xs.all p)) := by
  show (bls (xs.map fun x => R.D.bl (p x))).map (fun bs => R.D.bl (bs.all id)) = _
  rw [bls_map, Option.map_some]
  congr 2
  induction xs with
  | nil => rfl
  | cons x xs ih => simp [ih]
/-! ### the times of a link -/
def timeD : Option (Int × Int) → R.D
  | none => .non
  | some (a, b) => .tup [.int a, .int b]
def okPair (a b : Int) : Option (Option (Int × Int)) := if 1 ≤ a ∧ a ≤ b ∧ b ≤ 1000 then some (some (a, b)) else none
def chkPair : R.D → Option (Option (Int × Int))
  | .non => some none
  | .tup [.int a, .int b] => okPair a b
  | .lst [.int a, .int b] => okPair a b
  | _ => none
def GoodT (t : R.D) : Prop := t = .non ∨ ∃ b, ∃ is : List Int, is.length ≤ 1000 ∧ t = sq b (is.map .int)
theorem i20 (x y : R.D) : atI [x, y] 0 = some x := rfl
theorem i21 (x y : R.D) : atI [x, y] 1 = some y := rfl
theorem step_time {d : R.D} (h : GoodT d) (acc : List R.D) (z : acc.length < sizeLine) (a b : Option Rv) :
    b_checked_times_L1 M_require [a, b, some (.con .fro, .lst acc), some (.fro, d)] = match chkPair d with
      | some o => .ok .nx [a, b, some (.con .fro, .lst (acc ++ [timeD o])), some (.fro, timeD o)]
      | none => .exc ⟨1, none⟩ [a, b, some (.con .fro, .lst acc), some (.fro, d)] := by
  rcases h with rfl | ⟨t, is, hl, rfl⟩
  · simp [b_checked_times_L1, pIsN, chkPair, timeD, stow, lBack, z]
  · have two : is.length ≠ 2 → chkPair (sq t (is.map .int)) = none := fun h2 => by
      match is, h2 with
      | [], _ => cases t <;> rfl
      | [x], _ => cases t <;> rfl
      | [x, y], h2 => exact absurd rfl h2
      | x :: y :: w :: r, _ => cases t <;> rfl
    by_cases h2 : is.length = 2
    · match is, h2 with
      | [x, y], _ =>
        have r1 := require_ok (decide (1 ≤ x ∧ x ≤ y ∧ y ≤ 1000))
        by_cases c1 : 1 ≤ x
        · by_cases c2 : x ≤ y
          · by_cases c3 : y ≤ 1000
            · have r1 := require_ok true
              cases t <;> simp [b_checked_times_L1, pIsN, chkPair, okPair, i20, i21, c1, c2, c3, c_MOST_MINUTES, r1, pTuple, timeD, stow, lBack, z]
            · have r1 := require_ok false
              cases t <;> simp [b_checked_times_L1, pIsN, chkPair, okPair, i20, i21, c1, c2, c3, c_MOST_MINUTES, r1]
          · have r1 := require_ok false
            cases t <;> simp [b_checked_times_L1, pIsN, chkPair, okPair, i20, i21, c1, c2, c_MOST_MINUTES, r1]
        · have r1 := require_ok false
          cases t <;> simp [b_checked_times_L1, pIsN, chkPair, okPair, i20, i21, c1, c_MOST_MINUTES, r1]
    · have r1 := require_ok false
      have h3 : ((is.length : Int) == 2) = false := by
        rw [beq_eq_false_iff_ne]
        omega
      rw [two h2]
      cases t <;> simp [b_checked_times_L1, pIsN, h3, r1]
def chkTimes : List R.D → Option (List (Option (Int × Int)))
  | [] => some []
  | d :: ds => (chkPair d).bind fun o => (chkTimes ds).map (o :: ·)
theorem times_loop (a b : Option Rv) : ∀ (ds : List R.D) (acc : List R.D) (c : Option Rv), (∀ d ∈ ds, GoodT d) → acc.length + ds.length ≤ 1000 →
    ∃ ε, loopF (gNm 3) (b_checked_times_L1 M_require) ds [a, b, some (.con .fro, .lst acc), c] = match chkTimes ds with
      | some os => .ok .nx (a :: b :: some (.con .fro, .lst (acc ++ os.map timeD)) :: ε)
      | none => .exc ⟨1, none⟩ ε
  | [], acc, c, _, _ => ⟨[c], by simp [loopF, chkTimes]⟩
  | d :: ds, acc, c, h, hl => by
    have e := step_time (h d List.mem_cons_self) acc (lt_line (by omega)) a b
    have st : ∀ o, loopF (gNm 3) (b_checked_times_L1 M_require) (d :: ds) [a, b, some (.con .fro, .lst acc), c] = o ↔ (b_checked_times_L1 M_require [a, b, some (.con .fro, .lst acc), some (.fro, d)]).bind (flK (loopF (gNm 3) (b_checked_times_L1 M_require) ds)) = o := fun o => Iff.rfl
    cases hc : chkPair d with
    | none =>
      rw [hc] at e
      refine ⟨[a, b, some (.con .fro, .lst acc), some (.fro, d)], ?_⟩
      rw [st, e]
      simp [chkTimes, hc]
    | some o =>
      rw [hc] at e
      obtain ⟨ε, h2⟩ := times_loop a b ds (acc ++ [timeD o]) (some (.fro, timeD o)) (fun x hx => h x (List.mem_cons_of_mem _ hx)) (by simp at hl ⊢; omega)
      refine ⟨ε, ?_⟩
      rw [st, e]
      simp only [bind_ok, flK_nx, h2, chkTimes, hc, Option.bind_some]
      cases chkTimes ds <;> simp
theorem times_ok (b : Bool) (ds : List R.D) (h : ∀ d ∈ ds, GoodT d) (hl : ds.length ≤ 1000) (many : Nat) :
    M_checked_times [(.fro, sq b ds), (.fro, .int many)] = if ds.length = many then (match chkTimes ds with | some os => .ok (.fro, .tup (os.map timeD)) | none => .exc ⟨1, none⟩) else .exc ⟨1, none⟩ := by
  obtain ⟨ε, e⟩ := times_loop (some (.fro, sq b ds)) (some (.fro, .int many)) ds [] none h (by simpa using hl)
  by_cases hm : ds.length = many
  · have hb : ((ds.length : Int) == (many : Int)) = true := by rw [hm]; exact beq_self_eq_true _
    have r1 := require_ok true
    rw [if_pos hm]
    cases hc : chkTimes ds with
    | none =>
      rw [hc] at e
      cases b <;> simp only [sq_t, sq_f] at e ⊢ <;> simp [M_checked_times, b_checked_times, env0, hb, r1, e]
    | some os =>
      rw [hc] at e
      cases b <;> simp only [sq_t, sq_f] at e ⊢ <;> simp [M_checked_times, b_checked_times, env0, hb, r1, e, pTuple]
  · have hb : ((ds.length : Int) == (many : Int)) = false := by rw [beq_eq_false_iff_ne]; omega
    have r1 := require_ok false
    rw [if_neg hm]
    cases b <;> simp [M_checked_times, b_checked_times, env0, hb, r1]
/-! ### links, paths -/
def seqOf : R.D → Option (List R.D)
  | .lst ds => some ds
  | .tup ds => some ds
  | _ => none
@[simp] theorem seqOf_sq (b : Bool) (ds : List R.D) : seqOf (sq b ds) = some ds := by cases b <;> rfl
structure Lk where
  name : Str
  one : Str
  other : Str
  times : List (Option (Int × Int))
  deriving DecidableEq
structure Pt where
  one : Str
  other : Str
  minutes : Int
  deriving DecidableEq
def linkD (l : Lk) : R.D := .tup [.str l.name, .str l.one, .str l.other, .tup (l.times.map timeD)]
def pathD (p : Pt) : R.D := .tup [.str p.one, .str p.other, .int p.minutes]
def chkLinkL (W P : List Str) : List R.D → Option Lk
  | [.str n, .str o, .str p, t] => (seqOf t).bind fun ts => if isNm n = true ∧ (o ∈ P ∧ p ∈ P ∧ o ≠ p) ∧ ts.length = W.length then (chkTimes ts).map fun us => ⟨n, o, p, us⟩ else none
  | _ => none
def chkLink (W P : List Str) (d : R.D) : Option Lk := (seqOf d).bind (chkLinkL W P)
def chkPathL (P : List Str) : List R.D → Option Pt
  | [.str o, .str p, .int m] => if (o ∈ P ∧ p ∈ P ∧ o ≠ p) ∧ 1 ≤ m ∧ m ≤ 1000 then some ⟨o, p, m⟩ else none
  | _ => none
def chkPath (P : List Str) (d : R.D) : Option Pt := (seqOf d).bind (chkPathL P)
def GoodL (d : R.D) : Prop := ∃ b ds, d = sq b ds ∧ ds.length ≤ 1000 ∧ (ds.length ≠ 4 ∨ ∃ n o p t ts, ds = [.str n, .str o, .str p, sq t ts] ∧ n.length ≤ 1000000 ∧ (∀ x ∈ ts, GoodT x) ∧ ts.length ≤ 1000)
def GoodP (d : R.D) : Prop := ∃ b ds, d = sq b ds ∧ ds.length ≤ 1000 ∧ (ds.length ≠ 3 ∨ ∃ o p m, ds = [.str o, .str p, .int m])
/-- the shape of an instance that is handed on -/
def Rd1 (s : Sh) : Prop := s = .fro ∨ s = .lnt
/-- a land, or what there is of it -/
def selfD (W P : List Str) (r : List R.D) : R.D := .obj 0 (.tup (W.map .str) :: .tup (P.map .str) :: r)
theorem ends_ok {s : Sh} (hs : Rd1 s) (W P : List Str) (r : List R.D) (o p : Str) : M_Land_are_ends [(s, selfD W P r), (.fro, .str o), (.fro, .str p)] = .ok (.fro, .bl (decide (o ∈ P ∧ p ∈ P ∧ o ≠ p))) := by
  have h1 := in_map .str eqD_strs (okD_str 60) true o P
  have h2 := in_map .str eqD_strs (okD_str 60) true p P
  simp only [sq_t] at h1 h2
  have h3 : (o == p) = decide (o = p) := by by_cases h : o = p <;> simp [h]
  by_cases c1 : o ∈ P
  · by_cases c2 : p ∈ P
    · by_cases c3 : o = p
      · rcases hs with rfl | rfl <;> simp [M_Land_are_ends, b_Land_are_ends, env0, selfD, h1, h2, c1, c2, c3]
      · rcases hs with rfl | rfl <;> simp [M_Land_are_ends, b_Land_are_ends, env0, selfD, h1, h2, c1, c2, c3]
    · rcases hs with rfl | rfl <;> simp [M_Land_are_ends, b_Land_are_ends, env0, selfD, h1, h2, c1, c2]
  · rcases hs with rfl | rfl <;> simp [M_Land_are_ends, b_Land_are_ends, env0, selfD, h1, c1]
theorem link_ok {s : Sh} (hs : Rd1 s) (W P : List Str) (r : List R.D) {d : R.D} (h : GoodL d) :
    M_Land_checked_link [(s, selfD W P r), (.fro, d)] = match chkLink W P d with | some l => .ok (.fro, linkD l) | none => .exc ⟨1, none⟩ := by
  obtain ⟨b, ds, rfl, hl, h | ⟨n, o, p, t, ts, rfl, hn, ht, hts⟩⟩ := h
  · have c0 : chkLink W P (sq b ds) = none := by
      unfold chkLink
      rw [seqOf_sq, Option.bind_some]
      unfold chkLinkL
      split
      · simp at h
      · rfl
    have hb : ((ds.length : Int) == 4) = false := by rw [beq_eq_false_iff_ne]; omega
    have r1 := require_ok false
    rw [c0]
    cases b <;> simp [M_Land_checked_link, b_Land_checked_link, env0, hb, r1]
  · have r0 := require_ok true
    have r1 := require_ok false
    have nm := name_ok n hn
    have en := ends_ok hs W P r o p
    have tm := times_ok t ts ht hts W.length
    have c0 : chkLink W P (sq b [.str n, .str o, .str p, sq t ts]) = if isNm n = true ∧ (o ∈ P ∧ p ∈ P ∧ o ≠ p) ∧ ts.length = W.length then (chkTimes ts).map fun us => ⟨n, o, p, us⟩ else none := by
      unfold chkLink
      rw [seqOf_sq, Option.bind_some]
      show ((seqOf (sq t ts)).bind fun ts => if isNm n = true ∧ (o ∈ P ∧ p ∈ P ∧ o ≠ p) ∧ ts.length = W.length then (chkTimes ts).map fun us => (⟨n, o, p, us⟩ : Lk) else none) = _
      rw [seqOf_sq, Option.bind_some]
    rw [c0]
    have tm2 : ∀ k : Int, k = W.length → M_checked_times [(.fro, sq t ts), (.fro, .int k)] = if ts.length = W.length then (match chkTimes ts with | some os => .ok (.fro, .tup (os.map timeD)) | none => .exc ⟨1, none⟩) else .exc ⟨1, none⟩ := fun k hk => hk ▸ tm
    have e4 : ((4 : Int) == 4) = true := rfl
    by_cases q1 : isNm n = true
    · by_cases q2 : o ∈ P ∧ p ∈ P ∧ o ≠ p
      · rw [decide_eq_true q2] at en
        by_cases q3 : ts.length = W.length
        · rw [if_pos ⟨q1, q2, q3⟩]
          rw [if_pos q3] at tm
          cases hc : chkTimes ts with
          | none =>
            rw [hc] at tm
            rcases hs with rfl | rfl <;> cases b <;> cases t <;> simp only [sq_t, sq_f, selfD] at * <;> simp [M_Land_checked_link, b_Land_checked_link, env0, r0, nm, en, tm, q1]
          | some us =>
            rw [hc] at tm
            rcases hs with rfl | rfl <;> cases b <;> cases t <;> simp only [sq_t, sq_f, selfD] at * <;> simp [M_Land_checked_link, b_Land_checked_link, env0, r0, nm, en, tm, q1, linkD]
        · rw [if_neg fun z => q3 z.2.2]
          rw [if_neg q3] at tm
          rcases hs with rfl | rfl <;> cases b <;> cases t <;> simp only [sq_t, sq_f, selfD] at * <;> simp [M_Land_checked_link, b_Land_checked_link, env0, r0, nm, en, tm, q1]
      · rw [decide_eq_false q2] at en
        rw [if_neg fun z => q2 z.2.1]
        rcases hs with rfl | rfl <;> cases b <;> cases t <;> simp only [sq_t, sq_f, selfD] at * <;> simp [M_Land_checked_link, b_Land_checked_link, env0, r0, r1, nm, en, q1]
    · rw [if_neg fun z => q1 z.1]
      have q1 : isNm n = false := by simpa using q1
      rcases hs with rfl | rfl <;> cases b <;> cases t <;> simp only [sq_t, sq_f, selfD] at * <;> simp [M_Land_checked_link, b_Land_checked_link, env0, r0, r1, nm, q1]
theorem path_ok {s : Sh} (hs : Rd1 s) (W P : List Str) (r : List R.D) {d : R.D} (h : GoodP d) :
    M_Land_checked_path [(s, selfD W P r), (.fro, d)] = match chkPath P d with | some l => .ok (.fro, pathD l) | none => .exc ⟨1, none⟩ := by
  obtain ⟨b, ds, rfl, hl, h | ⟨o, p, m, rfl⟩⟩ := h
  · have c0 : chkPath P (sq b ds) = none := by
      unfold chkPath
      rw [seqOf_sq, Option.bind_some]
      unfold chkPathL
      split
      · simp at h
      · rfl
    have hb : ((ds.length : Int) == 3) = false := by rw [beq_eq_false_iff_ne]; omega
    have r1 := require_ok false
    rw [c0]
    cases b <;> simp [M_Land_checked_path, b_Land_checked_path, env0, hb, r1]
  · have r0 := require_ok true
    have r1 := require_ok false
    have en := ends_ok hs W P r o p
    have c0 : chkPath P (sq b [.str o, .str p, .int m]) = if (o ∈ P ∧ p ∈ P ∧ o ≠ p) ∧ 1 ≤ m ∧ m ≤ 1000 then some ⟨o, p, m⟩ else none := by
      unfold chkPath
      rw [seqOf_sq, Option.bind_some]
      rfl
    rw [c0]
    by_cases q2 : o ∈ P ∧ p ∈ P ∧ o ≠ p
    · rw [decide_eq_true q2] at en
      by_cases q3 : 1 ≤ m
      · by_cases q4 : m ≤ 1000
        · rw [if_pos ⟨q2, q3, q4⟩]
          rcases hs with rfl | rfl <;> cases b <;> simp only [sq_t, sq_f, selfD] at * <;> simp [M_Land_checked_path, b_Land_checked_path, env0, r0, en, q3, q4, c_MOST_MINUTES, pathD]
        · rw [if_neg fun z => q4 z.2.2]
          rcases hs with rfl | rfl <;> cases b <;> simp only [sq_t, sq_f, selfD] at * <;> simp [M_Land_checked_path, b_Land_checked_path, env0, r0, r1, en, q3, q4, c_MOST_MINUTES]
      · rw [if_neg fun z => q3 z.2.1]
        rcases hs with rfl | rfl <;> cases b <;> simp only [sq_t, sq_f, selfD] at * <;> simp [M_Land_checked_path, b_Land_checked_path, env0, r0, r1, en, q3, c_MOST_MINUTES]
    · rw [decide_eq_false q2] at en
      rw [if_neg fun z => q2 z.1]
      rcases hs with rfl | rfl <;> cases b <;> simp only [sq_t, sq_f, selfD] at * <;> simp [M_Land_checked_path, b_Land_checked_path, env0, r0, r1, en]
/-! ### a land is made -/
theorem names_ok {s : Sh} (hs : Rd1 s) (w p : R.D) (ls : List Lk) (r : List R.D) (hl : ls.length ≤ 1000) : M_Land_link_names [(s, .obj 0 (w :: p :: .tup (ls.map linkD) :: r))] = .ok (.fro, .tup (ls.map fun l => .str l.name)) := by
  have l1 := fun (a : Option Rv) => lc_rows0 (tg := gNm 1) (elt := b_Land_link_names_X1) (own := [1]) (g := linkD) (h := fun l => .str l.name) (ε := [a, none]) ls
    (fun l _ => ⟨_, (.fro, .str l.name), [a, some (.fro, linkD l)], rfl, by simp [b_Land_link_names_X1, linkD, at_head], rfl, rfl, rfl⟩) (le_line (by omega))
  rcases hs with rfl | rfl <;> simp [M_Land_link_names, b_Land_link_names, env0, clr, rst, l1, pTuple]
def chkLinks (W P : List Str) : List R.D → Option (List Lk)
  | [] => some []
  | d :: ds => (chkLink W P d).bind fun l => (chkLinks W P ds).map (l :: ·)
def chkPaths (P : List Str) : List R.D → Option (List Pt)
  | [] => some []
  | d :: ds => (chkPath P d).bind fun l => (chkPaths P ds).map (l :: ·)
theorem chkLinks_len {W P : List Str} : ∀ {ds : List R.D} {ls : List Lk}, chkLinks W P ds = some ls → ls.length = ds.length
  | [], ls, h => by cases h; rfl
  | d :: ds, ls, h => by
    simp only [chkLinks, Option.bind_eq_some_iff, Option.map_eq_some_iff] at h
    obtain ⟨l, _, r, h2, rfl⟩ := h
    simp [chkLinks_len h2]
theorem chkPaths_len {P : List Str} : ∀ {ds : List R.D} {ls : List Pt}, chkPaths P ds = some ls → ls.length = ds.length
  | [], ls, h => by cases h; rfl
  | d :: ds, ls, h => by
    simp only [chkPaths, Option.bind_eq_some_iff, Option.map_eq_some_iff] at h
    obtain ⟨l, _, r, h2, rfl⟩ := h
    simp [chkPaths_len h2]
theorem lcE_links (W P : List Str) (a : Addr) (x1 x2 x3 x4 x5 x6 x8 : Option Rv) : ∀ (ds acc : List R.D), (∀ d ∈ ds, GoodL d) → acc.length + ds.length ≤ 1000 →
    ∃ ε, lcLoopE (gNm 7) tYes' (b_Land_init_X3 M_Land_checked_link) [7] ds acc [some (.slf a [.fro, .fro], selfD W P []), x1, x2, x3, x4, x5, x6, none, x8] = match chkLinks W P ds with
      | some ls => .ok (acc ++ ls.map linkD) [some (.slf a [.fro, .fro], selfD W P []), x1, x2, x3, x4, x5, x6, none, x8]
      | none => .exc ⟨1, none⟩ ε
  | [], acc, _, _ => ⟨[], by simp [lcLoopE, chkLinks]⟩
  | d :: ds, acc, h, hl => by
    have e := link_ok (.inr rfl) W P [] (h d List.mem_cons_self)
    have z : acc.length < sizeLine := lt_line (by simp at hl; omega)
    have cl : clsOf (selfD W P []) = some 0 := rfl
    have ex : ∀ q, M_Land_checked_link [(.lnt, selfD W P []), (.fro, d)] = q → b_Land_init_X3 M_Land_checked_link [some (.slf a [.fro, .fro], selfD W P []), x1, x2, x3, x4, x5, x6, some (.fro, d), x8] = frOut q [some (.slf a [.fro, .fro], selfD W P []), x1, x2, x3, x4, x5, x6, some (.fro, d), x8] := fun q hq => by
      simp [b_Land_init_X3, cl, hq]
    have st : ∀ o, lcLoopE (gNm 7) tYes' (b_Land_init_X3 M_Land_checked_link) [7] (d :: ds) acc [some (.slf a [.fro, .fro], selfD W P []), x1, x2, x3, x4, x5, x6, none, x8] = o ↔
      ((b_Land_init_X3 M_Land_checked_link [some (.slf a [.fro, .fro], selfD W P []), x1, x2, x3, x4, x5, x6, some (.fro, d), x8]).bind fun r ε => if r.1.sol = true ∧ acc.length < sizeLine then lcLoopE (gNm 7) tYes' (b_Land_init_X3 M_Land_checked_link) [7] ds (acc ++ [r.2]) (clr [7] ε) else .bad) = o := fun o => Iff.rfl
    cases hc : chkLink W P d with
    | none =>
      rw [hc] at e
      refine ⟨[some (.slf a [.fro, .fro], selfD W P []), x1, x2, x3, x4, x5, x6, some (.fro, d), x8], ?_⟩
      rw [st, ex _ e]
      simp [chkLinks, hc]
    | some l =>
      rw [hc] at e
      obtain ⟨ε, h2⟩ := lcE_links W P a x1 x2 x3 x4 x5 x6 x8 ds (acc ++ [linkD l]) (fun x hx => h x (List.mem_cons_of_mem _ hx)) (by simp at hl ⊢; omega)
      refine ⟨ε, ?_⟩
      rw [st, ex _ e]
      simp only [frOut_ok, Sh_sol_fro, if_true, bind_ok, true_and, z]
      rw [show clr [7] [some (.slf a [.fro, .fro], selfD W P []), x1, x2, x3, x4, x5, x6, some (.fro, d), x8] = [some (.slf a [.fro, .fro], selfD W P []), x1, x2, x3, x4, x5, x6, none, x8] from rfl, h2]
      simp only [chkLinks, hc, Option.bind_some]
      cases chkLinks W P ds <;> simp
theorem lcE_paths (W P : List Str) (L : R.D) (a : Addr) (x1 x2 x3 x4 x5 x6 x7 : Option Rv) : ∀ (ds acc : List R.D), (∀ d ∈ ds, GoodP d) → acc.length + ds.length ≤ 1000 →
    ∃ ε, lcLoopE (gNm 8) tYes' (b_Land_init_X4 M_Land_checked_path) [8] ds acc [some (.slf a [.fro, .fro, .fro], selfD W P [L]), x1, x2, x3, x4, x5, x6, x7, none] = match chkPaths P ds with
      | some ls => .ok (acc ++ ls.map pathD) [some (.slf a [.fro, .fro, .fro], selfD W P [L]), x1, x2, x3, x4, x5, x6, x7, none]
      | none => .exc ⟨1, none⟩ ε
  | [], acc, _, _ => ⟨[], by simp [lcLoopE, chkPaths]⟩
  | d :: ds, acc, h, hl => by
    have e := path_ok (.inr rfl) W P [L] (h d List.mem_cons_self)
    have z : acc.length < sizeLine := lt_line (by simp at hl; omega)
    have cl : clsOf (selfD W P [L]) = some 0 := rfl
    have ex : ∀ q, M_Land_checked_path [(.lnt, selfD W P [L]), (.fro, d)] = q → b_Land_init_X4 M_Land_checked_path [some (.slf a [.fro, .fro, .fro], selfD W P [L]), x1, x2, x3, x4, x5, x6, x7, some (.fro, d)] = frOut q [some (.slf a [.fro, .fro, .fro], selfD W P [L]), x1, x2, x3, x4, x5, x6, x7, some (.fro, d)] := fun q hq => by
      simp [b_Land_init_X4, cl, hq]
    have st : ∀ o, lcLoopE (gNm 8) tYes' (b_Land_init_X4 M_Land_checked_path) [8] (d :: ds) acc [some (.slf a [.fro, .fro, .fro], selfD W P [L]), x1, x2, x3, x4, x5, x6, x7, none] = o ↔
      ((b_Land_init_X4 M_Land_checked_path [some (.slf a [.fro, .fro, .fro], selfD W P [L]), x1, x2, x3, x4, x5, x6, x7, some (.fro, d)]).bind fun r ε => if r.1.sol = true ∧ acc.length < sizeLine then lcLoopE (gNm 8) tYes' (b_Land_init_X4 M_Land_checked_path) [8] ds (acc ++ [r.2]) (clr [8] ε) else .bad) = o := fun o => Iff.rfl
    cases hc : chkPath P d with
    | none =>
      rw [hc] at e
      refine ⟨[some (.slf a [.fro, .fro, .fro], selfD W P [L]), x1, x2, x3, x4, x5, x6, x7, some (.fro, d)], ?_⟩
      rw [st, ex _ e]
      simp [chkPaths, hc]
    | some l =>
      rw [hc] at e
      obtain ⟨ε, h2⟩ := lcE_paths W P L a x1 x2 x3 x4 x5 x6 x7 ds (acc ++ [pathD l]) (fun x hx => h x (List.mem_cons_of_mem _ hx)) (by simp at hl ⊢; omega)
      refine ⟨ε, ?_⟩
      rw [st, ex _ e]
      simp only [frOut_ok, Sh_sol_fro, if_true, bind_ok, true_and, z]
      rw [show clr [8] [some (.slf a [.fro, .fro, .fro], selfD W P [L]), x1, x2, x3, x4, x5, x6, x7, some (.fro, d)] = [some (.slf a [.fro, .fro, .fro], selfD W P [L]), x1, x2, x3, x4, x5, x6, x7, none] from rfl, h2]
      simp only [chkPaths, hc, Option.bind_some]
      cases chkPaths P ds <;> simp
/-- the ends of a path, the lesser one first -/
def pairOf (p : Pt) : List Str := sortS [p.one, p.other]
def strsTup (l : List Str) : R.D := .tup (l.map .str)
theorem eqDs_strs : ∀ a b : List Str, eqDs (a.map .str) (b.map .str) = decide (a = b)
  | [], [] => rfl
  | [], _ :: _ => rfl
  | _ :: _, [] => rfl
  | x :: a, y :: b => by
    show (eqD (.str x) (.str y) && eqDs (a.map .str) (b.map .str)) = _
    rw [eqD_strs, eqDs_strs a b]
    by_cases h1 : x = y <;> by_cases h2 : a = b <;> simp [h1, h2]
theorem eqD_strsTup (a b : List Str) : eqD (strsTup a) (strsTup b) = decide (a = b) := by
  unfold strsTup
  rw [eqD_tup, eqDs_strs]
theorem okD_strs (l : List Str) (n : Nat) : (l.map R.D.str).all (okD n) = true := by
  rw [List.all_eq_true]
  intro d hd
  obtain ⟨x, _, rfl⟩ := List.mem_map.mp hd
  exact okD_str n x
theorem okD_strsTup (a : List Str) : okD 60 (strsTup a) = true := okD_strs a 59
structure LandV where
  winds : List Str
  places : List Str
  links : List Lk
  paths : List Pt
def landD (v : LandV) : R.D := selfD v.winds v.places [.tup (v.links.map linkD), .tup (v.paths.map pathD)]
def chkLand (W P : List Str) (Ls Ps : List R.D) : Option LandV :=
  if (1 ≤ W.length ∧ W.length ≤ 4 ∧ W.all isNm = true ∧ W.Nodup) ∧ (1 ≤ P.length ∧ P.length ≤ 24 ∧ P.all isNm = true ∧ P.Nodup) ∧ Ls.length ≤ 60 then
    (chkLinks W P Ls).bind fun ls => if (ls.map (·.name)).Nodup ∧ Ps.length ≤ 60 then (chkPaths P Ps).bind fun ps => if (ps.map pairOf).Nodup then some ⟨W, P, ls, ps⟩ else none else none
  else none
theorem nm_all (W : List Str) (hw : ∀ w ∈ W, w.length ≤ 1000000) (hl : W.length ≤ 1000) (x0 x1 x2 x3 x4 x6 x7 x8 : Option Rv) :
    lcLoop (gNm 5) tYes' (b_Land_init_X1 M_is_name) [5] (W.map .str) [] [x0, x1, x2, x3, x4, none, x6, x7, x8] = .ok (W.map fun w => .bl (isNm w)) [x0, x1, x2, x3, x4, none, x6, x7, x8] :=
  lc_rows0 (g := .str) (h := fun w => .bl (isNm w)) W (fun w h => ⟨_, (.fro, .bl (isNm w)), [x0, x1, x2, x3, x4, some (.fro, .str w), x6, x7, x8], rfl, by simp [b_Land_init_X1, name_ok w (hw w h)], rfl, rfl, rfl⟩) (le_line (by omega))
theorem pl_all (W : List Str) (hw : ∀ w ∈ W, w.length ≤ 1000000) (hl : W.length ≤ 1000) (x0 x1 x2 x3 x4 x5 x7 x8 : Option Rv) :
    lcLoop (gNm 6) tYes' (b_Land_init_X2 M_is_name) [6] (W.map .str) [] [x0, x1, x2, x3, x4, x5, none, x7, x8] = .ok (W.map fun w => .bl (isNm w)) [x0, x1, x2, x3, x4, x5, none, x7, x8] :=
  lc_rows0 (g := .str) (h := fun w => .bl (isNm w)) W (fun w h => ⟨_, (.fro, .bl (isNm w)), [x0, x1, x2, x3, x4, x5, some (.fro, .str w), x7, x8], rfl, by simp [b_Land_init_X2, name_ok w (hw w h)], rfl, rfl, rfl⟩) (le_line (by omega))
theorem pr_all (ps : List Pt) (hl : ps.length ≤ 1000) (x0 x1 x2 x3 x4 x5 x6 x7 : Option Rv) :
    lcLoop (gNm 8) tYes' b_Land_init_X5 [8] (ps.map pathD) [] [x0, x1, x2, x3, x4, x5, x6, x7, none] = .ok ((ps.map pairOf).map strsTup) [x0, x1, x2, x3, x4, x5, x6, x7, none] := by
  rw [List.map_map]
  refine lc_rows0 (g := pathD) (h := strsTup ∘ pairOf) ps (fun p _ => ⟨_, (.fro, strsTup (pairOf p)), [x0, x1, x2, x3, x4, x5, x6, x7, some (.fro, pathD p)], rfl, ?_, rfl, rfl, rfl⟩) (le_line (by omega))
  have cut : cutL [R.D.str p.one, .str p.other, .int p.minutes] none (some 2) = [.str p.one, .str p.other] := rfl
  have st : strsR (.fro, .tup [.str p.one, .str p.other]) = some (true, [p.one, p.other]) := rfl
  simp [b_Land_init_X5, pathD, cut, st, pTuple, strsTup, pairOf]
theorem init_ok (b1 b2 b3 b4 : Bool) (W P : List Str) (Ls Ps : List R.D) (hW : ∀ w ∈ W, w.length ≤ 1000000) (hP : ∀ w ∈ P, w.length ≤ 1000000) (lW : W.length ≤ 1000) (lP : P.length ≤ 1000) (lL : Ls.length ≤ 1000) (lPs : Ps.length ≤ 1000)
    (gL : ∀ d ∈ Ls, GoodL d) (gP : ∀ d ∈ Ps, GoodP d) : M_Land_init [(.fro, sq b1 (W.map .str)), (.fro, sq b2 (P.map .str)), (.fro, sq b3 Ls), (.fro, sq b4 Ps)] = match chkLand W P Ls Ps with
      | some v => .ok (.obj [.fro, .fro, .fro, .fro], landD v)
      | none => .exc ⟨1, none⟩ := by
  refine unI_eq fun a => ?_
  have r0 := require_ok true
  have r1 := require_ok false
  simp only [if_true, Bool.false_eq_true, if_false] at r0 r1
  have nw := nm_all W hW lW
  have np := pl_all P hP lP
  have aw := all_map isNm W
  have ap := all_map isNm P
  have dw := diff_strs b1 W
  have dp := diff_strs b2 P
  unfold chkLand
  by_cases c1 : 1 ≤ W.length
  case neg =>
    have k : ¬ (1 : Int) ≤ W.length := by omega
    rw [if_neg fun z => c1 z.1.1]
    simp [b_Land_init, env0, k, r1]
  have k1 : (1 : Int) ≤ W.length := by omega
  by_cases c2 : W.length ≤ 4
  case neg =>
    have k : ¬ (W.length : Int) ≤ 4 := by omega
    rw [if_neg fun z => c2 z.1.2.1]
    simp [b_Land_init, env0, k1, k, r1, c_MOST_WINDS]
  have k2 : (W.length : Int) ≤ 4 := by omega
  by_cases c3 : W.all isNm = true
  case neg =>
    rw [if_neg fun z => c3 z.1.2.2.1]
    have c3 : W.all isNm = false := by simpa using c3
    rw [c3] at aw
    simp [b_Land_init, env0, k1, k2, r1, c_MOST_WINDS, clr, rst, nw, aw]
  rw [c3] at aw
  by_cases c4 : W.Nodup
  case neg =>
    rw [if_neg fun z => c4 z.1.2.2.2]
    rw [decide_eq_false c4] at dw
    simp [b_Land_init, env0, k1, k2, r1, c_MOST_WINDS, clr, rst, nw, aw, dw]
  rw [decide_eq_true c4] at dw
  by_cases d1 : 1 ≤ P.length
  case neg =>
    have k : ¬ (1 : Int) ≤ P.length := by omega
    rw [if_neg fun z => d1 z.2.1.1]
    simp [b_Land_init, env0, k1, k2, r0, r1, c_MOST_WINDS, clr, rst, nw, aw, dw, k]
  have j1 : (1 : Int) ≤ P.length := by omega
  by_cases d2 : P.length ≤ 24
  case neg =>
    have k : ¬ (P.length : Int) ≤ 24 := by omega
    rw [if_neg fun z => d2 z.2.1.2.1]
    simp [b_Land_init, env0, k1, k2, r0, r1, c_MOST_WINDS, c_MOST_PLACES, clr, rst, nw, aw, dw, j1, k]
  have j2 : (P.length : Int) ≤ 24 := by omega
  by_cases d3 : P.all isNm = true
  case neg =>
    rw [if_neg fun z => d3 z.2.1.2.2.1]
    have d3 : P.all isNm = false := by simpa using d3
    rw [d3] at ap
    simp [b_Land_init, env0, k1, k2, r0, r1, c_MOST_WINDS, c_MOST_PLACES, clr, rst, nw, aw, dw, j1, j2, np, ap]
  rw [d3] at ap
  by_cases d4 : P.Nodup
  case neg =>
    rw [if_neg fun z => d4 z.2.1.2.2.2]
    rw [decide_eq_false d4] at dp
    simp [b_Land_init, env0, k1, k2, r0, r1, c_MOST_WINDS, c_MOST_PLACES, clr, rst, nw, aw, dw, j1, j2, np, ap, dp]
  rw [decide_eq_true d4] at dp
  by_cases e1 : Ls.length ≤ 60
  case neg =>
    have k : ¬ (Ls.length : Int) ≤ 60 := by omega
    rw [if_neg fun z => e1 z.2.2]
    simp [b_Land_init, env0, k1, k2, r0, r1, c_MOST_WINDS, c_MOST_PLACES, c_MOST_LINKS, clr, rst, nw, aw, dw, j1, j2, np, ap, dp, k]
  have i1 : (Ls.length : Int) ≤ 60 := by omega
  rw [if_pos ⟨⟨c1, c2, c3, c4⟩, ⟨d1, d2, d3, d4⟩, e1⟩]
  obtain ⟨ε1, lk⟩ := lcE_links W P a (some (.fro, sq b1 (W.map .str))) (some (.fro, sq b2 (P.map .str))) (some (.fro, sq b3 Ls)) (some (.fro, sq b4 Ps)) none none none Ls [] gL (by simpa using lL)
  simp only [List.nil_append, selfD] at lk
  cases hls : chkLinks W P Ls with
  | none =>
    rw [hls] at lk
    simp [b_Land_init, env0, k1, k2, r0, r1, c_MOST_WINDS, c_MOST_PLACES, c_MOST_LINKS, clr, rst, nw, aw, dw, j1, j2, np, ap, dp, i1, lk]
  | some ls =>
    rw [hls] at lk
    simp only [Option.bind_some]
    have lls : ls.length ≤ 1000 := by rw [chkLinks_len hls]; exact lL
    have nm := names_ok (.inr rfl) (.tup (W.map .str)) (.tup (P.map .str)) ls [] lls
    have dn : M_are_different [(.fro, .tup (ls.map fun l => R.D.str l.name))] = .ok (.fro, .bl (decide (ls.map (·.name)).Nodup)) := by
      have h := diff_strs true (ls.map (·.name))
      rw [sq_t, List.map_map] at h
      exact h
    by_cases f1 : (ls.map (·.name)).Nodup
    case neg =>
      rw [if_neg fun z => f1 z.1]
      rw [decide_eq_false f1] at dn
      simp [b_Land_init, env0, k1, k2, r0, r1, c_MOST_WINDS, c_MOST_PLACES, c_MOST_LINKS, clr, rst, nw, aw, dw, j1, j2, np, ap, dp, i1, lk, nm, dn]
    rw [decide_eq_true f1] at dn
    by_cases f2 : Ps.length ≤ 60
    case neg =>
      have k : ¬ (Ps.length : Int) ≤ 60 := by omega
      rw [if_neg fun z => f2 z.2]
      simp [b_Land_init, env0, k1, k2, r0, r1, c_MOST_WINDS, c_MOST_PLACES, c_MOST_LINKS, c_MOST_PATHS, clr, rst, nw, aw, dw, j1, j2, np, ap, dp, i1, lk, nm, dn, k]
    have g1 : (Ps.length : Int) ≤ 60 := by omega
    rw [if_pos ⟨f1, f2⟩]
    obtain ⟨ε2, pk⟩ := lcE_paths W P (.tup (ls.map linkD)) a (some (.fro, sq b1 (W.map .str))) (some (.fro, sq b2 (P.map .str))) (some (.fro, sq b3 Ls)) (some (.fro, sq b4 Ps)) none none none Ps [] gP (by simpa using lPs)
    simp only [List.nil_append, selfD] at pk
    cases hps : chkPaths P Ps with
    | none =>
      rw [hps] at pk
      simp [b_Land_init, env0, k1, k2, r0, r1, c_MOST_WINDS, c_MOST_PLACES, c_MOST_LINKS, c_MOST_PATHS, clr, rst, nw, aw, dw, j1, j2, np, ap, dp, i1, lk, nm, dn, g1, pk]
    | some ps =>
      rw [hps] at pk
      simp only [Option.bind_some]
      have lps : ps.length ≤ 1000 := by rw [chkPaths_len hps]; exact lPs
      have pp := pr_all ps lps
      have dq : M_are_different [(.con .fro, .lst ((ps.map pairOf).map strsTup))] = .ok (.fro, .bl (decide (ps.map pairOf).Nodup)) := diff_ok strsTup eqD_strsTup okD_strsTup false (.con .fro) rfl (ps.map pairOf)
      have dq2 : M_are_different [(.fro, .lst ((ps.map pairOf).map strsTup))] = .ok (.fro, .bl (decide (ps.map pairOf).Nodup)) := diff_ok strsTup eqD_strsTup okD_strsTup false .fro rfl (ps.map pairOf)
      by_cases h1 : (ps.map pairOf).Nodup
      case neg =>
        rw [if_neg h1]
        rw [decide_eq_false h1] at dq dq2
        simp only [List.map_map] at dq dq2 pp
        simp [b_Land_init, env0, k1, k2, r0, r1, c_MOST_WINDS, c_MOST_PLACES, c_MOST_LINKS, c_MOST_PATHS, clr, rst, nw, aw, dw, j1, j2, np, ap, dp, i1, lk, nm, dn, g1, pk, pp, dq, dq2]
      rw [decide_eq_true h1] at dq dq2
      rw [if_pos h1]
      simp only [List.map_map] at dq dq2 pp
      simp [b_Land_init, env0, k1, k2, r0, r1, c_MOST_WINDS, c_MOST_PLACES, c_MOST_LINKS, c_MOST_PATHS, clr, rst, nw, aw, dw, j1, j2, np, ap, dp, i1, lk, nm, dn, g1, pk, pp, dq, dq2, landD, selfD]
end VL
set_option autoImplicit false
set_option Elab.async false
set_option linter.all false
set_option autoImplicit false
/-! V5: texts cut; statements one by one. -/
namespace R
open PySem PySem.Spec PyProof.Rows L2
open TL (tl len_tl ext_tl tl_append)
@[simp] theorem slD_str (s : Sh) (z : Str) (lo hi : Option Int) : slD (s, .str z) lo hi = if z.length ≤ sizeLine then some (.sc (.str (cutS z lo hi))) else none := id rfl
theorem tl_cutS (z : Str) (lo hi : Option Int) : tl (cutS z lo hi) = cutL (tl z) lo hi := by
  unfold cutS cutL
  rw [TL.tl_mk, ← len_tl]
theorem cutL_len {α : Type} (xs : List α) (lo hi : Option Int) : (cutL xs lo hi).length ≤ xs.length := by
  unfold cutL
  rw [List.length_take, List.length_drop]
  omega
theorem cutS_len (z : Str) (lo hi : Option Int) : (cutS z lo hi).length ≤ z.length := by
  rw [len_tl, tl_cutS, len_tl z]
  exact cutL_len _ _ _
theorem seq_nx {f g : EvS} {ε ε' : En} {o : Out Fl} (h : f ε = .ok .nx ε') (k : g ε' = o) : sSeq f g ε = o := by
  show (f ε).bind _ = _
  rw [h]
  exact k
theorem seq_ex {f g : EvS} {ε : En} {fl : Fl} (ε' : En) (h : f ε = .ok .nx ε') (k : ∃ ε2, g ε' = .ok fl ε2) : ∃ ε2, sSeq f g ε = .ok fl ε2 := by
  obtain ⟨ε2, k⟩ := k
  exact ⟨ε2, seq_nx h k⟩
theorem run_rt {n : Nat} {f : EvS} {rs : List Rv} {r : Rv} (h : ∃ ε, f (env0 n rs) = .ok (.rt r) ε) : runF n f rs = .ok r := by
  obtain ⟨ε, h⟩ := h
  rw [runF_def, h]
@[simp] theorem eqD_bl (x y : Bool) : eqD (.bl x) (.bl y) = (x == y) := by cases x <;> cases y <;> rfl
@[simp] theorem pEq_bl (x y : Bool) : pEq (.bl x) (.bl y) = some (.bl (x == y)) := by
  unfold pEq
  simp
@[simp] theorem pNe_bl (x y : Bool) : pNe (.bl x) (.bl y) = some (.bl (!(x == y))) := by
  unfold pNe
  simp
theorem kit_bool : kitB "bool" "bool" = some true := by decide +kernel
theorem kit_str : kitB "str" "str" = some true := by decide +kernel
theorem kit_tuple : kitB "tuple" "tuple" = some true := by decide +kernel
theorem kit_list : kitB "list" "list" = some true := by decide +kernel
theorem kit_int : kitB "int" "int" = some true := by decide +kernel
@[simp] theorem tyN_bl (b : Bool) : tyN (.bl b) = some "bool" := id rfl
@[simp] theorem tyN_int (b : Int) : tyN (.int b) = some "int" := id rfl
@[simp] theorem pInt_bl (b : Bool) : pInt [.bl b] = some (.int (if b = true then 1 else 0)) := id rfl
theorem one_len (c : Nat) : (⟨#[c]⟩ : Str).length = 1 := rfl
/-- a sign of a text -/
theorem ix_str {z : Str} {j : Nat} (hz : z.length ≤ sizeLine) (h : j < z.length) (s t : Sh) : ∃ c, ixD (s, .str z) (t, .int (j : Nat)) = some (.str ⟨#[c]⟩) ∧ c ∈ tl z := by
  have h' : j < (tl z).length := by rw [← len_tl]; exact h
  refine ⟨(tl z)[j], ?_, List.getElem_mem h'⟩
  rw [ixD_str, if_pos hz]
  have : atI z.cps.toList ((j : Nat) : Int) = some ((tl z)[j]) := by
    rw [atL]
    exact List.getElem?_eq_getElem h'
  rw [this]
  rfl
/-- a loop over a text -/
theorem sgn_map (z : Str) : sgnD z = (tl z).map fun c => .str ⟨#[c]⟩ := rfl
end R
set_option autoImplicit false
set_option Elab.async false
set_option linter.all false
set_option autoImplicit false
set_option maxRecDepth 10000
/-! VPA: what a law draws for its land (k00 to k07). -/
namespace VPA
open PySem PySem.Spec PyProof.Rows L2 R S VL
open TL (tl len_tl ext_tl tl_append)
theorem nums (ns : List Int) (many : Nat) (hn : ns.length ≤ 63) (hm : many ≤ 10000) : ∃ xs : List Int, Nums xs many ∧ M__law_numbers [scr ns, (.fro, .int many)] = .ok (.con .fro, .lst (xs.map .int)) :=
  nums_ok (F := M__law_row) (fun cell n h => by
    obtain ⟨xs, h1, h2, h3⟩ := row_ok cell n h
    exact ⟨xs, ⟨h1, h2⟩, h3⟩) ns many hn hm
theorem at_nums {xs : List Int} {n : Nat} (h : Nums xs n) (j : Nat) (hj : j < n) : ∃ x, atI (xs.map R.D.int) (j : Nat) = some (.int x) ∧ 0 ≤ x ∧ x < 1009 := by
  have hl : j < xs.length := by rw [h.1]; exact hj
  refine ⟨xs[j], ?_, h.2 _ (List.getElem_mem hl)⟩
  rw [atL]
  simp [hl]
/-! ### _law_pick -/
theorem pick_ok {xs : List Int} {n : Nat} (hx : Nums xs n) (h0 : 0 < n) (hn : n ≤ 10000) {s : Sh} (hs : Rd1 s) (k : Int) (k0 : 0 ≤ k) (k1 : k ≤ 1000000) :
    ∃ p : Int, 0 ≤ p ∧ p ≤ 100000000 ∧ M__law_pick [(s, .lst (xs.map .int)), (.fro, .int k)] = .ok (.fro, .int p) := by
  have hl : (xs.length : Int) = n := by rw [hx.1]
  obtain ⟨x, ex, x0, x1⟩ := at_nums hx (k % n).toNat (by
    have : k % (n : Int) < n := Int.emod_lt_of_pos k (by omega)
    have : 0 ≤ k % (n : Int) := Int.emod_nonneg k (by omega)
    omega)
  rw [Int.toNat_of_nonneg (Int.emod_nonneg k (by omega))] at ex
  have d0 : 0 ≤ k / (n : Int) := Int.ediv_nonneg k0 (by omega)
  have d1 : k / (n : Int) ≤ k := Int.ediv_le_self _ k0
  have m1 : MulOk 31 (k / (n : Int)) := mulL (by decide) (by decide)
  have dv : DivOk (n : Int) := divO (by omega) (by omega)
  have np : (0 : Int) < n := by omega
  refine ⟨x + 31 * (k / n), by omega, by omega, ?_⟩
  rcases hs with rfl | rfl <;> simp [M__law_pick, b__law_pick, env0, hl, hx.1, ex, dv, m1, np, h0]
/-! ### _law_count -/
theorem count_ok (x a b : Int) (x0 : 0 ≤ x) (h0 : 0 ≤ a) (h1 : a ≤ b) (h2 : b ≤ 1000) : ∃ c : Int, a ≤ c ∧ c ≤ b ∧ M__law_count [(.fro, .int x), (.fro, .int a), (.fro, .int b)] = .ok (.fro, .int c) := by
  by_cases c1 : x % 7 = 0
  · exact ⟨a, by omega, h1, by simp [M__law_count, b__law_count, env0, c1]⟩
  · by_cases c2 : x % 7 = 1
    · exact ⟨b, h1, by omega, by simp [M__law_count, b__law_count, env0, c2]⟩
    · by_cases c3 : a + 9 < b
      · have e0 : 0 ≤ x / 7 % (a + 9 - a + 1) := Int.emod_nonneg _ (by omega)
        have e1 : x / 7 % (a + 9 - a + 1) < a + 9 - a + 1 := Int.emod_lt_of_pos _ (by omega)
        refine ⟨a + x / 7 % (a + 9 - a + 1), by omega, by omega, ?_⟩
        have z : (0 : Int) < a + 9 - a + 1 := by omega
        simp [M__law_count, b__law_count, env0, c1, c2, c3, z]
      · refine ⟨a + x / 7 % (b - a + 1), by have : 0 ≤ x / 7 % (b - a + 1) := Int.emod_nonneg _ (by omega); omega, by have : x / 7 % (b - a + 1) < b - a + 1 := Int.emod_lt_of_pos _ (by omega); omega, ?_⟩
        have z : (0 : Int) < b - a + 1 := by omega
        simp [M__law_count, b__law_count, env0, c1, c2, c3, z]
/-! ### _law_times -/
def OkTm (o : Option (Int × Int)) : Prop := ∀ a b, o = some (a, b) → 1 ≤ a ∧ a ≤ b ∧ b ≤ 1000
theorem at4 (a b c d : R.D) (j : Int) (h0 : 0 ≤ j) (h1 : j < 4) : ∃ e, (e = a ∨ e = b ∨ e = c ∨ e = d) ∧ atI [a, b, c, d] j = some e := by
  have : j = 0 ∨ j = 1 ∨ j = 2 ∨ j = 3 := by omega
  rcases this with rfl | rfl | rfl | rfl
  · exact ⟨a, .inl rfl, rfl⟩
  · exact ⟨b, .inr (.inl rfl), rfl⟩
  · exact ⟨c, .inr (.inr (.inl rfl)), rfl⟩
  · exact ⟨d, .inr (.inr (.inr rfl)), rfl⟩
theorem at3 (a b c : R.D) (j : Int) (h0 : 0 ≤ j) (h1 : j < 3) : ∃ e, (e = a ∨ e = b ∨ e = c) ∧ atI [a, b, c] j = some e := by
  have : j = 0 ∨ j = 1 ∨ j = 2 := by omega
  rcases this with rfl | rfl | rfl
  · exact ⟨a, .inl rfl, rfl⟩
  · exact ⟨b, .inr (.inl rfl), rfl⟩
  · exact ⟨c, .inr (.inr rfl), rfl⟩
theorem times_gen {xs : List Int} {n : Nat} (hx : Nums xs n) (h0 : 0 < n) (hn : n ≤ 10000) {s : Sh} (hs : Rd1 s) (k : Int) (k0 : 0 ≤ k) (k1 : k ≤ 100000) (many : Nat) (hm : many ≤ 1000) :
    ∃ ts : List (Option (Int × Int)), ts.length = many ∧ (∀ o ∈ ts, OkTm o) ∧ M__law_times [(s, .lst (xs.map .int)), (.fro, .int k), (.fro, .int many)] = .ok (.con .fro, .lst (ts.map timeD)) := by
  have loop := loop_ind (tg := gNm 4) (body := b__law_times_L1 M__law_pick)
    (P := fun ds ε => ∃ (ts : List (Option (Int × Int))) (a b c : Option Rv), ε = [some (s, .lst (xs.map .int)), some (.fro, .int k), some (.fro, .int many), some (.con .fro, .lst (ts.map timeD)), a, b, c] ∧ (∀ o ∈ ts, OkTm o) ∧ ts.length + ds.length = many ∧ ∀ d ∈ ds, ∃ i : Nat, d = .int i ∧ i < many) (by
      rintro d ds ε ⟨ts, a, b, c, rfl, hr, hl, hd⟩
      obtain ⟨i, rfl, hi⟩ := hd d List.mem_cons_self
      obtain ⟨p1, p10, _, e1⟩ := pick_ok hx h0 hn hs (k + i) (by omega) (by omega)
      obtain ⟨p2, p20, _, e2⟩ := pick_ok hx h0 hn hs (k + i + 1) (by omega) (by omega)
      obtain ⟨p3, p30, _, e3⟩ := pick_ok hx h0 hn hs (k + i + 2) (by omega) (by omega)
      obtain ⟨p4, p40, _, e4⟩ := pick_ok hx h0 hn hs (k + i + 3) (by omega) (by omega)
      obtain ⟨p5, p50, _, e5⟩ := pick_ok hx h0 hn hs (k + 2 * i + 4) (by omega) (by omega)
      obtain ⟨f, hf, ef⟩ := at4 (.int 1) (.int 1000) (.int (1 + p1 % 1000)) (.int (1 + p1 % 30)) (p2 % 4) (by omega) (by omega)
      obtain ⟨F, rfl, hF0, hF1⟩ : ∃ F : Int, f = .int F ∧ 1 ≤ F ∧ F ≤ 1000 := by
        rcases hf with rfl | rfl | rfl | rfl
        · exact ⟨_, rfl, by omega, by omega⟩
        · exact ⟨_, rfl, by omega, by omega⟩
        · exact ⟨_, rfl, by omega, by omega⟩
        · exact ⟨_, rfl, by omega, by omega⟩
      have q1 : (0 : Int) < 1001 - F := by omega
      have q1' : F < 1001 := by omega
      have q2 : 0 ≤ p3 % (1001 - F) := Int.emod_nonneg _ (by omega)
      have q3 : p3 % (1001 - F) < 1001 - F := Int.emod_lt_of_pos _ q1
      obtain ⟨g, hg, eg⟩ := at3 (.int F) (.int 1000) (.int (F + p3 % (1001 - F))) (p4 % 3) (by omega) (by omega)
      obtain ⟨L, rfl, hL0, hL1⟩ : ∃ L : Int, g = .int L ∧ F ≤ L ∧ L ≤ 1000 := by
        rcases hg with rfl | rfl | rfl
        · exact ⟨_, rfl, by omega, by omega⟩
        · exact ⟨_, rfl, by omega, by omega⟩
        · exact ⟨_, rfl, by omega, by omega⟩
      obtain ⟨h, hh, eh⟩ := at3 (.tup [.int F, .int L]) (.tup [.int F, .int L]) .non (p5 % 3) (by omega) (by omega)
      obtain ⟨o, rfl, ho⟩ : ∃ o, h = timeD o ∧ OkTm o := by
        rcases hh with rfl | rfl | rfl
        · exact ⟨some (F, L), rfl, fun a b e => by cases e; exact ⟨hF0, hL0, hL1⟩⟩
        · exact ⟨some (F, L), rfl, fun a b e => by cases e; exact ⟨hF0, hL0, hL1⟩⟩
        · exact ⟨none, rfl, fun a b e => by cases e⟩
      have hz : ts.length < sizeLine := lt_line (by simp at hl; omega)
      refine ⟨_, rfl, .nx, [some (s, .lst (xs.map .int)), some (.fro, .int k), some (.fro, .int many), some (.con .fro, .lst ((ts ++ [o]).map timeD)), some (.fro, .int i), some (.fro, .int F), some (.fro, .int L)], ?_, .inl rfl, ts ++ [o], _, _, _, rfl, ?_, ?_, fun d h => hd d (List.mem_cons_of_mem _ h)⟩
      · have m2 : MulOk 2 (i : Int) := mulL (by decide) (by decide)
        rcases hs with rfl | rfl <;> simp [b__law_times_L1, e1, e2, e3, e4, e5, ef, eg, eh, q1, q1', m2, stow, lBack, hz]
      · intro r h
        rcases List.mem_append.mp h with h | h
        · exact hr r h
        · rw [List.mem_singleton.mp h]; exact ho
      · simp at hl ⊢; omega)
  obtain ⟨ε', e1, ts, a, b, c, rfl, hr, hl, _⟩ := loop (rngD 0 many) [some (s, .lst (xs.map .int)), some (.fro, .int k), some (.fro, .int many), some (.con .fro, .lst (([] : List (Option (Int × Int))).map timeD)), none, none, none]
    ⟨[], none, none, none, rfl, by simp, by simp [rngD_length], fun d h => by obtain ⟨i, hi, rfl⟩ := rngD_mem h; exact ⟨i, by simp, hi⟩⟩
  refine ⟨ts, by simpa using hl, hr, ?_⟩
  have g1 : RngOk (many : Int) := rngOk_nat (by omega)
  simp at e1
  rcases hs with rfl | rfl <;> simp [M__law_times, b__law_times, env0, g1, e1]
/-! ### _law_names -/
theorem cut_drop {α : Type} (xs : List α) (n : Nat) : cutL xs (some (n : Int)) none = xs.drop n := by
  unfold cutL
  rw [HT.sIx_nat, HT.sIx_none]
  by_cases h : n ≤ xs.length
  · rw [Nat.min_eq_left h, List.take_of_length_le (by rw [List.length_drop]; omega)]
  · rw [Nat.min_eq_right (by omega), List.drop_eq_nil_of_le (Nat.le_refl _), List.drop_eq_nil_of_le (by omega)]
    simp
def goodS : Str := "abcdefghijklmnopqrstuvwxyz0123456789"
theorem good_len : goodS.length = 36 := rfl
theorem good_tl : tl goodS = nameL := rfl
def chr (j : Int) : Nat := nameL.getD (j % 36).toNat 0
theorem chr_mem (j : Int) : chr j ∈ nameL := by
  have h : (j % 36).toNat < nameL.length := by
    have : nameL.length = 36 := rfl
    omega
  unfold chr
  rw [List.getD_eq_getElem?_getD, List.getElem?_eq_getElem h]
  exact List.getElem_mem h
theorem chr_low : ∀ a, a < 26 → nameL.getD a 0 ∉ digL := by decide +kernel
theorem chr_inj : ∀ a, a < 36 → ∀ b, b < 36 → nameL.getD a 0 = nameL.getD b 0 → a = b := by decide +kernel
theorem ix_good (j : Int) (s t : Sh) : ixD (s, .str goodS) (t, .int (j % 36)) = some (.str ⟨#[chr j]⟩) := by
  have h : (j % 36).toNat < nameL.length := by
    have : nameL.length = 36 := rfl
    omega
  have e : ((j % 36).toNat : Int) = j % 36 := Int.toNat_of_nonneg (by omega)
  rw [ixD_str, if_pos (le_line (by decide))]
  have : atI goodS.cps.toList (j % 36) = some (chr j) := by
    rw [← e, atL]
    show nameL[(j % 36).toNat]? = _
    unfold chr
    rw [List.getD_eq_getElem?_getD, List.getElem?_eq_getElem h]
    rfl
  rw [this]
  rfl
theorem ix_good26 (j : Int) (s t : Sh) : ixD (s, .str goodS) (t, .int (j % 26)) = some (.str ⟨#[chr (j % 26)]⟩) := by
  have := ix_good (j % 26) s t
  rwa [show j % 26 % 36 = j % 26 by omega] at this
/-- the letters of names that end a prefix -/
def tailS (k : Int) : Str := if 36 ≤ k then "q" else ""
def nmS (A C : Str) (sh : Int) (k : Nat) : Str := A ++ ⟨#[chr (sh + 5 * k)]⟩ ++ tailS k ++ C
structure Pre (A C : Str) : Prop where
  ne : 1 ≤ A.length
  le : A.length + C.length ≤ 10
  hd : (tl A).headD 0 ∉ digL
  a : ∀ c ∈ tl A, c ∈ nameL
  c : ∀ c ∈ tl C, c ∈ nameL
theorem tail_len (k : Int) : (tailS k).length = if 36 ≤ k then 1 else 0 := by unfold tailS; split <;> rfl
theorem nm_len (A C : Str) (sh : Int) (k : Nat) : (nmS A C sh k).length = A.length + 1 + (if 36 ≤ (k : Int) then 1 else 0) + C.length := by
  unfold nmS
  rw [Str.length_append, Str.length_append, Str.length_append, one_len, tail_len]
theorem nm_tl (A C : Str) (sh : Int) (k : Nat) : tl (nmS A C sh k) = tl A ++ (chr (sh + 5 * k) :: (tl (tailS k) ++ tl C)) := by
  unfold nmS
  rw [tl_append, tl_append, tl_append]
  simp [TL.tl_mk]
theorem nm_is {A C : Str} (h : Pre A C) (sh : Int) (k : Nat) : isNm (nmS A C sh k) = true := by
  have hl := nm_len A C sh k
  have hl2 := len_tl (nmS A C sh k)
  have h1 := h.ne
  have h2 := h.le
  have l1 : 1 ≤ (tl (nmS A C sh k)).length ∧ (tl (nmS A C sh k)).length ≤ 12 := by
    rw [← hl2, hl]
    split <;> omega
  have hd : (tl (nmS A C sh k)).headD 0 ∉ digL := by
    rw [nm_tl]
    cases e : tl A with
    | nil => rw [len_tl, e] at h1; simp at h1
    | cons c r => have := h.hd; rw [e] at this; exact this
  have al : (tl (nmS A C sh k)).all (fun c => decide (c ∈ nameL)) = true := by
    rw [List.all_eq_true]
    intro c hc
    rw [nm_tl, List.mem_append, List.mem_cons, List.mem_append] at hc
    refine decide_eq_true ?_
    rcases hc with hc | rfl | hc | hc
    · exact h.a c hc
    · exact chr_mem _
    · unfold tailS at hc
      split at hc
      · have : ∀ c ∈ tl (Str.ofString "q"), c ∈ nameL := by decide
        exact this c hc
      · have : ∀ c ∈ tl (Str.ofString ""), c ∈ nameL := by decide
        exact this c hc
    · exact h.c c hc
  unfold isNm nmL
  rw [al, decide_eq_true l1, decide_eq_false hd]
  rfl
theorem nm_inj (A C : Str) (sh : Int) {j k : Nat} (hj : j < 70) (hk : k < 70) (e : nmS A C sh j = nmS A C sh k) : j = k := by
  have e1 := congrArg Str.length e
  rw [nm_len, nm_len] at e1
  have e2 := congrArg tl e
  rw [nm_tl, nm_tl] at e2
  have e3 := List.append_cancel_left e2
  have e4 : chr (sh + 5 * j) = chr (sh + 5 * k) := (List.cons.inj e3).1
  unfold chr at e4
  have e5 := chr_inj _ (by omega) _ (by omega) e4
  split at e1 <;> split at e1 <;> omega
theorem nm_nodup (A C : Str) (sh : Int) (n : Nat) (hn : n ≤ 70) : ((List.range n).map (nmS A C sh)).Nodup := by
  rw [List.nodup_iff_pairwise_ne, List.pairwise_map]
  refine List.Pairwise.imp_of_mem (fun ha hb ne h => ne (nm_inj A C sh ?_ ?_ h)) (List.nodup_iff_pairwise_ne.mp List.nodup_range)
  · have := List.mem_range.mp ha; omega
  · have := List.mem_range.mp hb; omega
theorem rng_map (n : Nat) : rngD 0 n = (List.range n).map fun j : Nat => R.D.int j := by
  unfold rngD
  refine List.map_congr_left fun i _ => ?_
  simp
theorem fold_snoc {α β : Type} (f : α → β) : ∀ (l : List α) (acc : List β), l.foldl (fun acc j => acc ++ [f j]) acc = acc ++ l.map f
  | [], acc => by simp
  | x :: l, acc => by rw [List.foldl_cons, fold_snoc f l]; simp
theorem names_gen {xs : List Int} {n : Nat} (hx : Nums xs n) {s : Sh} (hs : Rd1 s) (at_ : Nat) (h6 : at_ + 6 ≤ n) (h8 : 8 ≤ n) (many : Nat) (hm : many ≤ 70) :
    ∃ (A C : Str) (sh : Int), Pre A C ∧ M__law_names [(s, .lst (xs.map .int)), (.fro, .int at_), (.fro, .int many)] = .ok (.con .fro, .lst (((List.range many).map (nmS A C sh)).map .str)) := by
  obtain ⟨z, ez, _, _⟩ := at_nums hx 1 (by omega)
  have ez' : atI (xs.map R.D.int) 1 = some (.int z) := ez
  -- the place it starts from
  obtain ⟨a, ha6, e1⟩ : ∃ a : Nat, a + 6 ≤ n ∧ (sIfS (tOf (sOp2 pEq (oOf (sOp2 pMod (oOf (sBi pInt (aCn (oOf (sIx (oVar 0) (oOf (eLit (.int 1))))) aNl))) (oOf (eLit (.int 5))))) (oOf (eLit (.int 1))))) (sSet 1 (eLit (.int 2))) sNx) (env0 10 [(s, .lst (xs.map .int)), (.fro, .int at_), (.fro, .int many)]) =
      .ok .nx [some (s, .lst (xs.map .int)), some (.fro, .int a), some (.fro, .int many), none, none, none, none, none, none, none] := by
    by_cases c : z % 5 = 1
    · exact ⟨2, by omega, by rcases hs with rfl | rfl <;> simp [env0, ez', c]⟩
    · exact ⟨at_, h6, by rcases hs with rfl | rfl <;> simp [env0, ez', c]⟩
  obtain ⟨x0, f0, _, _⟩ := at_nums hx a (by omega)
  obtain ⟨x1, f1, g1, _⟩ := at_nums hx (a + 1) (by omega)
  obtain ⟨x2, f2, g2, _⟩ := at_nums hx (a + 2) (by omega)
  obtain ⟨x3, f3, g3, k3⟩ := at_nums hx (a + 3) (by omega)
  obtain ⟨x4, f4, g4, _⟩ := at_nums hx (a + 4) (by omega)
  obtain ⟨x5, f5, _, _⟩ := at_nums hx (a + 5) (by omega)
  rw [Int.natCast_add] at f1 f2 f3 f4 f5
  -- the prefix
  have loop := loop_ind (tg := gNm 5) (body := b__law_names_L1)
    (P := fun ds ε => ∃ (t : Str) (k : Option Rv), ε = [some (s, .lst (xs.map .int)), some (.fro, .int a), some (.fro, .int many), some (.fro, .str goodS), some (.fro, .str t), k, none, none, none, none] ∧ 1 ≤ t.length ∧ t.length + ds.length ≤ 10 ∧ (tl t).headD 0 ∉ digL ∧ (∀ c ∈ tl t, c ∈ nameL) ∧ ∀ d ∈ ds, ∃ i : Nat, d = .int i ∧ i < 10) (by
      rintro d ds ε ⟨t, k, rfl, t1, tl1, th, ta, hd⟩
      obtain ⟨i, rfl, hi⟩ := hd d List.mem_cons_self
      simp only [List.length_cons] at tl1
      have z1 : t.length + 1 ≤ sizeLine := le_line (by omega)
      have mk : MulOk (i : Int) x3 := mulL (by omega) (by omega)
      refine ⟨_, rfl, .nx, [some (s, .lst (xs.map .int)), some (.fro, .int a), some (.fro, .int many), some (.fro, .str goodS), some (.fro, .str (t ++ ⟨#[chr (x2 + i * x3)]⟩)), some (.fro, .int i), none, none, none, none], ?_, .inl rfl, _, _, rfl, ?_, ?_, ?_, ?_, fun d h => hd d (List.mem_cons_of_mem _ h)⟩
      · have f2' : atI (xs.map R.D.int) ((a : Int) + 2) = some (.int x2) := f2
        have f3' : atI (xs.map R.D.int) ((a : Int) + 3) = some (.int x3) := f3
        rcases hs with rfl | rfl <;> simp [b__law_names_L1, f2', f3', mk, ix_good, one_len, z1, -ixD_str]
      · rw [Str.length_append]; omega
      · rw [Str.length_append, one_len]; omega
      · rw [tl_append]
        cases e : tl t with
        | nil => rw [len_tl, e] at t1; simp at t1
        | cons c r => rw [e] at th; exact th
      · intro c hc
        rw [tl_append, List.mem_append] at hc
        rcases hc with hc | hc
        · exact ta c hc
        · rw [TL.tl_mk, List.mem_singleton] at hc
          exact hc ▸ chr_mem _)
  have c0 : chr (x0 % 26) ∉ digL := by
    unfold chr
    exact chr_low _ (by omega)
  obtain ⟨ε', e2, t, k, rfl, t1, tl1, th, ta, _⟩ := loop (rngD 0 (x1 % 10).toNat) [some (s, .lst (xs.map .int)), some (.fro, .int a), some (.fro, .int many), some (.fro, .str goodS), some (.fro, .str ⟨#[chr (x0 % 26)]⟩), none, none, none, none, none]
    ⟨⟨#[chr (x0 % 26)]⟩, none, rfl, by rw [one_len]; omega, by rw [one_len, rngD_length]; omega, c0, fun c hc => by rw [TL.tl_mk, List.mem_singleton] at hc; exact hc ▸ chr_mem _, fun d h => by obtain ⟨i, hi, rfl⟩ := rngD_mem h; exact ⟨i, by simp, by omega⟩⟩
  -- where it is cut
  simp only [List.length_nil, Nat.add_zero] at tl1
  have p0 : 0 ≤ x4 % (t.length : Int) := Int.emod_nonneg _ (by omega)
  have p1 : x4 % (t.length : Int) < t.length := Int.emod_lt_of_pos _ (by omega)
  obtain ⟨p, hp⟩ : ∃ p : Nat, (p : Int) = 1 + x4 % (t.length : Int) := ⟨(1 + x4 % (t.length : Int)).toNat, Int.toNat_of_nonneg (by omega)⟩
  have hA : tl (cutS t none (some (p : Int))) = (tl t).take p := by rw [tl_cutS, cut_take]
  have hC : tl (cutS t (some (p : Int)) none) = (tl t).drop p := by rw [tl_cutS, cut_drop]
  have lt : (tl t).length = t.length := (len_tl t).symm
  have pre : Pre (cutS t none (some (p : Int))) (cutS t (some (p : Int)) none) := by
    refine ⟨?_, ?_, ?_, ?_, ?_⟩
    · rw [len_tl, hA, List.length_take]; omega
    · rw [len_tl, hA, len_tl, hC, List.length_take, List.length_drop]; omega
    · rw [hA]
      cases e : tl t with
      | nil => rw [e] at lt; simp at lt; omega
      | cons c r =>
        rw [e] at th
        obtain ⟨m, rfl⟩ : ∃ m, p = m + 1 := ⟨p - 1, by omega⟩
        exact th
    · intro c hc
      rw [hA] at hc
      exact ta c (List.mem_of_mem_take hc)
    · intro c hc
      rw [hC] at hc
      exact ta c (List.mem_of_mem_drop hc)
  refine ⟨_, _, x5, pre, ?_⟩
  have pz := pre.le
  have loop2 := loop_pre (tg := gNm 5) (body := b__law_names_L2) (g := fun j : Nat => R.D.int j)
    (Rl := fun (acc : List Str) ε => ∃ (k tail : Option Rv), ε = [some (s, .lst (xs.map .int)), some (.fro, .int a), some (.fro, .int many), some (.fro, .str goodS), some (.fro, .str t), k, some (.fro, .int p), some (.fro, .int x5), some (.con .fro, .lst (acc.map .str)), tail])
    (f := fun acc j => acc ++ [nmS (cutS t none (some (p : Int))) (cutS t (some (p : Int)) none) x5 j]) (List.range many) [] [some (s, .lst (xs.map .int)), some (.fro, .int a), some (.fro, .int many), some (.fro, .str goodS), some (.fro, .str t), k, some (.fro, .int p), some (.fro, .int x5), some (.con .fro, .lst []), none] ⟨k, none, rfl⟩ (by
      rintro pr j po ε hsplit ⟨k', tail, rfl⟩
      have hj : j < many := List.mem_range.mp (hsplit ▸ List.mem_append_right _ List.mem_cons_self)
      have hpr : pr.length < many := by have := congrArg List.length hsplit; simp at this; omega
      have fl : ∀ (l : List Nat) (acc : List Str), (l.foldl (fun acc j => acc ++ [nmS (cutS t none (some (p : Int))) (cutS t (some (p : Int)) none) x5 j]) acc).length = acc.length + l.length := by
        intro l
        induction l with
        | nil => intro acc; simp
        | cons x l ih => intro acc; rw [List.foldl_cons, ih]; simp; omega
      have z := fl pr []
      generalize pr.foldl (fun acc j => acc ++ [nmS (cutS t none (some (p : Int))) (cutS t (some (p : Int)) none) x5 j]) [] = acc at z ⊢
      have hz : acc.length < sizeLine := lt_line (by simp at z; omega)
      have tz : t.length ≤ sizeLine := le_line (by omega)
      have m5 : MulOk 5 (j : Int) := mulL (by decide) (by decide)
      have z1 : (cutS t none (some (p : Int))).length + 1 ≤ sizeLine := le_line (by omega)
      have z2 : (cutS t none (some (p : Int))).length + 1 + (tailS j).length ≤ sizeLine := le_line (by rw [tail_len]; split <;> omega)
      have z3 : (cutS t none (some (p : Int))).length + 1 + (tailS j).length + (cutS t (some (p : Int)) none).length ≤ sizeLine := le_line (by rw [tail_len]; split <;> omega)
      have ti : ∀ u : Int, u = (if 36 ≤ (j : Int) then 1 else 0) → atI [R.D.str (Str.ofString ""), R.D.str (Str.ofString "q")] u = some (.str (tailS j)) := by
        rintro u rfl
        unfold tailS
        split <;> rfl
      refine ⟨_, rfl, .nx, [some (s, .lst (xs.map .int)), some (.fro, .int a), some (.fro, .int many), some (.fro, .str goodS), some (.fro, .str t), some (.fro, .int j), some (.fro, .int p), some (.fro, .int x5), some (.con .fro, .lst ((acc ++ [nmS (cutS t none (some (p : Int))) (cutS t (some (p : Int)) none) x5 j]).map .str)), some (.fro, .str (tailS j))], ?_, .inl rfl, _, _, rfl⟩
      by_cases c36 : 36 ≤ (j : Int)
      · have ti1 := ti 1 (by rw [if_pos c36])
        have c36' : 36 ≤ j := by omega
        simp [b__law_names_L2, c36, c36', ti1, tz, m5, ix_good, one_len, Str.length_append, z1, z2, z3, nmS, stow, lBack, hz, -ixD_str]
      · have ti0 := ti 0 (by rw [if_neg c36])
        have c36' : ¬ 36 ≤ j := by omega
        simp [b__law_names_L2, c36, c36', ti0, tz, m5, ix_good, one_len, Str.length_append, z1, z2, z3, nmS, stow, lBack, hz, -ixD_str])
  obtain ⟨ε9, ⟨k9, t9, rfl⟩, e9⟩ := loop2
  have e9 := e9 []
  rw [List.append_nil, ← rng_map, fold_snoc, List.nil_append] at e9
  have e9 : loopF (gNm 5) b__law_names_L2 (rngD 0 many) _ = .ok .nx _ := e9
  have g1' : RngOk (x1 % 10) := by have := rngOk_nat (n := (x1 % 10).toNat) (by omega); rwa [Int.toNat_of_nonneg (by omega)] at this
  have g2' : RngOk (many : Int) := rngOk_nat (by omega)
  have tz : t.length ≤ sizeLine := le_line (by omega)
  have t0 : (0 : Int) < t.length := by omega
  have f1' : atI (xs.map R.D.int) ((a : Int) + 1) = some (.int x1) := f1
  have f4' : atI (xs.map R.D.int) ((a : Int) + 4) = some (.int x4) := f4
  have f5' : atI (xs.map R.D.int) ((a : Int) + 5) = some (.int x5) := f5
  refine run_rt (seq_ex _ e1 ?_)
  refine seq_ex [some (s, .lst (xs.map .int)), some (.fro, .int a), some (.fro, .int many), some (.fro, .str goodS), none, none, none, none, none, none] (by simp [goodS]) ?_
  refine seq_ex [some (s, .lst (xs.map .int)), some (.fro, .int a), some (.fro, .int many), some (.fro, .str goodS), some (.fro, .str ⟨#[chr (x0 % 26)]⟩), none, none, none, none, none] (by rcases hs with rfl | rfl <;> simp [f0, ix_good26, -ixD_str]) ?_
  refine seq_ex [some (s, .lst (xs.map .int)), some (.fro, .int a), some (.fro, .int many), some (.fro, .str goodS), some (.fro, .str t), k, none, none, none, none] (by rcases hs with rfl | rfl <;> simp [f1', g1', e2]) ?_
  refine seq_ex [some (s, .lst (xs.map .int)), some (.fro, .int a), some (.fro, .int many), some (.fro, .str goodS), some (.fro, .str t), k, some (.fro, .int p), none, none, none] (by
    have t0' : 0 < t.length := by omega
    rw [hp]
    rcases hs with rfl | rfl <;> simp [f4', tz, t0, t0']) ?_
  refine seq_ex [some (s, .lst (xs.map .int)), some (.fro, .int a), some (.fro, .int many), some (.fro, .str goodS), some (.fro, .str t), k, some (.fro, .int p), some (.fro, .int x5), none, none] (by rcases hs with rfl | rfl <;> simp [f5']) ?_
  refine seq_ex [some (s, .lst (xs.map .int)), some (.fro, .int a), some (.fro, .int many), some (.fro, .str goodS), some (.fro, .str t), k, some (.fro, .int p), some (.fro, .int x5), some (.con .fro, .lst []), none] (by simp) ?_
  refine seq_ex _ (by simp [g2']; exact e9) ?_
  exact ⟨[some (s, .lst (xs.map .int)), some (.fro, .int a), some (.fro, .int many), some (.fro, .str goodS), some (.fro, .str t), k9, some (.fro, .int p), some (.fro, .int x5), none, t9], by simp⟩
/-! ### _law_paths -/
abbrev Pr := Str × Str
def prD (p : Pr) : R.D := .tup [.str p.1, .str p.2]
def sp (p : Pr) : List Str := sortS [p.1, p.2]
theorem sp_perm (p : Pr) : (sp p).Perm [p.1, p.2] := sortS_perm _
theorem sp_eq {p q : Pr} (h : sp p = sp q) : (p.1 = q.1 ∨ p.1 = q.2) ∧ (p.2 = q.1 ∨ p.2 = q.2) ∧ (q.1 = p.1 ∨ q.1 = p.2) ∧ (q.2 = p.1 ∨ q.2 = p.2) := by
  have e : ([p.1, p.2] : List Str).Perm [q.1, q.2] := (sp_perm p).symm.trans (h ▸ sp_perm q)
  have m : ∀ x, x ∈ ([p.1, p.2] : List Str) ↔ x ∈ ([q.1, q.2] : List Str) := fun x => e.mem_iff
  refine ⟨?_, ?_, ?_, ?_⟩
  · simpa using (m p.1).mp (by simp)
  · simpa using (m p.2).mp (by simp)
  · simpa using (m q.1).mpr (by simp)
  · simpa using (m q.2).mpr (by simp)
theorem sp_swap (a b : Str) : sp (a, b) = sp (b, a) :=
  pw_perm_eq ((sp_perm (a, b)).trans ((List.Perm.swap b a []).trans (sp_perm (b, a)).symm)) (sortS_pw _) (sortS_pw _)
def allPairs : List Str → List Pr
  | [] => []
  | a :: r => r.map (fun b => (a, b)) ++ allPairs r
theorem allPairs_mem : ∀ {P : List Str}, P.Nodup → ∀ p ∈ allPairs P, p.1 ∈ P ∧ p.2 ∈ P ∧ p.1 ≠ p.2
  | [], _, p, h => by simp [allPairs] at h
  | a :: r, nd, p, h => by
    obtain ⟨n1, n2⟩ := List.nodup_cons.mp nd
    rcases List.mem_append.mp h with h | h
    · obtain ⟨b, hb, rfl⟩ := List.mem_map.mp h
      exact ⟨List.mem_cons_self, List.mem_cons_of_mem _ hb, fun e => n1 ((show a = b from e).symm ▸ hb)⟩
    · obtain ⟨h1, h2, h3⟩ := allPairs_mem n2 p h
      exact ⟨List.mem_cons_of_mem _ h1, List.mem_cons_of_mem _ h2, h3⟩
theorem allPairs_nd : ∀ {P : List Str}, P.Nodup → ((allPairs P).map sp).Nodup
  | [], _ => .nil
  | a :: r, nd => by
    obtain ⟨n1, n2⟩ := List.nodup_cons.mp nd
    unfold allPairs
    rw [List.map_append, List.nodup_append]
    refine ⟨?_, allPairs_nd n2, ?_⟩
    · rw [List.map_map, List.nodup_iff_pairwise_ne, List.pairwise_map]
      refine List.Pairwise.imp_of_mem (fun {x y} hx hy ne h => ne ?_) (List.nodup_iff_pairwise_ne.mp n2)
      obtain ⟨_, h2, _, _⟩ := sp_eq (p := (a, x)) (q := (a, y)) h
      rcases h2 with h2 | h2
      · exact absurd ((show x = a from h2) ▸ hx) n1
      · exact h2
    · intro x hx y hy e
      subst e
      obtain ⟨p, hp, rfl⟩ := List.mem_map.mp hx
      obtain ⟨b, hb, rfl⟩ := List.mem_map.mp hp
      obtain ⟨q, hq, e⟩ := List.mem_map.mp hy
      obtain ⟨h1, h2, _⟩ := allPairs_mem n2 q hq
      obtain ⟨e1, _⟩ := sp_eq (p := (a, b)) (q := q) e.symm
      rcases e1 with e1 | e1
      · exact n1 (show a ∈ r from (show a = q.1 from e1) ▸ h1)
      · exact n1 (show a ∈ r from (show a = q.2 from e1) ▸ h2)
theorem allPairs_len : ∀ P : List Str, (allPairs P).length ≤ P.length * P.length
  | [] => Nat.le_refl _
  | a :: r => by
    have := allPairs_len r
    simp only [allPairs, List.length_append, List.length_map, List.length_cons, Nat.mul_add, Nat.add_mul, Nat.mul_one, Nat.one_mul]
    omega
theorem allPairs_flat : ∀ P : List Str, allPairs P = (List.range P.length).flatMap fun n => (P.drop (n + 1)).map fun b => (P.getD n "", b)
  | [] => rfl
  | a :: r => by
    rw [List.length_cons, List.range_succ_eq_map, List.flatMap_cons, List.flatMap_map, allPairs, allPairs_flat r]
    rfl
theorem fold_flat {α β : Type} (f : α → List β) : ∀ (l : List α) (acc : List β), l.foldl (fun acc j => acc ++ f j) acc = acc ++ l.flatMap f
  | [], acc => by simp
  | x :: l, acc => by rw [List.foldl_cons, fold_flat f l]; simp
abbrev pE (a0 a1 a2 a3 a4 a5 a6 a7 a8 a9 : Option Rv) : En := [a0, a1, a2, a3, a4, a5, a6, a7, a8, a9]
theorem inner_ok (a0 a1 a3 a7 a8 a9 : Option Rv) (P : List Str) (n : Nat) (hn : n < P.length) : ∀ (l : List Str) (acc : List Pr) (o : Option Rv), acc.length + l.length ≤ 1000000 →
    ∃ o', loopF (gNm 6) b__law_paths_L1 (l.map .str) (pE a0 a1 (some (.fro, .lst (P.map .str))) a3 (some (.con .fro, .lst (acc.map prD))) (some (.fro, .int n)) o a7 a8 a9) =
      .ok .nx (pE a0 a1 (some (.fro, .lst (P.map .str))) a3 (some (.con .fro, .lst ((acc ++ l.map fun b => (P.getD n "", b)).map prD))) (some (.fro, .int n)) o' a7 a8 a9)
  | [], acc, o, _ => ⟨o, by simp [loopF]⟩
  | x :: l, acc, o, hl => by
    simp only [List.length_cons] at hl
    have z : acc.length < sizeLine := lt_line (by omega)
    have at_ : atI (P.map R.D.str) (n : Nat) = some (.str (P.getD n "")) := by
      rw [atL, List.getElem?_map, List.getElem?_eq_getElem hn, List.getD_eq_getElem?_getD, List.getElem?_eq_getElem hn]
      rfl
    have body : b__law_paths_L1 (pE a0 a1 (some (.fro, .lst (P.map .str))) a3 (some (.con .fro, .lst (acc.map prD))) (some (.fro, .int n)) (some (.fro, .str x)) a7 a8 a9) =
        .ok .nx (pE a0 a1 (some (.fro, .lst (P.map .str))) a3 (some (.con .fro, .lst ((acc ++ [(P.getD n "", x)]).map prD))) (some (.fro, .int n)) (some (.fro, .str x)) a7 a8 a9) := by
      simp [b__law_paths_L1, at_, stow, lBack, z, prD]
    obtain ⟨o', e⟩ := inner_ok a0 a1 a3 a7 a8 a9 P n hn l (acc ++ [(P.getD n "", x)]) (some (.fro, .str x)) (by simp; omega)
    refine ⟨o', ?_⟩
    show (b__law_paths_L1 (pE a0 a1 (some (.fro, .lst (P.map .str))) a3 (some (.con .fro, .lst (acc.map prD))) (some (.fro, .int n)) (some (.fro, .str x)) a7 a8 a9)).bind (flK (loopF (gNm 6) b__law_paths_L1 (l.map .str))) = _
    rw [body, bind_ok, flK_nx, e]
    simp
theorem pairs_ok (a0 a1 a3 : Option Rv) (P : List Str) (hP : P.length ≤ 100) :
    ∃ n o, loopF (gNm 5) b__law_paths_L2 (rngD 0 P.length) (pE a0 a1 (some (.fro, .lst (P.map .str))) a3 (some (.con .fro, .lst [])) none none none none none) =
      .ok .nx (pE a0 a1 (some (.fro, .lst (P.map .str))) a3 (some (.con .fro, .lst ((allPairs P).map prD))) n o none none none) := by
  obtain ⟨ε9, ⟨n, o, rfl⟩, e9⟩ := loop_pre (tg := gNm 5) (body := b__law_paths_L2) (g := fun j : Nat => R.D.int j)
    (Rl := fun (acc : List Pr) ε => ∃ n o, ε = pE a0 a1 (some (.fro, .lst (P.map .str))) a3 (some (.con .fro, .lst (acc.map prD))) n o none none none)
    (f := fun acc j => acc ++ (P.drop (j + 1)).map fun b => (P.getD j "", b)) (List.range P.length) [] (pE a0 a1 (some (.fro, .lst (P.map .str))) a3 (some (.con .fro, .lst [])) none none none none none) ⟨none, none, rfl⟩ (by
      rintro pr j po ε hs ⟨n, o, rfl⟩
      have hj : j < P.length := List.mem_range.mp (hs ▸ List.mem_append_right _ List.mem_cons_self)
      have hpr : pr.length < P.length := by have := congrArg List.length hs; simp at this; omega
      have fl : ∀ (l : List Nat) (acc : List Pr), (l.foldl (fun acc j => acc ++ (P.drop (j + 1)).map fun b => (P.getD j "", b)) acc).length ≤ acc.length + l.length * P.length := by
        intro l
        induction l with
        | nil => intro acc; simp
        | cons x l ih =>
          intro acc
          rw [List.foldl_cons]
          refine Nat.le_trans (ih _) ?_
          simp only [List.length_append, List.length_map, List.length_drop, List.length_cons, Nat.add_mul, Nat.one_mul]
          omega
      have z := fl pr []
      generalize pr.foldl (fun acc j => acc ++ (P.drop (j + 1)).map fun b => (P.getD j "", b)) [] = acc at z ⊢
      have zb : pr.length * P.length ≤ 100 * 100 := Nat.mul_le_mul (by omega) hP
      obtain ⟨o', e⟩ := inner_ok a0 a1 a3 none none none P j hj (P.drop (j + 1)) acc o (by simp at z ⊢; omega)
      refine ⟨_, rfl, .nx, _, ?_, .inl rfl, some (.fro, .int j), o', rfl⟩
      have cut : cutL (P.map R.D.str) (some ((j : Int) + 1)) none = (P.drop (j + 1)).map .str := by
        have := cut_drop (P.map R.D.str) (j + 1)
        rw [Int.natCast_add] at this
        rw [List.map_drop]
        exact this
      have e0 : iSeq (sSl (oVar 2) (pSo (sAdd (oVar 5) (oOf (eLit (.int 1))))) pNo) (pE a0 a1 (some (.fro, .lst (P.map .str))) a3 (some (.con .fro, .lst (acc.map prD))) (some (.fro, .int j)) o none none none) =
          .ok ((P.drop (j + 1)).map .str) (pE a0 a1 (some (.fro, .lst (P.map .str))) a3 (some (.con .fro, .lst (acc.map prD))) (some (.fro, .int j)) o none none none) := by
        simp only [iSeq_def, sSl_def, oVar_def, pSo_def, sAdd_def, oOf_def, eLit_def, pNo_def]
        simp [cut, -List.map_drop]
      show (iSeq (sSl (oVar 2) (pSo (sAdd (oVar 5) (oOf (eLit (.int 1))))) pNo) (pE a0 a1 (some (.fro, .lst (P.map .str))) a3 (some (.con .fro, .lst (acc.map prD))) (some (.fro, .int j)) o none none none)).bind _ = _
      rw [e0, bind_ok]
      exact e)
  refine ⟨n, o, ?_⟩
  have e9 := e9 []
  rw [List.append_nil, ← rng_map, fold_flat, List.nil_append, ← allPairs_flat] at e9
  exact e9
theorem rng_step {N i : Nat} {d : R.D} {ds : List R.D} (h : (rngD 0 N).drop i = d :: ds) : i < N ∧ d = .int i ∧ ds = (rngD 0 N).drop (i + 1) := by
  have hl : i < (rngD 0 N).length := by
    by_cases c : i < (rngD 0 N).length
    · exact c
    · rw [List.drop_eq_nil_of_le (by omega)] at h; cases h
  rw [List.drop_eq_getElem_cons hl] at h
  obtain ⟨h1, h2⟩ := List.cons.inj h
  refine ⟨by rw [rngD_length] at hl; exact hl, ?_, h2.symm⟩
  rw [← h1]
  simp [rngD]
def OkPt (P : List Str) (p : Pt) : Prop := (p.one ∈ P ∧ p.other ∈ P ∧ p.one ≠ p.other) ∧ 1 ≤ p.minutes ∧ p.minutes ≤ 1000
theorem turn_ok {xs : List Int} {n : Nat} (hx : Nums xs n) (h0 : 0 < n) (hn : n ≤ 10000) {s : Sh} (hs : Rd1 s) (k : Int) (k0 : 0 ≤ k) (k1 : k ≤ 100000) (P : List Str) (R : List Pr) (hR : ∀ p ∈ R, p.1 ∈ P ∧ p.2 ∈ P ∧ p.1 ≠ p.2) (rl : R.length ≤ 1000) (a2 a3 a7 o9 : Option Rv) (o : Option Rv) (nn : Option Rv) :
    ∃ (ps : List Pt) (u v w : Option Rv), ps.map pairOf = R.map sp ∧ (∀ p ∈ ps, OkPt P p) ∧ loopF (gNm 5) (b__law_paths_L3 M__law_pick) (rngD 0 R.length) (pE (some (s, .lst (xs.map .int))) (some (.fro, .int k)) a2 a3 (some (.con .fro, .lst (R.map prD))) nn o a7 (some (.con .fro, .lst [])) o9) =
      .ok .nx (pE (some (s, .lst (xs.map .int))) (some (.fro, .int k)) a2 a3 (some (.con .fro, .lst (R.map prD))) u v a7 (some (.con .fro, .lst (ps.map pathD))) w) := by
  have loop := loop_ind (tg := gNm 5) (body := b__law_paths_L3 M__law_pick)
    (P := fun ds ε => ∃ (ps : List Pt) (u v w : Option Rv), ε = pE (some (s, .lst (xs.map .int))) (some (.fro, .int k)) a2 a3 (some (.con .fro, .lst (R.map prD))) u v a7 (some (.con .fro, .lst (ps.map pathD))) w ∧
      ps.map pairOf = (R.take ps.length).map sp ∧ (∀ p ∈ ps, OkPt P p) ∧ ps.length ≤ R.length ∧ ds = (rngD 0 R.length).drop ps.length) (by
      rintro d ds ε ⟨ps, u, v, w, rfl, hp, ho, hle, hd⟩
      obtain ⟨hi, rfl, rfl⟩ := rng_step hd.symm
      obtain ⟨p1, p10, _, e1⟩ := pick_ok hx h0 hn hs (k + 1 + ps.length) (by omega) (by omega)
      obtain ⟨p2, p20, _, e2⟩ := pick_ok hx h0 hn hs (k + 2 + ps.length) (by omega) (by omega)
      obtain ⟨p3, p30, _, e3⟩ := pick_ok hx h0 hn hs (k + 3 + ps.length) (by omega) (by omega)
      obtain ⟨f, hf, ef⟩ := at3 (.int 1) (.int 1000) (.int (1 + p2 % 1000)) (p3 % 3) (by omega) (by omega)
      obtain ⟨m, rfl, m0, m1⟩ : ∃ m : Int, f = .int m ∧ 1 ≤ m ∧ m ≤ 1000 := by
        rcases hf with rfl | rfl | rfl
        · exact ⟨_, rfl, by omega, by omega⟩
        · exact ⟨_, rfl, by omega, by omega⟩
        · exact ⟨_, rfl, by omega, by omega⟩
      have ar : atI (R.map prD) (ps.length : Nat) = some (prD R[ps.length]) := by
        rw [atL, List.getElem?_map, List.getElem?_eq_getElem hi]
        rfl
      obtain ⟨q1, q2, q3⟩ := hR R[ps.length] (List.getElem_mem hi)
      have hz : ps.length < sizeLine := lt_line (by omega)
      have fin : ∀ (a b : Str), (a = R[ps.length].1 ∧ b = R[ps.length].2) ∨ (a = R[ps.length].2 ∧ b = R[ps.length].1) →
          (ps ++ [(⟨a, b, m⟩ : Pt)]).map pairOf = (R.take (ps ++ [(⟨a, b, m⟩ : Pt)]).length).map sp ∧ (∀ p ∈ ps ++ [(⟨a, b, m⟩ : Pt)], OkPt P p) ∧ (ps ++ [(⟨a, b, m⟩ : Pt)]).length ≤ R.length ∧ (rngD 0 R.length).drop (ps.length + 1) = (rngD 0 R.length).drop (ps ++ [(⟨a, b, m⟩ : Pt)]).length := by
        intro a b hab
        rw [List.length_append, List.length_singleton]
        refine ⟨?_, ?_, by omega, rfl⟩
        · rw [List.map_append, hp, List.take_succ, List.getElem?_eq_getElem hi, List.map_append]
          congr 1
          show [sp (a, b)] = [sp R[ps.length]]
          rcases hab with ⟨rfl, rfl⟩ | ⟨rfl, rfl⟩
          · rfl
          · rw [sp_swap]
        · intro p hp
          rcases List.mem_append.mp hp with hp | hp
          · exact ho p hp
          · rw [List.mem_singleton.mp hp]
            rcases hab with ⟨rfl, rfl⟩ | ⟨rfl, rfl⟩
            · exact ⟨⟨q1, q2, q3⟩, m0, m1⟩
            · exact ⟨⟨q2, q1, fun e => q3 e.symm⟩, m0, m1⟩
      by_cases c : p1 % 2 = 1
      · obtain ⟨z1, z2, z3, z4⟩ := fin R[ps.length].2 R[ps.length].1 (.inr ⟨rfl, rfl⟩)
        refine ⟨_, rfl, .nx, pE (some (s, .lst (xs.map .int))) (some (.fro, .int k)) a2 a3 (some (.con .fro, .lst (R.map prD))) (some (.fro, .int ps.length)) (some (.fro, .str R[ps.length].1)) a7 (some (.con .fro, .lst ((ps ++ [(⟨R[ps.length].2, R[ps.length].1, m⟩ : Pt)]).map pathD))) (some (.fro, .str R[ps.length].2)), ?_, .inl rfl, ps ++ [⟨R[ps.length].2, R[ps.length].1, m⟩], _, _, _, rfl, z1, z2, z3, z4⟩
        rcases hs with rfl | rfl <;> simp [b__law_paths_L3, ar, prD, e1, e2, e3, ef, c, stow, lBack, hz, pathD]
      · obtain ⟨z1, z2, z3, z4⟩ := fin R[ps.length].1 R[ps.length].2 (.inl ⟨rfl, rfl⟩)
        refine ⟨_, rfl, .nx, pE (some (s, .lst (xs.map .int))) (some (.fro, .int k)) a2 a3 (some (.con .fro, .lst (R.map prD))) (some (.fro, .int ps.length)) (some (.fro, .str R[ps.length].2)) a7 (some (.con .fro, .lst ((ps ++ [(⟨R[ps.length].1, R[ps.length].2, m⟩ : Pt)]).map pathD))) (some (.fro, .str R[ps.length].1)), ?_, .inl rfl, ps ++ [⟨R[ps.length].1, R[ps.length].2, m⟩], _, _, _, rfl, z1, z2, z3, z4⟩
        rcases hs with rfl | rfl <;> simp [b__law_paths_L3, ar, prD, e1, e2, e3, ef, c, stow, lBack, hz, pathD])
  obtain ⟨ε', e1, ps, u, v, w, rfl, hp, ho, hle, hd⟩ := loop (rngD 0 R.length) (pE (some (s, .lst (xs.map .int))) (some (.fro, .int k)) a2 a3 (some (.con .fro, .lst (R.map prD))) nn o a7 (some (.con .fro, .lst (([] : List Pt).map pathD))) o9)
    ⟨[], nn, o, o9, rfl, by simp, by simp, by simp, by simp⟩
  have hl : ps.length = R.length := by
    have := congrArg List.length hd
    rw [List.length_drop, rngD_length] at this
    simp at this
    omega
  rw [hl, List.take_length] at hp
  exact ⟨ps, u, v, w, hp, ho, e1⟩
theorem paths_gen {xs : List Int} {n : Nat} (hx : Nums xs n) (h0 : 0 < n) (hn : n ≤ 10000) {s : Sh} (hs : Rd1 s) (k : Int) (k0 : 0 ≤ k) (k1 : k ≤ 10000) (P : List Str) (nd : P.Nodup) (lP : P.length ≤ 31) (many : Nat) :
    ∃ ps : List Pt, (∀ p ∈ ps, OkPt P p) ∧ (ps.map pairOf).Nodup ∧ ps.length ≤ many ∧ ps.length ≤ 1000 ∧ M__law_paths [(s, .lst (xs.map .int)), (.fro, .int k), (.fro, .lst (P.map .str)), (.fro, .int many)] = .ok (.con .fro, .lst (ps.map pathD)) := by
  obtain ⟨n1, o1, e1⟩ := pairs_ok (some (s, .lst (xs.map .int))) (some (.fro, .int k)) (some (.fro, .int many)) P (by omega)
  obtain ⟨t, t0, _, et⟩ := pick_ok hx h0 hn hs k k0 (by omega)
  have al := allPairs_len P
  have al2 : P.length * P.length ≤ 31 * 31 := Nat.mul_le_mul lP lP
  obtain ⟨tt, ht⟩ : ∃ tt : Nat, (tt : Int) = t % (if ((allPairs P).length : Int) > 1 then ((allPairs P).length : Int) else 1) := by
    refine ⟨(t % (if ((allPairs P).length : Int) > 1 then ((allPairs P).length : Int) else 1)).toNat, Int.toNat_of_nonneg (Int.emod_nonneg _ ?_)⟩
    split <;> omega
  obtain ⟨R, hR⟩ : ∃ R, ((allPairs P).drop tt ++ (allPairs P).take tt).take many = R := ⟨_, rfl⟩
  have pm : ((allPairs P).drop tt ++ (allPairs P).take tt).Perm (allPairs P) := List.perm_append_comm.trans (List.Perm.of_eq (List.take_append_drop tt _))
  have sub : ∀ p ∈ R, p ∈ allPairs P := fun p hp => pm.mem_iff.mp (List.mem_of_mem_take (hR ▸ hp))
  have rl : R.length ≤ 1000 := by
    rw [← hR, List.length_take, pm.length_eq]
    omega
  have rm : R.length ≤ many := by rw [← hR, List.length_take]; omega
  have rnd : (R.map sp).Nodup := by
    rw [← hR, List.map_take]
    exact ((pm.map sp).nodup_iff.mpr (allPairs_nd nd)).sublist (List.take_sublist _ _)
  obtain ⟨ps, u, v, w, hp, ho, e3⟩ := turn_ok hx h0 hn hs k k0 (by omega) P R (fun p hp => allPairs_mem nd p (sub p hp)) rl (some (.fro, .lst (P.map .str))) (some (.fro, .int many)) (some (.fro, .int tt)) none o1 n1
  have pl : ps.length = R.length := by have := congrArg List.length hp; simpa using this
  refine ⟨ps, ho, by rw [hp]; exact rnd, by omega, by omega, ?_⟩
  have g1 : RngOk (P.length : Int) := rngOk_nat (by omega)
  have g2 : RngOk (R.length : Int) := rngOk_nat (by omega)
  have c1 : cutL ((allPairs P).map prD) (some (tt : Int)) none = ((allPairs P).drop tt).map prD := by rw [cut_drop, List.map_drop]
  have c2 : cutL ((allPairs P).map prD) none (some (tt : Int)) = ((allPairs P).take tt).map prD := by rw [cut_take, List.map_take]
  have c3 : cutL (((allPairs P).drop tt).map prD ++ ((allPairs P).take tt).map prD) none (some (many : Int)) = R.map prD := by rw [cut_take, ← List.map_append, ← List.map_take, hR]
  have lz : ((allPairs P).drop tt).length + ((allPairs P).take tt).length ≤ sizeLine := le_line (by rw [← List.length_append, pm.length_eq]; omega)
  have mp : (0 : Int) < (if ((allPairs P).length : Int) > 1 then ((allPairs P).length : Int) else 1) := by split <;> omega
  have e0 : (sSet 4 (eLst cNl)) (env0 10 [(s, .lst (xs.map .int)), (.fro, .int k), (.fro, .lst (P.map .str)), (.fro, .int many)]) = .ok .nx (pE (some (s, .lst (xs.map .int))) (some (.fro, .int k)) (some (.fro, .lst (P.map .str))) (some (.fro, .int many)) (some (.con .fro, .lst [])) none none none none none) := by simp [env0]
  refine run_rt (seq_ex _ e0 ?_)
  refine seq_ex _ (by simp [g1]; exact e1) ?_
  refine seq_ex (pE (some (s, .lst (xs.map .int))) (some (.fro, .int k)) (some (.fro, .lst (P.map .str))) (some (.fro, .int many)) (some (.con .fro, .lst ((allPairs P).map prD))) n1 o1 (some (.fro, .int tt)) none none) (by rw [ht]; rcases hs with rfl | rfl <;> simp [et, mp]) ?_
  refine seq_ex (pE (some (s, .lst (xs.map .int))) (some (.fro, .int k)) (some (.fro, .lst (P.map .str))) (some (.fro, .int many)) (some (.con .fro, .lst (R.map prD))) n1 o1 (some (.fro, .int tt)) none none) (by
    simp only [List.length_drop, List.length_take] at lz
    simp [c1, c2, c3, -List.map_drop, -List.map_take, lz]) ?_
  refine seq_ex (pE (some (s, .lst (xs.map .int))) (some (.fro, .int k)) (some (.fro, .lst (P.map .str))) (some (.fro, .int many)) (some (.con .fro, .lst (R.map prD))) n1 o1 (some (.fro, .int tt)) (some (.con .fro, .lst [])) none) (by simp) ?_
  refine seq_ex _ (by simp [g2]; exact e3) ?_
  exact ⟨pE (some (s, .lst (xs.map .int))) (some (.fro, .int k)) (some (.fro, .lst (P.map .str))) (some (.fro, .int many)) (some (.con .fro, .lst (R.map prD))) u v (some (.fro, .int tt)) none w, by simp⟩
/-! ### _law_parts -/
structure OkLk (W P : List Str) (l : Lk) : Prop where
  nm : isNm l.name = true
  ends : l.one ∈ P ∧ l.other ∈ P ∧ l.one ≠ l.other
  len : l.times.length = W.length
  tm : ∀ o ∈ l.times, OkTm o
  nl : l.name.length ≤ 12
structure LandOk (W P : List Str) (ls : List Lk) (ps : List Pt) : Prop where
  w : 1 ≤ W.length ∧ W.length ≤ 4 ∧ W.all isNm = true ∧ W.Nodup
  p : 1 ≤ P.length ∧ P.length ≤ 24 ∧ P.all isNm = true ∧ P.Nodup
  wl : ∀ w ∈ W, w.length ≤ 12
  pl : ∀ w ∈ P, w.length ≤ 12
  l60 : ls.length ≤ 60
  l : ∀ l ∈ ls, OkLk W P l
  ln : (ls.map (·.name)).Nodup
  p60 : ps.length ≤ 60
  pt : ∀ p ∈ ps, OkPt P p
  pn : (ps.map pairOf).Nodup
def linkRaw (l : Lk) : R.D := .tup [.str l.name, .str l.one, .str l.other, .lst (l.times.map timeD)]
theorem nm_le {A C : Str} (h : Pre A C) (sh : Int) (k : Nat) : (nmS A C sh k).length ≤ 12 := by
  have := h.le
  rw [nm_len]
  split <;> omega
theorem names_all {A C : Str} (h : Pre A C) (sh : Int) (n : Nat) : ((List.range n).map (nmS A C sh)).all isNm = true := by
  rw [List.all_eq_true]
  intro x hx
  obtain ⟨k, _, rfl⟩ := List.mem_map.mp hx
  exact nm_is h sh k
theorem links_loop {xs : List Int} {n : Nat} (hx : Nums xs n) (h0 : 0 < n) (hn : n ≤ 10000) {s : Sh} (hs : Rd1 s) (W P ns : List Str) (lW : W.length ≤ 4) (nd : P.Nodup) (lP : P.length ≤ 24) (two : ns = [] ∨ 2 ≤ P.length) (ln : ns.length ≤ 60)
    (nm : ∀ x ∈ ns, isNm x = true ∧ x.length ≤ 12) :
    ∃ (ls : List Lk) (a b c d : Option Rv), ls.map (·.name) = ns ∧ (∀ l ∈ ls, OkLk W P l) ∧
      loopF (gNm 5) (b__law_parts_L1 M__law_pick M__law_times) (rngD 0 ns.length) [some (s, .lst (xs.map .int)), some (.con .fro, .lst (W.map .str)), some (.con .fro, .lst (P.map .str)), some (.con .fro, .lst (ns.map .str)), some (.con .fro, .lst []), none, none, none, none] =
      .ok .nx [some (s, .lst (xs.map .int)), some (.con .fro, .lst (W.map .str)), some (.con .fro, .lst (P.map .str)), some (.con .fro, .lst (ns.map .str)), some (.con .fro, .lst (ls.map linkRaw)), a, b, c, d] := by
  have loop := loop_ind (tg := gNm 5) (body := b__law_parts_L1 M__law_pick M__law_times)
    (P := fun ds ε => ∃ (ls : List Lk) (a b c d : Option Rv), ε = [some (s, .lst (xs.map .int)), some (.con .fro, .lst (W.map .str)), some (.con .fro, .lst (P.map .str)), some (.con .fro, .lst (ns.map .str)), some (.con .fro, .lst (ls.map linkRaw)), a, b, c, d] ∧
      ls.map (·.name) = ns.take ls.length ∧ (∀ l ∈ ls, OkLk W P l) ∧ ls.length ≤ ns.length ∧ ds = (rngD 0 ns.length).drop ls.length) (by
      rintro d ds ε ⟨ls, a, b, c, e, rfl, hp, ho, hle, hd⟩
      obtain ⟨hi, rfl, rfl⟩ := rng_step hd.symm
      have p2 : 2 ≤ P.length := by
        rcases two with rfl | h
        · simp at hi
        · exact h
      obtain ⟨p1, p10, p11, e1⟩ := pick_ok hx h0 hn hs (40 + 11 * ls.length) (by omega) (by omega)
      obtain ⟨q1, q10, q11, e2⟩ := pick_ok hx h0 hn hs (40 + 11 * ls.length + 1) (by omega) (by omega)
      obtain ⟨ts, tl1, to, e3⟩ := times_gen hx h0 hn hs (40 + 11 * ls.length + 2) (by omega) (by omega) W.length (by omega)
      have b0 : 0 ≤ p1 % (P.length : Int) := Int.emod_nonneg _ (by omega)
      have b1 : p1 % (P.length : Int) < P.length := Int.emod_lt_of_pos _ (by omega)
      have b2 : 0 ≤ q1 % ((P.length : Int) - 1) := Int.emod_nonneg _ (by omega)
      have b3 : q1 % ((P.length : Int) - 1) < (P.length : Int) - 1 := Int.emod_lt_of_pos _ (by omega)
      obtain ⟨i, hi1⟩ : ∃ i : Nat, (i : Int) = p1 % (P.length : Int) := ⟨(p1 % (P.length : Int)).toNat, Int.toNat_of_nonneg b0⟩
      obtain ⟨r, hr1⟩ : ∃ r : Nat, (r : Int) = q1 % ((P.length : Int) - 1) := ⟨(q1 % ((P.length : Int) - 1)).toNat, Int.toNat_of_nonneg b2⟩
      obtain ⟨j, hj1, hj2, hj3⟩ : ∃ j : Nat, (j : Int) = ((i : Int) + 1 + r) % (P.length : Int) ∧ j < P.length ∧ j ≠ i := by
        by_cases c : i + 1 + r < P.length
        · exact ⟨i + 1 + r, by rw [Int.emod_eq_of_lt (by omega) (by omega)]; omega, c, by omega⟩
        · refine ⟨i + 1 + r - P.length, ?_, by omega, by omega⟩
          rw [← Int.sub_emod_right, Int.emod_eq_of_lt (by omega) (by omega)]
          omega
      have li : i < P.length := by omega
      have ai : atI (P.map R.D.str) (i : Int) = some (.str P[i]) := by rw [atL, List.getElem?_map, List.getElem?_eq_getElem li]; rfl
      have aj : atI (P.map R.D.str) (j : Int) = some (.str P[j]) := by rw [atL, List.getElem?_map, List.getElem?_eq_getElem hj2]; rfl
      have an : atI (ns.map R.D.str) (ls.length : Nat) = some (.str ns[ls.length]) := by rw [atL, List.getElem?_map, List.getElem?_eq_getElem hi]; rfl
      have hz : ls.length < sizeLine := lt_line (by omega)
      have m11 : MulOk 11 (ls.length : Int) := mulL (by decide) (by decide)
      have pp : (0 : Int) < P.length := by omega
      have pp' : 0 < P.length := by omega
      have pq : (0 : Int) < (P.length : Int) - 1 := by omega
      have pq' : (1 : Int) < P.length := by omega
      have pq'' : 1 < P.length := by omega
      refine ⟨_, rfl, .nx, [some (s, .lst (xs.map .int)), some (.con .fro, .lst (W.map .str)), some (.con .fro, .lst (P.map .str)), some (.con .fro, .lst (ns.map .str)), some (.con .fro, .lst ((ls ++ [(⟨ns[ls.length], P[i], P[j], ts⟩ : Lk)]).map linkRaw)), some (.fro, .int ls.length), some (.fro, .int (40 + 11 * ls.length)), some (.fro, .int i), some (.fro, .int j)], ?_, .inl rfl, ls ++ [⟨ns[ls.length], P[i], P[j], ts⟩], _, _, _, _, rfl, ?_, ?_, ?_, ?_⟩
      · rw [hi1] at ai
        rw [hj1] at aj
        rw [hi1, hr1] at aj
        rw [hj1, hi1, hr1]
        rcases hs with rfl | rfl <;> simp [b__law_parts_L1, m11, e1, e2, e3, ai, aj, an, pp, pp', pq, pq', pq'', stow, lBack, hz, linkRaw]
      · rw [List.map_append, hp, List.length_append, List.length_singleton, List.take_succ, List.getElem?_eq_getElem hi]
        rfl
      · intro l hl
        rcases List.mem_append.mp hl with hl | hl
        · exact ho l hl
        · rw [List.mem_singleton.mp hl]
          refine ⟨(nm _ (List.getElem_mem hi)).1, ⟨List.getElem_mem li, List.getElem_mem hj2, fun e => hj3 ?_⟩, tl1, to, (nm _ (List.getElem_mem hi)).2⟩
          exact ((List.getElem_inj nd).mp e).symm
      · rw [List.length_append, List.length_singleton]; omega
      · rw [List.length_append, List.length_singleton])
  obtain ⟨ε', e1, ls, a, b, c, d, rfl, hp, ho, hle, hd⟩ := loop (rngD 0 ns.length) [some (s, .lst (xs.map .int)), some (.con .fro, .lst (W.map .str)), some (.con .fro, .lst (P.map .str)), some (.con .fro, .lst (ns.map .str)), some (.con .fro, .lst (([] : List Lk).map linkRaw)), none, none, none, none]
    ⟨[], none, none, none, none, rfl, by simp, by simp, by simp, by simp⟩
  have hl : ls.length = ns.length := by
    have := congrArg List.length hd
    rw [List.length_drop, rngD_length] at this
    simp at this
    omega
  rw [hl, List.take_length] at hp
  exact ⟨ls, a, b, c, d, hp, ho, e1⟩
def partsD (W P : List Str) (ls : List Lk) (ps : List Pt) : R.D := .lst [.lst (W.map .str), .lst (P.map .str), .lst (ls.map linkRaw), .lst (ps.map pathD)]
theorem parts_ok {xs : List Int} {n : Nat} (hx : Nums xs n) (h0 : 40 ≤ n) (hn : n ≤ 10000) {s : Sh} (hs : Rd1 s) :
    ∃ (W P : List Str) (ls : List Lk) (ps : List Pt), LandOk W P ls ps ∧ M__law_parts [(s, .lst (xs.map .int))] = .ok (.con .fro, partsD W P ls ps) := by
  obtain ⟨x14, e14, g14, _⟩ := at_nums hx 14 (by omega)
  obtain ⟨x21, e21, g21, _⟩ := at_nums hx 21 (by omega)
  obtain ⟨x28, e28, g28, _⟩ := at_nums hx 28 (by omega)
  obtain ⟨x29, e29, g29, _⟩ := at_nums hx 29 (by omega)
  have e14' : atI (xs.map R.D.int) 14 = some (.int x14) := e14
  have e21' : atI (xs.map R.D.int) 21 = some (.int x21) := e21
  have e28' : atI (xs.map R.D.int) 28 = some (.int x28) := e28
  have e29' : atI (xs.map R.D.int) 29 = some (.int x29) := e29
  obtain ⟨w, hw⟩ : ∃ w : Nat, (w : Int) = 1 + x14 % 4 := ⟨(1 + x14 % 4).toNat, Int.toNat_of_nonneg (by omega)⟩
  obtain ⟨c, c0, c1, ec⟩ := count_ok x21 1 24 g21 (by decide) (by decide) (by decide)
  obtain ⟨d, d0, d1, ed⟩ := count_ok x28 0 60 g28 (by decide) (by decide) (by decide)
  obtain ⟨f, f0, f1, ef⟩ := count_ok x29 0 60 g29 (by decide) (by decide) (by decide)
  obtain ⟨cn, rfl⟩ : ∃ cn : Nat, c = cn := ⟨c.toNat, (Int.toNat_of_nonneg (by omega)).symm⟩
  obtain ⟨fn, rfl⟩ : ∃ fn : Nat, f = fn := ⟨f.toNat, (Int.toNat_of_nonneg (by omega)).symm⟩
  obtain ⟨A1, C1, s1, pr1, en1⟩ := names_gen hx hs 8 (by omega) (by omega) w (by omega)
  obtain ⟨A2, C2, s2, pr2, en2⟩ := names_gen hx hs 15 (by omega) (by omega) cn (by omega)
  obtain ⟨m, hm⟩ : ∃ m : Nat, (m : Int) = d * (if (1 : Int) < cn then 1 else 0) := ⟨(d * (if (1 : Int) < cn then 1 else 0)).toNat, Int.toNat_of_nonneg (by split <;> omega)⟩
  obtain ⟨A3, C3, s3, pr3, en3⟩ := names_gen hx hs 22 (by omega) (by omega) m (by split at hm <;> omega)
  have nd1 := nm_nodup A1 C1 s1 w (by omega)
  have nd2 := nm_nodup A2 C2 s2 cn (by omega)
  have nd3 := nm_nodup A3 C3 s3 m (by split at hm <;> omega)
  have al1 := names_all pr1 s1 w
  have al2 := names_all pr2 s2 cn
  have le1 : ∀ x ∈ (List.range w).map (nmS A1 C1 s1), x.length ≤ 12 := fun x hx => by obtain ⟨k, _, rfl⟩ := List.mem_map.mp hx; exact nm_le pr1 s1 k
  have le2 : ∀ x ∈ (List.range cn).map (nmS A2 C2 s2), x.length ≤ 12 := fun x hx => by obtain ⟨k, _, rfl⟩ := List.mem_map.mp hx; exact nm_le pr2 s2 k
  have le3 : ∀ x ∈ (List.range m).map (nmS A3 C3 s3), isNm x = true ∧ x.length ≤ 12 := fun x hx => by obtain ⟨k, _, rfl⟩ := List.mem_map.mp hx; exact ⟨nm_is pr3 s3 k, nm_le pr3 s3 k⟩
  have ll1 : ((List.range w).map (nmS A1 C1 s1)).length = w := by simp
  have ll2 : ((List.range cn).map (nmS A2 C2 s2)).length = cn := by simp
  have ll3 : ((List.range m).map (nmS A3 C3 s3)).length = m := by simp
  generalize (List.range w).map (nmS A1 C1 s1) = W at en1 nd1 al1 le1 ll1
  generalize (List.range cn).map (nmS A2 C2 s2) = P at en2 nd2 al2 le2 ll2
  generalize (List.range m).map (nmS A3 C3 s3) = ns at en3 nd3 le3 ll3
  obtain ⟨ls, a, b, c', d', hn1, hl1, el⟩ := links_loop hx (by omega) hn hs W P ns (by omega) nd2 (by omega) (by
    by_cases h : 1 < cn
    · exact .inr (by omega)
    · refine .inl (List.eq_nil_of_length_eq_zero ?_)
      rw [if_neg (by omega)] at hm
      omega) (by split at hm <;> omega) le3
  obtain ⟨ps, ho, pn, pm, _, ep⟩ := paths_gen hx (by omega) hn hs 30 (by decide) (by decide) P nd2 (by omega) fn
  have lsl : ls.length = ns.length := by have := congrArg List.length hn1; simpa using this
  refine ⟨W, P, ls, ps, ⟨⟨by omega, by omega, al1, nd1⟩, ⟨by omega, by omega, al2, nd2⟩, le1, le2, by split at hm <;> omega, hl1, by rw [hn1]; exact nd3, by omega, ho, pn⟩, ?_⟩
  rw [hw] at en1
  have en2 : M__law_names [(s, .lst (xs.map .int)), (.fro, .int 15), (.fro, .int cn)] = _ := en2
  have en1 : M__law_names [(s, .lst (xs.map .int)), (.fro, .int 8), (.fro, .int (1 + x14 % 4))] = _ := en1
  have lm : MulOk d (if (1 : Int) < cn then 1 else 0) := mulL (by omega) (by omega)
  rw [hm, ← ll2] at en3
  rw [← ll2] at lm
  have en3 : M__law_names [(s, .lst (xs.map .int)), (.fro, .int 22), (.fro, .int (d * if (1 : Int) < (P.length : Nat) then 1 else 0))] = _ := en3
  have g1 : RngOk (ns.length : Int) := rngOk_nat (by split at hm <;> omega)
  refine run_rt ?_
  refine seq_ex [some (s, .lst (xs.map .int)), some (.con .fro, .lst (W.map .str)), none, none, none, none, none, none, none] (by rcases hs with rfl | rfl <;> simp [env0, e14', en1]) ?_
  refine seq_ex [some (s, .lst (xs.map .int)), some (.con .fro, .lst (W.map .str)), some (.con .fro, .lst (P.map .str)), none, none, none, none, none, none] (by rcases hs with rfl | rfl <;> simp [e21', ec, en2]) ?_
  refine seq_ex [some (s, .lst (xs.map .int)), some (.con .fro, .lst (W.map .str)), some (.con .fro, .lst (P.map .str)), some (.con .fro, .lst (ns.map .str)), none, none, none, none, none] (by
    by_cases c1 : (1 : Int) < P.length
    · have c2 : 1 < P.length := by omega
      simp only [c1, if_true] at en3 lm
      rcases hs with rfl | rfl <;> simp [e28', ed, c1, c2, lm, -Int.mul_one, en3]
    · have c2 : ¬ 1 < P.length := by omega
      simp only [c1, if_false] at en3 lm
      rcases hs with rfl | rfl <;> simp [e28', ed, c1, c2, lm, -Int.mul_zero, en3]) ?_
  refine seq_ex [some (s, .lst (xs.map .int)), some (.con .fro, .lst (W.map .str)), some (.con .fro, .lst (P.map .str)), some (.con .fro, .lst (ns.map .str)), some (.con .fro, .lst []), none, none, none, none] (by simp) ?_
  refine seq_ex _ (by simp [g1]; exact el) ?_
  refine ⟨[some (s, .lst (xs.map .int)), some (.fro, .lst (W.map .str)), some (.fro, .lst (P.map .str)), some (.con .fro, .lst (ns.map .str)), some (.fro, .lst (ls.map linkRaw)), a, b, c', d'], ?_⟩
  rcases hs with rfl | rfl <;> simp [e29', ef, ep, partsD]
end VPA
set_option autoImplicit false
set_option Elab.async false
set_option linter.all false
set_option autoImplicit false
set_option maxRecDepth 10000
/-! VPC: the drawn land is made; its frozen parts. -/
namespace VPA
open PySem PySem.Spec PyProof.Rows L2 R S VL
open TL (tl len_tl ext_tl tl_append)
@[simp] theorem sMeK_def (c : Nat) (aR : List Rv → List Rv) (F : Fn) (h : Ev1) (g : EvG) (ε : En) : sMeK c aR F h g ε = (h ε).bind fun a ε => opt (argRv a ε) fun r => if clsOf r.2 = some c then (g ε).bind fun as ε => opt (argRv a ε) fun r => opt (argRvs as ε) fun rs => frOut (F (r :: aR rs)) ε else .bad := id rfl
theorem chkPair_tm {o : Option (Int × Int)} (h : OkTm o) : chkPair (timeD o) = some o := by
  match o, h with
  | none, _ => rfl
  | some (a, b), h =>
    have := h a b rfl
    show okPair a b = _
    unfold okPair
    rw [if_pos this]
theorem chkTimes_tm : ∀ {ts : List (Option (Int × Int))}, (∀ o ∈ ts, OkTm o) → chkTimes (ts.map timeD) = some ts
  | [], _ => rfl
  | o :: ts, h => by
    rw [List.map_cons, chkTimes, chkPair_tm (h o List.mem_cons_self), Option.bind_some, chkTimes_tm fun x hx => h x (List.mem_cons_of_mem _ hx)]
    rfl
def lkD (b : Bool) (l : Lk) : R.D := .tup [.str l.name, .str l.one, .str l.other, sq b (l.times.map timeD)]
theorem lkD_f : lkD false = linkRaw := rfl
theorem lkD_t : lkD true = linkD := rfl
theorem goodT (o : Option (Int × Int)) : GoodT (timeD o) := by
  match o with
  | none => exact .inl rfl
  | some (a, b) => exact .inr ⟨true, [a, b], by simp, rfl⟩
section
variable {W P : List Str} {ls : List Lk} {ps : List Pt}
theorem chkLink_lk (b : Bool) {l : Lk} (h : OkLk W P l) : chkLink W P (lkD b l) = some l := by
  show ((seqOf (sq b (l.times.map timeD))).bind fun ts => if isNm l.name = true ∧ (l.one ∈ P ∧ l.other ∈ P ∧ l.one ≠ l.other) ∧ ts.length = W.length then (chkTimes ts).map fun us => (⟨l.name, l.one, l.other, us⟩ : Lk) else none) = some l
  rw [seqOf_sq, Option.bind_some, if_pos ⟨h.nm, h.ends, by rw [List.length_map]; exact h.len⟩, chkTimes_tm h.tm]
  rfl
theorem chkLinks_lk (b : Bool) : ∀ {ls : List Lk}, (∀ l ∈ ls, OkLk W P l) → chkLinks W P (ls.map (lkD b)) = some ls
  | [], _ => rfl
  | l :: ls, h => by
    rw [List.map_cons, chkLinks, chkLink_lk b (h l List.mem_cons_self), Option.bind_some, chkLinks_lk b fun x hx => h x (List.mem_cons_of_mem _ hx)]
    rfl
theorem chkPath_pt {p : Pt} (h : OkPt P p) : chkPath P (pathD p) = some p := by
  show (if (p.one ∈ P ∧ p.other ∈ P ∧ p.one ≠ p.other) ∧ 1 ≤ p.minutes ∧ p.minutes ≤ 1000 then some (⟨p.one, p.other, p.minutes⟩ : Pt) else none) = some p
  exact if_pos h
theorem chkPaths_pt : ∀ {ps : List Pt}, (∀ p ∈ ps, OkPt P p) → chkPaths P (ps.map pathD) = some ps
  | [], _ => rfl
  | p :: ps, h => by
    rw [List.map_cons, chkPaths, chkPath_pt (h p List.mem_cons_self), Option.bind_some, chkPaths_pt fun x hx => h x (List.mem_cons_of_mem _ hx)]
    rfl
theorem chkLand_ok (b : Bool) (h : LandOk W P ls ps) : chkLand W P (ls.map (lkD b)) (ps.map pathD) = some ⟨W, P, ls, ps⟩ := by
  unfold chkLand
  rw [if_pos ⟨h.w, h.p, by rw [List.length_map]; exact h.l60⟩, chkLinks_lk b h.l, Option.bind_some, if_pos ⟨h.ln, by rw [List.length_map]; exact h.p60⟩, chkPaths_pt h.pt, Option.bind_some, if_pos h.pn]
theorem nm_short {s : Str} (h : isNm s = true) : s.length ≤ 12 := by
  unfold isNm nmL at h
  rw [Bool.and_eq_true, Bool.and_eq_true] at h
  have := of_decide_eq_true h.1.1
  rw [len_tl]
  exact this.2
theorem goodL (b : Bool) {l : Lk} (h : OkLk W P l) (hW : W.length ≤ 1000) : GoodL (lkD b l) :=
  ⟨true, [.str l.name, .str l.one, .str l.other, sq b (l.times.map timeD)], rfl, by simp, .inr ⟨l.name, l.one, l.other, b, l.times.map timeD, rfl, by have := h.nl; omega, fun x hx => by
    obtain ⟨o, _, rfl⟩ := List.mem_map.mp hx
    exact goodT o, by rw [List.length_map, h.len]; exact hW⟩⟩
theorem goodP (p : Pt) : GoodP (pathD p) := ⟨true, [.str p.one, .str p.other, .int p.minutes], rfl, by simp, .inr ⟨p.one, p.other, p.minutes, rfl⟩⟩
theorem land_made (b1 b2 b3 b4 b : Bool) (h : LandOk W P ls ps) : M_Land_init [(.fro, sq b1 (W.map .str)), (.fro, sq b2 (P.map .str)), (.fro, sq b3 (ls.map (lkD b))), (.fro, sq b4 (ps.map pathD))] = .ok (.obj [.fro, .fro, .fro, .fro], landD ⟨W, P, ls, ps⟩) := by
  have hw := h.w
  have hp := h.p
  have := init_ok b1 b2 b3 b4 W P (ls.map (lkD b)) (ps.map pathD) (fun w hw => by have := h.wl w hw; omega) (fun w hw => by have := h.pl w hw; omega) (by omega) (by omega)
    (by rw [List.length_map]; have := h.l60; omega) (by rw [List.length_map]; have := h.p60; omega) (fun d hd => by
      obtain ⟨l, hl, rfl⟩ := List.mem_map.mp hd
      exact goodL b (h.l l hl) (by omega)) (fun d hd => by
      obtain ⟨l, hl, rfl⟩ := List.mem_map.mp hd
      exact goodP l)
  rw [this, chkLand_ok b h]
theorem made_ok (h : LandOk W P ls ps) : M__law_made [(.fro, partsD W P ls ps)] = .ok (.obj [.fro, .fro, .fro, .fro], landD ⟨W, P, ls, ps⟩) := by
  have e := land_made false false false false false h
  rw [lkD_f] at e
  simp only [sq_f] at e
  have i2 : atI [R.D.lst (W.map .str), .lst (P.map .str), .lst (ls.map linkRaw), .lst (ps.map pathD)] 2 = some (.lst (ls.map linkRaw)) := rfl
  have i3 : atI [R.D.lst (W.map .str), .lst (P.map .str), .lst (ls.map linkRaw), .lst (ps.map pathD)] 3 = some (.lst (ps.map pathD)) := rfl
  have i0 : atI [R.D.lst (W.map .str), .lst (P.map .str), .lst (ls.map linkRaw), .lst (ps.map pathD)] 0 = some (.lst (W.map .str)) := rfl
  have i1 : atI [R.D.lst (W.map .str), .lst (P.map .str), .lst (ls.map linkRaw), .lst (ps.map pathD)] 1 = some (.lst (P.map .str)) := rfl
  simp [M__law_made, b__law_made, env0, partsD, i0, i1, i2, i3, pList, aR_Land_winds_places_links_paths, e]
/-! ### the parts as they are kept -/
def frozenD (v : LandV) : R.D := .tup [.tup (v.winds.map .str), .tup (v.places.map .str), .tup (v.links.map linkD), .tup (v.paths.map pathD)]
theorem okD_time (o : Option (Int × Int)) (n : Nat) : okD (n + 2) (timeD o) = true := by
  match o with
  | none => rfl
  | some (a, b) => rfl
theorem okD_map {α : Type} (f : α → R.D) (n : Nat) (h : ∀ a, okD n (f a) = true) (l : List α) : (l.map f).all (okD n) = true := by
  rw [List.all_eq_true]
  intro d hd
  obtain ⟨x, _, rfl⟩ := List.mem_map.mp hd
  exact h x
theorem okD_link (l : Lk) (n : Nat) : okD (n + 4) (linkD l) = true := by
  have h : (l.times.map timeD).all (okD (n + 2)) = true := okD_map timeD _ (fun o => okD_time o n) _
  show ([R.D.str l.name, .str l.one, .str l.other, .tup (l.times.map timeD)]).all (okD (n + 3)) = true
  simp only [List.all_cons, List.all_nil, Bool.and_true]
  rw [show okD (n + 3) (.tup (l.times.map timeD)) = (l.times.map timeD).all (okD (n + 2)) from rfl, h]
  rfl
theorem okD_path (p : Pt) (n : Nat) : okD (n + 2) (pathD p) = true := rfl
theorem okD_frozen (v : LandV) : okD 60 (frozenD v) = true := by
  show ([R.D.tup (v.winds.map .str), .tup (v.places.map .str), .tup (v.links.map linkD), .tup (v.paths.map pathD)]).all (okD 59) = true
  simp only [List.all_cons, List.all_nil, Bool.and_true]
  rw [show okD 59 (.tup (v.winds.map .str)) = (v.winds.map R.D.str).all (okD 58) from rfl, show okD 59 (.tup (v.places.map .str)) = (v.places.map R.D.str).all (okD 58) from rfl,
    show okD 59 (.tup (v.links.map linkD)) = (v.links.map linkD).all (okD 58) from rfl, show okD 59 (.tup (v.paths.map pathD)) = (v.paths.map pathD).all (okD 58) from rfl,
    okD_strs, okD_strs, okD_map linkD 58 (fun l => okD_link l 54), okD_map pathD 58 (fun p => okD_path p 56)]
  rfl
theorem same_ok {s s' : Sh} (hs : Rd1 s) (hs' : Rd1 s') (v : LandV) : M__law_same [(s, landD v), (s', frozenD v)] = .ok (.fro, .bl true) := by
  have e := pEq_self (okD_frozen v)
  unfold frozenD at e ⊢
  rcases hs with rfl | rfl <;> rcases hs' with rfl | rfl <;> simp [M__law_same, b__law_same, env0, landD, selfD, e]
end
/-- a loop that appends a value a row -/
theorem loop_app {ρ τ : Type} {tg : EvTg} {body : EvS} {g h : ρ → R.D} (E : List R.D → τ → En) : ∀ (rows : List ρ) (acc : List R.D) (t : τ), acc.length + rows.length ≤ 1000 →
    (∀ r ∈ rows, ∀ acc t, acc.length < sizeLine → ∃ ε1, tg (.fro, g r) (E acc t) = some ε1 ∧ ∃ t', body ε1 = .ok .nx (E (acc ++ [h r]) t')) →
    ∃ t', loopF tg body (rows.map g) (E acc t) = .ok .nx (E (acc ++ rows.map h) t')
  | [], acc, t, _, _ => ⟨t, by simp [loopF]⟩
  | r :: rows, acc, t, hl, hs => by
    simp only [List.length_cons] at hl
    obtain ⟨ε1, e1, t1, e2⟩ := hs r List.mem_cons_self acc t (lt_line (by omega))
    obtain ⟨t2, e3⟩ := loop_app E rows (acc ++ [h r]) t1 (by rw [List.length_append, List.length_singleton]; omega) fun x hx => hs x (List.mem_cons_of_mem _ hx)
    refine ⟨t2, ?_⟩
    show opt (tg (.fro, g r) (E acc t)) (fun ε => (body ε).bind (flK (loopF tg body (rows.map g)))) = _
    rw [e1, opt_some, e2, bind_ok, flK_nx, e3, List.append_assoc]
    rfl
section
variable {W P : List Str} {ls : List Lk} {ps : List Pt}
theorem fz1 (a0 a1 a2 a3 a4 a5 a8 : Option Rv) (ts : List (Option (Int × Int))) (hl : ts.length ≤ 1000) (t : Option Rv) :
    ∃ t', loopF (gNm 7) b__law_frozen_L1 (ts.map timeD) [a0, a1, a2, a3, a4, a5, some (.con .fro, .lst []), t, a8] = .ok .nx [a0, a1, a2, a3, a4, a5, some (.con .fro, .lst (ts.map timeD)), t', a8] :=
  loop_app (h := timeD) (fun acc t => [a0, a1, a2, a3, a4, a5, some (.con .fro, .lst acc), t, a8]) ts [] t (by simpa using hl) (fun o _ acc t z => ⟨_, rfl, some (.fro, timeD o), by
    match o with
    | none => simp [b__law_frozen_L1, timeD, pIsN, stow, lBack, z]
    | some (a, b) => simp [b__law_frozen_L1, timeD, pIsN, pTuple, stow, lBack, z]⟩)
theorem frozen_ok (h : LandOk W P ls ps) : M__law_frozen [(.fro, partsD W P ls ps)] = .ok (.fro, frozenD ⟨W, P, ls, ps⟩) := by
  have i2 : atI [R.D.lst (W.map .str), .lst (P.map .str), .lst (ls.map linkRaw), .lst (ps.map pathD)] 2 = some (.lst (ls.map linkRaw)) := rfl
  have i3 : atI [R.D.lst (W.map .str), .lst (P.map .str), .lst (ls.map linkRaw), .lst (ps.map pathD)] 3 = some (.lst (ps.map pathD)) := rfl
  have i0 : atI [R.D.lst (W.map .str), .lst (P.map .str), .lst (ls.map linkRaw), .lst (ps.map pathD)] 0 = some (.lst (W.map .str)) := rfl
  have i1 : atI [R.D.lst (W.map .str), .lst (P.map .str), .lst (ls.map linkRaw), .lst (ps.map pathD)] 1 = some (.lst (P.map .str)) := rfl
  have hw := h.w
  obtain ⟨⟨t2, t3, t4, t5, t6, t7⟩, e⟩ := loop_app (g := linkRaw) (h := linkD) (tg := gAny (gC1 (gNm 2) (gC1 (gNm 3) (gC1 (gNm 4) (gC1 (gNm 5) gN0)))) 4) (body := b__law_frozen_L2) (τ := Option Rv × Option Rv × Option Rv × Option Rv × Option Rv × Option Rv)
    (fun acc t => [some (.fro, partsD W P ls ps), some (.con .fro, .lst acc), t.1, t.2.1, t.2.2.1, t.2.2.2.1, t.2.2.2.2.1, t.2.2.2.2.2, none]) ls [] (none, none, none, none, none, none) (by have := h.l60; simp; omega) (fun l hl acc t z => by
      obtain ⟨t', e⟩ := fz1 (some (.fro, partsD W P ls ps)) (some (.con .fro, .lst acc)) (some (.fro, .str l.name)) (some (.fro, .str l.one)) (some (.fro, .str l.other)) (some (.fro, .lst (l.times.map timeD))) none l.times (by rw [(h.l l hl).len]; omega) t.2.2.2.2.2
      exact ⟨_, rfl, (some (.fro, .str l.name), some (.fro, .str l.one), some (.fro, .str l.other), some (.fro, .lst (l.times.map timeD)), some (.con .fro, .lst (l.times.map timeD)), t'), by
        simp [b__law_frozen_L2, e, pTuple, stow, lBack, z, linkD]⟩)
  have l3 := fun (x0 x1 x2 x3 x4 x5 x6 x7 : Option Rv) => lc_rows0 (tg := gNm 8) (elt := b__law_frozen_X3) (own := [8]) (g := pathD) (h := pathD) (ε := [x0, x1, x2, x3, x4, x5, x6, x7, none]) ps
    (fun r hr => ⟨_, (.fro, pathD r), [x0, x1, x2, x3, x4, x5, x6, x7, some (.fro, pathD r)], rfl, by simp [b__law_frozen_X3, pathD, pTuple], rfl, rfl, rfl⟩) (le_line (by have := h.p60; omega))
  unfold partsD at e
  simp only [List.nil_append] at e
  simp [M__law_frozen, b__law_frozen, env0, partsD, i0, i1, i2, i3, e, pTuple, clr, rst, l3, frozenD]
end
/-- a comprehension with a test -/
theorem lc_filt {ρ : Type} {tg : EvTg} {ts : EvT} {elt : EvE} {own : List Nat} {g h : ρ → R.D} {p : ρ → Bool} {ε : En} : ∀ (rows : List ρ) (acc : List R.D),
    (∀ r ∈ rows, ∃ ε1 ε2, tg (.fro, g r) ε = some ε1 ∧ ts ε1 = .ok (p r) ε2 ∧ (p r = true → ∃ x ε3, elt ε2 = .ok x ε3 ∧ x.1.sol = true ∧ x.2 = h r ∧ clr own ε3 = ε) ∧ (p r = false → clr own ε2 = ε)) → acc.length + rows.length ≤ sizeLine →
    lcLoop tg ts elt own (rows.map g) acc ε = .ok (acc ++ (rows.filter p).map h) ε
  | [], acc, _, _ => by rw [List.map_nil, List.filter_nil, List.map_nil, List.append_nil]; rfl
  | r :: rows, acc, hs, hz => by
    obtain ⟨ε1, ε2, e1, e2, ht, hf⟩ := hs r List.mem_cons_self
    rw [List.length_cons] at hz
    rw [List.map_cons]
    unfold lcLoop
    rw [e1, opt_some, e2, nox_ok, bind_ok]
    cases hp : p r with
    | true =>
      obtain ⟨x, ε3, e3, so, e4, e5⟩ := ht hp
      rw [if_pos rfl, e3, nox_ok, bind_ok, if_pos ⟨so, by omega⟩, e5, lc_filt rows (acc ++ [x.2]) (fun d hd => hs d (List.mem_cons_of_mem _ hd)) (by rw [List.length_append, List.length_singleton]; omega), e4, List.filter_cons_of_pos hp]
      simp
    | false =>
      rw [if_neg (by simp), hf hp, lc_filt rows acc (fun d hd => hs d (List.mem_cons_of_mem _ hd)) (by omega), List.filter_cons_of_neg (by simp [hp])]
end VPA
set_option autoImplicit false
set_option Elab.async false
set_option linter.all false
set_option autoImplicit false
set_option maxRecDepth 10000
/-! VPT: the written form of a land. -/
namespace VPA
open PySem PySem.Spec PyProof.Rows L2 R S VL
open TL (tl len_tl ext_tl tl_append)
theorem s_assoc (a b c : Str) : a ++ b ++ c = a ++ (b ++ c) := by
  apply ext_tl
  simp only [tl_append, List.append_assoc]
theorem join_cons (y x z : Str) (r : List Str) : Txt.join y (x :: z :: r) = x ++ y ++ Txt.join y (z :: r) := by
  rw [TL.join_eq, TL.join_eq]
  rfl
theorem fold_shift (y : Str) : ∀ (r : List Str) (a b : Str), r.foldl (fun a w => a ++ y ++ w) (a ++ b) = a ++ r.foldl (fun a w => a ++ y ++ w) b
  | [], _, _ => rfl
  | z :: r, a, b => by rw [List.foldl_cons, List.foldl_cons, s_assoc a b y, s_assoc a _ z, fold_shift y r]
theorem join_fold (y : Str) : ∀ (r : List Str) (x : Str), Txt.join y (x :: r) = r.foldl (fun a w => a ++ y ++ w) x
  | [], x => by rw [TL.join_eq]; rfl
  | z :: r, x => by rw [join_cons, join_fold y r z, List.foldl_cons, fold_shift]
/-! ### words -/
def timeW : Option (Int × Int) → Str
  | none => "-"
  | some (a, b) => numS a ++ "-" ++ numS b
def rowL (l : Lk) : List Str := "link" :: l.name :: l.one :: l.other :: l.times.map timeW
def rowP (p : Pt) : List Str := ["path", p.one, p.other, numS p.minutes]
def rowsOf (v : LandV) : List (List Str) := ("winds" :: v.winds) :: ("places" :: v.places) :: (v.links.map rowL ++ v.paths.map rowP)
def linesOf (v : LandV) : List Str := (rowsOf v).map (Txt.join (Str.ofString " "))
def textOf (v : LandV) : Str := Txt.join (Str.ofString "\n") (linesOf v)
theorem numS_num {i : Int} (h : 0 ≤ i) : numS i = num i.toNat := by
  show numS i = numS (i.toNat : Int)
  rw [Int.toNat_of_nonneg h]
theorem numS_len {i : Int} (h : 0 ≤ i) (h2 : i ≤ 999999) : (numS i).length ≤ 6 := by rw [numS_num h]; exact num_len (by omega)
theorem numS_ok {i : Int} (h : 0 ≤ i) (h2 : i ≤ 999999) : NumOk i := by
  have := num_log (n := i.toNat) (by omega)
  rwa [Int.toNat_of_nonneg h] at this
theorem timeW_len {o : Option (Int × Int)} (h : OkTm o) : (timeW o).length ≤ 13 := by
  match o, h with
  | none, _ => decide
  | some (a, b), h =>
    have := h a b rfl
    have h1 := numS_len (i := a) (by omega) (by omega)
    have h2 := numS_len (i := b) (by omega) (by omega)
    show (numS a ++ Str.ofString "-" ++ numS b).length ≤ 13
    rw [Str.length_append, Str.length_append, show (Str.ofString "-").length = 1 from rfl]
    omega
theorem lit1 : (Str.ofString " ").length = 1 := rfl
theorem litm : (Str.ofString "-").length = 1 := rfl
theorem litsm : (Str.ofString " -").length = 2 := rfl
theorem eq_sm (x : Str) : x ++ Str.ofString " -" = x ++ Str.ofString " " ++ Str.ofString "-" := by rw [s_assoc]; rfl
/-! ### the law's lines -/
theorem ll1 (a0 a1 a2 a3 a4 a5 a8 : Option Rv) : ∀ (ts : List (Option (Int × Int))) (x : Str) (t : Option Rv), (∀ o ∈ ts, OkTm o) → x.length + 20 * ts.length ≤ 1000000 →
    ∃ t', loopF (gNm 7) b__law_lines_L1 (ts.map timeD) [a0, a1, a2, a3, a4, a5, some (.fro, .str x), t, a8] = .ok .nx [a0, a1, a2, a3, a4, a5, some (.fro, .str ((ts.map timeW).foldl (fun a w => a ++ Str.ofString " " ++ w) x)), t', a8]
  | [], x, t, _, _ => ⟨t, by simp [loopF]⟩
  | o :: ts, x, t, h, hl => by
    simp only [List.length_cons] at hl
    have ho := h o List.mem_cons_self
    have hw := timeW_len ho
    obtain ⟨t', e⟩ := ll1 a0 a1 a2 a3 a4 a5 a8 ts (x ++ Str.ofString " " ++ timeW o) (some (.fro, timeD o)) (fun r hr => h r (List.mem_cons_of_mem _ hr)) (by
      rw [Str.length_append, Str.length_append, lit1]; omega)
    refine ⟨t', ?_⟩
    show (b__law_lines_L1 [a0, a1, a2, a3, a4, a5, some (.fro, .str x), some (.fro, timeD o), a8]).bind (flK (loopF (gNm 7) b__law_lines_L1 (ts.map timeD))) = _
    have st : b__law_lines_L1 [a0, a1, a2, a3, a4, a5, some (.fro, .str x), some (.fro, timeD o), a8] = .ok .nx [a0, a1, a2, a3, a4, a5, some (.fro, .str (x ++ Str.ofString " " ++ timeW o)), some (.fro, timeD o), a8] := by
      match o, ho with
      | none, _ =>
        have k : x.length + 2 ≤ sizeLine := le_line (by omega)
        simp [b__law_lines_L1, timeD, timeW, pIs, litsm, k, eq_sm]
      | some (a, b), ho =>
        have hb := ho a b rfl
        have h1 := numS_len (i := a) (by omega) (by omega)
        have h2 := numS_len (i := b) (by omega) (by omega)
        have h3 := numS_ok (i := a) (by omega) (by omega)
        have h4 := numS_ok (i := b) (by omega) (by omega)
        have k1 : x.length + 1 ≤ sizeLine := le_line (by omega)
        have k2 : x.length + 1 + (numS a).length ≤ sizeLine := le_line (by omega)
        have k3 : x.length + 1 + (numS a).length + 1 ≤ sizeLine := le_line (by omega)
        have k4 : x.length + 1 + (numS a).length + 1 + (numS b).length ≤ sizeLine := le_line (by omega)
        have ea : x ++ Str.ofString " " ++ (numS a ++ Str.ofString "-" ++ numS b) = x ++ Str.ofString " " ++ numS a ++ Str.ofString "-" ++ numS b := by simp only [s_assoc]
        simp [b__law_lines_L1, timeD, timeW, pIs, i20, i21, h3, h4, Str.length_append, lit1, litm, k1, k2, k3, k4, ea]
    rw [st, bind_ok, flK_nx, e]
    rfl
section
variable {W P : List Str} {ls : List Lk} {ps : List Pt}
theorem lit5 : (Str.ofString "link ").length = 5 := rfl
theorem lit5p : (Str.ofString "path ").length = 5 := rfl
theorem lit6w : (Str.ofString "winds ").length = 6 := rfl
theorem lit7p : (Str.ofString "places ").length = 7 := rfl
theorem head_join (a b : Str) (r : List Str) (h : r ≠ []) (e : b = a ++ Str.ofString " ") : b ++ Txt.join (Str.ofString " ") r = Txt.join (Str.ofString " ") (a :: r) := by
  cases r with
  | nil => exact absurd rfl h
  | cons x r => rw [join_cons, e]
theorem strs_size (W : List Str) (h : ∀ w ∈ W, w.length ≤ 13) (hl : W.length ≤ 1000) : (W.map (·.length)).sum + W.length * (Str.ofString " ").length ≤ 16777216 ∧ (Txt.join (Str.ofString " ") W).length ≤ 14000 := by
  have h1 := sum_le h
  have h2 := join_len (Str.ofString " ") W
  rw [lit1] at h2 ⊢
  omega
theorem ll2 (h : LandOk W P ls ps) (acc : List R.D) (l : Lk) (hl : l ∈ ls) (z : acc.length < sizeLine) (a0 t6 t7 t8 : Option Rv) :
    ∃ t, b__law_lines_L2 [a0, some (.con .fro, .lst acc), some (.fro, .str l.name), some (.fro, .str l.one), some (.fro, .str l.other), some (.fro, .lst (l.times.map timeD)), t6, t7, t8] =
      .ok .nx [a0, some (.con .fro, .lst (acc ++ [.str (Txt.join (Str.ofString " ") (rowL l))])), some (.fro, .str l.name), some (.fro, .str l.one), some (.fro, .str l.other), some (.fro, .lst (l.times.map timeD)), some (.fro, .str (Txt.join (Str.ofString " ") (rowL l))), t, t8] := by
  have o := h.l l hl
  have n1 := o.nl
  have n2 := h.pl _ o.ends.1
  have n3 := h.pl _ o.ends.2.1
  have n4 := h.w
  have n5 := o.len
  obtain ⟨t, e⟩ := ll1 a0 (some (.con .fro, .lst acc)) (some (.fro, .str l.name)) (some (.fro, .str l.one)) (some (.fro, .str l.other)) (some (.fro, .lst (l.times.map timeD))) t8 l.times (Str.ofString "link " ++ l.name ++ Str.ofString " " ++ l.one ++ Str.ofString " " ++ l.other) t7 o.tm (by
    simp only [Str.length_append, lit5, lit1]; omega)
  refine ⟨t, ?_⟩
  have ej : (l.times.map timeW).foldl (fun a w => a ++ Str.ofString " " ++ w) (Str.ofString "link " ++ l.name ++ Str.ofString " " ++ l.one ++ Str.ofString " " ++ l.other) = Txt.join (Str.ofString " ") (rowL l) := by
    unfold rowL
    rw [join_fold]
    rfl
  rw [ej] at e
  have k1 : 5 + l.name.length ≤ sizeLine := le_line (by omega)
  have k2 : 5 + l.name.length + 1 ≤ sizeLine := le_line (by omega)
  have k3 : 5 + l.name.length + 1 + l.one.length ≤ sizeLine := le_line (by omega)
  have k4 : 5 + l.name.length + 1 + l.one.length + 1 ≤ sizeLine := le_line (by omega)
  have k5 : 5 + l.name.length + 1 + l.one.length + 1 + l.other.length ≤ sizeLine := le_line (by omega)
  simp [b__law_lines_L2, Str.length_append, lit5, lit1, k1, k2, k3, k4, k5, e, stow, lBack, z]
theorem ll3 (h : LandOk W P ls ps) (acc : List R.D) (p : Pt) (hp : p ∈ ps) (z : acc.length < sizeLine) (a0 a2 t5 t6 t7 : Option Rv) :
    b__law_lines_L3 [a0, some (.con .fro, .lst acc), a2, some (.fro, .str p.one), some (.fro, .str p.other), t5, t6, t7, some (.fro, .int p.minutes)] =
      .ok .nx [a0, some (.con .fro, .lst (acc ++ [.str (Txt.join (Str.ofString " ") (rowP p))])), a2, some (.fro, .str p.one), some (.fro, .str p.other), t5, t6, t7, some (.fro, .int p.minutes)] := by
  obtain ⟨⟨o1, o2, _⟩, o3, o4⟩ := h.pt p hp
  have n2 := h.pl _ o1
  have n3 := h.pl _ o2
  have h1 := numS_len (i := p.minutes) (by omega) (by omega)
  have h3 := numS_ok (i := p.minutes) (by omega) (by omega)
  have k1 : 5 + p.one.length ≤ sizeLine := le_line (by omega)
  have k2 : 5 + p.one.length + 1 ≤ sizeLine := le_line (by omega)
  have k3 : 5 + p.one.length + 1 + p.other.length ≤ sizeLine := le_line (by omega)
  have k4 : 5 + p.one.length + 1 + p.other.length + 1 ≤ sizeLine := le_line (by omega)
  have k5 : 5 + p.one.length + 1 + p.other.length + 1 + (numS p.minutes).length ≤ sizeLine := le_line (by omega)
  have ej : Txt.join (Str.ofString " ") (rowP p) = Str.ofString "path " ++ p.one ++ Str.ofString " " ++ p.other ++ Str.ofString " " ++ numS p.minutes := by
    unfold rowP
    rw [join_fold]
    rfl
  rw [ej]
  simp [b__law_lines_L3, Str.length_append, lit5p, lit1, k1, k2, k3, k4, k5, h3, stow, lBack, z]
theorem lines_ok (h : LandOk W P ls ps) : M__law_lines [(.fro, partsD W P ls ps)] = .ok (.con .fro, .lst ((linesOf ⟨W, P, ls, ps⟩).map .str)) := by
  have i2 : atI [R.D.lst (W.map .str), .lst (P.map .str), .lst (ls.map linkRaw), .lst (ps.map pathD)] 2 = some (.lst (ls.map linkRaw)) := rfl
  have i3 : atI [R.D.lst (W.map .str), .lst (P.map .str), .lst (ls.map linkRaw), .lst (ps.map pathD)] 3 = some (.lst (ps.map pathD)) := rfl
  have i0 : atI [R.D.lst (W.map .str), .lst (P.map .str), .lst (ls.map linkRaw), .lst (ps.map pathD)] 0 = some (.lst (W.map .str)) := rfl
  have i1 : atI [R.D.lst (W.map .str), .lst (P.map .str), .lst (ls.map linkRaw), .lst (ps.map pathD)] 1 = some (.lst (P.map .str)) := rfl
  have hw := h.w
  have hp := h.p
  have l60 := h.l60
  have p60 := h.p60
  obtain ⟨z1, z2⟩ := strs_size W (fun w hw => by have := h.wl w hw; omega) (by omega)
  obtain ⟨z3, z4⟩ := strs_size P (fun w hw => by have := h.pl w hw; omega) (by omega)
  have c1 : ((W.length : Int) == 0) = false := by rw [beq_eq_false_iff_ne]; omega
  have c2 : ((P.length : Int) == 0) = false := by rw [beq_eq_false_iff_ne]; omega
  have w0 : W ≠ [] := fun e => by rw [e] at hw; simp at hw
  have p0 : P ≠ [] := fun e => by rw [e] at hp; simp at hp
  have q1 : 6 + (Txt.join (Str.ofString " ") W).length ≤ sizeLine := le_line (by omega)
  have q2 : 7 + (Txt.join (Str.ofString " ") P).length ≤ sizeLine := le_line (by omega)
  have j1 : Str.ofString "winds " ++ Txt.join (Str.ofString " ") W = Txt.join (Str.ofString " ") (Str.ofString "winds" :: W) := head_join _ _ _ w0 rfl
  have j2 : Str.ofString "places " ++ Txt.join (Str.ofString " ") P = Txt.join (Str.ofString " ") (Str.ofString "places" :: P) := head_join _ _ _ p0 rfl
  obtain ⟨⟨t2, t3, t4, t5, t6, t7⟩, e1⟩ := loop_app (g := linkRaw) (h := fun l => .str (Txt.join (Str.ofString " ") (rowL l))) (tg := gAny (gC1 (gNm 2) (gC1 (gNm 3) (gC1 (gNm 4) (gC1 (gNm 5) gN0)))) 4) (body := b__law_lines_L2) (τ := Option Rv × Option Rv × Option Rv × Option Rv × Option Rv × Option Rv)
    (fun acc t => [some (.fro, partsD W P ls ps), some (.con .fro, .lst acc), t.1, t.2.1, t.2.2.1, t.2.2.2.1, t.2.2.2.2.1, t.2.2.2.2.2, none]) ls [.str (Txt.join (Str.ofString " ") (Str.ofString "winds" :: W)), .str (Txt.join (Str.ofString " ") (Str.ofString "places" :: P))] (none, none, none, none, none, none) (by simp; omega) (fun l hl acc t z => by
      obtain ⟨t', e⟩ := ll2 h acc l hl z (some (.fro, partsD W P ls ps)) t.2.2.2.2.1 t.2.2.2.2.2 none
      exact ⟨_, rfl, (some (.fro, .str l.name), some (.fro, .str l.one), some (.fro, .str l.other), some (.fro, .lst (l.times.map timeD)), some (.fro, .str (Txt.join (Str.ofString " ") (rowL l))), t'), e⟩)
  obtain ⟨⟨u3, u4, u8⟩, e2⟩ := loop_app (g := pathD) (h := fun l => .str (Txt.join (Str.ofString " ") (rowP l))) (tg := gAny (gC1 (gNm 3) (gC1 (gNm 4) (gC1 (gNm 8) gN0))) 3) (body := b__law_lines_L3) (τ := Option Rv × Option Rv × Option Rv)
    (fun acc t => [some (.fro, partsD W P ls ps), some (.con .fro, .lst acc), t2, t.1, t.2.1, t5, t6, t7, t.2.2]) ps ([.str (Txt.join (Str.ofString " ") (Str.ofString "winds" :: W)), .str (Txt.join (Str.ofString " ") (Str.ofString "places" :: P))] ++ ls.map fun l => .str (Txt.join (Str.ofString " ") (rowL l))) (t3, t4, none) (by simp; omega) (fun p hp acc t z => by
      exact ⟨_, rfl, (some (.fro, .str p.one), some (.fro, .str p.other), some (.fro, .int p.minutes)), ll3 h acc p hp z (some (.fro, partsD W P ls ps)) t2 t5 t6 t7⟩)
  have el : (linesOf ⟨W, P, ls, ps⟩).map R.D.str = .str (Txt.join (Str.ofString " ") (Str.ofString "winds" :: W)) :: .str (Txt.join (Str.ofString " ") (Str.ofString "places" :: P)) :: (ls.map (fun l => .str (Txt.join (Str.ofString " ") (rowL l))) ++ ps.map fun l => .str (Txt.join (Str.ofString " ") (rowP l))) := by
    simp [linesOf, rowsOf]
    rfl
  rw [el]
  unfold partsD at e1 e2
  simp only [List.cons_append, List.nil_append] at e1 e2
  simp [M__law_lines, b__law_lines, env0, partsD, i0, i1, i2, i3, strsD_map, z1, z3, lit6w, lit7p, q1, q2, j1, j2, c1, c2, w0, p0, e1, e2]
@[simp] theorem cSt_def (f : EvE) (g : EvC) (ε : En) : cSt f g ε = (f ε).bind fun r ε => if r.1.sol = true then opt (seqD r.2) fun x => (g ε).bind fun ds ε => .ok (x.2 ++ ds) ε else .bad := id rfl
@[simp] theorem seqD_tup (ds : List R.D) : seqD (.tup ds) = some (true, ds) := id rfl
@[simp] theorem seqD_lst (ds : List R.D) : seqD (.lst ds) = some (false, ds) := id rfl
theorem words_ok (ts : List (Option (Int × Int))) (h : ∀ o ∈ ts, OkTm o) (hl : ts.length ≤ 1000) : M_times_words [(.fro, .tup (ts.map timeD))] = .ok (.con .fro, .lst ((ts.map timeW).map .str)) := by
  obtain ⟨t', e⟩ := loop_app (g := timeD) (h := fun o => .str (timeW o)) (tg := gNm 2) (body := b_times_words_L1) (fun acc t => [some (.fro, .tup (ts.map timeD)), some (.con .fro, .lst acc), t]) ts [] none (by simpa using hl) (fun o ho acc t z => ⟨_, rfl, some (.fro, timeD o), by
    have hb := h o ho
    match o, hb with
    | none, _ => simp [b_times_words_L1, timeD, timeW, pIs, c_SHUT, stow, lBack, z]
    | some (a, b), hb =>
      have hb := hb a b rfl
      have h1 := numS_len (i := a) (by omega) (by omega)
      have h2 := numS_len (i := b) (by omega) (by omega)
      have h3 := numS_ok (i := a) (by omega) (by omega)
      have h4 := numS_ok (i := b) (by omega) (by omega)
      have k1 : (numS a).length ≤ sizeLine := le_line (by omega)
      have k2 : (numS a).length + 1 ≤ sizeLine := le_line (by omega)
      have k3 : (numS a).length + 1 + (numS b).length ≤ sizeLine := le_line (by omega)
      simp [b_times_words_L1, timeD, timeW, pIs, i20, i21, h3, h4, Str.empty_append, Str.length_append, litm, k1, k2, k3, stow, lBack, z]⟩)
  simp at e
  simp [M_times_words, b_times_words, env0, e]
theorem lk_size {W P : List Str} {l : Lk} (h : OkLk W P l) (hP : ∀ w ∈ P, w.length ≤ 12) (hW : W.length ≤ 4) : ∀ w ∈ rowL l, w.length ≤ 13 := by
  intro w hw
  simp only [rowL, List.mem_cons, List.mem_map] at hw
  rcases hw with rfl | rfl | rfl | rfl | ⟨o, ho, rfl⟩
  · decide
  · have := h.nl; omega
  · have := hP _ h.ends.1; omega
  · have := hP _ h.ends.2.1; omega
  · exact timeW_len (h.tm o ho)
theorem pt_size {P : List Str} {p : Pt} (h : OkPt P p) (hP : ∀ w ∈ P, w.length ≤ 12) : ∀ w ∈ rowP p, w.length ≤ 13 := by
  intro w hw
  obtain ⟨⟨o1, o2, _⟩, o3, o4⟩ := h
  simp only [rowP, List.mem_cons, List.not_mem_nil, or_false] at hw
  rcases hw with rfl | rfl | rfl | rfl
  · decide
  · have := hP _ o1; omega
  · have := hP _ o2; omega
  · have := numS_len (i := p.minutes) (by omega) (by omega); omega
theorem rows_size (h : LandOk W P ls ps) : ∀ r ∈ rowsOf ⟨W, P, ls, ps⟩, (∀ w ∈ r, w.length ≤ 13) ∧ r.length ≤ 25 := by
  intro r hr
  have hw := h.w
  have hp := h.p
  simp only [rowsOf, List.mem_cons, List.mem_append, List.mem_map] at hr
  rcases hr with rfl | rfl | ⟨l, hl, rfl⟩ | ⟨p, hp, rfl⟩
  · refine ⟨fun w hw => ?_, by simp; omega⟩
    rcases List.mem_cons.mp hw with rfl | hw
    · decide
    · have := h.wl w hw; omega
  · refine ⟨fun w hw => ?_, by simp; omega⟩
    rcases List.mem_cons.mp hw with rfl | hw
    · decide
    · have := h.pl w hw; omega
  · exact ⟨lk_size (h.l l hl) h.pl (by omega), by have := (h.l l hl).len; simp [rowL]; omega⟩
  · exact ⟨pt_size (h.pt p hp) h.pl, by simp [rowP]⟩
theorem rows_len (h : LandOk W P ls ps) : (rowsOf ⟨W, P, ls, ps⟩).length ≤ 122 := by
  have := h.l60
  have := h.p60
  simp [rowsOf]
  omega
theorem line_len (h : LandOk W P ls ps) : ∀ l ∈ linesOf ⟨W, P, ls, ps⟩, l.length ≤ 400 := by
  intro l hl
  obtain ⟨r, hr, rfl⟩ := List.mem_map.mp hl
  obtain ⟨h1, h2⟩ := rows_size h r hr
  have h3 := sum_le h1
  have h4 := join_len (Str.ofString " ") r
  rw [lit1] at h4
  omega
theorem text_size (h : LandOk W P ls ps) : ((linesOf ⟨W, P, ls, ps⟩).map (·.length)).sum + (linesOf ⟨W, P, ls, ps⟩).length * (Str.ofString "\n").length ≤ 16777216 ∧ (textOf ⟨W, P, ls, ps⟩).length ≤ 100000 := by
  have h1 := sum_le (line_len h)
  have h2 := rows_len h
  have h3 : (linesOf ⟨W, P, ls, ps⟩).length ≤ 122 := by rw [linesOf, List.length_map]; exact h2
  have h4 := join_len (Str.ofString "\n") (linesOf ⟨W, P, ls, ps⟩)
  rw [show (Str.ofString "\n").length = 1 from rfl] at h4 ⊢
  unfold textOf
  omega
def rowD (r : List Str) : R.D := .lst (r.map .str)
theorem format_ok {s : Sh} (hs : Rd1 s) (h : LandOk W P ls ps) : M_format_land [(s, landD ⟨W, P, ls, ps⟩)] = .ok (.fro, .str (textOf ⟨W, P, ls, ps⟩)) := by
  have hw := h.w
  have hp := h.p
  have l60 := h.l60
  have p60 := h.p60
  obtain ⟨⟨t2, t3, t4, t5⟩, e1⟩ := loop_app (g := linkD) (h := fun l => rowD (rowL l)) (tg := gAny (gC1 (gNm 2) (gC1 (gNm 3) (gC1 (gNm 4) (gC1 (gNm 5) gN0)))) 4) (body := b_format_land_L1 M_times_words) (τ := Option Rv × Option Rv × Option Rv × Option Rv)
    (fun acc t => [some (s, landD ⟨W, P, ls, ps⟩), some (.con .fro, .lst acc), t.1, t.2.1, t.2.2.1, t.2.2.2, none, none]) ls [rowD (Str.ofString "winds" :: W), rowD (Str.ofString "places" :: P)] (none, none, none, none) (by simp; omega) (fun l hl acc t z => by
      have o := h.l l hl
      have e := words_ok l.times o.tm (by rw [o.len]; omega)
      have k : l.times.length + 1 + 1 + 1 + 1 ≤ sizeLine := le_line (by rw [o.len]; omega)
      exact ⟨_, rfl, (some (.fro, .str l.name), some (.fro, .str l.one), some (.fro, .str l.other), some (.fro, .tup (l.times.map timeD))), by
        simp only [List.map_map] at e
        simp [b_format_land_L1, e, k, stow, lBack, z, rowD, rowL]⟩)
  obtain ⟨⟨u3, u4, u6⟩, e2⟩ := loop_app (g := pathD) (h := fun l => rowD (rowP l)) (tg := gAny (gC1 (gNm 3) (gC1 (gNm 4) (gC1 (gNm 6) gN0))) 3) (body := b_format_land_L2) (τ := Option Rv × Option Rv × Option Rv)
    (fun acc t => [some (s, landD ⟨W, P, ls, ps⟩), some (.con .fro, .lst acc), t2, t.1, t.2.1, t5, t.2.2, none]) ps ([rowD (Str.ofString "winds" :: W), rowD (Str.ofString "places" :: P)] ++ ls.map fun l => rowD (rowL l)) (t3, t4, none) (by simp; omega) (fun p hp acc t z => by
      obtain ⟨_, o3, o4⟩ := h.pt p hp
      have h3 := numS_ok (i := p.minutes) (by omega) (by omega)
      exact ⟨_, rfl, (some (.fro, .str p.one), some (.fro, .str p.other), some (.fro, .int p.minutes)), by
        simp [b_format_land_L2, h3, stow, lBack, z, rowD, rowP]⟩)
  have l3 := fun (x0 x1 x2 x3 x4 x5 x6 : Option Rv) => lc_rows0 (tg := gNm 7) (elt := b_format_land_X3) (own := [7]) (g := rowD) (h := fun r => .str (Txt.join (Str.ofString " ") r)) (ε := [x0, x1, x2, x3, x4, x5, x6, none]) (rowsOf ⟨W, P, ls, ps⟩)
    (fun r hr => ⟨_, (.fro, .str (Txt.join (Str.ofString " ") r)), [x0, x1, x2, x3, x4, x5, x6, some (.fro, rowD r)], rfl, by
      obtain ⟨h1, h2⟩ := rows_size h r hr
      have h3 := sum_le h1
      have k : (r.map (·.length)).sum + r.length * (Str.ofString " ").length ≤ 16777216 := by rw [lit1]; omega
      simp [b_format_land_X3, rowD, strsD_map, k], rfl, rfl, rfl⟩) (le_line (by have := rows_len h; omega))
  have el : [rowD (Str.ofString "winds" :: W), rowD (Str.ofString "places" :: P)] ++ ls.map (fun l => rowD (rowL l)) ++ ps.map (fun l => rowD (rowP l)) = (rowsOf ⟨W, P, ls, ps⟩).map rowD := by
    simp [rowsOf]
    rfl
  have el2 : (rowsOf ⟨W, P, ls, ps⟩).map (fun r => R.D.str (Txt.join (Str.ofString " ") r)) = (linesOf ⟨W, P, ls, ps⟩).map .str := by
    simp [linesOf]
  rw [el2] at l3
  rw [el] at e2
  obtain ⟨z1, z2⟩ := text_size h
  have q1 : W.length + 1 ≤ sizeLine := le_line (by omega)
  have q2 : P.length + 1 ≤ sizeLine := le_line (by omega)
  have e0 : sSet 1 (eLst (cCn (eLst (cCn (eLit (.str "winds")) (cSt (sFld [0] "winds" (oVar 0)) cNl))) (cCn (eLst (cCn (eLit (.str "places")) (cSt (sFld [0, 2, 5] "places" (oVar 0)) cNl))) cNl))) (env0 8 [(s, landD ⟨W, P, ls, ps⟩)]) =
      .ok .nx [some (s, landD ⟨W, P, ls, ps⟩), some (.con .fro, .lst [rowD (Str.ofString "winds" :: W), rowD (Str.ofString "places" :: P)]), none, none, none, none, none, none] := by
    rcases hs with rfl | rfl <;> simp [env0, landD, selfD, q1, q2, rowD]
  have ev1 : ∀ a b c d e f g, (sFld [0] "links" (oVar 0)) [some (s, landD ⟨W, P, ls, ps⟩), a, b, c, d, e, f, g] = .ok (.fro, .tup (ls.map linkD)) [some (s, landD ⟨W, P, ls, ps⟩), a, b, c, d, e, f, g] := by
    intros
    rcases hs with rfl | rfl <;> simp [landD, selfD]
  have ev2 : ∀ a b c d e f g, (sFld [0] "paths" (oVar 0)) [some (s, landD ⟨W, P, ls, ps⟩), a, b, c, d, e, f, g] = .ok (.fro, .tup (ps.map pathD)) [some (s, landD ⟨W, P, ls, ps⟩), a, b, c, d, e, f, g] := by
    intros
    rcases hs with rfl | rfl <;> simp [landD, selfD]
  refine run_rt (seq_ex _ e0 ?_)
  refine seq_ex _ (by rw [sFor_def]; simp only [iSeq_def, ev1, bind_ok, Sh_sol_fro, if_true, seqW, opt_some]; exact e1) ?_
  refine seq_ex _ (by rw [sFor_def]; simp only [iSeq_def, ev2, bind_ok, Sh_sol_fro, if_true, seqW, opt_some]; exact e2) ?_
  refine ⟨[some (s, landD ⟨W, P, ls, ps⟩), some (.fro, .lst ((rowsOf ⟨W, P, ls, ps⟩).map rowD)), t2, u3, u4, t5, u6, none], ?_⟩
  have z1' := z1
  simp [clr, rst, l3, strsD_map, textOf]
  rw [if_pos z1']
  rfl
/-! ### without a link -/
theorem LandOk.tail {l : Lk} (h : LandOk W P (l :: ls) ps) : LandOk W P ls ps :=
  ⟨h.w, h.p, h.wl, h.pl, by have := h.l60; simp at this; omega, fun x hx => h.l x (List.mem_cons_of_mem _ hx), (List.nodup_cons.mp h.ln).2, h.p60, h.pt, h.pn⟩
theorem link_loop {s : Sh} (v : LandV) (n : Str) : ∀ (ls : List Lk) (l : Lk) (t : Option Rv), ls.find? (fun l => l.name == n) = some l → loopF (gNm 2) b_Land_link_L1 (ls.map linkD) [some (s, landD v), some (.fro, .str n), t] = .ok (.rt (.fro, linkD l)) [some (s, landD v), some (.fro, .str n), some (.fro, linkD l)]
  | [], _, _, h => by cases h
  | x :: ls, l, t, h => by
    have a : atI [R.D.str x.name, .str x.one, .str x.other, .tup (x.times.map timeD)] 0 = some (.str x.name) := rfl
    show (b_Land_link_L1 [some (s, landD v), some (.fro, .str n), some (.fro, linkD x)]).bind (flK (loopF (gNm 2) b_Land_link_L1 (ls.map linkD))) = _
    by_cases e : x.name = n
    · rw [List.find?_cons_of_pos (by simpa using e)] at h
      cases h
      have b : b_Land_link_L1 [some (s, landD v), some (.fro, .str n), some (.fro, linkD x)] = .ok (.rt (.fro, linkD x)) [some (s, landD v), some (.fro, .str n), some (.fro, linkD x)] := by
        rw [e] at a
        simp [b_Land_link_L1, linkD, a, e]
      rw [b]
      rfl
    · rw [List.find?_cons_of_neg (by simpa using e)] at h
      have b : b_Land_link_L1 [some (s, landD v), some (.fro, .str n), some (.fro, linkD x)] = .ok .nx [some (s, landD v), some (.fro, .str n), some (.fro, linkD x)] := by
        simp [b_Land_link_L1, linkD, a, e]
      rw [b, bind_ok, flK_nx]
      exact link_loop v n ls l _ h
theorem link_at {s : Sh} (hs : Rd1 s) (v : LandV) {l : Lk} {n : Str} (e : v.links.find? (fun l => l.name == n) = some l) : M_Land_link [(s, landD v), (.fro, .str n)] = .ok (.fro, linkD l) := by
  unfold M_Land_link
  refine run_rt ?_
  have ev : (sFld [0] "links" (oVar 0)) [some (s, landD v), some (.fro, .str n), none] = .ok (.fro, .tup (v.links.map linkD)) [some (s, landD v), some (.fro, .str n), none] := by
    rcases hs with rfl | rfl <;> simp [landD, selfD]
  have en : env0 3 [(s, landD v), (.fro, .str n)] = [some (s, landD v), some (.fro, .str n), none] := rfl
  refine ⟨[some (s, landD v), some (.fro, .str n), some (.fro, linkD l)], ?_⟩
  simp only [b_Land_link, sSeq_def, sFor_def, en, iSeq_def, ev, bind_ok, Sh_sol_fro, if_true, seqW, opt_some, link_loop v n v.links l none e]
theorem pNe_st (a b : Str) : pNe (.str a) (.str b) = some (.bl (decide (a ≠ b))) := by
  have h := pEq_self (d := .str a) (okD_str 60 a)
  by_cases e : a = b
  · subst e; simp
  · simp [e]
theorem without0_ok {s : Sh} (hs : Rd1 s) {l : Lk} (h : LandOk W P (l :: ls) ps) : M_Land_without_link [(s, landD ⟨W, P, l :: ls, ps⟩), (.fro, .str l.name)] = .ok (.obj [.fro, .fro, .fro, .fro], landD ⟨W, P, ls, ps⟩) := by
  have lk : M_Land_link [(.lnt, landD ⟨W, P, l :: ls, ps⟩), (.fro, .str l.name)] = .ok (.fro, linkD l) := link_at (.inr rfl) _ (List.find?_cons_of_pos (by simp))
  have lk' : M_Land_link [(.fro, landD ⟨W, P, l :: ls, ps⟩), (.fro, .str l.name)] = .ok (.fro, linkD l) := link_at (.inl rfl) _ (List.find?_cons_of_pos (by simp))
  have h' := h.tail
  have l60 := h'.l60
  have mk := land_made true true false true true h'
  rw [lkD_t] at mk
  simp only [sq_t, sq_f] at mk
  have wp : ∀ s, Rd1 s → M_Land_with_parts [(s, landD ⟨W, P, l :: ls, ps⟩), (.fro, .non), (.fro, .lst (ls.map linkD)), (.fro, .non)] = .ok (.obj [.fro, .fro, .fro, .fro], landD ⟨W, P, ls, ps⟩) := by
    rintro s (rfl | rfl) <;> simp [M_Land_with_parts, b_Land_with_parts, env0, pIs, landD, selfD, aR_Land_winds_places_links_paths, mk]
  have wp1 := wp .lnt (.inr rfl)
  have wp2 := wp .fro (.inl rfl)
  have ne : ∀ x ∈ ls, x.name ≠ l.name := fun x hx e => by
    have := (List.nodup_cons.mp h.ln).1
    exact this (List.mem_map.mpr ⟨x, hx, e⟩)
  have fl : (l :: ls).filter (fun x => decide (x.name ≠ l.name)) = ls := by
    rw [List.filter_cons_of_neg (by simp), List.filter_eq_self]
    intro x hx
    simpa using ne x hx
  have lc := lc_filt (tg := gNm 2) (ts := b_Land_without_link_T1) (elt := b_Land_without_link_X2) (own := [2]) (g := linkD) (h := linkD) (p := fun x => decide (x.name ≠ l.name)) (ε := [some (s, landD ⟨W, P, l :: ls, ps⟩), some (.fro, .str l.name), none]) (l :: ls) [] (fun x hx => by
    have a : atI [R.D.str x.name, .str x.one, .str x.other, .tup (x.times.map timeD)] 0 = some (.str x.name) := rfl
    refine ⟨[some (s, landD ⟨W, P, l :: ls, ps⟩), some (.fro, .str l.name), some (.fro, linkD x)], [some (s, landD ⟨W, P, l :: ls, ps⟩), some (.fro, .str l.name), some (.fro, linkD x)], rfl, ?_, fun _ => ⟨(.fro, linkD x), [some (s, landD ⟨W, P, l :: ls, ps⟩), some (.fro, .str l.name), some (.fro, linkD x)], by simp [b_Land_without_link_X2], rfl, rfl, rfl⟩, fun _ => rfl⟩
    have q := pNe_st x.name l.name
    simp [b_Land_without_link_T1, linkD, a, q]) (le_line (by simp; omega))
  rw [fl, List.nil_append] at lc
  have en : ∀ s, env0 3 [(s, landD ⟨W, P, l :: ls, ps⟩), (.fro, .str l.name)] = [some (s, landD ⟨W, P, l :: ls, ps⟩), some (.fro, .str l.name), none] := fun _ => rfl
  have cl : clsOf (landD ⟨W, P, l :: ls, ps⟩) = some 0 := rfl
  have ev : fldD [0] "links" (s, landD ⟨W, P, l :: ls, ps⟩) = some (.tup ((l :: ls).map linkD)) := by
    rcases hs with rfl | rfl <;> simp [landD, selfD]
  rcases hs with rfl | rfl
  · refine run_rt ⟨[some (.fro, landD ⟨W, P, l :: ls, ps⟩), some (.fro, .str l.name), none], ?_⟩
    simp only [b_Land_without_link, en]
    simp only [List.map_cons] at ev lc
    simp [lk', wp2, cl, ev, clr, rst, lc, aR_Land_with_parts_links]
  · refine run_rt ⟨[some (.lnt, landD ⟨W, P, l :: ls, ps⟩), some (.fro, .str l.name), none], ?_⟩
    simp only [b_Land_without_link, en]
    simp only [List.map_cons] at ev lc
    simp [lk, wp1, cl, ev, clr, rst, lc, aR_Land_with_parts_links]
end
end VPA
set_option autoImplicit false
set_option Elab.async false
set_option linter.all false
set_option autoImplicit false
set_option maxRecDepth 10000
/-! VPP: the written form read. -/
namespace VPA
open PySem PySem.Spec PyProof.Rows L2 R S VL
open TL (tl len_tl ext_tl tl_append)
theorem number_ok (s : Str) (hs : s.length ≤ 1000000) : M_is_number [(.fro, .str s)] = .ok (.fro, .bl (nbL (tl s))) := is_number_ok s hs
theorem form_ok {s : Sh} (k : Int) : M_require_form [(.fro, .bl true), (s, .int k)] = .ok (.fro, .non) := by
  cases s <;> simp [M_require_form, b_require_form, env0]
/-- what a text writes -/
def FTm (o : Option (Int × Int)) : Prop := ∀ a b, o = some (a, b) → (0 ≤ a ∧ a ≤ 999999) ∧ 0 ≤ b ∧ b ≤ 999999
structure FormOk (v : LandV) : Prop where
  w : ∀ x ∈ v.winds, isNm x = true
  p : ∀ x ∈ v.places, isNm x = true
  l : ∀ l ∈ v.links, isNm l.name = true ∧ isNm l.one = true ∧ isNm l.other = true ∧ (∀ o ∈ l.times, FTm o) ∧ l.times.length ≤ 100
  t : ∀ p ∈ v.paths, isNm p.one = true ∧ isNm p.other = true ∧ 0 ≤ p.minutes ∧ p.minutes ≤ 999999
  wl : v.winds.length ≤ 100
  pl : v.places.length ≤ 100
  ll : v.links.length ≤ 100
  tl : v.paths.length ≤ 100
theorem LandOk.form {W P : List Str} {ls : List Lk} {ps : List Pt} (h : LandOk W P ls ps) : FormOk ⟨W, P, ls, ps⟩ := by
  have hw := h.w
  have hp := h.p
  have pn : ∀ x ∈ P, isNm x = true := fun x hx => List.all_eq_true.mp hp.2.2.1 x hx
  refine ⟨fun x hx => List.all_eq_true.mp hw.2.2.1 x hx, pn, fun l hl => ?_, fun p hp => ?_, ?_, ?_, ?_, ?_⟩
  · have o := h.l l hl
    refine ⟨o.nm, pn _ o.ends.1, pn _ o.ends.2.1, fun x hx a b e => ?_, by rw [o.len]; omega⟩
    have := o.tm x hx a b e
    omega
  · obtain ⟨⟨o1, o2, _⟩, o3, o4⟩ := h.pt p hp
    exact ⟨pn _ o1, pn _ o2, by omega, by omega⟩
  · show W.length ≤ 100; omega
  · show P.length ≤ 100; omega
  · have := h.l60; show ls.length ≤ 100; omega
  · have := h.p60; show ps.length ≤ 100; omega
/-! ### signs -/
theorem nm_mem {s : Str} (h : isNm s = true) : ∀ c ∈ tl s, c ∈ nameL := by
  unfold isNm nmL at h
  rw [Bool.and_eq_true, Bool.and_eq_true] at h
  intro c hc
  have := List.all_eq_true.mp h.2 c hc
  simpa using this
theorem nameL_free : 32 ∉ nameL ∧ 10 ∉ nameL ∧ 45 ∉ nameL := by decide
theorem nm_free {s : Str} (h : isNm s = true) : 32 ∉ tl s ∧ 10 ∉ tl s :=
  ⟨fun z => nameL_free.1 (nm_mem h _ z), fun z => nameL_free.2.1 (nm_mem h _ z)⟩
theorem num_free {i : Int} (h : 0 ≤ i) (h2 : i ≤ 999999) : 32 ∉ tl (numS i) ∧ 10 ∉ tl (numS i) ∧ 45 ∉ tl (numS i) := by
  rw [numS_num h]
  obtain ⟨_, h1, h2⟩ := num_facts (n := i.toNat) (by omega)
  refine ⟨h1, h2, ?_⟩
  rw [tl_num]
  intro z
  have := TL.numL_digits _ _ z
  omega
theorem num_pos (i : Int) (h : 0 ≤ i) : 1 ≤ (numS i).length := by
  rw [numS_num h, len_tl, tl_num]
  cases e : TL.numL i.toNat with
  | nil => exact absurd e (TL.numL_ne _)
  | cons c r => simp
theorem tl_mid (a b : Str) : tl (a ++ Str.ofString "-" ++ b) = tl a ++ (45 :: tl b) := by
  rw [tl_append, tl_append]
  simp
  rfl
theorem tm_free {o : Option (Int × Int)} (h : FTm o) : 32 ∉ tl (timeW o) ∧ 10 ∉ tl (timeW o) ∧ (timeW o).length ≤ 13 := by
  match o, h with
  | none, _ => decide
  | some (a, b), h =>
    obtain ⟨⟨h1, h2⟩, h3, h4⟩ := h a b rfl
    have f1 := num_free h1 h2
    have f2 := num_free h3 h4
    have l1 := numS_len h1 h2
    have l2 := numS_len h3 h4
    show 32 ∉ tl (numS a ++ Str.ofString "-" ++ numS b) ∧ 10 ∉ tl (numS a ++ Str.ofString "-" ++ numS b) ∧ (numS a ++ Str.ofString "-" ++ numS b).length ≤ 13
    rw [tl_mid]
    refine ⟨?_, ?_, ?_⟩
    · simp [f1.1, f2.1]
    · simp [f1.2.1, f2.2.1]
    · rw [Str.length_append, Str.length_append, litm]; omega
theorem split_m {ws : List Str} (h : ws ≠ [] ∧ ∀ p ∈ ws, 45 ∉ tl p) : Txt.split (Txt.join (Str.ofString "-") ws) (Str.ofString "-") = ws := TL.split_join (s := 45) (S := []) rfl (by decide +kernel) h.1 h.2
theorem split_pair {a b : Int} (h : FTm (some (a, b))) : Txt.split (numS a ++ Str.ofString "-" ++ numS b) (Str.ofString "-") = [numS a, numS b] := by
  obtain ⟨⟨h1, h2⟩, h3, h4⟩ := h a b rfl
  have := split_m (ws := [numS a, numS b]) ⟨by simp, fun p hp => by
    simp only [List.mem_cons, List.not_mem_nil, or_false] at hp
    rcases hp with rfl | rfl
    · exact (num_free h1 h2).2.2
    · exact (num_free h3 h4).2.2⟩
  rw [join_fold] at this
  exact this
theorem row_free {v : LandV} (h : FormOk v) : ∀ r ∈ rowsOf v, r ≠ [] ∧ (∀ w ∈ r, 32 ∉ tl w ∧ 10 ∉ tl w ∧ w.length ≤ 13) ∧ r.length ≤ 104 := by
  intro r hr
  simp only [rowsOf, List.mem_cons, List.mem_append, List.mem_map] at hr
  rcases hr with rfl | rfl | ⟨l, hl, rfl⟩ | ⟨p, hp, rfl⟩
  · refine ⟨by simp, fun w hw => ?_, by have := h.wl; simp; omega⟩
    rcases List.mem_cons.mp hw with rfl | hw
    · decide
    · have := h.w w hw; exact ⟨(nm_free this).1, (nm_free this).2, by have := nm_short this; omega⟩
  · refine ⟨by simp, fun w hw => ?_, by have := h.pl; simp; omega⟩
    rcases List.mem_cons.mp hw with rfl | hw
    · decide
    · have := h.p w hw; exact ⟨(nm_free this).1, (nm_free this).2, by have := nm_short this; omega⟩
  · obtain ⟨n1, n2, n3, n4, n5⟩ := h.l l hl
    refine ⟨by simp [rowL], fun w hw => ?_, by simp [rowL]; omega⟩
    simp only [rowL, List.mem_cons, List.mem_map] at hw
    rcases hw with rfl | rfl | rfl | rfl | ⟨o, ho, rfl⟩
    · decide
    · exact ⟨(nm_free n1).1, (nm_free n1).2, by have := nm_short n1; omega⟩
    · exact ⟨(nm_free n2).1, (nm_free n2).2, by have := nm_short n2; omega⟩
    · exact ⟨(nm_free n3).1, (nm_free n3).2, by have := nm_short n3; omega⟩
    · exact tm_free (n4 o ho)
  · obtain ⟨n1, n2, n3, n4⟩ := h.t p hp
    refine ⟨by simp [rowP], fun w hw => ?_, by simp [rowP]⟩
    simp only [rowP, List.mem_cons, List.not_mem_nil, or_false] at hw
    rcases hw with rfl | rfl | rfl | rfl
    · decide
    · exact ⟨(nm_free n1).1, (nm_free n1).2, by have := nm_short n1; omega⟩
    · exact ⟨(nm_free n2).1, (nm_free n2).2, by have := nm_short n2; omega⟩
    · exact ⟨(num_free n3 n4).1, (num_free n3 n4).2.1, by have := numS_len n3 n4; omega⟩
theorem tl_join (y : Str) (c : Nat) : ∀ ws : List Str, c ∉ tl y → (∀ w ∈ ws, c ∉ tl w) → c ∉ tl (Txt.join y ws)
  | [], _, _ => by rw [TL.join_eq]; simp [Str.join]; exact fun h => nomatch h
  | [x], _, h => by rw [join_fold]; exact h x List.mem_cons_self
  | x :: z :: r, hy, h => by
    rw [join_cons, tl_append, tl_append]
    have i := tl_join y c (z :: r) hy fun w hw => h w (List.mem_cons_of_mem _ hw)
    have hx := h x List.mem_cons_self
    simp [hx, hy, i]
section
variable {v : LandV}
theorem line_free (h : FormOk v) : linesOf v ≠ [] ∧ ∀ l ∈ linesOf v, 10 ∉ tl l := by
  refine ⟨by simp [linesOf, rowsOf], fun l hl => ?_⟩
  obtain ⟨r, hr, rfl⟩ := List.mem_map.mp hl
  exact tl_join _ _ _ (by decide) fun w hw => ((row_free h r hr).2.1 w hw).2.1
theorem line_size (h : FormOk v) : ∀ l ∈ linesOf v, l.length ≤ 2000 := by
  intro l hl
  obtain ⟨r, hr, rfl⟩ := List.mem_map.mp hl
  obtain ⟨_, h1, h2⟩ := row_free h r hr
  have h3 := sum_le (ls := r) fun w hw => (h1 w hw).2.2
  have h4 := join_len (Str.ofString " ") r
  rw [lit1] at h4
  omega
theorem rows_len' (h : FormOk v) : (rowsOf v).length ≤ 202 := by
  have := h.ll
  have := h.tl
  simp [rowsOf]
  omega
theorem text_len (h : FormOk v) : (textOf v).length ≤ 500000 := by
  have h1 := sum_le (line_size h)
  have h2 := rows_len' h
  have h3 : (linesOf v).length ≤ 202 := by rw [linesOf, List.length_map]; exact h2
  have h4 := join_len (Str.ofString "\n") (linesOf v)
  rw [show (Str.ofString "\n").length = 1 from rfl] at h4
  unfold textOf
  have : (linesOf v).length * 2000 ≤ 202 * 2000 := Nat.mul_le_mul_right _ h3
  omega
end
/-! ### names, pairs -/
theorem cut1 {α : Type} (x : α) (r : List α) : cutL (x :: r) (some 1) none = r := by
  have := cut_drop (x :: r) 1
  simpa using this
theorem read_names_ok (rows : List (List Str)) (i : Nat) (w : Str) (ns : List Str) (e : rows[i]? = some (w :: ns)) (hn : ∀ x ∈ ns, isNm x = true) (hl : ns.length ≤ 1000) :
    M_read_names [(.fro, .lst (rows.map rowD)), (.fro, .int i), (.fro, .str w)] = .ok (.con .fro, .lst (ns.map .str)) := by
  obtain ⟨hi, _⟩ := List.getElem?_eq_some_iff.mp e
  have a : atI (rows.map rowD) (i : Int) = some (.lst (.str w :: ns.map .str)) := by
    rw [atL, List.getElem?_map, e]
    rfl
  have h1 : (i : Int) < rows.length := by omega
  have a0 : atI (R.D.str w :: ns.map .str) 0 = some (.str w) := at_head _ _
  have c1 : cutL (R.D.str w :: ns.map .str) (some 1) none = ns.map .str := cut1 _ _
  have lc := fun (x0 x1 x2 : Option Rv) => lc_rows0 (tg := gNm 3) (elt := b_read_names_X1 M_is_name) (own := [3]) (g := R.D.str) (h := fun _ => .bl true) (ε := [x0, x1, x2, none]) ns
    (fun x hx => ⟨_, (.fro, .bl true), [x0, x1, x2, some (.fro, .str x)], rfl, by
      have h := hn x hx
      have e := name_ok x (by have := nm_short h; omega)
      rw [h] at e
      simp [b_read_names_X1, e], rfl, rfl, rfl⟩) (le_line (by omega))
  have al : pAll [.lst (ns.map fun _ => R.D.bl true)] = some (.bl true) := by
    have := all_map (fun _ : Str => true) ns
    rw [this]
    simp
  have f := form_ok (s := .fro) ((i : Int) + 1)
  have ll : ns.length + 1 ≤ sizeLine := le_line (by omega)
  simp [M_read_names, b_read_names, env0, h1, hi, a, a0, c1, lc, clr, rst, al, f, ll]
theorem read_pair_ok {o : Option (Int × Int)} (h : FTm o) {s : Sh} (hs : Rd1 s) (k : Int) : M_read_pair [(.fro, .str (timeW o)), (s, .int k)] = .ok (.fro, timeD o) := by
  match o, h with
  | none, _ => rcases hs with rfl | rfl <;> simp [M_read_pair, b_read_pair, env0, timeW, timeD, c_SHUT]
  | some (a, b), h =>
    have sp := split_pair h
    obtain ⟨⟨h1, h2⟩, h3, h4⟩ := h a b rfl
    have l1 := numS_len h1 h2
    have l2 := numS_len h3 h4
    have l3 := num_pos a h1
    have l4 := num_pos b h3
    have ne : (timeW (some (a, b)) == Str.ofString "-") = false := by
      rw [beq_eq_false_iff_ne]
      intro e
      have := congrArg Str.length e
      rw [show timeW (some (a, b)) = numS a ++ Str.ofString "-" ++ numS b from rfl, Str.length_append, Str.length_append, litm] at this
      omega
    have n1 := number_ok (numS a) (by omega)
    have n2 := number_ok (numS b) (by omega)
    have i1 := num_int (n := a.toNat) (by omega)
    have i2 := num_int (n := b.toNat) (by omega)
    have g1 := (num_facts (n := a.toNat) (by omega)).1
    have g2 := (num_facts (n := b.toNat) (by omega)).1
    rw [← numS_num h1] at g1 i1
    rw [← numS_num h3] at g2 i2
    rw [Int.toNat_of_nonneg h1] at i1
    rw [Int.toNat_of_nonneg h3] at i2
    rw [g1] at n1
    rw [g2] at n2
    have f1 := form_ok (s := .lnt) k
    have f2 := form_ok (s := .fro) k
    have lw : (timeW (some (a, b))).length + 2 ≤ sizeLine := le_line (by
      rw [show timeW (some (a, b)) = numS a ++ Str.ofString "-" ++ numS b from rfl, Str.length_append, Str.length_append, litm]
      omega)
    have sp : Txt.split (timeW (some (a, b))) (Str.ofString "-") = [numS a, numS b] := sp
    have q1 : (numS a).length ≤ 640 := by omega
    have q2 : (numS b).length ≤ 640 := by omega
    have j0 : atI [R.D.str (numS a), .str (numS b)] 0 = some (.str (numS a)) := rfl
    have j1 : atI [R.D.str (numS a), .str (numS b)] 1 = some (.str (numS b)) := rfl
    have lc : ∀ x0 x1 x2, lcLoop (gNm 3) tYes' (b_read_pair_X1 M_is_number) [3] [.str (numS a), .str (numS b)] [] [x0, x1, x2, none] = .ok [.bl true, .bl true] [x0, x1, x2, none] := fun x0 x1 x2 =>
      lc_rows0 (tg := gNm 3) (elt := b_read_pair_X1 M_is_number) (own := [3]) (g := R.D.str) (h := fun _ => .bl true) (ε := [x0, x1, x2, none]) [numS a, numS b]
        (fun x hx => ⟨_, (.fro, .bl true), [x0, x1, x2, some (.fro, .str x)], rfl, by
          simp only [List.mem_cons, List.not_mem_nil, or_false] at hx
          rcases hx with rfl | rfl
          · simp [b_read_pair_X1, n1]
          · simp [b_read_pair_X1, n2], rfl, rfl, rfl⟩) (le_line (by simp))
    have al : pAll [.lst [.bl true, .bl true]] = some (.bl true) := rfl
    generalize timeW (some (a, b)) = tw at ne lw sp
    rcases hs with rfl | rfl
    · simp [M_read_pair, b_read_pair, env0, c_SHUT, ne, litm, lw, sp, lc, clr, rst, al, f2, j0, j1, q1, q2, i1, i2, timeD]
    · simp [M_read_pair, b_read_pair, env0, c_SHUT, ne, litm, lw, sp, lc, clr, rst, al, f1, j0, j1, q1, q2, i1, i2, timeD]
/-! ### links, paths -/
theorem lcE_rows {ρ : Type} {tg : EvTg} {elt : EvE} {own : List Nat} {g h : ρ → R.D} {ε : En} : ∀ (rows : List ρ) (acc : List R.D), (∀ r ∈ rows, ∃ ε1 x ε3, tg (.fro, g r) ε = some ε1 ∧ elt ε1 = .ok x ε3 ∧ x.1.sol = true ∧ x.2 = h r ∧ clr own ε3 = ε) → acc.length + rows.length ≤ sizeLine →
    lcLoopE tg tYes' elt own (rows.map g) acc ε = .ok (acc ++ rows.map h) ε
  | [], acc, _, _ => by rw [List.map_nil, List.map_nil, List.append_nil]; rfl
  | r :: rows, acc, hs, hz => by
    obtain ⟨ε1, x, ε3, e1, e2, so, e3, e4⟩ := hs r List.mem_cons_self
    rw [List.length_cons] at hz
    rw [List.map_cons]
    unfold lcLoopE
    rw [e1, opt_some, show tYes' ε1 = .ok true ε1 from rfl, nox_ok, bind_ok, if_pos rfl, e2, bind_ok, if_pos ⟨so, by omega⟩, e4, lcE_rows rows (acc ++ [x.2]) (fun d hd => hs d (List.mem_cons_of_mem _ hd)) (by rw [List.length_append, List.length_singleton]; omega), e3]
    simp
theorem read_link_ok {l : Lk} (h : isNm l.name = true ∧ isNm l.one = true ∧ isNm l.other = true ∧ (∀ o ∈ l.times, FTm o) ∧ l.times.length ≤ 100) (k : Int) :
    M_read_link [(.fro, rowD (rowL l)), (.fro, .int k)] = .ok (.fro, linkRaw l) := by
  obtain ⟨n1, n2, n3, n4, n5⟩ := h
  have f := form_ok (s := .fro) k
  have e1 := name_ok l.name (by have := nm_short n1; omega)
  have e2 := name_ok l.one (by have := nm_short n2; omega)
  have e3 := name_ok l.other (by have := nm_short n3; omega)
  rw [n1] at e1
  rw [n2] at e2
  rw [n3] at e3
  have lc : ∀ x0 x1, lcLoop (gNm 2) tYes' (b_read_link_X1 M_is_name) [2] [.str l.name, .str l.one, .str l.other] [] [x0, x1, none] = .ok [.bl true, .bl true, .bl true] [x0, x1, none] := fun x0 x1 =>
    lc_rows0 (tg := gNm 2) (elt := b_read_link_X1 M_is_name) (own := [2]) (g := R.D.str) (h := fun _ => .bl true) (ε := [x0, x1, none]) [l.name, l.one, l.other]
      (fun x hx => ⟨_, (.fro, .bl true), [x0, x1, some (.fro, .str x)], rfl, by
        simp only [List.mem_cons, List.not_mem_nil, or_false] at hx
        rcases hx with rfl | rfl | rfl
        · simp [b_read_link_X1, e1]
        · simp [b_read_link_X1, e2]
        · simp [b_read_link_X1, e3], rfl, rfl, rfl⟩) (le_line (by simp))
  have lcE := fun (x0 : Option Rv) => lcE_rows (tg := gNm 2) (elt := b_read_link_X2 M_read_pair) (own := [2]) (g := fun o => R.D.str (timeW o)) (h := timeD) (ε := [x0, some (.fro, .int k), none]) l.times []
    (fun o ho => ⟨_, (.fro, timeD o), [x0, some (.fro, .int k), some (.fro, .str (timeW o))], rfl, by
      have e := read_pair_ok (n4 o ho) (.inl rfl) k
      simp [b_read_link_X2, e], rfl, rfl, rfl⟩) (le_line (by simp; omega))
  have al : pAll [.lst [.bl true, .bl true, .bl true]] = some (.bl true) := rfl
  have c1 : cutL (R.D.str (Str.ofString "link") :: .str l.name :: .str l.one :: .str l.other :: l.times.map fun o => R.D.str (timeW o)) (some 1) (some 4) = [.str l.name, .str l.one, .str l.other] := by
    unfold cutL
    rw [show (some (1 : Int)) = some ((1 : Nat) : Int) from rfl, show (some (4 : Int)) = some ((4 : Nat) : Int) from rfl, HT.sIx_nat, HT.sIx_nat]
    simp
  have c2 : cutL (R.D.str (Str.ofString "link") :: .str l.name :: .str l.one :: .str l.other :: l.times.map fun o => R.D.str (timeW o)) (some 4) none = l.times.map fun o => R.D.str (timeW o) := by
    have := cut_drop (R.D.str (Str.ofString "link") :: .str l.name :: .str l.one :: .str l.other :: l.times.map fun o => R.D.str (timeW o)) 4
    simpa using this
  have a1 : atI (R.D.str (Str.ofString "link") :: .str l.name :: .str l.one :: .str l.other :: l.times.map fun o => R.D.str (timeW o)) 1 = some (.str l.name) := by
    have := atL (xs := R.D.str (Str.ofString "link") :: .str l.name :: .str l.one :: .str l.other :: l.times.map fun o => R.D.str (timeW o)) (j := 1)
    simpa using this
  have a2 : atI (R.D.str (Str.ofString "link") :: .str l.name :: .str l.one :: .str l.other :: l.times.map fun o => R.D.str (timeW o)) 2 = some (.str l.one) := by
    have := atL (xs := R.D.str (Str.ofString "link") :: .str l.name :: .str l.one :: .str l.other :: l.times.map fun o => R.D.str (timeW o)) (j := 2)
    simpa using this
  have a3 : atI (R.D.str (Str.ofString "link") :: .str l.name :: .str l.one :: .str l.other :: l.times.map fun o => R.D.str (timeW o)) 3 = some (.str l.other) := by
    have := atL (xs := R.D.str (Str.ofString "link") :: .str l.name :: .str l.one :: .str l.other :: l.times.map fun o => R.D.str (timeW o)) (j := 3)
    simpa using this
  have er : rowD (rowL l) = .lst (R.D.str (Str.ofString "link") :: .str l.name :: .str l.one :: .str l.other :: l.times.map fun o => R.D.str (timeW o)) := by
    simp [rowD, rowL]
  have ge4 : (4 : Int) ≤ (l.times.length : Int) + 1 + 1 + 1 + 1 := by omega
  have ge4' : (4 : Int) ≤ (l.times.length : Int) + 4 := by omega
  have zl : l.times.length + 1 + 1 + 1 + 1 ≤ sizeLine := le_line (by omega)
  rw [er]
  generalize hL : (R.D.str (Str.ofString "link") :: .str l.name :: .str l.one :: .str l.other :: l.times.map fun o => R.D.str (timeW o)) = L at c1 c2 a1 a2 a3
  have hl : (L.length : Int) = (l.times.length : Int) + 4 := by rw [← hL]; simp; omega
  have hl' : 4 ≤ L.length := by omega
  simp only [List.nil_append] at lcE
  simp [M_read_link, b_read_link, env0, hl, hl', ge4', c1, c2, lc, clr, rst, al, f, a1, a2, a3, lcE, lcEnd, linkRaw]
theorem read_path_ok {p : Pt} (h : isNm p.one = true ∧ isNm p.other = true ∧ 0 ≤ p.minutes ∧ p.minutes ≤ 999999) (k : Int) : M_read_path [(.fro, rowD (rowP p)), (.fro, .int k)] = .ok (.fro, pathD p) := by
  obtain ⟨n1, n2, n3, n4⟩ := h
  have f := form_ok (s := .fro) k
  have e1 := name_ok p.one (by have := nm_short n1; omega)
  have e2 := name_ok p.other (by have := nm_short n2; omega)
  have l1 := numS_len n3 n4
  have e3 := number_ok (numS p.minutes) (by omega)
  have i1 := num_int (n := p.minutes.toNat) (by omega)
  have g1 := (num_facts (n := p.minutes.toNat) (by omega)).1
  rw [← numS_num n3] at g1 i1
  rw [Int.toNat_of_nonneg n3] at i1
  rw [g1] at e3
  rw [n1] at e1
  rw [n2] at e2
  have q1 : (numS p.minutes).length ≤ 640 := by omega
  have j0 : ∀ x y z w : R.D, atI [x, y, z, w] 0 = some x := fun _ _ _ _ => rfl
  have j1 : ∀ x y z w : R.D, atI [x, y, z, w] 1 = some y := fun _ _ _ _ => rfl
  have j2 : ∀ x y z w : R.D, atI [x, y, z, w] 2 = some z := fun _ _ _ _ => rfl
  have j3 : ∀ x y z w : R.D, atI [x, y, z, w] 3 = some w := fun _ _ _ _ => rfl
  simp [M_read_path, b_read_path, env0, rowD, rowP, j0, j1, j2, j3, e1, e2, e3, f, i1, q1, pathD]
/-- a loop over numbered rows that appends a value a row -/
theorem enum_app {ρ τ : Type} {tg : EvTg} {body : EvS} {g h : ρ → R.D} (E : List R.D → τ → En) (rest : Int → Out Fl) (tail : List R.D) : ∀ (rows : List ρ) (k : Int) (acc : List R.D) (t : τ), acc.length + rows.length ≤ 1000 →
    (∀ r ∈ rows, ∀ k acc t, acc.length < sizeLine → ∃ ε1, tg (.fro, .pr [.int k, g r]) (E acc t) = some ε1 ∧ ∃ t', body ε1 = .ok .nx (E (acc ++ [h r]) t')) →
    ∃ t', loopF tg body (enumD k (rows.map g ++ tail)) (E acc t) = loopF tg body (enumD (k + rows.length) tail) (E (acc ++ rows.map h) t')
  | [], k, acc, t, _, _ => ⟨t, by simp⟩
  | r :: rows, k, acc, t, hl, hs => by
    simp only [List.length_cons] at hl
    obtain ⟨ε1, e1, t1, e2⟩ := hs r List.mem_cons_self k acc t (lt_line (by omega))
    obtain ⟨t2, e3⟩ := enum_app E rest tail rows (k + 1) (acc ++ [h r]) t1 (by rw [List.length_append, List.length_singleton]; omega) fun x hx => hs x (List.mem_cons_of_mem _ hx)
    refine ⟨t2, ?_⟩
    show opt (tg (.fro, .pr [.int k, g r]) (E acc t)) (fun ε => (body ε).bind (flK (loopF tg body (enumD (k + 1) (rows.map g ++ tail))))) = _
    rw [e1, opt_some, e2, bind_ok, flK_nx, e3, List.append_assoc, List.length_cons, show k + 1 + (rows.length : Int) = k + ((rows.length + 1 : Nat) : Int) by omega]
    rfl
theorem parse_ok {v : LandV} (h : FormOk v) : M_parse_land [(.fro, .str (textOf v))] = (match M_Land_init [(.fro, .lst (v.winds.map .str)), (.fro, .lst (v.places.map .str)), (.fro, .lst (v.links.map linkRaw)), (.fro, .lst (v.paths.map pathD))] with
    | .ok r => if r.1.sol = true then .ok r else .bad | .exc x => .exc x | .bad => .bad) := by
  have tl1 := text_len h
  have rl := rows_len' h
  have z1 : (textOf v).length + 2 ≤ sizeLine := le_line (by omega)
  have sp : (Txt.split (textOf v) (Str.ofString "\n")).map R.D.str = (rowsOf v).map fun ws => .str (Txt.join (Str.ofString " ") ws) := by
    unfold textOf
    rw [split_n (line_free h), linesOf, List.map_map]
    rfl
  have l1 := fun (a b c d e f g : Option Rv) => lc_rows0 (tg := gNm 6) (elt := b_parse_land_X1) (own := [6]) (g := fun ws => .str (Txt.join (Str.ofString " ") ws)) (h := rowD) (ε := [a, b, c, d, e, f, none, g]) (rowsOf v)
    (fun ws hws => ⟨_, (.con .fro, rowD ws), [a, b, c, d, e, f, some (.fro, .str (Txt.join (Str.ofString " ") ws)), g], rfl, by
      obtain ⟨r1, r2, r3⟩ := row_free h ws hws
      have e := split_w (ws := ws) ⟨r1, fun p hp => (r2 p hp).1⟩
      have ls := line_size h (Txt.join (Str.ofString " ") ws) (List.mem_map_of_mem hws)
      have z : (Txt.join (Str.ofString " ") ws).length + 2 ≤ sizeLine := le_line (by omega)
      simp [b_parse_land_X1, z, e, rowD, lit1], rfl, rfl, rfl⟩) (le_line (by omega))
  have e1 := read_names_ok (rowsOf v) 0 "winds" v.winds rfl h.w (by have := h.wl; omega)
  have e2 := read_names_ok (rowsOf v) 1 "places" v.places rfl h.p (by have := h.pl; omega)
  have e1 : M_read_names [(.fro, .lst ((rowsOf v).map rowD)), (.fro, .int 0), (.fro, .str (Str.ofString "winds"))] = _ := e1
  have e2 : M_read_names [(.fro, .lst ((rowsOf v).map rowD)), (.fro, .int 1), (.fro, .str (Str.ofString "places"))] = _ := e2
  have c2 : cutL ((rowsOf v).map rowD) (some 2) none = v.links.map (fun l => rowD (rowL l)) ++ v.paths.map (fun p => rowD (rowP p)) := by
    have := cut_drop ((rowsOf v).map rowD) 2
    rw [show (some (2 : Int)) = some ((2 : Nat) : Int) from rfl, this]
    simp [rowsOf]
    rfl
  have hd : ∀ (w : Str) (r : List Str), atI ((w :: r).map R.D.str) 0 = some (.str w) := fun w r => at_head _ _
  obtain ⟨⟨t1, t2⟩, p1⟩ := enum_app (g := fun l => rowD (rowL l)) (h := linkRaw) (tg := gAny (gC1 (gNm 6) (gC1 (gNm 7) gN0)) 2) (body := b_parse_land_L2 M_read_link M_read_path) (τ := Option Rv × Option Rv)
    (fun acc t => [some (.fro, .str (textOf v)), some (.fro, .lst ((rowsOf v).map rowD)), some (.con .fro, .lst (v.winds.map .str)), some (.con .fro, .lst (v.places.map .str)), some (.con .fro, .lst acc), some (.con .fro, .lst []), t.1, t.2]) (fun _ => .bad) (v.paths.map fun p => rowD (rowP p)) v.links 3 [] (none, none) (by have := h.ll; simp; omega) (fun l hl k acc t z => by
      have e := read_link_ok (h.l l hl) k
      have a := hd "link" (l.name :: l.one :: l.other :: l.times.map timeW)
      refine ⟨_, rfl, (some (.fro, .int k), some (.fro, rowD (rowL l))), ?_⟩
      have ix : ∀ s t, Sh.flat s = true → ixD (s, rowD (rowL l)) (t, .int 0) = some (.str (Str.ofString "link")) := fun s t hs => by
        show (if s.flat = true then atI ((rowL l).map R.D.str) 0 else none) = _
        rw [if_pos hs]
        exact a
      have ix := fun t => ix .fro t rfl
      simp [b_parse_land_L2, ix, e, stow, lBack, z])
  obtain ⟨⟨u1, u2⟩, p2⟩ := enum_app (g := fun l => rowD (rowP l)) (h := pathD) (tg := gAny (gC1 (gNm 6) (gC1 (gNm 7) gN0)) 2) (body := b_parse_land_L2 M_read_link M_read_path) (τ := Option Rv × Option Rv)
    (fun acc t => [some (.fro, .str (textOf v)), some (.fro, .lst ((rowsOf v).map rowD)), some (.con .fro, .lst (v.winds.map .str)), some (.con .fro, .lst (v.places.map .str)), some (.con .fro, .lst (v.links.map linkRaw)), some (.con .fro, .lst acc), t.1, t.2]) (fun _ => .bad) [] v.paths (3 + v.links.length) [] (t1, t2) (by have := h.tl; simp; omega) (fun p hp k acc t z => by
      have e := read_path_ok (h.t p hp) k
      have a := hd "path" [p.one, p.other, numS p.minutes]
      refine ⟨_, rfl, (some (.fro, .int k), some (.fro, rowD (rowP p))), ?_⟩
      have ix : ∀ s t, Sh.flat s = true → ixD (s, rowD (rowP p)) (t, .int 0) = some (.str (Str.ofString "path")) := fun s t hs => by
        show (if s.flat = true then atI ((rowP p).map R.D.str) 0 else none) = _
        rw [if_pos hs]
        exact a
      have ix := fun t => ix .fro t rfl
      have ne : ¬ (Str.ofString "path" = Str.ofString "link") := by decide
      simp [b_parse_land_L2, ix, e, ne, stow, lBack, z])
  simp only [List.nil_append, List.append_nil] at p1 p2
  rw [p2] at p1
  have p3 : ∀ k ε, loopF (gAny (gC1 (gNm 6) (gC1 (gNm 7) gN0)) 2) (b_parse_land_L2 M_read_link M_read_path) (enumD k []) ε = .ok .nx ε := fun _ _ => rfl
  rw [p3] at p1
  have z2 : ((rowsOf v).map rowD).length ≤ sizeLine := le_line (by rw [List.length_map]; omega)
  unfold M_parse_land runF
  have en : env0 8 [(.fro, .str (textOf v))] = [some (.fro, .str (textOf v)), none, none, none, none, none, none, none] := rfl
  rw [en, b_parse_land]
  rw [seq_nx (ε' := [some (.fro, .str (textOf v)), some (.con .fro, .lst ((rowsOf v).map rowD)), none, none, none, none, none, none]) (by simp [z1, sp, clr, rst, l1, show (Str.ofString "\n").length = 1 from rfl]) rfl]
  rw [seq_nx (ε' := [some (.fro, .str (textOf v)), some (.fro, .lst ((rowsOf v).map rowD)), some (.con .fro, .lst (v.winds.map .str)), none, none, none, none, none]) (by simp [e1]) rfl]
  rw [seq_nx (ε' := [some (.fro, .str (textOf v)), some (.fro, .lst ((rowsOf v).map rowD)), some (.con .fro, .lst (v.winds.map .str)), some (.con .fro, .lst (v.places.map .str)), none, none, none, none]) (by simp [e2]) rfl]
  rw [seq_nx (ε' := [some (.fro, .str (textOf v)), some (.fro, .lst ((rowsOf v).map rowD)), some (.con .fro, .lst (v.winds.map .str)), some (.con .fro, .lst (v.places.map .str)), some (.con .fro, .lst []), none, none, none]) (by simp) rfl]
  rw [seq_nx (ε' := [some (.fro, .str (textOf v)), some (.fro, .lst ((rowsOf v).map rowD)), some (.con .fro, .lst (v.winds.map .str)), some (.con .fro, .lst (v.places.map .str)), some (.con .fro, .lst []), some (.con .fro, .lst []), none, none]) (by simp) rfl]
  rw [seq_nx (ε' := [some (.fro, .str (textOf v)), some (.fro, .lst ((rowsOf v).map rowD)), some (.con .fro, .lst (v.winds.map .str)), some (.con .fro, .lst (v.places.map .str)), some (.con .fro, .lst (v.links.map linkRaw)), some (.con .fro, .lst (v.paths.map pathD)), u1, u2]) (by
    rw [sFor_def]
    simp [c2, -List.map_drop]
    exact p1) rfl]
  simp [aR_Land_winds_places_links_paths]
  cases M_Land_init [(.fro, .lst (v.winds.map .str)), (.fro, .lst (v.places.map .str)), (.fro, .lst (v.links.map linkRaw)), (.fro, .lst (v.paths.map pathD))] with
  | ok r => by_cases h : r.1.sol = true <;> simp [h]
  | exc x => simp
  | bad => simp
end VPA
set_option autoImplicit false
set_option Elab.async false
set_option linter.all false
set_option autoImplicit false
set_option maxRecDepth 10000
/-! VPM: walks and minutes. -/
namespace VPA
open PySem PySem.Spec PyProof.Rows L2 R S VL
open TL (tl len_tl ext_tl tl_append)
section
variable {v : LandV} {s : Sh}
theorem place_ok (hs : Rd1 s) {x : Str} (hx : x ∈ v.places) : M_Land_check_place [(s, landD v), (.fro, .str x)] = .ok (.fro, .non) := by
  have h := in_map .str eqD_strs (okD_str 60) true x v.places
  simp only [sq_t] at h
  have h2 : pNotIn (.str x) (.tup (v.places.map .str)) = some (.bl false) := by
    unfold pNotIn
    unfold pIn at h
    cases e : inD (.str x) (.tup (v.places.map .str)) with
    | none => rw [e] at h; cases h
    | some b =>
      rw [e] at h
      cases h
      simp [hx]
  rcases hs with rfl | rfl <;> simp [M_Land_check_place, b_Land_check_place, env0, landD, selfD, h2]
def walkOf (x : Str) (p : Pt) : List (Str × Int) := if x = p.one then [(p.other, p.minutes)] else if x = p.other then [(p.one, p.minutes)] else []
def walksL (x : Str) (ps : List Pt) : List (Str × Int) := ps.flatMap (walkOf x)
def wkD (w : Str × Int) : R.D := .tup [.str w.1, .int w.2]
theorem walkOf_len (x : Str) (p : Pt) : (walkOf x p).length ≤ 1 := by
  unfold walkOf
  split
  · simp
  · split <;> simp
theorem walksL_len (x : Str) : ∀ ps : List Pt, (walksL x ps).length ≤ ps.length
  | [] => by simp [walksL]
  | p :: ps => by
    have := walksL_len x ps
    have h := walkOf_len x p
    simp only [walksL, List.flatMap_cons, List.length_append, List.length_cons] at this ⊢
    omega
theorem walks_loop (a0 : Option Rv) (x : Str) : ∀ (ps : List Pt) (acc : List (Str × Int)) (t3 t4 t5 : Option Rv), acc.length + ps.length ≤ 1000 →
    ∃ u3 u4 u5, loopF (gAny (gC1 (gNm 3) (gC1 (gNm 4) (gC1 (gNm 5) gN0))) 3) b_Land_walks_from_L1 (ps.map pathD) [a0, some (.fro, .str x), some (.con .fro, .lst (acc.map wkD)), t3, t4, t5] =
      .ok .nx [a0, some (.fro, .str x), some (.con .fro, .lst ((acc ++ walksL x ps).map wkD)), u3, u4, u5]
  | [], acc, t3, t4, t5, _ => ⟨t3, t4, t5, by simp [loopF, walksL]⟩
  | p :: ps, acc, t3, t4, t5, hl => by
    simp only [List.length_cons] at hl
    have z : acc.length < sizeLine := lt_line (by omega)
    have h1 := walkOf_len x p
    obtain ⟨u3, u4, u5, e⟩ := walks_loop a0 x ps (acc ++ walkOf x p) (some (.fro, .str p.one)) (some (.fro, .str p.other)) (some (.fro, .int p.minutes)) (by rw [List.length_append]; omega)
    refine ⟨u3, u4, u5, ?_⟩
    show (b_Land_walks_from_L1 [a0, some (.fro, .str x), some (.con .fro, .lst (acc.map wkD)), some (.fro, .str p.one), some (.fro, .str p.other), some (.fro, .int p.minutes)]).bind (flK (loopF (gAny (gC1 (gNm 3) (gC1 (gNm 4) (gC1 (gNm 5) gN0))) 3) b_Land_walks_from_L1 (ps.map pathD))) = _
    have st : b_Land_walks_from_L1 [a0, some (.fro, .str x), some (.con .fro, .lst (acc.map wkD)), some (.fro, .str p.one), some (.fro, .str p.other), some (.fro, .int p.minutes)] =
        .ok .nx [a0, some (.fro, .str x), some (.con .fro, .lst ((acc ++ walkOf x p).map wkD)), some (.fro, .str p.one), some (.fro, .str p.other), some (.fro, .int p.minutes)] := by
      by_cases c1 : x = p.one
      · simp [b_Land_walks_from_L1, walkOf, c1, stow, lBack, z, wkD]
      · by_cases c2 : x = p.other
        · have c3 : ¬ (p.other = p.one) := fun e => c1 (c2.trans e)
          simp [b_Land_walks_from_L1, walkOf, c2, c3, stow, lBack, z, wkD]
        · simp [b_Land_walks_from_L1, walkOf, c1, c2]
    rw [st, bind_ok, flK_nx, e, List.append_assoc]
    rfl
theorem walks_ok (hs : Rd1 s) {x : Str} (hx : x ∈ v.places) (hl : v.paths.length ≤ 1000) : M_Land_walks_from [(s, landD v), (.fro, .str x)] = .ok (.con .fro, .lst ((walksL x v.paths).map wkD)) := by
  obtain ⟨u3, u4, u5, e⟩ := walks_loop (some (s, landD v)) x v.paths [] none none none (by simpa using hl)
  have e1 := place_ok (v := v) (s := .fro) (.inl rfl) hx
  have e2 := place_ok (v := v) (s := .lnt) (.inr rfl) hx
  have cl : clsOf (landD v) = some 0 := rfl
  have ev : fldD [0] "paths" (s, landD v) = some (.tup (v.paths.map pathD)) := by
    rcases hs with rfl | rfl <;> simp [landD, selfD]
  simp only [List.map_nil, List.nil_append] at e
  have en : env0 6 [(s, landD v), (.fro, .str x)] = [some (s, landD v), some (.fro, .str x), none, none, none, none] := rfl
  rcases hs with rfl | rfl
  · simp [M_Land_walks_from, b_Land_walks_from, en, cl, e1, ev, e]
  · simp [M_Land_walks_from, b_Land_walks_from, en, cl, e2, ev, e]
def minD : Option (Str × Int) → R.D
  | some w => .int w.2
  | none => .non
theorem min_loop (a0 a1 : Option Rv) (y : Str) : ∀ (ws : List (Str × Int)) (t3 t4 : Option Rv),
    ∃ fl u3 u4, loopF (gAny (gC1 (gNm 3) (gC1 (gNm 4) gN0)) 2) b_Land_minutes_between_L1 (ws.map wkD) [a0, a1, some (.fro, .str y), t3, t4] = .ok fl [a0, a1, some (.fro, .str y), u3, u4] ∧
      fl = match ws.find? (fun w => w.1 == y) with | some w => .rt (.fro, .int w.2) | none => .nx
  | [], t3, t4 => ⟨_, t3, t4, by simp [loopF], rfl⟩
  | w :: ws, t3, t4 => by
    show ∃ fl u3 u4, (b_Land_minutes_between_L1 [a0, a1, some (.fro, .str y), some (.fro, .str w.1), some (.fro, .int w.2)]).bind (flK (loopF (gAny (gC1 (gNm 3) (gC1 (gNm 4) gN0)) 2) b_Land_minutes_between_L1 (ws.map wkD))) = _ ∧ _
    by_cases c : w.1 = y
    · refine ⟨_, some (.fro, .str w.1), some (.fro, .int w.2), ?_, by rw [List.find?_cons_of_pos (by simpa using c)]⟩
      have b : b_Land_minutes_between_L1 [a0, a1, some (.fro, .str y), some (.fro, .str w.1), some (.fro, .int w.2)] = .ok (.rt (.fro, .int w.2)) [a0, a1, some (.fro, .str y), some (.fro, .str w.1), some (.fro, .int w.2)] := by
        simp [b_Land_minutes_between_L1, c]
      rw [b]
      rfl
    · obtain ⟨fl, u3, u4, e, hf⟩ := min_loop a0 a1 y ws (some (.fro, .str w.1)) (some (.fro, .int w.2))
      refine ⟨fl, u3, u4, ?_, by rw [List.find?_cons_of_neg (by simpa using c)]; exact hf⟩
      have b : b_Land_minutes_between_L1 [a0, a1, some (.fro, .str y), some (.fro, .str w.1), some (.fro, .int w.2)] = .ok .nx [a0, a1, some (.fro, .str y), some (.fro, .str w.1), some (.fro, .int w.2)] := by
        simp [b_Land_minutes_between_L1, c]
      rw [b, bind_ok, flK_nx, e]
theorem minutes_ok (hs : Rd1 s) {x y : Str} (hx : x ∈ v.places) (hy : y ∈ v.places) (hl : v.paths.length ≤ 1000) :
    M_Land_minutes_between [(s, landD v), (.fro, .str x), (.fro, .str y)] = .ok (.fro, minD ((walksL x v.paths).find? fun w => w.1 == y)) := by
  have e1 := place_ok (v := v) (s := .fro) (.inl rfl) hx
  have e2 := place_ok (v := v) (s := .lnt) (.inr rfl) hx
  have e3 := place_ok (v := v) (s := .fro) (.inl rfl) hy
  have e4 := place_ok (v := v) (s := .lnt) (.inr rfl) hy
  have e5 := walks_ok (v := v) (s := .fro) (.inl rfl) hx hl
  have e6 := walks_ok (v := v) (s := .lnt) (.inr rfl) hx hl
  have cl : clsOf (landD v) = some 0 := rfl
  have en : env0 5 [(s, landD v), (.fro, .str x), (.fro, .str y)] = [some (s, landD v), some (.fro, .str x), some (.fro, .str y), none, none] := rfl
  obtain ⟨fl, u3, u4, e, hf⟩ := min_loop (some (s, landD v)) (some (.fro, .str x)) y (walksL x v.paths) none none
  cases hw : (walksL x v.paths).find? fun w => w.1 == y with
  | none =>
    rw [hw] at hf
    subst hf
    rcases hs with rfl | rfl
    · simp [M_Land_minutes_between, b_Land_minutes_between, en, cl, e1, e3, e5, e, minD]
    · simp [M_Land_minutes_between, b_Land_minutes_between, en, cl, e2, e4, e6, e, minD]
  | some w =>
    rw [hw] at hf
    subst hf
    rcases hs with rfl | rfl
    · simp [M_Land_minutes_between, b_Land_minutes_between, en, cl, e1, e3, e5, e, minD]
    · simp [M_Land_minutes_between, b_Land_minutes_between, en, cl, e2, e4, e6, e, minD]
end
/-- the path between two places is the only one -/
theorem find_path {P : List Str} : ∀ {ps : List Pt}, (∀ p ∈ ps, OkPt P p) → (ps.map pairOf).Nodup → ∀ p ∈ ps, (walksL p.other ps).find? (fun w => w.1 == p.one) = some (p.one, p.minutes)
  | [], _, _, p, hp => by cases hp
  | q :: ps, h, nd, p, hp => by
    rw [List.map_cons, List.nodup_cons] at nd
    have hq := h q List.mem_cons_self
    rw [walksL, List.flatMap_cons, List.find?_append]
    rcases List.mem_cons.mp hp with rfl | hp
    · have : walkOf p.other p = [(p.one, p.minutes)] := by
        unfold walkOf
        rw [if_neg (fun e => hq.1.2.2 e.symm), if_pos rfl]
      rw [this]
      simp
    · have ne : pairOf q ≠ pairOf p := fun e => nd.1 (List.mem_map.mpr ⟨p, hp, e.symm⟩)
      have : (walkOf p.other q).find? (fun w => w.1 == p.one) = none := by
        unfold walkOf
        split
        · rename_i c
          have : q.other ≠ p.one := fun e => ne (by
            show sp (q.one, q.other) = sp (p.one, p.other)
            rw [← c, e, sp_swap])
          simpa using this
        · split
          · rename_i c1 c
            have : q.one ≠ p.one := fun e => ne (by
              show sp (q.one, q.other) = sp (p.one, p.other)
              rw [← c, e])
            simpa using this
          · rfl
      rw [this, Option.none_or]
      exact find_path (fun x hx => h x (List.mem_cons_of_mem _ hx)) nd.2 p hp
theorem find_link : ∀ {ls : List Lk}, (ls.map (·.name)).Nodup → ∀ l ∈ ls, ls.find? (fun x => x.name == l.name) = some l
  | [], _, l, hl => by cases hl
  | q :: ls, nd, l, hl => by
    rw [List.map_cons, List.nodup_cons] at nd
    rcases List.mem_cons.mp hl with rfl | hl
    · rw [List.find?_cons_of_pos (by simp)]
    · have : q.name ≠ l.name := fun e => nd.1 (List.mem_map.mpr ⟨l, hl, e.symm⟩)
      rw [List.find?_cons_of_neg (by simpa using this)]
      exact find_link nd.2 l hl
end VPA
set_option autoImplicit true
set_option Elab.async false
set_option linter.all false
set_option maxRecDepth 100000
/-! The derivations of law_k05_whole_text_and_back (printed by gen.py). -/
namespace L_k05
open PySem PySem.Spec PyProof.Rows L2 R S
def top (i : Nat) : Stmt := PySem.Challenge.pw_everyfire_k05_whole_text_and_back.main.body.getD i (.Pass ⟨0, 0, 0, 0⟩)
def sub (i j : Nat) : Stmt := clsBody (top i) j
structure Txt (K : PySem.W.Frag) (mg : Str → Option Value) : Prop where
  z_abs : mg "abs" = none
  z_all : mg "all" = none
  z_enumerate : mg "enumerate" = none
  z_int : mg "int" = none
  z_len : mg "len" = none
  z_list : mg "list" = none
  z_max : mg "max" = none
  z_min : mg "min" = none
  z_range : mg "range" = none
  z_sorted : mg "sorted" = none
  z_str : mg "str" = none
  z_tuple : mg "tuple" = none
  c_MOST_WINDS : GC ⟨K, mg⟩ "MOST_WINDS" c_MOST_WINDS
  c_MOST_NAME_CHARS : GC ⟨K, mg⟩ "MOST_NAME_CHARS" c_MOST_NAME_CHARS
  c_NAME_CHARS : GC ⟨K, mg⟩ "NAME_CHARS" c_NAME_CHARS
  c_MOST_PLACES : GC ⟨K, mg⟩ "MOST_PLACES" c_MOST_PLACES
  c_MOST_LINKS : GC ⟨K, mg⟩ "MOST_LINKS" c_MOST_LINKS
  c_MOST_MINUTES : GC ⟨K, mg⟩ "MOST_MINUTES" c_MOST_MINUTES
  c_MOST_PATHS : GC ⟨K, mg⟩ "MOST_PATHS" c_MOST_PATHS
  c_SHUT : GC ⟨K, mg⟩ "SHUT" c_SHUT
  c_MOST_DIGITS : GC ⟨K, mg⟩ "MOST_DIGITS" c_MOST_DIGITS
  c_DIGITS : GC ⟨K, mg⟩ "DIGITS" c_DIGITS
  f_Land : ClsOk ⟨K, mg⟩ 0
  f_Cut : ClsOk ⟨K, mg⟩ 2
  f_Order : ClsOk ⟨K, mg⟩ 5
  e_InvalidLand : ErrOk ⟨K, mg⟩ 1
/-! ### _law_row -/
abbrev s__law_row : Stmt := top 33
theorem sc__law_row : FnScope ["_law_cell", "_law_many", "_law_row_here", "_law_rest", "_law_mixed", "_law_k"] ["_law_cell", "_law_many"] (defScope s__law_row) := ⟨rfl, rfl, rfl, by decide +kernel, rfl, by decide +kernel, by decide +kernel⟩
theorem ok__law_row {P : Program} {w : World} {K : PySem.W.Frag} {mg : Str → Option Value} {base : Heap} {fa : Addr} {fd : FuncData} (T : Txt K mg) (G : L2.Fun K "_law_row" "_law_row" s__law_row fa fd) :
  FnOk P w K mg base (L2.CX P w) 1 fa fd ["_law_cell", "_law_many"] (spOf ⟨K, mg⟩ 2 (runF 6 (b__law_row))) :=
  Fun.okR (k := 0) G sc__law_row fun cdv A outer s H E hr =>
 (rs_cons (rs_set (i := 2) sc__law_row.nd rfl (by first | exact .inl rfl | exact .inr rfl) (re_lst rc_nil))
 (rs_cons (rs_set (i := 3) sc__law_row.nd rfl (by first | exact .inl rfl | exact .inr rfl) (re_bi b_abs rfl T.z_abs (by kernel_rfl) (ra_cons (ro_var 0) ra_nil)))
 (rs_cons (rs_set (i := 4) sc__law_row.nd rfl (by first | exact .inl rfl | exact .inr rfl) (re_op2 o_mod (ro_of (re_bty b_int rfl T.z_int (by kernel_rfl) (ra_cons (ro_of (re_add (ro_of (re_op2 o_mul (ro_var 3) (ro_of re_int))) (ro_of re_int))) ra_nil))) (ro_of re_int)))
 (rs_cons (rs_for (passes_of rfl) rfl (ri_range rfl T.z_range (re_var 1)) (rtg_name (i := 5) sc__law_row.nd rfl (by first | exact .inl rfl | exact .inr rfl)) (rs_cons (rs_set (i := 4) sc__law_row.nd rfl (by first | exact .inl rfl | exact .inr rfl) (re_op2 o_mod (ro_of (re_bty b_int rfl T.z_int (by kernel_rfl) (ra_cons (ro_of (re_add (ro_of (re_op2 o_mul (ro_var 4) (ro_of re_int))) (ro_of (re_op2 o_mul (ro_of re_int) (ro_of (re_add (ro_var 5) (ro_of re_int))))))) ra_nil))) (ro_of re_int)))
 (rs_one (rs_if (rt_cmp o_ge (ro_of (re_bi b_abs rfl T.z_abs (by kernel_rfl) (ra_cons (ro_var 0) ra_nil))) (ro_of (re_op2 o_pow (ro_of re_int) (ro_of re_int)))) (rs_cons (rs_expr (re_lapp false (rl_var 2) (re_op2 o_mod (ro_of (re_bty b_int rfl T.z_int (by kernel_rfl) (ra_cons (ro_var 3) ra_nil))) (ro_of re_int))))
 (rs_one (rs_set (i := 3) sc__law_row.nd rfl (by first | exact .inl rfl | exact .inr rfl) (re_op2 o_div (ro_var 3) (ro_of re_int))))) (rs_one (rs_expr (re_lapp false (rl_var 2) (re_op2 o_mod (ro_of (re_bty b_int rfl T.z_int (by kernel_rfl) (ra_cons (ro_of (re_op2 o_div (ro_var 4) (ro_of re_int))) ra_nil))) (ro_of re_int)))))))))
 (rs_one (rs_ret (re_move 2)))))))
/-! ### _law_numbers -/
abbrev s__law_numbers : Stmt := top 34
theorem sc__law_numbers : FnScope ["_law_script", "_law_many", "_law_cells", "_law_each", "_law_numbers_here", "_law_cell", "_law_number"] ["_law_script", "_law_many"] (defScope s__law_numbers) := ⟨rfl, rfl, rfl, by decide +kernel, rfl, by decide +kernel, by decide +kernel⟩
theorem ok__law_numbers {P : Program} {w : World} {K : PySem.W.Frag} {mg : Str → Option Value} {base : Heap} {fa : Addr} {fd : FuncData} (T : Txt K mg) (G : L2.Fun K "_law_numbers" "_law_numbers" s__law_numbers fa fd) {F__law_row : Fn} (C__law_row : Callee P w K mg base 1 "_law_row" 2 F__law_row) :
  FnOk P w K mg base (L2.CX P w) 2 fa fd ["_law_script", "_law_many"] (spOf ⟨K, mg⟩ 2 (runF 7 (b__law_numbers F__law_row))) :=
  Fun.okR (k := 1) G sc__law_numbers fun cdv A outer s H E hr =>
 (rs_cons (rs_set (i := 2) sc__law_numbers.nd rfl (by first | exact .inl rfl | exact .inr rfl) (re_sl (ro_var 0) rp_none (rp_some re_int)))
 (rs_cons (rs_set (i := 3) sc__law_numbers.nd rfl (by first | exact .inl rfl | exact .inr rfl) (re_add (ro_of re_int) (ro_of (re_op2 o_div (ro_var 1) (ro_of (re_bi (b_max2 rfl) rfl T.z_max (by kernel_rfl) (ra_cons (ro_of re_int) (ra_cons (ro_of (re_bi b_len rfl T.z_len (by kernel_rfl) (ra_cons (ro_var 2) ra_nil))) ra_nil))))))))
 (rs_cons (rs_set (i := 4) sc__law_numbers.nd rfl (by first | exact .inl rfl | exact .inr rfl) (re_lst rc_nil))
 (rs_cons (rs_for (passes_of rfl) rfl (ri_seq (re_var 2)) (rtg_name (i := 5) sc__law_numbers.nd rfl (by first | exact .inl rfl | exact .inr rfl)) (rs_one (rs_for (passes_of rfl) rfl (ri_seq (re_fn C__law_row (hr.mono (by decide)) rfl (takes_of rfl rfl rfl rfl) (rg_cons (r1_fro (re_var 5)) (rg_cons (r1_fro (re_var 3)) rg_nil)) (glen_cons (glen_cons (glen_nil rfl))))) (rtg_name (i := 6) sc__law_numbers.nd rfl (by first | exact .inl rfl | exact .inr rfl)) (rs_one (rs_expr (re_lapp false (rl_var 4) (re_var 6)))))))
 (rs_cons (rs_while (passes_of rfl) (rt_cmp o_lt (ro_of (re_bi b_len rfl T.z_len (by kernel_rfl) (ra_cons (ro_var 4) ra_nil))) (ro_var 1)) (rs_one (rs_expr (re_lapp false (rl_var 4) re_int))))
 (rs_one (rs_ret (re_sl (ro_var 4) rp_none (rp_some (re_var 1))))))))))
/-! ### _law_names -/
abbrev s__law_names : Stmt := top 36
theorem sc__law_names : FnScope ["_law_numbers_here", "_law_at", "_law_many", "_law_chars", "_law_prefix", "_law_k", "_law_place", "_law_shift", "_law_names_here", "_law_tail"] ["_law_numbers_here", "_law_at", "_law_many"] (defScope s__law_names) := ⟨rfl, rfl, rfl, by decide +kernel, rfl, by decide +kernel, by decide +kernel⟩
theorem ok__law_names {P : Program} {w : World} {K : PySem.W.Frag} {mg : Str → Option Value} {base : Heap} {fa : Addr} {fd : FuncData} (T : Txt K mg) (G : L2.Fun K "_law_names" "_law_names" s__law_names fa fd) :
  FnOk P w K mg base (L2.CX P w) 1 fa fd ["_law_numbers_here", "_law_at", "_law_many"] (spOf ⟨K, mg⟩ 3 (runF 10 (b__law_names))) :=
  Fun.okR (k := 0) G sc__law_names fun cdv A outer s H E hr =>
 (rs_cons (rs_if (rt_cmp (o_eq hr.units) (ro_of (re_op2 o_mod (ro_of (re_bty b_int rfl T.z_int (by kernel_rfl) (ra_cons (ro_of (re_ix hr.units (ro_var 0) (ro_of re_int))) ra_nil))) (ro_of re_int))) (ro_of re_int)) (rs_one (rs_set (i := 1) sc__law_names.nd rfl (by first | exact .inl rfl | exact .inr rfl) re_int)) rs_nil)
 (rs_cons (rs_set (i := 3) sc__law_names.nd rfl (by first | exact .inl rfl | exact .inr rfl) re_str)
 (rs_cons (rs_set (i := 4) sc__law_names.nd rfl (by first | exact .inl rfl | exact .inr rfl) (re_ix hr.units (ro_var 3) (ro_of (re_op2 o_mod (ro_of (re_bty b_int rfl T.z_int (by kernel_rfl) (ra_cons (ro_of (re_ix hr.units (ro_var 0) (ro_var 1))) ra_nil))) (ro_of re_int)))))
 (rs_cons (rs_for (passes_of rfl) rfl (ri_range rfl T.z_range (re_op2 o_mod (ro_of (re_bty b_int rfl T.z_int (by kernel_rfl) (ra_cons (ro_of (re_ix hr.units (ro_var 0) (ro_of (re_add (ro_var 1) (ro_of re_int))))) ra_nil))) (ro_of re_int))) (rtg_name (i := 5) sc__law_names.nd rfl (by first | exact .inl rfl | exact .inr rfl)) (rs_one (rs_set (i := 4) sc__law_names.nd rfl (by first | exact .inl rfl | exact .inr rfl) (re_add (ro_var 4) (ro_of (re_ix hr.units (ro_var 3) (ro_of (re_op2 o_mod (ro_of (re_bty b_int rfl T.z_int (by kernel_rfl) (ra_cons (ro_of (re_add (ro_of (re_ix hr.units (ro_var 0) (ro_of (re_add (ro_var 1) (ro_of re_int))))) (ro_of (re_op2 o_mul (ro_var 5) (ro_of (re_ix hr.units (ro_var 0) (ro_of (re_add (ro_var 1) (ro_of re_int))))))))) ra_nil))) (ro_of re_int)))))))))
 (rs_cons (rs_set (i := 6) sc__law_names.nd rfl (by first | exact .inl rfl | exact .inr rfl) (re_add (ro_of re_int) (ro_of (re_op2 o_mod (ro_of (re_bty b_int rfl T.z_int (by kernel_rfl) (ra_cons (ro_of (re_ix hr.units (ro_var 0) (ro_of (re_add (ro_var 1) (ro_of re_int))))) ra_nil))) (ro_of (re_bi b_len rfl T.z_len (by kernel_rfl) (ra_cons (ro_var 4) ra_nil)))))))
 (rs_cons (rs_set (i := 7) sc__law_names.nd rfl (by first | exact .inl rfl | exact .inr rfl) (re_bty b_int rfl T.z_int (by kernel_rfl) (ra_cons (ro_of (re_ix hr.units (ro_var 0) (ro_of (re_add (ro_var 1) (ro_of re_int))))) ra_nil)))
 (rs_cons (rs_set (i := 8) sc__law_names.nd rfl (by first | exact .inl rfl | exact .inr rfl) (re_lst rc_nil))
 (rs_cons (rs_for (passes_of rfl) rfl (ri_range rfl T.z_range (re_var 2)) (rtg_name (i := 5) sc__law_names.nd rfl (by first | exact .inl rfl | exact .inr rfl)) (rs_cons (rs_set (i := 9) sc__law_names.nd rfl (by first | exact .inl rfl | exact .inr rfl) (re_ix hr.units (ro_of (re_lst (rc_cons re_str (rc_cons re_str rc_nil)))) (ro_of (re_bty b_int rfl T.z_int (by kernel_rfl) (ra_cons (ro_of (re_cmp o_ge (ro_var 5) (ro_of re_int))) ra_nil)))))
 (rs_one (rs_expr (re_lapp false (rl_var 8) (re_add (ro_of (re_add (ro_of (re_add (ro_of (re_sl (ro_var 4) rp_none (rp_some (re_var 6)))) (ro_of (re_ix hr.units (ro_var 3) (ro_of (re_op2 o_mod (ro_of (re_bty b_int rfl T.z_int (by kernel_rfl) (ra_cons (ro_of (re_add (ro_var 7) (ro_of (re_op2 o_mul (ro_of re_int) (ro_var 5))))) ra_nil))) (ro_of re_int))))))) (ro_var 9))) (ro_of (re_sl (ro_var 4) (rp_some (re_var 6)) rp_none))))))))
 (rs_one (rs_ret (re_move 8)))))))))))
/-! ### _law_count -/
abbrev s__law_count : Stmt := top 37
theorem sc__law_count : FnScope ["_law_number", "_law_least", "_law_most"] ["_law_number", "_law_least", "_law_most"] (defScope s__law_count) := ⟨rfl, rfl, rfl, by decide +kernel, rfl, by decide +kernel, by decide +kernel⟩
theorem ok__law_count {P : Program} {w : World} {K : PySem.W.Frag} {mg : Str → Option Value} {base : Heap} {fa : Addr} {fd : FuncData} (T : Txt K mg) (G : L2.Fun K "_law_count" "_law_count" s__law_count fa fd) :
  FnOk P w K mg base (L2.CX P w) 1 fa fd ["_law_number", "_law_least", "_law_most"] (spOf ⟨K, mg⟩ 3 (runF 3 (b__law_count))) :=
  Fun.okR (k := 0) G sc__law_count fun cdv A outer s H E hr =>
 (rs_cons (rs_if (rt_cmp (o_eq hr.units) (ro_of (re_op2 o_mod (ro_of (re_bty b_int rfl T.z_int (by kernel_rfl) (ra_cons (ro_var 0) ra_nil))) (ro_of re_int))) (ro_of re_int)) (rs_one (rs_ret (re_move 1))) rs_nil)
 (rs_cons (rs_if (rt_cmp (o_eq hr.units) (ro_of (re_op2 o_mod (ro_of (re_bty b_int rfl T.z_int (by kernel_rfl) (ra_cons (ro_var 0) ra_nil))) (ro_of re_int))) (ro_of re_int)) (rs_one (rs_ret (re_move 2))) rs_nil)
 (rs_one (rs_ret (re_add (ro_var 1) (ro_of (re_op2 o_mod (ro_of (re_op2 o_div (ro_of (re_bty b_int rfl T.z_int (by kernel_rfl) (ra_cons (ro_var 0) ra_nil))) (ro_of re_int))) (ro_of (re_add (ro_of (re_op2 o_sub (ro_of (re_bi (b_min2 rfl) rfl T.z_min (by kernel_rfl) (ra_cons (ro_var 2) (ra_cons (ro_of (re_add (ro_var 1) (ro_of re_int))) ra_nil)))) (ro_var 1))) (ro_of re_int))))))))))
/-! ### _law_pick -/
abbrev s__law_pick : Stmt := top 35
theorem sc__law_pick : FnScope ["_law_numbers_here", "_law_k"] ["_law_numbers_here", "_law_k"] (defScope s__law_pick) := ⟨rfl, rfl, rfl, by decide +kernel, rfl, by decide +kernel, by decide +kernel⟩
theorem ok__law_pick {P : Program} {w : World} {K : PySem.W.Frag} {mg : Str → Option Value} {base : Heap} {fa : Addr} {fd : FuncData} (T : Txt K mg) (G : L2.Fun K "_law_pick" "_law_pick" s__law_pick fa fd) :
  FnOk P w K mg base (L2.CX P w) 1 fa fd ["_law_numbers_here", "_law_k"] (spOf ⟨K, mg⟩ 2 (runF 2 (b__law_pick))) :=
  Fun.okR (k := 0) G sc__law_pick fun cdv A outer s H E hr =>
 (rs_one (rs_ret (re_add (ro_of (re_bty b_int rfl T.z_int (by kernel_rfl) (ra_cons (ro_of (re_ix hr.units (ro_var 0) (ro_of (re_op2 o_mod (ro_var 1) (ro_of (re_bi b_len rfl T.z_len (by kernel_rfl) (ra_cons (ro_var 0) ra_nil))))))) ra_nil))) (ro_of (re_op2 o_mul (ro_of re_int) (ro_of (re_op2 o_div (ro_var 1) (ro_of (re_bi b_len rfl T.z_len (by kernel_rfl) (ra_cons (ro_var 0) ra_nil))))))))))
/-! ### _law_times -/
abbrev s__law_times : Stmt := top 38
theorem sc__law_times : FnScope ["_law_numbers_here", "_law_k", "_law_many", "_law_times_here", "_law_n", "_law_first", "_law_last"] ["_law_numbers_here", "_law_k", "_law_many"] (defScope s__law_times) := ⟨rfl, rfl, rfl, by decide +kernel, rfl, by decide +kernel, by decide +kernel⟩
theorem ok__law_times {P : Program} {w : World} {K : PySem.W.Frag} {mg : Str → Option Value} {base : Heap} {fa : Addr} {fd : FuncData} (T : Txt K mg) (G : L2.Fun K "_law_times" "_law_times" s__law_times fa fd) {F__law_pick : Fn} (C__law_pick : Callee P w K mg base 1 "_law_pick" 2 F__law_pick) :
  FnOk P w K mg base (L2.CX P w) 2 fa fd ["_law_numbers_here", "_law_k", "_law_many"] (spOf ⟨K, mg⟩ 3 (runF 7 (b__law_times F__law_pick))) :=
  Fun.okR (k := 1) G sc__law_times fun cdv A outer s H E hr =>
 (rs_cons (rs_set (i := 3) sc__law_times.nd rfl (by first | exact .inl rfl | exact .inr rfl) (re_lst rc_nil))
 (rs_cons (rs_for (passes_of rfl) rfl (ri_range rfl T.z_range (re_var 2)) (rtg_name (i := 4) sc__law_times.nd rfl (by first | exact .inl rfl | exact .inr rfl)) (rs_cons (rs_set (i := 5) sc__law_times.nd rfl (by first | exact .inl rfl | exact .inr rfl) (re_ix hr.units (ro_of (re_lst (rc_cons re_int (rc_cons re_int (rc_cons (re_add (ro_of re_int) (ro_of (re_op2 o_mod (ro_of (re_fn C__law_pick (hr.mono (by decide)) rfl (takes_of rfl rfl rfl rfl) (rg_cons (r1_len 0) (rg_cons (r1_fro (re_add (ro_var 1) (ro_var 4))) rg_nil)) (glen_cons (glen_cons (glen_nil rfl))))) (ro_of re_int)))) (rc_cons (re_add (ro_of re_int) (ro_of (re_op2 o_mod (ro_of (re_fn C__law_pick (hr.mono (by decide)) rfl (takes_of rfl rfl rfl rfl) (rg_cons (r1_len 0) (rg_cons (r1_fro (re_add (ro_var 1) (ro_var 4))) rg_nil)) (glen_cons (glen_cons (glen_nil rfl))))) (ro_of re_int)))) rc_nil)))))) (ro_of (re_op2 o_mod (ro_of (re_fn C__law_pick (hr.mono (by decide)) rfl (takes_of rfl rfl rfl rfl) (rg_cons (r1_len 0) (rg_cons (r1_fro (re_add (ro_of (re_add (ro_var 1) (ro_var 4))) (ro_of re_int))) rg_nil)) (glen_cons (glen_cons (glen_nil rfl))))) (ro_of re_int)))))
 (rs_cons (rs_set (i := 6) sc__law_times.nd rfl (by first | exact .inl rfl | exact .inr rfl) (re_ix hr.units (ro_of (re_lst (rc_cons (re_var 5) (rc_cons re_int (rc_cons (re_add (ro_var 5) (ro_of (re_op2 o_mod (ro_of (re_fn C__law_pick (hr.mono (by decide)) rfl (takes_of rfl rfl rfl rfl) (rg_cons (r1_len 0) (rg_cons (r1_fro (re_add (ro_of (re_add (ro_var 1) (ro_var 4))) (ro_of re_int))) rg_nil)) (glen_cons (glen_cons (glen_nil rfl))))) (ro_of (re_op2 o_sub (ro_of re_int) (ro_var 5)))))) rc_nil))))) (ro_of (re_op2 o_mod (ro_of (re_fn C__law_pick (hr.mono (by decide)) rfl (takes_of rfl rfl rfl rfl) (rg_cons (r1_len 0) (rg_cons (r1_fro (re_add (ro_of (re_add (ro_var 1) (ro_var 4))) (ro_of re_int))) rg_nil)) (glen_cons (glen_cons (glen_nil rfl))))) (ro_of re_int)))))
 (rs_one (rs_expr (re_lapp false (rl_var 3) (re_ix hr.units (ro_of (re_lst (rc_cons (re_tup (rc_cons (re_var 5) (rc_cons (re_var 6) rc_nil))) (rc_cons (re_tup (rc_cons (re_var 5) (rc_cons (re_var 6) rc_nil))) (rc_cons re_non rc_nil))))) (ro_of (re_op2 o_mod (ro_of (re_fn C__law_pick (hr.mono (by decide)) rfl (takes_of rfl rfl rfl rfl) (rg_cons (r1_len 0) (rg_cons (r1_fro (re_add (ro_of (re_add (ro_var 1) (ro_of (re_op2 o_mul (ro_of re_int) (ro_var 4))))) (ro_of re_int))) rg_nil)) (glen_cons (glen_cons (glen_nil rfl))))) (ro_of re_int))))))))))
 (rs_one (rs_ret (re_move 3)))))
/-! ### _law_paths -/
abbrev s__law_paths : Stmt := top 39
theorem sc__law_paths : FnScope ["_law_numbers_here", "_law_k", "_law_places", "_law_many", "_law_pairs", "_law_n", "_law_other", "_law_turn", "_law_paths_here", "_law_one"] ["_law_numbers_here", "_law_k", "_law_places", "_law_many"] (defScope s__law_paths) := ⟨rfl, rfl, rfl, by decide +kernel, rfl, by decide +kernel, by decide +kernel⟩
theorem ok__law_paths {P : Program} {w : World} {K : PySem.W.Frag} {mg : Str → Option Value} {base : Heap} {fa : Addr} {fd : FuncData} (T : Txt K mg) (G : L2.Fun K "_law_paths" "_law_paths" s__law_paths fa fd) {F__law_pick : Fn} (C__law_pick : Callee P w K mg base 1 "_law_pick" 2 F__law_pick) :
  FnOk P w K mg base (L2.CX P w) 2 fa fd ["_law_numbers_here", "_law_k", "_law_places", "_law_many"] (spOf ⟨K, mg⟩ 4 (runF 10 (b__law_paths F__law_pick))) :=
  Fun.okR (k := 1) G sc__law_paths fun cdv A outer s H E hr =>
 (rs_cons (rs_set (i := 4) sc__law_paths.nd rfl (by first | exact .inl rfl | exact .inr rfl) (re_lst rc_nil))
 (rs_cons (rs_for (passes_of rfl) rfl (ri_range rfl T.z_range (re_bi b_len rfl T.z_len (by kernel_rfl) (ra_cons (ro_var 2) ra_nil))) (rtg_name (i := 5) sc__law_paths.nd rfl (by first | exact .inl rfl | exact .inr rfl)) (rs_one (rs_for (passes_of rfl) rfl (ri_seq (re_sl (ro_var 2) (rp_some (re_add (ro_var 5) (ro_of re_int))) rp_none)) (rtg_name (i := 6) sc__law_paths.nd rfl (by first | exact .inl rfl | exact .inr rfl)) (rs_one (rs_expr (re_lapp false (rl_var 4) (re_tup (rc_cons (re_ix hr.units (ro_var 2) (ro_var 5)) (rc_cons (re_var 6) rc_nil)))))))))
 (rs_cons (rs_set (i := 7) sc__law_paths.nd rfl (by first | exact .inl rfl | exact .inr rfl) (re_op2 o_mod (ro_of (re_fn C__law_pick (hr.mono (by decide)) rfl (takes_of rfl rfl rfl rfl) (rg_cons (r1_len 0) (rg_cons (r1_len 1) rg_nil)) (glen_cons (glen_cons (glen_nil rfl))))) (ro_of (re_bi (b_max2 rfl) rfl T.z_max (by kernel_rfl) (ra_cons (ro_of re_int) (ra_cons (ro_of (re_bi b_len rfl T.z_len (by kernel_rfl) (ra_cons (ro_var 4) ra_nil))) ra_nil))))))
 (rs_cons (rs_set (i := 4) sc__law_paths.nd rfl (by first | exact .inl rfl | exact .inr rfl) (re_sl (ro_of (re_add (ro_of (re_sl (ro_var 4) (rp_some (re_var 7)) rp_none)) (ro_of (re_sl (ro_var 4) rp_none (rp_some (re_var 7)))))) rp_none (rp_some (re_var 3))))
 (rs_cons (rs_set (i := 8) sc__law_paths.nd rfl (by first | exact .inl rfl | exact .inr rfl) (re_lst rc_nil))
 (rs_cons (rs_for (passes_of rfl) rfl (ri_range rfl T.z_range (re_bi b_len rfl T.z_len (by kernel_rfl) (ra_cons (ro_var 4) ra_nil))) (rtg_name (i := 5) sc__law_paths.nd rfl (by first | exact .inl rfl | exact .inr rfl)) (rs_cons (rs_pat (re_ix hr.units (ro_var 4) (ro_var 5)) (rtg_any rfl (rtgs_cons (rtg_name (i := 9) sc__law_paths.nd rfl (by first | exact .inl rfl | exact .inr rfl)) (rtgs_cons (rtg_name (i := 6) sc__law_paths.nd rfl (by first | exact .inl rfl | exact .inr rfl)) rtgs_nil))))
 (rs_cons (rs_if (rt_cmp (o_eq hr.units) (ro_of (re_op2 o_mod (ro_of (re_fn C__law_pick (hr.mono (by decide)) rfl (takes_of rfl rfl rfl rfl) (rg_cons (r1_len 0) (rg_cons (r1_fro (re_add (ro_of (re_add (ro_var 1) (ro_of re_int))) (ro_var 5))) rg_nil)) (glen_cons (glen_cons (glen_nil rfl))))) (ro_of re_int))) (ro_of re_int)) (rs_one (rs_par 9 6 rfl sc__law_paths.nd (rc_cons (re_var 6) (rc_cons (re_var 9) rc_nil)))) rs_nil)
 (rs_one (rs_expr (re_lapp false (rl_var 8) (re_tup (rc_cons (re_var 9) (rc_cons (re_var 6) (rc_cons (re_ix hr.units (ro_of (re_lst (rc_cons re_int (rc_cons re_int (rc_cons (re_add (ro_of re_int) (ro_of (re_op2 o_mod (ro_of (re_fn C__law_pick (hr.mono (by decide)) rfl (takes_of rfl rfl rfl rfl) (rg_cons (r1_len 0) (rg_cons (r1_fro (re_add (ro_of (re_add (ro_var 1) (ro_of re_int))) (ro_var 5))) rg_nil)) (glen_cons (glen_cons (glen_nil rfl))))) (ro_of re_int)))) rc_nil))))) (ro_of (re_op2 o_mod (ro_of (re_fn C__law_pick (hr.mono (by decide)) rfl (takes_of rfl rfl rfl rfl) (rg_cons (r1_len 0) (rg_cons (r1_fro (re_add (ro_of (re_add (ro_var 1) (ro_of re_int))) (ro_var 5))) rg_nil)) (glen_cons (glen_cons (glen_nil rfl))))) (ro_of re_int)))) rc_nil))))))))))
 (rs_one (rs_ret (re_move 8)))))))))
/-! ### _law_parts -/
abbrev s__law_parts : Stmt := top 40
theorem sc__law_parts : FnScope ["_law_numbers_here", "_law_winds", "_law_places", "_law_names_here", "_law_links", "_law_k", "_law_at", "_law_one", "_law_other"] ["_law_numbers_here"] (defScope s__law_parts) := ⟨rfl, rfl, rfl, by decide +kernel, rfl, by decide +kernel, by decide +kernel⟩
theorem ok__law_parts {P : Program} {w : World} {K : PySem.W.Frag} {mg : Str → Option Value} {base : Heap} {fa : Addr} {fd : FuncData} (T : Txt K mg) (G : L2.Fun K "_law_parts" "_law_parts" s__law_parts fa fd) {F__law_names : Fn} {F__law_count : Fn} {F__law_pick : Fn} {F__law_times : Fn} {F__law_paths : Fn} (C__law_names : Callee P w K mg base 1 "_law_names" 3 F__law_names) (C__law_count : Callee P w K mg base 1 "_law_count" 3 F__law_count) (C__law_pick : Callee P w K mg base 1 "_law_pick" 2 F__law_pick) (C__law_times : Callee P w K mg base 2 "_law_times" 3 F__law_times) (C__law_paths : Callee P w K mg base 2 "_law_paths" 4 F__law_paths) :
  FnOk P w K mg base (L2.CX P w) 3 fa fd ["_law_numbers_here"] (spOf ⟨K, mg⟩ 1 (runF 9 (b__law_parts F__law_names F__law_count F__law_pick F__law_times F__law_paths))) :=
  Fun.okR (k := 2) G sc__law_parts fun cdv A outer s H E hr =>
 (rs_cons (rs_set (i := 1) sc__law_parts.nd rfl (by first | exact .inl rfl | exact .inr rfl) (re_fn C__law_names (hr.mono (by decide)) rfl (takes_of rfl rfl rfl rfl) (rg_cons (r1_len 0) (rg_cons (r1_fro re_int) (rg_cons (r1_fro (re_add (ro_of re_int) (ro_of (re_op2 o_mod (ro_of (re_bty b_int rfl T.z_int (by kernel_rfl) (ra_cons (ro_of (re_ix hr.units (ro_var 0) (ro_of re_int))) ra_nil))) (ro_of re_int))))) rg_nil))) (glen_cons (glen_cons (glen_cons (glen_nil rfl))))))
 (rs_cons (rs_set (i := 2) sc__law_parts.nd rfl (by first | exact .inl rfl | exact .inr rfl) (re_fn C__law_names (hr.mono (by decide)) rfl (takes_of rfl rfl rfl rfl) (rg_cons (r1_len 0) (rg_cons (r1_fro re_int) (rg_cons (r1_fro (re_fn C__law_count (hr.mono (by decide)) rfl (takes_of rfl rfl rfl rfl) (rg_cons (r1_fro (re_ix hr.units (ro_var 0) (ro_of re_int))) (rg_cons (r1_fro re_int) (rg_cons (r1_fro re_int) rg_nil))) (glen_cons (glen_cons (glen_cons (glen_nil rfl)))))) rg_nil))) (glen_cons (glen_cons (glen_cons (glen_nil rfl))))))
 (rs_cons (rs_set (i := 3) sc__law_parts.nd rfl (by first | exact .inl rfl | exact .inr rfl) (re_fn C__law_names (hr.mono (by decide)) rfl (takes_of rfl rfl rfl rfl) (rg_cons (r1_len 0) (rg_cons (r1_fro re_int) (rg_cons (r1_fro (re_op2 o_mul (ro_of (re_fn C__law_count (hr.mono (by decide)) rfl (takes_of rfl rfl rfl rfl) (rg_cons (r1_fro (re_ix hr.units (ro_var 0) (ro_of re_int))) (rg_cons (r1_fro re_int) (rg_cons (r1_fro re_int) rg_nil))) (glen_cons (glen_cons (glen_cons (glen_nil rfl)))))) (ro_of (re_bty b_int rfl T.z_int (by kernel_rfl) (ra_cons (ro_of (re_cmp o_gt (ro_of (re_bi b_len rfl T.z_len (by kernel_rfl) (ra_cons (ro_var 2) ra_nil))) (ro_of re_int))) ra_nil))))) rg_nil))) (glen_cons (glen_cons (glen_cons (glen_nil rfl))))))
 (rs_cons (rs_set (i := 4) sc__law_parts.nd rfl (by first | exact .inl rfl | exact .inr rfl) (re_lst rc_nil))
 (rs_cons (rs_for (passes_of rfl) rfl (ri_range rfl T.z_range (re_bi b_len rfl T.z_len (by kernel_rfl) (ra_cons (ro_var 3) ra_nil))) (rtg_name (i := 5) sc__law_parts.nd rfl (by first | exact .inl rfl | exact .inr rfl)) (rs_cons (rs_set (i := 6) sc__law_parts.nd rfl (by first | exact .inl rfl | exact .inr rfl) (re_add (ro_of re_int) (ro_of (re_op2 o_mul (ro_of re_int) (ro_var 5)))))
 (rs_cons (rs_set (i := 7) sc__law_parts.nd rfl (by first | exact .inl rfl | exact .inr rfl) (re_op2 o_mod (ro_of (re_fn C__law_pick (hr.mono (by decide)) rfl (takes_of rfl rfl rfl rfl) (rg_cons (r1_len 0) (rg_cons (r1_fro (re_var 6)) rg_nil)) (glen_cons (glen_cons (glen_nil rfl))))) (ro_of (re_bi b_len rfl T.z_len (by kernel_rfl) (ra_cons (ro_var 2) ra_nil)))))
 (rs_cons (rs_set (i := 8) sc__law_parts.nd rfl (by first | exact .inl rfl | exact .inr rfl) (re_op2 o_mod (ro_of (re_bty b_int rfl T.z_int (by kernel_rfl) (ra_cons (ro_of (re_add (ro_of (re_add (ro_var 7) (ro_of re_int))) (ro_of (re_op2 o_mod (ro_of (re_fn C__law_pick (hr.mono (by decide)) rfl (takes_of rfl rfl rfl rfl) (rg_cons (r1_len 0) (rg_cons (r1_fro (re_add (ro_var 6) (ro_of re_int))) rg_nil)) (glen_cons (glen_cons (glen_nil rfl))))) (ro_of (re_op2 o_sub (ro_of (re_bi b_len rfl T.z_len (by kernel_rfl) (ra_cons (ro_var 2) ra_nil))) (ro_of re_int))))))) ra_nil))) (ro_of (re_bi b_len rfl T.z_len (by kernel_rfl) (ra_cons (ro_var 2) ra_nil)))))
 (rs_one (rs_expr (re_lapp false (rl_var 4) (re_tup (rc_cons (re_ix hr.units (ro_var 3) (ro_var 5)) (rc_cons (re_ix hr.units (ro_var 2) (ro_var 7)) (rc_cons (re_ix hr.units (ro_var 2) (ro_var 8)) (rc_cons (re_fn C__law_times (hr.mono (by decide)) rfl (takes_of rfl rfl rfl rfl) (rg_cons (r1_len 0) (rg_cons (r1_fro (re_add (ro_var 6) (ro_of re_int))) (rg_cons (r1_fro (re_bi b_len rfl T.z_len (by kernel_rfl) (ra_cons (ro_var 1) ra_nil))) rg_nil))) (glen_cons (glen_cons (glen_cons (glen_nil rfl))))) rc_nil))))))))))))
 (rs_one (rs_ret (re_lst (rc_cons (re_var 1) (rc_cons (re_var 2) (rc_cons (re_var 4) (rc_cons (re_fn C__law_paths (hr.mono (by decide)) rfl (takes_of rfl rfl rfl rfl) (rg_cons (r1_len 0) (rg_cons (r1_fro re_int) (rg_cons (r1_fro (re_var 2)) (rg_cons (r1_fro (re_fn C__law_count (hr.mono (by decide)) rfl (takes_of rfl rfl rfl rfl) (rg_cons (r1_fro (re_ix hr.units (ro_var 0) (ro_of re_int))) (rg_cons (r1_fro re_int) (rg_cons (r1_fro re_int) rg_nil))) (glen_cons (glen_cons (glen_cons (glen_nil rfl)))))) rg_nil)))) (glen_cons (glen_cons (glen_cons (glen_cons (glen_nil rfl)))))) rc_nil))))))))))))
/-! ### _law_frozen -/
abbrev s__law_frozen : Stmt := top 42
theorem sc__law_frozen : FnScope ["_law_parts_here", "_law_links", "_law_name", "_law_one", "_law_other", "_law_times_here", "_law_found", "_law_pair", "_law_path"] ["_law_parts_here"] (defScope s__law_frozen) := ⟨rfl, rfl, rfl, by decide +kernel, rfl, by decide +kernel, by decide +kernel⟩
theorem ok__law_frozen {P : Program} {w : World} {K : PySem.W.Frag} {mg : Str → Option Value} {base : Heap} {fa : Addr} {fd : FuncData} (T : Txt K mg) (G : L2.Fun K "_law_frozen" "_law_frozen" s__law_frozen fa fd) :
  FnOk P w K mg base (L2.CX P w) 1 fa fd ["_law_parts_here"] (spOf ⟨K, mg⟩ 1 (runF 9 (b__law_frozen))) :=
  Fun.okR (k := 0) G sc__law_frozen fun cdv A outer s H E hr =>
 (rs_cons (rs_set (i := 1) sc__law_frozen.nd rfl (by first | exact .inl rfl | exact .inr rfl) (re_lst rc_nil))
 (rs_cons (rs_for (passes_of rfl) rfl (ri_seq (re_ix hr.units (ro_var 0) (ro_of re_int))) (rtg_any rfl (rtgs_cons (rtg_name (i := 2) sc__law_frozen.nd rfl (by first | exact .inl rfl | exact .inr rfl)) (rtgs_cons (rtg_name (i := 3) sc__law_frozen.nd rfl (by first | exact .inl rfl | exact .inr rfl)) (rtgs_cons (rtg_name (i := 4) sc__law_frozen.nd rfl (by first | exact .inl rfl | exact .inr rfl)) (rtgs_cons (rtg_name (i := 5) sc__law_frozen.nd rfl (by first | exact .inl rfl | exact .inr rfl)) rtgs_nil))))) (rs_cons (rs_set (i := 6) sc__law_frozen.nd rfl (by first | exact .inl rfl | exact .inr rfl) (re_lst rc_nil))
 (rs_cons (rs_for (passes_of rfl) rfl (ri_seq (re_var 5)) (rtg_name (i := 7) sc__law_frozen.nd rfl (by first | exact .inl rfl | exact .inr rfl)) (rs_cons (rs_if (rt_cmp o_isN (ro_var 7) (ro_of re_non)) (rs_one (rs_set (i := 7) sc__law_frozen.nd rfl (by first | exact .inl rfl | exact .inr rfl) (re_tuple rfl T.z_tuple (ro_var 7)))) rs_nil)
 (rs_one (rs_expr (re_lapp false (rl_var 6) (re_var 7))))))
 (rs_one (rs_expr (re_lapp false (rl_var 1) (re_tup (rc_cons (re_var 2) (rc_cons (re_var 3) (rc_cons (re_var 4) (rc_cons (re_tuple rfl T.z_tuple (ro_var 6)) rc_nil)))))))))))
 (rs_one (rs_ret (re_tup (rc_cons (re_tuple rfl T.z_tuple (ro_of (re_ix hr.units (ro_var 0) (ro_of re_int)))) (rc_cons (re_tuple rfl T.z_tuple (ro_of (re_ix hr.units (ro_var 0) (ro_of re_int)))) (rc_cons (re_tuple rfl T.z_tuple (ro_var 1)) (rc_cons (re_tuple rfl T.z_tuple (ro_of (re_lc (own := [("_law_path", 8)]) rfl sc__law_frozen.nd (ri_seq (re_ix hr.units (ro_var 0) (ro_of re_int))) (blkOk_by (own := [("_law_path", 8)]) (by kernel_rfl)) (fun _ _ _ _ _ => (rtg_name (i := 8) sc__law_frozen.nd rfl (by first | exact .inl rfl | exact .inr rfl))) (fun _ _ _ _ _ => rts_nil) (fun _ _ _ _ _ => (re_tuple rfl T.z_tuple (ro_var 8)))))) rc_nil)))))))))
/-! ### require -/
abbrev s_require : Stmt := top 16
theorem sc_require : FnScope ["holds"] ["holds"] (defScope s_require) := ⟨rfl, rfl, rfl, by decide +kernel, rfl, by decide +kernel, by decide +kernel⟩
theorem ok_require {P : Program} {w : World} {K : PySem.W.Frag} {mg : Str → Option Value} {base : Heap} {fa : Addr} {fd : FuncData} (T : Txt K mg) (G : L2.Fun K "require" "require" s_require fa fd) :
  FnOk P w K mg base (L2.CX P w) 1 fa fd ["holds"] (spOf ⟨K, mg⟩ 1 (runF 1 (b_require))) :=
  Fun.okR (k := 0) G sc_require fun cdv A outer s H E hr =>
 (rs_one (rs_if (rt_not (rt_tru (ro_var 0))) (rs_one (rs_raise 1 T.e_InvalidLand rfl (takes_of rfl rfl rfl rfl) rfl)) rs_nil))
/-! ### is_name -/
abbrev s_is_name : Stmt := top 14
theorem sc_is_name : FnScope ["text", "char"] ["text"] (defScope s_is_name) := ⟨rfl, rfl, rfl, by decide +kernel, rfl, by decide +kernel, by decide +kernel⟩
theorem ok_is_name {P : Program} {w : World} {K : PySem.W.Frag} {mg : Str → Option Value} {base : Heap} {fa : Addr} {fd : FuncData} (T : Txt K mg) (G : L2.Fun K "is_name" "is_name" s_is_name fa fd) :
  FnOk P w K mg base (L2.CX P w) 1 fa fd ["text"] (spOf ⟨K, mg⟩ 1 (runF 2 (b_is_name))) :=
  Fun.okR (k := 0) G sc_is_name fun cdv A outer s H E hr =>
 (rs_cons (rs_if (rt_w (rw_or (rt_not (rt_ch2 o_le o_le (ro_of re_int) (ro_of (re_bi b_len rfl T.z_len (by kernel_rfl) (ra_cons (ro_var 0) ra_nil))) (ro_of (re_gc rfl T.c_MOST_NAME_CHARS)))) (rw_or1 (rt_cmp (o_in hr.units) (ro_of (re_ix hr.units (ro_var 0) (ro_of re_int))) (ro_of re_str))))) (rs_one (rs_ret re_bl)) rs_nil)
 (rs_one (rs_ret (re_bi (b_all rfl) rfl T.z_all (by kernel_rfl) (ra_cons (ro_of (re_lc (own := [("char", 1)]) rfl sc_is_name.nd (ri_seq (re_var 0)) (blkOk_by (own := [("char", 1)]) (by kernel_rfl)) (fun _ _ _ _ _ => (rtg_name (i := 1) sc_is_name.nd rfl (by first | exact .inl rfl | exact .inr rfl))) (fun _ _ _ _ _ => rts_nil) (fun _ _ _ _ _ => (re_cmp (o_in hr.units) (ro_var 1) (ro_of (re_gc rfl T.c_NAME_CHARS)))))) ra_nil)))))
/-! ### are_different -/
abbrev s_are_different : Stmt := top 15
theorem sc_are_different : FnScope ["parts", "number", "part"] ["parts"] (defScope s_are_different) := ⟨rfl, rfl, rfl, by decide +kernel, rfl, by decide +kernel, by decide +kernel⟩
theorem ok_are_different {P : Program} {w : World} {K : PySem.W.Frag} {mg : Str → Option Value} {base : Heap} {fa : Addr} {fd : FuncData} (T : Txt K mg) (G : L2.Fun K "are_different" "are_different" s_are_different fa fd) :
  FnOk P w K mg base (L2.CX P w) 1 fa fd ["parts"] (spOf ⟨K, mg⟩ 1 (runF 3 (b_are_different))) :=
  Fun.okR (k := 0) G sc_are_different fun cdv A outer s H E hr =>
 (rs_cons (rs_for (passes_of rfl) rfl (ri_en rfl T.z_enumerate (re_var 0)) (rtg_any rfl (rtgs_cons (rtg_name (i := 1) sc_are_different.nd rfl (by first | exact .inl rfl | exact .inr rfl)) (rtgs_cons (rtg_name (i := 2) sc_are_different.nd rfl (by first | exact .inl rfl | exact .inr rfl)) rtgs_nil))) (rs_one (rs_if (rt_cmp (o_in hr.units) (ro_var 2) (ro_of (re_sl (ro_var 0) rp_none (rp_some (re_var 1))))) (rs_one (rs_ret re_bl)) rs_nil)))
 (rs_one (rs_ret re_bl)))
/-! ### Land.are_ends -/
abbrev s_Land_are_ends : Stmt := sub 18 1
theorem sc_Land_are_ends : FnScope ["self", "one", "other"] ["self", "one", "other"] (defScope s_Land_are_ends) := ⟨rfl, rfl, rfl, by decide +kernel, rfl, by decide +kernel, by decide +kernel⟩
theorem ok_Land_are_ends {P : Program} {w : World} {K : PySem.W.Frag} {mg : Str → Option Value} {base : Heap} {fa : Addr} {fd : FuncData} (T : Txt K mg) (G : L2.Fun K "are_ends" "Land.are_ends" s_Land_are_ends fa fd) :
  FnOk P w K mg base (L2.CX P w) 1 fa fd ["self", "one", "other"] (spOf ⟨K, mg⟩ 3 (runF 3 (b_Land_are_ends))) :=
  Fun.okR (k := 0) G sc_Land_are_ends fun cdv A outer s H E hr =>
 (rs_one (rs_ret (re_and (re_cmp (o_in hr.units) (ro_var 1) (ro_of (re_fld (ks := [0, 2, 5]) (cls_cons T.f_Land (cls_cons T.f_Cut (cls_cons T.f_Order cls_nil))) (ro_var 0)))) (re_and (re_cmp (o_in hr.units) (ro_var 2) (ro_of (re_fld (ks := [0, 2, 5]) (cls_cons T.f_Land (cls_cons T.f_Cut (cls_cons T.f_Order cls_nil))) (ro_var 0)))) (re_one (re_cmp (o_ne hr.units) (ro_var 1) (ro_var 2)))))))
/-! ### checked_times -/
abbrev s_checked_times : Stmt := top 17
theorem sc_checked_times : FnScope ["times", "many", "found", "pair"] ["times", "many"] (defScope s_checked_times) := ⟨rfl, rfl, rfl, by decide +kernel, rfl, by decide +kernel, by decide +kernel⟩
theorem ok_checked_times {P : Program} {w : World} {K : PySem.W.Frag} {mg : Str → Option Value} {base : Heap} {fa : Addr} {fd : FuncData} (T : Txt K mg) (G : L2.Fun K "checked_times" "checked_times" s_checked_times fa fd) {F_require : Fn} (C_require : Callee P w K mg base 1 "require" 1 F_require) :
  FnOk P w K mg base (L2.CX P w) 2 fa fd ["times", "many"] (spOf ⟨K, mg⟩ 2 (runF 4 (b_checked_times F_require))) :=
  Fun.okR (k := 1) G sc_checked_times fun cdv A outer s H E hr =>
 (rs_cons (rs_expr (re_fn C_require (hr.mono (by decide)) rfl (takes_of rfl rfl rfl rfl) (rg_cons (r1_fro (re_cmp (o_eq hr.units) (ro_of (re_bi b_len rfl T.z_len (by kernel_rfl) (ra_cons (ro_var 0) ra_nil))) (ro_var 1))) rg_nil) (glen_cons (glen_nil rfl))))
 (rs_cons (rs_set (i := 2) sc_checked_times.nd rfl (by first | exact .inl rfl | exact .inr rfl) (re_lst rc_nil))
 (rs_cons (rs_for (passes_of rfl) rfl (ri_seq (re_var 0)) (rtg_name (i := 3) sc_checked_times.nd rfl (by first | exact .inl rfl | exact .inr rfl)) (rs_cons (rs_if (rt_cmp o_isN (ro_var 3) (ro_of re_non)) (rs_cons (rs_expr (re_fn C_require (hr.mono (by decide)) rfl (takes_of rfl rfl rfl rfl) (rg_cons (r1_fro (re_and (re_cmp (o_eq hr.units) (ro_of (re_bi b_len rfl T.z_len (by kernel_rfl) (ra_cons (ro_var 3) ra_nil))) (ro_of re_int)) (re_one (re_ch3 o_le o_le o_le (ro_of re_int) (ro_of (re_ix hr.units (ro_var 3) (ro_of re_int))) (ro_of (re_ix hr.units (ro_var 3) (ro_of re_int))) (ro_of (re_gc rfl T.c_MOST_MINUTES)))))) rg_nil) (glen_cons (glen_nil rfl))))
 (rs_one (rs_set (i := 3) sc_checked_times.nd rfl (by first | exact .inl rfl | exact .inr rfl) (re_tuple rfl T.z_tuple (ro_var 3))))) rs_nil)
 (rs_one (rs_expr (re_lapp false (rl_var 2) (re_var 3))))))
 (rs_one (rs_ret (re_tuple rfl T.z_tuple (ro_var 2)))))))
/-! ### Land.checked_link -/
abbrev s_Land_checked_link : Stmt := sub 18 2
theorem sc_Land_checked_link : FnScope ["self", "link", "name", "one", "other", "times"] ["self", "link"] (defScope s_Land_checked_link) := ⟨rfl, rfl, rfl, by decide +kernel, rfl, by decide +kernel, by decide +kernel⟩
theorem ok_Land_checked_link {P : Program} {w : World} {K : PySem.W.Frag} {mg : Str → Option Value} {base : Heap} {fa : Addr} {fd : FuncData} (T : Txt K mg) (G : L2.Fun K "checked_link" "Land.checked_link" s_Land_checked_link fa fd) {F_require : Fn} {F_is_name : Fn} {F_Land_are_ends : Fn} {F_checked_times : Fn} (C_require : Callee P w K mg base 1 "require" 1 F_require) (C_is_name : Callee P w K mg base 1 "is_name" 1 F_is_name) (C_Land_are_ends : CalleeM P w K mg base 1 0 "are_ends" 2 F_Land_are_ends) (C_checked_times : Callee P w K mg base 2 "checked_times" 2 F_checked_times) :
  FnOk P w K mg base (L2.CX P w) 3 fa fd ["self", "link"] (spOf ⟨K, mg⟩ 2 (runF 6 (b_Land_checked_link F_require F_is_name F_Land_are_ends F_checked_times))) :=
  Fun.okR (k := 2) G sc_Land_checked_link fun cdv A outer s H E hr =>
 (rs_cons (rs_expr (re_fn C_require (hr.mono (by decide)) rfl (takes_of rfl rfl rfl rfl) (rg_cons (r1_fro (re_cmp (o_eq hr.units) (ro_of (re_bi b_len rfl T.z_len (by kernel_rfl) (ra_cons (ro_var 1) ra_nil))) (ro_of re_int))) rg_nil) (glen_cons (glen_nil rfl))))
 (rs_cons (rs_pat (re_var 1) (rtg_any rfl (rtgs_cons (rtg_name (i := 2) sc_Land_checked_link.nd rfl (by first | exact .inl rfl | exact .inr rfl)) (rtgs_cons (rtg_name (i := 3) sc_Land_checked_link.nd rfl (by first | exact .inl rfl | exact .inr rfl)) (rtgs_cons (rtg_name (i := 4) sc_Land_checked_link.nd rfl (by first | exact .inl rfl | exact .inr rfl)) (rtgs_cons (rtg_name (i := 5) sc_Land_checked_link.nd rfl (by first | exact .inl rfl | exact .inr rfl)) rtgs_nil))))))
 (rs_cons (rs_expr (re_fn C_require (hr.mono (by decide)) rfl (takes_of rfl rfl rfl rfl) (rg_cons (r1_fro (re_and (re_fn C_is_name (hr.mono (by decide)) rfl (takes_of rfl rfl rfl rfl) (rg_cons (r1_fro (re_var 2)) rg_nil) (glen_cons (glen_nil rfl))) (re_one (re_meA C_Land_are_ends (hr.mono (by decide)) (takes_of rfl rfl rfl rfl) (r1_len 0) (rg_cons (r1_fro (re_var 3)) (rg_cons (r1_fro (re_var 4)) rg_nil)) (glen_cons (glen_cons (glen_nil rfl))) (by decide))))) rg_nil) (glen_cons (glen_nil rfl))))
 (rs_one (rs_ret (re_tup (rc_cons (re_var 2) (rc_cons (re_var 3) (rc_cons (re_var 4) (rc_cons (re_fn C_checked_times (hr.mono (by decide)) rfl (takes_of rfl rfl rfl rfl) (rg_cons (r1_fro (re_var 5)) (rg_cons (r1_fro (re_bi b_len rfl T.z_len (by kernel_rfl) (ra_cons (ro_of (re_fld (ks := [0]) (cls_cons T.f_Land cls_nil) (ro_var 0))) ra_nil))) rg_nil)) (glen_cons (glen_cons (glen_nil rfl)))) rc_nil))))))))))
/-! ### Land.link_names -/
abbrev s_Land_link_names : Stmt := sub 18 4
theorem sc_Land_link_names : FnScope ["self", "link"] ["self"] (defScope s_Land_link_names) := ⟨rfl, rfl, rfl, by decide +kernel, rfl, by decide +kernel, by decide +kernel⟩
theorem ok_Land_link_names {P : Program} {w : World} {K : PySem.W.Frag} {mg : Str → Option Value} {base : Heap} {fa : Addr} {fd : FuncData} (T : Txt K mg) (G : L2.Fun K "link_names" "Land.link_names" s_Land_link_names fa fd) :
  FnOk P w K mg base (L2.CX P w) 1 fa fd ["self"] (spOf ⟨K, mg⟩ 1 (runF 2 (b_Land_link_names))) :=
  Fun.okR (k := 0) G sc_Land_link_names fun cdv A outer s H E hr =>
 (rs_one (rs_ret (re_tuple rfl T.z_tuple (ro_of (re_lc (own := [("link", 1)]) rfl sc_Land_link_names.nd (ri_seq (re_fld (ks := [0]) (cls_cons T.f_Land cls_nil) (ro_var 0))) (blkOk_by (own := [("link", 1)]) (by kernel_rfl)) (fun _ _ _ _ _ => (rtg_name (i := 1) sc_Land_link_names.nd rfl (by first | exact .inl rfl | exact .inr rfl))) (fun _ _ _ _ _ => rts_nil) (fun _ _ _ _ _ => (re_ix hr.units (ro_var 1) (ro_of re_int))))))))
/-! ### Land.checked_path -/
abbrev s_Land_checked_path : Stmt := sub 18 3
theorem sc_Land_checked_path : FnScope ["self", "path", "one", "other", "minutes"] ["self", "path"] (defScope s_Land_checked_path) := ⟨rfl, rfl, rfl, by decide +kernel, rfl, by decide +kernel, by decide +kernel⟩
theorem ok_Land_checked_path {P : Program} {w : World} {K : PySem.W.Frag} {mg : Str → Option Value} {base : Heap} {fa : Addr} {fd : FuncData} (T : Txt K mg) (G : L2.Fun K "checked_path" "Land.checked_path" s_Land_checked_path fa fd) {F_require : Fn} {F_Land_are_ends : Fn} (C_require : Callee P w K mg base 1 "require" 1 F_require) (C_Land_are_ends : CalleeM P w K mg base 1 0 "are_ends" 2 F_Land_are_ends) :
  FnOk P w K mg base (L2.CX P w) 2 fa fd ["self", "path"] (spOf ⟨K, mg⟩ 2 (runF 5 (b_Land_checked_path F_require F_Land_are_ends))) :=
  Fun.okR (k := 1) G sc_Land_checked_path fun cdv A outer s H E hr =>
 (rs_cons (rs_expr (re_fn C_require (hr.mono (by decide)) rfl (takes_of rfl rfl rfl rfl) (rg_cons (r1_fro (re_cmp (o_eq hr.units) (ro_of (re_bi b_len rfl T.z_len (by kernel_rfl) (ra_cons (ro_var 1) ra_nil))) (ro_of re_int))) rg_nil) (glen_cons (glen_nil rfl))))
 (rs_cons (rs_pat (re_var 1) (rtg_any rfl (rtgs_cons (rtg_name (i := 2) sc_Land_checked_path.nd rfl (by first | exact .inl rfl | exact .inr rfl)) (rtgs_cons (rtg_name (i := 3) sc_Land_checked_path.nd rfl (by first | exact .inl rfl | exact .inr rfl)) (rtgs_cons (rtg_name (i := 4) sc_Land_checked_path.nd rfl (by first | exact .inl rfl | exact .inr rfl)) rtgs_nil)))))
 (rs_cons (rs_expr (re_fn C_require (hr.mono (by decide)) rfl (takes_of rfl rfl rfl rfl) (rg_cons (r1_fro (re_and (re_meA C_Land_are_ends (hr.mono (by decide)) (takes_of rfl rfl rfl rfl) (r1_len 0) (rg_cons (r1_fro (re_var 2)) (rg_cons (r1_fro (re_var 3)) rg_nil)) (glen_cons (glen_cons (glen_nil rfl))) (by decide)) (re_one (re_ch2 o_le o_le (ro_of re_int) (ro_var 4) (ro_of (re_gc rfl T.c_MOST_MINUTES)))))) rg_nil) (glen_cons (glen_nil rfl))))
 (rs_one (rs_ret (re_tup (rc_cons (re_var 2) (rc_cons (re_var 3) (rc_cons (re_var 4) rc_nil)))))))))
/-! ### Land.__init__ -/
abbrev s_Land_init : Stmt := sub 18 0
theorem sc_Land_init : FnScope ["self", "winds", "places", "links", "paths", "wind", "place", "link", "path"] ["self", "winds", "places", "links", "paths"] (defScope s_Land_init) := ⟨rfl, rfl, rfl, by decide +kernel, rfl, by decide +kernel, by decide +kernel⟩
theorem ok_Land_init {P : Program} {w : World} {K : PySem.W.Frag} {mg : Str → Option Value} {base : Heap} {fa : Addr} {fd : FuncData} (T : Txt K mg) {kws : List (Str × V)} (G : FunD K "__init__" "Land.__init__" (defArgs s_Land_init) (defBody s_Land_init) (defScope s_Land_init) [] kws fa fd) {F_require : Fn} {F_is_name : Fn} {F_are_different : Fn} {F_Land_checked_link : Fn} {F_Land_link_names : Fn} {F_Land_checked_path : Fn} (C_require : Callee P w K mg base 1 "require" 1 F_require) (C_is_name : Callee P w K mg base 1 "is_name" 1 F_is_name) (C_are_different : Callee P w K mg base 1 "are_different" 1 F_are_different) (C_Land_checked_link : CalleeM P w K mg base 3 0 "checked_link" 1 F_Land_checked_link) (C_Land_link_names : CalleeP P w K mg base 1 0 "link_names" F_Land_link_names) (C_Land_checked_path : CalleeM P w K mg base 2 0 "checked_path" 1 F_Land_checked_path) :
  FnOk P w K mg base (L2.CX P w) 4 fa fd ["self", "winds", "places", "links", "paths"] (spIni ⟨K, mg⟩ 0 4 (runI 9 0 (b_Land_init F_require F_is_name F_are_different F_Land_checked_link F_Land_link_names F_Land_checked_path))) :=
  FunD.okI (k := 3) G sc_Land_init rfl fun cdv A outer s H E hr =>
 (rs_cons (rs_expr (re_fn C_require (hr.mono (by decide)) rfl (takes_of rfl rfl rfl rfl) (rg_cons (r1_fro (re_and (re_ch2 o_le o_le (ro_of re_int) (ro_of (re_bi b_len rfl T.z_len (by kernel_rfl) (ra_cons (ro_var 1) ra_nil))) (ro_of (re_gc rfl T.c_MOST_WINDS))) (re_and (re_bi (b_all rfl) rfl T.z_all (by kernel_rfl) (ra_cons (ro_of (re_lc (own := [("wind", 5)]) rfl sc_Land_init.nd (ri_seq (re_var 1)) (blkOk_by (own := [("wind", 5)]) (by kernel_rfl)) (fun _ _ _ _ _ => (rtg_name (i := 5) sc_Land_init.nd rfl (by first | exact .inl rfl | exact .inr rfl))) (fun _ _ _ _ _ => rts_nil) (fun _ _ _ _ _ => (re_fn C_is_name (hr.mono (by decide)) rfl tk0 (rg_cons (r1_fro (re_var 5)) rg_nil) (glen_cons (glen_nil rfl)))))) ra_nil)) (re_one (re_fn C_are_different (hr.mono (by decide)) rfl (takes_of rfl rfl rfl rfl) (rg_cons (r1_len 1) rg_nil) (glen_cons (glen_nil rfl))))))) rg_nil) (glen_cons (glen_nil rfl))))
 (rs_cons (rs_expr (re_fn C_require (hr.mono (by decide)) rfl (takes_of rfl rfl rfl rfl) (rg_cons (r1_fro (re_and (re_ch2 o_le o_le (ro_of re_int) (ro_of (re_bi b_len rfl T.z_len (by kernel_rfl) (ra_cons (ro_var 2) ra_nil))) (ro_of (re_gc rfl T.c_MOST_PLACES))) (re_one (re_bi (b_all rfl) rfl T.z_all (by kernel_rfl) (ra_cons (ro_of (re_lc (own := [("place", 6)]) rfl sc_Land_init.nd (ri_seq (re_var 2)) (blkOk_by (own := [("place", 6)]) (by kernel_rfl)) (fun _ _ _ _ _ => (rtg_name (i := 6) sc_Land_init.nd rfl (by first | exact .inl rfl | exact .inr rfl))) (fun _ _ _ _ _ => rts_nil) (fun _ _ _ _ _ => (re_fn C_is_name (hr.mono (by decide)) rfl tk0 (rg_cons (r1_fro (re_var 6)) rg_nil) (glen_cons (glen_nil rfl)))))) ra_nil))))) rg_nil) (glen_cons (glen_nil rfl))))
 (rs_cons (rs_expr (re_fn C_require (hr.mono (by decide)) rfl (takes_of rfl rfl rfl rfl) (rg_cons (r1_fro (re_fn C_are_different (hr.mono (by decide)) rfl (takes_of rfl rfl rfl rfl) (rg_cons (r1_len 2) rg_nil) (glen_cons (glen_nil rfl)))) rg_nil) (glen_cons (glen_nil rfl))))
 (rs_cons (rs_stf 0 [0] (cls_cons T.f_Land cls_nil) (re_tuple rfl T.z_tuple (ro_var 1)))
 (rs_cons (rs_stf 0 [0] (cls_cons T.f_Land cls_nil) (re_tuple rfl T.z_tuple (ro_var 2)))
 (rs_cons (rs_expr (re_fn C_require (hr.mono (by decide)) rfl (takes_of rfl rfl rfl rfl) (rg_cons (r1_fro (re_cmp o_le (ro_of (re_bi b_len rfl T.z_len (by kernel_rfl) (ra_cons (ro_var 3) ra_nil))) (ro_of (re_gc rfl T.c_MOST_LINKS)))) rg_nil) (glen_cons (glen_nil rfl))))
 (rs_cons (rs_stf 0 [0] (cls_cons T.f_Land cls_nil) (re_tuple rfl T.z_tuple (ro_of (re_lcE (own := [("link", 7)]) rfl sc_Land_init.nd (ri_seq (re_var 3)) (takes_of rfl rfl rfl rfl) rfl rfl (blkOk_by (own := [("link", 7)]) (by kernel_rfl)) (fun _ _ _ _ _ => (rtg_name (i := 7) sc_Land_init.nd rfl (by first | exact .inl rfl | exact .inr rfl))) (fun _ _ _ _ _ => rts_nil) (fun _ _ _ _ _ V tk => (re_meA C_Land_checked_link (hr.mono (by decide)) tk (r1_len 0) (rg_cons (r1_fro (re_var 7)) rg_nil) (glen_cons (glen_nil rfl)) (by decide)))))))
 (rs_cons (rs_expr (re_fn C_require (hr.mono (by decide)) rfl (takes_of rfl rfl rfl rfl) (rg_cons (r1_fro (re_fn C_are_different (hr.mono (by decide)) rfl (takes_of rfl rfl rfl rfl) (rg_cons (r1_fro (re_prA C_Land_link_names (hr.mono (by decide)) (r1_len 0))) rg_nil) (glen_cons (glen_nil rfl)))) rg_nil) (glen_cons (glen_nil rfl))))
 (rs_cons (rs_expr (re_fn C_require (hr.mono (by decide)) rfl (takes_of rfl rfl rfl rfl) (rg_cons (r1_fro (re_cmp o_le (ro_of (re_bi b_len rfl T.z_len (by kernel_rfl) (ra_cons (ro_var 4) ra_nil))) (ro_of (re_gc rfl T.c_MOST_PATHS)))) rg_nil) (glen_cons (glen_nil rfl))))
 (rs_cons (rs_stf 0 [0] (cls_cons T.f_Land cls_nil) (re_tuple rfl T.z_tuple (ro_of (re_lcE (own := [("path", 8)]) rfl sc_Land_init.nd (ri_seq (re_var 4)) (takes_of rfl rfl rfl rfl) rfl rfl (blkOk_by (own := [("path", 8)]) (by kernel_rfl)) (fun _ _ _ _ _ => (rtg_name (i := 8) sc_Land_init.nd rfl (by first | exact .inl rfl | exact .inr rfl))) (fun _ _ _ _ _ => rts_nil) (fun _ _ _ _ _ V tk => (re_meA C_Land_checked_path (hr.mono (by decide)) tk (r1_len 0) (rg_cons (r1_fro (re_var 8)) rg_nil) (glen_cons (glen_nil rfl)) (by decide)))))))
 (rs_one (rs_expr (re_fn C_require (hr.mono (by decide)) rfl (takes_of rfl rfl rfl rfl) (rg_cons (r1_fro (re_fn C_are_different (hr.mono (by decide)) rfl (takes_of rfl rfl rfl rfl) (rg_cons (r1_fro (re_lc (own := [("path", 8)]) rfl sc_Land_init.nd (ri_seq (re_fld (ks := [0]) (cls_cons T.f_Land cls_nil) (ro_var 0))) (blkOk_by (own := [("path", 8)]) (by kernel_rfl)) (fun _ _ _ _ _ => (rtg_name (i := 8) sc_Land_init.nd rfl (by first | exact .inl rfl | exact .inr rfl))) (fun _ _ _ _ _ => rts_nil) (fun _ _ _ _ _ => (re_tuple rfl T.z_tuple (ro_of (re_sorted rfl T.z_sorted (ro_of (re_sl (ro_var 8) rp_none (rp_some re_int))))))))) rg_nil) (glen_cons (glen_nil rfl)))) rg_nil) (glen_cons (glen_nil rfl)))))))))))))))
/-! ### _law_made -/
abbrev s__law_made : Stmt := top 41
theorem sc__law_made : FnScope ["_law_parts_here"] ["_law_parts_here"] (defScope s__law_made) := ⟨rfl, rfl, rfl, by decide +kernel, rfl, by decide +kernel, by decide +kernel⟩
theorem ok__law_made {P : Program} {w : World} {K : PySem.W.Frag} {mg : Str → Option Value} {base : Heap} {fa : Addr} {fd : FuncData} (T : Txt K mg) (G : L2.Fun K "_law_made" "_law_made" s__law_made fa fd) {F_Land_init : Fn} (C_Land_init_Land_winds_places_links_paths : MakeK P w K mg base 4 0 4 ["winds", "places", "links", "paths"] aR_Land_winds_places_links_paths F_Land_init) :
  FnOk P w K mg base (L2.CX P w) 6 fa fd ["_law_parts_here"] (spOf ⟨K, mg⟩ 1 (runF 1 (b__law_made F_Land_init))) :=
  Fun.okR (k := 5) G sc__law_made fun cdv A outer s H E hr =>
 (rs_one (rs_ret (re_mk C_Land_init_Land_winds_places_links_paths (hr.mono (by decide)) rfl rfl (takes_of rfl rfl rfl rfl) (rgk_cons (r1_fro (re_list rfl T.z_list (ro_of (re_ix hr.units (ro_var 0) (ro_of re_int))))) (rgk_cons (r1_fro (re_list rfl T.z_list (ro_of (re_ix hr.units (ro_var 0) (ro_of re_int))))) (rgk_cons (r1_fro (re_list rfl T.z_list (ro_of (re_ix hr.units (ro_var 0) (ro_of re_int))))) (rgk_cons (r1_fro (re_list rfl T.z_list (ro_of (re_ix hr.units (ro_var 0) (ro_of re_int))))) rgk_nil)))) (glen_cons (glen_cons (glen_cons (glen_cons (glen_nil rfl))))))))
/-! ### _law_lines -/
abbrev s__law_lines : Stmt := top 44
theorem sc__law_lines : FnScope ["_law_parts_here", "_law_lines_here", "_law_name", "_law_one", "_law_other", "_law_times_here", "_law_line", "_law_pair", "_law_minutes"] ["_law_parts_here"] (defScope s__law_lines) := ⟨rfl, rfl, rfl, by decide +kernel, rfl, by decide +kernel, by decide +kernel⟩
theorem ok__law_lines {P : Program} {w : World} {K : PySem.W.Frag} {mg : Str → Option Value} {base : Heap} {fa : Addr} {fd : FuncData} (T : Txt K mg) (G : L2.Fun K "_law_lines" "_law_lines" s__law_lines fa fd) :
  FnOk P w K mg base (L2.CX P w) 1 fa fd ["_law_parts_here"] (spOf ⟨K, mg⟩ 1 (runF 9 (b__law_lines))) :=
  Fun.okR (k := 0) G sc__law_lines fun cdv A outer s H E hr =>
 (rs_cons (rs_set (i := 1) sc__law_lines.nd rfl (by first | exact .inl rfl | exact .inr rfl) (re_lst (rc_cons (re_add (ro_of re_str) (ro_of (re_join (ro_of re_str) (ro_of (re_ix hr.units (ro_var 0) (ro_of re_int)))))) (rc_cons (re_add (ro_of re_str) (ro_of (re_join (ro_of re_str) (ro_of (re_ix hr.units (ro_var 0) (ro_of re_int)))))) rc_nil))))
 (rs_cons (rs_if (rt_cmp (o_eq hr.units) (ro_of (re_bi b_len rfl T.z_len (by kernel_rfl) (ra_cons (ro_of (re_ix hr.units (ro_var 0) (ro_of re_int))) ra_nil))) (ro_of re_int)) (rs_one (rs_lset false hr.units re_str (rl_var 1) (ro_of re_int))) rs_nil)
 (rs_cons (rs_if (rt_cmp (o_eq hr.units) (ro_of (re_bi b_len rfl T.z_len (by kernel_rfl) (ra_cons (ro_of (re_ix hr.units (ro_var 0) (ro_of re_int))) ra_nil))) (ro_of re_int)) (rs_one (rs_lset false hr.units re_str (rl_var 1) (ro_of re_int))) rs_nil)
 (rs_cons (rs_for (passes_of rfl) rfl (ri_seq (re_ix hr.units (ro_var 0) (ro_of re_int))) (rtg_any rfl (rtgs_cons (rtg_name (i := 2) sc__law_lines.nd rfl (by first | exact .inl rfl | exact .inr rfl)) (rtgs_cons (rtg_name (i := 3) sc__law_lines.nd rfl (by first | exact .inl rfl | exact .inr rfl)) (rtgs_cons (rtg_name (i := 4) sc__law_lines.nd rfl (by first | exact .inl rfl | exact .inr rfl)) (rtgs_cons (rtg_name (i := 5) sc__law_lines.nd rfl (by first | exact .inl rfl | exact .inr rfl)) rtgs_nil))))) (rs_cons (rs_set (i := 6) sc__law_lines.nd rfl (by first | exact .inl rfl | exact .inr rfl) (re_add (ro_of (re_add (ro_of (re_add (ro_of (re_add (ro_of (re_add (ro_of re_str) (ro_var 2))) (ro_of re_str))) (ro_var 3))) (ro_of re_str))) (ro_var 4)))
 (rs_cons (rs_for (passes_of rfl) rfl (ri_seq (re_var 5)) (rtg_name (i := 7) sc__law_lines.nd rfl (by first | exact .inl rfl | exact .inr rfl)) (rs_one (rs_if (rt_cmp o_is (ro_var 7) (ro_of re_non)) (rs_one (rs_set (i := 6) sc__law_lines.nd rfl (by first | exact .inl rfl | exact .inr rfl) (re_add (ro_var 6) (ro_of re_str)))) (rs_one (rs_set (i := 6) sc__law_lines.nd rfl (by first | exact .inl rfl | exact .inr rfl) (re_add (ro_of (re_add (ro_of (re_add (ro_of (re_add (ro_var 6) (ro_of re_str))) (ro_of (re_bty b_str rfl T.z_str (by kernel_rfl) (ra_cons (ro_of (re_ix hr.units (ro_var 7) (ro_of re_int))) ra_nil))))) (ro_of re_str))) (ro_of (re_bty b_str rfl T.z_str (by kernel_rfl) (ra_cons (ro_of (re_ix hr.units (ro_var 7) (ro_of re_int))) ra_nil)))))))))
 (rs_one (rs_expr (re_lapp false (rl_var 1) (re_var 6)))))))
 (rs_cons (rs_for (passes_of rfl) rfl (ri_seq (re_ix hr.units (ro_var 0) (ro_of re_int))) (rtg_any rfl (rtgs_cons (rtg_name (i := 3) sc__law_lines.nd rfl (by first | exact .inl rfl | exact .inr rfl)) (rtgs_cons (rtg_name (i := 4) sc__law_lines.nd rfl (by first | exact .inl rfl | exact .inr rfl)) (rtgs_cons (rtg_name (i := 8) sc__law_lines.nd rfl (by first | exact .inl rfl | exact .inr rfl)) rtgs_nil)))) (rs_one (rs_expr (re_lapp false (rl_var 1) (re_add (ro_of (re_add (ro_of (re_add (ro_of (re_add (ro_of (re_add (ro_of re_str) (ro_var 3))) (ro_of re_str))) (ro_var 4))) (ro_of re_str))) (ro_of (re_bty b_str rfl T.z_str (by kernel_rfl) (ra_cons (ro_var 8) ra_nil))))))))
 (rs_one (rs_ret (re_move 1))))))))
/-! ### require_form -/
abbrev s_require_form : Stmt := top 26
theorem sc_require_form : FnScope ["holds", "line"] ["holds", "line"] (defScope s_require_form) := ⟨rfl, rfl, rfl, by decide +kernel, rfl, by decide +kernel, by decide +kernel⟩
theorem ok_require_form {P : Program} {w : World} {K : PySem.W.Frag} {mg : Str → Option Value} {base : Heap} {fa : Addr} {fd : FuncData} (T : Txt K mg) (G : L2.Fun K "require_form" "require_form" s_require_form fa fd) :
  FnOk P w K mg base (L2.CX P w) 1 fa fd ["holds", "line"] (spOf ⟨K, mg⟩ 2 (runF 2 (b_require_form))) :=
  Fun.okR (k := 0) G sc_require_form fun cdv A outer s H E hr =>
 (rs_one (rs_if (rt_not (rt_tru (ro_var 0))) (rs_one (rs_never _)) rs_nil))
/-! ### read_names -/
abbrev s_read_names : Stmt := top 28
theorem sc_read_names : FnScope ["lines", "number", "word", "name"] ["lines", "number", "word"] (defScope s_read_names) := ⟨rfl, rfl, rfl, by decide +kernel, rfl, by decide +kernel, by decide +kernel⟩
theorem ok_read_names {P : Program} {w : World} {K : PySem.W.Frag} {mg : Str → Option Value} {base : Heap} {fa : Addr} {fd : FuncData} (T : Txt K mg) (G : L2.Fun K "read_names" "read_names" s_read_names fa fd) {F_require_form : Fn} {F_is_name : Fn} (C_require_form : Callee P w K mg base 1 "require_form" 2 F_require_form) (C_is_name : Callee P w K mg base 1 "is_name" 1 F_is_name) :
  FnOk P w K mg base (L2.CX P w) 2 fa fd ["lines", "number", "word"] (spOf ⟨K, mg⟩ 3 (runF 4 (b_read_names F_require_form F_is_name))) :=
  Fun.okR (k := 1) G sc_read_names fun cdv A outer s H E hr =>
 (rs_cons (rs_expr (re_fn C_require_form (hr.mono (by decide)) rfl (takes_of rfl rfl rfl rfl) (rg_cons (r1_fro (re_and (re_cmp o_lt (ro_var 1) (ro_of (re_bi b_len rfl T.z_len (by kernel_rfl) (ra_cons (ro_var 0) ra_nil)))) (re_one (re_cmp (o_eq hr.units) (ro_of (re_ix hr.units (ro_of (re_ix hr.units (ro_var 0) (ro_var 1))) (ro_of re_int))) (ro_var 2))))) (rg_cons (r1_fro (re_add (ro_var 1) (ro_of re_int))) rg_nil)) (glen_cons (glen_cons (glen_nil rfl)))))
 (rs_cons (rs_expr (re_fn C_require_form (hr.mono (by decide)) rfl (takes_of rfl rfl rfl rfl) (rg_cons (r1_fro (re_bi (b_all rfl) rfl T.z_all (by kernel_rfl) (ra_cons (ro_of (re_lc (own := [("name", 3)]) rfl sc_read_names.nd (ri_seq (re_sl (ro_of (re_ix hr.units (ro_var 0) (ro_var 1))) (rp_some re_int) rp_none)) (blkOk_by (own := [("name", 3)]) (by kernel_rfl)) (fun _ _ _ _ _ => (rtg_name (i := 3) sc_read_names.nd rfl (by first | exact .inl rfl | exact .inr rfl))) (fun _ _ _ _ _ => rts_nil) (fun _ _ _ _ _ => (re_fn C_is_name (hr.mono (by decide)) rfl tk0 (rg_cons (r1_fro (re_var 3)) rg_nil) (glen_cons (glen_nil rfl)))))) ra_nil))) (rg_cons (r1_fro (re_add (ro_var 1) (ro_of re_int))) rg_nil)) (glen_cons (glen_cons (glen_nil rfl)))))
 (rs_one (rs_ret (re_sl (ro_of (re_ix hr.units (ro_var 0) (ro_var 1))) (rp_some re_int) rp_none)))))
/-! ### is_number -/
abbrev s_is_number : Stmt := top 25
theorem sc_is_number : FnScope ["word", "char"] ["word"] (defScope s_is_number) := ⟨rfl, rfl, rfl, by decide +kernel, rfl, by decide +kernel, by decide +kernel⟩
theorem ok_is_number {P : Program} {w : World} {K : PySem.W.Frag} {mg : Str → Option Value} {base : Heap} {fa : Addr} {fd : FuncData} (T : Txt K mg) (G : L2.Fun K "is_number" "is_number" s_is_number fa fd) :
  FnOk P w K mg base (L2.CX P w) 1 fa fd ["word"] (spOf ⟨K, mg⟩ 1 (runF 2 (b_is_number))) :=
  Fun.okR (k := 0) G sc_is_number fun cdv A outer s H E hr =>
 (rs_cons (rs_if (rt_w (rw_or (rt_not (rt_ch2 o_le o_le (ro_of re_int) (ro_of (re_bi b_len rfl T.z_len (by kernel_rfl) (ra_cons (ro_var 0) ra_nil))) (ro_of (re_gc rfl T.c_MOST_DIGITS)))) (rw_or1 (rt_not (rt_val (re_bi (b_all rfl) rfl T.z_all (by kernel_rfl) (ra_cons (ro_of (re_lc (own := [("char", 1)]) rfl sc_is_number.nd (ri_seq (re_var 0)) (blkOk_by (own := [("char", 1)]) (by kernel_rfl)) (fun _ _ _ _ _ => (rtg_name (i := 1) sc_is_number.nd rfl (by first | exact .inl rfl | exact .inr rfl))) (fun _ _ _ _ _ => rts_nil) (fun _ _ _ _ _ => (re_cmp (o_in hr.units) (ro_var 1) (ro_of (re_gc rfl T.c_DIGITS)))))) ra_nil))))))) (rs_one (rs_ret re_bl)) rs_nil)
 (rs_one (rs_ret (re_or (re_cmp (o_eq hr.units) (ro_var 0) (ro_of re_str)) (re_one (re_cmp (o_ne hr.units) (ro_of (re_ix hr.units (ro_var 0) (ro_of re_int))) (ro_of re_str)))))))
/-! ### read_pair -/
abbrev s_read_pair : Stmt := top 27
theorem sc_read_pair : FnScope ["word", "line", "numbers", "number"] ["word", "line"] (defScope s_read_pair) := ⟨rfl, rfl, rfl, by decide +kernel, rfl, by decide +kernel, by decide +kernel⟩
theorem ok_read_pair {P : Program} {w : World} {K : PySem.W.Frag} {mg : Str → Option Value} {base : Heap} {fa : Addr} {fd : FuncData} (T : Txt K mg) (G : L2.Fun K "read_pair" "read_pair" s_read_pair fa fd) {F_require_form : Fn} {F_is_number : Fn} (C_require_form : Callee P w K mg base 1 "require_form" 2 F_require_form) (C_is_number : Callee P w K mg base 1 "is_number" 1 F_is_number) :
  FnOk P w K mg base (L2.CX P w) 2 fa fd ["word", "line"] (spOf ⟨K, mg⟩ 2 (runF 4 (b_read_pair F_require_form F_is_number))) :=
  Fun.okR (k := 1) G sc_read_pair fun cdv A outer s H E hr =>
 (rs_cons (rs_if (rt_cmp (o_eq hr.units) (ro_var 0) (ro_of (re_gc rfl T.c_SHUT))) (rs_one (rs_ret re_non)) rs_nil)
 (rs_cons (rs_set (i := 2) sc_read_pair.nd rfl (by first | exact .inl rfl | exact .inr rfl) (re_split (ro_var 0) (ro_of re_str)))
 (rs_cons (rs_expr (re_fn C_require_form (hr.mono (by decide)) rfl (takes_of rfl rfl rfl rfl) (rg_cons (r1_fro (re_and (re_cmp (o_eq hr.units) (ro_of (re_bi b_len rfl T.z_len (by kernel_rfl) (ra_cons (ro_var 2) ra_nil))) (ro_of re_int)) (re_one (re_bi (b_all rfl) rfl T.z_all (by kernel_rfl) (ra_cons (ro_of (re_lc (own := [("number", 3)]) rfl sc_read_pair.nd (ri_seq (re_var 2)) (blkOk_by (own := [("number", 3)]) (by kernel_rfl)) (fun _ _ _ _ _ => (rtg_name (i := 3) sc_read_pair.nd rfl (by first | exact .inl rfl | exact .inr rfl))) (fun _ _ _ _ _ => rts_nil) (fun _ _ _ _ _ => (re_fn C_is_number (hr.mono (by decide)) rfl tk0 (rg_cons (r1_fro (re_var 3)) rg_nil) (glen_cons (glen_nil rfl)))))) ra_nil))))) (rg_cons (r1_len 1) rg_nil)) (glen_cons (glen_cons (glen_nil rfl)))))
 (rs_one (rs_ret (re_tup (rc_cons (re_bty b_int rfl T.z_int (by kernel_rfl) (ra_cons (ro_of (re_ix hr.units (ro_var 2) (ro_of re_int))) ra_nil)) (rc_cons (re_bty b_int rfl T.z_int (by kernel_rfl) (ra_cons (ro_of (re_ix hr.units (ro_var 2) (ro_of re_int))) ra_nil)) rc_nil))))))))
/-! ### read_link -/
abbrev s_read_link : Stmt := top 29
theorem sc_read_link : FnScope ["words", "line", "word"] ["words", "line"] (defScope s_read_link) := ⟨rfl, rfl, rfl, by decide +kernel, rfl, by decide +kernel, by decide +kernel⟩
theorem ok_read_link {P : Program} {w : World} {K : PySem.W.Frag} {mg : Str → Option Value} {base : Heap} {fa : Addr} {fd : FuncData} (T : Txt K mg) (G : L2.Fun K "read_link" "read_link" s_read_link fa fd) {F_require_form : Fn} {F_is_name : Fn} {F_read_pair : Fn} (C_require_form : Callee P w K mg base 1 "require_form" 2 F_require_form) (C_is_name : Callee P w K mg base 1 "is_name" 1 F_is_name) (C_read_pair : Callee P w K mg base 2 "read_pair" 2 F_read_pair) :
  FnOk P w K mg base (L2.CX P w) 3 fa fd ["words", "line"] (spOf ⟨K, mg⟩ 2 (runF 3 (b_read_link F_require_form F_is_name F_read_pair))) :=
  Fun.okR (k := 2) G sc_read_link fun cdv A outer s H E hr =>
 (rs_cons (rs_expr (re_fn C_require_form (hr.mono (by decide)) rfl (takes_of rfl rfl rfl rfl) (rg_cons (r1_fro (re_and (re_cmp o_ge (ro_of (re_bi b_len rfl T.z_len (by kernel_rfl) (ra_cons (ro_var 0) ra_nil))) (ro_of re_int)) (re_one (re_bi (b_all rfl) rfl T.z_all (by kernel_rfl) (ra_cons (ro_of (re_lc (own := [("word", 2)]) rfl sc_read_link.nd (ri_seq (re_sl (ro_var 0) (rp_some re_int) (rp_some re_int))) (blkOk_by (own := [("word", 2)]) (by kernel_rfl)) (fun _ _ _ _ _ => (rtg_name (i := 2) sc_read_link.nd rfl (by first | exact .inl rfl | exact .inr rfl))) (fun _ _ _ _ _ => rts_nil) (fun _ _ _ _ _ => (re_fn C_is_name (hr.mono (by decide)) rfl tk0 (rg_cons (r1_fro (re_var 2)) rg_nil) (glen_cons (glen_nil rfl)))))) ra_nil))))) (rg_cons (r1_len 1) rg_nil)) (glen_cons (glen_cons (glen_nil rfl)))))
 (rs_one (rs_ret (re_tup (rc_cons (re_ix hr.units (ro_var 0) (ro_of re_int)) (rc_cons (re_ix hr.units (ro_var 0) (ro_of re_int)) (rc_cons (re_ix hr.units (ro_var 0) (ro_of re_int)) (rc_cons (re_lcE (own := [("word", 2)]) rfl sc_read_link.nd (ri_seq (re_sl (ro_var 0) (rp_some re_int) rp_none)) (takes_of rfl rfl rfl rfl) rfl rfl (blkOk_by (own := [("word", 2)]) (by kernel_rfl)) (fun _ _ _ _ _ => (rtg_name (i := 2) sc_read_link.nd rfl (by first | exact .inl rfl | exact .inr rfl))) (fun _ _ _ _ _ => rts_nil) (fun _ _ _ _ _ V tk => (re_fn C_read_pair (hr.mono (by decide)) rfl tk (rg_cons (r1_fro (re_var 2)) (rg_cons (r1_len 1) rg_nil)) (glen_cons (glen_cons (glen_nil rfl)))))) rc_nil))))))))
/-! ### read_path -/
abbrev s_read_path : Stmt := top 30
theorem sc_read_path : FnScope ["words", "line"] ["words", "line"] (defScope s_read_path) := ⟨rfl, rfl, rfl, by decide +kernel, rfl, by decide +kernel, by decide +kernel⟩
theorem ok_read_path {P : Program} {w : World} {K : PySem.W.Frag} {mg : Str → Option Value} {base : Heap} {fa : Addr} {fd : FuncData} (T : Txt K mg) (G : L2.Fun K "read_path" "read_path" s_read_path fa fd) {F_require_form : Fn} {F_is_name : Fn} {F_is_number : Fn} (C_require_form : Callee P w K mg base 1 "require_form" 2 F_require_form) (C_is_name : Callee P w K mg base 1 "is_name" 1 F_is_name) (C_is_number : Callee P w K mg base 1 "is_number" 1 F_is_number) :
  FnOk P w K mg base (L2.CX P w) 2 fa fd ["words", "line"] (spOf ⟨K, mg⟩ 2 (runF 2 (b_read_path F_require_form F_is_name F_is_number))) :=
  Fun.okR (k := 1) G sc_read_path fun cdv A outer s H E hr =>
 (rs_cons (rs_expr (re_fn C_require_form (hr.mono (by decide)) rfl (takes_of rfl rfl rfl rfl) (rg_cons (r1_fro (re_and (re_cmp (o_eq hr.units) (ro_of (re_bi b_len rfl T.z_len (by kernel_rfl) (ra_cons (ro_var 0) ra_nil))) (ro_of re_int)) (re_one (re_cmp (o_eq hr.units) (ro_of (re_ix hr.units (ro_var 0) (ro_of re_int))) (ro_of re_str))))) (rg_cons (r1_len 1) rg_nil)) (glen_cons (glen_cons (glen_nil rfl)))))
 (rs_cons (rs_expr (re_fn C_require_form (hr.mono (by decide)) rfl (takes_of rfl rfl rfl rfl) (rg_cons (r1_fro (re_and (re_fn C_is_name (hr.mono (by decide)) rfl (takes_of rfl rfl rfl rfl) (rg_cons (r1_fro (re_ix hr.units (ro_var 0) (ro_of re_int))) rg_nil) (glen_cons (glen_nil rfl))) (re_and (re_fn C_is_name (hr.mono (by decide)) rfl (takes_of rfl rfl rfl rfl) (rg_cons (r1_fro (re_ix hr.units (ro_var 0) (ro_of re_int))) rg_nil) (glen_cons (glen_nil rfl))) (re_one (re_fn C_is_number (hr.mono (by decide)) rfl (takes_of rfl rfl rfl rfl) (rg_cons (r1_fro (re_ix hr.units (ro_var 0) (ro_of re_int))) rg_nil) (glen_cons (glen_nil rfl))))))) (rg_cons (r1_len 1) rg_nil)) (glen_cons (glen_cons (glen_nil rfl)))))
 (rs_one (rs_ret (re_tup (rc_cons (re_ix hr.units (ro_var 0) (ro_of re_int)) (rc_cons (re_ix hr.units (ro_var 0) (ro_of re_int)) (rc_cons (re_bty b_int rfl T.z_int (by kernel_rfl) (ra_cons (ro_of (re_ix hr.units (ro_var 0) (ro_of re_int))) ra_nil)) rc_nil))))))))
/-! ### parse_land -/
abbrev s_parse_land : Stmt := top 31
theorem sc_parse_land : FnScope ["text", "lines", "winds", "places", "links", "paths", "line", "words"] ["text"] (defScope s_parse_land) := ⟨rfl, rfl, rfl, by decide +kernel, rfl, by decide +kernel, by decide +kernel⟩
theorem ok_parse_land {P : Program} {w : World} {K : PySem.W.Frag} {mg : Str → Option Value} {base : Heap} {fa : Addr} {fd : FuncData} (T : Txt K mg) (G : L2.Fun K "parse_land" "parse_land" s_parse_land fa fd) {F_read_names : Fn} {F_read_link : Fn} {F_read_path : Fn} {F_Land_init : Fn} (C_read_names : Callee P w K mg base 2 "read_names" 3 F_read_names) (C_read_link : Callee P w K mg base 3 "read_link" 2 F_read_link) (C_read_path : Callee P w K mg base 2 "read_path" 2 F_read_path) (C_Land_init_Land_winds_places_links_paths : MakeK P w K mg base 4 0 4 ["winds", "places", "links", "paths"] aR_Land_winds_places_links_paths F_Land_init) :
  FnOk P w K mg base (L2.CX P w) 6 fa fd ["text"] (spOf ⟨K, mg⟩ 1 (runF 8 (b_parse_land F_read_names F_read_link F_read_path F_Land_init))) :=
  Fun.okR (k := 5) G sc_parse_land fun cdv A outer s H E hr =>
 (rs_cons (rs_setLc (own := [("line", 6)]) (i := 1) rfl sc_parse_land.nd rfl rfl (sw_true rfl rfl rfl (by decide +kernel)) (ri_seq (re_split (ro_var 0) (ro_of re_str))) (blkOk_by (own := [("line", 6)]) (by kernel_rfl)) (fun _ _ _ _ _ => (rtg_name (i := 6) sc_parse_land.nd rfl (by first | exact .inl rfl | exact .inr rfl))) (fun _ _ _ _ _ => rts_nil) (fun _ _ _ _ _ => (re_split (ro_var 6) (ro_of re_str))))
 (rs_cons (rs_set (i := 2) sc_parse_land.nd rfl (by first | exact .inl rfl | exact .inr rfl) (re_fn C_read_names (hr.mono (by decide)) rfl (takes_of rfl rfl rfl rfl) (rg_cons (r1_fro (re_var 1)) (rg_cons (r1_fro re_int) (rg_cons (r1_fro re_str) rg_nil))) (glen_cons (glen_cons (glen_cons (glen_nil rfl))))))
 (rs_cons (rs_set (i := 3) sc_parse_land.nd rfl (by first | exact .inl rfl | exact .inr rfl) (re_fn C_read_names (hr.mono (by decide)) rfl (takes_of rfl rfl rfl rfl) (rg_cons (r1_fro (re_var 1)) (rg_cons (r1_fro re_int) (rg_cons (r1_fro re_str) rg_nil))) (glen_cons (glen_cons (glen_cons (glen_nil rfl))))))
 (rs_cons (rs_set (i := 4) sc_parse_land.nd rfl (by first | exact .inl rfl | exact .inr rfl) (re_lst rc_nil))
 (rs_cons (rs_set (i := 5) sc_parse_land.nd rfl (by first | exact .inl rfl | exact .inr rfl) (re_lst rc_nil))
 (rs_cons (rs_for (passes_of rfl) rfl (ri_enK rfl T.z_enumerate (re_sl (ro_var 1) (rp_some re_int) rp_none)) (rtg_any rfl (rtgs_cons (rtg_name (i := 6) sc_parse_land.nd rfl (by first | exact .inl rfl | exact .inr rfl)) (rtgs_cons (rtg_name (i := 7) sc_parse_land.nd rfl (by first | exact .inl rfl | exact .inr rfl)) rtgs_nil))) (rs_one (rs_if (rt_w (rw_and (rt_cmp (o_eq hr.units) (ro_of (re_ix hr.units (ro_var 7) (ro_of re_int))) (ro_of re_str)) (rw_and1 (rt_cmp (o_eq hr.units) (ro_of (re_bi b_len rfl T.z_len (by kernel_rfl) (ra_cons (ro_var 5) ra_nil))) (ro_of re_int))))) (rs_one (rs_expr (re_lapp false (rl_var 4) (re_fn C_read_link (hr.mono (by decide)) rfl (takes_of rfl rfl rfl rfl) (rg_cons (r1_fro (re_var 7)) (rg_cons (r1_fro (re_var 6)) rg_nil)) (glen_cons (glen_cons (glen_nil rfl))))))) (rs_one (rs_expr (re_lapp false (rl_var 5) (re_fn C_read_path (hr.mono (by decide)) rfl (takes_of rfl rfl rfl rfl) (rg_cons (r1_fro (re_var 7)) (rg_cons (r1_fro (re_var 6)) rg_nil)) (glen_cons (glen_cons (glen_nil rfl))))))))))
 (rs_one (rs_ret (re_mk C_Land_init_Land_winds_places_links_paths (hr.mono (by decide)) rfl rfl (takes_of rfl rfl rfl rfl) (rgk_cons (r1_fro (re_var 2)) (rgk_cons (r1_fro (re_var 3)) (rgk_cons (r1_fro (re_var 4)) (rgk_cons (r1_fro (re_var 5)) rgk_nil)))) (glen_cons (glen_cons (glen_cons (glen_cons (glen_nil rfl))))))))))))))
/-! ### _law_same -/
abbrev s__law_same : Stmt := top 43
theorem sc__law_same : FnScope ["_law_land", "_law_due"] ["_law_land", "_law_due"] (defScope s__law_same) := ⟨rfl, rfl, rfl, by decide +kernel, rfl, by decide +kernel, by decide +kernel⟩
theorem ok__law_same {P : Program} {w : World} {K : PySem.W.Frag} {mg : Str → Option Value} {base : Heap} {fa : Addr} {fd : FuncData} (T : Txt K mg) (G : L2.Fun K "_law_same" "_law_same" s__law_same fa fd) :
  FnOk P w K mg base (L2.CX P w) 1 fa fd ["_law_land", "_law_due"] (spOf ⟨K, mg⟩ 2 (runF 2 (b__law_same))) :=
  Fun.okR (k := 0) G sc__law_same fun cdv A outer s H E hr =>
 (rs_one (rs_ret (re_cmp (o_eq hr.units) (ro_of (re_tup (rc_cons (re_fld (ks := [0]) (cls_cons T.f_Land cls_nil) (ro_var 0)) (rc_cons (re_fld (ks := [0, 2, 5]) (cls_cons T.f_Land (cls_cons T.f_Cut (cls_cons T.f_Order cls_nil))) (ro_var 0)) (rc_cons (re_fld (ks := [0]) (cls_cons T.f_Land cls_nil) (ro_var 0)) (rc_cons (re_fld (ks := [0]) (cls_cons T.f_Land cls_nil) (ro_var 0)) rc_nil)))))) (ro_var 1))))
/-! ### Land.link -/
abbrev s_Land_link : Stmt := sub 18 7
theorem sc_Land_link : FnScope ["self", "name", "link"] ["self", "name"] (defScope s_Land_link) := ⟨rfl, rfl, rfl, by decide +kernel, rfl, by decide +kernel, by decide +kernel⟩
theorem ok_Land_link {P : Program} {w : World} {K : PySem.W.Frag} {mg : Str → Option Value} {base : Heap} {fa : Addr} {fd : FuncData} (T : Txt K mg) (G : L2.Fun K "link" "Land.link" s_Land_link fa fd) :
  FnOk P w K mg base (L2.CX P w) 1 fa fd ["self", "name"] (spOf ⟨K, mg⟩ 2 (runF 3 (b_Land_link))) :=
  Fun.okR (k := 0) G sc_Land_link fun cdv A outer s H E hr =>
 (rs_cons (rs_for (passes_of rfl) rfl (ri_seq (re_fld (ks := [0]) (cls_cons T.f_Land cls_nil) (ro_var 0))) (rtg_name (i := 2) sc_Land_link.nd rfl (by first | exact .inl rfl | exact .inr rfl)) (rs_one (rs_if (rt_cmp (o_eq hr.units) (ro_of (re_ix hr.units (ro_var 2) (ro_of re_int))) (ro_var 1)) (rs_one (rs_ret (re_move 2))) rs_nil)))
 (rs_one (rs_never _)))
/-! ### Land.check_place -/
abbrev s_Land_check_place : Stmt := sub 18 5
theorem sc_Land_check_place : FnScope ["self", "place"] ["self", "place"] (defScope s_Land_check_place) := ⟨rfl, rfl, rfl, by decide +kernel, rfl, by decide +kernel, by decide +kernel⟩
theorem ok_Land_check_place {P : Program} {w : World} {K : PySem.W.Frag} {mg : Str → Option Value} {base : Heap} {fa : Addr} {fd : FuncData} (T : Txt K mg) (G : L2.Fun K "check_place" "Land.check_place" s_Land_check_place fa fd) :
  FnOk P w K mg base (L2.CX P w) 1 fa fd ["self", "place"] (spOf ⟨K, mg⟩ 2 (runF 2 (b_Land_check_place))) :=
  Fun.okR (k := 0) G sc_Land_check_place fun cdv A outer s H E hr =>
 (rs_one (rs_if (rt_cmp (o_notIn hr.units) (ro_var 1) (ro_of (re_fld (ks := [0, 2, 5]) (cls_cons T.f_Land (cls_cons T.f_Cut (cls_cons T.f_Order cls_nil))) (ro_var 0)))) (rs_one (rs_never _)) rs_nil))
/-! ### Land.walks_from -/
abbrev s_Land_walks_from : Stmt := sub 18 11
theorem sc_Land_walks_from : FnScope ["self", "place", "found", "one", "other", "minutes"] ["self", "place"] (defScope s_Land_walks_from) := ⟨rfl, rfl, rfl, by decide +kernel, rfl, by decide +kernel, by decide +kernel⟩
theorem ok_Land_walks_from {P : Program} {w : World} {K : PySem.W.Frag} {mg : Str → Option Value} {base : Heap} {fa : Addr} {fd : FuncData} (T : Txt K mg) (G : L2.Fun K "walks_from" "Land.walks_from" s_Land_walks_from fa fd) {F_Land_check_place : Fn} (C_Land_check_place : CalleeM P w K mg base 1 0 "check_place" 1 F_Land_check_place) :
  FnOk P w K mg base (L2.CX P w) 2 fa fd ["self", "place"] (spOf ⟨K, mg⟩ 2 (runF 6 (b_Land_walks_from F_Land_check_place))) :=
  Fun.okR (k := 1) G sc_Land_walks_from fun cdv A outer s H E hr =>
 (rs_cons (rs_expr (re_meA C_Land_check_place (hr.mono (by decide)) (takes_of rfl rfl rfl rfl) (r1_len 0) (rg_cons (r1_len 1) rg_nil) (glen_cons (glen_nil rfl)) (by decide)))
 (rs_cons (rs_set (i := 2) sc_Land_walks_from.nd rfl (by first | exact .inl rfl | exact .inr rfl) (re_lst rc_nil))
 (rs_cons (rs_for (passes_of rfl) rfl (ri_seq (re_fld (ks := [0]) (cls_cons T.f_Land cls_nil) (ro_var 0))) (rtg_any rfl (rtgs_cons (rtg_name (i := 3) sc_Land_walks_from.nd rfl (by first | exact .inl rfl | exact .inr rfl)) (rtgs_cons (rtg_name (i := 4) sc_Land_walks_from.nd rfl (by first | exact .inl rfl | exact .inr rfl)) (rtgs_cons (rtg_name (i := 5) sc_Land_walks_from.nd rfl (by first | exact .inl rfl | exact .inr rfl)) rtgs_nil)))) (rs_one (rs_if (rt_cmp (o_eq hr.units) (ro_var 1) (ro_var 3)) (rs_one (rs_expr (re_lapp false (rl_var 2) (re_tup (rc_cons (re_var 4) (rc_cons (re_var 5) rc_nil)))))) (rs_one (rs_if (rt_cmp (o_eq hr.units) (ro_var 1) (ro_var 4)) (rs_one (rs_expr (re_lapp false (rl_var 2) (re_tup (rc_cons (re_var 3) (rc_cons (re_var 5) rc_nil)))))) rs_nil)))))
 (rs_one (rs_ret (re_move 2))))))
/-! ### Land.minutes_between -/
abbrev s_Land_minutes_between : Stmt := sub 18 12
theorem sc_Land_minutes_between : FnScope ["self", "one", "other", "place", "minutes"] ["self", "one", "other"] (defScope s_Land_minutes_between) := ⟨rfl, rfl, rfl, by decide +kernel, rfl, by decide +kernel, by decide +kernel⟩
theorem ok_Land_minutes_between {P : Program} {w : World} {K : PySem.W.Frag} {mg : Str → Option Value} {base : Heap} {fa : Addr} {fd : FuncData} (T : Txt K mg) (G : L2.Fun K "minutes_between" "Land.minutes_between" s_Land_minutes_between fa fd) {F_Land_check_place : Fn} {F_Land_walks_from : Fn} (C_Land_check_place : CalleeM P w K mg base 1 0 "check_place" 1 F_Land_check_place) (C_Land_walks_from : CalleeM P w K mg base 2 0 "walks_from" 1 F_Land_walks_from) :
  FnOk P w K mg base (L2.CX P w) 3 fa fd ["self", "one", "other"] (spOf ⟨K, mg⟩ 3 (runF 5 (b_Land_minutes_between F_Land_check_place F_Land_walks_from))) :=
  Fun.okR (k := 2) G sc_Land_minutes_between fun cdv A outer s H E hr =>
 (rs_cons (rs_expr (re_meA C_Land_check_place (hr.mono (by decide)) (takes_of rfl rfl rfl rfl) (r1_len 0) (rg_cons (r1_len 1) rg_nil) (glen_cons (glen_nil rfl)) (by decide)))
 (rs_cons (rs_expr (re_meA C_Land_check_place (hr.mono (by decide)) (takes_of rfl rfl rfl rfl) (r1_len 0) (rg_cons (r1_len 2) rg_nil) (glen_cons (glen_nil rfl)) (by decide)))
 (rs_cons (rs_for (passes_of rfl) rfl (ri_seq (re_meA C_Land_walks_from (hr.mono (by decide)) (takes_of rfl rfl rfl rfl) (r1_len 0) (rg_cons (r1_len 1) rg_nil) (glen_cons (glen_nil rfl)) (by decide))) (rtg_any rfl (rtgs_cons (rtg_name (i := 3) sc_Land_minutes_between.nd rfl (by first | exact .inl rfl | exact .inr rfl)) (rtgs_cons (rtg_name (i := 4) sc_Land_minutes_between.nd rfl (by first | exact .inl rfl | exact .inr rfl)) rtgs_nil))) (rs_one (rs_if (rt_cmp (o_eq hr.units) (ro_var 3) (ro_var 2)) (rs_one (rs_ret (re_move 4))) rs_nil)))
 (rs_one (rs_ret re_non)))))
/-! ### times_words -/
abbrev s_times_words : Stmt := top 23
theorem sc_times_words : FnScope ["times", "words", "pair"] ["times"] (defScope s_times_words) := ⟨rfl, rfl, rfl, by decide +kernel, rfl, by decide +kernel, by decide +kernel⟩
theorem ok_times_words {P : Program} {w : World} {K : PySem.W.Frag} {mg : Str → Option Value} {base : Heap} {fa : Addr} {fd : FuncData} (T : Txt K mg) (G : L2.Fun K "times_words" "times_words" s_times_words fa fd) :
  FnOk P w K mg base (L2.CX P w) 1 fa fd ["times"] (spOf ⟨K, mg⟩ 1 (runF 3 (b_times_words))) :=
  Fun.okR (k := 0) G sc_times_words fun cdv A outer s H E hr =>
 (rs_cons (rs_set (i := 1) sc_times_words.nd rfl (by first | exact .inl rfl | exact .inr rfl) (re_lst rc_nil))
 (rs_cons (rs_for (passes_of rfl) rfl (ri_seq (re_var 0)) (rtg_name (i := 2) sc_times_words.nd rfl (by first | exact .inl rfl | exact .inr rfl)) (rs_one (rs_expr (re_lapp false (rl_var 1) (re_if (rt_cmp o_is (ro_var 2) (ro_of re_non)) (re_gc rfl T.c_SHUT) (re_fstr (.cons (re_fmt (re_ix hr.units (ro_var 2) (ro_of re_int))) (.cons re_str (.cons (re_fmt (re_ix hr.units (ro_var 2) (ro_of re_int))) .nil)))))))))
 (rs_one (rs_ret (re_move 1)))))
/-! ### format_land -/
abbrev s_format_land : Stmt := top 24
theorem sc_format_land : FnScope ["land", "rows", "name", "one", "other", "times", "minutes", "row"] ["land"] (defScope s_format_land) := ⟨rfl, rfl, rfl, by decide +kernel, rfl, by decide +kernel, by decide +kernel⟩
theorem ok_format_land {P : Program} {w : World} {K : PySem.W.Frag} {mg : Str → Option Value} {base : Heap} {fa : Addr} {fd : FuncData} (T : Txt K mg) (G : L2.Fun K "format_land" "format_land" s_format_land fa fd) {F_times_words : Fn} (C_times_words : Callee P w K mg base 1 "times_words" 1 F_times_words) :
  FnOk P w K mg base (L2.CX P w) 2 fa fd ["land"] (spOf ⟨K, mg⟩ 1 (runF 8 (b_format_land F_times_words))) :=
  Fun.okR (k := 1) G sc_format_land fun cdv A outer s H E hr =>
 (rs_cons (rs_set (i := 1) sc_format_land.nd rfl (by first | exact .inl rfl | exact .inr rfl) (re_lst (rc_cons (re_lst (rc_cons re_str (rc_star (re_fld (ks := [0]) (cls_cons T.f_Land cls_nil) (ro_var 0)) rc_nil))) (rc_cons (re_lst (rc_cons re_str (rc_star (re_fld (ks := [0, 2, 5]) (cls_cons T.f_Land (cls_cons T.f_Cut (cls_cons T.f_Order cls_nil))) (ro_var 0)) rc_nil))) rc_nil))))
 (rs_cons (rs_for (passes_of rfl) rfl (ri_seq (re_fld (ks := [0]) (cls_cons T.f_Land cls_nil) (ro_var 0))) (rtg_any rfl (rtgs_cons (rtg_name (i := 2) sc_format_land.nd rfl (by first | exact .inl rfl | exact .inr rfl)) (rtgs_cons (rtg_name (i := 3) sc_format_land.nd rfl (by first | exact .inl rfl | exact .inr rfl)) (rtgs_cons (rtg_name (i := 4) sc_format_land.nd rfl (by first | exact .inl rfl | exact .inr rfl)) (rtgs_cons (rtg_name (i := 5) sc_format_land.nd rfl (by first | exact .inl rfl | exact .inr rfl)) rtgs_nil))))) (rs_one (rs_expr (re_lapp false (rl_var 1) (re_lst (rc_cons re_str (rc_cons (re_var 2) (rc_cons (re_var 3) (rc_cons (re_var 4) (rc_star (re_fn C_times_words (hr.mono (by decide)) rfl (takes_of rfl rfl rfl rfl) (rg_cons (r1_fro (re_var 5)) rg_nil) (glen_cons (glen_nil rfl))) rc_nil))))))))))
 (rs_cons (rs_for (passes_of rfl) rfl (ri_seq (re_fld (ks := [0]) (cls_cons T.f_Land cls_nil) (ro_var 0))) (rtg_any rfl (rtgs_cons (rtg_name (i := 3) sc_format_land.nd rfl (by first | exact .inl rfl | exact .inr rfl)) (rtgs_cons (rtg_name (i := 4) sc_format_land.nd rfl (by first | exact .inl rfl | exact .inr rfl)) (rtgs_cons (rtg_name (i := 6) sc_format_land.nd rfl (by first | exact .inl rfl | exact .inr rfl)) rtgs_nil)))) (rs_one (rs_expr (re_lapp false (rl_var 1) (re_lst (rc_cons re_str (rc_cons (re_var 3) (rc_cons (re_var 4) (rc_cons (re_bty b_str rfl T.z_str (by kernel_rfl) (ra_cons (ro_var 6) ra_nil)) rc_nil)))))))))
 (rs_one (rs_ret (re_join (ro_of re_str) (ro_of (re_lc (own := [("row", 7)]) rfl sc_format_land.nd (ri_seq (re_var 1)) (blkOk_by (own := [("row", 7)]) (by kernel_rfl)) (fun _ _ _ _ _ => (rtg_name (i := 7) sc_format_land.nd rfl (by first | exact .inl rfl | exact .inr rfl))) (fun _ _ _ _ _ => rts_nil) (fun _ _ _ _ _ => (re_join (ro_of re_str) (ro_var 7)))))))))))
/-! ### law -/
abbrev s_law_k05 : Stmt := top 45
theorem sc_law_k05 : FnScope ["_law_script", "_law_numbers_here", "_law_parts_here", "_law_due", "_law_land", "_law_text", "_law_first", "_law_small", "_law_link", "_law_one", "_law_other", "_law_minutes"] ["_law_script"] (defScope s_law_k05) := ⟨rfl, rfl, rfl, by decide +kernel, rfl, by decide +kernel, by decide +kernel⟩
theorem ok_law_k05 {P : Program} {w : World} {K : PySem.W.Frag} {mg : Str → Option Value} {base : Heap} {fa : Addr} {fd : FuncData} (T : Txt K mg) (G : L2.Fun K "law" "law" s_law_k05 fa fd) {F__law_numbers : Fn} {F__law_parts : Fn} {F__law_frozen : Fn} {F__law_made : Fn} {F__law_lines : Fn} {F_parse_land : Fn} {F__law_same : Fn} {F_Land_link : Fn} {F_Land_minutes_between : Fn} {F_format_land : Fn} (C__law_numbers : Callee P w K mg base 2 "_law_numbers" 2 F__law_numbers) (C__law_parts : Callee P w K mg base 3 "_law_parts" 1 F__law_parts) (C__law_frozen : Callee P w K mg base 1 "_law_frozen" 1 F__law_frozen) (C__law_made : Callee P w K mg base 6 "_law_made" 1 F__law_made) (C__law_lines : Callee P w K mg base 1 "_law_lines" 1 F__law_lines) (C_parse_land : Callee P w K mg base 6 "parse_land" 1 F_parse_land) (C__law_same : Callee P w K mg base 1 "_law_same" 2 F__law_same) (C_Land_link : CalleeM P w K mg base 1 0 "link" 1 F_Land_link) (C_Land_minutes_between : CalleeM P w K mg base 3 0 "minutes_between" 2 F_Land_minutes_between) (C_format_land : Callee P w K mg base 2 "format_land" 1 F_format_land) :
  FnOk P w K mg base (L2.CX P w) 7 fa fd ["_law_script"] (spOf ⟨K, mg⟩ 1 (runF 12 (b_law_k05 F__law_numbers F__law_parts F__law_frozen F__law_made F__law_lines F_parse_land F__law_same F_Land_link F_Land_minutes_between F_format_land))) :=
  Fun.okR (k := 6) G sc_law_k05 fun cdv A outer s H E hr =>
 (rs_cons (rs_set (i := 1) sc_law_k05.nd rfl (by first | exact .inl rfl | exact .inr rfl) (re_fn C__law_numbers (hr.mono (by decide)) rfl (takes_of rfl rfl rfl rfl) (rg_cons (r1_len 0) (rg_cons (r1_fro re_int) rg_nil)) (glen_cons (glen_cons (glen_nil rfl)))))
 (rs_cons (rs_set (i := 2) sc_law_k05.nd rfl (by first | exact .inl rfl | exact .inr rfl) (re_fn C__law_parts (hr.mono (by decide)) rfl (takes_of rfl rfl rfl rfl) (rg_cons (r1_fro (re_var 1)) rg_nil) (glen_cons (glen_nil rfl))))
 (rs_cons (rs_set (i := 3) sc_law_k05.nd rfl (by first | exact .inl rfl | exact .inr rfl) (re_fn C__law_frozen (hr.mono (by decide)) rfl (takes_of rfl rfl rfl rfl) (rg_cons (r1_fro (re_var 2)) rg_nil) (glen_cons (glen_nil rfl))))
 (rs_cons (rs_set (i := 4) sc_law_k05.nd rfl (by first | exact .inl rfl | exact .inr rfl) (re_fn C__law_made (hr.mono (by decide)) rfl (takes_of rfl rfl rfl rfl) (rg_cons (r1_fro (re_var 2)) rg_nil) (glen_cons (glen_nil rfl))))
 (rs_cons (rs_set (i := 5) sc_law_k05.nd rfl (by first | exact .inl rfl | exact .inr rfl) (re_join (ro_of re_str) (ro_of (re_fn C__law_lines (hr.mono (by decide)) rfl (takes_of rfl rfl rfl rfl) (rg_cons (r1_fro (re_var 2)) rg_nil) (glen_cons (glen_nil rfl))))))
 (rs_cons (rs_set (i := 6) sc_law_k05.nd rfl (by first | exact .inl rfl | exact .inr rfl) (re_fn C_parse_land (hr.mono (by decide)) rfl (takes_of rfl rfl rfl rfl) (rg_cons (r1_fro (re_var 5)) rg_nil) (glen_cons (glen_nil rfl))))
 (rs_cons (rs_set (i := 7) sc_law_k05.nd rfl (by first | exact .inl rfl | exact .inr rfl) (re_fn C_parse_land (hr.mono (by decide)) rfl (takes_of rfl rfl rfl rfl) (rg_cons (r1_fro re_str) rg_nil) (glen_cons (glen_nil rfl))))
 (rs_cons (rs_if (rt_w (rw_or (rt_not (rt_val (re_fn C__law_same (hr.mono (by decide)) rfl (takes_of rfl rfl rfl rfl) (rg_cons (r1_fro (re_var 6)) (rg_cons (r1_fro (re_var 3)) rg_nil)) (glen_cons (glen_cons (glen_nil rfl)))))) (rw_or1 (rt_not (rt_val (re_fn C__law_same (hr.mono (by decide)) rfl (takes_of rfl rfl rfl rfl) (rg_cons (r1_fro (re_var 7)) (rg_cons (r1_fro (re_tup (rc_cons (re_tup (rc_cons re_str rc_nil)) (rc_cons (re_tup (rc_cons re_str rc_nil)) (rc_cons (re_tup rc_nil) (rc_cons (re_tup rc_nil) rc_nil)))))) rg_nil)) (glen_cons (glen_cons (glen_nil rfl))))))))) (rs_one (rs_ret re_bl)) rs_nil)
 (rs_cons (rs_for (passes_of rfl) rfl (ri_seq (re_ix hr.units (ro_var 3) (ro_of re_int))) (rtg_name (i := 8) sc_law_k05.nd rfl (by first | exact .inl rfl | exact .inr rfl)) (rs_one (rs_if (rt_cmp (o_ne hr.units) (ro_of (re_meA C_Land_link (hr.mono (by decide)) (takes_of rfl rfl rfl rfl) (r1_fro (re_var 6)) (rg_cons (r1_fro (re_ix hr.units (ro_var 8) (ro_of re_int))) rg_nil) (glen_cons (glen_nil rfl)) (by decide))) (ro_var 8)) (rs_one (rs_ret re_bl)) rs_nil)))
 (rs_cons (rs_for (passes_of rfl) rfl (ri_seq (re_ix hr.units (ro_var 3) (ro_of re_int))) (rtg_any rfl (rtgs_cons (rtg_name (i := 9) sc_law_k05.nd rfl (by first | exact .inl rfl | exact .inr rfl)) (rtgs_cons (rtg_name (i := 10) sc_law_k05.nd rfl (by first | exact .inl rfl | exact .inr rfl)) (rtgs_cons (rtg_name (i := 11) sc_law_k05.nd rfl (by first | exact .inl rfl | exact .inr rfl)) rtgs_nil)))) (rs_one (rs_if (rt_cmp (o_ne hr.units) (ro_of (re_meA C_Land_minutes_between (hr.mono (by decide)) (takes_of rfl rfl rfl rfl) (r1_fro (re_var 6)) (rg_cons (r1_fro (re_var 10)) (rg_cons (r1_fro (re_var 9)) rg_nil)) (glen_cons (glen_cons (glen_nil rfl))) (by decide))) (ro_var 11)) (rs_one (rs_ret re_bl)) rs_nil)))
 (rs_one (rs_ret (re_and (re_cmp (o_eq hr.units) (ro_of (re_fn C_format_land (hr.mono (by decide)) rfl (takes_of rfl rfl rfl rfl) (rg_cons (r1_fro (re_var 6)) rg_nil) (glen_cons (glen_nil rfl)))) (ro_var 5)) (re_and (re_cmp (o_eq hr.units) (ro_of (re_fn C_format_land (hr.mono (by decide)) rfl (takes_of rfl rfl rfl rfl) (rg_cons (r1_fro (re_var 4)) rg_nil) (glen_cons (glen_nil rfl)))) (ro_var 5)) (re_one (re_fn C__law_same (hr.mono (by decide)) rfl (takes_of rfl rfl rfl rfl) (rg_cons (r1_fro (re_fn C_parse_land (hr.mono (by decide)) rfl (takes_of rfl rfl rfl rfl) (rg_cons (r1_fro (re_var 5)) rg_nil) (glen_cons (glen_nil rfl)))) (rg_cons (r1_fro (re_var 3)) rg_nil)) (glen_cons (glen_cons (glen_nil rfl)))))))))))))))))))
end L_k05
set_option autoImplicit true
set_option Elab.async false
set_option linter.all false
set_option maxRecDepth 10000
namespace L_k05
open PySem PySem.Spec PyProof.Rows L2 R S VL VPA
open TL (tl len_tl ext_tl tl_append)
def vS : LandV := ⟨["a"], ["b"], [], []⟩
theorem small_ok : LandOk ["a"] ["b"] [] [] := ⟨by decide, by decide, by decide, by decide, by decide, by simp, by simp, by decide, by simp, by simp⟩
theorem parse_land_ok {W P : List Str} {ls : List Lk} {ps : List Pt} (h : LandOk W P ls ps) : M_parse_land [(.fro, .str (textOf ⟨W, P, ls, ps⟩))] = .ok (.obj [.fro, .fro, .fro, .fro], landD ⟨W, P, ls, ps⟩) := by
  have e := land_made false false false false false h
  rw [lkD_f] at e
  simp only [sq_f] at e
  rw [parse_ok h.form]
  simp only [e]
  rfl
theorem law_true : ∀ ns : List Int, ns.length ≤ 63 → ∃ s, runF 12 (b_law_k05 M__law_numbers M__law_parts M__law_frozen M__law_made M__law_lines M_parse_land M__law_same M_Land_link M_Land_minutes_between M_format_land) [scr ns] = .ok (s, .bl true) := by
  intro ns hn
  obtain ⟨xs, hx, e1⟩ := nums ns 150 hn (by decide)
  obtain ⟨W, P, ls, ps, h, e2⟩ := parts_ok hx (by decide) (by decide) (.inl rfl)
  have e3 := frozen_ok h
  have e4 := made_ok h
  have e5 := lines_ok h
  have e6 := format_ok (.inl rfl) h
  have e7 := same_ok (.inl rfl) (.inl rfl) (⟨W, P, ls, ps⟩ : LandV)
  have e8 := parse_land_ok h
  have e9 : M_parse_land [(.fro, .str (Str.ofString "winds a\nplaces b"))] = .ok (.obj [.fro, .fro, .fro, .fro], landD vS) := parse_land_ok small_ok
  have e10 : M__law_same [(.fro, landD vS), (.fro, .tup [.tup [.str (Str.ofString "a")], .tup [.str (Str.ofString "b")], .tup [], .tup []])] = .ok (.fro, .bl true) := same_ok (.inl rfl) (.inl rfl) vS
  have e1' : M__law_numbers [(.fro, .lst (ns.map .int)), (.fro, .int 150)] = .ok (.con .fro, .lst (xs.map .int)) := e1
  obtain ⟨z1, z2⟩ := text_size h
  have hj : Txt.join (Str.ofString "\n") (linesOf ⟨W, P, ls, ps⟩) = textOf ⟨W, P, ls, ps⟩ := rfl
  have pq : pEq (.str (textOf ⟨W, P, ls, ps⟩)) (.str (textOf ⟨W, P, ls, ps⟩)) = some (.bl true) := pEq_self (okD_str 60 _)
  generalize hv : (⟨W, P, ls, ps⟩ : LandV) = v at e3 e4 e5 e6 e7 e8 z1 z2 hj pq
  have vl : v.links = ls := by rw [← hv]
  have vp : v.paths = ps := by rw [← hv]
  have vP : v.places = P := by rw [← hv]
  generalize textOf v = T at e6 e8 z2 hj pq
  generalize hE : (fun a b c d : Option Rv => ([some (.fro, .lst (ns.map .int)), some (.fro, .lst (xs.map .int)), some (.fro, partsD W P ls ps), some (.fro, frozenD v), some (.obj [.fro, .fro, .fro, .fro], landD v), some (.fro, .str T), some (.fro, landD v), some (.fro, landD vS), a, b, c, d] : En)) = E
  have i2 : ∀ s t, ixD (s, frozenD v) (t, .int 2) = some (.tup (v.links.map linkD)) := fun _ _ => rfl
  have i3 : ∀ s t, ixD (s, frozenD v) (t, .int 3) = some (.tup (v.paths.map pathD)) := fun _ _ => rfl
  -- the links
  have lp1 : ∀ (l : List Lk) (t : Option Rv), (∀ x ∈ l, x ∈ ls) → ∃ u, loopF (gNm 8) (b_law_k05_L1 M_Land_link) (l.map linkD) (E t none none none) = .ok .nx (E u none none none) := by
    intro l
    induction l with
    | nil => exact fun t _ => ⟨t, rfl⟩
    | cons x l ih =>
      intro t hl
      obtain ⟨u, e⟩ := ih (some (.fro, linkD x)) fun y hy => hl y (List.mem_cons_of_mem _ hy)
      refine ⟨u, ?_⟩
      have lk := link_at (s := .fro) (.inl rfl) v (l := x) (n := x.name) (by rw [vl]; exact find_link h.ln x (hl x List.mem_cons_self))
      have ix : ∀ s t, ixD (s, linkD x) (t, .int 0) = some (.str x.name) := fun _ _ => rfl
      have cl : clsOf (landD v) = some 0 := rfl
      have ne : pNe (linkD x) (linkD x) = some (.bl false) := pNe_self (okD_link x 56)
      have b : b_law_k05_L1 M_Land_link (E (some (.fro, linkD x)) none none none) = .ok .nx (E (some (.fro, linkD x)) none none none) := by
        rw [← hE]
        simp [b_law_k05_L1, ix, cl, lk, ne]
      have tg : gNm 8 (.fro, linkD x) (E t none none none) = some (E (some (.fro, linkD x)) none none none) := by rw [← hE]; rfl
      show opt (gNm 8 (.fro, linkD x) (E t none none none)) (fun ε => (b_law_k05_L1 M_Land_link ε).bind (flK (loopF _ _ (l.map linkD)))) = _
      rw [tg, opt_some, b, bind_ok, flK_nx, e]
  -- the paths
  have lp2 : ∀ (l : List Pt) (t a b c : Option Rv), (∀ x ∈ l, x ∈ ps) → ∃ a' b' c', loopF (gAny (gC1 (gNm 9) (gC1 (gNm 10) (gC1 (gNm 11) gN0))) 3) (b_law_k05_L2 M_Land_minutes_between) (l.map pathD) (E t a b c) = .ok .nx (E t a' b' c') := by
    intro l
    induction l with
    | nil => exact fun t a b c _ => ⟨a, b, c, rfl⟩
    | cons x l ih =>
      intro t a b c hl
      obtain ⟨a', b', c', e⟩ := ih t (some (.fro, .str x.one)) (some (.fro, .str x.other)) (some (.fro, .int x.minutes)) fun y hy => hl y (List.mem_cons_of_mem _ hy)
      refine ⟨a', b', c', ?_⟩
      have hx' := hl x List.mem_cons_self
      have o := h.pt x hx'
      have mn := minutes_ok (s := .fro) (.inl rfl) (v := v) (x := x.other) (y := x.one) (by rw [vP]; exact o.1.2.1) (by rw [vP]; exact o.1.1) (by rw [vp]; have := h.p60; omega)
      rw [vp, find_path h.pt h.pn x hx'] at mn
      have cl : clsOf (landD v) = some 0 := rfl
      have b1 : b_law_k05_L2 M_Land_minutes_between (E t (some (.fro, .str x.one)) (some (.fro, .str x.other)) (some (.fro, .int x.minutes))) = .ok .nx (E t (some (.fro, .str x.one)) (some (.fro, .str x.other)) (some (.fro, .int x.minutes))) := by
        rw [← hE]
        simp [b_law_k05_L2, cl, mn, minD]
      have tg : gAny (gC1 (gNm 9) (gC1 (gNm 10) (gC1 (gNm 11) gN0))) 3 (.fro, pathD x) (E t a b c) = some (E t (some (.fro, .str x.one)) (some (.fro, .str x.other)) (some (.fro, .int x.minutes))) := by rw [← hE]; rfl
      show opt (gAny (gC1 (gNm 9) (gC1 (gNm 10) (gC1 (gNm 11) gN0))) 3 (.fro, pathD x) (E t a b c)) (fun ε => (b_law_k05_L2 M_Land_minutes_between ε).bind (flK (loopF _ _ (l.map pathD)))) = _
      rw [tg, opt_some, b1, bind_ok, flK_nx, e]
  obtain ⟨u1, q1⟩ := lp1 ls none fun x hx => hx
  obtain ⟨u2, u3, u4, q2⟩ := lp2 ps u1 none none none fun x hx => hx
  refine ⟨.fro, run_rt ?_⟩
  refine seq_ex [some (.fro, .lst (ns.map .int)), some (.con .fro, .lst (xs.map .int)), none, none, none, none, none, none, none, none, none, none] (by simp [env0, scr, e1']) ?_
  refine seq_ex [some (.fro, .lst (ns.map .int)), some (.fro, .lst (xs.map .int)), some (.con .fro, partsD W P ls ps), none, none, none, none, none, none, none, none, none] (by simp [e2]) ?_
  refine seq_ex [some (.fro, .lst (ns.map .int)), some (.fro, .lst (xs.map .int)), some (.fro, partsD W P ls ps), some (.fro, frozenD v), none, none, none, none, none, none, none, none] (by simp [e3]) ?_
  refine seq_ex [some (.fro, .lst (ns.map .int)), some (.fro, .lst (xs.map .int)), some (.fro, partsD W P ls ps), some (.fro, frozenD v), some (.obj [.fro, .fro, .fro, .fro], landD v), none, none, none, none, none, none, none] (by simp [e4]) ?_
  refine seq_ex [some (.fro, .lst (ns.map .int)), some (.fro, .lst (xs.map .int)), some (.fro, partsD W P ls ps), some (.fro, frozenD v), some (.obj [.fro, .fro, .fro, .fro], landD v), some (.fro, .str T), none, none, none, none, none, none] (by
    simp [e5, strsD_map]
    rw [if_pos z1, hj]
    rfl) ?_
  refine seq_ex [some (.fro, .lst (ns.map .int)), some (.fro, .lst (xs.map .int)), some (.fro, partsD W P ls ps), some (.fro, frozenD v), some (.obj [.fro, .fro, .fro, .fro], landD v), some (.fro, .str T), some (.obj [.fro, .fro, .fro, .fro], landD v), none, none, none, none, none] (by simp [e8]) ?_
  refine seq_ex [some (.fro, .lst (ns.map .int)), some (.fro, .lst (xs.map .int)), some (.fro, partsD W P ls ps), some (.fro, frozenD v), some (.obj [.fro, .fro, .fro, .fro], landD v), some (.fro, .str T), some (.obj [.fro, .fro, .fro, .fro], landD v), some (.obj [.fro, .fro, .fro, .fro], landD vS), none, none, none, none] (by simp [e9]) ?_
  refine seq_ex (E none none none none) (by rw [← hE]; simp [e7, e10]) ?_
  refine seq_ex (E u1 none none none) (by
    rw [sFor_def]
    have : iSeq (sIx (oVar 3) (oOf (eLit (.int 2)))) (E none none none none) = .ok (ls.map linkD) (E none none none none) := by
      rw [← hE]
      simp [i2, vl]
    show (iSeq (sIx (oVar 3) (oOf (eLit (.int 2)))) (E none none none none)).bind _ = _
    rw [this, bind_ok, q1]) ?_
  refine seq_ex (E u1 u2 u3 u4) (by
    rw [sFor_def]
    have : iSeq (sIx (oVar 3) (oOf (eLit (.int 3)))) (E u1 none none none) = .ok (ps.map pathD) (E u1 none none none) := by
      rw [← hE]
      simp [i3, vp]
    show (iSeq (sIx (oVar 3) (oOf (eLit (.int 3)))) (E u1 none none none)).bind _ = _
    rw [this, bind_ok, q2]) ?_
  rw [← hE]
  exact ⟨[some (.fro, .lst (ns.map .int)), some (.fro, .lst (xs.map .int)), some (.fro, partsD W P ls ps), some (.fro, frozenD v), some (.fro, landD v), some (.fro, .str T), some (.fro, landD v), some (.fro, landD vS), u1, u2, u3, u4], by simp [e6, e7, e8, pq]⟩
end L_k05
set_option autoImplicit true
set_option Elab.async false
set_option linter.all false
set_option maxRecDepth 100000
namespace L_k05
open PySem PySem.Spec PyProof.Rows L2 R S
set_option maxHeartbeats 0 in
theorem all_mk {l : PySem.W.OpenLaw} {w : World} {K : PySem.W.Frag} {h : Heap} {mg : Str → Option Value} {fa : Addr} (X : K.In h) (G : h.Ns mainGlobals mg) (hfa : mg "law" = some (.ref fa))
    (nC_Cut : PySem.W.nsIn K mainGlobals "Cut" = some none)
    (nC_Order : PySem.W.nsIn K mainGlobals "Order" = some none)
    {C_Land : Addr}
    (aC_Land : PySem.W.nsIn K mainGlobals "Land" = some (some (.ref C_Land)))
    (pg_Land : PySem.W.plainGet K C_Land Str.empty = true)
    (hd_Land : PySem.W.hasDictIn K C_Land = true)
    (po_Land : PySem.W.plainOver K C_Land = true)
    (sa_Land : PySem.W.findIn K (.ref C_Land) "__setattr__" = some (some (.builtin "object.__setattr__")))
    (nf_Land_winds : PySem.W.findIn K (.ref C_Land) "winds" = some none)
    (nf_Land_places : PySem.W.findIn K (.ref C_Land) "places" = some none)
    (nf_Land_links : PySem.W.findIn K (.ref C_Land) "links" = some none)
    (nf_Land_paths : PySem.W.findIn K (.ref C_Land) "paths" = some none)
    (mk_Land : PySem.W.makesIn K C_Land = true)
    (kc_Land : PySem.W.keepIn K (.ref C_Land) = true)
    {E_InvalidLand : Addr}
    (aE_InvalidLand : PySem.W.nsIn K mainGlobals "InvalidLand" = some (some (.ref E_InvalidLand)))
    (kE_InvalidLand : PySem.W.keepIn K (.ref E_InvalidLand) = true)
    (xE_InvalidLand : PySem.W.excIn K E_InvalidLand [.type "ValueError", .type "Exception", .type "BaseException", .type "object"] "ValueError.__new__" = true)
    (sE_InvalidLand : PySem.W.subIn K (.ref E_InvalidLand) (.type "BaseException") = some true)
    (tE_InvalidLand : PySem.W.typeIn K (.ref E_InvalidLand) = some (.type "type"))
    {f0 : Addr} {od0 an0 : Option Addr} {sl0 : Array (Option Value)} {oc0 kV0 dc0 pm0 cd0 ct0 : Value}
    (a0 : PySem.W.nsIn K mainGlobals "_law_row" = some (some (.ref f0)))
    (l0 : K.lookup f0 = some ⟨oc0, od0, .func (PySem.W.fnOf "_law_row" "_law_row" (defArgs s__law_row) (defBody s__law_row) (defScope s__law_row) .none kV0 dc0 pm0 an0 cd0 ct0), sl0⟩)
    (c0 : PySem.W.codeIn K cd0 "_law_row" = true)
    (k0 : PySem.W.keepIn K (.ref f0) = true)
    {f1 : Addr} {od1 an1 : Option Addr} {sl1 : Array (Option Value)} {oc1 kV1 dc1 pm1 cd1 ct1 : Value}
    (a1 : PySem.W.nsIn K mainGlobals "_law_numbers" = some (some (.ref f1)))
    (l1 : K.lookup f1 = some ⟨oc1, od1, .func (PySem.W.fnOf "_law_numbers" "_law_numbers" (defArgs s__law_numbers) (defBody s__law_numbers) (defScope s__law_numbers) .none kV1 dc1 pm1 an1 cd1 ct1), sl1⟩)
    (c1 : PySem.W.codeIn K cd1 "_law_numbers" = true)
    (k1 : PySem.W.keepIn K (.ref f1) = true)
    {f2 : Addr} {od2 an2 : Option Addr} {sl2 : Array (Option Value)} {oc2 kV2 dc2 pm2 cd2 ct2 : Value}
    (a2 : PySem.W.nsIn K mainGlobals "_law_names" = some (some (.ref f2)))
    (l2 : K.lookup f2 = some ⟨oc2, od2, .func (PySem.W.fnOf "_law_names" "_law_names" (defArgs s__law_names) (defBody s__law_names) (defScope s__law_names) .none kV2 dc2 pm2 an2 cd2 ct2), sl2⟩)
    (c2 : PySem.W.codeIn K cd2 "_law_names" = true)
    (k2 : PySem.W.keepIn K (.ref f2) = true)
    {f3 : Addr} {od3 an3 : Option Addr} {sl3 : Array (Option Value)} {oc3 kV3 dc3 pm3 cd3 ct3 : Value}
    (a3 : PySem.W.nsIn K mainGlobals "_law_count" = some (some (.ref f3)))
    (l3 : K.lookup f3 = some ⟨oc3, od3, .func (PySem.W.fnOf "_law_count" "_law_count" (defArgs s__law_count) (defBody s__law_count) (defScope s__law_count) .none kV3 dc3 pm3 an3 cd3 ct3), sl3⟩)
    (c3 : PySem.W.codeIn K cd3 "_law_count" = true)
    (k3 : PySem.W.keepIn K (.ref f3) = true)
    {f4 : Addr} {od4 an4 : Option Addr} {sl4 : Array (Option Value)} {oc4 kV4 dc4 pm4 cd4 ct4 : Value}
    (a4 : PySem.W.nsIn K mainGlobals "_law_pick" = some (some (.ref f4)))
    (l4 : K.lookup f4 = some ⟨oc4, od4, .func (PySem.W.fnOf "_law_pick" "_law_pick" (defArgs s__law_pick) (defBody s__law_pick) (defScope s__law_pick) .none kV4 dc4 pm4 an4 cd4 ct4), sl4⟩)
    (c4 : PySem.W.codeIn K cd4 "_law_pick" = true)
    (k4 : PySem.W.keepIn K (.ref f4) = true)
    {f5 : Addr} {od5 an5 : Option Addr} {sl5 : Array (Option Value)} {oc5 kV5 dc5 pm5 cd5 ct5 : Value}
    (a5 : PySem.W.nsIn K mainGlobals "_law_times" = some (some (.ref f5)))
    (l5 : K.lookup f5 = some ⟨oc5, od5, .func (PySem.W.fnOf "_law_times" "_law_times" (defArgs s__law_times) (defBody s__law_times) (defScope s__law_times) .none kV5 dc5 pm5 an5 cd5 ct5), sl5⟩)
    (c5 : PySem.W.codeIn K cd5 "_law_times" = true)
    (k5 : PySem.W.keepIn K (.ref f5) = true)
    {f6 : Addr} {od6 an6 : Option Addr} {sl6 : Array (Option Value)} {oc6 kV6 dc6 pm6 cd6 ct6 : Value}
    (a6 : PySem.W.nsIn K mainGlobals "_law_paths" = some (some (.ref f6)))
    (l6 : K.lookup f6 = some ⟨oc6, od6, .func (PySem.W.fnOf "_law_paths" "_law_paths" (defArgs s__law_paths) (defBody s__law_paths) (defScope s__law_paths) .none kV6 dc6 pm6 an6 cd6 ct6), sl6⟩)
    (c6 : PySem.W.codeIn K cd6 "_law_paths" = true)
    (k6 : PySem.W.keepIn K (.ref f6) = true)
    {f7 : Addr} {od7 an7 : Option Addr} {sl7 : Array (Option Value)} {oc7 kV7 dc7 pm7 cd7 ct7 : Value}
    (a7 : PySem.W.nsIn K mainGlobals "_law_parts" = some (some (.ref f7)))
    (l7 : K.lookup f7 = some ⟨oc7, od7, .func (PySem.W.fnOf "_law_parts" "_law_parts" (defArgs s__law_parts) (defBody s__law_parts) (defScope s__law_parts) .none kV7 dc7 pm7 an7 cd7 ct7), sl7⟩)
    (c7 : PySem.W.codeIn K cd7 "_law_parts" = true)
    (k7 : PySem.W.keepIn K (.ref f7) = true)
    {f8 : Addr} {od8 an8 : Option Addr} {sl8 : Array (Option Value)} {oc8 kV8 dc8 pm8 cd8 ct8 : Value}
    (a8 : PySem.W.nsIn K mainGlobals "_law_frozen" = some (some (.ref f8)))
    (l8 : K.lookup f8 = some ⟨oc8, od8, .func (PySem.W.fnOf "_law_frozen" "_law_frozen" (defArgs s__law_frozen) (defBody s__law_frozen) (defScope s__law_frozen) .none kV8 dc8 pm8 an8 cd8 ct8), sl8⟩)
    (c8 : PySem.W.codeIn K cd8 "_law_frozen" = true)
    (k8 : PySem.W.keepIn K (.ref f8) = true)
    {f9 : Addr} {od9 an9 : Option Addr} {sl9 : Array (Option Value)} {oc9 kV9 dc9 pm9 cd9 ct9 : Value}
    (a9 : PySem.W.nsIn K mainGlobals "require" = some (some (.ref f9)))
    (l9 : K.lookup f9 = some ⟨oc9, od9, .func (PySem.W.fnOf "require" "require" (defArgs s_require) (defBody s_require) (defScope s_require) .none kV9 dc9 pm9 an9 cd9 ct9), sl9⟩)
    (c9 : PySem.W.codeIn K cd9 "require" = true)
    (k9 : PySem.W.keepIn K (.ref f9) = true)
    {f10 : Addr} {od10 an10 : Option Addr} {sl10 : Array (Option Value)} {oc10 kV10 dc10 pm10 cd10 ct10 : Value}
    (a10 : PySem.W.nsIn K mainGlobals "is_name" = some (some (.ref f10)))
    (l10 : K.lookup f10 = some ⟨oc10, od10, .func (PySem.W.fnOf "is_name" "is_name" (defArgs s_is_name) (defBody s_is_name) (defScope s_is_name) .none kV10 dc10 pm10 an10 cd10 ct10), sl10⟩)
    (c10 : PySem.W.codeIn K cd10 "is_name" = true)
    (k10 : PySem.W.keepIn K (.ref f10) = true)
    {f11 : Addr} {od11 an11 : Option Addr} {sl11 : Array (Option Value)} {oc11 kV11 dc11 pm11 cd11 ct11 : Value}
    (a11 : PySem.W.nsIn K mainGlobals "are_different" = some (some (.ref f11)))
    (l11 : K.lookup f11 = some ⟨oc11, od11, .func (PySem.W.fnOf "are_different" "are_different" (defArgs s_are_different) (defBody s_are_different) (defScope s_are_different) .none kV11 dc11 pm11 an11 cd11 ct11), sl11⟩)
    (c11 : PySem.W.codeIn K cd11 "are_different" = true)
    (k11 : PySem.W.keepIn K (.ref f11) = true)
    {f12 : Addr} {od12 an12 : Option Addr} {sl12 : Array (Option Value)} {oc12 kV12 dc12 pm12 cd12 ct12 : Value}
    (a12 : PySem.W.findIn K (.ref C_Land) "are_ends" = some (some (.ref f12)))
    (i12 : PySem.W.isFn K (.ref f12) = true)
    (l12 : K.lookup f12 = some ⟨oc12, od12, .func (PySem.W.fnOf "are_ends" "Land.are_ends" (defArgs s_Land_are_ends) (defBody s_Land_are_ends) (defScope s_Land_are_ends) .none kV12 dc12 pm12 an12 cd12 ct12), sl12⟩)
    (c12 : PySem.W.codeIn K cd12 "Land.are_ends" = true)
    (k12 : PySem.W.keepIn K (.ref f12) = true)
    {f13 : Addr} {od13 an13 : Option Addr} {sl13 : Array (Option Value)} {oc13 kV13 dc13 pm13 cd13 ct13 : Value}
    (a13 : PySem.W.nsIn K mainGlobals "checked_times" = some (some (.ref f13)))
    (l13 : K.lookup f13 = some ⟨oc13, od13, .func (PySem.W.fnOf "checked_times" "checked_times" (defArgs s_checked_times) (defBody s_checked_times) (defScope s_checked_times) .none kV13 dc13 pm13 an13 cd13 ct13), sl13⟩)
    (c13 : PySem.W.codeIn K cd13 "checked_times" = true)
    (k13 : PySem.W.keepIn K (.ref f13) = true)
    {f14 : Addr} {od14 an14 : Option Addr} {sl14 : Array (Option Value)} {oc14 kV14 dc14 pm14 cd14 ct14 : Value}
    (a14 : PySem.W.findIn K (.ref C_Land) "checked_link" = some (some (.ref f14)))
    (i14 : PySem.W.isFn K (.ref f14) = true)
    (l14 : K.lookup f14 = some ⟨oc14, od14, .func (PySem.W.fnOf "checked_link" "Land.checked_link" (defArgs s_Land_checked_link) (defBody s_Land_checked_link) (defScope s_Land_checked_link) .none kV14 dc14 pm14 an14 cd14 ct14), sl14⟩)
    (c14 : PySem.W.codeIn K cd14 "Land.checked_link" = true)
    (k14 : PySem.W.keepIn K (.ref f14) = true)
    {f15 : Addr} {od15 an15 : Option Addr} {sl15 : Array (Option Value)} {oc15 kV15 dc15 pm15 cd15 ct15 : Value}
    {p15 : Addr} {rest15 : List Value}
    (a15 : PySem.W.findIn K (.ref C_Land) "link_names" = some (some (.ref p15)))
    (pa15 : PySem.W.specialIn K (.ref p15) "__get__" = some (some (.builtin "property.__get__")))
    (pb15 : PySem.W.takesIn K (.ref p15) = some true)
    (pc15 : PySem.W.recIn K p15 "property" = some (.ref f15 :: rest15))
    (l15 : K.lookup f15 = some ⟨oc15, od15, .func (PySem.W.fnOf "link_names" "Land.link_names" (defArgs s_Land_link_names) (defBody s_Land_link_names) (defScope s_Land_link_names) .none kV15 dc15 pm15 an15 cd15 ct15), sl15⟩)
    (c15 : PySem.W.codeIn K cd15 "Land.link_names" = true)
    (k15 : PySem.W.keepIn K (.ref f15) = true)
    {f16 : Addr} {od16 an16 : Option Addr} {sl16 : Array (Option Value)} {oc16 kV16 dc16 pm16 cd16 ct16 : Value}
    (a16 : PySem.W.findIn K (.ref C_Land) "checked_path" = some (some (.ref f16)))
    (i16 : PySem.W.isFn K (.ref f16) = true)
    (l16 : K.lookup f16 = some ⟨oc16, od16, .func (PySem.W.fnOf "checked_path" "Land.checked_path" (defArgs s_Land_checked_path) (defBody s_Land_checked_path) (defScope s_Land_checked_path) .none kV16 dc16 pm16 an16 cd16 ct16), sl16⟩)
    (c16 : PySem.W.codeIn K cd16 "Land.checked_path" = true)
    (k16 : PySem.W.keepIn K (.ref f16) = true)
    {f17 : Addr} {od17 an17 : Option Addr} {sl17 : Array (Option Value)} {oc17 dc17 pm17 cd17 ct17 : Value}
    (a17 : PySem.W.findIn K (.ref C_Land) "__init__" = some (some (.ref f17)))
    (i17 : PySem.W.isFn K (.ref f17) = true)
    {KD17 : Addr}
    (l17 : K.lookup f17 = some ⟨oc17, od17, .func (PySem.W.fnOf "__init__" "Land.__init__" (defArgs s_Land_init) (defBody s_Land_init) (defScope s_Land_init) .none (.ref KD17) dc17 pm17 an17 cd17 ct17), sl17⟩)
    (c17 : PySem.W.codeIn K cd17 "Land.__init__" = true)
    (k17 : PySem.W.keepIn K (.ref f17) = true)
    {T17_links : Addr} {n17_links : Nat} {ts17_links : Array (Option Value)}
    (w17_links : PySem.W.nsIn K KD17 "links" = some (some (.ref T17_links)))
    (y17_links : K.lookup T17_links = some ⟨.type "tuple", none, .seq #[] n17_links, ts17_links⟩)
    {T17_paths : Addr} {n17_paths : Nat} {ts17_paths : Array (Option Value)}
    (w17_paths : PySem.W.nsIn K KD17 "paths" = some (some (.ref T17_paths)))
    (y17_paths : K.lookup T17_paths = some ⟨.type "tuple", none, .seq #[] n17_paths, ts17_paths⟩)
    {f18 : Addr} {od18 an18 : Option Addr} {sl18 : Array (Option Value)} {oc18 kV18 dc18 pm18 cd18 ct18 : Value}
    (a18 : PySem.W.nsIn K mainGlobals "_law_made" = some (some (.ref f18)))
    (l18 : K.lookup f18 = some ⟨oc18, od18, .func (PySem.W.fnOf "_law_made" "_law_made" (defArgs s__law_made) (defBody s__law_made) (defScope s__law_made) .none kV18 dc18 pm18 an18 cd18 ct18), sl18⟩)
    (c18 : PySem.W.codeIn K cd18 "_law_made" = true)
    (k18 : PySem.W.keepIn K (.ref f18) = true)
    {f19 : Addr} {od19 an19 : Option Addr} {sl19 : Array (Option Value)} {oc19 kV19 dc19 pm19 cd19 ct19 : Value}
    (a19 : PySem.W.nsIn K mainGlobals "_law_lines" = some (some (.ref f19)))
    (l19 : K.lookup f19 = some ⟨oc19, od19, .func (PySem.W.fnOf "_law_lines" "_law_lines" (defArgs s__law_lines) (defBody s__law_lines) (defScope s__law_lines) .none kV19 dc19 pm19 an19 cd19 ct19), sl19⟩)
    (c19 : PySem.W.codeIn K cd19 "_law_lines" = true)
    (k19 : PySem.W.keepIn K (.ref f19) = true)
    {f20 : Addr} {od20 an20 : Option Addr} {sl20 : Array (Option Value)} {oc20 kV20 dc20 pm20 cd20 ct20 : Value}
    (a20 : PySem.W.nsIn K mainGlobals "require_form" = some (some (.ref f20)))
    (l20 : K.lookup f20 = some ⟨oc20, od20, .func (PySem.W.fnOf "require_form" "require_form" (defArgs s_require_form) (defBody s_require_form) (defScope s_require_form) .none kV20 dc20 pm20 an20 cd20 ct20), sl20⟩)
    (c20 : PySem.W.codeIn K cd20 "require_form" = true)
    (k20 : PySem.W.keepIn K (.ref f20) = true)
    {f21 : Addr} {od21 an21 : Option Addr} {sl21 : Array (Option Value)} {oc21 kV21 dc21 pm21 cd21 ct21 : Value}
    (a21 : PySem.W.nsIn K mainGlobals "read_names" = some (some (.ref f21)))
    (l21 : K.lookup f21 = some ⟨oc21, od21, .func (PySem.W.fnOf "read_names" "read_names" (defArgs s_read_names) (defBody s_read_names) (defScope s_read_names) .none kV21 dc21 pm21 an21 cd21 ct21), sl21⟩)
    (c21 : PySem.W.codeIn K cd21 "read_names" = true)
    (k21 : PySem.W.keepIn K (.ref f21) = true)
    {f22 : Addr} {od22 an22 : Option Addr} {sl22 : Array (Option Value)} {oc22 kV22 dc22 pm22 cd22 ct22 : Value}
    (a22 : PySem.W.nsIn K mainGlobals "is_number" = some (some (.ref f22)))
    (l22 : K.lookup f22 = some ⟨oc22, od22, .func (PySem.W.fnOf "is_number" "is_number" (defArgs s_is_number) (defBody s_is_number) (defScope s_is_number) .none kV22 dc22 pm22 an22 cd22 ct22), sl22⟩)
    (c22 : PySem.W.codeIn K cd22 "is_number" = true)
    (k22 : PySem.W.keepIn K (.ref f22) = true)
    {f23 : Addr} {od23 an23 : Option Addr} {sl23 : Array (Option Value)} {oc23 kV23 dc23 pm23 cd23 ct23 : Value}
    (a23 : PySem.W.nsIn K mainGlobals "read_pair" = some (some (.ref f23)))
    (l23 : K.lookup f23 = some ⟨oc23, od23, .func (PySem.W.fnOf "read_pair" "read_pair" (defArgs s_read_pair) (defBody s_read_pair) (defScope s_read_pair) .none kV23 dc23 pm23 an23 cd23 ct23), sl23⟩)
    (c23 : PySem.W.codeIn K cd23 "read_pair" = true)
    (k23 : PySem.W.keepIn K (.ref f23) = true)
    {f24 : Addr} {od24 an24 : Option Addr} {sl24 : Array (Option Value)} {oc24 kV24 dc24 pm24 cd24 ct24 : Value}
    (a24 : PySem.W.nsIn K mainGlobals "read_link" = some (some (.ref f24)))
    (l24 : K.lookup f24 = some ⟨oc24, od24, .func (PySem.W.fnOf "read_link" "read_link" (defArgs s_read_link) (defBody s_read_link) (defScope s_read_link) .none kV24 dc24 pm24 an24 cd24 ct24), sl24⟩)
    (c24 : PySem.W.codeIn K cd24 "read_link" = true)
    (k24 : PySem.W.keepIn K (.ref f24) = true)
    {f25 : Addr} {od25 an25 : Option Addr} {sl25 : Array (Option Value)} {oc25 kV25 dc25 pm25 cd25 ct25 : Value}
    (a25 : PySem.W.nsIn K mainGlobals "read_path" = some (some (.ref f25)))
    (l25 : K.lookup f25 = some ⟨oc25, od25, .func (PySem.W.fnOf "read_path" "read_path" (defArgs s_read_path) (defBody s_read_path) (defScope s_read_path) .none kV25 dc25 pm25 an25 cd25 ct25), sl25⟩)
    (c25 : PySem.W.codeIn K cd25 "read_path" = true)
    (k25 : PySem.W.keepIn K (.ref f25) = true)
    {f26 : Addr} {od26 an26 : Option Addr} {sl26 : Array (Option Value)} {oc26 kV26 dc26 pm26 cd26 ct26 : Value}
    (a26 : PySem.W.nsIn K mainGlobals "parse_land" = some (some (.ref f26)))
    (l26 : K.lookup f26 = some ⟨oc26, od26, .func (PySem.W.fnOf "parse_land" "parse_land" (defArgs s_parse_land) (defBody s_parse_land) (defScope s_parse_land) .none kV26 dc26 pm26 an26 cd26 ct26), sl26⟩)
    (c26 : PySem.W.codeIn K cd26 "parse_land" = true)
    (k26 : PySem.W.keepIn K (.ref f26) = true)
    {f27 : Addr} {od27 an27 : Option Addr} {sl27 : Array (Option Value)} {oc27 kV27 dc27 pm27 cd27 ct27 : Value}
    (a27 : PySem.W.nsIn K mainGlobals "_law_same" = some (some (.ref f27)))
    (l27 : K.lookup f27 = some ⟨oc27, od27, .func (PySem.W.fnOf "_law_same" "_law_same" (defArgs s__law_same) (defBody s__law_same) (defScope s__law_same) .none kV27 dc27 pm27 an27 cd27 ct27), sl27⟩)
    (c27 : PySem.W.codeIn K cd27 "_law_same" = true)
    (k27 : PySem.W.keepIn K (.ref f27) = true)
    {f28 : Addr} {od28 an28 : Option Addr} {sl28 : Array (Option Value)} {oc28 kV28 dc28 pm28 cd28 ct28 : Value}
    (a28 : PySem.W.findIn K (.ref C_Land) "link" = some (some (.ref f28)))
    (i28 : PySem.W.isFn K (.ref f28) = true)
    (l28 : K.lookup f28 = some ⟨oc28, od28, .func (PySem.W.fnOf "link" "Land.link" (defArgs s_Land_link) (defBody s_Land_link) (defScope s_Land_link) .none kV28 dc28 pm28 an28 cd28 ct28), sl28⟩)
    (c28 : PySem.W.codeIn K cd28 "Land.link" = true)
    (k28 : PySem.W.keepIn K (.ref f28) = true)
    {f29 : Addr} {od29 an29 : Option Addr} {sl29 : Array (Option Value)} {oc29 kV29 dc29 pm29 cd29 ct29 : Value}
    (a29 : PySem.W.findIn K (.ref C_Land) "check_place" = some (some (.ref f29)))
    (i29 : PySem.W.isFn K (.ref f29) = true)
    (l29 : K.lookup f29 = some ⟨oc29, od29, .func (PySem.W.fnOf "check_place" "Land.check_place" (defArgs s_Land_check_place) (defBody s_Land_check_place) (defScope s_Land_check_place) .none kV29 dc29 pm29 an29 cd29 ct29), sl29⟩)
    (c29 : PySem.W.codeIn K cd29 "Land.check_place" = true)
    (k29 : PySem.W.keepIn K (.ref f29) = true)
    {f30 : Addr} {od30 an30 : Option Addr} {sl30 : Array (Option Value)} {oc30 kV30 dc30 pm30 cd30 ct30 : Value}
    (a30 : PySem.W.findIn K (.ref C_Land) "walks_from" = some (some (.ref f30)))
    (i30 : PySem.W.isFn K (.ref f30) = true)
    (l30 : K.lookup f30 = some ⟨oc30, od30, .func (PySem.W.fnOf "walks_from" "Land.walks_from" (defArgs s_Land_walks_from) (defBody s_Land_walks_from) (defScope s_Land_walks_from) .none kV30 dc30 pm30 an30 cd30 ct30), sl30⟩)
    (c30 : PySem.W.codeIn K cd30 "Land.walks_from" = true)
    (k30 : PySem.W.keepIn K (.ref f30) = true)
    {f31 : Addr} {od31 an31 : Option Addr} {sl31 : Array (Option Value)} {oc31 kV31 dc31 pm31 cd31 ct31 : Value}
    (a31 : PySem.W.findIn K (.ref C_Land) "minutes_between" = some (some (.ref f31)))
    (i31 : PySem.W.isFn K (.ref f31) = true)
    (l31 : K.lookup f31 = some ⟨oc31, od31, .func (PySem.W.fnOf "minutes_between" "Land.minutes_between" (defArgs s_Land_minutes_between) (defBody s_Land_minutes_between) (defScope s_Land_minutes_between) .none kV31 dc31 pm31 an31 cd31 ct31), sl31⟩)
    (c31 : PySem.W.codeIn K cd31 "Land.minutes_between" = true)
    (k31 : PySem.W.keepIn K (.ref f31) = true)
    {f32 : Addr} {od32 an32 : Option Addr} {sl32 : Array (Option Value)} {oc32 kV32 dc32 pm32 cd32 ct32 : Value}
    (a32 : PySem.W.nsIn K mainGlobals "times_words" = some (some (.ref f32)))
    (l32 : K.lookup f32 = some ⟨oc32, od32, .func (PySem.W.fnOf "times_words" "times_words" (defArgs s_times_words) (defBody s_times_words) (defScope s_times_words) .none kV32 dc32 pm32 an32 cd32 ct32), sl32⟩)
    (c32 : PySem.W.codeIn K cd32 "times_words" = true)
    (k32 : PySem.W.keepIn K (.ref f32) = true)
    {f33 : Addr} {od33 an33 : Option Addr} {sl33 : Array (Option Value)} {oc33 kV33 dc33 pm33 cd33 ct33 : Value}
    (a33 : PySem.W.nsIn K mainGlobals "format_land" = some (some (.ref f33)))
    (l33 : K.lookup f33 = some ⟨oc33, od33, .func (PySem.W.fnOf "format_land" "format_land" (defArgs s_format_land) (defBody s_format_land) (defScope s_format_land) .none kV33 dc33 pm33 an33 cd33 ct33), sl33⟩)
    (c33 : PySem.W.codeIn K cd33 "format_land" = true)
    (k33 : PySem.W.keepIn K (.ref f33) = true)
    {f34 : Addr} {od34 an34 : Option Addr} {sl34 : Array (Option Value)} {oc34 kV34 dc34 pm34 cd34 ct34 : Value}
    (a34 : PySem.W.nsIn K mainGlobals "law" = some (some (.ref f34)))
    (l34 : K.lookup f34 = some ⟨oc34, od34, .func (PySem.W.fnOf "law" "law" (defArgs s_law_k05) (defBody s_law_k05) (defScope s_law_k05) .none kV34 dc34 pm34 an34 cd34 ct34), sl34⟩)
    (c34 : PySem.W.codeIn K cd34 "law" = true)
    (k34 : PySem.W.keepIn K (.ref f34) = true)
    (z_abs : PySem.W.nsIn K mainGlobals "abs" = some none)
    (z_all : PySem.W.nsIn K mainGlobals "all" = some none)
    (z_enumerate : PySem.W.nsIn K mainGlobals "enumerate" = some none)
    (z_int : PySem.W.nsIn K mainGlobals "int" = some none)
    (z_len : PySem.W.nsIn K mainGlobals "len" = some none)
    (z_list : PySem.W.nsIn K mainGlobals "list" = some none)
    (z_max : PySem.W.nsIn K mainGlobals "max" = some none)
    (z_min : PySem.W.nsIn K mainGlobals "min" = some none)
    (z_range : PySem.W.nsIn K mainGlobals "range" = some none)
    (z_sorted : PySem.W.nsIn K mainGlobals "sorted" = some none)
    (z_str : PySem.W.nsIn K mainGlobals "str" = some none)
    (z_tuple : PySem.W.nsIn K mainGlobals "tuple" = some none)
    {t_MOST_WINDS : Tok} (u_MOST_WINDS : PySem.W.nsIn K mainGlobals "MOST_WINDS" = some (some (.int (4) t_MOST_WINDS)))
    {t_MOST_NAME_CHARS : Tok} (u_MOST_NAME_CHARS : PySem.W.nsIn K mainGlobals "MOST_NAME_CHARS" = some (some (.int (12) t_MOST_NAME_CHARS)))
    {t_NAME_CHARS : Tok} (u_NAME_CHARS : PySem.W.nsIn K mainGlobals "NAME_CHARS" = some (some (.str "abcdefghijklmnopqrstuvwxyz0123456789" t_NAME_CHARS)))
    {t_MOST_PLACES : Tok} (u_MOST_PLACES : PySem.W.nsIn K mainGlobals "MOST_PLACES" = some (some (.int (24) t_MOST_PLACES)))
    {t_MOST_LINKS : Tok} (u_MOST_LINKS : PySem.W.nsIn K mainGlobals "MOST_LINKS" = some (some (.int (60) t_MOST_LINKS)))
    {t_MOST_MINUTES : Tok} (u_MOST_MINUTES : PySem.W.nsIn K mainGlobals "MOST_MINUTES" = some (some (.int (1000) t_MOST_MINUTES)))
    {t_MOST_PATHS : Tok} (u_MOST_PATHS : PySem.W.nsIn K mainGlobals "MOST_PATHS" = some (some (.int (60) t_MOST_PATHS)))
    {t_SHUT : Tok} (u_SHUT : PySem.W.nsIn K mainGlobals "SHUT" = some (some (.str "-" t_SHUT)))
    {t_MOST_DIGITS : Tok} (u_MOST_DIGITS : PySem.W.nsIn K mainGlobals "MOST_DIGITS" = some (some (.int (6) t_MOST_DIGITS)))
    {t_DIGITS : Tok} (u_DIGITS : PySem.W.nsIn K mainGlobals "DIGITS" = some (some (.str "0123456789" t_DIGITS)))
    : ∃ fd : FuncData, (∀ (s : Shared) (v : Value), BindsTo s fd ⟨[v], []⟩ [("_law_script", v)]) ∧ ∀ base : Heap, K.In base → base.Ns mainGlobals mg → FnOk l.prog w K mg base (L2.CX l.prog w) 7 fa fd ["_law_script"] (spOf ⟨K, mg⟩ 1 (runF 12 (b_law_k05 M__law_numbers M__law_parts M__law_frozen M__law_made M__law_lines M_parse_land M__law_same M_Land_link M_Land_minutes_between M_format_land))) := by
  have e := hfa.symm.trans (PySem.W.mg_of X G a34)
  cases e
  have T : Txt K mg := { z_abs := PySem.W.mg_none_of X G z_abs, z_all := PySem.W.mg_none_of X G z_all, z_enumerate := PySem.W.mg_none_of X G z_enumerate, z_int := PySem.W.mg_none_of X G z_int, z_len := PySem.W.mg_none_of X G z_len, z_list := PySem.W.mg_none_of X G z_list, z_max := PySem.W.mg_none_of X G z_max, z_min := PySem.W.mg_none_of X G z_min, z_range := PySem.W.mg_none_of X G z_range, z_sorted := PySem.W.mg_none_of X G z_sorted, z_str := PySem.W.mg_none_of X G z_str, z_tuple := PySem.W.mg_none_of X G z_tuple, c_MOST_WINDS := gc_int X G u_MOST_WINDS, c_MOST_NAME_CHARS := gc_int X G u_MOST_NAME_CHARS, c_NAME_CHARS := gc_str X G u_NAME_CHARS, c_MOST_PLACES := gc_int X G u_MOST_PLACES, c_MOST_LINKS := gc_int X G u_MOST_LINKS, c_MOST_MINUTES := gc_int X G u_MOST_MINUTES, c_MOST_PATHS := gc_int X G u_MOST_PATHS, c_SHUT := gc_str X G u_SHUT, c_MOST_DIGITS := gc_int X G u_MOST_DIGITS, c_DIGITS := gc_str X G u_DIGITS, f_Land := cls_mk (PySem.W.mg_of X G aC_Land) ⟨pg_Land, hd_Land, po_Land, sa_Land⟩ (noattr_cons nf_Land_winds (noattr_cons nf_Land_places (noattr_cons nf_Land_links (noattr_cons nf_Land_paths (noattr_nil))))), f_Cut := cls_no (PySem.W.mg_none_of X G nC_Cut), f_Order := cls_no (PySem.W.mg_none_of X G nC_Order), e_InvalidLand := ⟨E_InvalidLand, PySem.W.mg_of X G aE_InvalidLand, kE_InvalidLand, xE_InvalidLand, sE_InvalidLand, tE_InvalidLand⟩ }
  have F0 := fun_mk (st := s__law_row) l0 c0 k0
  have F1 := fun_mk (st := s__law_numbers) l1 c1 k1
  have F2 := fun_mk (st := s__law_names) l2 c2 k2
  have F3 := fun_mk (st := s__law_count) l3 c3 k3
  have F4 := fun_mk (st := s__law_pick) l4 c4 k4
  have F5 := fun_mk (st := s__law_times) l5 c5 k5
  have F6 := fun_mk (st := s__law_paths) l6 c6 k6
  have F7 := fun_mk (st := s__law_parts) l7 c7 k7
  have F8 := fun_mk (st := s__law_frozen) l8 c8 k8
  have F9 := fun_mk (st := s_require) l9 c9 k9
  have F10 := fun_mk (st := s_is_name) l10 c10 k10
  have F11 := fun_mk (st := s_are_different) l11 c11 k11
  have F12 := fun_mk (st := s_Land_are_ends) l12 c12 k12
  have F13 := fun_mk (st := s_checked_times) l13 c13 k13
  have F14 := fun_mk (st := s_Land_checked_link) l14 c14 k14
  have F15 := fun_mk (st := s_Land_link_names) l15 c15 k15
  have F16 := fun_mk (st := s_Land_checked_path) l16 c16 k16
  have F17 : FunD K "__init__" "Land.__init__" (defArgs s_Land_init) (defBody s_Land_init) (defScope s_Land_init) [] [("links", V.ref T17_links), ("paths", V.ref T17_paths)] f17 _ := ⟨⟨_, _, _, _, _, _, _, _, _, _, rfl, l17, c17, .inl ⟨rfl, rfl⟩, .inr ⟨KD17, rfl, kw_cons w17_links (kw_cons w17_paths (kw_nil))⟩⟩, k17⟩
  have F18 := fun_mk (st := s__law_made) l18 c18 k18
  have F19 := fun_mk (st := s__law_lines) l19 c19 k19
  have F20 := fun_mk (st := s_require_form) l20 c20 k20
  have F21 := fun_mk (st := s_read_names) l21 c21 k21
  have F22 := fun_mk (st := s_is_number) l22 c22 k22
  have F23 := fun_mk (st := s_read_pair) l23 c23 k23
  have F24 := fun_mk (st := s_read_link) l24 c24 k24
  have F25 := fun_mk (st := s_read_path) l25 c25 k25
  have F26 := fun_mk (st := s_parse_land) l26 c26 k26
  have F27 := fun_mk (st := s__law_same) l27 c27 k27
  have F28 := fun_mk (st := s_Land_link) l28 c28 k28
  have F29 := fun_mk (st := s_Land_check_place) l29 c29 k29
  have F30 := fun_mk (st := s_Land_walks_from) l30 c30 k30
  have F31 := fun_mk (st := s_Land_minutes_between) l31 c31 k31
  have F32 := fun_mk (st := s_times_words) l32 c32 k32
  have F33 := fun_mk (st := s_format_land) l33 c33 k33
  have F34 := fun_mk (st := s_law_k05) l34 c34 k34
  refine ⟨PySem.W.fnOf "law" "law" (defArgs s_law_k05) (defBody s_law_k05) (defScope s_law_k05) .none kV34 dc34 pm34 an34 cd34 ct34, fun s v => .of_eq rfl, fun base _ _ => ?_⟩
  have D__law_row : Callee l.prog w K mg base 1 "_law_row" 2 M__law_row := callee_mk X G a0 k0 (F0.binds (ps := ["_law_cell", "_law_many"]) fun _ _ _ _ _ _ us hl => match us, hl with | [_, _], _ => rfl) rfl (ok__law_row T F0) le__law_row
  have D__law_numbers : Callee l.prog w K mg base 2 "_law_numbers" 2 M__law_numbers := callee_mk X G a1 k1 (F1.binds (ps := ["_law_script", "_law_many"]) fun _ _ _ _ _ _ us hl => match us, hl with | [_, _], _ => rfl) rfl (ok__law_numbers T F1 D__law_row) le__law_numbers
  have D__law_names : Callee l.prog w K mg base 1 "_law_names" 3 M__law_names := callee_mk X G a2 k2 (F2.binds (ps := ["_law_numbers_here", "_law_at", "_law_many"]) fun _ _ _ _ _ _ us hl => match us, hl with | [_, _, _], _ => rfl) rfl (ok__law_names T F2) le__law_names
  have D__law_count : Callee l.prog w K mg base 1 "_law_count" 3 M__law_count := callee_mk X G a3 k3 (F3.binds (ps := ["_law_number", "_law_least", "_law_most"]) fun _ _ _ _ _ _ us hl => match us, hl with | [_, _, _], _ => rfl) rfl (ok__law_count T F3) le__law_count
  have D__law_pick : Callee l.prog w K mg base 1 "_law_pick" 2 M__law_pick := callee_mk X G a4 k4 (F4.binds (ps := ["_law_numbers_here", "_law_k"]) fun _ _ _ _ _ _ us hl => match us, hl with | [_, _], _ => rfl) rfl (ok__law_pick T F4) le__law_pick
  have D__law_times : Callee l.prog w K mg base 2 "_law_times" 3 M__law_times := callee_mk X G a5 k5 (F5.binds (ps := ["_law_numbers_here", "_law_k", "_law_many"]) fun _ _ _ _ _ _ us hl => match us, hl with | [_, _, _], _ => rfl) rfl (ok__law_times T F5 D__law_pick) le__law_times
  have D__law_paths : Callee l.prog w K mg base 2 "_law_paths" 4 M__law_paths := callee_mk X G a6 k6 (F6.binds (ps := ["_law_numbers_here", "_law_k", "_law_places", "_law_many"]) fun _ _ _ _ _ _ us hl => match us, hl with | [_, _, _, _], _ => rfl) rfl (ok__law_paths T F6 D__law_pick) le__law_paths
  have D__law_parts : Callee l.prog w K mg base 3 "_law_parts" 1 M__law_parts := callee_mk X G a7 k7 (F7.binds (ps := ["_law_numbers_here"]) fun _ _ _ _ _ _ us hl => match us, hl with | [_], _ => rfl) rfl (ok__law_parts T F7 D__law_names D__law_count D__law_pick D__law_times D__law_paths) le__law_parts
  have D__law_frozen : Callee l.prog w K mg base 1 "_law_frozen" 1 M__law_frozen := callee_mk X G a8 k8 (F8.binds (ps := ["_law_parts_here"]) fun _ _ _ _ _ _ us hl => match us, hl with | [_], _ => rfl) rfl (ok__law_frozen T F8) le__law_frozen
  have D_require : Callee l.prog w K mg base 1 "require" 1 M_require := callee_mk X G a9 k9 (F9.binds (ps := ["holds"]) fun _ _ _ _ _ _ us hl => match us, hl with | [_], _ => rfl) rfl (ok_require T F9) le_require
  have D_is_name : Callee l.prog w K mg base 1 "is_name" 1 M_is_name := callee_mk X G a10 k10 (F10.binds (ps := ["text"]) fun _ _ _ _ _ _ us hl => match us, hl with | [_], _ => rfl) rfl (ok_is_name T F10) le_is_name
  have D_are_different : Callee l.prog w K mg base 1 "are_different" 1 M_are_different := callee_mk X G a11 k11 (F11.binds (ps := ["parts"]) fun _ _ _ _ _ _ us hl => match us, hl with | [_], _ => rfl) rfl (ok_are_different T F11) le_are_different
  have D_Land_are_ends : CalleeM l.prog w K mg base 1 0 "are_ends" 2 M_Land_are_ends := ⟨C_Land, f12, _, _, PySem.W.mg_of X G aC_Land, ⟨pg_Land, hd_Land, po_Land, sa_Land⟩, ⟨a12, i12, k12⟩, rfl, (ok_Land_are_ends T F12).imp (spOf_le le_Land_are_ends), F12.binds (ps := ["self", "one", "other"]) fun _ _ _ _ _ _ us hl => match us, hl with | [_, _, _], _ => rfl⟩
  have D_checked_times : Callee l.prog w K mg base 2 "checked_times" 2 M_checked_times := callee_mk X G a13 k13 (F13.binds (ps := ["times", "many"]) fun _ _ _ _ _ _ us hl => match us, hl with | [_, _], _ => rfl) rfl (ok_checked_times T F13 D_require) le_checked_times
  have D_Land_checked_link : CalleeM l.prog w K mg base 3 0 "checked_link" 1 M_Land_checked_link := ⟨C_Land, f14, _, _, PySem.W.mg_of X G aC_Land, ⟨pg_Land, hd_Land, po_Land, sa_Land⟩, ⟨a14, i14, k14⟩, rfl, (ok_Land_checked_link T F14 D_require D_is_name D_Land_are_ends D_checked_times).imp (spOf_le le_Land_checked_link), F14.binds (ps := ["self", "link"]) fun _ _ _ _ _ _ us hl => match us, hl with | [_, _], _ => rfl⟩
  have D_Land_link_names : CalleeP l.prog w K mg base 1 0 "link_names" M_Land_link_names := ⟨C_Land, p15, f15, _, _, PySem.W.mg_of X G aC_Land, ⟨pg_Land, hd_Land, po_Land, sa_Land⟩, ⟨a15, pa15, pb15, ⟨_, pc15⟩⟩, (ok_Land_link_names T F15).imp (spOf_le le_Land_link_names), F15.binds (ps := ["self"]) fun _ _ _ _ _ _ us hl => match us, hl with | [_], _ => rfl⟩
  have D_Land_checked_path : CalleeM l.prog w K mg base 2 0 "checked_path" 1 M_Land_checked_path := ⟨C_Land, f16, _, _, PySem.W.mg_of X G aC_Land, ⟨pg_Land, hd_Land, po_Land, sa_Land⟩, ⟨a16, i16, k16⟩, rfl, (ok_Land_checked_path T F16 D_require D_Land_are_ends).imp (spOf_le le_Land_checked_path), F16.binds (ps := ["self", "path"]) fun _ _ _ _ _ _ us hl => match us, hl with | [_, _], _ => rfl⟩
  have B_Land_init_Land_winds_places_links_paths : ∃ mv : List Value, KBn K _ ["self", "winds", "places", "links", "paths"] 1 ["winds", "places", "links", "paths"] _ _ := FunD.kbinds0 F17 1 ["winds", "places", "links", "paths"] ([] : List (Str × V)) (fun us mv ws => us ++ (pick 0 ws ++ (pick 1 ws ++ (pick 2 ws ++ (pick 3 ws))))) (by simp) (by simp) (fun r1 r2 r3 => r1.append ((vals_pick 0 r3).append ((vals_pick 1 r3).append ((vals_pick 2 r3).append (vals_pick 3 r3))))) (fun D doc pm an cdv ct us mv ws h1 h2 h3 => match us, mv, ws, h1, h2, h3 with | [_], [], [_, _, _, _], _, _, _ => rfl)
  have D_Land_init_Land_winds_places_links_paths : MakeK l.prog w K mg base 4 0 4 ["winds", "places", "links", "paths"] aR_Land_winds_places_links_paths M_Land_init := by
    obtain ⟨mv, hB⟩ := B_Land_init_Land_winds_places_links_paths
    refine ⟨C_Land, f17, _, _, _, fun zs => pick 0 zs ++ (pick 1 zs ++ (pick 2 zs ++ (pick 3 zs))), _, PySem.W.mg_of X G aC_Land, ⟨mk_Land, a17, i17, kc_Land⟩, (ok_Land_init T F17 D_require D_is_name D_are_different D_Land_checked_link D_Land_link_names D_Land_checked_path).imp (spIni_le le_Land_init), hB, fun v zs => rfl, ⟨fun zs h => match zs, h with | [_, _, _, _], _ => rfl, fun rs h => match rs, h with | [_, _, _, _], _ => rfl, fun cx H L zs rs h1 h2 ok => match zs, rs, h1, h2, ok with | [z0, z1, z2, z3], [r0, r1, r2, r3], _, _, ok => ?_⟩⟩
    exact ok
  have D__law_made : Callee l.prog w K mg base 6 "_law_made" 1 M__law_made := callee_mk X G a18 k18 (F18.binds (ps := ["_law_parts_here"]) fun _ _ _ _ _ _ us hl => match us, hl with | [_], _ => rfl) rfl (ok__law_made T F18 D_Land_init_Land_winds_places_links_paths) le__law_made
  have D__law_lines : Callee l.prog w K mg base 1 "_law_lines" 1 M__law_lines := callee_mk X G a19 k19 (F19.binds (ps := ["_law_parts_here"]) fun _ _ _ _ _ _ us hl => match us, hl with | [_], _ => rfl) rfl (ok__law_lines T F19) le__law_lines
  have D_require_form : Callee l.prog w K mg base 1 "require_form" 2 M_require_form := callee_mk X G a20 k20 (F20.binds (ps := ["holds", "line"]) fun _ _ _ _ _ _ us hl => match us, hl with | [_, _], _ => rfl) rfl (ok_require_form T F20) le_require_form
  have D_read_names : Callee l.prog w K mg base 2 "read_names" 3 M_read_names := callee_mk X G a21 k21 (F21.binds (ps := ["lines", "number", "word"]) fun _ _ _ _ _ _ us hl => match us, hl with | [_, _, _], _ => rfl) rfl (ok_read_names T F21 D_require_form D_is_name) le_read_names
  have D_is_number : Callee l.prog w K mg base 1 "is_number" 1 M_is_number := callee_mk X G a22 k22 (F22.binds (ps := ["word"]) fun _ _ _ _ _ _ us hl => match us, hl with | [_], _ => rfl) rfl (ok_is_number T F22) le_is_number
  have D_read_pair : Callee l.prog w K mg base 2 "read_pair" 2 M_read_pair := callee_mk X G a23 k23 (F23.binds (ps := ["word", "line"]) fun _ _ _ _ _ _ us hl => match us, hl with | [_, _], _ => rfl) rfl (ok_read_pair T F23 D_require_form D_is_number) le_read_pair
  have D_read_link : Callee l.prog w K mg base 3 "read_link" 2 M_read_link := callee_mk X G a24 k24 (F24.binds (ps := ["words", "line"]) fun _ _ _ _ _ _ us hl => match us, hl with | [_, _], _ => rfl) rfl (ok_read_link T F24 D_require_form D_is_name D_read_pair) le_read_link
  have D_read_path : Callee l.prog w K mg base 2 "read_path" 2 M_read_path := callee_mk X G a25 k25 (F25.binds (ps := ["words", "line"]) fun _ _ _ _ _ _ us hl => match us, hl with | [_, _], _ => rfl) rfl (ok_read_path T F25 D_require_form D_is_name D_is_number) le_read_path
  have D_parse_land : Callee l.prog w K mg base 6 "parse_land" 1 M_parse_land := callee_mk X G a26 k26 (F26.binds (ps := ["text"]) fun _ _ _ _ _ _ us hl => match us, hl with | [_], _ => rfl) rfl (ok_parse_land T F26 D_read_names D_read_link D_read_path D_Land_init_Land_winds_places_links_paths) le_parse_land
  have D__law_same : Callee l.prog w K mg base 1 "_law_same" 2 M__law_same := callee_mk X G a27 k27 (F27.binds (ps := ["_law_land", "_law_due"]) fun _ _ _ _ _ _ us hl => match us, hl with | [_, _], _ => rfl) rfl (ok__law_same T F27) le__law_same
  have D_Land_link : CalleeM l.prog w K mg base 1 0 "link" 1 M_Land_link := ⟨C_Land, f28, _, _, PySem.W.mg_of X G aC_Land, ⟨pg_Land, hd_Land, po_Land, sa_Land⟩, ⟨a28, i28, k28⟩, rfl, (ok_Land_link T F28).imp (spOf_le le_Land_link), F28.binds (ps := ["self", "name"]) fun _ _ _ _ _ _ us hl => match us, hl with | [_, _], _ => rfl⟩
  have D_Land_check_place : CalleeM l.prog w K mg base 1 0 "check_place" 1 M_Land_check_place := ⟨C_Land, f29, _, _, PySem.W.mg_of X G aC_Land, ⟨pg_Land, hd_Land, po_Land, sa_Land⟩, ⟨a29, i29, k29⟩, rfl, (ok_Land_check_place T F29).imp (spOf_le le_Land_check_place), F29.binds (ps := ["self", "place"]) fun _ _ _ _ _ _ us hl => match us, hl with | [_, _], _ => rfl⟩
  have D_Land_walks_from : CalleeM l.prog w K mg base 2 0 "walks_from" 1 M_Land_walks_from := ⟨C_Land, f30, _, _, PySem.W.mg_of X G aC_Land, ⟨pg_Land, hd_Land, po_Land, sa_Land⟩, ⟨a30, i30, k30⟩, rfl, (ok_Land_walks_from T F30 D_Land_check_place).imp (spOf_le le_Land_walks_from), F30.binds (ps := ["self", "place"]) fun _ _ _ _ _ _ us hl => match us, hl with | [_, _], _ => rfl⟩
  have D_Land_minutes_between : CalleeM l.prog w K mg base 3 0 "minutes_between" 2 M_Land_minutes_between := ⟨C_Land, f31, _, _, PySem.W.mg_of X G aC_Land, ⟨pg_Land, hd_Land, po_Land, sa_Land⟩, ⟨a31, i31, k31⟩, rfl, (ok_Land_minutes_between T F31 D_Land_check_place D_Land_walks_from).imp (spOf_le le_Land_minutes_between), F31.binds (ps := ["self", "one", "other"]) fun _ _ _ _ _ _ us hl => match us, hl with | [_, _, _], _ => rfl⟩
  have D_times_words : Callee l.prog w K mg base 1 "times_words" 1 M_times_words := callee_mk X G a32 k32 (F32.binds (ps := ["times"]) fun _ _ _ _ _ _ us hl => match us, hl with | [_], _ => rfl) rfl (ok_times_words T F32) le_times_words
  have D_format_land : Callee l.prog w K mg base 2 "format_land" 1 M_format_land := callee_mk X G a33 k33 (F33.binds (ps := ["land"]) fun _ _ _ _ _ _ us hl => match us, hl with | [_], _ => rfl) rfl (ok_format_land T F33 D_times_words) le_format_land
  exact ok_law_k05 T F34 D__law_numbers D__law_parts D__law_frozen D__law_made D__law_lines D_parse_land D__law_same D_Land_link D_Land_minutes_between D_format_land
theorem walk {l : PySem.W.OpenLaw} {q : Program} {loose : List Str} {XP : (Str → Option Value) → Heap → Prop} {YP : World → Heap → Prop} {d : DefRec} {K : Params → PySem.W.Frag} (hn : l.most = some 63) (hdf : d.params.defaults = [])
    (hY : ∀ (w : World) (h : Heap), YP w h → (K w.params).In h)
    (F : ∀ (w : World) (mg : Str → Option Value) (fa : Addr) (h : Heap), (K w.params).In h → h.Ns mainGlobals mg → mg d.name = some (.ref fa) →
      ∃ fd : FuncData, (∀ (s : Shared) (u : Value), BindsTo s fd ⟨[u], []⟩ [("_law_script", u)]) ∧ ∀ base : Heap, (K w.params).In base → base.Ns mainGlobals mg → FnOk l.prog w (K w.params) mg base (L2.CX l.prog w) 7 fa fd ["_law_script"] (spOf ⟨K w.params, mg⟩ 1 (runF 12 (b_law_k05 M__law_numbers M__law_parts M__law_frozen M__law_made M__law_lines M_parse_land M__law_same M_Land_link M_Land_minutes_between M_format_land)))) :
    PySem.W.WalkO q loose XP YP l.row.toRowW d [] (fun f vs => PySem.call f vs) :=
  R.walk_R (k := 7) (x := "_law_script") hn (by decide) hdf ⟨rfl, by decide, by decide⟩ hY F law_true
end L_k05
open PySem PySem.W PyProof.Rows in
set_option maxRecDepth 100000 in
set_option maxHeartbeats 0 in
theorem PySem.Challenge.cw_everyfire_k05_whole_text_and_back_holds : PySem.Challenge.rw_everyfire_k05_whole_text_and_back.Holds := by
  w_on; o_law; k_head; (case hw => w_witness2)
  k_fill
  refine L_k05.walk (l := PySem.Challenge.rw_everyfire_k05_whole_text_and_back) rfl rfl (fun w h Y => PySem.W.kIn_of Y) ?F
  case F =>
    intro w mg fa h KX G hmg
    refine' L_k05.all_mk KX G hmg ?nC_Cut ?nC_Order ?aC_Land ?pg_Land ?hd_Land ?po_Land ?sa_Land ?nf_Land_winds ?nf_Land_places ?nf_Land_links ?nf_Land_paths ?mk_Land ?kc_Land ?aE_InvalidLand ?kE_InvalidLand ?xE_InvalidLand ?sE_InvalidLand ?tE_InvalidLand ?a0 ?l0 ?c0 ?k0 ?a1 ?l1 ?c1 ?k1 ?a2 ?l2 ?c2 ?k2 ?a3 ?l3 ?c3 ?k3 ?a4 ?l4 ?c4 ?k4 ?a5 ?l5 ?c5 ?k5 ?a6 ?l6 ?c6 ?k6 ?a7 ?l7 ?c7 ?k7 ?a8 ?l8 ?c8 ?k8 ?a9 ?l9 ?c9 ?k9 ?a10 ?l10 ?c10 ?k10 ?a11 ?l11 ?c11 ?k11 ?a12 ?i12 ?l12 ?c12 ?k12 ?a13 ?l13 ?c13 ?k13 ?a14 ?i14 ?l14 ?c14 ?k14 ?a15 ?pa15 ?pb15 ?pc15 ?l15 ?c15 ?k15 ?a16 ?i16 ?l16 ?c16 ?k16 ?a17 ?i17 ?l17 ?c17 ?k17 ?w17_links ?y17_links ?w17_paths ?y17_paths ?a18 ?l18 ?c18 ?k18 ?a19 ?l19 ?c19 ?k19 ?a20 ?l20 ?c20 ?k20 ?a21 ?l21 ?c21 ?k21 ?a22 ?l22 ?c22 ?k22 ?a23 ?l23 ?c23 ?k23 ?a24 ?l24 ?c24 ?k24 ?a25 ?l25 ?c25 ?k25 ?a26 ?l26 ?c26 ?k26 ?a27 ?l27 ?c27 ?k27 ?a28 ?i28 ?l28 ?c28 ?k28 ?a29 ?i29 ?l29 ?c29 ?k29 ?a30 ?i30 ?l30 ?c30 ?k30 ?a31 ?i31 ?l31 ?c31 ?k31 ?a32 ?l32 ?c32 ?k32 ?a33 ?l33 ?c33 ?k33 ?a34 ?l34 ?c34 ?k34 ?z_abs ?z_all ?z_enumerate ?z_int ?z_len ?z_list ?z_max ?z_min ?z_range ?z_sorted ?z_str ?z_tuple ?u_MOST_WINDS ?u_MOST_NAME_CHARS ?u_NAME_CHARS ?u_MOST_PLACES ?u_MOST_LINKS ?u_MOST_MINUTES ?u_MOST_PATHS ?u_SHUT ?u_MOST_DIGITS ?u_DIGITS
    (case nC_Cut => k_is)
    (case nC_Order => k_is)
    (case aC_Land => k_is)
    (case pg_Land => k_is)
    (case hd_Land => k_is)
    (case po_Land => k_is)
    (case sa_Land => k_is)
    (case nf_Land_winds => k_is)
    (case nf_Land_places => k_is)
    (case nf_Land_links => k_is)
    (case nf_Land_paths => k_is)
    (case mk_Land => k_is)
    (case kc_Land => k_is)
    (case aE_InvalidLand => k_is)
    (case kE_InvalidLand => k_is)
    (case xE_InvalidLand => k_exc)
    (case sE_InvalidLand => k_is)
    (case tE_InvalidLand => k_is)
    (case a0 => k_is)
    (case l0 => k_is)
    (case c0 => k_is)
    (case k0 => k_is)
    (case a1 => k_is)
    (case l1 => k_is)
    (case c1 => k_is)
    (case k1 => k_is)
    (case a2 => k_is)
    (case l2 => k_is)
    (case c2 => k_is)
    (case k2 => k_is)
    (case a3 => k_is)
    (case l3 => k_is)
    (case c3 => k_is)
    (case k3 => k_is)
    (case a4 => k_is)
    (case l4 => k_is)
    (case c4 => k_is)
    (case k4 => k_is)
    (case a5 => k_is)
    (case l5 => k_is)
    (case c5 => k_is)
    (case k5 => k_is)
    (case a6 => k_is)
    (case l6 => k_is)
    (case c6 => k_is)
    (case k6 => k_is)
    (case a7 => k_is)
    (case l7 => k_is)
    (case c7 => k_is)
    (case k7 => k_is)
    (case a8 => k_is)
    (case l8 => k_is)
    (case c8 => k_is)
    (case k8 => k_is)
    (case a9 => k_is)
    (case l9 => k_is)
    (case c9 => k_is)
    (case k9 => k_is)
    (case a10 => k_is)
    (case l10 => k_is)
    (case c10 => k_is)
    (case k10 => k_is)
    (case a11 => k_is)
    (case l11 => k_is)
    (case c11 => k_is)
    (case k11 => k_is)
    (case a12 => k_is)
    (case i12 => k_is)
    (case l12 => k_is)
    (case c12 => k_is)
    (case k12 => k_is)
    (case a13 => k_is)
    (case l13 => k_is)
    (case c13 => k_is)
    (case k13 => k_is)
    (case a14 => k_is)
    (case i14 => k_is)
    (case l14 => k_is)
    (case c14 => k_is)
    (case k14 => k_is)
    (case a15 => k_is)
    (case pa15 => k_is)
    (case pb15 => k_is)
    (case pc15 => k_is)
    (case l15 => k_is)
    (case c15 => k_is)
    (case k15 => k_is)
    (case a16 => k_is)
    (case i16 => k_is)
    (case l16 => k_is)
    (case c16 => k_is)
    (case k16 => k_is)
    (case a17 => k_is)
    (case i17 => k_is)
    (case l17 => k_is)
    (case c17 => k_is)
    (case k17 => k_is)
    (case w17_links => k_is)
    (case y17_links => k_is)
    (case w17_paths => k_is)
    (case y17_paths => k_is)
    (case a18 => k_is)
    (case l18 => k_is)
    (case c18 => k_is)
    (case k18 => k_is)
    (case a19 => k_is)
    (case l19 => k_is)
    (case c19 => k_is)
    (case k19 => k_is)
    (case a20 => k_is)
    (case l20 => k_is)
    (case c20 => k_is)
    (case k20 => k_is)
    (case a21 => k_is)
    (case l21 => k_is)
    (case c21 => k_is)
    (case k21 => k_is)
    (case a22 => k_is)
    (case l22 => k_is)
    (case c22 => k_is)
    (case k22 => k_is)
    (case a23 => k_is)
    (case l23 => k_is)
    (case c23 => k_is)
    (case k23 => k_is)
    (case a24 => k_is)
    (case l24 => k_is)
    (case c24 => k_is)
    (case k24 => k_is)
    (case a25 => k_is)
    (case l25 => k_is)
    (case c25 => k_is)
    (case k25 => k_is)
    (case a26 => k_is)
    (case l26 => k_is)
    (case c26 => k_is)
    (case k26 => k_is)
    (case a27 => k_is)
    (case l27 => k_is)
    (case c27 => k_is)
    (case k27 => k_is)
    (case a28 => k_is)
    (case i28 => k_is)
    (case l28 => k_is)
    (case c28 => k_is)
    (case k28 => k_is)
    (case a29 => k_is)
    (case i29 => k_is)
    (case l29 => k_is)
    (case c29 => k_is)
    (case k29 => k_is)
    (case a30 => k_is)
    (case i30 => k_is)
    (case l30 => k_is)
    (case c30 => k_is)
    (case k30 => k_is)
    (case a31 => k_is)
    (case i31 => k_is)
    (case l31 => k_is)
    (case c31 => k_is)
    (case k31 => k_is)
    (case a32 => k_is)
    (case l32 => k_is)
    (case c32 => k_is)
    (case k32 => k_is)
    (case a33 => k_is)
    (case l33 => k_is)
    (case c33 => k_is)
    (case k33 => k_is)
    (case a34 => k_is)
    (case l34 => k_is)
    (case c34 => k_is)
    (case k34 => k_is)
    (case z_abs => k_is)
    (case z_all => k_is)
    (case z_enumerate => k_is)
    (case z_int => k_is)
    (case z_len => k_is)
    (case z_list => k_is)
    (case z_max => k_is)
    (case z_min => k_is)
    (case z_range => k_is)
    (case z_sorted => k_is)
    (case z_str => k_is)
    (case z_tuple => k_is)
    (case u_MOST_WINDS => k_is)
    (case u_MOST_NAME_CHARS => k_is)
    (case u_NAME_CHARS => k_is)
    (case u_MOST_PLACES => k_is)
    (case u_MOST_LINKS => k_is)
    (case u_MOST_MINUTES => k_is)
    (case u_MOST_PATHS => k_is)
    (case u_SHUT => k_is)
    (case u_MOST_DIGITS => k_is)
    (case u_DIGITS => k_is)
#print axioms PySem.Challenge.cw_everyfire_k05_whole_text_and_back_holds
